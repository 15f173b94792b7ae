import PyProof.Rows.All
import Wide.All
import OpenK.AllK
import Wide.FinOn
import HandS.ForMost
import HandS.Zip
import HandS.TupAny
import HandS.Star
import HandS.IsInst
import HandS.SortInts
import HandS.TupLe
import HandS.TupMul
import KE.GoesEnum
import HandS.Flow
import HandS.Style
import HandS.DictComp
import HandS.Conv
import HandS.SortRule
import KE.DataMinMax
import KE.KTupSum
import HandS.Lambda
import HandS.ExcInit
import HandS.ExcSuper
import HandS.Nested
import KE.KExcSuper
import HandS.ExcIs
import HandS.ExcField
import HandS.WordsExc
import KE.KExcIs
import HandS.EndTab
import HandS.Defaults
import KE.KNestM
import PySem.Challenge.RW_silentbeats_k19_whole_heaps_of_any_sign
set_option Elab.async false
set_option linter.all false
set_option maxRecDepth 100000
set_option maxHeartbeats 4000000
/-! The evaluation layer of this proof: data without lists, what expressions come to, statements by slots. -/
namespace SB
open PySem L2
/-- data of numbers, truth values, texts and tuples, as it lies in a heap -/
inductive Dt (H : Hp) : V → PyData → Prop
  | non : Dt H .non .none
  | bl (b : Bool) : Dt H (.bl b) (.bool b)
  | int (i : Int) : Dt H (.int i) (.int i)
  | str (x : Str) : Dt H (.str x) (.str x)
  | tup {a : Addr} {xs : List V} {ds : List PyData} : H a = some (.tup xs) → Paired (Dt H) xs ds → Dt H (.ref a) (.tuple ds)
abbrev DtA (H : Hp) : List V → List PyData → Prop := Paired (Dt H)
/-- tuples stand, lists stay readable -/
structure Kp (K : PySem.W.Frag) (H H' : Hp) : Prop where
  tup : ∀ a xs, H a = some (.tup xs) → H' a = some (.tup xs)
  lst : ∀ a xs, SqL K H a xs → SqL K H' a xs
theorem Kp.refl {K : PySem.W.Frag} (H : Hp) : Kp K H H := ⟨fun _ _ h => h, fun _ _ h => h⟩
theorem Kp.trans {K : PySem.W.Frag} {A B C : Hp} (a : Kp K A B) (b : Kp K B C) : Kp K A C := ⟨fun x y h => b.tup x y (a.tup x y h), fun x y h => b.lst x y (a.lst x y h)⟩
theorem Same.kp {K : PySem.W.Frag} {H H' : Hp} (e : Same H H') : Kp K H H' := ⟨fun _ _ h => e _ _ h, fun _ _ h => e.seq h⟩
mutual
theorem Dt.mono {H H' : Hp} (t : ∀ a xs, H a = some (.tup xs) → H' a = some (.tup xs)) : ∀ {d : PyData} {v : V}, Dt H v d → Dt H' v d
  | .none, _, h => by cases h; exact .non
  | .bool _, _, h => by cases h; exact .bl _
  | .int _, _, h => by cases h; exact .int _
  | .str _, _, h => by cases h; exact .str _
  | .list _, _, h => by cases h
  | .dict _, _, h => by cases h
  | .tuple ds, _, h => by
    cases h with
    | tup e r => exact .tup (t _ _ e) (DtA.monoA t r)
theorem DtA.monoA {H H' : Hp} (t : ∀ a xs, H a = some (.tup xs) → H' a = some (.tup xs)) : ∀ {ds : List PyData} {vs : List V}, DtA H vs ds → DtA H' vs ds
  | [], _, h => by cases h; exact .nil
  | d :: ds, _, h => by
    cases h with
    | cons a b => exact .cons (Dt.mono t a) (DtA.monoA t b)
end
theorem Dt.kp {K : PySem.W.Frag} {H H' : Hp} (e : Kp K H H') {d : PyData} {v : V} (h : Dt H v d) : Dt H' v d := h.mono e.tup
theorem DtA.kp {K : PySem.W.Frag} {H H' : Hp} (e : Kp K H H') {d : List PyData} {v : List V} (h : DtA H v d) : DtA H' v d := DtA.monoA e.tup h
theorem Dt.same {H H' : Hp} (e : Same H H') {d : PyData} {v : V} (h : Dt H v d) : Dt H' v d := h.mono fun _ _ q => e _ _ q
theorem DtA.same {H H' : Hp} (e : Same H H') {d : List PyData} {v : List V} (h : DtA H v d) : DtA H' v d := DtA.monoA (fun _ _ q => e _ _ q) h
mutual
theorem Dt.dp {K : PySem.W.Frag} {H : Hp} : ∀ {d : PyData} {v : V}, Dt H v d → Dp K H v d
  | .none, _, h => by cases h; exact .non
  | .bool _, _, h => by cases h; exact .bl _
  | .int _, _, h => by cases h; exact .int _
  | .str _, _, h => by cases h; exact .str _
  | .list _, _, h => by cases h
  | .dict _, _, h => by cases h
  | .tuple ds, _, h => by
    cases h with
    | tup e r => exact .tup (SqT.of e) (DtA.dpA r)
theorem DtA.dpA {K : PySem.W.Frag} {H : Hp} : ∀ {ds : List PyData} {vs : List V}, DtA H vs ds → DpAll K H vs ds
  | [], _, h => by cases h; exact .nil
  | d :: ds, _, h => by
    cases h with
    | cons a b => exact .cons a.dp (DtA.dpA b)
end
theorem Dt.int' {H : Hp} {v : V} {i : Int} (h : Dt H v (.int i)) : v = .int i := by cases h; rfl
theorem Dt.bl' {H : Hp} {v : V} {b : Bool} (h : Dt H v (.bool b)) : v = .bl b := by cases h; rfl
theorem Dt.str' {H : Hp} {v : V} {x : Str} (h : Dt H v (.str x)) : v = .str x := by cases h; rfl
theorem Dt.non' {H : Hp} {v : V} (h : Dt H v .none) : v = .non := by cases h; rfl
theorem Dt.tup' {H : Hp} {v : V} {ds : List PyData} (h : Dt H v (.tuple ds)) : ∃ a xs, v = .ref a ∧ H a = some (.tup xs) ∧ DtA H xs ds := by
  cases h with
  | tup e r => exact ⟨_, _, rfl, e, r⟩
theorem DtA.len {H : Hp} {xs : List V} {ds : List PyData} (h : DtA H xs ds) : xs.length = ds.length := Paired.length h
theorem DtA.at {H : Hp} : ∀ {xs : List V} {ds : List PyData} {i : Nat} {x : V}, DtA H xs ds → xs[i]? = some x → ∃ d, ds[i]? = some d ∧ Dt H x d
  | _, _, _, _, .nil, e => by simp at e
  | _, _, 0, _, .cons r _, e => by simp at e; subst e; exact ⟨_, rfl, r⟩
  | _, _, i + 1, x, .cons _ t, e => by
    obtain ⟨u, h1, h2⟩ := DtA.at (i := i) (x := x) t (by simpa using e)
    exact ⟨u, by simpa using h1, h2⟩
theorem DtA.at' {H : Hp} : ∀ {xs : List V} {ds : List PyData} {i : Nat} {d : PyData}, DtA H xs ds → ds[i]? = some d → ∃ x, xs[i]? = some x ∧ Dt H x d
  | _, _, _, _, .nil, e => by simp at e
  | _, _, 0, _, .cons r _, e => by simp at e; subst e; exact ⟨_, rfl, r⟩
  | _, _, i + 1, x, .cons _ t, e => by
    obtain ⟨u, h1, h2⟩ := DtA.at' (i := i) t (by simpa using e)
    exact ⟨u, by simpa using h1, h2⟩
theorem DtA.app {H : Hp} : ∀ {xs ys : List V} {ds es : List PyData}, DtA H xs ds → DtA H ys es → DtA H (xs ++ ys) (ds ++ es)
  | _, _, _, _, .nil, s => s
  | _, _, _, _, .cons r t, s => .cons r (DtA.app t s)
theorem DtA.one {H : Hp} {x : V} {d : PyData} (h : Dt H x d) : DtA H [x] [d] := .cons h .nil
theorem DtA.ints {H : Hp} : ∀ {ns : List Int} {xs : List V}, DtA H xs (ns.map .int) → xs = ns.map V.int
  | [], _, h => by cases h; rfl
  | n :: ns, _, h => by
    cases h with
    | cons a b =>
      rw [a.int', DtA.ints b]
      rfl
theorem DtA.ofInts {H : Hp} : ∀ ns : List Int, DtA H (ns.map V.int) (ns.map .int)
  | [] => .nil
  | n :: ns => .cons (.int n) (DtA.ofInts ns)
theorem DtA.bools {H : Hp} : ∀ {ns : List Bool} {xs : List V}, DtA H xs (ns.map .bool) → xs = ns.map V.bl
  | [], _, h => by cases h; rfl
  | n :: ns, _, h => by
    cases h with
    | cons a b =>
      rw [a.bl', DtA.bools b]
      rfl
theorem DtA.ofBools {H : Hp} : ∀ ns : List Bool, DtA H (ns.map V.bl) (ns.map .bool)
  | [] => .nil
  | n :: ns => .cons (.bl n) (DtA.ofBools ns)
/-- a tuple of ints -/
abbrev tI (ns : List Int) : PyData := .tuple (ns.map .int)
theorem Dt.tI {H : Hp} {v : V} {ns : List Int} (h : Dt H v (SB.tI ns)) : ∃ a, v = .ref a ∧ H a = some (.tup (ns.map V.int)) := by
  obtain ⟨a, xs, e, h1, r⟩ := h.tup'
  rw [DtA.ints r] at h1
  exact ⟨a, e, h1⟩
theorem Dt.ofI {H : Hp} {a : Addr} {ns : List Int} (h : H a = some (.tup (ns.map V.int))) : Dt H (.ref a) (SB.tI ns) := .tup h (DtA.ofInts ns)
/-- a list that may be read, by its data -/
def RdL (K : PySem.W.Frag) (H : Hp) (a : Addr) (ds : List PyData) : Prop := ∃ xs, SqL K H a xs ∧ DtA H xs ds
theorem RdL.kp {K : PySem.W.Frag} {H H' : Hp} {a : Addr} {ds : List PyData} (e : Kp K H H') (h : RdL K H a ds) : RdL K H' a ds := let ⟨xs, h1, h2⟩ := h; ⟨xs, e.lst _ _ h1, h2.kp e⟩
theorem RdL.same {K : PySem.W.Frag} {H H' : Hp} {a : Addr} {ds : List PyData} (e : Same H H') (h : RdL K H a ds) : RdL K H' a ds := h.kp (Same.kp e)
theorem RdL.ofI {K : PySem.W.Frag} {H : Hp} {a : Addr} {ns : List Int} (h : SqL K H a (ns.map V.int)) : RdL K H a (ns.map .int) := ⟨_, h, DtA.ofInts ns⟩
theorem RdL.ints {K : PySem.W.Frag} {H : Hp} {a : Addr} {ns : List Int} (h : RdL K H a (ns.map .int)) : SqL K H a (ns.map V.int) := by
  obtain ⟨xs, h1, h2⟩ := h
  rw [DtA.ints h2] at h1
  exact h1
theorem fresh_back {H H' : Hp} {p : Addr} (e : Same H H') (h : H' p = none) : H p = none := e.free h
theorem Same.new {H : Hp} {p : Addr} {o : HO} (h : H p = none) : Same H (upd H p o) := fun a u e => by
  rw [upd_ne (ne_of_none e h)]
  exact e
/-- an object that H0 does not know may change -/
theorem Same.mut {H0 H : Hp} {p : Addr} {o : HO} (e : Same H0 H) (h : H0 p = none) : Same H0 (upd H p o) := fun a u ha => by
  rw [upd_ne (ne_of_none ha h)]
  exact e a u ha
/-! ### the slots -/
/-- what is known of a slot: nothing; data; a list by its data; an address -/
inductive Sd | un | dat (d : PyData) | lst (ds : List PyData) | ref (a : Addr)
def SdOk (K : PySem.W.Frag) (H : Hp) (o : Option V) : Sd → Prop
  | .un => True
  | .dat d => ∃ v, o = some v ∧ Dt H v d
  | .lst ds => ∃ a, o = some (.ref a) ∧ RdL K H a ds
  | .ref a => o = some (.ref a)
theorem SdOk.kp {K : PySem.W.Frag} {H H' : Hp} (e : Kp K H H') {o : Option V} : ∀ {x : Sd}, SdOk K H o x → SdOk K H' o x
  | .un, _ => True.intro
  | .dat _, ⟨v, h1, h2⟩ => ⟨v, h1, h2.kp e⟩
  | .lst _, ⟨a, h1, h2⟩ => ⟨a, h1, h2.kp e⟩
  | .ref _, h => h
/-- the slots σ in the heap H are as ρ says -/
structure Sl (K : PySem.W.Frag) (σ : L2.St) (H : Hp) (ρ : List Sd) : Prop where
  len : σ.length = ρ.length
  get : ∀ (i : Nat) (o : Option V) (x : Sd), σ[i]? = some o → ρ[i]? = some x → SdOk K H o x
section
variable {K : PySem.W.Frag} {σ σ' : L2.St} {H H' : Hp} {ρ : List Sd}
theorem Sl.kp (e : Kp K H H') (s : Sl K σ H ρ) : Sl K σ H' ρ := ⟨s.len, fun i o x a b => (s.get i o x a b).kp e⟩
theorem Sl.same (e : Same H H') (s : Sl K σ H ρ) : Sl K σ H' ρ := s.kp (Same.kp e)
theorem Sl.at (s : Sl K σ H ρ) {i : Nat} {x : Sd} (h : ρ[i]? = some x) : ∃ o, σ[i]? = some o ∧ SdOk K H o x := by
  obtain ⟨hi, _⟩ := List.getElem?_eq_some_iff.mp h
  have hs : i < σ.length := by rw [s.len]; exact hi
  exact ⟨σ[i], List.getElem?_eq_getElem hs, s.get i _ x (List.getElem?_eq_getElem hs) h⟩
theorem Sl.dat (s : Sl K σ H ρ) {i : Nat} {d : PyData} (h : ρ[i]? = some (.dat d)) : ∃ v, σ[i]? = some (some v) ∧ Dt H v d := by
  obtain ⟨o, e, v, e2, q⟩ := s.at h
  exact ⟨v, by rw [e, e2], q⟩
theorem Sl.lst (s : Sl K σ H ρ) {i : Nat} {ds : List PyData} (h : ρ[i]? = some (.lst ds)) : ∃ a, σ[i]? = some (some (.ref a)) ∧ RdL K H a ds := by
  obtain ⟨o, e, v, e2, q⟩ := s.at h
  exact ⟨v, by rw [e, e2], q⟩
theorem Sl.ref (s : Sl K σ H ρ) {i : Nat} {a : Addr} (h : ρ[i]? = some (.ref a)) : σ[i]? = some (some (.ref a)) := by
  obtain ⟨o, e, e2⟩ := s.at h
  rw [e, show o = some (V.ref a) from e2]
theorem Sl.set (s : Sl K σ H ρ) (i : Nat) {o : Option V} {x : Sd} (h : SdOk K H o x) : Sl K (σ.set i o) H (ρ.set i x) := by
  refine ⟨by simp [s.len], fun j q y h1 h2 => ?_⟩
  by_cases hj : i = j
  · subst hj
    by_cases hl : i < σ.length
    · rw [List.getElem?_set_self hl] at h1
      rw [List.getElem?_set_self (by rw [← s.len]; exact hl)] at h2
      cases h1
      cases h2
      exact h
    · rw [List.getElem?_eq_none (by simpa using hl)] at h1
      cases h1
  · rw [List.getElem?_set_ne hj] at h1 h2
    exact s.get j q y h1 h2
theorem Sl.setD (s : Sl K σ H ρ) (i : Nat) {v : V} {d : PyData} (h : Dt H v d) : Sl K (σ.set i (some v)) H (ρ.set i (.dat d)) := s.set i ⟨v, rfl, h⟩
theorem Sl.setR (s : Sl K σ H ρ) (i : Nat) (a : Addr) : Sl K (σ.set i (some (.ref a))) H (ρ.set i (.ref a)) := s.set i rfl
theorem Sl.setL (s : Sl K σ H ρ) (i : Nat) {a : Addr} {ds : List PyData} (h : RdL K H a ds) : Sl K (σ.set i (some (.ref a))) H (ρ.set i (.lst ds)) := s.set i ⟨a, rfl, h⟩
def wipeS (ρ : List Sd) : List Nat → List Sd
  | [] => ρ
  | v :: vs => (wipeS ρ vs).set v .un
theorem Sl.wipe (s : Sl K σ H ρ) : ∀ vs, Sl K (wipe σ vs) H (wipeS ρ vs)
  | [] => s
  | v :: vs => (Sl.wipe s vs).set v (x := .un) True.intro
/-- weaker knowledge -/
theorem Sl.weak (s : Sl K σ H ρ) (i : Nat) : Sl K σ H (ρ.set i .un) := by
  refine ⟨by simp [s.len], fun j q y h1 h2 => ?_⟩
  by_cases hj : i = j
  · subst hj
    by_cases hl : i < ρ.length
    · rw [List.getElem?_set_self hl] at h2
      cases h2
      exact True.intro
    · rw [List.getElem?_eq_none (by simpa using hl)] at h2
      cases h2
  · rw [List.getElem?_set_ne hj] at h2
    exact s.get j q y h1 h2
end
/-- no list among the slots -/
def Sd.nl : Sd → Bool
  | .lst _ => false
  | _ => true
theorem Sl.tups {K : PySem.W.Frag} {σ : L2.St} {H H' : Hp} {ρ : List Sd} (s : Sl K σ H ρ) (t : ∀ a xs, H a = some (.tup xs) → H' a = some (.tup xs)) (h : ρ.all Sd.nl = true := by rfl) : Sl K σ H' ρ := by
  refine ⟨s.len, fun i o x a b => ?_⟩
  have q := s.get i o x a b
  cases x with
  | un => exact True.intro
  | dat d => obtain ⟨v, h1, h2⟩ := q; exact ⟨v, h1, h2.mono t⟩
  | ref a => exact q
  | lst ds =>
    have := List.all_eq_true.mp h _ (List.mem_of_getElem? b)
    cases this
theorem tups_upd {H : Hp} {p : Addr} {o u : HO} (hp : H p = some o) (ho : ∀ xs, o ≠ .tup xs) : ∀ a xs, H a = some (.tup xs) → upd H p u a = some (.tup xs) := fun a xs e => by
  rw [upd_ne]
  · exact e
  · intro z
    rw [z, hp] at e
    exact ho xs (Option.some.inj e)
theorem tups_lst {H : Hp} {p : Addr} {l : List V} {u : HO} (hp : H p = some (.lst l)) : ∀ a xs, H a = some (.tup xs) → upd H p u a = some (.tup xs) := tups_upd hp fun _ z => by cases z
theorem tups_dT {H : Hp} {p : Addr} {l : List (List Key × V)} {u : HO} (hp : H p = some (.dT l)) : ∀ a xs, H a = some (.tup xs) → upd H p u a = some (.tup xs) := tups_upd hp fun _ z => by cases z
theorem tups_dK {H : Hp} {p : Addr} {l : List (Key × V)} {u : HO} (hp : H p = some (.dK l)) : ∀ a xs, H a = some (.tup xs) → upd H p u a = some (.tup xs) := tups_upd hp fun _ z => by cases z
/-- the start of a def's body -/
theorem Sl.start {K : PySem.W.Frag} {H : Hp} {N : List Str} {vs : List V} {xs : List Sd} (hl : vs.length = xs.length) (h : ∀ (i : Nat) (v : V) (x : Sd), vs[i]? = some v → xs[i]? = some x → SdOk K H (some v) x) : Sl K (L2.start N vs) H (xs ++ List.replicate (N.length - xs.length) .un) := by
  refine ⟨by simp [L2.start, hl], fun i o x h1 h2 => ?_⟩
  unfold L2.start at h1
  by_cases hi : i < vs.length
  · rw [List.getElem?_append_left (by simpa using hi)] at h1
    rw [List.getElem?_append_left (by rw [← hl]; exact hi)] at h2
    rw [List.getElem?_map] at h1
    cases e : vs[i]? with
    | none => rw [e] at h1; cases h1
    | some v =>
      rw [e] at h1
      cases h1
      exact h i v x e h2
  · rw [List.getElem?_append_right (by rw [← hl]; omega)] at h2
    rw [List.getElem?_replicate] at h2
    split at h2
    · cases h2
      exact True.intro
    · cases h2
/-- .. from data arguments alone -/
theorem Sl.startD {K : PySem.W.Frag} {H : Hp} {N : List Str} {vs : List V} {ds : List PyData} (h : DtA H vs ds) : Sl K (L2.start N vs) H (ds.map .dat ++ List.replicate (N.length - ds.length) .un) := by
  have := Sl.start (K := K) (H := H) (N := N) (vs := vs) (xs := ds.map .dat) (by rw [h.len, List.length_map]) (fun i v x h1 h2 => by
    obtain ⟨d, e, q⟩ := DtA.at h h1
    rw [List.getElem?_map, e] at h2
    cases h2
    exact ⟨v, rfl, q⟩)
  rw [List.length_map] at this
  exact this
/-! ### what expressions come to -/
def EvD (te : TE) (σ : L2.St) (H : Hp) (d : PyData) : Prop := ∀ H1, Same H H1 → ∀ Q : VK, (∀ v H2, Same H1 H2 → Dt H2 v d → Q v H2) → te σ H1 Q
def EvX (te : TE) (σ : L2.St) (H : Hp) (x : V) : Prop := ∀ H1, Same H H1 → ∀ Q : VK, (∀ H2, Same H1 H2 → Q x H2) → te σ H1 Q
def EvT (tt : TT) (σ : L2.St) (H : Hp) (b : Bool) : Prop := ∀ H1, Same H H1 → ∀ Q : Bool → Hp → Prop, (∀ H2, Same H1 H2 → Q b H2) → tt σ H1 Q
def EvA (ta : TA) (σ : L2.St) (H : Hp) (ds : List PyData) : Prop := ∀ H1, Same H H1 → ∀ Q : List V → Hp → Prop, (∀ vs H2, Same H1 H2 → DtA H2 vs ds → Q vs H2) → ta σ H1 Q
/-- a new list -/
def EvL (te : TE) (σ : L2.St) (H : Hp) (ds : List PyData) : Prop := ∀ H1, Same H H1 → ∀ Q : VK, (∀ p vs H2, H1 p = none → Same H1 H2 → H2 p = some (.lst vs) → DtA H2 vs ds → Q (.ref p) H2) → te σ H1 Q
/-- a list that may be read -/
def EvR (K : PySem.W.Frag) (te : TE) (σ : L2.St) (H : Hp) (ds : List PyData) : Prop := ∀ H1, Same H H1 → ∀ Q : VK, (∀ p H2, Same H1 H2 → RdL K H2 p ds → Q (.ref p) H2) → te σ H1 Q
def EvO (to : TO) (σ : L2.St) (H : Hp) (o : Option Int) : Prop := ∀ H1, Same H H1 → ∀ Q : Option Int → Hp → Prop, (∀ H2, Same H1 H2 → Q o H2) → to σ H1 Q
section
variable {K : PySem.W.Frag} {σ : L2.St} {H H' : Hp} {ρ : List Sd} {ta tb te tx : TE} {t u : TT} {d e : PyData} {i j : Int} {b c : Bool} {ds es : List PyData} {tr : TA}
theorem EvD.mono (a : Same H H') (h : EvD te σ H d) : EvD te σ H' d := fun H1 e => h H1 (a.trans e)
theorem EvT.mono (a : Same H H') (h : EvT t σ H b) : EvT t σ H' b := fun H1 e => h H1 (a.trans e)
theorem EvL.mono (a : Same H H') (h : EvL te σ H ds) : EvL te σ H' ds := fun H1 e => h H1 (a.trans e)
theorem EvR.mono (a : Same H H') (h : EvR K te σ H ds) : EvR K te σ H' ds := fun H1 e => h H1 (a.trans e)
theorem EvL.r (h : EvL te σ H ds) : EvR K te σ H ds := fun H1 e Q q => h H1 e Q fun p vs H2 _ e2 h2 r => q p H2 e2 ⟨vs, SqL.of h2, r⟩
theorem EvD.to (h : EvD te σ H d) (x : d = e) : EvD te σ H e := x ▸ h
theorem EvT.to (h : EvT t σ H b) (x : b = c) : EvT t σ H c := x ▸ h
theorem EvL.to (h : EvL te σ H ds) (x : ds = es) : EvL te σ H es := x ▸ h
theorem EvR.to (h : EvR K te σ H ds) (x : ds = es) : EvR K te σ H es := x ▸ h
theorem ev_var (s : Sl K σ H ρ) {k : Nat} (h : ρ[k]? = some (.dat d)) : EvD (tVar k) σ H d := fun H1 a Q q => by
  obtain ⟨v, e, r⟩ := s.dat h
  exact ⟨v, e, q v H1 (Same.refl H1) (r.same a)⟩
theorem ev_ref (s : Sl K σ H ρ) {k : Nat} {p : Addr} (h : ρ[k]? = some (.ref p)) : EvX (tVar k) σ H (.ref p) := fun H1 a Q q => ⟨_, s.ref h, q H1 (Same.refl H1)⟩
theorem ev_lst (s : Sl K σ H ρ) {k : Nat} (h : ρ[k]? = some (.lst ds)) : EvR K (tVar k) σ H ds := fun H1 a Q q => by
  obtain ⟨v, e, r⟩ := s.lst h
  exact ⟨_, e, q v H1 (Same.refl H1) (r.same a)⟩
theorem EvX.r {p : Addr} (h : EvX te σ H (.ref p)) (r : RdL K H p ds) : EvR K te σ H ds := fun H1 a Q q => h H1 a Q fun H2 a2 => q p H2 a2 (r.same (a.trans a2))
theorem ev_int : EvD (tC (.int i)) σ H (.int i) := fun H1 _ _ q => q _ H1 (Same.refl H1) (.int i)
theorem ev_bl : EvD (tC (.bl b)) σ H (.bool b) := fun H1 _ _ q => q _ H1 (Same.refl H1) (.bl b)
theorem ev_str {x : Str} : EvD (tC (.str x)) σ H (.str x) := fun H1 _ _ q => q _ H1 (Same.refl H1) (.str x)
theorem ev_non : EvD (tC .non) σ H .none := fun H1 _ _ q => q _ H1 (Same.refl H1) .non
/-- two ints -/
theorem ev_I0 {g : Int → Int → V} {z : PyData} (ha : EvD ta σ H (.int i)) (hb : EvD tb σ H (.int j)) (hz : ∀ H, Dt H (g i j) z) : EvD (tOp (rI0 g) ta tb) σ H z := fun H1 a Q q =>
  ha H1 a _ fun v H2 a2 r => hb H2 (a.trans a2) _ fun w H3 a3 r3 => ⟨i, j, r.int', r3.int', q _ H3 (a2.trans a3) (hz H3)⟩
theorem ev_I {C : Int → Int → Prop} {g : Int → Int → V} {z : PyData} (ha : EvD ta σ H (.int i)) (hb : EvD tb σ H (.int j)) (hC : C i j) (hz : ∀ H, Dt H (g i j) z) : EvD (tOp (rI C g) ta tb) σ H z := fun H1 a Q q =>
  ha H1 a _ fun v H2 a2 r => hb H2 (a.trans a2) _ fun w H3 a3 r3 => ⟨i, j, r.int', r3.int', hC, q _ H3 (a2.trans a3) (hz H3)⟩
theorem ev_add (ha : EvD ta σ H (.int i)) (hb : EvD tb σ H (.int j)) : EvD (tOp (rI0 fun i j => .int (i + j)) ta tb) σ H (.int (i + j)) := ev_I0 ha hb fun _ => .int _
theorem ev_sub (ha : EvD ta σ H (.int i)) (hb : EvD tb σ H (.int j)) : EvD (tOp (rI0 fun i j => .int (i - j)) ta tb) σ H (.int (i - j)) := ev_I0 ha hb fun _ => .int _
theorem ev_mul (ha : EvD ta σ H (.int i)) (hb : EvD tb σ H (.int j)) (hC : CMul i j) : EvD (tOp (rI CMul fun i j => .int (i * j)) ta tb) σ H (.int (i * j)) := ev_I ha hb hC fun _ => .int _
theorem ev_mod (ha : EvD ta σ H (.int i)) (hb : EvD tb σ H (.int j)) (hC : 0 < j) : EvD (tOp (rI (fun _ j => 0 < j) fun i j => .int (i % j)) ta tb) σ H (.int (i % j)) := ev_I ha hb hC fun _ => .int _
theorem ev_div (ha : EvD ta σ H (.int i)) (hb : EvD tb σ H (.int j)) (hC : CDiv i j) : EvD (tOp (rI CDiv fun i j => .int (i / j)) ta tb) σ H (.int (i / j)) := ev_I ha hb hC fun _ => .int _
theorem ev_pow (ha : EvD ta σ H (.int i)) (hb : EvD tb σ H (.int j)) (hC : CPow i j) : EvD (tOp (rI CPow fun i j => .int (i ^ j.toNat)) ta tb) σ H (.int (i ^ j.toNat)) := ev_I ha hb hC fun _ => .int _
theorem ev_lt (ha : EvD ta σ H (.int i)) (hb : EvD tb σ H (.int j)) : EvD (tOp (rI0 fun i j => .bl (decide (i < j))) ta tb) σ H (.bool (decide (i < j))) := ev_I0 ha hb fun _ => .bl _
theorem ev_le (ha : EvD ta σ H (.int i)) (hb : EvD tb σ H (.int j)) : EvD (tOp (rI0 fun i j => .bl (decide (i ≤ j))) ta tb) σ H (.bool (decide (i ≤ j))) := ev_I0 ha hb fun _ => .bl _
theorem ev_gt (ha : EvD ta σ H (.int i)) (hb : EvD tb σ H (.int j)) : EvD (tOp (rI0 fun i j => .bl (decide (j < i))) ta tb) σ H (.bool (decide (j < i))) := ev_I0 ha hb fun _ => .bl _
theorem ev_ge (ha : EvD ta σ H (.int i)) (hb : EvD tb σ H (.int j)) : EvD (tOp (rI0 fun i j => .bl (decide (j ≤ i))) ta tb) σ H (.bool (decide (j ≤ i))) := ev_I0 ha hb fun _ => .bl _
theorem ev_eq (ha : EvD ta σ H (.int i)) (hb : EvD tb σ H (.int j)) : EvD (tOp rEq ta tb) σ H (.bool (decide (i = j))) := fun H1 a Q q =>
  ha H1 a _ fun v H2 a2 r => hb H2 (a.trans a2) _ fun w H3 a3 r3 => by
    rw [r.int', r3.int']
    refine ⟨rfl, ?_⟩
    have e : decide (V.int i = V.int j) = decide (i = j) := by
      by_cases h : i = j
      · subst h; simp
      · have h2 : ¬ V.int i = V.int j := fun q => h (V.int.inj q)
        rw [decide_eq_false h, decide_eq_false h2]
    rw [e]
    exact q _ H3 (a2.trans a3) (.bl _)
theorem ev_ne (ha : EvD ta σ H (.int i)) (hb : EvD tb σ H (.int j)) : EvD (tOp rNe ta tb) σ H (.bool (!decide (i = j))) := fun H1 a Q q =>
  ha H1 a _ fun v H2 a2 r => hb H2 (a.trans a2) _ fun w H3 a3 r3 => by
    rw [r.int', r3.int']
    refine ⟨rfl, ?_⟩
    have e : decide (V.int i = V.int j) = decide (i = j) := by
      by_cases h : i = j
      · subst h; simp
      · have h2 : ¬ V.int i = V.int j := fun q => h (V.int.inj q)
        rw [decide_eq_false h, decide_eq_false h2]
    rw [e]
    exact q _ H3 (a2.trans a3) (.bl _)
theorem ev_neg (ha : EvD ta σ H (.int i)) : EvD (tUn (rU fun i => .int (-i)) ta) σ H (.int (-i)) := fun H1 a Q q =>
  ha H1 a _ fun v H2 a2 r => ⟨i, r.int', q _ H2 a2 (.int _)⟩
/-- == and != of data -/
theorem ev_eqD (ha : EvD ta σ H d) (hb : EvD tb σ H e) (h1 : SeqAt.shaped d = true) (h2 : SeqAt.shaped e = true) : EvD (tOp (rEqD K) ta tb) σ H (.bool (PyData.eqv d e)) := fun H1 a Q q =>
  ha H1 a _ fun v H2 a2 r => hb H2 (a.trans a2) _ fun w H3 a3 r3 => ⟨d, e, (r.same a3).dp, r3.dp, h1, h2, q _ H3 (a2.trans a3) (.bl _)⟩
theorem ev_neD (ha : EvD ta σ H d) (hb : EvD tb σ H e) (h1 : SeqAt.shaped d = true) (h2 : SeqAt.shaped e = true) : EvD (tOp (rNeD K) ta tb) σ H (.bool (!PyData.eqv d e)) := fun H1 a Q q =>
  ha H1 a _ fun v H2 a2 r => hb H2 (a.trans a2) _ fun w H3 a3 r3 => ⟨d, e, (r.same a3).dp, r3.dp, h1, h2, q _ H3 (a2.trans a3) (.bl _)⟩
/-- .. of lists -/
theorem RdL.dp {p : Addr} (h : RdL K H p ds) : Dp K H (.ref p) (.list ds) := let ⟨_, h1, h2⟩ := h; .lst h1 h2.dpA
theorem ev_eqL (ha : EvR K ta σ H ds) (hb : EvR K tb σ H es) (h1 : SeqAt.shaped (.list ds) = true) (h2 : SeqAt.shaped (.list es) = true) : EvD (tOp (rEqD K) ta tb) σ H (.bool (PyData.eqv (.list ds) (.list es))) := fun H1 a Q q =>
  ha H1 a _ fun v H2 a2 r => hb H2 (a.trans a2) _ fun w H3 a3 r3 => ⟨.list ds, .list es, (r.same a3).dp, r3.dp, h1, h2, q _ H3 (a2.trans a3) (.bl _)⟩
theorem ev_neL (ha : EvR K ta σ H ds) (hb : EvR K tb σ H es) (h1 : SeqAt.shaped (.list ds) = true) (h2 : SeqAt.shaped (.list es) = true) : EvD (tOp (rNeD K) ta tb) σ H (.bool (!PyData.eqv (.list ds) (.list es))) := fun H1 a Q q =>
  ha H1 a _ fun v H2 a2 r => hb H2 (a.trans a2) _ fun w H3 a3 r3 => ⟨.list ds, .list es, (r.same a3).dp, r3.dp, h1, h2, q _ H3 (a2.trans a3) (.bl _)⟩
/-- truth values -/
theorem ev_and (ha : EvD ta σ H (.bool b)) (hb : b = true → EvD tb σ H (.bool c)) : EvD (tAndV ta tb) σ H (.bool (b && c)) := fun H1 a Q q =>
  ha H1 a _ fun v H2 a2 r => ⟨b, r.bl', by
    cases b with
    | true => exact hb rfl H2 (a.trans a2) Q fun w H3 a3 r3 => q w H3 (a2.trans a3) r3
    | false => exact q _ H2 a2 (.bl _)⟩
theorem ev_or (ha : EvD ta σ H (.bool b)) (hb : b = false → EvD tb σ H (.bool c)) : EvD (tOrV ta tb) σ H (.bool (b || c)) := fun H1 a Q q =>
  ha H1 a _ fun v H2 a2 r => ⟨b, r.bl', by
    cases b with
    | false => exact hb rfl H2 (a.trans a2) Q fun w H3 a3 r3 => q w H3 (a2.trans a3) r3
    | true => exact q _ H2 a2 (.bl _)⟩
theorem ev_not (ha : EvD ta σ H (.bool b)) : EvD (tNotV ta) σ H (.bool (!b)) := fun H1 a Q q =>
  ha H1 a _ fun v H2 a2 r => ⟨b, r.bl', q _ H2 a2 (.bl _)⟩
theorem ev_if (h : EvT t σ H b) (h1 : b = true → EvD ta σ H d) (h2 : b = false → EvD tb σ H d) : EvD (tIf t ta tb) σ H d := fun H1 a Q q => h H1 a _ fun H2 a2 => by
  cases b with
  | true => exact h1 rfl H2 (a.trans a2) Q fun w H3 a3 r3 => q w H3 (a2.trans a3) r3
  | false => exact h2 rfl H2 (a.trans a2) Q fun w H3 a3 r3 => q w H3 (a2.trans a3) r3
/-- tests -/
theorem et_B (h : EvD te σ H (.bool b)) : EvT (tB te) σ H b := fun H1 a _ q => h H1 a _ fun v H2 a2 r => ⟨b, r.bl', q H2 a2⟩
theorem et_test (h : EvD te σ H (.bool b)) : EvT (tTest te) σ H b := fun H1 a _ q => h H1 a _ fun v H2 a2 r => ⟨b, r.bl', q H2 a2⟩
theorem et_and (h1 : EvT t σ H b) (h2 : b = true → EvT u σ H c) : EvT (tAnd t u) σ H (b && c) := fun H1 a Q q => h1 H1 a _ fun H2 a2 => by
  cases b with
  | true => exact h2 rfl H2 (a.trans a2) Q fun H3 a3 => q H3 (a2.trans a3)
  | false => exact q H2 a2
theorem et_or (h1 : EvT t σ H b) (h2 : b = false → EvT u σ H c) : EvT (tOr t u) σ H (b || c) := fun H1 a Q q => h1 H1 a _ fun H2 a2 => by
  cases b with
  | false => exact h2 rfl H2 (a.trans a2) Q fun H3 a3 => q H3 (a2.trans a3)
  | true => exact q H2 a2
theorem et_not (h1 : EvT t σ H b) : EvT (tNot t) σ H (!b) := fun H1 a _ q => h1 H1 a _ fun H2 a2 => q H2 a2
/-- arguments -/
theorem ea_nil : EvA tNil σ H [] := fun H1 _ _ q => q [] H1 (Same.refl H1) .nil
theorem ea_cons (h : EvD te σ H d) (hr : EvA tr σ H ds) : EvA (tCons te tr) σ H (d :: ds) := fun H1 a _ q =>
  h H1 a _ fun v H2 a2 r => hr H2 (a.trans a2) _ fun vs H3 a3 rs => q _ H3 (a2.trans a3) (.cons (r.same a3) rs)
theorem EvA.to (h : EvA tr σ H ds) (x : ds = es) : EvA tr σ H es := x ▸ h
/-- a tuple is made; a list -/
theorem ev_tup (h : EvA tr σ H ds) (hl : ds.length ≤ 100000) : EvD (tTup tr) σ H (.tuple ds) := fun H1 a _ q =>
  h H1 a _ fun vs H2 a2 r => ⟨by rw [r.len]; exact Nat.le_trans hl (by decide), fun p hp => q _ _ (a2.trans (Same.new hp)) (.tup upd_same (r.same (Same.new hp)))⟩
theorem el_lst (h : EvA tr σ H ds) (hl : ds.length ≤ 100000) : EvL (tLst tr) σ H ds := fun H1 a _ q =>
  h H1 a _ fun vs H2 a2 r => ⟨by rw [r.len]; exact Nat.le_trans hl (by decide), fun p hp => q p vs _ (fresh_back a2 hp) (a2.trans (Same.new hp)) upd_same (r.same (Same.new hp))⟩
theorem eo_none : EvO tNoPart σ H none := fun H1 _ _ q => q H1 (Same.refl H1)
theorem eo_some (h : EvD te σ H (.int i)) : EvO (tPart te) σ H (some i) := fun H1 a _ q => h H1 a _ fun v H2 a2 r => ⟨i, r.int', q H2 a2⟩
/-- an item -/
theorem ixN_nat {n j : Nat} (hj : j < n) : ixN n (j : Int) = some j := by
  unfold ixN
  rw [if_pos (by omega), if_pos (by omega)]
  simp
theorem ixN_len {α β : Type} {xs : List α} {ys : List β} (h : xs.length = ys.length) {i : Int} {j : Nat} (e : ixN ys.length i = some j) : ixN xs.length i = some j := by rw [h]; exact e
theorem ev_ixT {k : Nat} (ha : EvD ta σ H (.tuple ds)) (hb : EvD tb σ H (.int i)) (hk : ixN ds.length i = some k) (hd : ds[k]? = some d) : EvD (tOp (rIxT K) ta tb) σ H d := fun H1 a Q q =>
  ha H1 a _ fun v H2 a2 r => hb H2 (a.trans a2) _ fun w H3 a3 r3 => by
    obtain ⟨p, xs, e, h1, rs⟩ := r.tup'
    obtain ⟨x, hx, rx⟩ := DtA.at' rs hd
    refine ⟨p, xs, i, x, e, r3.int', SqT.of (a3 _ _ h1), ?_, q _ H3 (a2.trans a3) (rx.same a3)⟩
    unfold atI
    rw [ixN_len rs.len hk]
    exact hx
theorem ev_ixL {k : Nat} (ha : EvR K ta σ H ds) (hb : EvD tb σ H (.int i)) (hk : ixN ds.length i = some k) (hd : ds[k]? = some d) : EvD (tOp (rIxL K) ta tb) σ H d := fun H1 a Q q =>
  ha H1 a _ fun p H2 a2 r => hb H2 (a.trans a2) _ fun w H3 a3 r3 => by
    obtain ⟨xs, h1, rs⟩ := r
    obtain ⟨x, hx, rx⟩ := DtA.at' rs hd
    refine ⟨p, xs, i, x, rfl, r3.int', a3.seq h1, ?_, q _ H3 (a2.trans a3) (rx.same a3)⟩
    unfold atI
    rw [ixN_len rs.len hk]
    exact hx
end
end SB
/-! Walks, comprehensions, statements, calls. -/
namespace SB
open PySem L2 RZ
/-- tuples and frozen things stand -/
structure Tp (H H' : Hp) : Prop where
  tup : ∀ a xs, H a = some (.tup xs) → H' a = some (.tup xs)
  frz : ∀ a o u, H a = some (.frz o u) → H' a = some (.frz o u)
theorem Tp.refl (H : Hp) : Tp H H := ⟨fun _ _ h => h, fun _ _ _ h => h⟩
theorem Tp.trans {A B C : Hp} (a : Tp A B) (b : Tp B C) : Tp A C := ⟨fun x y h => b.tup x y (a.tup x y h), fun x y z h => b.frz x y z (a.frz x y z h)⟩
theorem Same.tp {H H' : Hp} (e : Same H H') : Tp H H' := ⟨fun _ _ h => e _ _ h, fun _ _ _ h => e _ _ h⟩
theorem Dt.tp {H H' : Hp} (e : Tp H H') {d : PyData} {v : V} (h : Dt H v d) : Dt H' v d := h.mono e.tup
theorem DtA.tp {H H' : Hp} (e : Tp H H') {d : List PyData} {v : List V} (h : DtA H v d) : DtA H' v d := DtA.monoA e.tup h
/-- an iterator that yields data, in every later heap -/
def Walks (Rl : Hp → Hp → Prop) (J : It) (H0 : Hp) (ds : List PyData) : Prop :=
  ∀ H, Rl H0 H → (∀ i d, ds[i]? = some d → J.go i H ∧ ∀ x H', J.yld i H x H' → Same H H' ∧ Dt H' x d) ∧ J.stop ds.length H
/-- what a for walks -/
def Wk (Rl : Hp → Hp → Prop) (wi : TI) (σ : L2.St) (H : Hp) (ds : List PyData) : Prop :=
  ∀ H1, Same H H1 → ∀ R : It → Hp → Prop, (∀ J H2, Same H1 H2 → Walks Rl J H2 ds → R J H2) → wi σ H1 R
section
variable {K : PySem.W.Frag} {σ : L2.St} {H H' : Hp} {ρ : List Sd} {ta tb te ts : TE} {t u : TT} {d e : PyData} {i j : Int} {b c : Bool} {ds es : List PyData} {tr : TA}
theorem Wk.weak {R R' : Hp → Hp → Prop} {wi : TI} (h : ∀ a b, R' a b → R a b) (w : Wk R wi σ H ds) : Wk R' wi σ H ds := fun H1 a Q q => w H1 a Q fun J H2 a2 k => q J H2 a2 fun H' r => k H' (h _ _ r)
theorem Wk.same {wi : TI} (w : Wk Tp wi σ H ds) : Wk Same wi σ H ds := w.weak fun _ _ e => Same.tp e
theorem Wk.kp {wi : TI} (w : Wk (Kp K) wi σ H ds) : Wk Same wi σ H ds := w.weak fun _ _ e => Same.kp e
theorem Wk.to {R : Hp → Hp → Prop} {wi : TI} (w : Wk R wi σ H ds) (e : ds = es) : Wk R wi σ H es := e ▸ w
theorem wk_tup (h : EvD ts σ H (.tuple ds)) : Wk Tp (iTup K ts) σ H ds := fun H1 a R k => h H1 a _ fun v H2 a2 r => by
  obtain ⟨p, xs, rfl, hp, rs⟩ := r.tup'
  refine ⟨p, rfl, ⟨xs, SqT.of hp⟩, k _ H2 a2 fun H' tp => ⟨fun i d hd => ?_, ⟨xs, SqT.of (tp.tup _ _ hp), Nat.le_of_eq rs.len⟩⟩⟩
  obtain ⟨x, hx, rx⟩ := DtA.at' rs hd
  refine ⟨⟨xs, x, SqT.of (tp.tup _ _ hp), hx⟩, fun y H'' hy => ?_⟩
  obtain ⟨e1, hy⟩ := hy
  subst e1
  have e2 := hy xs (SqT.of (tp.tup _ _ hp))
  rw [hx] at e2
  cases e2
  exact ⟨Same.refl _, rx.tp tp⟩
theorem wk_list (h : EvR K ts σ H ds) : Wk (Kp K) (iList K ts) σ H ds := fun H1 a R k => h H1 a _ fun p H2 a2 r => by
  obtain ⟨xs, hp, rs⟩ := r
  refine ⟨p, rfl, ⟨xs, hp⟩, k _ H2 a2 fun H' kp => ⟨fun i d hd => ?_, ⟨xs, kp.lst _ _ hp, Nat.le_of_eq rs.len⟩⟩⟩
  obtain ⟨x, hx, rx⟩ := DtA.at' rs hd
  refine ⟨⟨xs, x, kp.lst _ _ hp, hx⟩, fun y H'' hy => ?_⟩
  obtain ⟨e1, hy⟩ := hy
  subst e1
  have e2 := hy xs (kp.lst _ _ hp)
  rw [hx] at e2
  cases e2
  exact ⟨Same.refl _, rx.kp kp⟩
def rngD (lo : Int) (n : Nat) : List PyData := (List.range n).map fun (k : Nat) => PyData.int (lo + (k : Int))
theorem walks_rng {lo : Int} {n : Nat} {Rl : Hp → Hp → Prop} {H : Hp} : Walks Rl (Itr lo n) H (rngD lo n) := fun H' _ => by
  refine ⟨fun i d hd => ?_, by show n ≤ (rngD lo n).length; unfold rngD; simp⟩
  unfold rngD at hd
  rw [List.getElem?_map] at hd
  by_cases hi : i < n
  · rw [List.getElem?_range hi] at hd
    cases hd
    refine ⟨hi, fun x H'' hx => ?_⟩
    obtain ⟨e1, e2⟩ := hx
    subst e1 e2
    exact ⟨Same.refl _, .int _⟩
  · rw [List.getElem?_eq_none (by simpa using hi)] at hd
    cases hd
theorem wk_rng1 {n : Int} {ds : List PyData} (h : EvA tr σ H [.int n]) (hn : 0 ≤ n ∧ n ≤ 100000) (e : rngD 0 n.toNat = ds := by rfl) : Wk Tp (iRng1 tr) σ H ds := fun H1 a R k => h H1 a _ fun vs H2 a2 r => by
  subst e
  cases r with
  | cons r1 r2 =>
    cases r2
    rw [r1.int']
    exact ⟨n, rfl, by omega, by omega, k _ H2 a2 walks_rng⟩
theorem wk_rng2 {lo n : Int} {ds : List PyData} (h : EvA tr σ H [.int lo, .int n]) (hn : -100000 ≤ lo ∧ lo ≤ 100000 ∧ -100000 ≤ n ∧ n ≤ 100000) (e : rngD lo (n - lo).toNat = ds := by rfl) : Wk Tp (iRng2 tr) σ H ds := fun H1 a R k => h H1 a _ fun vs H2 a2 r => by
  subst e
  cases r with
  | cons r1 r2 =>
    cases r2 with
    | cons r3 r4 =>
      cases r4
      rw [r1.int', r3.int']
      exact ⟨lo, n, rfl, by omega, k _ H2 a2 walks_rng⟩
/-- pairs of data -/
def zipD (ds es : List PyData) : List PyData := List.zipWith (fun a b => .tuple [a, b]) ds es
theorem zipD_at {i : Nat} {d : PyData} (h : (zipD ds es)[i]? = some d) : ∃ x y, ds[i]? = some x ∧ es[i]? = some y ∧ d = .tuple [x, y] := by
  unfold zipD at h
  rw [List.getElem?_zipWith] at h
  cases e1 : ds[i]? with
  | none => rw [e1] at h; simp at h
  | some x =>
    cases e2 : es[i]? with
    | none => rw [e1, e2] at h; simp at h
    | some y =>
      rw [e1, e2] at h
      exact ⟨x, y, rfl, rfl, by simpa using h.symm⟩
theorem wk_zipT (h : EvA tr σ H [.tuple ds, .tuple es]) : Wk Tp (iZipA K tr) σ H (zipD ds es) := fun H1 a R k => h H1 a _ fun vs H2 a2 r => by
  cases r with
  | cons r1 r2 =>
    cases r2 with
    | cons r3 r4 =>
      cases r4
      obtain ⟨p, xs, e1, hp, rs⟩ := r1.tup'
      obtain ⟨p2, ys, e2, hp2, rs2⟩ := r3.tup'
      rw [e1, e2]
      refine ⟨p, p2, xs, ys, rfl, .inr ⟨SqT.of hp, SqT.of hp2, k _ H2 a2 fun H' tp => ⟨fun i d hd => ?_, ⟨xs, ys, SqT.of (tp.tup _ _ hp), SqT.of (tp.tup _ _ hp2), ?_⟩⟩⟩⟩
      · obtain ⟨x, y, hx, hy, rfl⟩ := zipD_at hd
        obtain ⟨v, hv, rv⟩ := DtA.at' rs hx
        obtain ⟨w, hw, rw'⟩ := DtA.at' rs2 hy
        refine ⟨⟨xs, ys, v, w, SqT.of (tp.tup _ _ hp), SqT.of (tp.tup _ _ hp2), hv, hw⟩, fun z H'' hz => ?_⟩
        obtain ⟨T, v', w', e3, hT, e4, f1, f2⟩ := hz
        have g1 := f1 xs (SqT.of (tp.tup _ _ hp))
        have g2 := f2 ys (SqT.of (tp.tup _ _ hp2))
        rw [hv] at g1
        rw [hw] at g2
        cases g1
        cases g2
        subst e3 e4
        exact ⟨Same.new hT, .tup upd_same (.cons ((rv.tp tp).same (Same.new hT)) (.cons ((rw'.tp tp).same (Same.new hT)) .nil))⟩
      · rw [rs.len, rs2.len]
        unfold zipD
        rw [List.length_zipWith]
        omega
/-! ### targets -/
def Tg (K : PySem.W.Frag) (g : TG) (d : PyData) (is : List Nat) (f : List Sd → List Sd) : Prop :=
  ∀ (v : V) (σ : L2.St) (H : Hp) (ρ : List Sd) (Q : L2.St → Hp → Prop), Sl K σ H ρ → Dt H v d → (∀ σ', Sl K σ' H (f ρ) → σ'.length = σ.length → (∀ j, j ∉ is → σ'[j]? = σ[j]?) → Q σ' H) → g v σ H Q
theorem tg_name {n : Nat} : Tg K (gName n) d [n] (fun ρ => ρ.set n (.dat d)) := fun v σ H ρ Q s r k => by
  refine k _ (s.setD n r) (by simp) fun j hj => ?_
  rw [List.getElem?_set_ne]
  intro e
  exact hj (by simp [e])
/-- several targets by names -/
def setAll : List Nat → List PyData → List Sd → List Sd
  | n :: ns, d :: ds, ρ => setAll ns ds (ρ.set n (.dat d))
  | _, _, ρ => ρ
def gNames : List Nat → TGs
  | [] => gNil
  | n :: ns => gCons (gName n) (gNames ns)
theorem tgs_names : ∀ (ns : List Nat) (ds : List PyData) (vs : List V) (σ : L2.St) (H : Hp) (ρ : List Sd) (Q : L2.St → Hp → Prop), ns.length = ds.length → Sl K σ H ρ → DtA H vs ds →
    (∀ σ', Sl K σ' H (setAll ns ds ρ) → σ'.length = σ.length → (∀ j, j ∉ ns → σ'[j]? = σ[j]?) → Q σ' H) → gNames ns vs σ H Q
  | [], [], _, σ, H, ρ, Q, _, s, r, k => by
    cases r
    exact ⟨rfl, k σ s rfl fun _ _ => rfl⟩
  | n :: ns, d :: ds, _, σ, H, ρ, Q, hl, s, r, k => by
    cases r with
    | cons r1 r2 =>
      refine ⟨_, _, rfl, ?_⟩
      refine tgs_names ns ds _ _ H _ Q (by simpa using hl) (s.setD n r1) r2 fun σ' s' l' h' => ?_
      refine k σ' s' (by simpa using l') fun j hj => ?_
      rw [h' j (fun q => hj (List.mem_cons_of_mem _ q)), List.getElem?_set_ne]
      intro e
      exact hj (by simp [e])
  | [], _ :: _, _, _, _, _, _, hl, _, _, _ => by simp at hl
  | _ :: _, [], _, _, _, _, _, hl, _, _, _ => by simp at hl
theorem tg_tup {ns : List Nat} {m : Nat} (hl : ns.length = ds.length) (hm : ds.length = m) : Tg K (gTup K m (gNames ns)) (.tuple ds) ns (setAll ns ds) := fun v σ H ρ Q s r k => by
  obtain ⟨p, xs, rfl, hp, rs⟩ := r.tup'
  exact ⟨p, xs, rfl, SqT.of hp, by rw [rs.len, hm], tgs_names ns ds xs σ H ρ Q hl s rs k⟩
theorem wipe_eq {σ σ' : L2.St} {vs : List Nat} (hl : σ'.length = σ.length) (h : ∀ j, j ∉ vs → σ'[j]? = σ[j]?) : wipe σ' vs = wipe σ vs := by
  have key : ∀ (vs : List Nat) (σ : L2.St) (j : Nat), (wipe σ vs)[j]? = if j ∈ vs then (if j < σ.length then some none else none) else σ[j]? := by
    intro vs
    induction vs with
    | nil => intro σ j; simp [wipe]
    | cons v vs ih =>
      intro σ j
      show ((wipe σ vs).set v none)[j]? = _
      by_cases hj : v = j
      · subst hj
        by_cases hv : v < σ.length
        · rw [List.getElem?_set_self (by rw [wipe_length]; exact hv)]
          simp [hv]
        · rw [List.getElem?_eq_none (by rw [List.length_set, wipe_length]; omega)]
          simp [hv]
      · rw [List.getElem?_set_ne hj, ih]
        have : (j ∈ v :: vs) ↔ j ∈ vs := by simp [List.mem_cons, Ne.symm hj]
        simp only [this]
  apply List.ext_getElem?
  intro j
  rw [key, key, hl]
  by_cases hj : j ∈ vs
  · rw [if_pos hj, if_pos hj]
  · rw [if_neg hj, if_neg hj, h j hj]
theorem wipe_wipe {σ : L2.St} {vs : List Nat} : wipe (wipe σ vs) vs = wipe σ vs := by
  refine wipe_eq (wipe_length σ vs) fun j hj => ?_
  induction vs with
  | nil => rfl
  | cons v vs ih =>
    show ((wipe σ vs).set v none)[j]? = _
    rw [List.getElem?_set_ne (fun e => hj (by simp [e])), ih (fun q => hj (List.mem_cons_of_mem _ q))]
/-! ### a list comprehension -/
theorem el_lc {α : Type} {xs : List α} {enc : α → PyData} {wi : TI} {g : TG} {tt : TT} {vs is : List Nat} {p : α → Bool} {f : α → PyData} {fs : α → List Sd → List Sd} (hS : Sl K σ H ρ) (hw : Wk Same wi σ H (xs.map enc))
    (hg : ∀ x, x ∈ xs → Tg K g (enc x) is (fs x)) (hz : xs.length ≤ 100000)
    (ht : ∀ x, x ∈ xs → ∀ σ' H', Same H H' → Sl K σ' H' (fs x (wipeS ρ vs)) → EvT tt σ' H' (p x))
    (he : ∀ x, x ∈ xs → p x = true → ∀ σ' H', Same H H' → Sl K σ' H' (fs x (wipeS ρ vs)) → EvD te σ' H' (f x)) (hv : is.all (fun i => decide (i ∈ vs)) = true := by rfl) :
    EvL (tLc wi g tt te vs) σ H ((xs.filter p).map f) := fun H1 a Q q => by
  refine hw H1 a _ fun J H2 a2 wk D hD => ?_
  refine ⟨fun i m H' => m + i = xs.length ∧ Same H2 H' ∧ ∃ acc, H' D = some (.lst acc) ∧ DtA H' acc (((xs.take i).filter p).map f), ⟨xs.length, rfl, Same.new hD, [], upd_same, by simpa using .nil⟩, ?_⟩
  rintro i m H3 ⟨hm, a3, acc, hacc, racc⟩
  obtain ⟨w1, w2⟩ := wk H3 a3
  by_cases hi : i < xs.length
  · have hx : xs[i]? = some xs[i] := List.getElem?_eq_getElem hi
    have hmem : xs[i] ∈ xs := List.getElem_mem hi
    obtain ⟨g1, g2⟩ := w1 i (enc xs[i]) (by rw [List.getElem?_map, hx]; rfl)
    have etake : xs.take (i + 1) = xs.take i ++ [xs[i]] := by rw [List.take_add_one, hx]; rfl
    refine .inr ⟨g1, fun H' => Same H2 H' ∧ ∃ acc, H' D = some (.lst acc) ∧ DtA H' acc (((xs.take (i + 1)).filter p).map f), fun H' ⟨h1, h2⟩ => ⟨m - 1, by omega, by omega, h1, h2⟩, fun x H4 hy => ?_⟩
    obtain ⟨a4, rx⟩ := g2 x H4 hy
    have S4 : Sl K (wipe σ vs) H4 (wipeS ρ vs) := (hS.wipe vs).same (((a.trans a2).trans a3).trans a4)
    refine hg _ hmem x _ H4 _ _ S4 rx fun σ' S' l' h' => ⟨?_, ?_⟩
    · rw [wipe_eq l' (fun j hj => h' j fun q => hj (of_decide_eq_true (List.all_eq_true.mp hv j q))), wipe_wipe]
    · have b4 := ((a.trans a2).trans a3).trans a4
      refine ht _ hmem σ' H4 b4 S' H4 (Same.refl _) _ fun H5 a5 => ?_
      cases hp : p xs[i] with
      | false =>
        refine (if_neg Bool.false_ne_true).mpr ?_
        refine ⟨((a3.trans a4).trans a5), acc, a5 _ _ (a4 _ _ hacc), ?_⟩
        rw [etake, List.filter_append, List.filter_cons, hp]
        simp only [Bool.false_eq_true, if_false, List.filter_nil, List.append_nil]
        exact racc.same (a4.trans a5)
      | true =>
        refine (if_pos rfl).mpr ?_
        refine he _ hmem hp σ' H4 b4 S' H5 a5 _ fun y H6 a6 ry => ?_
        refine ⟨acc, a6 _ _ (a5 _ _ (a4 _ _ hacc)), ?_, ?_, _, upd_same, ?_⟩
        · rw [racc.len, List.length_map]
          refine Nat.lt_of_le_of_lt (List.length_filter_le _ _) (Nat.lt_of_le_of_lt (List.length_take_le _ _) (Nat.lt_of_lt_of_le hi (Nat.le_trans hz (by decide))))
        · exact Same.mut (((a3.trans a4).trans a5).trans a6) hD
        · rw [etake, List.filter_append, List.map_append, List.filter_cons, hp]
          have t6 : ∀ b ys, H6 b = some (.tup ys) → upd H6 D (.lst (acc ++ [y])) b = some (.tup ys) := fun b ys e => by
            rw [upd_ne]
            · exact e
            · intro z
              rw [z, a6 _ _ (a5 _ _ (a4 _ _ hacc))] at e
              cases e
          refine DtA.app (DtA.monoA t6 (racc.same ((a4.trans a5).trans a6))) ?_
          simpa using DtA.one (ry.mono t6)
  · have hi' : i = xs.length := by omega
    subst hi'
    refine .inl ⟨by simpa using w2, q D acc H3 (fresh_back a2 hD) (a2.trans a3) hacc ?_⟩
    rw [List.take_length] at racc
    exact racc
/-- .. without a test -/
theorem el_lc0 {α : Type} {xs : List α} {enc : α → PyData} {wi : TI} {g : TG} {vs is : List Nat} {f : α → PyData} {fs : α → List Sd → List Sd} (hS : Sl K σ H ρ) (hw : Wk Same wi σ H (xs.map enc))
    (hg : ∀ x, x ∈ xs → Tg K g (enc x) is (fs x)) (hz : xs.length ≤ 100000)
    (he : ∀ x, x ∈ xs → ∀ σ' H', Same H H' → Sl K σ' H' (fs x (wipeS ρ vs)) → EvD te σ' H' (f x)) (hv : is.all (fun i => decide (i ∈ vs)) = true := by rfl) :
    EvL (tLc wi g tYes te vs) σ H (xs.map f) := by
  have := el_lc (K := K) (te := te) (tt := tYes) (p := fun _ => true) (f := f) hS hw hg hz (fun x hx σ' H' _ _ H1 _ Q q => q H1 (Same.refl _)) (fun x hx _ => he x hx) hv
  rwa [List.filter_eq_self.mpr (fun _ _ => rfl)] at this
theorem ev_chain {p q : Int → Int → Bool} {tc : TE} {k l m : Int} (h1 : (p k l) = true) (ha : EvD ta σ H (.int k)) (hb : EvD tb σ H (.int l)) (hc : EvD tc σ H (.int m)) (h2 : p k l = true → q l m = c) :
    EvD (tChain (rI0 fun i j => .bl (p i j)) (rI0 fun i j => .bl (q i j)) ta tb tc) σ H (.bool c) := fun H1 a Q qq =>
  ha H1 a _ fun v H2 a2 r => hb H2 (a.trans a2) _ fun w H3 a3 r3 => ⟨k, l, r.int', r3.int', p k l, rfl, by
    rw [h1]
    refine (if_pos rfl).mpr ?_
    refine hc H3 ((a.trans a2).trans a3) _ fun x H4 a4 r4 => ⟨l, m, r3.int', r4.int', ?_⟩
    show Q (.bl (q l m)) H4
    rw [h2 h1]
    exact qq _ H4 ((a2.trans a3).trans a4) (.bl _)⟩
theorem ev_ci {i : Int} : EvD (tC (.int i)) σ H (.int i) := ev_int
/-! ### built-ins on lists -/
theorem ev_tupleOf (h : EvR K te σ H ds) : EvD (tCB (fun xs H Q => ∃ p ys, xs = [.ref p] ∧ ((SqL K H p ys ∧ ∀ l, H l = none → Q (.ref l) (upd H l (.tup ys))) ∨ (SqT K H p ys ∧ Q (.ref p) H))) (tCons te tNil)) σ H (.tuple ds) := fun H1 a Q q =>
  h H1 a _ fun p H2 a2 ⟨xs, h1, r⟩ => ⟨p, xs, rfl, .inl ⟨h1, fun l hl => q _ _ (a2.trans (Same.new hl)) (.tup upd_same (r.same (Same.new hl)))⟩⟩
theorem ev_lenL (h : EvR K te σ H ds) : EvD (tCB (fun xs H Q => ∃ p ys, xs = [.ref p] ∧ (SqL K H p ys ∨ SqT K H p ys) ∧ Q (.int ys.length) H) (tCons te tNil)) σ H (.int (ds.length : Int)) := fun H1 a Q q =>
  h H1 a _ fun p H2 a2 ⟨xs, h1, r⟩ => ⟨p, xs, rfl, .inl h1, q _ H2 a2 (by rw [r.len]; exact .int _)⟩
theorem ev_lenT (h : EvD te σ H (.tuple ds)) : EvD (tCB (fun xs H Q => ∃ p ys, xs = [.ref p] ∧ (SqL K H p ys ∨ SqT K H p ys) ∧ Q (.int ys.length) H) (tCons te tNil)) σ H (.int (ds.length : Int)) := fun H1 a Q q =>
  h H1 a _ fun v H2 a2 r => by
    obtain ⟨p, xs, rfl, h1, rs⟩ := r.tup'
    exact ⟨p, xs, rfl, .inr (SqT.of h1), q _ H2 a2 (by rw [rs.len]; exact .int _)⟩
theorem ev_sum {ns : List Int} (h : EvR K te σ H (ns.map .int)) : EvD (tCB (rSum K) (tCons te tNil)) σ H (.int ns.sum) := fun H1 a Q q =>
  h H1 a _ fun p H2 a2 r => ⟨p, ns, rfl, r.ints, q _ H2 a2 (.int _)⟩
theorem RdL.bools {bs : List Bool} {p : Addr} (h : RdL K H p (bs.map .bool)) : SqL K H p (bs.map V.bl) := by
  obtain ⟨xs, h1, h2⟩ := h
  rw [DtA.bools h2] at h1
  exact h1
theorem ev_all {bs : List Bool} (h : EvR K te σ H (bs.map .bool)) : EvD (tCB (rAll K) (tCons te tNil)) σ H (.bool (bs.all id)) := fun H1 a Q q =>
  h H1 a _ fun p H2 a2 r => ⟨p, bs, rfl, r.bools, q _ H2 a2 (.bl _)⟩
theorem ev_any {bs : List Bool} (h : EvR K te σ H (bs.map .bool)) : EvD (tCB (rAny K) (tCons te tNil)) σ H (.bool (bs.any id)) := fun H1 a Q q =>
  h H1 a _ fun p H2 a2 r => ⟨p, bs, rfl, r.bools, q _ H2 a2 (.bl _)⟩
theorem sorted_unique : ∀ {l l' : List Int}, l.Perm l' → l.Pairwise (· ≤ ·) → l'.Pairwise (· ≤ ·) → l = l' := fun {l l'} h h1 h2 => List.Perm.eq_of_pairwise (fun a b _ _ ab ba => Int.le_antisymm ab ba) h1 h2 h
theorem el_sortedI {ns ms : List Int} (h : EvR K te σ H (ns.map .int)) (hp : ms.Perm ns) (hs : ms.Pairwise (· ≤ ·)) : EvL (tCB (rSortedI K) (tCons te tNil)) σ H (ms.map .int) := fun H1 a Q q =>
  h H1 a _ fun p H2 a2 r => ⟨p, ns, rfl, r.ints, fun ns' l p1 p2 hl => by
    have e : ns' = ms := sorted_unique (p1.trans hp.symm) p2 hs
    subst e
    exact q l _ _ (fresh_back a2 hl) (a2.trans (Same.new hl)) upd_same (DtA.ofInts _)⟩
theorem ev_abs (h : EvD te σ H (.int i)) : EvD (tCB (fun xs H Q => ∃ i, xs = [.int i] ∧ Q (.int (if i < 0 then -i else i)) H) (tCons te tNil)) σ H (.int (if i < 0 then -i else i)) := fun H1 a Q q =>
  h H1 a _ fun v H2 a2 r => ⟨i, by rw [r.int'], q _ H2 a2 (.int _)⟩
theorem ev_intI (h : EvD te σ H (.int i)) : EvD (tCB (fun xs H Q => (∃ i, xs = [.int i] ∧ Q (.int i) H) ∨ ∃ k, xs = [.bl k] ∧ Q (.int (if k then 1 else 0)) H) (tCons te tNil)) σ H (.int i) := fun H1 a Q q =>
  h H1 a _ fun v H2 a2 r => .inl ⟨i, by rw [r.int'], q _ H2 a2 (.int _)⟩
theorem ev_intB (h : EvD te σ H (.bool b)) : EvD (tCB (fun xs H Q => (∃ i, xs = [.int i] ∧ Q (.int i) H) ∨ ∃ k, xs = [.bl k] ∧ Q (.int (if k then 1 else 0)) H) (tCons te tNil)) σ H (.int (if b then 1 else 0)) := fun H1 a Q q =>
  h H1 a _ fun v H2 a2 r => .inr ⟨b, by rw [r.bl'], q _ H2 a2 (.int _)⟩
/-! ### calls of defs -/
/-- a def with a pure promise: from data and lists that are read, to data -/
def spD (R : List PyData → PyData → Prop) : Sp := fun vs H Q _ => ∃ ds d, DtA H vs ds ∧ R ds d ∧ ∀ v H', Same H H' → Dt H' v d → Q v H'
theorem ev_call {R : List PyData → PyData → Prop} {E : XK} (h : EvA tr σ H ds) (hR : R ds d) : EvD (tCall (spD R) [] E tr) σ H d := fun H1 a Q q =>
  h H1 a _ fun vs H2 a2 r => ⟨ds, d, by rw [List.append_nil]; exact r, hR, fun v H' a3 rv => q v H' (a2.trans a3) rv⟩
/-- .. to a new list -/
def spL (R : List PyData → List PyData → Prop) : Sp := fun vs H Q _ => ∃ ds es, DtA H vs ds ∧ R ds es ∧ ∀ p xs H', H p = none → Same H H' → H' p = some (.lst xs) → DtA H' xs es → Q (.ref p) H'
theorem el_call {R : List PyData → List PyData → Prop} {E : XK} (h : EvA tr σ H ds) (hR : R ds es) : EvL (tCall (spL R) [] E tr) σ H es := fun H1 a Q q =>
  h H1 a _ fun vs H2 a2 r => ⟨ds, es, by rw [List.append_nil]; exact r, hR, fun p xs H' hp a3 h1 h2 => q p xs H' (fresh_back a2 hp) (a2.trans a3) h1 h2⟩
end
/-! ### statements -/
section
variable {K : PySem.W.Frag} {σ : L2.St} {H : Hp} {ρ : List Sd} {te : TE} {tr : TA} {t : TT} {tb tu tw : TS} {d e : PyData} {ds : List PyData} {D : Ends} {b : Bool}
theorem sq (h : tb { D with nx := tu D } σ H) : tSeq tb tu D σ H := h
theorem st_set {n : Nat} (S : Sl K σ H ρ) (h : EvD te σ H d) (k : ∀ σ' H1, Same H H1 → Sl K σ' H1 (ρ.set n (.dat d)) → D.nx σ' H1) : tAsg te (gName n) D σ H := h H (Same.refl H) _ fun v H1 a r => k _ H1 a ((S.same a).setD n r)
theorem st_setN {n : Nat} (S : Sl K σ H ρ) (h : EvL te σ H ds) (k : ∀ p vs σ' H1, H p = none → Same H H1 → H1 p = some (.lst vs) → DtA H1 vs ds → Sl K σ' H1 (ρ.set n (.ref p)) → D.nx σ' H1) : tAsg te (gName n) D σ H :=
  h H (Same.refl H) _ fun p vs H1 hp a h1 r => k p vs _ H1 hp a h1 r ((S.same a).setR n p)
theorem st_setR {n : Nat} (S : Sl K σ H ρ) (h : EvR K te σ H ds) (k : ∀ σ' H1, Same H H1 → Sl K σ' H1 (ρ.set n (.lst ds)) → D.nx σ' H1) : tAsg te (gName n) D σ H :=
  h H (Same.refl H) _ fun p H1 a r => k _ H1 a ((S.same a).setL n r)
theorem st_asg {g : TG} {is : List Nat} {f : List Sd → List Sd} (S : Sl K σ H ρ) (h : EvD te σ H d) (hg : Tg K g d is f) (k : ∀ σ' H1, Same H H1 → Sl K σ' H1 (f ρ) → D.nx σ' H1) : tAsg te g D σ H :=
  h H (Same.refl H) _ fun v H1 a r => hg v σ H1 ρ _ (S.same a) r fun σ' s' _ _ => k σ' H1 a s'
theorem st_par {i j : Nat} (S : Sl K σ H ρ) (h : EvA tr σ H [d, e]) (k : ∀ σ' H1, Same H H1 → Sl K σ' H1 ((ρ.set i (.dat d)).set j (.dat e)) → D.nx σ' H1) : tPar i j tr D σ H :=
  h H (Same.refl H) _ fun vs H1 a r => by
    cases r with
    | cons r1 r2 =>
      cases r2 with
      | cons r3 r4 =>
        cases r4
        exact ⟨_, _, rfl, k _ H1 a (((S.same a).setD i r1).setD j r3)⟩
theorem st_parL1 {i j : Nat} {t1 t2 : TE} (S : Sl K σ H ρ) (h1 : EvL t1 σ H ds) (h2 : EvD t2 σ H e) (k : ∀ p vs σ' H1, H p = none → Same H H1 → H1 p = some (.lst vs) → DtA H1 vs ds → Sl K σ' H1 ((ρ.set i (.ref p)).set j (.dat e)) → D.nx σ' H1) : tPar i j (tCons t1 (tCons t2 tNil)) D σ H :=
  h1 H (Same.refl H) _ fun p vs H1 hp a h3 r => h2 H1 a _ fun v H2 a2 r2 => ⟨_, _, rfl, k p vs _ H2 hp (a.trans a2) (a2 _ _ h3) (r.same a2) (((S.same (a.trans a2)).setR i p).setD j r2)⟩
theorem st_parL2 {i j : Nat} {t1 t2 : TE} (S : Sl K σ H ρ) (h1 : EvD t1 σ H e) (h2 : EvL t2 σ H ds) (k : ∀ p vs σ' H1, H p = none → Same H H1 → H1 p = some (.lst vs) → DtA H1 vs ds → Sl K σ' H1 ((ρ.set i (.dat e)).set j (.ref p)) → D.nx σ' H1) : tPar i j (tCons t1 (tCons t2 tNil)) D σ H :=
  h1 H (Same.refl H) _ fun v H1 a r => h2 H1 a _ fun p vs H2 hp a2 h3 r2 => ⟨_, _, rfl, k p vs _ H2 (fresh_back a hp) (a.trans a2) h3 r2 (((S.same (a.trans a2)).setD i (r.same a2)).setR j p)⟩
theorem st_parLL {i j : Nat} {t1 t2 : TE} {es : List PyData} (S : Sl K σ H ρ) (h1 : EvL t1 σ H ds) (h2 : EvL t2 σ H es)
    (k : ∀ p vs q us σ' H1, H p = none → H q = none → p ≠ q → Same H H1 → H1 p = some (.lst vs) → DtA H1 vs ds → H1 q = some (.lst us) → DtA H1 us es → Sl K σ' H1 ((ρ.set i (.ref p)).set j (.ref q)) → D.nx σ' H1) : tPar i j (tCons t1 (tCons t2 tNil)) D σ H :=
  h1 H (Same.refl H) _ fun p vs H1 hp a h3 r => h2 H1 a _ fun q us H2 hq a2 h4 r2 => ⟨_, _, rfl, k p vs q us _ H2 hp (fresh_back a hq) (ne_of_none h3 hq) (a.trans a2) (a2 _ _ h3) (r.same a2) h4 r2 (((S.same (a.trans a2)).setR i p).setR j q)⟩
/-- list.append -/
theorem st_app {ta : TE} {p : Addr} {xs : List V} (h : EvX ta σ H (.ref p)) (hp : H p = some (.lst xs)) (he : EvD te σ H d) (hz : xs.length < 100000) (k : ∀ v H1, Same H H1 → Dt H1 v d → D.nx σ (upd H1 p (.lst (xs ++ [v])))) :
    tDrop (tBM K "list" rAppend ta (tCons te tNil)) D σ H := h H (Same.refl H) _ fun H1 a =>
  ⟨.inl ⟨rfl, xs, SqL.of (a _ _ hp)⟩, he H1 a _ fun v H2 a2 r => ⟨p, xs, v, rfl, rfl, a2 _ _ (a _ _ hp), Nat.lt_of_lt_of_le hz (by decide), k v H2 (a.trans a2) r⟩⟩
/-- xs[i] = e -/
theorem st_setIx {ta tb : TE} {p : Addr} {xs : List V} {i : Int} {j : Nat} (he : EvD te σ H d) (h : EvX ta σ H (.ref p)) (hi : EvD tb σ H (.int i)) (hp : H p = some (.lst xs)) (hj : ixN xs.length i = some j) (k : ∀ v H1, Same H H1 → Dt H1 v d → D.nx σ (upd H1 p (.lst (xs.set j v)))) :
    tAsg te (gSub ta tb rSetL) D σ H := he H (Same.refl H) _ fun v H1 a r => h H1 a _ fun H2 a2 => hi H2 (a.trans a2) _ fun w H3 a3 r3 =>
  ⟨p, xs, i, j, rfl, r3.int', a3 _ _ (a2 _ _ (a _ _ hp)), hj, k v H3 ((a.trans a2).trans a3) ((r.same a2).same a3)⟩
theorem st_ret (h : EvD te σ H d) (k : ∀ v H1, Same H H1 → Dt H1 v d → D.rt v H1) : tRet te D σ H := h H (Same.refl H) _ k
theorem st_retL (h : EvL te σ H ds) (k : ∀ p vs H1, H p = none → Same H H1 → H1 p = some (.lst vs) → DtA H1 vs ds → D.rt (.ref p) H1) : tRet te D σ H := h H (Same.refl H) _ k
theorem st_if (h : EvT t σ H b) (h1 : b = true → ∀ H1, Same H H1 → tu D σ H1) (h2 : b = false → ∀ H1, Same H H1 → tw D σ H1) : tIfS t tu tw D σ H := h H (Same.refl H) _ fun H1 a => by
  cases b with
  | true => exact h1 rfl H1 a
  | false => exact h2 rfl H1 a
theorem st_aug {n : Nat} {f : Int → Int → Int} {x y : Int} (S : Sl K σ H ρ) (hx : ρ[n]? = some (.dat (.int x))) (h : EvD te σ H (.int y)) (k : ∀ σ' H1, Same H H1 → Sl K σ' H1 (ρ.set n (.dat (.int (f x y)))) → D.nx σ' H1) : tAug n te (ipI f) D σ H := by
  obtain ⟨v, e1, r⟩ := S.dat hx
  exact ⟨v, e1, h H (Same.refl H) _ fun w H1 a rw' => ⟨x, y, r.int', rw'.int', k _ H1 a ((S.same a).setD n (.int _))⟩⟩
theorem st_drop (h : EvD te σ H d) (k : ∀ H1, Same H H1 → D.nx σ H1) : tDrop te D σ H := h H (Same.refl H) _ fun _ H1 a _ => k H1 a
theorem st_while {c : TT} (W : Nat → L2.St → Hp → Prop) (m : Nat) (w0 : W m σ H)
    (hs : ∀ m σ' H', W m σ' H' → ∃ b, EvT c σ' H' b ∧ (b = true → ∀ H1, Same H' H1 → tb { D with nx := fun σ2 H2 => ∃ m', m' < m ∧ W m' σ2 H2, ct := fun σ2 H2 => ∃ m', m' < m ∧ W m' σ2 H2, bk := D.nx } σ' H1) ∧ (b = false → ∀ H1, Same H' H1 → D.nx σ' H1)) : tWhile c tb D σ H := by
  refine ⟨W, ⟨m, w0⟩, fun m σ' H' w => ?_⟩
  obtain ⟨b, hc, h1, h2⟩ := hs m σ' H' w
  refine hc H' (Same.refl _) _ fun H1 a => ?_
  cases b with
  | true =>
    refine (if_pos rfl).mpr ?_
    exact ⟨_, fun _ _ z => z, h1 rfl H1 a⟩
  | false => exact (if_neg Bool.false_ne_true).mpr (h2 rfl H1 a)
theorem st_for {α : Type} {xs : List α} {enc : α → PyData} {Rl : Hp → Hp → Prop} {wi : TI} {g : TG} (w : Wk Rl wi σ H (xs.map enc)) (Pv : Hp → Nat → L2.St → Hp → Prop) (h0 : ∀ H1, Same H H1 → Pv H1 0 σ H1) (hr : ∀ H1 i σ' H', Same H H1 → Pv H1 i σ' H' → Rl H1 H')
    (hs : ∀ H1 i x σ' H' v H'', Same H H1 → xs[i]? = some x → Pv H1 i σ' H' → Same H' H'' → Dt H'' v (enc x) → g v σ' H'' fun σ2 H2 => tb { D with nx := Pv H1 (i + 1), ct := Pv H1 (i + 1), bk := D.nx } σ2 H2)
    (hd : ∀ H1 σ' H', Same H H1 → Pv H1 xs.length σ' H' → D.nx σ' H') : tFor wi g tb D σ H := by
  refine w H (Same.refl H) _ fun J H1 a wk => ?_
  refine ⟨fun i m σ' H' => m + i = xs.length ∧ Pv H1 i σ' H', ⟨xs.length, rfl, h0 H1 a⟩, ?_⟩
  rintro i m σ' H' ⟨hm, p⟩
  obtain ⟨w1, w2⟩ := wk H' (hr H1 i σ' H' a p)
  by_cases hi : i < xs.length
  · have hx : xs[i]? = some xs[i] := List.getElem?_eq_getElem hi
    obtain ⟨g1, g2⟩ := w1 i (enc xs[i]) (by rw [List.getElem?_map, hx]; rfl)
    refine .inr ⟨g1, Pv H1 (i + 1), fun σ2 H2 p2 => ⟨m - 1, by omega, by omega, p2⟩, fun v H2 hy => ?_⟩
    obtain ⟨a2, rv⟩ := g2 v H2 hy
    exact hs H1 i _ σ' H' v H2 a hx p a2 rv
  · have hi' : i = xs.length := by omega
    subst hi'
    exact .inl ⟨by simpa using w2, hd H1 σ' H' a p⟩
end
/-! ### defs as the callers see them -/
/-- the def named x stands at its place and keeps the promise sp -/
structure Fn (P : Program) (w : World) (K : PySem.W.Frag) (mg : Str → Option Value) (base : Heap) (x : Str) (k : Nat) (ps : List Str) (sp : Sp) : Prop where
  ex : ∃ f fd, FnOk P w K mg base CX0 k f fd ps sp ∧ mg x = some (.ref f) ∧ PySem.W.keepIn K (.ref f) = true ∧ Binds K fd ps []
section
variable {X : Cx} {k : Nat} {ps : List Str} {sp : Sp} {x : Str} {p pos : Pos} {e : Expr} {es : List Expr} {t : TA}
theorem pe_fn (F : Fn X.prog X.w X.K X.mg X.base x k ps sp) (hr : Room k X.A) (hg : Gl X x) (ha : PA X (e :: es) t) (hdb : (x == ("__debug__" : Str)) = false := by decide) (he : starEach (e :: es) X.env = (false, eval e X.env) :: starEach es X.env := by rfl)
    (hpl : (backTo pos (starEach es X.env)).any (·.1) = false := by rfl) : PE X (.Call (.Name x p) (e :: es) [] pos) (tCall sp [] E0 t) := by
  obtain ⟨f, fd, F1, hm, hk, hb⟩ := F.ex
  exact pe_call F1 hr hg hm hk hb .nil pass0 ha hdb he hpl
end
end SB
/-! The mirrors: what the defs compute, over plain lists. -/
namespace SB
/-! ### numbers -/
/-- the least divisor above 1 -/
def lp (n : Nat) : Nat := ((((List.range (n + 1)).drop 2).find? fun d => n % d == 0)).getD n
def primesL (n : Nat) : List Nat := ((List.range (n + 1)).drop 2).filter fun p => n % p == 0 && lp p == p
def divsL (n : Nat) : List Nat := ((List.range (n + 1)).drop 1).filter fun d => n % d == 0
def phi (n : Nat) : Nat := (((List.range (n + 1)).drop 1).filter fun d => Nat.gcd d n == 1).length
/-- the power of p that divides r, and what is left -/
def strip1 (p : Nat) : Nat → Nat → Nat → Nat × Nat
  | 0, part, r => (part, r)
  | f + 1, part, r => if r % p == 0 then strip1 p f (part * p) (r / p) else (part, r)
def partsM : Nat → List Nat → Nat → List Nat
  | 0, acc, _ => acc
  | f + 1, acc, r => if 1 < r then let q := strip1 (lp r) r 1 r; partsM f (acc ++ [q.1]) q.2 else acc
def ins (x : Nat) : List Nat → List Nat
  | [] => [x]
  | y :: ys => if x ≤ y then x :: y :: ys else y :: ins x ys
def isort : List Nat → List Nat
  | [] => []
  | x :: xs => ins x (isort xs)
def partsL (n : Nat) : List Nat := isort (partsM n [] n)
/-- the sizes of the law, and those that its folds come to -/
def sizes : List Nat := [1, 2, 3, 4, 5, 6, 8, 9, 10, 12, 15, 18, 20, 24, 30, 36, 42, 60, 64, 70, 84, 90, 97, 105, 110]
def stepL (n : Nat) : Nat := (primesL n).foldl (fun s p => s / p) n
theorem primes_parts : ∀ n ∈ (List.range 111).drop 1, isort ((partsL n).map lp) = primesL n ∧ (partsM n [] n).all (fun p => decide (2 ≤ p)) = true := by decide +kernel
end SB
/-! The text by places, what the module's names hold, a def's proof from its data. -/
namespace SB
open PySem PySem.Spec PyProof.Rows L2 RZ
def topS (i : Nat) : Stmt := PySem.Challenge.pw_silentbeats_k19_whole_heaps_of_any_sign.main.body.getD i (.Pass ⟨0, 0, 0, 0⟩)
/-- the built-ins that the text asks for are still the built-ins -/
structure Txt (K : PySem.W.Frag) (mg : Str → Option Value) : Prop where
  len : mg "len" = none
  tuple : mg "tuple" = none
  list : mg "list" = none
  int : mg "int" = none
  bool : mg "bool" = none
  isinstance : mg "isinstance" = none
  range : mg "range" = none
  sorted : mg "sorted" = none
  sum : mg "sum" = none
  all : mg "all" = none
  any : mg "any" = none
  min : mg "min" = none
  max : mg "max" = none
  abs : mg "abs" = none
  enumerate : mg "enumerate" = none
  zip : mg "zip" = none
  repr : mg "repr" = none
  most : ∃ t, mg "MOST_NUMBER" = some (.int 10000 t)
section
variable {P : Program} {w : World} {K : PySem.W.Frag} {mg : Str → Option Value} {base : Heap}
theorem okD {x qual : Str} {st : Stmt} {f : Addr} {fd : FuncData} {N ps : List Str} {k : Nat} {R : List PyData → PyData → Prop} (F : Fun K x qual st f fd) (S : FnScope N ps (defScope st)) (hl : ∀ ds d, R ds d → ds.length = ps.length)
    (hbody : ∀ (cdv : Value) (A : Around) (outer : List Env) (s : Shared) (H : Hp) (vs : List V) (Q : VK) (E : XK) (ds : List PyData) (d : PyData), Room k (A.deeper (envOfC qual (defScope st) s.heap.objs.size f cdv)) → R ds d →
      Sl K (L2.start N vs) H (ds.map .dat ++ List.replicate (N.length - ds.length) .un) → (∀ v H', Same H H' → Dt H' v d → Q v H') →
      ∃ t, PSs (cxOf CX0 P w K mg base N qual (defScope st) f cdv A outer s H E).nox (defBody st) t ∧ t { nx := fun _ H' => Q .non H', rt := Q } (L2.start N vs) H) : FnOk P w K mg base CX0 (k + 1) f fd ps (spD R) := by
  refine F.ok S (fun vs H Q E h => ?_) (fun cdv A outer s H vs Q E hr h => ?_)
  · obtain ⟨ds, d, h1, h2, _⟩ := h
    rw [h1.len, hl ds d h2]
  · obtain ⟨ds, d, h1, h2, h3⟩ := h
    exact hbody cdv A outer s H vs Q E ds d hr h2 (Sl.startD h1) h3
theorem okL {x qual : Str} {st : Stmt} {f : Addr} {fd : FuncData} {N ps : List Str} {k : Nat} {R : List PyData → List PyData → Prop} (F : Fun K x qual st f fd) (S : FnScope N ps (defScope st)) (hl : ∀ ds d, R ds d → ds.length = ps.length)
    (hbody : ∀ (cdv : Value) (A : Around) (outer : List Env) (s : Shared) (H : Hp) (vs : List V) (Q : VK) (E : XK) (ds es : List PyData), Room k (A.deeper (envOfC qual (defScope st) s.heap.objs.size f cdv)) → R ds es →
      Sl K (L2.start N vs) H (ds.map .dat ++ List.replicate (N.length - ds.length) .un) → (∀ p xs H', H p = none → Same H H' → H' p = some (.lst xs) → DtA H' xs es → Q (.ref p) H') →
      ∃ t, PSs (cxOf CX0 P w K mg base N qual (defScope st) f cdv A outer s H E).nox (defBody st) t ∧ t { nx := fun _ H' => Q .non H', rt := Q } (L2.start N vs) H) : FnOk P w K mg base CX0 (k + 1) f fd ps (spL R) := by
  refine F.ok S (fun vs H Q E h => ?_) (fun cdv A outer s H vs Q E hr h => ?_)
  · obtain ⟨ds, d, h1, h2, _⟩ := h
    rw [h1.len, hl ds d h2]
  · obtain ⟨ds, d, h1, h2, h3⟩ := h
    exact hbody cdv A outer s H vs Q E ds d hr h2 (Sl.startD h1) h3
end
section
variable {K : PySem.W.Frag} {σ : L2.St} {H : Hp} {ta : TE} {i : Int} {b : Bool} {ds : List PyData}
theorem ev_isiI {n : String} (h : EvD ta σ H (.int i)) (e : kitB "int" n = some b) : EvD (tCB (rIsi K) (tCons ta (tCons (tC (.ty n)) tNil))) σ H (.bool b) := fun H1 a Q q =>
  h H1 a _ fun v H2 a2 r => ⟨v, .ty n, .type "int", .type n, b, rfl, .ty n, by rw [r.int']; exact .base (.int i), kit_ty e, q _ H2 a2 (.bl _)⟩
theorem ev_isiT {n : String} (h : EvD ta σ H (.tuple ds)) (e : kitB "tuple" n = some b) : EvD (tCB (rIsi K) (tCons ta (tCons (tC (.ty n)) tNil))) σ H (.bool b) := fun H1 a Q q =>
  h H1 a _ fun v H2 a2 r => by
    obtain ⟨p, xs, rfl, h1, rs⟩ := r.tup'
    exact ⟨_, .ty n, .type "tuple", .type n, b, rfl, .ty n, .base (.tup h1), kit_ty e, q _ H2 a2 (.bl _)⟩
end
theorem rng_d0 (n : Nat) {m : Nat} (e : m = n) : rngD 0 m = (List.range n).map fun (k : Nat) => PyData.int (k : Int) := by
  subst e
  unfold rngD
  simp
theorem rng_d1 (n : Nat) {m : Nat} (e : m = n) : rngD 1 m = ((List.range (n + 1)).drop 1).map fun (k : Nat) => PyData.int (k : Int) := by
  subst e
  apply List.ext_getElem
  · simp [rngD]
  · intro i h1 h2
    simp [rngD]
theorem rng_d2 (n : Nat) {m : Nat} (e : m = n - 1) : rngD 2 m = ((List.range (n + 1)).drop 2).map fun (k : Nat) => PyData.int (k : Int) := by
  subst e
  apply List.ext_getElem
  · simp [rngD]
  · intro i h1 h2
    simp [rngD]
end SB
/-! More of what expressions come to: slices, in, order, stars, products of sequences. -/
namespace SB
open PySem PySem.Spec PyProof.Rows L2 RZ
open StX (tStar pa_star)
section
variable {K : PySem.W.Frag} {σ : L2.St} {H : Hp} {ρ : List Sd} {ta tb te ts : TE} {d e : PyData} {i j : Int} {b c : Bool} {ds es : List PyData} {tr : TA} {tl th : TO} {lo hi : Option Int}
theorem DtA.take {H : Hp} : ∀ {xs : List V} {ds : List PyData} (n : Nat), DtA H xs ds → DtA H (xs.take n) (ds.take n)
  | _, _, 0, _ => .nil
  | _, _, _ + 1, .nil => .nil
  | _, _, n + 1, .cons r t => .cons r (DtA.take n t)
theorem DtA.drop {H : Hp} : ∀ {xs : List V} {ds : List PyData} (n : Nat), DtA H xs ds → DtA H (xs.drop n) (ds.drop n)
  | _, _, 0, r => r
  | _, _, _ + 1, .nil => .nil
  | _, _, n + 1, .cons _ t => DtA.drop n t
def cutA {α : Type} (xs : List α) (lo hi : Option Int) : List α := (xs.drop (HT.sIx xs.length 0 lo)).take (HT.sIx xs.length xs.length hi - HT.sIx xs.length 0 lo)
theorem DtA.cut {H : Hp} {xs : List V} {ds : List PyData} (h : DtA H xs ds) : DtA H (cutV xs lo hi) (cutA ds lo hi) := by
  unfold cutV cutA
  rw [h.len]
  exact DtA.take _ (DtA.drop _ h)
theorem ev_slT (h : EvD te σ H (.tuple ds)) (h1 : EvO tl σ H lo) (h2 : EvO th σ H hi) : EvD (tSl (rSlA K) te tl th) σ H (.tuple (cutA ds lo hi)) := fun H1 a Q q =>
  h H1 a _ fun v H2 a2 r => h1 H2 (a.trans a2) _ fun H3 a3 => h2 H3 ((a.trans a2).trans a3) _ fun H4 a4 => by
    obtain ⟨p, xs, rfl, hp, rs⟩ := ((r.same a3).same a4).tup'
    refine ⟨p, xs, rfl, SqT.of hp, fun hw => ?_, fun _ l hl => ?_⟩
    · refine q _ H4 ((a2.trans a3).trans a4) ?_
      have e : cutA ds lo hi = ds := by
        unfold cutA
        rw [← rs.len, hw.1, hw.2, List.drop_zero, Nat.sub_zero, rs.len, List.take_length]
      rw [e]
      exact .tup hp rs
    · exact q _ _ (((a2.trans a3).trans a4).trans (Same.new hl)) (.tup upd_same ((DtA.cut rs).same (Same.new hl)))
theorem el_slL (h : EvR K te σ H ds) (h1 : EvO tl σ H lo) (h2 : EvO th σ H hi) : EvL (tSl (rSlL K) te tl th) σ H (cutA ds lo hi) := fun H1 a Q q =>
  h H1 a _ fun p H2 a2 r => h1 H2 (a.trans a2) _ fun H3 a3 => h2 H3 ((a.trans a2).trans a3) _ fun H4 a4 => by
    obtain ⟨xs, hp, rs⟩ := (r.same a3).same a4
    exact ⟨p, xs, rfl, hp, fun l hl => q l _ _ (fresh_back ((a2.trans a3).trans a4) hl) (((a2.trans a3).trans a4).trans (Same.new hl)) upd_same ((DtA.cut rs).same (Same.new hl))⟩
theorem inV_ints (i : Int) (ns : List Int) : inV (.int i) (ns.map V.int) = ns.any (· == i) := by
  unfold inV
  rw [List.any_map]
  congr 1
theorem flat_ints (ns : List Int) : (ns.map V.int).all flatV = true := by
  rw [List.all_map, List.all_eq_true]
  intro x _
  rfl
theorem ev_inT {ns : List Int} (ha : EvD ta σ H (.int i)) (hb : EvD tb σ H (tI ns)) : EvD (tOp (rIn K false) ta tb) σ H (.bool (ns.any (· == i))) := fun H1 a Q q =>
  ha H1 a _ fun v H2 a2 r => hb H2 (a.trans a2) _ fun w H3 a3 r3 => by
    obtain ⟨p, rfl, hp⟩ := r3.tI
    rw [r.int']
    refine ⟨p, _, rfl, .inr (SqT.of hp), rfl, flat_ints ns, ?_⟩
    rw [if_neg Bool.false_ne_true, inV_ints]
    exact q _ H3 (a2.trans a3) (.bl _)
theorem ev_inL {ns : List Int} (ha : EvD ta σ H (.int i)) (hb : EvR K tb σ H (ns.map .int)) : EvD (tOp (rIn K false) ta tb) σ H (.bool (ns.any (· == i))) := fun H1 a Q q =>
  ha H1 a _ fun v H2 a2 r => hb H2 (a.trans a2) _ fun p H3 a3 r3 => by
    rw [r.int']
    refine ⟨p, _, rfl, .inl r3.ints, rfl, flat_ints ns, ?_⟩
    rw [if_neg Bool.false_ne_true, inV_ints]
    exact q _ H3 (a2.trans a3) (.bl _)
theorem ev_ltT {ns ms : List Int} (ha : EvD ta σ H (tI ns)) (hb : EvD tb σ H (tI ms)) : EvD (tOp (rLtT K) ta tb) σ H (.bool (HT.lexLt ns ms)) := fun H1 a Q q =>
  ha H1 a _ fun v H2 a2 r => hb H2 (a.trans a2) _ fun w H3 a3 r3 => by
    obtain ⟨p, rfl, hp⟩ := (r.same a3).tI
    obtain ⟨p2, rfl, hp2⟩ := r3.tI
    exact ⟨p, p2, ns, ms, rfl, rfl, SqT.of hp, SqT.of hp2, q _ H3 (a2.trans a3) (.bl _)⟩
def lexLe (ns ms : List Int) : Bool := Ob.lexAt (fun j => decide (ns.getD j 0 = ms.getD j 0)) (fun j => decide (ns.getD j 0 ≤ ms.getD j 0)) (decide (ns.length ≤ ms.length)) 0 (min ns.length ms.length)
theorem ev_leT {ns ms : List Int} (ha : EvD ta σ H (tI ns)) (hb : EvD tb σ H (tI ms)) : EvD (tOp (rLeT K) ta tb) σ H (.bool (lexLe ns ms)) := fun H1 a Q q =>
  ha H1 a _ fun v H2 a2 r => hb H2 (a.trans a2) _ fun w H3 a3 r3 => by
    obtain ⟨p, rfl, hp⟩ := (r.same a3).tI
    obtain ⟨p2, rfl, hp2⟩ := r3.tI
    exact ⟨p, p2, ns, ms, rfl, rfl, SqT.of hp, SqT.of hp2, q _ H3 (a2.trans a3) (.bl _)⟩
/-- stars -/
theorem ea_starT (h : EvD te σ H (.tuple es)) (hr : EvA tr σ H ds) : EvA (tStar K te tr) σ H (es ++ ds) := fun H1 a _ q =>
  h H1 a _ fun v H2 a2 r => by
    obtain ⟨p, xs, rfl, hp, rs⟩ := r.tup'
    exact ⟨p, xs, rfl, .inl (SqT.of hp), hr H2 (a.trans a2) _ fun vs H3 a3 r3 => q _ H3 (a2.trans a3) (DtA.app (rs.same a3) r3)⟩
theorem ea_starL (h : EvR K te σ H es) (hr : EvA tr σ H ds) : EvA (tStar K te tr) σ H (es ++ ds) := fun H1 a _ q =>
  h H1 a _ fun p H2 a2 ⟨xs, hp, rs⟩ => ⟨p, xs, rfl, .inr hp, hr H2 (a.trans a2) _ fun vs H3 a3 r3 => q _ H3 (a2.trans a3) (DtA.app (rs.same a3) r3)⟩
/-- [d] * k, (d,) * k -/
theorem rep_flat {α : Type} (x : α) : ∀ n : Nat, (List.replicate n [x]).flatten = List.replicate n x
  | 0 => rfl
  | n + 1 => by rw [List.replicate_succ, List.flatten_cons, rep_flat x n]; rfl
theorem DtA.rep {H : Hp} {x : V} {d : PyData} (h : Dt H x d) : ∀ n : Nat, DtA H (List.replicate n x) (List.replicate n d)
  | 0 => .nil
  | n + 1 => .cons h (DtA.rep h n)
theorem el_rep1 (ha : EvL ta σ H [d]) (hb : EvD tb σ H (.int i)) (hi : -1000 ≤ i ∧ i ≤ 1000) : EvL (tOp rRep ta tb) σ H (List.replicate i.toNat d) := fun H1 a Q q =>
  ha H1 a _ fun p vs H2 hp a2 h2 r => hb H2 (a.trans a2) _ fun w H3 a3 r3 => by
    cases r with
    | cons r1 r2 =>
      cases r2
      rw [r3.int']
      refine ⟨p, i, _, rfl, rfl, a3 _ _ h2, by omega, by omega, ?_, fun l hl => ?_⟩
      · show 1 * i.toNat ≤ sizeLine
        have : (1000 : Nat) ≤ sizeLine := by decide
        omega
      · rw [rep_flat]
        exact q l _ _ (fresh_back (a2.trans a3) hl) ((a2.trans a3).trans (Same.new hl)) upd_same ((DtA.rep (r1.same a3) _).same (Same.new hl))
/-- t + u -/
theorem ev_catT (ha : EvD ta σ H (.tuple ds)) (hb : EvD tb σ H (.tuple es)) (hl : ds.length + es.length ≤ 100000) : EvD (tOp (rCatA K) ta tb) σ H (.tuple (ds ++ es)) := fun H1 a Q q =>
  ha H1 a _ fun v H2 a2 r => hb H2 (a.trans a2) _ fun w H3 a3 r3 => by
    obtain ⟨p, xs, rfl, hp, rs⟩ := (r.same a3).tup'
    obtain ⟨p2, ys, rfl, hp2, rs2⟩ := r3.tup'
    refine ⟨p, p2, xs, ys, rfl, rfl, SqT.of hp, SqT.of hp2, by rw [rs.len, rs2.len]; exact Nat.le_trans hl (by decide), fun hx => ?_, fun _ hy => ?_, fun _ _ l hl => ?_⟩
    · subst hx
      cases rs
      exact q _ H3 (a2.trans a3) (.tup hp2 rs2)
    · subst hy
      cases rs2
      refine q _ H3 (a2.trans a3) ?_
      rw [List.append_nil]
      exact .tup hp rs
    · exact q _ _ ((a2.trans a3).trans (Same.new hl)) (.tup upd_same ((DtA.app rs rs2).same (Same.new hl)))
/-- a list that the def itself has made -/
def EvN (te : TE) (σ : L2.St) (H : Hp) (ds : List PyData) : Prop := ∀ H1, Same H H1 → ∀ Q : VK, (∀ p vs H2, Same H1 H2 → H2 p = some (.lst vs) → DtA H2 vs ds → Q (.ref p) H2) → te σ H1 Q
theorem EvL.n (h : EvL te σ H ds) : EvN te σ H ds := fun H1 a Q q => h H1 a Q fun p vs H2 _ a2 h2 r => q p vs H2 a2 h2 r
theorem EvX.n {p : Addr} {vs : List V} (h : EvX te σ H (.ref p)) (hp : H p = some (.lst vs)) (r : DtA H vs ds) : EvN te σ H ds := fun H1 a Q q => h H1 a Q fun H2 a2 => q p vs H2 a2 ((a.trans a2) _ _ hp) (r.same (a.trans a2))
theorem EvN.r (h : EvN te σ H ds) : EvR K te σ H ds := fun H1 a Q q => h H1 a Q fun p vs H2 a2 h2 r => q p H2 a2 ⟨vs, SqL.of h2, r⟩
theorem el_cat (ha : EvN ta σ H ds) (hb : EvN tb σ H es) (hl : ds.length + es.length ≤ 100000) : EvL (tOp rCat ta tb) σ H (ds ++ es) := fun H1 a Q q =>
  ha H1 a _ fun p xs H2 a2 h2 r => hb H2 (a.trans a2) _ fun p2 ys H3 a3 h3 r3 =>
    ⟨p, p2, xs, ys, rfl, rfl, a3 _ _ h2, h3, by rw [r.len, r3.len]; exact Nat.le_trans hl (by decide), fun l hl => q l _ _ (fresh_back (a2.trans a3) hl) ((a2.trans a3).trans (Same.new hl)) upd_same ((DtA.app (r.same a3) r3).same (Same.new hl))⟩
/-- a call with one argument, a new list -/
theorem ev_callA {sp : Sp} {E : XK} (h : EvL te σ H ds) (hs : ∀ p vs H2, H2 p = some (.lst vs) → DtA H2 vs ds → ∀ H3, Same H2 H3 → ∀ Q : VK, (∀ v H4, Same H3 H4 → Dt H4 v d → Q v H4) → sp [.ref p] H3 Q E) : EvD (tCall sp [] E (tCons te tNil)) σ H d := fun H1 a Q q =>
  h H1 a _ fun p vs H2 _ a2 h2 r => hs p vs H2 h2 r H2 (Same.refl _) Q fun v H4 a4 r4 => q v H4 (a2.trans a4) r4
/-- two lists walked together -/
theorem wk_zipL {t1 t2 : TE} (h1 : EvR K t1 σ H ds) (h2 : EvR K t2 σ H es) : Wk (Kp K) (iZipA K (tCons t1 (tCons t2 tNil))) σ H (zipD ds es) := fun H1 a R k => h1 H1 a _ fun p H2 a2 r => h2 H2 (a.trans a2) _ fun p2 H3 a3 r2 => by
  obtain ⟨xs, hp, rs⟩ := r.same a3
  obtain ⟨ys, hp2, rs2⟩ := r2
  refine ⟨p, p2, xs, ys, rfl, .inl ⟨hp, hp2, k _ H3 (a2.trans a3) fun H' kp => ⟨fun i d hd => ?_, ⟨xs, ys, kp.lst _ _ hp, kp.lst _ _ hp2, ?_⟩⟩⟩⟩
  · obtain ⟨x, y, hx, hy, rfl⟩ := zipD_at hd
    obtain ⟨v, hv, rv⟩ := DtA.at' rs hx
    obtain ⟨w, hw, rw'⟩ := DtA.at' rs2 hy
    refine ⟨⟨xs, ys, v, w, kp.lst _ _ hp, kp.lst _ _ hp2, hv, hw⟩, fun z H'' hz => ?_⟩
    obtain ⟨T, v', w', e3, hT, e4, f1, f2⟩ := hz
    have g1 := f1 xs (kp.lst _ _ hp)
    have g2 := f2 ys (kp.lst _ _ hp2)
    rw [hv] at g1
    rw [hw] at g2
    cases g1
    cases g2
    subst e3 e4
    exact ⟨Same.new hT, .tup upd_same (.cons ((rv.kp kp).same (Same.new hT)) (.cons ((rw'.kp kp).same (Same.new hT)) .nil))⟩
  · rw [rs.len, rs2.len]
    unfold zipD
    rw [List.length_zipWith]
    omega
end
/-- a pair, a triple of ints -/
abbrev kD (k : Int × Int) : PyData := tI [k.1, k.2]
abbrev rD (r : Int × Int × Int) : PyData := tI [r.1, r.2.1, r.2.2]
/-! ### the rules with the written part named (so that they serve within comprehensions) -/
section
variable {X : Cx} (K : PySem.W.Frag)
theorem k_sl_list (h : X.K = K := by rfl) : SlR X (rSlL K) := h ▸ sl_list
theorem k_sl_tupA (h : X.K = K := by rfl) : SlR X (rSlA K) := h ▸ sl_tupA
theorem k_ix_list (h : X.K = K := by rfl) : IxR X (rIxL K) := h ▸ ix_list
theorem k_ix_tup (h : X.K = K := by rfl) : IxR X (rIxT K) := h ▸ ix_tup
theorem k_op_ltT (hu : X.A.units < cLine) (h : X.K = K := by rfl) : OpR X (compareOp .Lt) (rLtT K) := h ▸ op_ltT hu
theorem k_op_leT (hu : X.A.units < cLine) (h : X.K = K := by rfl) : OpR X (compareOp .LtE) (rLeT K) := h ▸ op_leT hu
theorem k_op_catA (h : X.K = K := by rfl) : OpR X (binaryOp .Add) (rCatA K) := h ▸ op_catA
theorem k_op_repT (h : X.K = K := by rfl) : OpR X (binaryOp .Mult) (rRepT K) := h ▸ op_repT
theorem k_op_in_seq (h : X.K = K := by rfl) : OpR X (compareOp .In) (rIn K false) := h ▸ op_in_seq
theorem k_op_eqD (hu : X.A.units + 64 < cLine) (h : X.K = K := by rfl) : OpR X (compareOp .Eq) (rEqD K) := h ▸ op_eqD hu
theorem k_op_neD (hu : X.A.units + 64 < cLine) (h : X.K = K := by rfl) : OpR X (compareOp .NotEq) (rNeD K) := h ▸ op_neD hu
theorem k_call_len_seq (h : X.K = K := by rfl) : CallR X (.builtin "len") (fun xs H Q => ∃ p ys, xs = [.ref p] ∧ (SqL K H p ys ∨ SqT K H p ys) ∧ Q (.int ys.length) H) := h ▸ call_len_seq
theorem k_call_list_of (h : X.K = K := by rfl) : CallR X (.type "list") (fun xs H Q => ∃ p ys, xs = [.ref p] ∧ (SqL K H p ys ∨ SqT K H p ys) ∧ ∀ l, H l = none → Q (.ref l) (upd H l (.lst ys))) := h ▸ call_list_of
theorem k_call_tuple_of (h : X.K = K := by rfl) : CallR X (.type "tuple") (fun xs H Q => ∃ p ys, xs = [.ref p] ∧ ((SqL K H p ys ∧ ∀ l, H l = none → Q (.ref l) (upd H l (.tup ys))) ∨ (SqT K H p ys ∧ Q (.ref p) H))) := h ▸ call_tuple_of
theorem k_call_isi (h : X.K = K := by rfl) : CallR X (.builtin "isinstance") (rIsi K) := h ▸ call_isi
theorem k_cr_sum (hc : X.calm = true) (h : X.K = K := by rfl) : CallR X (.builtin "sum") (rSum K) := h ▸ cr_sum hc
theorem k_cr_max (hc : X.calm = true) (h : X.K = K := by rfl) : CallR X (.builtin "max") (rMax K) := h ▸ cr_max hc
theorem k_cr_min (hc : X.calm = true) (h : X.K = K := by rfl) : CallR X (.builtin "min") (rMin K) := h ▸ cr_min hc
theorem k_cr_any (hc : X.calm = true) (h : X.K = K := by rfl) : CallR X (.builtin "any") (rAny K) := h ▸ cr_any hc
theorem k_cr_all (hc : X.calm = true) (h : X.K = K := by rfl) : CallR X (.builtin "all") (rAll K) := h ▸ cr_all hc
theorem k_cr_sortedI (h : X.K = K := by rfl) : CallR X (.builtin "sorted") (rSortedI K) := h ▸ cr_sortedI
theorem k_pi_list {tg l : Expr} {tl : TE} (hl : PE X l tl) (h : X.K = K := by rfl) : PI X tg l (iList K tl) := h ▸ pi_list hl
theorem k_pi_tup {tg l : Expr} {tl : TE} (hl : PE X l tl) (h : X.K = K := by rfl) : PI X tg l (iTup K tl) := h ▸ pi_tup hl
theorem k_pi_zipA {e e2 : Expr} {ta : TA} {p pos tpos : Pos} {elts : List Expr} {kk : Nat} (hg : Gl X "zip") (hm : X.mg "zip" = none) (ha : PA X [e, e2] ta) (h : X.K = K := by rfl)
    (hs : starEach [e, e2] X.env = (false, eval e X.env) :: starEach [e2] X.env := by rfl) (hpl : (backTo pos (starEach [e2] X.env)).any (·.1) = false := by rfl) : PI X (.Tuple elts kk tpos) (.Call (.Name "zip" p) [e, e2] [] pos) (iZipA K ta) := h ▸ pi_zipA hg hm ha hs hpl
theorem k_pg_tup {es : List Expr} {k : Nat} {t : TGs} (n : Nat) {pos : Pos} (hc : X.calm = true) (h1 : PGs X es t) (h : X.K = K := by rfl)
    (hn : (assignEach es X.env).length = n := by rfl) (hst : (assignEach es X.env).findIdx? (·.1) = none := by rfl) : PG X (.Tuple es k pos) (gTup K n t) := h ▸ pg_tup hc h1 hn hst
theorem k_pa_star {e : Expr} {es : List Expr} {te : TE} {t : TA} {p : Pos} (he : PE X e te) (hr : PA X es t) (h : X.K = K := by rfl) (hs : starEach (.Starred e p :: es) X.env = (true, eval e X.env) :: starEach es X.env := by rfl) : PA X (.Starred e p :: es) (tStar K te t) := h ▸ pa_star he hr hs
end
end SB
namespace SB
theorem ld_done : ∀ n ∈ (List.range 111).drop 2, ∀ f ∈ (List.range 12).drop 2, ((List.range f).drop 2).all (fun d => n % d != 0) = true → (n % f = 0 ∨ n < f * f) → (if n % f = 0 then f else n) = lp n := by decide +kernel
theorem mem_drop2 {n m : Nat} (h1 : 2 ≤ n) (h2 : n < m) : n ∈ (List.range m).drop 2 := by
  rw [List.mem_iff_getElem]
  refine ⟨n - 2, by simp; omega, by simp; omega⟩
theorem mem_drop1 {n m : Nat} (h1 : 1 ≤ n) (h2 : n < m) : n ∈ (List.range m).drop 1 := by
  rw [List.mem_iff_getElem]
  refine ⟨n - 1, by simp; omega, by simp; omega⟩
theorem lp_ok : ∀ n ∈ (List.range 111).drop 2, 2 ≤ lp n ∧ lp n < 111 ∧ 1 ≤ (strip1 (lp n) n 1 n).2 ∧ (strip1 (lp n) n 1 n).2 < n := by decide +kernel
theorem parts_ok : ∀ n ∈ (List.range 111).drop 1, isort ((partsL n).map lp) = primesL n ∧ (partsL n).all (fun p => decide (2 ≤ p) && decide (p < 111)) = true := by decide +kernel
theorem ins_perm (x : Nat) : ∀ l, (ins x l).Perm (x :: l)
  | [] => .refl _
  | y :: ys => by
    unfold ins
    split
    · exact .refl _
    · exact ((ins_perm x ys).cons y).trans (.swap x y ys)
theorem isort_perm : ∀ l, (isort l).Perm l
  | [] => .refl _
  | x :: xs => (ins_perm x _).trans ((isort_perm xs).cons x)
theorem ins_sorted (x : Nat) : ∀ l, l.Pairwise (· ≤ ·) → (ins x l).Pairwise (· ≤ ·)
  | [], _ => by simp [ins]
  | y :: ys, h => by
    unfold ins
    split
    · rename_i hx
      refine .cons (fun z hz => ?_) h
      rcases List.mem_cons.mp hz with e | e
      · omega
      · exact Nat.le_trans hx (List.rel_of_pairwise_cons h e)
    · rename_i hx
      refine .cons (fun z hz => ?_) (ins_sorted x ys h.of_cons)
      rcases List.mem_cons.mp ((ins_perm x ys).mem_iff.mp hz) with e | e
      · omega
      · exact List.rel_of_pairwise_cons h e
theorem isort_sorted : ∀ l, (isort l).Pairwise (· ≤ ·)
  | [] => .nil
  | x :: xs => ins_sorted x _ (isort_sorted xs)
abbrev zs (l : List Nat) : List Int := l.map fun (k : Nat) => (k : Int)
theorem zs_perm {l l' : List Nat} (h : l.Perm l') : (zs l).Perm (zs l') := h.map _
theorem zs_sorted {l : List Nat} (h : l.Pairwise (· ≤ ·)) : (zs l).Pairwise (· ≤ ·) := List.pairwise_map.mpr (h.imp fun h => by omega)
theorem strip1_step {p f part r : Nat} (h : r % p = 0) : strip1 p (f + 1) part r = strip1 p f (part * p) (r / p) := by
  unfold strip1
  rw [if_pos (by simpa using h)]
  cases f <;> rfl
theorem strip1_end {p f part r : Nat} (h : r % p ≠ 0) : strip1 p f part r = (part, r) := by
  cases f with
  | zero => rfl
  | succ f =>
    unfold strip1
    rw [if_neg (by simpa using h)]
theorem partsM_step {f r : Nat} {acc : List Nat} (h : 1 < r) : partsM (f + 1) acc r = partsM f (acc ++ [(strip1 (lp r) r 1 r).1]) (strip1 (lp r) r 1 r).2 := by
  show (if 1 < r then _ else _) = _
  rw [if_pos h]
theorem partsM_end {f r : Nat} {acc : List Nat} (h : ¬ 1 < r) : partsM f acc r = acc := by
  cases f with
  | zero => rfl
  | succ f =>
    show (if 1 < r then _ else _) = _
    rw [if_neg h]
end SB
namespace SB
theorem parts_short : ∀ n ∈ (List.range 111).drop 1, (partsL n).length ≤ 10 := by decide +kernel
theorem parts_len (n : Nat) (h : 1 ≤ n ∧ n < 111) : (partsL n).length ≤ 10 := parts_short n (mem_drop1 h.1 h.2)
end SB
namespace SB
theorem of_drop1 {x m : Nat} (h : x ∈ (List.range m).drop 1) : 1 ≤ x ∧ x < m := by
  obtain ⟨i, hi, e⟩ := List.mem_iff_getElem.mp h
  simp at e hi
  omega
theorem of_drop2 {x m : Nat} (h : x ∈ (List.range m).drop 2) : 2 ≤ x ∧ x < m := by
  obtain ⟨i, hi, e⟩ := List.mem_iff_getElem.mp h
  simp at e hi
  omega
theorem mod_b (n x : Nat) : decide ((n : Int) % (x : Int) = 0) = (n % x == 0) := by
  rw [Bool.beq_eq_decide_eq]
  norm_cast
end SB
namespace SB
/-! ### polygons, heaps -/
abbrev Row := Int × Int × Int
def polyB (n : Nat) (p f : Int) : Bool := (zs (primesL n)).any (· == p) && (decide (0 ≤ f) && decide (f < (n : Int) / p))
def rowB (n : Nat) (r : Row) : Bool := polyB n r.1 r.2.1 && !decide (r.2.2 = 0)
def ltK (a b : Int × Int) : Bool := if a.1 = b.1 then decide (a.2 < b.2) else decide (a.1 < b.1)
def ascB (ks : List (Int × Int)) : Bool := (List.zipWith ltK ks ks.tail).all id
def keyR (r : Row) : Int × Int := (r.1, r.2.1)
def heapB (n : Nat) (rows : List Row) : Bool := rows.all (rowB n) && ascB (rows.map keyR)
def vbh (n : Nat) (rows : List Row) : List Int := (List.range n).map fun (b : Nat) => ((rows.filter fun r => decide ((b : Int) % ((n : Int) / r.1) = r.2.1)).map (·.2.2)).sum
/-! ### rests by the primes -/
def crt1 (found step p r : Nat) : Nat := found + step * (((List.range p).find? fun k => (found + step * k) % p == r).getD 0)
def crt : List Nat → List Nat → Nat → Nat → Nat
  | p :: ps, r :: rs, found, step => crt ps rs (crt1 found step p r) (step * p)
  | _, _, found, _ => found
def crtOk : List Nat → List Nat → Nat → Nat → Bool
  | p :: ps, r :: rs, found, step => ((List.range p).find? fun k => (found + step * k) % p == r).isSome && decide (2 ≤ p) && decide (p < 111) && crtOk ps rs (crt1 found step p r) (step * p)
  | [], [], _, _ => true
  | _, _, _, _ => false
def beatL (n c : Nat) (rs : List Nat) : Nat := c + stepL n * crt (primesL n) rs 0 1
def grow (found : List (List Nat)) (p : Nat) : List (List Nat) := found.flatMap fun one => (List.range p).map fun r => one ++ [r]
def allR (ps : List Nat) : List (List Nat) := ps.foldl grow [[]]
/-! ### dicts of counts -/
abbrev Cts := List ((Int × Int) × Int)
def getC : Cts → Int × Int → Int
  | [], _ => 0
  | e :: r, k => if e.1 = k then e.2 else getC r k
def putC : Cts → Int × Int → Int → Cts
  | [], k, m => [(k, m)]
  | e :: r, k, m => if e.1 = k then (e.1, e.2 + m) :: r else e :: putC r k m
def insK (x : Int × Int) : List (Int × Int) → List (Int × Int)
  | [] => [x]
  | y :: ys => if ltK x y then x :: y :: ys else y :: insK x ys
def sortK (l : List (Int × Int)) : List (Int × Int) := l.foldr insK []
def heapL (C : Cts) : List Row := ((sortK (C.map (·.1))).filter fun k => !decide (getC C k = 0)).map fun k => (k.1, k.2, getC C k)
/-! ### heaps of any sign -/
def chStep (found : List (List Bool)) : List (List Bool) := found.flatMap fun one => [one ++ [false], one ++ [true]]
def chN : Nat → List (List Bool) → List (List Bool)
  | 0, f => f
  | n + 1, f => chN n (chStep f)
def chL (many k : Nat) : List (List Bool) := chN (many - k - 1) [List.replicate k false ++ [true]]
def heldL (rs : List Nat) (ch : List Bool) : List Nat := List.zipWith (fun r h => if h then 0 else r) rs ch
def sgn (ch : List Bool) : Int := if ((ch.filter id).length : Int) % 2 = 1 then 1 else -1
def manyL (n : Nat) (v : List Int) (c k : Nat) (rs : List Nat) : Int := ((chL (primesL n).length k).map fun ch => sgn ch * v.getD (beatL n c (heldL rs ch)) 0).sum
def putsAt (n : Nat) (v : List Int) (c : Nat) (pk : Nat × Nat) : List ((Int × Int) × Int) :=
  ((allR (primesL n)).filter fun rs => rs.getD pk.2 0 == 0).map fun rs => (((pk.1 : Int), ((beatL n c rs % (n / pk.1) : Nat) : Int)), manyL n v c pk.2 rs)
def putsC (n : Nat) (v : List Int) (c : Nat) : List ((Int × Int) × Int) := ((primesL n).zipIdx).flatMap (putsAt n v c)
def putAll (C : Cts) (l : List ((Int × Int) × Int)) : Cts := l.foldl (fun C e => putC C e.1 e.2) C
def signedC (n : Nat) (v : List Int) : Cts := putAll [] ((List.range (if 1 < n then stepL n else 0)).flatMap (putsC n v))
def signedL (n : Nat) (v : List Int) : List Row := heapL (signedC n v)
/-! ### polynomials -/
def stripN (l : List Int) : Nat → Nat
  | 0 => 0
  | n + 1 => if l.getD n 0 = 0 then stripN l n else n + 1
def stripL (l : List Int) : List Int := l.take (stripN l l.length)
def subAt : Nat → Int → List Int → List Int → List Int
  | 0, g, d :: ds, r :: rs => (r - g * d) :: subAt 0 g ds rs
  | 0, _, [], rs => rs
  | 0, _, _, [] => []
  | k + 1, g, ds, r :: rs => r :: subAt k g ds rs
  | _ + 1, _, _, [] => []
def divL (d : List Int) (m : Nat) : Nat → List Int → List Int → List Int × List Int
  | 0, g, r => (g, r)
  | k + 1, g, r => divL d m k (g.set k (r.getD (k + m) 0)) (subAt k (r.getD (k + m) 0) d r)
def pparted (one d : List Int) : List Int × List Int :=
  let r := divL d (d.length - 1) (one.length + 1 - d.length) (one.map fun _ => 0) one
  (stripL r.1, stripL r.2)
def aroundL (n : Nat) : List Int := -1 :: (List.replicate (n - 1) 0 ++ [1])
def cycLate (one : Nat) (found : List (Nat × List Int)) : List Int := found.foldl (fun late e => if one % e.1 == 0 then (pparted late e.2).1 else late) (aroundL one)
/-- the cyclotomic polynomials that are asked for -/
def cycTab : List (Nat × List Int) := [
  (1, [-1, 1]),
  (2, [1, 1]),
  (3, [1, 1, 1]),
  (4, [1, 0, 1]),
  (5, [1, 1, 1, 1, 1]),
  (6, [1, -1, 1]),
  (7, [1, 1, 1, 1, 1, 1, 1]),
  (8, [1, 0, 0, 0, 1]),
  (9, [1, 0, 0, 1, 0, 0, 1]),
  (10, [1, -1, 1, -1, 1]),
  (11, [1, 1, 1, 1, 1, 1, 1, 1, 1, 1, 1]),
  (12, [1, 0, -1, 0, 1]),
  (14, [1, -1, 1, -1, 1, -1, 1]),
  (15, [1, -1, 0, 1, -1, 1, 0, -1, 1]),
  (16, [1, 0, 0, 0, 0, 0, 0, 0, 1]),
  (18, [1, 0, 0, -1, 0, 0, 1]),
  (20, [1, 0, -1, 0, 1, 0, -1, 0, 1]),
  (21, [1, -1, 0, 1, -1, 0, 1, 0, -1, 1, 0, -1, 1]),
  (22, [1, -1, 1, -1, 1, -1, 1, -1, 1, -1, 1]),
  (24, [1, 0, 0, 0, -1, 0, 0, 0, 1]),
  (28, [1, 0, -1, 0, 1, 0, -1, 0, 1, 0, -1, 0, 1]),
  (30, [1, 1, 0, -1, -1, -1, 0, 1, 1]),
  (32, [1, 0, 0, 0, 0, 0, 0, 0, 0, 0, 0, 0, 0, 0, 0, 0, 1]),
  (35, [1, -1, 0, 0, 0, 1, -1, 1, -1, 0, 1, -1, 1, -1, 1, 0, -1, 1, -1, 1, 0, 0, 0, -1, 1]),
  (36, [1, 0, 0, 0, 0, 0, -1, 0, 0, 0, 0, 0, 1]),
  (42, [1, 1, 0, -1, -1, 0, 1, 0, -1, -1, 0, 1, 1]),
  (45, [1, 0, 0, -1, 0, 0, 0, 0, 0, 1, 0, 0, -1, 0, 0, 1, 0, 0, 0, 0, 0, -1, 0, 0, 1]),
  (55, [1, -1, 0, 0, 0, 1, -1, 0, 0, 0, 1, 0, -1, 0, 0, 1, 0, -1, 0, 0, 1, 0, 0, -1, 0, 1, 0, 0, -1, 0, 1, 0, 0, 0, -1, 1, 0, 0, 0, -1, 1]),
  (60, [1, 0, 1, 0, 0, 0, -1, 0, -1, 0, -1, 0, 0, 0, 1, 0, 1]),
  (64, [1, 0, 0, 0, 0, 0, 0, 0, 0, 0, 0, 0, 0, 0, 0, 0, 0, 0, 0, 0, 0, 0, 0, 0, 0, 0, 0, 0, 0, 0, 0, 0, 1]),
  (70, [1, 1, 0, 0, 0, -1, -1, -1, -1, 0, 1, 1, 1, 1, 1, 0, -1, -1, -1, -1, 0, 0, 0, 1, 1]),
  (84, [1, 0, 1, 0, 0, 0, -1, 0, -1, 0, 0, 0, 1, 0, 0, 0, -1, 0, -1, 0, 0, 0, 1, 0, 1]),
  (90, [1, 0, 0, 1, 0, 0, 0, 0, 0, -1, 0, 0, -1, 0, 0, -1, 0, 0, 0, 0, 0, 1, 0, 0, 1]),
  (97, [1, 1, 1, 1, 1, 1, 1, 1, 1, 1, 1, 1, 1, 1, 1, 1, 1, 1, 1, 1, 1, 1, 1, 1, 1, 1, 1, 1, 1, 1, 1, 1, 1, 1, 1, 1, 1, 1, 1, 1, 1, 1, 1, 1, 1, 1, 1, 1, 1, 1, 1, 1, 1, 1, 1, 1, 1, 1, 1, 1, 1, 1, 1, 1, 1, 1, 1, 1, 1, 1, 1, 1, 1, 1, 1, 1, 1, 1, 1, 1, 1, 1, 1, 1, 1, 1, 1, 1, 1, 1, 1, 1, 1, 1, 1, 1, 1]),
  (105, [1, 1, 1, 0, 0, -1, -1, -2, -1, -1, 0, 0, 1, 1, 1, 1, 1, 1, 0, 0, -1, 0, -1, 0, -1, 0, -1, 0, -1, 0, 0, 1, 1, 1, 1, 1, 1, 0, 0, -1, -1, -2, -1, -1, 0, 0, 1, 1, 1]),
  (110, [1, 1, 0, 0, 0, -1, -1, 0, 0, 0, 1, 0, -1, 0, 0, -1, 0, 1, 0, 0, 1, 0, 0, 1, 0, -1, 0, 0, -1, 0, 1, 0, 0, 0, -1, -1, 0, 0, 0, 1, 1])]
def cyc (n : Nat) : List Int := (cycTab.lookup n).getD []
def padTo (l : List Int) (n : Nat) : List Int := l ++ List.replicate (n - l.length) 0
def splitL (v : List Int) (d : Nat) : List Int × List Int := let r := pparted (stripL v) (cyc d); (r.1, padTo r.2 (phi d))
def restL (v : List Int) (d : Nat) : List Int := (splitL v d).2
def silentB (v : List Int) (d : Nat) : Bool := (restL v d).all fun x => decide (x = 0)
def silencesL (v : List Int) : List Nat := (divsL v.length).filter (silentB v)
def foldL (v : List Int) (d : Nat) : List Int := (List.range d).map fun b => ((List.range (v.length / d)).map fun t => v.getD (b + t * d) 0).sum
end SB
namespace SB
theorem mem_primes {n p : Nat} (h : p ∈ primesL n) : 2 ≤ p ∧ p ≤ n ∧ n % p = 0 ∧ lp p = p := by
  unfold primesL at h
  obtain ⟨h1, h2⟩ := List.mem_filter.mp h
  have h3 := of_drop2 h1
  simp only [Bool.and_eq_true, beq_iff_eq] at h2
  exact ⟨h3.1, by omega, h2.1, h2.2⟩
theorem any_zs {l : List Nat} {p : Int} (h : (zs l).any (· == p) = true) : ∃ q : Nat, q ∈ l ∧ p = q := by
  obtain ⟨x, hx, e⟩ := List.any_eq_true.mp h
  obtain ⟨q, hq, rfl⟩ := List.mem_map.mp hx
  exact ⟨q, hq, (eq_of_beq e).symm⟩
theorem any_zs_of {l : List Nat} {q : Nat} (h : q ∈ l) : (zs l).any (· == (q : Int)) = true :=
  List.any_eq_true.mpr ⟨q, List.mem_map.mpr ⟨q, h, rfl⟩, by simp⟩
theorem polyB_of {n : Nat} {p f : Int} (h : polyB n p f = true) : ∃ q g : Nat, q ∈ primesL n ∧ p = q ∧ f = g ∧ g < n / q := by
  unfold polyB at h
  simp only [Bool.and_eq_true, decide_eq_true_eq] at h
  obtain ⟨h1, h2, h3⟩ := h
  obtain ⟨q, hq, rfl⟩ := any_zs h1
  refine ⟨q, f.toNat, hq, rfl, by omega, ?_⟩
  have : ((n : Int) / (q : Int)) = ((n / q : Nat) : Int) := by norm_cast
  rw [this] at h3
  omega
theorem polyB_mk {n q g : Nat} (h1 : q ∈ primesL n) (h2 : g < n / q) : polyB n q g = true := by
  unfold polyB
  rw [any_zs_of h1]
  have : ((n : Int) / (q : Int)) = ((n / q : Nat) : Int) := by norm_cast
  rw [this]
  simp
  omega
theorem primes_small : ∀ n ∈ (List.range 111).drop 1, (primesL n).length ≤ 3 ∧ 1 ≤ stepL n ∧ stepL n ≤ n ∧ (List.range 4).all (fun k => decide ((allR ((primesL n).take k)).length ≤ 200)) = true := by decide +kernel
theorem crt_ok : ∀ n ∈ sizes, (List.range (stepL n)).all (fun c => (allR (primesL n)).all fun rs => crtOk (primesL n) rs 0 1 && decide (beatL n c rs < n)) = true := by decide +kernel
theorem size_lt : ∀ n ∈ sizes, 1 ≤ n ∧ n < 111 := by decide
theorem crtOk_len : ∀ {ps rs : List Nat} {f s : Nat}, crtOk ps rs f s = true → ps.length = rs.length
  | [], [], _, _, _ => rfl
  | _ :: _, _ :: _, _, _, h => by
    unfold crtOk at h
    simp only [Bool.and_eq_true] at h
    simp [crtOk_len h.2]
theorem crt1_of {found step p r k : Nat} (h : (List.range p).find? (fun k => (found + step * k) % p == r) = some k) : crt1 found step p r = found + step * k ∧ k < p ∧ (found + step * k) % p = r ∧ ∀ j, j < k → (found + step * j) % p ≠ r := by
  obtain ⟨h1, h2, h3⟩ := List.find?_range_eq_some.mp h
  refine ⟨by unfold crt1; rw [h]; rfl, List.mem_range.mp h2, by simpa using h1, fun j hj => by simpa using h3 j hj⟩
theorem lexLt_pair (f : List Int → List Int → Bool) (h : ∀ a b xs ys, f (a :: xs) (b :: ys) = if a = b then f xs ys else decide (a < b)) (h0 : f [] [] = false) (a b : Int × Int) : f [a.1, a.2] [b.1, b.2] = ltK a b := by
  rw [h, h, h0]
  unfold ltK
  by_cases e : a.1 = b.1
  · rw [if_pos e, if_pos e]
    by_cases e2 : a.2 = b.2
    · rw [if_pos e2, e2]; simp
    · rw [if_neg e2]
  · rw [if_neg e, if_neg e]
end SB
namespace SB
theorem grow_map {α : Type} (e : List Nat → α) (l : List (List Nat)) (p : Nat) : (l.flatMap fun rs => (List.range p).map fun r => e (rs ++ [r])) = (grow l p).map e := by
  unfold grow
  rw [List.map_flatMap]
  simp only [List.map_map]
  rfl
end SB
namespace SB
theorem foldl_grow_len : ∀ (ps : List Nat) (l : List (List Nat)) (k : Nat), (∀ x ∈ l, x.length = k) → ∀ x ∈ ps.foldl grow l, x.length = k + ps.length
  | [], l, k, h, x, hx => by simpa using h x hx
  | p :: ps, l, k, h, x, hx => by
    have := foldl_grow_len ps (grow l p) (k + 1) (fun y hy => by
      unfold grow at hy
      obtain ⟨z, hz, hy⟩ := List.mem_flatMap.mp hy
      obtain ⟨r, _, rfl⟩ := List.mem_map.mp hy
      simp [h z hz]) x hx
    rw [this, List.length_cons]
    omega
theorem allR_len {ps x : List Nat} (h : x ∈ allR ps) : x.length = ps.length := by
  have := foldl_grow_len ps [[]] 0 (by simp) x h
  omega
end SB
namespace SB
theorem getD_of {l : List Int} {i : Nat} (h : i < l.length) : l[i]? = some (l.getD i 0) := by
  rw [List.getD_eq_getElem?_getD, List.getElem?_eq_getElem h]
  rfl
theorem stripN_le (l : List Int) : ∀ n, stripN l n ≤ n
  | 0 => Nat.le_refl _
  | n + 1 => by
    unfold stripN
    split
    · exact Nat.le_trans (stripN_le l n) (Nat.le_succ n)
    · exact Nat.le_refl _
theorem take_set {α : Type} (l : List α) (i : Nat) (x : α) (h : i < l.length) : (l.set i x).take (i + 1) = l.take i ++ [x] := by
  rw [List.take_add_one, List.take_set_of_le (Nat.le_refl i), List.getElem?_set_self h]
  rfl
theorem subAt_len : ∀ (k : Nat) (g : Int) (d r : List Int), (subAt k g d r).length = r.length
  | 0, g, d :: ds, r :: rs => by show (_ :: subAt 0 g ds rs).length = _; simp [subAt_len 0 g ds rs]
  | 0, _, [], [] => rfl
  | 0, _, [], _ :: _ => rfl
  | 0, _, _ :: _, [] => rfl
  | k + 1, g, ds, r :: rs => by show (_ :: subAt k g ds rs).length = _; simp [subAt_len k g ds rs]
  | _ + 1, _, _, [] => rfl
theorem subAt_get : ∀ (k : Nat) (g : Int) (d r : List Int) (i : Nat), (subAt k g d r).getD i 0 = if i < r.length ∧ k ≤ i then r.getD i 0 - g * d.getD (i - k) 0 else r.getD i 0
  | 0, g, d :: ds, r :: rs, 0 => by show r - g * d = _; simp
  | 0, g, d :: ds, r :: rs, i + 1 => by
    show (subAt 0 g ds rs).getD i 0 = _
    rw [subAt_get 0 g ds rs i]
    simp
  | 0, g, [], [], i => by show ([] : List Int).getD i 0 = _; simp
  | 0, g, [], r :: rs, i => by show (r :: rs).getD i 0 = _; simp
  | 0, _, _ :: _, [], i => by show ([] : List Int).getD i 0 = _; simp
  | k + 1, g, ds, r :: rs, 0 => by show r = _; simp
  | k + 1, g, ds, r :: rs, i + 1 => by
    show (subAt k g ds rs).getD i 0 = _
    rw [subAt_get k g ds rs i]
    simp
  | _ + 1, _, _, [], i => by show ([] : List Int).getD i 0 = _; simp
theorem ext_getD {l l' : List Int} (hl : l.length = l'.length) (h : ∀ i, i < l.length → l.getD i 0 = l'.getD i 0) : l = l' := by
  apply List.ext_getElem hl
  intro i h1 h2
  have := h i h1
  simpa [List.getD_eq_getElem?_getD, h1, h2] using this
theorem set_getD (l : List Int) (i j : Nat) (x : Int) : (l.set i x).getD j 0 = if i = j ∧ j < l.length then x else l.getD j 0 := by
  rw [List.getD_eq_getElem?_getD, List.getElem?_set, List.getD_eq_getElem?_getD]
  by_cases e : i = j
  · subst e
    by_cases h : i < l.length
    · simp [h]
    · simp [h]
  · simp [e]
/-- one more place of the inner loop -/
theorem subAt_step {k j : Nat} {g : Int} {d r : List Int} (hj : j < d.length) (hk : k + j < r.length) :
    (subAt k g (d.take j) r).set (k + j) ((subAt k g (d.take j) r).getD (k + j) 0 - g * d.getD j 0) = subAt k g (d.take (j + 1)) r := by
  apply ext_getD
  · rw [List.length_set, subAt_len, subAt_len]
  · intro i hi
    rw [List.length_set, subAt_len] at hi
    have td : ∀ m i, (d.take m).getD i 0 = if i < m then d.getD i 0 else 0 := fun m i => by
      rw [List.getD_eq_getElem?_getD, List.getElem?_take, List.getD_eq_getElem?_getD]
      split <;> rfl
    rw [set_getD, subAt_len, subAt_get, subAt_get, subAt_get, td, td, td]
    by_cases e : k + j = i
    · subst e
      have h1 : k + j - k = j := by omega
      simp [hk, h1]
    · have n1 : ¬ (k + j = i ∧ i < r.length) := fun h => e h.1
      rw [if_neg n1]
      by_cases h2 : k ≤ i
      · have h4 : i < r.length ∧ k ≤ i := ⟨hi, h2⟩
        simp only [if_pos h4]
        by_cases h3 : i - k < j
        · have h5 : i - k < j + 1 := by omega
          simp only [if_pos h3, if_pos h5]
        · have h5 : ¬ i - k < j + 1 := by omega
          simp only [if_neg h3, if_neg h5]
      · have h4 : ¬ (i < r.length ∧ k ≤ i) := fun h => h2 h.2
        simp only [if_neg h4]
theorem subAt_zero (k : Nat) (g : Int) (r : List Int) : subAt k g [] r = r := by
  apply ext_getD (subAt_len _ _ _ _)
  intro i _
  rw [subAt_get]
  simp
end SB
/-! Comprehensions with two fors. -/
namespace SB
open PySem PySem.Spec PyProof.Rows L2 RZ
section
variable {K : PySem.W.Frag} {σ : L2.St} {H : Hp} {ρ : List Sd} {te : TE}
theorem tyes {Q : Bool → Hp → Prop} (h : Q true H) : tYes σ H Q := h
theorem el_lc2 {α β : Type} {xs : List α} {enc : α → PyData} {ys : α → List β} {enc1 : β → PyData} {wi wi1 : TI} {g g1 : TG} {vs vs1 is is1 : List Nat} {f : α → β → PyData} {fs : α → List Sd → List Sd} {fs1 : β → List Sd → List Sd}
    (hS : Sl K σ H ρ) (hw : Wk Same wi σ H (xs.map enc)) (hg : ∀ x, x ∈ xs → Tg K g (enc x) is (fs x)) (hz : (xs.flatMap fun x => (ys x).map (f x)).length ≤ 100000)
    (hw1 : ∀ x, x ∈ xs → ∀ σ' H', Same H H' → Sl K σ' H' (fs x (wipeS ρ vs)) → Wk Tp wi1 σ' H' ((ys x).map enc1)) (hg1 : ∀ y, Tg K g1 (enc1 y) is1 (fs1 y))
    (he : ∀ x, x ∈ xs → ∀ y, y ∈ ys x → ∀ σ' H', Same H H' → Sl K σ' H' (fs1 y (wipeS (fs x (wipeS ρ vs)) vs1)) → EvD te σ' H' (f x y)) (hn : ∀ x, x ∈ xs → (fs x (wipeS ρ vs)).all Sd.nl = true := by intros; rfl) (hv : is.all (fun i => decide (i ∈ vs)) = true := by rfl) (hv1 : is1.all (fun i => decide (i ∈ vs1)) = true := by rfl) :
    EvL (tLc2 wi g tYes wi1 g1 tYes te vs vs1) σ H (xs.flatMap fun x => (ys x).map (f x)) := fun H1 a Q q => by
  refine hw H1 a _ fun J H2 a2 wk D hD => ?_
  refine ⟨fun i m H' => m + i = xs.length ∧ Same H2 H' ∧ ∃ acc, H' D = some (.lst acc) ∧ DtA H' acc ((xs.take i).flatMap fun x => (ys x).map (f x)), ⟨xs.length, rfl, Same.new hD, [], upd_same, .nil⟩, ?_⟩
  rintro i m H3 ⟨hm, a3, acc, hacc, racc⟩
  obtain ⟨w1, w2⟩ := wk H3 a3
  by_cases hi : i < xs.length
  · have hx : xs[i]? = some xs[i] := List.getElem?_eq_getElem hi
    have hmem : xs[i] ∈ xs := List.getElem_mem hi
    obtain ⟨g1', g2⟩ := w1 i (enc xs[i]) (by rw [List.getElem?_map, hx]; rfl)
    have etake : xs.take (i + 1) = xs.take i ++ [xs[i]] := by rw [List.take_add_one, hx]; rfl
    have esub : ((xs.take i).flatMap fun x => (ys x).map (f x)).length + (ys xs[i]).length ≤ 100000 := by
      have h1 : (xs.take (i + 1)).flatMap (fun x => (ys x).map (f x)) ++ (xs.drop (i + 1)).flatMap (fun x => (ys x).map (f x)) = xs.flatMap fun x => (ys x).map (f x) := by
        rw [← List.flatMap_append, List.take_append_drop]
      have h2 := congrArg List.length h1
      rw [List.length_append, etake, List.flatMap_append, List.length_append] at h2
      have h3 : (([xs[i]] : List α).flatMap fun x => (ys x).map (f x)).length = (ys xs[i]).length := by simp
      omega
    refine .inr ⟨g1', fun H' => Same H2 H' ∧ ∃ acc, H' D = some (.lst acc) ∧ DtA H' acc ((xs.take (i + 1)).flatMap fun x => (ys x).map (f x)), fun H' ⟨h1, h2⟩ => ⟨m - 1, by omega, by omega, h1, h2⟩, fun x H4 hy => ?_⟩
    obtain ⟨a4, rx⟩ := g2 x H4 hy
    have b4 := ((a.trans a2).trans a3).trans a4
    have S4 : Sl K (wipe σ vs) H4 (wipeS ρ vs) := (hS.wipe vs).same b4
    refine hg _ hmem x _ H4 _ _ S4 rx fun σ2 S2 l2 h2 => ⟨?_, ?_⟩
    · rw [wipe_eq l2 (fun j hj => h2 j fun q => hj (of_decide_eq_true (List.all_eq_true.mp hv j q))), wipe_wipe]
    · refine tyes (iteT ?_)
      refine hw1 _ hmem σ2 H4 b4 S2 H4 (Same.refl _) _ fun J1 H5 a5 wk1 => ?_
      refine ⟨fun j k H' => k + j = (ys xs[i]).length ∧ Tp H5 H' ∧ Same H2 H' ∧ ∃ acc, H' D = some (.lst acc) ∧ DtA H' acc (((xs.take i).flatMap fun x => (ys x).map (f x)) ++ ((ys xs[i]).take j).map (f xs[i])), ⟨(ys xs[i]).length, rfl, Tp.refl _, (a3.trans a4).trans a5, acc, a5 _ _ (a4 _ _ hacc), by simpa using racc.same (a4.trans a5)⟩, ?_⟩
      rintro j k H6 ⟨hk, a56, a6, acc6, hacc6, racc6⟩
      have wkj : (∀ i' d, ((ys xs[i]).map enc1)[i']? = some d → J1.go i' H6 ∧ ∀ x H', J1.yld i' H6 x H' → Same H6 H' ∧ Dt H' x d) ∧ J1.stop ((ys xs[i]).map enc1).length H6 := wk1 H6 a56
      obtain ⟨v1, v2⟩ := wkj
      by_cases hj : j < (ys xs[i]).length
      · have hyj : (ys xs[i])[j]? = some (ys xs[i])[j] := List.getElem?_eq_getElem hj
        have hmemj : (ys xs[i])[j] ∈ ys xs[i] := List.getElem_mem hj
        obtain ⟨u1, u2⟩ := v1 j (enc1 (ys xs[i])[j]) (by rw [List.getElem?_map, hyj]; rfl)
        refine .inr ⟨u1, fun H' => Tp H5 H' ∧ Same H2 H' ∧ ∃ acc, H' D = some (.lst acc) ∧ DtA H' acc (((xs.take i).flatMap fun x => (ys x).map (f x)) ++ ((ys xs[i]).take (j + 1)).map (f xs[i])), fun H' ⟨h1, h2, h3⟩ => ⟨k - 1, by omega, by omega, h1, h2, h3⟩, fun y H7 hy7 => ?_⟩
        obtain ⟨a7, ry⟩ := u2 y H7 hy7
        have b7 : Tp H4 H7 := ((Same.tp a5).trans a56).trans (Same.tp a7)
        have S7 : Sl K (wipe σ2 vs1) H7 (wipeS (fs xs[i] (wipeS ρ vs)) vs1) := (S2.tups b7.tup (hn _ hmem)).wipe vs1
        refine hg1 _ y _ H7 _ _ S7 ry fun σ3 S3 l3 h3 => ⟨?_, ?_⟩
        · rw [wipe_eq l3 (fun j hj => h3 j fun q => hj (of_decide_eq_true (List.all_eq_true.mp hv1 j q))), wipe_wipe]
        · refine tyes (iteT ?_)
          refine he _ hmem _ hmemj σ3 H7 (((a.trans a2).trans a6).trans a7) S3 H7 (Same.refl _) _ fun z H8 a8 rz => ?_
          have hacc8 : H8 D = some (.lst acc6) := a8 _ _ (a7 _ _ hacc6)
          have t8 : ∀ b us, H8 b = some (.tup us) → upd H8 D (.lst (acc6 ++ [z])) b = some (.tup us) := tups_lst hacc8
          refine ⟨acc6, hacc8, ?_, ((a56.trans (Same.tp a7)).trans (Same.tp a8)).trans ⟨t8, fun b o u e => ?_⟩, Same.mut ((a6.trans a7).trans a8) hD, _, upd_same, ?_⟩
          · rw [racc6.len, List.length_append, List.length_map, List.length_take]
            refine Nat.lt_of_lt_of_le (?_ : _ < 100000) (by decide)
            omega
          · rw [upd_ne]
            · exact e
            · intro w
              rw [w, hacc8] at e
              cases e
          · have etj : (ys xs[i]).take (j + 1) = (ys xs[i]).take j ++ [(ys xs[i])[j]] := by rw [List.take_add_one, hyj]; rfl
            rw [etj, List.map_append, ← List.append_assoc]
            exact DtA.app (DtA.monoA t8 (racc6.same (a7.trans a8))) (by simpa using DtA.one (rz.mono t8))
      · have hj' : j = (ys xs[i]).length := by omega
        subst hj'
        refine .inl ⟨by simpa using v2, a6, acc6, hacc6, ?_⟩
        rw [List.take_length] at racc6
        rw [etake, List.flatMap_append]
        simpa using racc6
  · have hi' : i = xs.length := by omega
    subst hi'
    refine .inl ⟨by simpa using w2, q D acc H3 (fresh_back a2 hD) (a2.trans a3) hacc ?_⟩
    rw [List.take_length] at racc
    exact racc
end
end SB
/-! enumerate over a tuple. -/
namespace SB
open PySem PySem.Spec PyProof.Rows L2 RZ
theorem meets_enum1 {v : Value} {ob : Obj} {G : Heap → Prop} (B : Begins v ob G) :
    Meets (Builtin.«enumerate.__new__» ⟨[.type "enumerate", v], []⟩) (fun _ R s => G s.heap ∧
      R (.ok (.ret (.ref (s.heap.push ob).objs.size))) { s with heap := (s.heap.push ob).push { cls := .type "enumerate", data := .fields #[.none, .bool false, .ref s.heap.objs.size, rawInt 0, .none, .none] } }) :=
  .of_wp fun prog w A R s hz => by
    obtain ⟨hp, gs, dr, tk, os⟩ := s
    obtain ⟨hg, hz⟩ := hz
    have hsub := sub_enumerate
    have qq : ∀ {A' : Around} {E : Value → Shared → Prop} {Q : Value → Shared → Prop}, Q (.ref hp.objs.size) ⟨hp.push ob, gs, dr, tk, os⟩ → wpAny (model prog w) A' (pyIter v) Q E ⟨hp, gs, dr, tk, os⟩ :=
      fun q => B.iter prog w _ _ ⟨hp, gs, dr, tk, os⟩ _ hg q
    wp_walk using qq
    refine wpAny_stack_any fun st => wpAny_pure ?_
    split
    · rename_i c _ _ _ _ _
      by_cases hc : (c == Value.type "enumerate") = true
      · rw [hc]
        wp_walk using qq
        exact ⟨_, rfl, hz⟩
      · rw [Bool.not_eq_true] at hc
        rw [hc]
        wp_walk using qq
        exact ⟨_, rfl, hz⟩
    · wp_walk using qq
      exact ⟨_, rfl, hz⟩
theorem enum_tuple {prog : Program} {w : World} {A : Around} {E : Value → Shared → Prop} {s : Shared} {a : Addr} {items : Array Value} {Q : Value → Shared → Prop} (ht : s.heap.IsTuple a items)
    (k : ∀ h', IsEnum h' (s.heap.objs.size + 1) s.heap.objs.size 0 .none → h'.IsTupleIter s.heap.objs.size a 0 → (∀ b o, s.heap.get? b = some o → h'.get? b = some o) → Q (.ref (s.heap.objs.size + 1)) { s with heap := h' }) :
    wpAny (model prog w) A (call (.type "enumerate") [.ref a]) Q E s := by
  refine callType_new F.called_enumerate (by decide) (F.typeCall_enumerate_1 _) (F.newCall_enumerate_1 _) (fun obj => F.args_object_init_2 obj _) F.entry_enumerate_new (meets_enum1 (begins_tuple a items)) ⟨ht, ?_⟩
  have sz : (s.heap.push { cls := .type "tuple_iterator", data := .fields #[.ref a, .int 0 0] }).objs.size = s.heap.objs.size + 1 := Heap.size_push ..
  show _ ∧ _
  rw [sz]
  have en : IsEnum ((s.heap.push { cls := .type "tuple_iterator", data := .fields #[.ref a, .int 0 0] }).push { cls := .type "enumerate", data := .fields #[.none, .bool false, .ref s.heap.objs.size, rawInt 0, .none, .none] }) (s.heap.objs.size + 1) s.heap.objs.size 0 .none := by
    have q := Heap.get?_push_size (s.heap.push { cls := .type "tuple_iterator", data := .fields #[.ref a, .int 0 0] }) (o := { cls := .type "enumerate", data := .fields #[.none, .bool false, .ref s.heap.objs.size, rawInt 0, .none, .none] }) rfl
    rw [sz] at q
    exact q
  exact ⟨⟨_, en, rfl⟩, k _ en ⟨_, Heap.get?_push_of_some _ (Heap.get?_push_size _ rfl), rfl, rfl⟩ fun b o x => Heap.get?_push_of_some _ (Heap.get?_push_of_some _ x)⟩
/-- the tuple at a, each item in a new pair with its index -/
def ItEn (K : PySem.W.Frag) (a : Addr) : It :=
  ⟨fun i H => ∃ xs x, SqT K H a xs ∧ xs[i]? = some x, fun i H v H' => ∃ T x, v = .ref T ∧ H T = none ∧ H' = upd H T (.tup [.int (i : Nat), x]) ∧ ∀ xs, SqT K H a xs → xs[i]? = some x, fun i H => ∃ xs, SqT K H a xs ∧ xs.length = i⟩
theorem turn_enT {P : Program} {w : World} {K : PySem.W.Frag} {elts : List Expr} {kk : Nat} {tpos : Pos} (a e it : Addr) :
    Turn P w K (.Tuple elts kk tpos) (ItEn K a) [e, it] e (fun i h => (∃ old, IsEnum h e it ((i : Nat) : Int) old) ∧ h.IsTupleIter it a i ∧ e ≠ it) where
  mem := by simp
  obj := fun i h st b hb => by
    obtain ⟨⟨old, en⟩, ⟨o, ho, hc, hd⟩, _⟩ := st
    rcases (by simpa using hb : b = e ∨ b = it) with z | z
    · rw [z]; exact ⟨_, en, fun v q => nomatch q⟩
    · rw [z]; exact ⟨o, ho, fun v q => by rw [hd] at q; cases q⟩
  keep := fun i h h' st k => by
    obtain ⟨⟨old, en⟩, hi, hne⟩ := st
    exact ⟨⟨old, k e (by simp) _ en⟩, hi.at (fun o q => k it (by simp) o q), hne⟩
  item := by
    intro X hP hw hK hc i pins s σ H E I hf st hg
    subst hP hw hK
    obtain ⟨⟨old, en⟩, hit, hne⟩ := st
    obtain ⟨xs, x, hq, hx⟩ := hg
    obtain ⟨its, rv, p, hz⟩ := I.tuple hq
    obtain ⟨u, hu, ru⟩ := rv.get hx
    have hel : e < s.heap.objs.size := Heap.lt_size en
    have hil : it < s.heap.objs.size := by obtain ⟨_, q, _⟩ := hit; exact Heap.lt_size q
    have hea : e ≠ a := by
      intro z
      obtain ⟨o, ho, hcl, _⟩ := p
      rw [← z, show s.heap.get? e = some _ from en] at ho
      cases ho
      simp at hcl
    have hia : a ≠ it := by
      intro z
      obtain ⟨o, ho, hcl, _⟩ := p
      obtain ⟨o2, ho2, hcl2, _⟩ := hit
      rw [z, ho2] at ho
      cases ho
      rw [hcl2] at hcl
      simp at hcl
    have hlt : i < its.toArray.size := by
      have := (List.getElem?_eq_some_iff.mp hu).1
      simpa using this
    refine wpAny_pyNext_enum_itemD (Draws.tuple (A := X.A.in1) (I.ok.hd hc) it a hia its.toArray) en ⟨hit, p⟩ hlt hne (by simp [hne, hea]) fun y h' tk hy ho hit' hT hsz hk => ?_
    have hy2 : u = y := by
      have e1 : its.toArray[i]? = some u := by simpa using hu
      rw [e1] at hy
      exact Option.some.inj hy
    subst hy2
    refine ⟨_, rfl, wpAny_letOwnedTupleGo_enum (s := { s with heap := h', toks := tk + 1 }) ho fun h'' en' sb => ?_⟩
    have hT2 : h''.get? s.heap.objs.size = some { cls := .type "tuple", data := .seq #[.int i tk, u] } := (sb.2 _ (Nat.ne_of_gt hel)).trans hT
    have nw : ObjOk X.prog X.w (upd H s.heap.objs.size (.tup [.int (i : Nat), x])) h'' s.heap.objs.size (.tup [.int (i : Nat), x]) := ⟨by show 2 ≤ sizeLine; decide, [.int i tk, u], .cons ⟨_, rfl⟩ (.cons ru .nil), ⟨_, hT2, rfl, _, rfl⟩⟩
    have I1 : Inv X pins σ (upd H s.heap.objs.size (.tup [.int (i : Nat), x])) { s with heap := h'', toks := tk + 1 } :=
      I.turnedNew (ch := [e, it]) (fun b ob hb q => (sb.2 b (fun z => hb (by simp [z]))).trans (hk b ob (fun z => hb (by simp [z])) (fun z => hb (by simp [z])) q)) hf (Nat.le_refl _) nw
    refine ⟨.ref s.heap.objs.size, _, I1, rfl, ⟨_, x, rfl, I.hok.fresh (Nat.le_refl _), rfl, fun ys hy => by rw [I.tuple_inj hy hq]; exact hx⟩, ⟨⟨u, ?_⟩, hit'.1.at (fun o q => (sb.2 it (Ne.symm hne)).trans q), hne⟩, fun b hb => ?_⟩
    · have e1 : ((i + 1 : Nat) : Int) = (i : Int) + 1 := by omega
      rw [e1]
      exact en'
    · have hb' : b < s.heap.objs.size := by
        rcases (by simpa using hb : b = e ∨ b = it) with z | z
        · rw [z]; exact hel
        · rw [z]; exact hil
      rw [upd_ne (Nat.ne_of_lt hb')]
      exact (hf b hb).1
  done := by
    intro X hP hw hK hc i pins s σ H E I hf st hg
    subst hP hw hK
    obtain ⟨⟨old, en⟩, hit, hne⟩ := st
    obtain ⟨xs, hq, hx⟩ := hg
    obtain ⟨its, rv, p, hz⟩ := I.tuple hq
    obtain ⟨f0, f1, f2, f3, f4, f5⟩ := hf it (by simp)
    have hl := rv.length
    have hsz : its.toArray.size = i := by rw [List.size_toArray, ← hl, hx]
    have hia : a ≠ it := by
      intro z
      obtain ⟨o, ho, hcl, _⟩ := p
      obtain ⟨o2, ho2, hcl2, _⟩ := hit
      rw [z, ho2] at ho
      cases ho
      rw [hcl2] at hcl
      simp at hcl
    exact wpAny_pyNext_enum_endD (Draws.tuple (A := X.A.in1) (I.ok.hd hc) it a hia its.toArray) en (by rw [hsz]; exact ⟨hit, p⟩) fun h' eb => ⟨rfl, I.turned (t' := s.toks) (fun b o hb q => eb b o hb q) f0 f1 f3 f4 f5⟩
  self := fun A i s Q E st h => by
    obtain ⟨⟨_, en⟩, _⟩ := st
    exact wpAny_pyIter_enum en h
def iEnT (K : PySem.W.Frag) (ta : TA) : TI := fun σ H R => ta σ H fun vs H1 => ∃ a xs, vs = [.ref a] ∧ SqT K H1 a xs ∧ R (ItEn K a) H1
theorem pi_enT {X : Cx} {e : Expr} {ta : TA} {p pos tpos : Pos} {elts : List Expr} {kk : Nat} (hg : Gl X "enumerate") (hm : X.mg "enumerate" = none) (ha : PA X [e] ta) (hs : starEach [e] X.env = [(false, eval e X.env)] := by rfl) :
    PI X (.Tuple elts kk tpos) (.Call (.Name "enumerate" p) [e] [] pos) (iEnT X.K ta) := by
  refine ⟨fun pins s σ H R I h => ?_⟩
  refine Call_ (ld_blt I hg hm boot_enumerate (PyProof.Rows.callWith_type1 (thn (ha.run pos pins s σ H _ I h) fun us s1 ⟨vs, H1, I1, r1, q1⟩ => ?_) hs rfl))
  obtain ⟨a, xs, ex, hq, q⟩ := q1
  rw [ex] at r1
  cases r1 with
  | cons r rr =>
    cases rr
    cases r
    obtain ⟨its, rv, pt, hz⟩ := I1.tuple hq
    refine enum_tuple (items := its.toArray) pt fun h' en hit hk => wpAny_pyIter_enum en ?_
    have I2 : Inv X pins σ H1 { s1 with heap := h' } := I1.kept (t' := s1.toks) hk
    refine ⟨s1.heap.objs.size + 1, [s1.heap.objs.size + 1, s1.heap.objs.size], _, _, H1, rfl, I2, turn_enT a (s1.heap.objs.size + 1) s1.heap.objs.size, ⟨⟨.none, en⟩, hit, Nat.succ_ne_self _⟩, fun b hb => ?_, q⟩
    have hle : s1.heap.objs.size ≤ b := by
      rcases (by simpa using hb : b = s1.heap.objs.size + 1 ∨ b = s1.heap.objs.size) with z | z
      · rw [z]; exact Nat.le_add_right _ _
      · rw [z]; exact Nat.le_refl _
    exact I1.fpOk hle (I1.hok.fresh hle)
theorem k_pi_enumT {X : Cx} (K : PySem.W.Frag) {e : Expr} {ta : TA} {p pos tpos : Pos} {elts : List Expr} {kk : Nat} (hg : Gl X "enumerate") (hm : X.mg "enumerate" = none) (ha : PA X [e] ta) (h : X.K = K := by rfl) (hs : starEach [e] X.env = [(false, eval e X.env)] := by rfl) :
    PI X (.Tuple elts kk tpos) (.Call (.Name "enumerate" p) [e] [] pos) (iEnT K ta) := h ▸ pi_enT hg hm ha hs
theorem k_pi_enum {X : Cx} (K : PySem.W.Frag) {e : Expr} {ta : TA} {p pos tpos : Pos} {elts : List Expr} {kk : Nat} (hg : Gl X "enumerate") (hm : X.mg "enumerate" = none) (ha : PA X [e] ta) (h : X.K = K := by rfl) (hs : starEach [e] X.env = [(false, eval e X.env)] := by rfl) :
    PI X (.Tuple elts kk tpos) (.Call (.Name "enumerate" p) [e] [] pos) (iEnum K ta) := h ▸ pi_enum hg hm ha hs
section
variable {K : PySem.W.Frag} {σ : L2.St} {H : Hp} {ρ : List Sd} {ds : List PyData} {tr : TA} {te : TE}
def enD (ds : List PyData) : List PyData := (List.range ds.length).map fun (i : Nat) => PyData.tuple [.int (i : Int), ds.getD i .none]
theorem wk_enT (h : EvD te σ H (.tuple ds)) : Wk Tp (iEnT K (tCons te tNil)) σ H (enD ds) := fun H1 a R k => h H1 a _ fun v H2 a2 r => by
  obtain ⟨p, xs, rfl, hp, rs⟩ := r.tup'
  refine ⟨p, xs, rfl, SqT.of hp, k _ H2 a2 fun H' tp => ⟨fun i d hd => ?_, ⟨xs, SqT.of (tp.tup _ _ hp), by rw [rs.len]; simp [enD]⟩⟩⟩
  unfold enD at hd
  rw [List.getElem?_map] at hd
  by_cases hi : i < ds.length
  · rw [List.getElem?_range hi] at hd
    cases hd
    have hdi : ds[i]? = some ds[i] := List.getElem?_eq_getElem hi
    obtain ⟨x, hx, rx⟩ := DtA.at' rs hdi
    refine ⟨⟨xs, x, SqT.of (tp.tup _ _ hp), hx⟩, fun z H'' hz => ?_⟩
    obtain ⟨T, x', e1, hT, e2, f⟩ := hz
    have g := f xs (SqT.of (tp.tup _ _ hp))
    rw [hx] at g
    cases g
    subst e1 e2
    refine ⟨Same.new hT, .tup upd_same (.cons (.int _) (.cons ?_ .nil))⟩
    rw [List.getD_eq_getElem?_getD, hdi]
    exact (rx.tp tp).same (Same.new hT)
  · rw [List.getElem?_eq_none (by simpa using hi)] at hd
    cases hd
theorem wk_enL (h : EvR K te σ H ds) : Wk (Kp K) (iEnum K (tCons te tNil)) σ H (enD ds) := fun H1 a R k => h H1 a _ fun p H2 a2 r => by
  obtain ⟨xs, hp, rs⟩ := r
  refine ⟨p, xs, rfl, hp, k _ H2 a2 fun H' kp => ⟨fun i d hd => ?_, ⟨xs, kp.lst _ _ hp, by rw [rs.len]; simp [enD]⟩⟩⟩
  unfold enD at hd
  rw [List.getElem?_map] at hd
  by_cases hi : i < ds.length
  · rw [List.getElem?_range hi] at hd
    cases hd
    have hdi : ds[i]? = some ds[i] := List.getElem?_eq_getElem hi
    obtain ⟨x, hx, rx⟩ := DtA.at' rs hdi
    refine ⟨⟨xs, x, kp.lst _ _ hp, hx⟩, fun z H'' hz => ?_⟩
    obtain ⟨T, x', e1, hT, e2, f⟩ := hz
    have g := f xs (kp.lst _ _ hp)
    rw [hx] at g
    cases g
    subst e1 e2
    refine ⟨Same.new hT, .tup upd_same (.cons (.int _) (.cons ?_ .nil))⟩
    rw [List.getD_eq_getElem?_getD, hdi]
    exact (rx.kp kp).same (Same.new hT)
  · rw [List.getElem?_eq_none (by simpa using hi)] at hd
    cases hd
/-- downward: from lo to 0 -/
def downD (n : Nat) : List PyData := (List.range n).map fun (i : Nat) => PyData.int ((n : Int) - 1 - (i : Int))
theorem wk_down {lo : Int} (h : EvA tr σ H [.int lo, .int (-1), .int (-1)]) (h1 : -100000 ≤ lo) (h2 : lo ≤ 100000) : Wk Tp (iRng3 tr) σ H (downD (lo + 1).toNat) := fun H1 a R k => h H1 a _ fun vs H2 a2 r => by
  cases r with
  | cons r1 r =>
    cases r with
    | cons r2 r =>
      cases r with
      | cons r3 r =>
        cases r
        rw [r1.int', r2.int', r3.int']
        have hR := RgC.neg (i := lo) (j := -1) (by omega) (by omega) (by omega) (by omega)
        have en : (lo - (-1)).toNat = (lo + 1).toNat := by omega
        rw [en] at hR
        refine ⟨lo, -1, -1, _, rfl, hR, k _ H2 a2 fun H' _ => ⟨fun i d hd => ?_, by show _ ≤ _; simp [downD]⟩⟩
        unfold downD at hd
        rw [List.getElem?_map] at hd
        by_cases hi : i < (lo + 1).toNat
        · rw [List.getElem?_range hi] at hd
          cases hd
          refine ⟨hi, fun x H'' hx => ?_⟩
          obtain ⟨e1, e2⟩ := hx
          subst e1 e2
          refine ⟨Same.refl _, ?_⟩
          have e3 : lo + (i : Int) * -1 = (((lo + 1).toNat : Nat) : Int) - 1 - (i : Int) := by omega
          rw [e3]
          exact .int _
        · rw [List.getElem?_eq_none (by simpa using hi)] at hd
          cases hd
end
end SB
/-! A list or a tuple of ints, read alike; dicts with int keys. -/
namespace SB
open PySem PySem.Spec PyProof.Rows L2 RZ
open StX (tStar pa_star)
section
variable {X : Cx} (K : PySem.W.Frag)
theorem k_ix_seq (h : X.K = K := by rfl) : IxR X (rIx K) := h ▸ ix_seq
theorem k_sl_any (h : X.K = K := by rfl) : SlR X (fun x lo hi H Q => rSlL K x lo hi H Q ∨ rSlA K x lo hi H Q) := (k_sl_list K h).or (k_sl_tupA K h)
end
section
variable {K : PySem.W.Frag} {σ : L2.St} {H H' : Hp} {ρ : List Sd} {ta tb te : TE} {d : PyData} {i : Int} {ds es : List PyData} {tr : TA} {tl th : TO} {lo hi : Option Int} {a : Addr} {ns : List Int}
def RdQ (K : PySem.W.Frag) (H : Hp) (a : Addr) (ns : List Int) : Prop := SqL K H a (ns.map V.int) ∨ H a = some (.tup (ns.map V.int))
theorem RdQ.same (e : Same H H') (h : RdQ K H a ns) : RdQ K H' a ns := h.elim (fun h => .inl (e.seq h)) fun h => .inr (e _ _ h)
def EvQ (K : PySem.W.Frag) (te : TE) (σ : L2.St) (H : Hp) (ns : List Int) : Prop := ∀ H1, Same H H1 → ∀ Q : VK, (∀ p H2, Same H1 H2 → RdQ K H2 p ns → Q (.ref p) H2) → te σ H1 Q
theorem EvX.q (h : EvX te σ H (.ref a)) (r : RdQ K H a ns) : EvQ K te σ H ns := fun H1 e Q q => h H1 e Q fun H2 e2 => q a H2 e2 (r.same (e.trans e2))
theorem ev_lenQ (h : EvQ K te σ H ns) : EvD (tCB (fun xs H Q => ∃ p ys, xs = [.ref p] ∧ (SqL K H p ys ∨ SqT K H p ys) ∧ Q (.int ys.length) H) (tCons te tNil)) σ H (.int (ns.length : Int)) := fun H1 e Q q =>
  h H1 e _ fun p H2 e2 r => ⟨p, ns.map V.int, rfl, r.elim .inl (fun z => .inr (SqT.of z)), q _ H2 e2 (by rw [List.length_map]; exact .int _)⟩
theorem ev_ixQ {k : Nat} (ha : EvQ K ta σ H ns) (hb : EvD tb σ H (.int i)) (hk : ixN ns.length i = some k) {z : Int} (hz : ns[k]? = some z) : EvD (tOp (rIx K) ta tb) σ H (.int z) := fun H1 e Q q =>
  ha H1 e _ fun p H2 e2 r => hb H2 (e.trans e2) _ fun w H3 e3 r3 => by
    have hat : atI (ns.map V.int) i = some (.int z) := by
      unfold atI
      rw [List.length_map, hk]
      show (ns.map V.int)[k]? = _
      rw [List.getElem?_map, hz]
      rfl
    rcases r.same e3 with z1 | z1
    · exact .inl ⟨p, _, i, _, rfl, r3.int', z1, hat, q _ H3 (e2.trans e3) (.int _)⟩
    · exact .inr (.inl ⟨p, _, i, _, rfl, r3.int', SqT.of z1, hat, q _ H3 (e2.trans e3) (.int _)⟩)
theorem cut_map {α β : Type} (f : α → β) (xs : List α) : cutA (xs.map f) lo hi = (cutA xs lo hi).map f := by
  unfold cutA
  rw [List.length_map, List.map_take, List.map_drop]
theorem ev_slQ (h : EvQ K te σ H ns) (h1 : EvO tl σ H lo) (h2 : EvO th σ H hi) : EvQ K (tSl (fun x lo hi H Q => rSlL K x lo hi H Q ∨ rSlA K x lo hi H Q) te tl th) σ H (cutA ns lo hi) := fun H1 e Q q =>
  h H1 e _ fun p H2 e2 r => h1 H2 (e.trans e2) _ fun H3 e3 => h2 H3 ((e.trans e2).trans e3) _ fun H4 e4 => by
    rcases (r.same e3).same e4 with z | z
    · refine .inl ⟨p, _, rfl, z, fun l hl => q l _ (((e2.trans e3).trans e4).trans (Same.new hl)) (.inl (SqL.of ?_))⟩
      rw [upd_same]
      show some (HO.lst (cutA (ns.map V.int) lo hi)) = _
      rw [cut_map]
    · refine .inr ⟨p, _, rfl, SqT.of z, fun hw => q p H4 ((e2.trans e3).trans e4) (.inr ?_), fun _ l hl => q l _ (((e2.trans e3).trans e4).trans (Same.new hl)) (.inr ?_)⟩
      · rw [z]
        have : cutA ns lo hi = ns := by
          rw [List.length_map] at hw
          unfold cutA
          rw [hw.1, hw.2, List.drop_zero, Nat.sub_zero, List.take_length]
        rw [this]
      · rw [upd_same]
        show some (HO.tup (cutA (ns.map V.int) lo hi)) = _
        rw [cut_map]
theorem ev_tupQ (h : EvQ K te σ H ns) : EvD (tCB (fun xs H Q => ∃ p ys, xs = [.ref p] ∧ ((SqL K H p ys ∧ ∀ l, H l = none → Q (.ref l) (upd H l (.tup ys))) ∨ (SqT K H p ys ∧ Q (.ref p) H))) (tCons te tNil)) σ H (tI ns) := fun H1 e Q q =>
  h H1 e _ fun p H2 e2 r => by
    rcases r with z | z
    · exact ⟨p, _, rfl, .inl ⟨z, fun l hl => q _ _ (e2.trans (Same.new hl)) (Dt.ofI upd_same)⟩⟩
    · exact ⟨p, _, rfl, .inr ⟨SqT.of z, q _ H2 e2 (Dt.ofI z)⟩⟩
end
/-- a call with one argument that is a known reference -/
theorem ev_callX {σ : L2.St} {H : Hp} {te : TE} {sp : Sp} {E : XK} {v : V} {d : PyData} (h : EvX te σ H v) (hs : ∀ H2, Same H H2 → ∀ Q : VK, (∀ w H3, Same H2 H3 → Dt H3 w d → Q w H3) → sp [v] H2 Q E) : EvD (tCall sp [] E (tCons te tNil)) σ H d := fun H1 a Q q =>
  h H1 a _ fun H2 a2 => hs H2 (a.trans a2) Q fun w H3 a3 r => q w H3 (a2.trans a3) r
end SB
namespace SB
open PySem PySem.Spec PyProof.Rows L2 RZ
open StX (tStar pa_star)
def sp_stripped (K : PySem.W.Frag) : Sp := fun vs H Q _ => ∃ (a : Addr) (ns : List Int), vs = [.ref a] ∧ RdQ K H a ns ∧ ns.length ≤ 1000 ∧ ∀ v H', Same H H' → Dt H' v (tI (stripL ns)) → Q v H'
section
variable {K : PySem.W.Frag} {σ : L2.St} {H H' : Hp} {te : TE} {ns : List Int} {E : XK}
theorem ev_strT (h : EvD te σ H (tI ns)) (hl : ns.length ≤ 1000) : EvD (tCall (sp_stripped K) [] E (tCons te tNil)) σ H (tI (stripL ns)) := fun H1 a Q q =>
  h H1 a _ fun v H2 a2 r => by
    obtain ⟨p, rfl, hp⟩ := r.tI
    exact ⟨p, ns, rfl, .inr hp, hl, fun w H3 a3 r3 => q w H3 (a2.trans a3) r3⟩
theorem ev_strL (h : EvR K te σ H (ns.map .int)) (hl : ns.length ≤ 1000) : EvD (tCall (sp_stripped K) [] E (tCons te tNil)) σ H (tI (stripL ns)) := fun H1 a Q q =>
  h H1 a _ fun p H2 a2 r => ⟨p, ns, rfl, .inl r.ints, hl, fun w H3 a3 r3 => q w H3 (a2.trans a3) r3⟩
theorem stripN_step {l : List Int} {k : Nat} (h : l.getD k 0 = 0) : stripN l (k + 1) = stripN l k := by
  show (if l.getD k 0 = 0 then stripN l k else k + 1) = _
  rw [if_pos h]
theorem enD_ints (d : List Int) : enD (d.map .int) = (List.range d.length).map fun (j : Nat) => PyData.tuple [.int (j : Int), .int (d.getD j 0)] := by
  unfold enD
  rw [List.length_map]
  apply List.map_congr_left
  intro j hj
  have hj := List.mem_range.mp hj
  simp [List.getD_eq_getElem?_getD, hj]
theorem downD_eq (n : Nat) : downD n = (List.range n).map fun (i : Nat) => PyData.int ((n - 1 - i : Nat) : Int) := by
  unfold downD
  apply List.map_congr_left
  intro i hi
  have hi := List.mem_range.mp hi
  congr 1
  omega
theorem cut_take {α : Type} (xs : List α) (m : Nat) (h : m ≤ xs.length) : cutA xs none (some (m : Int)) = xs.take m := by
  unfold cutA
  rw [HT.sIx_none, HT.sIx_nat, List.drop_zero, Nat.sub_zero, Nat.min_eq_left h]
theorem cut_all {α : Type} (xs : List α) : cutA xs none none = xs := by
  unfold cutA
  rw [HT.sIx_none, HT.sIx_none, List.drop_zero, Nat.sub_zero, List.take_length]
theorem cut_drop {α : Type} (xs : List α) (m : Nat) (h : m ≤ xs.length) : cutA xs (some (m : Int)) none = xs.drop m := by
  unfold cutA
  rw [HT.sIx_none, HT.sIx_nat, Nat.min_eq_left h, List.take_of_length_le (by simp)]
end
end SB
/-! Dict comprehensions whose keys are tuples, with one clause or two; sorted of such a dict. -/
namespace SB
open PySem PySem.Spec PyProof.Rows L2 RZ
/-- what a clause does behind its tests: the dict, the block, the error's road, the goal -/
abbrev BodyW := Addr → Env → (Value → Shared → Prop) → (Shared → Prop) → Shared → Prop
section
variable {prog : Program} {w : World} {A : Around}
abbrev errW (prog : Program) (w : World) (A : Around) (env : Env) (R : Result → Shared → Prop) : Value → Shared → Prop := notedBy (model prog w) A env fun e z => R (.error e) z
/-- one turn of a clause -/
def TurnW (prog : Program) (w : World) (A : Around) (tg : Expr) (ifs : List Expr) (it : Value) (D : Addr) (env : Env) (R : Result → Shared → Prop) (B : BodyW) (C : Shared → Prop) (z : Shared) : Prop :=
  wpAny (model prog w) A (pyNext it) (fun r z1 => match r with
    | none => R (.ok .next) z1
    | some v => wpAny (model prog w) A (letOwnedTupleGo tg it v) (fun _ z2 => wpAny (model prog w) A (assign tg env v) (fun _ z3 =>
      wpAny (model prog w) A (forIn ifs true fun c r => if r = true then do let ok ← isTrue c env (eval c env); pure (ForInStep.yield ok) else pure (ForInStep.yield r))
        (fun ok z4 => if ok = true then B D env (errW prog w A env R) C z4 else C z4) (errW prog w A env R) z3) (errW prog w A env R) z2) (errW prog w A env R) z1) (errW prog w A env R) z
/-- the pair is stored -/
def bodyPut (prog : Program) (w : World) (A : Around) (kx vx : Expr) : BodyW := fun D env E C z => wpAny (model prog w) A (eval kx env) (fun k z1 => wpAny (model prog w) A (eval vx env) (fun v z2 => wpAny (model prog w) A (dictSet D k v) (fun _ z3 => C z3) E z2) E z1) E z
/-- the second clause is run -/
def bodyIn (prog : Program) (w : World) (A : Around) (e i1 : Expr) : BodyW := fun D env E C z => wpAny (model prog w) A (eval i1 env) (fun x z1 => wpAny (model prog w) A (pyIter x) (fun it z2 =>
  codeAny (model prog w) A (.compStart e 1 it (.ref D) env) (fun r z3 => match r with
    | .ok _ => C z3
    | .error _ => False) z2) E z1) E z
abbrev LoopW (prog : Program) (w : World) (A : Around) (tg : Expr) (ifs : List Expr) (e : Expr) (n : Nat) (B : BodyW) : Prop :=
  ∀ (R : Result → Shared → Prop) (it : Value) (D : Addr) (env : Env) (I : Nat → Shared → Prop), (∀ n z, I n z → TurnW prog w A tg ifs it D env R B (fun z' => ∃ m, m < n ∧ I m z') z) → ∀ m z, I m z → codeAny (model prog w) A (.compLoop e n it (.ref D) env) R z
theorem loop_one {kx vx tg iter : Expr} {ifs : List Expr} {scope : Scope} {pos : Pos} : LoopW prog w A tg ifs (.DictComp kx vx [⟨tg, iter, ifs, 0⟩] scope pos) 0 (bodyPut prog w A kx vx) :=
  fun R it D env I turn m z h => compLoop_anyD I turn m h
theorem turn_fst (kx vx t0 i0 t1 i1 : Expr) (c0 c1 : List Expr) (scope : Scope) (pos : Pos) (it acc : Value) (env : Env) :
    compTurn (.DictComp kx vx [⟨t0, i0, c0, 0⟩, ⟨t1, i1, c1, 0⟩] scope pos) 0 it acc env = (do
      standAt i0.pos
      match ← pyNext it with
      | none => pure (.done .next)
      | some v =>
        letOwnedTupleGo t0 it v
        assign t0 env v
        let mut ok := true
        for c in c0 do
          if ok then ok ← isTrue c env (eval c env)
        if ok then
          let y ← eval i1 env
          standAt i1.pos
          let y ← foldedSetIterable i1 env y
          let _ ← runOwn (.compStart (.DictComp kx vx [⟨t0, i0, c0, 0⟩, ⟨t1, i1, c1, 0⟩] scope pos) 1 (← holding [y] (pyIter y)) acc env) env
        again (.compLoop (.DictComp kx vx [⟨t0, i0, c0, 0⟩, ⟨t1, i1, c1, 0⟩] scope pos) 0 it acc env)) := by rfl
theorem turn_snd (kx vx t0 i0 t1 i1 : Expr) (c0 c1 : List Expr) (scope : Scope) (pos : Pos) (it : Value) (D : Addr) (env : Env) :
    compTurn (.DictComp kx vx [⟨t0, i0, c0, 0⟩, ⟨t1, i1, c1, 0⟩] scope pos) 1 it (.ref D) env = (do
      standAt i1.pos
      match ← pyNext it with
      | none => pure (.done .next)
      | some v =>
        letOwnedTupleGo t1 it v
        assign t1 env v
        let mut ok := true
        for c in c1 do
          if ok then ok ← isTrue c env (eval c env)
        if ok then
          (do
            let a ← eval kx env
            let b ← holding [a] (eval vx env)
            standAt { kx.pos with endLine := vx.pos.endLine, endCol := vx.pos.endCol }
            holding [a, b] (dictSet D a b))
        again (.compLoop (.DictComp kx vx [⟨t0, i0, c0, 0⟩, ⟨t1, i1, c1, 0⟩] scope pos) 1 it (.ref D) env)) := by rfl
theorem loop_fst {kx vx t0 i0 t1 i1 : Expr} {c0 c1 : List Expr} {scope : Scope} {pos : Pos} (hs : ∀ env x, foldedSetIterable i1 env x = pure x) :
    LoopW prog w A t0 c0 (.DictComp kx vx [⟨t0, i0, c0, 0⟩, ⟨t1, i1, c1, 0⟩] scope pos) 0 (bodyIn prog w A (.DictComp kx vx [⟨t0, i0, c0, 0⟩, ⟨t1, i1, c1, 0⟩] scope pos) i1) := by
  intro R it D env I turn m z h
  refine codeAny_loop rfl I (fun n z hz => ?_) m h
  have turn := turn n z hz
  show wpAny _ A ((compTurn (.DictComp kx vx [⟨t0, i0, c0, 0⟩, ⟨t1, i1, c1, 0⟩] scope pos) 0 it (.ref D) env).onRaise (fun x => do noteFrame x env; theTreesLotGoes x)) _ _ z
  refine wpAny_noted ?_
  rw [turn_fst]
  refine wpAny_bind (wpAny_standAt (wpAny_bind (thn turn fun r z1 g1 => ?_)))
  cases r with
  | none => exact wpAny_pure g1
  | some v =>
    refine wpAny_bind (thn g1 fun _ z2 g2 => ?_)
    refine wpAny_bind (thn g2 fun _ z3 g3 => wpAny_bind (thn g3 fun ok z4 g4 => ?_))
    cases ok with
    | false => exact wpAny_pure ⟨rfl, g4⟩
    | true =>
      refine wpAny_bind (thn g4 fun x z5 g5 => ?_)
      refine wpAny_bind (wpAny_standAt (wpAny_bind (wpAny_of_eq (hs env x) (wpAny_bind (wpAny_holding (thn g5 fun it1 z6 g6 => ?_))))))
      refine wpAny_bind (wpAny_runOwn ?_)
      rw [Around.mark_none]
      refine codeAny_mono g6 fun r z7 hr => ?_
      cases r with
      | ok f => first | exact wpAny_pure ⟨rfl, hr⟩ | exact wpAny_bind (wpAny_pure (wpAny_pure ⟨rfl, hr⟩))
      | error e => exact hr.elim
theorem loop_snd {kx vx t0 i0 t1 i1 : Expr} {c0 c1 : List Expr} {scope : Scope} {pos : Pos} :
    LoopW prog w A t1 c1 (.DictComp kx vx [⟨t0, i0, c0, 0⟩, ⟨t1, i1, c1, 0⟩] scope pos) 1 (bodyPut prog w A kx vx) := by
  intro R it D env I turn m z h
  refine codeAny_loop rfl I (fun n z hz => ?_) m h
  have turn := turn n z hz
  show wpAny _ A ((compTurn (.DictComp kx vx [⟨t0, i0, c0, 0⟩, ⟨t1, i1, c1, 0⟩] scope pos) 1 it (.ref D) env).onRaise (fun x => do noteFrame x env; theTreesLotGoes x)) _ _ z
  refine wpAny_noted ?_
  rw [turn_snd]
  refine wpAny_bind (wpAny_standAt (wpAny_bind (thn turn fun r z1 g1 => ?_)))
  cases r with
  | none => exact wpAny_pure g1
  | some v =>
    refine wpAny_bind (thn g1 fun _ z2 g2 => ?_)
    refine wpAny_bind (thn g2 fun _ z3 g3 => wpAny_bind (thn g3 fun ok z4 g4 => ?_))
    cases ok with
    | false => exact wpAny_pure ⟨rfl, g4⟩
    | true => exact wpAny_bind (wpAny_bind (thn g4 fun k z5 g5 => wpAny_bind (wpAny_holding (thn g5 fun y z6 g6 => wpAny_bind (wpAny_standAt (wpAny_holding (thn g6 fun _ z7 g7 => wpAny_pure ⟨rfl, g7⟩)))))))
theorem start_snd {kx vx t0 i0 t1 i1 : Expr} {c0 c1 : List Expr} {scope : Scope} {pos : Pos} {it acc : Value} {env : Env} {R : Result → Shared → Prop} {z : Shared}
    (h0 : codeAny (model prog w) A (.compLoop (.DictComp kx vx [⟨t0, i0, c0, 0⟩, ⟨t1, i1, c1, 0⟩] scope pos) 1 it acc env) R z)
    (h : wpAny (model prog w) A (pyIter it) (fun it' z' => codeAny (model prog w) A (.compLoop (.DictComp kx vx [⟨t0, i0, c0, 0⟩, ⟨t1, i1, c1, 0⟩] scope pos) 1 it' acc env) R z') (errW prog w A env R) z) :
    codeAny (model prog w) A (.compStart (.DictComp kx vx [⟨t0, i0, c0, 0⟩, ⟨t1, i1, c1, 0⟩] scope pos) 1 it acc env) R z := by
  refine codeAny_of_tree ?_
  show wpAny _ A ((compStart (.DictComp kx vx [⟨t0, i0, c0, 0⟩, ⟨t1, i1, c1, 0⟩] scope pos) 1 it acc env).onRaise (fun x => do noteFrame x env; standAt theWindowsPlace)) _ _ z
  refine wpAny_notedAt ?_
  unfold compStart
  show wpAny _ _ (ask >>= _) _ _ z
  refine wpAny_bind (wpAny_askSetting (wpAny_ite ?_))
  split
  · first
      | exact wpAny_bind (wpAny_pure (wpAny_pure (And.intro rfl h0)))
      | exact wpAny_pure (And.intro rfl h0)
  · first
      | exact wpAny_bind (wpAny_rule (wpAny_bind (wpAny_standAt (wpAny_bind (thn h fun it' z' g => wpAny_pure (And.intro rfl g))))))
      | (refine wpAny_bind (wpAny_rule ?_); show wpAny _ _ (standAt i1.pos >>= _) _ _ z; exact wpAny_bind (wpAny_standAt (wpAny_bind (thn h fun it' z' g => wpAny_pure (And.intro rfl g)))))
end
section
variable {X : Cx}
/-- a key that is a tuple, its value: into the new dict -/
theorem put_new {pins : List (Addr × Obj)} {σ : L2.St} {H : Hp} {z : Shared} {E : Value → Shared → Prop} {D b : Addr} {kvs : List (List Key × V)} {k : List Key} {v : V} {r : Value} {Q : Unit → Shared → Prop} (hu : X.A.units < cLine) (I : Inv X pins σ H z)
    (hD : H D = some (.dT kvs)) (hb : H b = some (.tup (k.map kV))) (hz : kvs.length < sizeLine) (rv : RelV v r) (h : ∀ z', Inv X pins σ (upd H D (.dT (putK kvs k v))) z' → Q () z') : wpAny (model X.prog X.w) X.A (dictSet D (.ref b) r) Q E z := by
  obtain ⟨g, hd, xs, rel, dd⟩ := dt_of I.hok hD
  have hx : xs.length ≤ sizeLine := by rw [← Paired.length rel]; exact g
  refine wpAny_dictSet_heap (hsz := hx) (knd := tupleKind (mixKind X.prog X.w)) hu (key_of I.hok hb) dd fun h' dd' hs => h _ ?_
  have hl : (putK kvs k v).length ≤ sizeLine := by have := length_putK kvs k v; omega
  obtain ⟨o, es, ep, e1, e2, e3, e4, _, e5⟩ := dd'
  refine d_write I (by rw [hD]; exact True.intro) hs ⟨o, e1⟩ ⟨hl, hd, _, (rel.put k hb rv).keeps fun c ys ec => ?_, o, es, ep, e1, e2, e3, e4, e5⟩
  rw [upd_ne (ne_of ec hD (fun q => nomatch q))]
  exact ec
abbrev TBd := Addr → L2.St → Hp → (Hp → Prop) → Prop
def tb1 (tk tv : TE) : TBd := fun D σ H Nx => tk σ H fun y H1 => tv σ H1 fun v H2 => ∃ kvs k b, y = .ref b ∧ H2 b = some (.tup (k.map kV)) ∧ H2 D = some (.dT kvs) ∧ kvs.length < sizeLine ∧ Nx (upd H2 D (.dT (putK kvs k v)))
def tb2 (wi : TI) (g : TG) (tk tv : TE) (vs : List Nat) : TBd := fun D σ H Nx => wi σ H fun J H1 => ∃ W : Nat → Nat → Hp → Prop, (∃ m, W 0 m H1) ∧ ∀ i m H, W i m H →
  (J.stop i H ∧ Nx H) ∨ (J.go i H ∧ ∃ N2 : Hp → Prop, (∀ H', N2 H' → ∃ m', m' < m ∧ W (i + 1) m' H') ∧ ∀ x H', J.yld i H x H' → g x (wipe σ vs) H' fun σ2 H2 => wipe σ2 vs = wipe σ vs ∧ tb1 tk tv D σ2 H2 N2)
def tDT (wi : TI) (g : TG) (tt : TT) (tB : TBd) (vs : List Nat) : TE := fun σ H Q => wi σ H fun J H1 => ∀ D, H1 D = none → ∃ W : Nat → Nat → Hp → Prop, (∃ m, W 0 m (upd H1 D (.dT []))) ∧ ∀ i m H, W i m H →
  (J.stop i H ∧ Q (.ref D) H) ∨ (J.go i H ∧ ∃ Nx : Hp → Prop, (∀ H', Nx H' → ∃ m', m' < m ∧ W (i + 1) m' H') ∧ ∀ x H', J.yld i H x H' → g x (wipe σ vs) H' fun σ2 H2 => wipe σ2 vs = wipe σ vs ∧ tt σ2 H2 fun b H3 =>
    if b = true then tB D σ2 H3 Nx else Nx H3)
/-- σ' knows what σ knows outside vs -/
def Wider (vs : List Nat) (σ σ' : L2.St) : Prop := (wipe σ vs).length = σ'.length ∧ ∀ (j : Nat) v, (wipe σ vs)[j]? = some (some v) → σ'[j]? = some (some v)
theorem Wider.of {vs : List Nat} {σ σ' : L2.St} (e : wipe σ' vs = wipe σ vs) : Wider vs σ σ' := ⟨by rw [← e, wipe_length], fun j v h => by rw [← e] at h; exact (wipe_some h).1⟩
theorem Wider.wiped {vs us : List Nat} {σ σ' : L2.St} (h : Wider vs σ σ') (s : ∀ i ∈ us, i ∈ vs) : Wider vs σ (wipe σ' us) := by
  refine ⟨h.1.trans (wipe_length _ _).symm, fun j v e => ?_⟩
  obtain ⟨e1, e2⟩ := wipe_some e
  rw [wipe_out fun z => e2 (s j z)]
  exact h.2 j v e
abbrev BlkX (X : Cx) (scope : Scope) (z : Shared) (H : Hp) (cl : List (Str × Addr)) (C : Addr) (fp : List Addr) : Cx := X.blk z H scope (compEnvC scope cl C X.env) fp
/-- the body in the block -/
def BodyOk (X : Cx) (scope : Scope) (vs : List Nat) (B : BodyW) (tB : TBd) : Prop := ∀ (z0 : Shared) (H0 : Hp) (C : Addr) (cl : List (Str × Addr)) (fp : List Addr) (pins : List (Addr × Obj)) (z : Shared) (σ : L2.St) (H : Hp) (D : Addr) (Nx : Hp → Prop) (E : Value → Shared → Prop) (G : Shared → Prop),
  Inv (BlkX X scope z0 H0 cl C fp) pins σ H z → tB D σ H Nx → (∀ σ' H' z', Wider vs σ σ' → Inv (BlkX X scope z0 H0 cl C fp) pins σ' H' z' → Nx H' → G z') → B D (compEnvC scope cl C X.env) E G z
theorem body_put {scope : Scope} {vs : List Nat} {kx vx : Expr} {tk tv : TE} (hu : X.A.units < cLine)
    (hk : ∀ (s : Shared) (H : Hp) (C : Addr) (cl : List (Str × Addr)) (fp : List Addr), PE (BlkX X scope s H cl C fp) kx tk) (hv : ∀ (s : Shared) (H : Hp) (C : Addr) (cl : List (Str × Addr)) (fp : List Addr), PE (BlkX X scope s H cl C fp) vx tv) :
    BodyOk X scope vs (bodyPut X.prog X.w X.A kx vx) (tb1 tk tv) := by
  intro z0 H0 C cl fp pins z σ H D Nx E G I h hG
  refine thnF ((hk z0 H0 C cl fp).run pins z σ H _ I h) fun k z1 ⟨y, H1, I1, r1, q1⟩ => ?_
  refine thnF ((hv z0 H0 C cl fp).run pins z1 σ H1 _ I1 q1) fun v z2 ⟨x, H2, I2, r2, kvs, ks, b, ey, hb, hD, hz, nx⟩ => ?_
  subst ey
  cases (show k = Value.ref b from r1)
  exact put_new (X := BlkX X scope z0 H0 cl C fp) hu I2 hD hb hz r2 fun z3 I3 => hG σ _ z3 (Wider.of rfl) I3 nx
theorem body_in {scope : Scope} {vs us : List Nat} {kx vx t0 i0 t1 i1 : Expr} {c0 : List Expr} {pos : Pos} {tk tv : TE} {wi : TI} {g : TG} (hc : X.calm = true) (hu : X.A.units < cLine) (hs : ∀ i ∈ us, i ∈ vs)
    (hi : ∀ (s : Shared) (H : Hp) (C : Addr) (cl : List (Str × Addr)) (fp : List Addr), PI (BlkX X scope s H cl C fp) t1 i1 wi) (hg : ∀ (s : Shared) (H : Hp) (C : Addr) (cl : List (Str × Addr)) (fp : List Addr), PG (BlkX X scope s H cl C fp) t1 g)
    (hk : ∀ (s : Shared) (H : Hp) (C : Addr) (cl : List (Str × Addr)) (fp : List Addr), PE (BlkX X scope s H cl C fp) kx tk) (hv : ∀ (s : Shared) (H : Hp) (C : Addr) (cl : List (Str × Addr)) (fp : List Addr), PE (BlkX X scope s H cl C fp) vx tv) :
    BodyOk X scope vs (bodyIn X.prog X.w X.A (.DictComp kx vx [⟨t0, i0, c0, 0⟩, ⟨t1, i1, [], 0⟩] scope pos) i1) (tb2 wi g tk tv us) := by
  intro z0 H0 C cl fp pins z σ H D Nx E G I h hG
  refine thnF ((hi z0 H0 C cl fp).run pins z σ H _ I h) fun x z1 hx => thnF hx fun y z2 ⟨it, fi, tn, J, H2, ey, I2, T, st, fz, W, ⟨m0, w0⟩, turn⟩ => ?_
  subst ey
  have hfp : ∀ {H' : Hp}, (∀ b ∈ fi, H' b = none) → ∀ b ∈ fi, FpOk (BlkX X scope z0 H0 cl C fp) pins H' b := fun hn b hb => ⟨hn b hb, (fz b hb).2⟩
  have loop : codeAny (model X.prog X.w) X.A (.compLoop (.DictComp kx vx [⟨t0, i0, c0, 0⟩, ⟨t1, i1, [], 0⟩] scope pos) 1 (.ref it) (.ref D) (compEnvC scope cl C X.env)) (fun r z3 => match r with
      | .ok _ => G z3
      | .error _ => False) z2 := by
    refine loop_snd _ _ _ _ (fun k z' => ∃ j H', Inv (BlkX X scope z0 H0 cl C fp) pins (wipe σ us) H' z' ∧ tn j z'.heap ∧ (∀ b ∈ fi, H' b = none) ∧ W j k H') ?_ m0 z2 ⟨0, H2, I2.weak (wipe_length _ _) (fun j v e => (wipe_some e).1), st, fun b hb => (fz b hb).1, w0⟩
    rintro k z3 ⟨j, H3, I3, st3, n3, w3⟩
    rcases turn j k H3 w3 with ⟨stop, nx⟩ | ⟨go, N2, hN, step⟩
    · refine thnF (T.done (BlkX X scope z0 H0 cl C fp) rfl rfl rfl hc j pins z3 (wipe σ us) H3 (fun _ _ => False) I3 (hfp n3) st3 stop) fun r z4 ⟨hr, I4⟩ => ?_
      subst hr
      exact hG _ _ z4 ((Wider.of rfl).wiped hs) I4 nx
    · refine thnF (T.item (BlkX X scope z0 H0 cl C fp) rfl rfl rfl hc j pins z3 (wipe σ us) H3 (fun _ _ => False) I3 (hfp n3) st3 go) fun r z4 ⟨u, hr, g4⟩ => ?_
      subst hr
      refine thnF g4 fun _ z5 ⟨v, H5, I5, r5, y5, st5, n5⟩ => ?_
      have Ip := I5.pinned (hfp n5) (T.obj _ _ st5)
      refine thnF ((hg z0 H0 C cl fp).run _ z5 (wipe σ us) H5 v u _ Ip r5 (step v H5 y5)) fun _ z6 ⟨σ6, H6, I6, w6, q6⟩ => ?_
      refine wpAny_pure ?_
      refine body_put (scope := scope) (vs := us) hu hk hv z0 H0 C cl fp _ z6 σ6 H6 D N2 _ _ I6 q6 fun σ7 H7 z7 wd I7 nx => ?_
      obtain ⟨m', hm, w'⟩ := hN H7 nx
      have keep : ∀ b ∈ fi, ∀ o, z5.heap.get? b = some o → z7.heap.get? b = some o ∧ H7 b = none := fun b hb o e =>
        let q := I7.pin (b, o) (List.mem_append_right _ (List.mem_append_right _ (mem_pinsAt hb e)))
        ⟨q.1, q.2.1⟩
      refine ⟨m', hm, j + 1, H7, I7.unpinned.weak ?_ (fun i v e => ?_), T.keep _ _ _ st5 fun b hb o e => (keep b hb o e).1, fun b hb => ?_, w'⟩
      · rw [← w6]; exact wd.1
      · rw [← w6] at e; exact wd.2 i v e
      · obtain ⟨o, e, _⟩ := T.obj _ _ st5 b hb
        exact (keep b hb o e).2
  exact start_snd loop (T.self X.A 0 _ _ _ st loop)
/-- {k: v for .. in .. if ..}, or with one more for; use: what is done with the new dict within the block -/
theorem DT_core {pins : List (Addr × Obj)} {z : Shared} {σ : L2.St} {H : Hp} {Q : VK} {use : Option (Value → Sem Unit)} {Qf : Value → Shared → Prop} {kx vx tg iter : Expr} {ifs : List Expr} {rest : List Comprehension} {scope : Scope} {own : List (Str × Nat)} {pos pos' : Pos} {wi : TI} {g : TG} {tt : TT} {B : BodyW} {tB : TBd}
    (hc : X.calm = true) (hN : X.N.Nodup) (hi : PI X tg iter wi) (ok : BlkOk X.N X.env.scope scope own)
    (hg : ∀ (s : Shared) (H : Hp) (C : Addr) (cl : List (Str × Addr)) (fp : List Addr), PG (BlkX X scope s H cl C fp) tg g) (ht : ∀ (s : Shared) (H : Hp) (C : Addr) (cl : List (Str × Addr)) (fp : List Addr), PTs (BlkX X scope s H cl C fp) ifs tt)
    (hL : LoopW X.prog X.w X.A tg ifs (.DictComp kx vx (⟨tg, iter, ifs, 0⟩ :: rest) scope pos) 0 B) (hB : BodyOk X scope (own.map (·.2)) B tB) (hs : ∀ x, foldedSetIterable iter X.env x = pure x) (I : Inv X pins σ H z) (h : tDT wi g tt tB (own.map (·.2)) σ H Q)
    (fin0 : ∀ D C s' m H', Inv X pins σ H' s' → Q (.ref D) H' → s'.heap.Ns C m → FpOk X pins H' C → compPost (model X.prog X.w) X.A X.xe use Qf (.ref D) C (.ok .next) s') :
    wpAny (model X.prog X.w) X.A (comprehension (.DictComp kx vx (⟨tg, iter, ifs, 0⟩ :: rest) scope pos) scope X.env pos' newDict false (eval iter X.env) use) Qf X.xe z := by
  have cap : ∀ y ∈ scope.names, y.2 = .free → ∃ c, X.env.cells.lookup y.1 = some c := fun y hy e => (ok.free y hy e).elim (fun q => I.ok.has _ (.inl q)) fun q => I.ok.has _ (.inr q)
  refine wpAny_comprehension_free (use := use) rfl hs (closure_ok cap) ok.kind (fun y hy e => by rw [ok.uniq y hy, e]) (thn (hi.run pins z σ H _ I h) fun xv z1 hx => thn hx fun itv z2 ⟨it, fp, tn, J, H2, ei, I2, T, st2, f2, q⟩ => ?_)
  subst ei
  refine wpAny_newObj_type (newEnv_comp ?_)
  obtain ⟨D, hD⟩ : ∃ D, z2.heap.objs.size = D := ⟨_, rfl⟩
  rw [hD]
  have dn : H2 D = none := I2.hok.fresh (Nat.le_of_eq hD)
  obtain ⟨W, ⟨m0, w0⟩, turn⟩ := q D dn
  obtain ⟨z3, h3⟩ : ∃ z3, ({ z2 with heap := z2.heap.push { cls := .type "dict", data := .dict #[] } } : Shared) = z3 := ⟨_, rfl⟩
  have I3 : Inv X pins σ (upd H2 D (.dT [])) z3 := by
    subst h3 hD
    exact I2.laid (t' := z2.toks) (fun b o e => Heap.get?_push_of_some _ e) (Nat.le_refl _) (dt_empty z2.heap I2.big)
  have k3 : ∀ b o, z2.heap.get? b = some o → z3.heap.get? b = some o := fun b o e => by
    subst h3
    exact Heap.get?_push_of_some _ e
  have l3 : z3.heap.objs.size = D + 1 := by
    subst h3 hD
    exact Heap.size_push _ _
  have small : ∀ b ∈ fp, b < D := fun b hb => by
    obtain ⟨o, e, _⟩ := T.obj _ _ st2 b hb
    rw [← hD]
    exact Heap.lt_size e
  have f3 : ∀ b ∈ fp, FpOk X pins (upd H2 D (.dT [])) b ∧ b < z3.heap.objs.size := fun b hb => by
    have hlt := small b hb
    refine ⟨⟨?_, (f2 b hb).2⟩, by rw [l3]; exact Nat.lt_succ_of_lt hlt⟩
    rw [upd_ne (Nat.ne_of_lt hlt)]
    exact (f2 b hb).1
  have st3 : tn 0 z3.heap := T.keep _ _ _ st2 fun b _ o e => k3 b o e
  have I4 := block_start I3 ok hN f3
  subst h3
  obtain ⟨z3, h3⟩ : ∃ z3, ({ z2 with heap := z2.heap.push { cls := .type "dict", data := .dict #[] } } : Shared) = z3 := ⟨_, rfl⟩
  rw [h3] at I3 k3 l3 f3 st3 I4
  obtain ⟨cl, hcl⟩ : ∃ cl, cellsFrom (z3.heap.objs.size + 1) scope.names (cloFrom X.env.cells scope.names []) = cl := ⟨_, rfl⟩
  obtain ⟨C, hC⟩ : ∃ C, z3.heap.objs.size = C := ⟨_, rfl⟩
  show codeAny _ _ (.compStart (.DictComp kx vx (⟨tg, iter, ifs, 0⟩ :: rest) scope pos) 0 (.ref it) (.ref D) (compEnvC scope (cellsFrom (({ z2 with heap := z2.heap.push { cls := .type "dict", data := .dict #[] } } : Shared).heap.objs.size + 1) scope.names (cloFrom X.env.cells scope.names [])) ({ z2 with heap := z2.heap.push { cls := .type "dict", data := .dict #[] } } : Shared).heap.objs.size X.env))
    (compPost (model X.prog X.w) X.A X.xe use Qf (.ref D) ({ z2 with heap := z2.heap.push { cls := .type "dict", data := .dict #[] } } : Shared).heap.objs.size) { ({ z2 with heap := z2.heap.push { cls := .type "dict", data := .dict #[] } } : Shared) with heap := pushCells (({ z2 with heap := z2.heap.push { cls := .type "dict", data := .dict #[] } } : Shared).heap.push { cls := .type "dict", data := .dict #[] }) scope.names }
  rw [h3, hcl, hC]
  rw [hcl, hC] at I4
  obtain ⟨z4, h4⟩ : ∃ z4, ({ z3 with heap := pushCells (z3.heap.push { cls := .type "dict", data := .dict #[] }) scope.names } : Shared) = z4 := ⟨_, rfl⟩
  have st4 : tn 0 z4.heap := T.keep _ _ _ st3 fun b _ o e => by
    subst h4
    exact pushCells_keeps _ _ _ _ (Heap.get?_push_of_some _ e)
  rw [h4] at I4 ⊢
  have stat : ∀ {σ' : L2.St} {H' : Hp} {z' : Shared}, Inv (BlkX X scope z3 (upd H2 D (.dT [])) cl C fp) [] σ' H' z' → (∀ b ∈ fp, H' b = none) → ∀ b ∈ fp, FpOk (BlkX X scope z3 (upd H2 D (.dT [])) cl C fp) [] H' b := fun I' hn b hb =>
    ⟨hn b hb, (I'.ok.exf b hb).1, I'.ok.exfs b hb, .inl hb, fun x c e => (I'.ok.exf b hb).2 x c e, fun p hp => absurd (show p ∈ ([] : List (Addr × Obj)) ++ [] from hp) (by simp)⟩
  have loop : codeAny (model X.prog X.w) X.A (.compLoop (.DictComp kx vx (⟨tg, iter, ifs, 0⟩ :: rest) scope pos) 0 (.ref it) (.ref D) (compEnvC scope cl C X.env)) (compPost (model X.prog X.w) X.A X.xe use Qf (.ref D) C) z4 := by
    refine hL _ _ _ _ (fun n z' => ∃ i H', Inv (BlkX X scope z3 (upd H2 D (.dT [])) cl C fp) [] (wipe σ (own.map (·.2))) H' z' ∧ tn i z'.heap ∧ (∀ b ∈ fp, H' b = none) ∧ W i n H') ?_ m0 z4 ⟨0, _, I4, st4, fun b hb => (f3 b hb).1.1, w0⟩
    rintro n z5 ⟨i, H5, I5, st5, n5, w5⟩
    rcases turn i n H5 w5 with ⟨stop, qq⟩ | ⟨go, Nx, hN, step⟩
    · refine thnF (T.done (BlkX X scope z3 (upd H2 D (.dT [])) cl C fp) rfl rfl rfl hc i [] z5 _ H5 (fun _ _ => False) I5 (stat I5 n5) st5 stop) fun r z6 ⟨hr, I6⟩ => ?_
      subst hr
      have I7 : Inv X pins σ H5 z6 := I3.call' (ch := fp) I6.os I6.base I6.hok I6.bare fun b hb => ⟨(f3 b hb).1.2.2.2.1, (f3 b hb).1.2.1, (f3 b hb).1.2.2.2.2.1, (f3 b hb).1.2.2.2.2.2⟩
      have nC : H5 C = none := I6.free
      obtain ⟨m, hn, _⟩ := I6.loc
      have hn : z6.heap.Ns C m := hn
      exact fin0 D C z6 m H5 I7 qq hn (I3.fpOk (Nat.le_of_eq hC) nC)
    · refine thnF (T.item (BlkX X scope z3 (upd H2 D (.dT [])) cl C fp) rfl rfl rfl hc i [] z5 _ H5 (fun _ _ => False) I5 (stat I5 n5) st5 go) fun r z6 ⟨u, hr, g6⟩ => ?_
      subst hr
      refine thnF g6 fun _ z7 ⟨x, H7, I7, r7, y7, st7, n7⟩ => ?_
      have Ip := I7.pinned (stat I7 n7) (T.obj _ _ st7)
      refine thnF ((hg z3 _ C cl fp).run _ z7 _ H7 x u _ Ip r7 (step x H7 y7)) fun _ z8 ⟨σ8, H8, I8, w8, q8⟩ => ?_
      refine thnF ((ht z3 _ C cl fp).run _ z8 σ8 H8 _ I8 q8) fun b z9 ⟨H9, I9, q9⟩ => ?_
      have fin : ∀ {σ' : L2.St} {H' : Hp} {z' : Shared}, Wider (own.map (·.2)) σ8 σ' → Inv (BlkX X scope z3 (upd H2 D (.dT [])) cl C fp) ([] ++ pinsAt fp z7.heap) σ' H' z' → Nx H' →
          ∃ m, m < n ∧ ∃ i H', Inv (BlkX X scope z3 (upd H2 D (.dT [])) cl C fp) [] (wipe σ (own.map (·.2))) H' z' ∧ tn i z'.heap ∧ (∀ b ∈ fp, H' b = none) ∧ W i m H' := fun {σ' H' z'} wd I' nx => by
        obtain ⟨m', hm, w'⟩ := hN H' nx
        have keep : ∀ b ∈ fp, ∀ o, z7.heap.get? b = some o → z'.heap.get? b = some o ∧ H' b = none := fun b hb o e =>
          let q := I'.pin (b, o) (List.mem_append_right _ (List.mem_append_right _ (mem_pinsAt hb e)))
          ⟨q.1, q.2.1⟩
        refine ⟨m', hm, i + 1, H', (I'.unpinned (pins := [])).weak ?_ (fun j v e => ?_), T.keep _ _ _ st7 fun b hb o e => (keep b hb o e).1, fun b hb => ?_, w'⟩
        · rw [← w8]; exact wd.1
        · rw [← w8] at e; exact wd.2 j v e
        · obtain ⟨o, e, _⟩ := T.obj _ _ st7 b hb
          exact (keep b hb o e).2
      cases b with
      | false =>
        simp only [Bool.false_eq_true, if_false] at q9 ⊢
        exact fin (Wider.of rfl) I9 q9
      | true =>
        simp only [if_true] at q9 ⊢
        exact hB z3 _ C cl fp _ z9 σ8 H9 D Nx _ _ I9 q9 fun σ' H' z' wd I' nx => fin wd I' nx
  exact codeAny_compStart_dict loop (T.self X.A 0 _ _ _ st4 loop)
/-- .. as a value -/
theorem pe_DT {kx vx tg iter : Expr} {ifs : List Expr} {rest : List Comprehension} {scope : Scope} {own : List (Str × Nat)} {pos : Pos} {wi : TI} {g : TG} {tt : TT} {B : BodyW} {tB : TBd} (hc : X.calm = true) (hN : X.N.Nodup) (hi : PI X tg iter wi) (ok : BlkOk X.N X.env.scope scope own)
    (hg : ∀ (s : Shared) (H : Hp) (C : Addr) (cl : List (Str × Addr)) (fp : List Addr), PG (BlkX X scope s H cl C fp) tg g) (ht : ∀ (s : Shared) (H : Hp) (C : Addr) (cl : List (Str × Addr)) (fp : List Addr), PTs (BlkX X scope s H cl C fp) ifs tt)
    (hL : LoopW X.prog X.w X.A tg ifs (.DictComp kx vx (⟨tg, iter, ifs, 0⟩ :: rest) scope pos) 0 B) (hB : BodyOk X scope (own.map (·.2)) B tB) (hs : ∀ x, foldedSetIterable iter X.env x = pure x := by intro _; rfl) :
    PE X (.DictComp kx vx (⟨tg, iter, ifs, 0⟩ :: rest) scope pos) (tDT wi g tt tB (own.map (·.2))) := by
  refine ⟨fun pins z σ H Q I h => ?_⟩
  rw [arm_eval_DictComp]
  refine DT_core (use := none) hc hN hi ok hg ht hL hB hs I h fun D C z' m H' I' q hn f => ⟨m, hn, fun h'' sb => ?_⟩
  obtain ⟨f0, f1, f2, f3, f4, f5⟩ := f
  exact ⟨.ref D, H', I'.turned (t' := z'.toks) (fun b o hb e => (sb.2 b hb).trans e) f0 f1 f3 f4 f5, rfl, q⟩
theorem sw_dict {kx vx : Expr} {gs : List Comprehension} {scope : Scope} {pos py : Pos} {y : Str} {l : Nat} {env : Env} (hk : env.scope.kind = .function) (hy : env.scope.names.lookup y = some .local) (hl : (py.line == pos.line) = true)
    (ha : (scope.names.any fun (n, k) => n == y && (k == .local || k == .cell)) = false) : swapsWith (.DictComp kx vx gs scope pos) (some (.Name y py)) l env = pure true := by
  have e1 : env.kindOf y = some .local := hy
  have e2 : env.blockKind = .function := by
    unfold Env.blockKind
    rw [hk]
    rfl
  unfold swapsWith
  show (pure (env.blockKind == .function && env.kindOf y == some .local && py.line == pos.line && !(scope.names.any fun (n, k) => n == y && (k == .local || k == .cell))) : Sem Bool) = pure true
  rw [e1, e2, hl, ha]
  rfl
/-- .. stored in a local name -/
theorem ps_setDT {i : Nat} {y : Str} {py : Pos} {kx vx tg iter : Expr} {ifs : List Expr} {rest : List Comprehension} {scope : Scope} {own : List (Str × Nat)} {pos spos : Pos} {wi : TI} {g : TG} {tt : TT} {B : BodyW} {tB : TBd} (hc : X.calm = true) (hN : X.N.Nodup) (hy : X.N[i]? = some y) (hyl : X.env.scope.names.lookup y = some .local)
    (hsw : swapsWith (.DictComp kx vx (⟨tg, iter, ifs, 0⟩ :: rest) scope pos) (some (.Name y py)) spos.line X.env = pure true) (hi : PI X tg iter wi) (ok : BlkOk X.N X.env.scope scope own)
    (hg : ∀ (s : Shared) (H : Hp) (C : Addr) (cl : List (Str × Addr)) (fp : List Addr), PG (BlkX X scope s H cl C fp) tg g) (ht : ∀ (s : Shared) (H : Hp) (C : Addr) (cl : List (Str × Addr)) (fp : List Addr), PTs (BlkX X scope s H cl C fp) ifs tt)
    (hL : LoopW X.prog X.w X.A tg ifs (.DictComp kx vx (⟨tg, iter, ifs, 0⟩ :: rest) scope pos) 0 B) (hB : BodyOk X scope (own.map (·.2)) B tB) (hs : ∀ x, foldedSetIterable iter X.env x = pure x) :
    PS X (.Assign [.Name y py] (.DictComp kx vx (⟨tg, iter, ifs, 0⟩ :: rest) scope pos) spos) (tAsg (tDT wi g tt tB (own.map (·.2))) (gName i)) := by
  refine ⟨fun pins z σ H D I h => ?_⟩
  rw [exec_Assign_Name_used _ _ _ _ hsw]
  refine wpAny_bind (wpAny_standAt (wpAny_bind ?_))
  show wpAny _ X.A (do let _ ← comprehension (.DictComp kx vx (⟨tg, iter, ifs, 0⟩ :: rest) scope pos) scope X.env (firstIterPos (⟨tg, iter, ifs, 0⟩ :: rest) pos) newDict false (eval iter X.env) (some (assign (.Name y py) X.env))) _ _ z
  have h : tDT wi g tt tB (own.map (·.2)) σ H (fun x H1 => gName i x σ H1 D.nx) := h
  refine wpAny_bind (thn (DT_core (Qf := fun _ z' => SP X pins D .next z') hc hN hi ok hg ht hL hB hs I h fun L C z' m H' I' q hn f => ?_) fun _ z' hq => wpAny_pure (wpAny_pure hq))
  show wpAny _ _ (assign (.Name y py) X.env (.ref L)) _ _ _
  refine wpAny_assign_Name (store_ok2 (v := V.ref L) I' hN hy (.inl hyl) rfl (fun z2 I2 ⟨a, sb, ha⟩ => ?_) (.inr hyl))
  obtain ⟨f0, f1, f2, f3, f4, f5⟩ := f
  have na : C ≠ a := ha.elim (fun w => by rw [w]; exact f1) fun w => fun e => f4 y a w e.symm
  exact ⟨m, hn.sameBut sb na, fun h3 sb3 => ⟨_, H', I2.turned (t' := z2.toks) (fun b o hb e => (sb3.2 b hb).trans e) f0 f1 f3 f4 f5, q⟩⟩
theorem pe_dcT {kx vx tg iter : Expr} {ifs : List Expr} {scope : Scope} {own : List (Str × Nat)} {pos : Pos} {wi : TI} {g : TG} {tt : TT} {tk tv : TE} (hc : X.calm = true) (hN : X.N.Nodup) (hu : X.A.units + 1 < cLine) (hi : PI X tg iter wi) (ok : BlkOk X.N X.env.scope scope own)
    (hg : ∀ (s : Shared) (H : Hp) (C : Addr) (cl : List (Str × Addr)) (fp : List Addr), PG (BlkX X scope s H cl C fp) tg g) (ht : ∀ (s : Shared) (H : Hp) (C : Addr) (cl : List (Str × Addr)) (fp : List Addr), PTs (BlkX X scope s H cl C fp) ifs tt)
    (hk : ∀ (s : Shared) (H : Hp) (C : Addr) (cl : List (Str × Addr)) (fp : List Addr), PE (BlkX X scope s H cl C fp) kx tk) (hv : ∀ (s : Shared) (H : Hp) (C : Addr) (cl : List (Str × Addr)) (fp : List Addr), PE (BlkX X scope s H cl C fp) vx tv)
    (hs : ∀ x, foldedSetIterable iter X.env x = pure x := by intro _; rfl) : PE X (.DictComp kx vx [⟨tg, iter, ifs, 0⟩] scope pos) (tDT wi g tt (tb1 tk tv) (own.map (·.2))) :=
  pe_DT hc hN hi ok hg ht loop_one (body_put (by omega) hk hv) hs
theorem pe_dcT2 {kx vx tg iter t1 i1 : Expr} {scope : Scope} {own : List (Str × Nat)} {vs1 : List Nat} {pos : Pos} {wi wi1 : TI} {g g1 : TG} {tk tv : TE} (hc : X.calm = true) (hN : X.N.Nodup) (hu : X.A.units + 1 < cLine) (hi : PI X tg iter wi) (ok : BlkOk X.N X.env.scope scope own) (hvs : ∀ i ∈ vs1, i ∈ own.map (·.2))
    (hg : ∀ (s : Shared) (H : Hp) (C : Addr) (cl : List (Str × Addr)) (fp : List Addr), PG (BlkX X scope s H cl C fp) tg g)
    (hi1 : ∀ (s : Shared) (H : Hp) (C : Addr) (cl : List (Str × Addr)) (fp : List Addr), PI (BlkX X scope s H cl C fp) t1 i1 wi1) (hg1 : ∀ (s : Shared) (H : Hp) (C : Addr) (cl : List (Str × Addr)) (fp : List Addr), PG (BlkX X scope s H cl C fp) t1 g1)
    (hk : ∀ (s : Shared) (H : Hp) (C : Addr) (cl : List (Str × Addr)) (fp : List Addr), PE (BlkX X scope s H cl C fp) kx tk) (hv : ∀ (s : Shared) (H : Hp) (C : Addr) (cl : List (Str × Addr)) (fp : List Addr), PE (BlkX X scope s H cl C fp) vx tv)
    (hs : ∀ x, foldedSetIterable iter X.env x = pure x := by intro _; rfl) (hs1 : ∀ env x, foldedSetIterable i1 env x = pure x := by intro _ _; rfl) : PE X (.DictComp kx vx [⟨tg, iter, [], 0⟩, ⟨t1, i1, [], 0⟩] scope pos) (tDT wi g tYes (tb2 wi1 g1 tk tv vs1) (own.map (·.2))) :=
  pe_DT hc hN hi ok hg (fun _ _ _ _ _ => pts_nil) (loop_fst hs1) (body_in hc (by omega) hvs hi1 hg1 hk hv) hs
theorem ps_setDc {i : Nat} {y : Str} {py spos : Pos} {kx vx tg iter : Expr} {ifs : List Expr} {scope : Scope} {own : List (Str × Nat)} {pos : Pos} {wi : TI} {g : TG} {tt : TT} {tk tv : TE} (hc : X.calm = true) (hN : X.N.Nodup) (hy : X.N[i]? = some y) (hyl : X.env.scope.names.lookup y = some .local)
    (hsw : swapsWith (.DictComp kx vx [⟨tg, iter, ifs, 0⟩] scope pos) (some (.Name y py)) spos.line X.env = pure true) (hu : X.A.units + 1 < cLine) (hi : PI X tg iter wi) (ok : BlkOk X.N X.env.scope scope own)
    (hg : ∀ (s : Shared) (H : Hp) (C : Addr) (cl : List (Str × Addr)) (fp : List Addr), PG (BlkX X scope s H cl C fp) tg g) (ht : ∀ (s : Shared) (H : Hp) (C : Addr) (cl : List (Str × Addr)) (fp : List Addr), PTs (BlkX X scope s H cl C fp) ifs tt)
    (hk : ∀ (s : Shared) (H : Hp) (C : Addr) (cl : List (Str × Addr)) (fp : List Addr), PE (BlkX X scope s H cl C fp) kx tk) (hv : ∀ (s : Shared) (H : Hp) (C : Addr) (cl : List (Str × Addr)) (fp : List Addr), PE (BlkX X scope s H cl C fp) vx tv)
    (hs : ∀ x, foldedSetIterable iter X.env x = pure x := by intro _; rfl) : PS X (.Assign [.Name y py] (.DictComp kx vx [⟨tg, iter, ifs, 0⟩] scope pos) spos) (tAsg (tDT wi g tt (tb1 tk tv) (own.map (·.2))) (gName i)) :=
  ps_setDT hc hN hy hyl hsw hi ok hg ht loop_one (body_put (by omega) hk hv) hs
/-! ### sorted of a dict whose keys are pairs of ints -/
def pairAt (H : Hp) (u : Value) : Int × Int := match u with
  | .ref b => match H b with
    | some (.tup [.int i, .int j]) => (i, j)
    | _ => (0, 0)
  | _ => (0, 0)
def PrsAt (H : Hp) : List (Int × Int) → List Addr → Prop := Paired fun k b => H b = some (.tup [.int k.1, .int k.2])
def kP (k : Int × Int) : List Key := [.inl k.1, .inl k.2]
def rSortedDT : List V → Hp → VK → Prop := fun vs H Q => ∃ (d : Addr) (ps : List ((Int × Int) × V)), vs = [.ref d] ∧ Rd H d (.dT (ps.map fun e => (kP e.1, e.2))) ∧
  ∀ (ks : List (Int × Int)) (bs : List Addr) (p : Addr), ks.Perm (ps.map (·.1)) → ks.Pairwise (fun x y => SrtO.lexB y x = false) → PrsAt H ks bs → H p = none → Q (.ref p) (upd H p (.lst (bs.map V.ref)))
theorem pairAt_ref {H : Hp} {b : Addr} {i j : Int} (h : H b = some (.tup [.int i, .int j])) : pairAt H (.ref b) = (i, j) := by
  unfold pairAt
  simp only [h]
theorem prs_of {H : Hp} : ∀ {us : List Value}, (∀ u ∈ us, ∃ b, u = Value.ref b ∧ H b = some (.tup [.int (pairAt H u).1, .int (pairAt H u).2])) → ∃ bs : List Addr, us = bs.map Value.ref ∧ PrsAt H (us.map (pairAt H)) bs
  | [], _ => ⟨[], rfl, .nil⟩
  | u :: us, h => by
    obtain ⟨b, e, hb⟩ := h u List.mem_cons_self
    obtain ⟨bs, e2, q⟩ := prs_of fun v hv => h v (List.mem_cons_of_mem _ hv)
    exact ⟨b :: bs, by rw [e, e2]; rfl, .cons hb q⟩
theorem cr_sortedDT (hcalm : X.calm = true) : CallR X (.builtin "sorted") rSortedDT := by
  intro pins z σ H vs us Q I r h
  obtain ⟨d, ps, rfl, hd, q⟩ := h
  obtain ⟨u, rfl, rx⟩ := vals1 r
  cases rx
  obtain ⟨hz, lo, ks, pr, o, es, ep, ho, hx, hdt, he, hn⟩ := (show ObjOk X.prog X.w H z.heap d (.dT (ps.map fun e => (kP e.1, e.2))) from hd.ok I.hok)
  have l1 : es.size = ks.length := size_of_entries he
  have l2 : (ps.map fun e => (kP e.1, e.2)).length = ks.length := Paired.length pr
  have hes : es.size ≤ sizeLine := by omega
  refine Calls.call_function_entry kind_sorted plain_sorted entry_sorted (args_sorted1 _) ?_
  unfold Builtin.«sorted»
  refine wpAny_bind (m := checkCount "sorted" 1 1 _) (wpAny_pure ?_)
  refine wpAny_bind (PySem.W.kdu_collect (A := X.A.in1) (kdl_raw lo hx hdt) (I.ok.hd hcalm) ho hes fun h' tk acc kp it => ?_)
  have ea : acc.toList = ks.map fun x => Value.ref x.2.1 := by
    apply List.ext_getElem?
    intro j
    rw [List.getElem?_map]
    cases hj : acc.toList[j]? with
    | none =>
      have h1 := List.getElem?_eq_none_iff.mp hj
      have h2 : acc.toList.length = ks.length := by rw [Array.length_toList, it.1]; exact l1
      rw [List.getElem?_eq_none (by omega)]
      rfl
    | some v =>
      obtain ⟨en, hen, hv⟩ := it.2 j v (by rw [← Array.getElem?_toList]; exact hj)
      have qe := entry_at he j
      rw [hen] at qe
      cases hb : ks[j]? with
      | none =>
        rw [hb] at qe
        exact nomatch (show some en = none from qe)
      | some b =>
        rw [hb] at qe
        have e2 : en = entryOfKey (tupleKind (mixKind X.prog X.w)) b := Option.some.inj qe
        rw [hv, e2]
        rfl
  obtain ⟨as, eas⟩ : ∃ as, acc.toList = as := ⟨_, rfl⟩
  have key : ∀ (ps : List ((Int × Int) × V)) (ks : List (List Key × Addr × Value)), KT H (ps.map fun e => (kP e.1, e.2)) ks → ∀ v ∈ ks.map (fun x => Value.ref x.2.1), ∃ b, v = Value.ref b ∧ H b = some (.tup [.int (pairAt H v).1, .int (pairAt H v).2]) := by
    intro ps
    induction ps with
    | nil =>
      intro ks h v hv
      cases h
      exact nomatch hv
    | cons p ps ih =>
      intro ks h v hv
      cases h with
      | cons h1 h2 =>
        rcases List.mem_cons.mp hv with e | e
        · refine ⟨_, e, ?_⟩
          have h3 := h1.2.1
          rw [e, pairAt_ref h3]
          exact h3
        · exact ih _ h2 v e
  have keyL : ∀ (ps : List ((Int × Int) × V)) (ks : List (List Key × Addr × Value)), KT H (ps.map fun e => (kP e.1, e.2)) ks → (ks.map fun x => Value.ref x.2.1).map (pairAt H) = ps.map (·.1) := by
    intro ps
    induction ps with
    | nil =>
      intro ks h
      cases h
      rfl
    | cons p ps ih =>
      intro ks h
      cases h with
      | cons h1 h2 =>
        rw [List.map_cons, List.map_cons, List.map_cons, ih _ h2]
        congr 1
        have h3 := h1.2.1
        exact pairAt_ref h3
  have hp := key ps ks pr
  have hk := keyL ps ks pr
  rw [← ea, eas] at hp hk
  have hal : as.length ≤ sizeLine := by
    rw [← eas, ea, List.length_map]
    omega
  rw [eas]
  refine wpAny_bind (wpAny_newList ?_ hal)
  have hoL : (h'.push (seqObj "list" as.toArray 0)).get? h'.objs.size = some (seqObj "list" as.toArray 0) := Heap.get?_push_size _ rfl
  have I1 : Inv X pins σ H { z with heap := h', toks := tk } := I.kept kp
  show wpAny _ _ _ _ _ { z with heap := h'.push (seqObj "list" as.toArray 0), toks := tk }
  have pk : ∀ v ∈ as, Srt.IsPair (h'.push (seqObj "list" as.toArray 0)) v (pairAt H v).1 (pairAt H v).2 := fun v hv => by
    obtain ⟨b, e, hb⟩ := hp v hv
    obtain ⟨_, its, r2, o2, g1, g2, n, g3⟩ := I1.hok _ _ hb
    obtain ⟨u1, u2, rfl, ri, rj⟩ := vals2 r2
    obtain ⟨t1, rfl⟩ := ri
    obtain ⟨t2, rfl⟩ := rj
    exact ⟨b, o2, t1, t2, n, e, Heap.get?_push_of_some _ g1, g2, g3⟩
  refine wpAny_bind (wpAny_holding (wpAny_call_entry slot_list_sort ⟨_, hoL, rfl⟩ entry_list_sort (SrtO.list_sort_ord (SrtO.swo_lex (pairAt H)) hoL hal (fun h2 => SrtO.pairs_sortableO (by omega) pk fun o e => ?_) fun out hs hb => ⟨_, rfl, ?_⟩) (args_list_sort _)))
  · rw [hoL] at e
    cases e
    intro c
    exact absurd (Value.type.inj c) (by decide)
  · obtain ⟨e', he'⟩ := sortedHeap_at (vs := as) (out := out.toArray) hoL
    obtain ⟨bs, eb, prs⟩ := prs_of (H := H) (us := out) fun v hv => hp v (hb.perm.mem_iff.mp hv)
    have hlen : (bs.map V.ref).length ≤ sizeLine := by
      have := hb.perm.length_eq
      rw [eb, List.length_map] at this
      rw [List.length_map]
      omega
    refine wpAny_pure ⟨_, rfl, .ref h'.objs.size, upd H h'.objs.size (.lst (bs.map V.ref)), I1.laid (t' := tk) (fun b u e => ?_) (Nat.le_refl _) (show ObjOk X.prog X.w _ _ _ (.lst (bs.map V.ref)) from ⟨hlen, out, e', by rw [eb]; exact vals_refs bs, he'⟩), rfl,
      q (out.map (pairAt H)) bs _ ?_ (List.pairwise_map.mpr hs) prs (I1.hok.fresh (Nat.le_refl _))⟩
    · have hb : b < h'.objs.size := Heap.lt_size e
      rw [sortedHeap_old (Nat.ne_of_lt hb) (by rw [size_push']; exact Nat.lt_succ_of_lt hb)]
      exact Heap.get?_push_of_some _ e
    · rw [← hk]
      exact hb.perm.map _
end
end SB
/-! Dicts by their data. -/
namespace SB
open PySem PySem.Spec PyProof.Rows L2 RZ
open StX (tStar pa_star)
abbrev Tb := List (List Int × Int)
def kI (k : List Int) : List Key := k.map Sum.inl
def tbH (C : Tb) : List (List Key × V) := C.map fun e => (kI e.1, V.int e.2)
def getT (C : Tb) (k : List Int) : Option Int := (C.find? fun e => decide (e.1 = k)).map (·.2)
def putT (C : Tb) (k : List Int) (v : Int) : Tb := if C.any (fun e => decide (e.1 = k)) = true then C.map (fun e => if e.1 = k then (e.1, v) else e) else C ++ [(k, v)]
theorem kI_kV (k : List Int) : (kI k).map kV = k.map V.int := by unfold kI; rw [List.map_map]; rfl
theorem kI_inj {a b : List Int} : kI a = kI b ↔ a = b := by
  constructor
  · intro h
    induction a generalizing b with
    | nil => cases b with
      | nil => rfl
      | cons y b => cases h
    | cons x a ih => cases b with
      | nil => cases h
      | cons y b =>
        injection h with h1 h2
        injection h1 with h1
        rw [h1, ih h2]
  · rintro rfl; rfl
theorem valV_tb (C : Tb) (k : List Int) : valV (tbH C) (kI k) = (getT C k).map V.int := by
  induction C with
  | nil => rfl
  | cons e C ih =>
    unfold getT
    rw [List.find?_cons]
    by_cases h : e.1 = k
    · rw [decide_eq_true h]
      exact valV_pos (p := (kI e.1, V.int e.2)) (kI_inj.mpr h)
    · rw [decide_eq_false h]
      exact (valV_neg (p := (kI e.1, V.int e.2)) (fun z => h (kI_inj.mp z))).trans ih
theorem putK_tb (C : Tb) (k : List Int) (v : Int) : putK (tbH C) (kI k) (.int v) = tbH (putT C k v) := by
  have e : ((tbH C).any fun kv => decide (kv.1 = kI k)) = C.any fun e => decide (e.1 = k) := by
    unfold tbH
    rw [List.any_map]
    congr 1
    funext e
    simp only [Function.comp, kI_inj]
  unfold putK putT
  rw [e]
  split
  · unfold tbH
    rw [List.map_map, List.map_map]
    apply List.map_congr_left
    intro x _
    simp only [Function.comp, kI_inj]
    split <;> rfl
  · unfold tbH
    rw [List.map_append]
    rfl
theorem putT_len (C : Tb) (k : List Int) (v : Int) : (putT C k v).length ≤ C.length + 1 := by
  unfold putT
  split
  · rw [List.length_map]; omega
  · simp
theorem putT_new {C : Tb} {k : List Int} (v : Int) (h : k ∉ C.map (·.1)) : putT C k v = C ++ [(k, v)] := by
  unfold putT
  rw [if_neg]
  intro z
  obtain ⟨e, he, h2⟩ := List.any_eq_true.mp z
  exact h (List.mem_map.mpr ⟨e, he, of_decide_eq_true h2⟩)
theorem getT_of {α : Type} (kf : α → List Int) (vf : α → Int) : ∀ {xs : List α} {x : α}, (xs.map kf).Nodup → x ∈ xs → getT (xs.map fun x => (kf x, vf x)) (kf x) = some (vf x)
  | y :: xs, x, hn, hx => by
    unfold getT
    rw [List.map_cons, List.find?_cons]
    rw [List.map_cons, List.nodup_cons] at hn
    by_cases e : kf y = kf x
    · rw [decide_eq_true e]
      rcases List.mem_cons.mp hx with z | z
      · subst z; rfl
      · exact absurd (List.mem_map.mpr ⟨x, z, e.symm⟩) hn.1
    · rw [decide_eq_false e]
      rcases List.mem_cons.mp hx with z | z
      · subst z; exact absurd rfl e
      · exact getT_of kf vf hn.2 z
theorem getT_some {C : Tb} {k : List Int} (h : k ∈ C.map (·.1)) : ∃ v, getT C k = some v := by
  induction C with
  | nil => exact nomatch h
  | cons e C ih =>
    unfold getT
    rw [List.find?_cons]
    by_cases q : e.1 = k
    · rw [decide_eq_true q]; exact ⟨e.2, rfl⟩
    · rw [decide_eq_false q]
      rcases List.mem_cons.mp h with z | z
      · exact absurd z.symm q
      · exact ih z
/-- counts -/
def cT (C : Cts) : Tb := C.map fun e => ([e.1.1, e.1.2], e.2)
theorem pair_eq {a b : Int × Int} : [a.1, a.2] = [b.1, b.2] ↔ a = b := by
  obtain ⟨a1, a2⟩ := a
  obtain ⟨b1, b2⟩ := b
  simp
theorem cT_get (C : Cts) (k : Int × Int) : (getT (cT C) [k.1, k.2]).getD 0 = getC C k := by
  induction C with
  | nil => rfl
  | cons e C ih =>
    show (getT (([e.1.1, e.1.2], e.2) :: cT C) _).getD 0 = if e.1 = k then e.2 else getC C k
    unfold getT
    rw [List.find?_cons]
    by_cases h : e.1 = k
    · rw [decide_eq_true (pair_eq.mpr h), if_pos h]; rfl
    · rw [decide_eq_false (fun z => h (pair_eq.mp z)), if_neg h]
      exact ih
theorem putC_keys : ∀ (C : Cts) (k : Int × Int) (m : Int), (putC C k m).map (·.1) = if k ∈ C.map (·.1) then C.map (·.1) else C.map (·.1) ++ [k]
  | [], k, m => rfl
  | e :: C, k, m => by
    unfold putC
    by_cases h : e.1 = k
    · rw [if_pos h]
      simp [h]
    · rw [if_neg h, List.map_cons, putC_keys C k m, List.map_cons]
      have h2 : ¬ k = e.1 := fun z => h z.symm
      by_cases q : k ∈ C.map (·.1)
      · simp [q]
      · simp only [List.mem_cons, h2, q, or_self, if_false]; rfl
theorem putC_nodup {C : Cts} (h : (C.map (·.1)).Nodup) (k : Int × Int) (m : Int) : ((putC C k m).map (·.1)).Nodup := by
  rw [putC_keys]
  split
  · exact h
  · rename_i q
    rw [List.nodup_append]
    exact ⟨h, by simp, fun a ha b hb => by simp at hb; subst hb; exact fun z => q (z ▸ ha)⟩
theorem putC_len (C : Cts) (k : Int × Int) (m : Int) : (putC C k m).length ≤ C.length + 1 := by
  have := congrArg List.length (putC_keys C k m)
  rw [List.length_map] at this
  rw [this]
  split <;> simp
/-- of distinct keys -/
theorem cT_put : ∀ (C : Cts) (k : Int × Int) (m : Int), (C.map (·.1)).Nodup → putT (cT C) [k.1, k.2] (getC C k + m) = cT (putC C k m)
  | [], k, m, _ => by show [([k.1, k.2], 0 + m)] = [([k.1, k.2], m)]; rw [Int.zero_add]
  | e :: C, k, m, hn => by
    rw [List.map_cons, List.nodup_cons] at hn
    have ih := cT_put C k m hn.2
    unfold putC getC
    by_cases h : e.1 = k
    · rw [if_pos h, if_pos h]
      unfold putT
      have t : (cT (e :: C)).any (fun x => decide (x.1 = [k.1, k.2])) = true := List.any_eq_true.mpr ⟨([e.1.1, e.1.2], e.2), List.mem_cons_self, decide_eq_true (pair_eq.mpr h)⟩
      rw [if_pos t]
      show (if [e.1.1, e.1.2] = [k.1, k.2] then ([e.1.1, e.1.2], e.2 + m) else ([e.1.1, e.1.2], e.2)) :: (cT C).map _ = ([e.1.1, e.1.2], e.2 + m) :: cT C
      rw [if_pos (pair_eq.mpr h)]
      congr 1
      unfold cT
      rw [List.map_map]
      apply List.map_congr_left
      intro x hx
      show (if [x.1.1, x.1.2] = [k.1, k.2] then _ else _) = _
      rw [if_neg]
      intro z
      exact hn.1 (by rw [h, ← pair_eq.mp z]; exact List.mem_map.mpr ⟨x, hx, rfl⟩)
    · rw [if_neg h, if_neg h]
      have ne : ¬ [e.1.1, e.1.2] = [k.1, k.2] := fun z => h (pair_eq.mp z)
      have hc : cT (e :: putC C k m) = ([e.1.1, e.1.2], e.2) :: cT (putC C k m) := rfl
      rw [hc, ← ih]
      unfold putT
      have t : (cT (e :: C)).any (fun x => decide (x.1 = [k.1, k.2])) = (cT C).any (fun x => decide (x.1 = [k.1, k.2])) := by
        show (decide ([e.1.1, e.1.2] = [k.1, k.2]) || _) = _
        rw [decide_eq_false ne]; rfl
      rw [t]
      split
      · show (if [e.1.1, e.1.2] = [k.1, k.2] then _ else _) :: _ = _
        rw [if_neg ne]
        rfl
      · rfl
/-! ### reading and writing -/
def RdT (H : Hp) (a : Addr) (C : Tb) : Prop := Rd H a (.dT (tbH C))
theorem RdT.same {H H' : Hp} {a : Addr} {C : Tb} (e : Same H H') (h : RdT H a C) : RdT H' a C := h.elim (fun h => .inl (e _ _ h)) fun ⟨o, h⟩ => .inr ⟨o, e _ _ h⟩
theorem RdT.of {H : Hp} {a : Addr} {C : Tb} (h : H a = some (.dT (tbH C))) : RdT H a C := .inl h
theorem RdT.frz {H : Hp} {a : Addr} {C : Tb} {o : Obj} (h : H a = some (.frz o (.dT (tbH C)))) : RdT H a C := .inr ⟨o, h⟩
theorem RdT.isD {H : Hp} {a : Addr} {C : Tb} (h : RdT H a C) : IsD H a := .inr ⟨_, h⟩
/-- a new dict -/
def EvC (te : TE) (σ : L2.St) (H : Hp) (C : Tb) : Prop := ∀ H1, Same H H1 → ∀ Q : VK, (∀ p H2, H1 p = none → Same H1 H2 → H2 p = some (.dT (tbH C)) → Q (.ref p) H2) → te σ H1 Q
section
variable {K : PySem.W.Frag} {σ : L2.St} {H H' : Hp} {ρ : List Sd} {ta tb te ts td ty tx tv : TE} {d e : PyData} {i j : Int} {ds es : List PyData} {tr : TA} {a b : Addr} {C : Tb} {k : List Int} {v : Int}
theorem EvC.to {C' : Tb} (h : EvC te σ H C) (e : C = C') : EvC te σ H C' := e ▸ h
theorem ec_new : EvC tDNewT σ H [] := fun H1 a Q q p hp => q p _ hp (Same.new hp) upd_same
theorem ev_dget (h : EvX td σ H (.ref a)) (r : RdT H a C) (hk : EvD ty σ H (tI k)) (hv : getT C k = some v) : EvD (tDGet td ty) σ H (.int v) := fun H1 e Q q =>
  h H1 e _ fun H2 e2 => hk H2 (e.trans e2) _ fun w H3 e3 rk => by
    obtain ⟨p, rfl, hp⟩ := rk.tI
    refine ⟨a, .int v, rfl, .inr ⟨_, kI k, p, r.same ((e.trans e2).trans e3), rfl, ?_, ?_⟩, q _ H3 (e2.trans e3) (.int _)⟩
    · rw [kI_kV]; exact hp
    · rw [valV_tb, hv]; rfl
theorem ev_dget2 (h : EvX td σ H (.ref a)) (r : RdT H a C) (hk : EvD ty σ H (tI k)) (hx : EvD tx σ H (.int i)) : EvD (tDGet2 td ty tx) σ H (.int ((getT C k).getD i)) := fun H1 e Q q =>
  h H1 e _ fun H2 e2 => ⟨a, rfl, (r.same (e.trans e2)).isD, hk H2 (e.trans e2) _ fun w H3 e3 rk => hx H3 ((e.trans e2).trans e3) _ fun u H4 e4 rx => by
    obtain ⟨p, rfl, hp⟩ := (rk.same e4).tI
    refine ⟨_, .inr ⟨_, kI k, p, r.same (((e.trans e2).trans e3).trans e4), rfl, by rw [kI_kV]; exact hp, rfl⟩, q _ H4 ((e2.trans e3).trans e4) ?_⟩
    rw [valV_tb, rx.int']
    cases getT C k <;> exact .int _⟩
theorem st_dput {D : Ends} (hv : EvD tv σ H (.int v)) (h : EvX td σ H (.ref a)) (hk : EvD ty σ H (tI k)) (hC : H a = some (.dT (tbH C))) (hz : C.length < 100000) (q : ∀ H1, Same H H1 → D.nx σ (upd H1 a (.dT (tbH (putT C k v))))) : sDPut td ty tv D σ H :=
  hv H (Same.refl H) _ fun w H1 e1 rv => h H1 e1 _ fun H2 e2 => hk H2 (e1.trans e2) _ fun u H3 e3 rk => by
    obtain ⟨p, rfl, hp⟩ := rk.tI
    have e := (e1.trans e2).trans e3
    refine ⟨a, _, rfl, .inr ⟨_, kI k, p, e _ _ hC, rfl, by rw [kI_kV]; exact hp, ?_, rfl⟩, ?_⟩
    · unfold tbH
      rw [List.length_map]
      exact Nat.lt_of_lt_of_le hz (by decide)
    · rw [rv.int', putK_tb]
      exact q H3 e
theorem st_setC {n : Nat} {D : Ends} (S : Sl K σ H ρ) (h : EvC te σ H C) (q : ∀ p σ' H1, H p = none → Same H H1 → H1 p = some (.dT (tbH C)) → Sl K σ' H1 (ρ.set n (.ref p)) → D.nx σ' H1) : tAsg te (gName n) D σ H :=
  h H (Same.refl H) _ fun p H1 hp e h1 => q p _ H1 hp e h1 ((S.same e).setR n p)
/-! ### dict comprehensions -/
theorem tups_dT' {H : Hp} {p : Addr} {C : Tb} {u : HO} (hp : H p = some (.dT (tbH C))) : Tp H (upd H p u) := ⟨tups_dT hp, fun b o w e => by
  rw [upd_ne]
  · exact e
  · intro z
    rw [z, hp] at e
    cases e⟩
/-- one pair is stored -/
theorem tb_put {Nx : Hp → Prop} {D : Addr} (hk : EvD ta σ H (tI k)) (hv : EvD tb σ H (.int v)) (hD : H D = some (.dT (tbH C))) (hn : k ∉ C.map (·.1)) (hz : C.length < 100000)
    (q : ∀ H1, Same H H1 → H1 D = some (.dT (tbH C)) → Nx (upd H1 D (.dT (tbH (C ++ [(k, v)]))))) : tb1 ta tb D σ H Nx := hk H (Same.refl H) _ fun w H1 e1 rk => hv H1 e1 _ fun u H2 e2 rv => by
  obtain ⟨p, rfl, hp⟩ := (rk.same e2).tI
  have hD2 := e2 _ _ (e1 _ _ hD)
  refine ⟨_, kI k, p, rfl, by rw [kI_kV]; exact hp, hD2, ?_, ?_⟩
  · unfold tbH
    rw [List.length_map]
    exact Nat.lt_of_lt_of_le hz (by decide)
  · rw [rv.int', putK_tb, putT_new v hn]
    exact q H2 (e1.trans e2) hD2
/-- lists and tuples stand when a dict changes -/
theorem kp_of {K : PySem.W.Frag} {H H' : Hp} {c : Addr} {u : HO} (h : ∀ b w, b ≠ c → H b = some w → H' b = some w) (hc : H c = some u) (n1 : ∀ xs, u ≠ .tup xs) (n2 : ∀ xs, u ≠ .lst xs) (n3 : ∀ o xs, u ≠ .frz o (.lst xs)) : Kp K H H' := by
  refine ⟨fun a xs q => h a _ (fun z => by rw [z, hc] at q; exact n1 xs (Option.some.inj q)) q, fun a xs q => ?_⟩
  rcases q with (q | ⟨o, q⟩) | q
  · exact .inl (.inl (h a _ (fun z => by rw [z, hc] at q; exact n2 xs (Option.some.inj q)) q))
  · exact .inl (.inr ⟨o, h a _ (fun z => by rw [z, hc] at q; exact n3 o xs (Option.some.inj q)) q⟩)
  · exact .inr q
theorem kp_dT {K : PySem.W.Frag} {H : Hp} {p : Addr} {C : Tb} {u : HO} (hp : H p = some (.dT (tbH C))) : Kp K H (upd H p u) := kp_of (fun b w n h => by rw [upd_ne n]; exact h) hp (fun _ z => nomatch z) (fun _ z => nomatch z) (fun _ _ z => nomatch z)
theorem ec_dc {α : Type} {xs : List α} {enc : α → PyData} {wi : TI} {g : TG} {vs is : List Nat} {kf : α → List Int} {vf : α → Int} {fs : α → List Sd → List Sd} (hS : Sl K σ H ρ) (hw : Wk (fun A B => Tp A B ∧ Kp K A B) wi σ H (xs.map enc))
    (hg : ∀ x, x ∈ xs → Tg K g (enc x) is (fs x)) (hz : xs.length ≤ 100000) (hn : (xs.map kf).Nodup) (hl : ρ.all Sd.nl = true)
    (hk : ∀ x, x ∈ xs → ∀ σ' H', Same H H' → Sl K σ' H' (fs x (wipeS ρ vs)) → EvD ta σ' H' (tI (kf x)))
    (he : ∀ x, x ∈ xs → ∀ σ' H', Same H H' → Sl K σ' H' (fs x (wipeS ρ vs)) → EvD tb σ' H' (.int (vf x))) (hv : is.all (fun i => decide (i ∈ vs)) = true := by rfl) :
    EvC (tDT wi g tYes (tb1 ta tb) vs) σ H (xs.map fun x => (kf x, vf x)) := fun H1 a Q q => by
  refine hw H1 a _ fun J H2 a2 wk D hD => ?_
  refine ⟨fun i m H' => m + i = xs.length ∧ Same H2 H' ∧ (Tp H2 H' ∧ Kp K H2 H') ∧ H' D = some (.dT (tbH ((xs.take i).map fun x => (kf x, vf x)))), ⟨xs.length, rfl, Same.new hD, ⟨Same.tp (Same.new hD), Same.kp (Same.new hD)⟩, upd_same⟩, ?_⟩
  rintro i m H3 ⟨hm, a3, t3, hd3⟩
  obtain ⟨w1, w2⟩ := wk H3 t3
  by_cases hi : i < xs.length
  · have hx : xs[i]? = some xs[i] := List.getElem?_eq_getElem hi
    have hmem : xs[i] ∈ xs := List.getElem_mem hi
    have etake : xs.take (i + 1) = xs.take i ++ [xs[i]] := by rw [List.take_add_one, hx]; rfl
    obtain ⟨g1, g2⟩ := w1 i (enc xs[i]) (by rw [List.getElem?_map, hx]; rfl)
    refine .inr ⟨g1, fun H' => Same H2 H' ∧ (Tp H2 H' ∧ Kp K H2 H') ∧ H' D = some (.dT (tbH ((xs.take (i + 1)).map fun x => (kf x, vf x)))), fun H' ⟨h1, h2, h3⟩ => ⟨m - 1, by omega, by omega, h1, h2, h3⟩, fun x H4 hy => ?_⟩
    obtain ⟨a4, rx⟩ := g2 x H4 hy
    have b4 := ((a.trans a2).trans a3).trans a4
    refine hg _ hmem x _ H4 _ _ ((hS.wipe vs).same b4) rx fun σ2 S2 l2 h2 => ⟨?_, tyes (iteT ?_)⟩
    · rw [wipe_eq l2 (fun j hj => h2 j fun q => hj (of_decide_eq_true (List.all_eq_true.mp hv j q))), wipe_wipe]
    · refine tb_put (C := (xs.take i).map fun x => (kf x, vf x)) (hk _ hmem σ2 H4 b4 S2) (he _ hmem σ2 H4 b4 S2) (a4 _ _ hd3) ?_ ?_ fun H5 a5 hd5 => ?_
      · rw [List.map_map]
        intro z
        have h3 : (xs.map kf) = ((xs.take i).map kf) ++ (kf xs[i] :: (xs.drop (i + 1)).map kf) := by
          rw [← List.map_cons, ← List.map_append, List.getElem_cons_drop, List.take_append_drop]
        rw [h3, List.nodup_append] at hn
        exact hn.2.2 _ z _ List.mem_cons_self rfl
      · rw [List.length_map, List.length_take]
        omega
      · rw [etake, List.map_append]
        refine ⟨Same.mut ((a3.trans a4).trans a5) hD, ⟨((t3.1.trans (Same.tp a4)).trans (Same.tp a5)).trans (tups_dT' hd5), ((t3.2.trans (Same.kp a4)).trans (Same.kp a5)).trans (kp_dT hd5)⟩, upd_same⟩
  · have hi' : i = xs.length := by omega
    subst hi'
    rw [List.take_length] at hd3
    exact .inl ⟨by simpa using w2, q D H3 (fresh_back a2 hD) (a2.trans a3) hd3⟩
theorem ec_dc2 {α β : Type} {xs : List α} {enc : α → PyData} {ys : List β} {enc1 : β → PyData} {wi wi1 : TI} {g g1 : TG} {vs vs1 is is1 : List Nat} {kf : α → β → List Int} {vf : α → β → Int} {fs : α → List Sd → List Sd} {fs1 : β → List Sd → List Sd} (hS : Sl K σ H ρ)
    (hw : Wk Tp wi σ H (xs.map enc)) (hg : ∀ x, x ∈ xs → Tg K g (enc x) is (fs x)) (hz : (xs.flatMap fun x => ys.map fun y => (kf x y, vf x y)).length ≤ 100000) (hn : (xs.flatMap fun x => ys.map (kf x)).Nodup) (hl : ∀ x, x ∈ xs → (fs x (wipeS ρ vs)).all Sd.nl = true)
    (hw1 : ∀ x, x ∈ xs → ∀ σ' H', Same H H' → Sl K σ' H' (fs x (wipeS ρ vs)) → Wk Tp wi1 σ' H' (ys.map enc1)) (hg1 : ∀ y, y ∈ ys → Tg K g1 (enc1 y) is1 (fs1 y))
    (hk : ∀ x, x ∈ xs → ∀ y, y ∈ ys → ∀ σ' H', Same H H' → Sl K σ' H' (fs1 y (wipeS (fs x (wipeS ρ vs)) vs1)) → EvD ta σ' H' (tI (kf x y)))
    (he : ∀ x, x ∈ xs → ∀ y, y ∈ ys → ∀ σ' H', Same H H' → Sl K σ' H' (fs1 y (wipeS (fs x (wipeS ρ vs)) vs1)) → EvD tb σ' H' (.int (vf x y))) (hv : is.all (fun i => decide (i ∈ vs)) = true := by rfl) (hv1 : is1.all (fun i => decide (i ∈ vs1)) = true := by rfl) :
    EvC (tDT wi g tYes (tb2 wi1 g1 ta tb vs1) vs) σ H (xs.flatMap fun x => ys.map fun y => (kf x y, vf x y)) := fun H1 a Q q => by
  refine hw H1 a _ fun J H2 a2 wk D hD => ?_
  refine ⟨fun i m H' => m + i = xs.length ∧ Same H2 H' ∧ Tp H2 H' ∧ H' D = some (.dT (tbH ((xs.take i).flatMap fun x => ys.map fun y => (kf x y, vf x y)))), ⟨xs.length, rfl, Same.new hD, Same.tp (Same.new hD), upd_same⟩, ?_⟩
  rintro i m H3 ⟨hm, a3, t3, hd3⟩
  obtain ⟨w1, w2⟩ := wk H3 t3
  by_cases hi : i < xs.length
  · have hx : xs[i]? = some xs[i] := List.getElem?_eq_getElem hi
    have hmem : xs[i] ∈ xs := List.getElem_mem hi
    have etake : xs.take (i + 1) = xs.take i ++ [xs[i]] := by rw [List.take_add_one, hx]; rfl
    have esp : xs = xs.take i ++ (xs[i] :: xs.drop (i + 1)) := by rw [List.getElem_cons_drop, List.take_append_drop]
    obtain ⟨g1', g2⟩ := w1 i (enc xs[i]) (by rw [List.getElem?_map, hx]; rfl)
    refine .inr ⟨g1', fun H' => Same H2 H' ∧ Tp H2 H' ∧ H' D = some (.dT (tbH ((xs.take (i + 1)).flatMap fun x => ys.map fun y => (kf x y, vf x y)))), fun H' ⟨h1, h2, h3⟩ => ⟨m - 1, by omega, by omega, h1, h2, h3⟩, fun x H4 hy => ?_⟩
    obtain ⟨a4, rx⟩ := g2 x H4 hy
    have b4 := ((a.trans a2).trans a3).trans a4
    refine hg _ hmem x _ H4 _ _ ((hS.wipe vs).same b4) rx fun σ2 S2 l2 h2 => ⟨?_, tyes (iteT ?_)⟩
    · rw [wipe_eq l2 (fun j hj => h2 j fun q => hj (of_decide_eq_true (List.all_eq_true.mp hv j q))), wipe_wipe]
    · refine hw1 _ hmem σ2 H4 b4 S2 H4 (Same.refl _) _ fun J1 H5 a5 wk1 => ?_
      have hd5 := a5 _ _ (a4 _ _ hd3)
      refine ⟨fun j m H' => m + j = ys.length ∧ Tp H5 H' ∧ Same H2 H' ∧ H' D = some (.dT (tbH (((xs.take i).flatMap fun x => ys.map fun y => (kf x y, vf x y)) ++ (ys.take j).map fun y => (kf xs[i] y, vf xs[i] y)))), ⟨ys.length, rfl, Tp.refl _, (a3.trans a4).trans a5, by simpa using hd5⟩, ?_⟩
      rintro j m1 H6 ⟨hm1, t6, a6, hd6⟩
      have wkj : (∀ i' d, (ys.map enc1)[i']? = some d → J1.go i' H6 ∧ ∀ x H', J1.yld i' H6 x H' → Same H6 H' ∧ Dt H' x d) ∧ J1.stop (ys.map enc1).length H6 := wk1 H6 t6
      obtain ⟨v1, v2⟩ := wkj
      by_cases hj : j < ys.length
      · have hyj : ys[j]? = some ys[j] := List.getElem?_eq_getElem hj
        have hmj : ys[j] ∈ ys := List.getElem_mem hj
        have etj : ys.take (j + 1) = ys.take j ++ [ys[j]] := by rw [List.take_add_one, hyj]; rfl
        obtain ⟨u1, u2⟩ := v1 j (enc1 ys[j]) (by rw [List.getElem?_map, hyj]; rfl)
        refine .inr ⟨u1, fun H' => Tp H5 H' ∧ Same H2 H' ∧ H' D = some (.dT (tbH (((xs.take i).flatMap fun x => ys.map fun y => (kf x y, vf x y)) ++ (ys.take (j + 1)).map fun y => (kf xs[i] y, vf xs[i] y)))), fun H' ⟨h1, h2, h3⟩ => ⟨m1 - 1, by omega, by omega, h1, h2, h3⟩, fun y H7 hy7 => ?_⟩
        obtain ⟨a7, ry⟩ := u2 y H7 hy7
        have b7 : Tp H4 H7 := ((Same.tp a5).trans t6).trans (Same.tp a7)
        have S7 : Sl K (wipe σ2 vs1) H7 (wipeS (fs xs[i] (wipeS ρ vs)) vs1) := (S2.tups b7.tup (hl _ hmem)).wipe vs1
        have s7 : Same H H7 := ((a.trans a2).trans a6).trans a7
        refine hg1 _ hmj y _ H7 _ _ S7 ry fun σ3 S3 l3 h3 => ⟨?_, ?_⟩
        · rw [wipe_eq l3 (fun j hj => h3 j fun q => hj (of_decide_eq_true (List.all_eq_true.mp hv1 j q))), wipe_wipe]
        · refine tb_put (hk _ hmem _ hmj σ3 H7 s7 S3) (he _ hmem _ hmj σ3 H7 s7 S3) (a7 _ _ hd6) ?_ ?_ fun H8 a8 hd8 => ⟨((t6.trans (Same.tp a7)).trans (Same.tp a8)).trans (tups_dT' hd8), Same.mut ((a6.trans a7).trans a8) hD, ?_⟩
          · intro z
            have hn := hn
            rw [esp, List.flatMap_append, List.flatMap_cons, List.nodup_append] at hn
            rw [List.map_append, List.mem_append] at z
            rcases z with z | z
            · rw [List.map_flatMap] at z
              simp only [List.map_map] at z
              exact hn.2.2 _ z _ (List.mem_append_left _ (List.mem_map.mpr ⟨_, hmj, rfl⟩)) rfl
            · rw [List.map_map] at z
              have h4 := (List.nodup_append.mp hn.2.1).1
              have h3 : ys.map (kf xs[i]) = (ys.take j).map (kf xs[i]) ++ (kf xs[i] ys[j] :: (ys.drop (j + 1)).map (kf xs[i])) := by
                rw [← List.map_cons, ← List.map_append, List.getElem_cons_drop, List.take_append_drop]
              rw [h3, List.nodup_append] at h4
              exact h4.2.2 _ z _ List.mem_cons_self rfl
          · have h5 := hz
            rw [esp, List.flatMap_append, List.flatMap_cons, List.length_append, List.length_append, List.length_map] at h5
            rw [List.length_append, List.length_map, List.length_take]
            omega
          · rw [upd_same, etj, List.map_append, ← List.append_assoc]
            rfl
      · have hj' : j = ys.length := by omega
        subst hj'
        rw [List.take_length] at hd6
        refine .inl ⟨by simpa using v2, a6, ?_, ?_⟩
        · exact ((t3.trans (Same.tp a4)).trans (Same.tp a5)).trans t6
        · rw [hd6, etake, List.flatMap_append]
          simp
  · have hi' : i = xs.length := by omega
    subst hi'
    rw [List.take_length] at hd3
    exact .inl ⟨by simpa using w2, q D H3 (fresh_back a2 hD) (a2.trans a3) hd3⟩
end
end SB
/-! Calls with dicts and lists among the arguments, locks, sorted keys. -/
namespace SB
open PySem PySem.Spec PyProof.Rows L2 RZ
open StX (tStar pa_star)
/-- all but a stand -/
def Sb (a : Addr) (H H' : Hp) : Prop := ∀ b u, b ≠ a → H b = some u → H' b = some u
theorem Sb.refl {a : Addr} (H : Hp) : Sb a H H := fun _ _ _ h => h
theorem Sb.trans {a : Addr} {A B C : Hp} (x : Sb a A B) (y : Sb a B C) : Sb a A C := fun b u n h => y b u n (x b u n h)
theorem Same.sb {a : Addr} {H H' : Hp} (e : Same H H') : Sb a H H' := fun b u _ h => e b u h
theorem Sb.put {a : Addr} {H : Hp} {u : HO} : Sb a H (upd H a u) := fun b w n h => by rw [upd_ne n]; exact h
theorem Sb.same {a : Addr} {H0 H H' : Hp} (e : Same H0 H) (n : H0 a = none) (s : Sb a H H') : Same H0 H' := fun b u h => s b u (fun z => by rw [z, n] at h; cases h) (e b u h)
theorem Sb.tp {a : Addr} {H H' : Hp} {C : Tb} (e : Sb a H H') (h : H a = some (.dT (tbH C))) : Tp H H' := ⟨fun b xs q => e b _ (fun z => by rw [z, h] at q; cases q) q, fun b o u q => e b _ (fun z => by rw [z, h] at q; cases q) q⟩
theorem Sb.tpo {a : Addr} {H H' : Hp} {u : HO} (e : Sb a H H') (h : H a = some u) (n1 : ∀ xs, u ≠ .tup xs) (n2 : ∀ o w, u ≠ .frz o w) : Tp H H' := ⟨fun b xs q => e b _ (fun z => by rw [z, h] at q; exact n1 xs (Option.some.inj q)) q, fun b o w q => e b _ (fun z => by rw [z, h] at q; exact n2 o w (Option.some.inj q)) q⟩
theorem Sb.kp {K : PySem.W.Frag} {a : Addr} {H H' : Hp} {C : Tb} (e : Sb a H H') (h : H a = some (.dT (tbH C))) : Kp K H H' := kp_of e h (fun _ z => nomatch z) (fun _ z => nomatch z) (fun _ _ z => nomatch z)
/-- arguments: some references, then data -/
def EvAX (ta : TA) (σ : L2.St) (H : Hp) (as : List Addr) (ds : List PyData) : Prop := ∀ H1, Same H H1 → ∀ Q : List V → Hp → Prop, (∀ ws H2, Same H1 H2 → DtA H2 ws ds → Q (as.map V.ref ++ ws) H2) → ta σ H1 Q
section
variable {K : PySem.W.Frag} {σ : L2.St} {H H' : Hp} {ρ : List Sd} {ta tb te ts : TE} {d e : PyData} {i j : Int} {ds es : List PyData} {tr : TA} {as : List Addr} {a : Addr}
theorem ex_nil (h : EvA tr σ H ds) : EvAX tr σ H [] ds := fun H1 e Q q => h H1 e Q fun vs H2 e2 r => q vs H2 e2 r
theorem ex_cons (h : EvX te σ H (.ref a)) (hr : EvAX tr σ H as ds) : EvAX (tCons te tr) σ H (a :: as) ds := fun H1 e Q q => h H1 e _ fun H2 e2 => hr H2 (e.trans e2) _ fun ws H3 e3 r => q ws H3 (e2.trans e3) r
/-- a promise over references and data -/
def spM (R : List Addr → List PyData → Hp → VK → Prop) : Sp := fun vs H Q _ => ∃ as ds ws, vs = as.map V.ref ++ ws ∧ DtA H ws ds ∧ R as ds H Q
theorem call_M {R : List Addr → List PyData → Hp → VK → Prop} {E : XK} {Q : VK} (h : EvAX tr σ H as ds) (hR : ∀ H1, Same H H1 → R as ds H1 Q) : tCall (spM R) [] E tr σ H Q := h H (Same.refl H) _ fun ws H1 e r => ⟨as, ds, ws, by rw [List.append_nil], r, hR H1 e⟩
/-- .. to data -/
theorem ev_callM {R : List Addr → List PyData → Hp → VK → Prop} {E : XK} (h : EvAX tr σ H as ds) (hR : ∀ H1, Same H H1 → ∀ Q : VK, (∀ v H2, Same H1 H2 → Dt H2 v d → Q v H2) → R as ds H1 Q) : EvD (tCall (spM R) [] E tr) σ H d := fun H1 e Q q =>
  h H1 e _ fun ws H2 e2 r => ⟨as, ds, ws, by rw [List.append_nil], r, hR H2 (e.trans e2) Q fun v H3 e3 r3 => q v H3 (e2.trans e3) r3⟩
theorem ev_to {R : VK → Prop} (f : ∀ Q : VK, te σ H Q → R Q) : True := True.intro
theorem st_dropM {D : Ends} {R : List Addr → List PyData → Hp → VK → Prop} {E : XK} (h : EvAX tr σ H as ds) (hR : ∀ H1, Same H H1 → R as ds H1 (fun _ H2 => D.nx σ H2)) : tDrop (tCall (spM R) [] E tr) D σ H := call_M h hR
/-! ### locks -/
theorem same_unlock {H H' : Hp} {a : Addr} {u f : HO} (h : H a = some u) (e : Same (upd H a f) H') : Same H (upd H' a u) := fun b w hb => by
  by_cases z : b = a
  · rw [z, upd_same]
    rw [z, h] at hb
    exact hb
  · rw [upd_ne z]
    exact e b w (by rw [upd_ne z]; exact hb)
theorem tp_lock {H : Hp} {a : Addr} {C : Tb} {o : HO} (h : H a = some (.dT (tbH C))) : Tp H (upd H a o) := tups_dT' h
theorem Sl.lock {C : Tb} {o : Obj} (S : Sl K σ H ρ) (h : H a = some (.dT (tbH C))) (hl : ρ.all Sd.nl = true := by rfl) : Sl K σ (upd H a (.frz o (.dT (tbH C)))) ρ := S.tups (tups_dT h) hl
/-- a statement under the lock that only makes new things -/
theorem st_lockS {t : TS} {D : Ends} {C : Tb} (h : H a = some (.dT (tbH C))) (k : ∀ od, t { nx := fun σ' H' => H' a = some (.frz od (.dT (tbH C))) ∧ D.nx σ' (upd H' a (.dT (tbH C))), rt := fun v H' => H' a = some (.frz od (.dT (tbH C))) ∧ D.rt v (upd H' a (.dT (tbH C))), bk := fun σ' H' => H' a = some (.frz od (.dT (tbH C))) ∧ D.bk σ' (upd H' a (.dT (tbH C))), ct := fun σ' H' => H' a = some (.frz od (.dT (tbH C))) ∧ D.ct σ' (upd H' a (.dT (tbH C))) } σ (upd H a (.frz od (.dT (tbH C))))) : tLock t D σ H := ⟨a, _, h, True.intro, k⟩
/-- the keys of a locked dict -/
theorem wk_keysT {C : Tb} {od : Obj} (h : EvX te σ H (.ref a)) (hf : H a = some (.frz od (.dT (tbH C)))) : Wk Tp (iKeys te) σ H (C.map fun e => tI e.1) := fun H1 e R k => h H1 e _ fun H2 e2 => by
  have hf2 := e2 _ _ (e _ _ hf)
  refine ⟨a, od, rfl, .inr ⟨_, hf2, k _ H2 e2 fun H' tp => ⟨fun i d hd => ?_, ⟨tp.frz _ _ _ hf2, by unfold tbH; simp⟩⟩⟩⟩
  rw [List.getElem?_map] at hd
  cases hc : C[i]? with
  | none => rw [hc] at hd; cases hd
  | some x =>
    rw [hc] at hd
    cases hd
    have hi : i < C.length := (List.getElem?_eq_some_iff.mp hc).1
    refine ⟨⟨tp.frz _ _ _ hf2, by unfold tbH; simpa using hi⟩, fun y H'' hy => ?_⟩
    obtain ⟨e1, kk, v, q, h1, h2, h3⟩ := hy
    subst e1 h2
    refine ⟨Same.refl _, ?_⟩
    unfold tbH at h1
    rw [List.getElem?_map, hc] at h1
    cases h1
    exact Dt.ofI (by rw [h3, kI_kV])
/-! ### sorted keys -/
theorem insK_perm (x : Int × Int) : ∀ l, (insK x l).Perm (x :: l)
  | [] => .refl _
  | y :: ys => by
    unfold insK
    split
    · exact .refl _
    · exact ((insK_perm x ys).cons y).trans (.swap x y ys)
theorem sortK_perm : ∀ l, (sortK l).Perm l
  | [] => .refl _
  | x :: xs => (insK_perm x _).trans ((sortK_perm xs).cons x)
theorem ltK_iff {p q : Int × Int} : ltK p q = true ↔ p.1 < q.1 ∨ (p.1 = q.1 ∧ p.2 < q.2) := by
  unfold ltK
  by_cases e : p.1 = q.1
  · rw [if_pos e, decide_eq_true_eq]; omega
  · rw [if_neg e, decide_eq_true_eq]; omega
theorem ltK_no {p q : Int × Int} : ltK p q = false ↔ ¬ (p.1 < q.1 ∨ (p.1 = q.1 ∧ p.2 < q.2)) := by
  rw [← ltK_iff]
  cases ltK p q <;> simp
theorem ltK_anti {p q : Int × Int} (h1 : ltK q p = false) (h2 : ltK p q = false) : p = q := by
  have a := ltK_no.mp h1
  have b := ltK_no.mp h2
  apply Prod.ext <;> omega
theorem insK_sorted (x : Int × Int) : ∀ l, l.Pairwise (fun x y => ltK y x = false) → (insK x l).Pairwise (fun x y => ltK y x = false)
  | [], _ => by simp [insK]
  | y :: ys, h => by
    unfold insK
    split
    · rename_i hx
      refine .cons (fun z hz => ?_) h
      have hx := ltK_iff.mp hx
      rcases List.mem_cons.mp hz with e | e
      · subst e
        exact ltK_no.mpr (by omega)
      · have := ltK_no.mp (List.rel_of_pairwise_cons h e)
        exact ltK_no.mpr (by omega)
    · rename_i hx
      have hx : ltK x y = false := by simpa using hx
      refine .cons (fun z hz => ?_) (insK_sorted x ys h.of_cons)
      rcases List.mem_cons.mp ((insK_perm x ys).mem_iff.mp hz) with e | e
      · subst e; exact hx
      · exact List.rel_of_pairwise_cons h e
theorem sortK_sorted : ∀ l, (sortK l).Pairwise (fun x y => ltK y x = false)
  | [] => .nil
  | x :: xs => insK_sorted x _ (sortK_sorted xs)
theorem lexB_ltK (p q : Int × Int) : SrtO.lexB p q = ltK p q := rfl
theorem k_cr_sortedDT {X : Cx} (K : PySem.W.Frag) (hc : X.calm = true := by rfl) (h : X.K = K := by rfl) : CallR X (.builtin "sorted") rSortedDT := cr_sortedDT hc
theorem PrsAt.dt {H : Hp} : ∀ {ks : List (Int × Int)} {bs : List Addr}, PrsAt H ks bs → DtA H (bs.map V.ref) (ks.map kD)
  | [], _, h => by cases h; exact .nil
  | k :: ks, _, h => by
    cases h with
    | cons a b => exact .cons (Dt.ofI (ns := [k.1, k.2]) a) (PrsAt.dt b)
theorem el_sortedDT {C : Cts} (h : EvX te σ H (.ref a)) (r : RdT H a (cT C)) : EvL (tCB rSortedDT (tCons te tNil)) σ H ((sortK (C.map (·.1))).map kD) := fun H1 e Q q =>
  h H1 e _ fun H2 e2 => ⟨a, C.map fun x => (x.1, V.int x.2), rfl, by
    have := r.same (e.trans e2)
    unfold RdT tbH cT at this
    rw [List.map_map] at this
    rw [List.map_map]
    exact this, fun ks bs p h1 h2 h3 hp => by
    have e1 : ks = sortK (C.map (·.1)) := by
      refine List.Perm.eq_of_pairwise (le := fun x y => ltK y x = false) (fun a b _ _ x y => ltK_anti x y) h2 (sortK_sorted _) (h1.trans ?_)
      rw [List.map_map]
      exact (sortK_perm _).symm
    subst e1
    exact q p _ _ (fresh_back e2 hp) (e2.trans (Same.new hp)) upd_same (h3.dt.same (Same.new hp))⟩
end
section
variable {P : Program} {w : World} {K : PySem.W.Frag} {mg : Str → Option Value} {base : Heap}
theorem slM {σ : L2.St} {H : Hp} {N : List Str} {as : List Addr} {ws : List V} {ds : List PyData} (r : DtA H ws ds) : Sl K (L2.start N (as.map V.ref ++ ws)) H (as.map Sd.ref ++ ds.map Sd.dat ++ List.replicate (N.length - (as.map Sd.ref ++ ds.map Sd.dat).length) .un) := by
  refine Sl.start (by simp [r.len]) fun i v x h1 h2 => ?_
  by_cases hi : i < as.length
  · rw [List.getElem?_append_left (by simpa using hi), List.getElem?_map] at h1
    rw [List.getElem?_append_left (by simpa using hi), List.getElem?_map] at h2
    rw [List.getElem?_eq_getElem hi] at h1 h2
    cases h1
    cases h2
    rfl
  · rw [List.getElem?_append_right (by simpa using hi)] at h1
    rw [List.getElem?_append_right (by simpa using hi)] at h2
    rw [List.length_map] at h1 h2
    obtain ⟨d, e, q⟩ := DtA.at r h1
    rw [List.getElem?_map, e] at h2
    cases h2
    exact ⟨v, rfl, q⟩
theorem okM {x qual : Str} {st : Stmt} {f : Addr} {fd : FuncData} {N ps : List Str} {k : Nat} {R : List Addr → List PyData → Hp → VK → Prop} (F : Fun K x qual st f fd) (S : FnScope N ps (defScope st)) (hl : ∀ as ds H Q, R as ds H Q → as.length + ds.length = ps.length)
    (hbody : ∀ (cdv : Value) (A : Around) (outer : List Env) (s : Shared) (H : Hp) (vs : List V) (Q : VK) (E : XK) (as : List Addr) (ds : List PyData), Room k (A.deeper (envOfC qual (defScope st) s.heap.objs.size f cdv)) → R as ds H Q →
      Sl K (L2.start N vs) H (as.map Sd.ref ++ ds.map Sd.dat ++ List.replicate (N.length - (as.map Sd.ref ++ ds.map Sd.dat).length) .un) →
      ∃ t, PSs (cxOf CX0 P w K mg base N qual (defScope st) f cdv A outer s H E).nox (defBody st) t ∧ t { nx := fun _ H' => Q .non H', rt := Q } (L2.start N vs) H) : FnOk P w K mg base CX0 (k + 1) f fd ps (spM R) := by
  refine F.ok S (fun vs H Q E h => ?_) (fun cdv A outer s H vs Q E hr h => ?_)
  · obtain ⟨as, ds, ws, e, h1, h2⟩ := h
    rw [e, List.length_append, List.length_map, h1.len, hl as ds H Q h2]
  · obtain ⟨as, ds, ws, e, h1, h2⟩ := h
    subst e
    exact hbody cdv A outer s H _ Q E as ds hr h2 (slM (σ := []) h1)
end
end SB
namespace SB
/-- the divisors of the sizes -/
def subSizes : List Nat := ((List.range 111).drop 1).filter fun d => sizes.any fun n => n % d == 0
end SB
/-! Dicts with numbers or texts as keys. -/
namespace SB
open PySem PySem.Spec PyProof.Rows L2 RZ
open StX (tStar pa_star)
abbrev FTab := List (Nat × List Int)
def DkF (H : Hp) : List (Key × V) → FTab → Prop := Paired fun kv e => kv.1 = Sum.inl ((e.1 : Nat) : Int) ∧ Dt H kv.2 (tI e.2)
theorem DkF.tp {H H' : Hp} (t : ∀ a xs, H a = some (.tup xs) → H' a = some (.tup xs)) : ∀ {kvs : List (Key × V)} {F : FTab}, DkF H kvs F → DkF H' kvs F
  | _, _, .nil => .nil
  | _, _, .cons a b => .cons ⟨a.1, a.2.mono t⟩ (DkF.tp t b)
theorem DkF.same {H H' : Hp} {kvs : List (Key × V)} {F : FTab} (e : Same H H') (h : DkF H kvs F) : DkF H' kvs F := h.tp fun _ _ q => e _ _ q
theorem DkF.val {H : Hp} {d : Nat} {l : List Int} : ∀ {kvs : List (Key × V)} {F : FTab}, DkF H kvs F → F.lookup d = some l → ∃ v, valV kvs (Sum.inl ((d : Nat) : Int)) = some v ∧ Dt H v (tI l)
  | _, _, .nil, h => by cases h
  | _, _, .cons (a := kv) (b := e) (l₁ := kvs) (l₂ := F) a b, h => by
    rw [show e = (e.1, e.2) from rfl, List.lookup_cons] at h
    by_cases q : d = e.1
    · subst q
      rw [beq_self_eq_true] at h
      cases h
      exact ⟨kv.2, valV_pos a.1, a.2⟩
    · rw [beq_eq_false_iff_ne.mpr q] at h
      obtain ⟨v, h1, h2⟩ := DkF.val b h
      refine ⟨v, ?_, h2⟩
      rw [valV_neg]
      · exact h1
      · rw [a.1]
        intro z
        injection z with z
        omega
theorem DkF.new {H : Hp} {d : Nat} : ∀ {kvs : List (Key × V)} {F : FTab}, DkF H kvs F → (∀ e ∈ F, e.1 ≠ d) → valV kvs (Sum.inl ((d : Nat) : Int)) = none
  | _, _, .nil, _ => rfl
  | _, _, .cons (a := kv) (b := e) (l₁ := kvs) (l₂ := F) a b, h => by
    rw [valV_neg]
    · exact DkF.new b fun e he => h e (List.mem_cons_of_mem _ he)
    · rw [a.1]
      intro z
      injection z with z
      exact h e List.mem_cons_self (by omega)
theorem DkF.snoc {H : Hp} {kvs : List (Key × V)} {F : FTab} (h : DkF H kvs F) {d : Nat} {v : V} {l : List Int} (r : Dt H v (tI l)) : DkF H (kvs ++ [(Sum.inl ((d : Nat) : Int), v)]) (F ++ [(d, l)]) := Paired.snoc h ⟨rfl, r⟩
theorem DkF.len {H : Hp} {kvs : List (Key × V)} {F : FTab} (h : DkF H kvs F) : kvs.length = F.length := Paired.length h
theorem DkF.at {H : Hp} : ∀ {kvs : List (Key × V)} {F : FTab} {i : Nat} {k : Key} {v : V}, DkF H kvs F → kvs[i]? = some (k, v) → ∃ e, F[i]? = some e ∧ k = Sum.inl ((e.1 : Nat) : Int)
  | _, _, i, _, _, .nil, h => by simp at h
  | _, _, 0, k, v, .cons a b, h => by
    simp at h
    refine ⟨_, rfl, ?_⟩
    rw [← a.1, h]
  | _, _, i + 1, k, v, .cons a b, h => by
    obtain ⟨e, h1, h2⟩ := DkF.at (i := i) b (by simpa using h)
    exact ⟨e, by simpa using h1, h2⟩
section
variable {K : PySem.W.Frag} {σ : L2.St} {H H' : Hp} {ρ : List Sd} {ta tb te ts td ty tx tv : TE} {d e kd : PyData} {i j : Int} {ds es : List PyData} {tr : TA} {a b : Addr} {kvs : List (Key × V)} {k : Key} {v : V}
theorem rd_same {u : HO} (e : Same H H') (h : Rd H a u) : Rd H' a u := h.elim (fun h => .inl (e _ _ h)) fun ⟨o, h⟩ => .inr ⟨o, e _ _ h⟩
theorem ev_dgetK (h : EvX td σ H (.ref a)) (r : Rd H a (.dK kvs)) (hk : EvD ty σ H kd) (kk : ∀ H v, Dt H v kd → v = kV k) (hv : valV kvs k = some v) (rv : Dt H v d) : EvD (tDGet td ty) σ H d := fun H1 e Q q =>
  h H1 e _ fun H2 e2 => hk H2 (e.trans e2) _ fun w H3 e3 rk => by
    have a3 := (e.trans e2).trans e3
    refine ⟨a, v, rfl, .inl ⟨_, k, rd_same a3 r, kk _ _ rk, hv.symm⟩, q _ H3 (e2.trans e3) (rv.same a3)⟩
theorem ex_dgetK (h : EvX td σ H (.ref a)) (r : Rd H a (.dK kvs)) (hk : EvD ty σ H kd) (kk : ∀ H v, Dt H v kd → v = kV k) (hv : valV kvs k = some v) : EvX (tDGet td ty) σ H v := fun H1 e Q q =>
  h H1 e _ fun H2 e2 => hk H2 (e.trans e2) _ fun w H3 e3 rk => by
    have a3 := (e.trans e2).trans e3
    exact ⟨a, v, rfl, .inl ⟨_, k, rd_same a3 r, kk _ _ rk, hv.symm⟩, q H3 (e2.trans e3)⟩
theorem kk_int {i : Int} : ∀ H v, Dt H v (.int i) → v = kV (Sum.inl i) := fun _ _ r => r.int'
theorem kk_str {x : Str} : ∀ H v, Dt H v (.str x) → v = kV (Sum.inr x) := fun _ _ r => r.str'
theorem st_dputK {D : Ends} (hv : EvD tv σ H d) (h : EvX td σ H (.ref a)) (hk : EvD ty σ H kd) (kk : ∀ H v, Dt H v kd → v = kV k) (hC : H a = some (.dK kvs)) (hz : kvs.length < 100000) (q : ∀ v H1, Same H H1 → Dt H1 v d → D.nx σ (upd H1 a (.dK (putK kvs k v)))) : sDPut td ty tv D σ H :=
  hv H (Same.refl H) _ fun w H1 e1 rv => h H1 e1 _ fun H2 e2 => hk H2 (e1.trans e2) _ fun u H3 e3 rk => by
    have e := (e1.trans e2).trans e3
    exact ⟨a, _, rfl, .inl ⟨_, k, e _ _ hC, kk _ _ rk, Nat.lt_of_lt_of_le hz (by decide), rfl⟩, q _ H3 e ((rv.same e2).same e3)⟩
theorem st_lockG {t : TS} {D : Ends} {u : HO} (h : H a = some u) (mu : Mut (some u)) (k : ∀ od, t { nx := fun σ' H' => H' a = some (.frz od u) ∧ D.nx σ' (upd H' a u), rt := fun v H' => H' a = some (.frz od u) ∧ D.rt v (upd H' a u), bk := fun σ' H' => H' a = some (.frz od u) ∧ D.bk σ' (upd H' a u), ct := fun σ' H' => H' a = some (.frz od u) ∧ D.ct σ' (upd H' a u) } σ (upd H a (.frz od u))) : tLock t D σ H := ⟨a, _, h, mu, k⟩
theorem wk_keysK {F : FTab} {od : Obj} (h : EvX te σ H (.ref a)) (hf : H a = some (.frz od (.dK kvs))) (hF : DkF H kvs F) : Wk Tp (iKeys te) σ H (F.map fun e => .int ((e.1 : Nat) : Int)) := fun H1 e R k => h H1 e _ fun H2 e2 => by
  have hf2 := e2 _ _ (e _ _ hf)
  refine ⟨a, od, rfl, .inl ⟨_, hf2, k _ H2 e2 fun H' tp => ⟨fun i d hd => ?_, ⟨tp.frz _ _ _ hf2, by rw [hF.len, List.length_map]; exact Nat.le_refl _⟩⟩⟩⟩
  rw [List.getElem?_map] at hd
  cases hc : F[i]? with
  | none => rw [hc] at hd; cases hd
  | some x =>
    rw [hc] at hd
    cases hd
    have hi : i < F.length := (List.getElem?_eq_some_iff.mp hc).1
    refine ⟨⟨tp.frz _ _ _ hf2, by rw [hF.len]; exact hi⟩, fun y H'' hy => ?_⟩
    obtain ⟨e1, kk, v, h1, h2⟩ := hy
    subst e1 h2
    obtain ⟨x', g1, g2⟩ := hF.at h1
    rw [hc] at g1
    cases g1
    rw [g2]
    exact ⟨Same.refl _, .int _⟩
theorem ec_newK : ∀ H1, ∀ Q : VK, (∀ p, H1 p = none → Q (.ref p) (upd H1 p (.dK []))) → tDNewK σ H1 Q := fun H1 Q q p hp => q p hp
theorem st_newK {n : Nat} {D : Ends} (S : Sl K σ H ρ) (q : ∀ p σ' H1, H p = none → Same H H1 → H1 p = some (.dK []) → Sl K σ' H1 (ρ.set n (.ref p)) → D.nx σ' H1) : tAsg tDNewK (gName n) D σ H := fun p hp =>
  q p _ _ hp (Same.new hp) upd_same ((S.same (Same.new hp)).setR n p)
theorem tups_dK' {H : Hp} {p : Addr} {kvs : List (Key × V)} {u : HO} (hp : H p = some (.dK kvs)) : Tp H (upd H p u) := ⟨tups_dK hp, fun b o w e => by
  rw [upd_ne]
  · exact e
  · intro z
    rw [z, hp] at e
    cases e⟩
end
end SB
namespace SB
theorem lookup_fun {f : Nat → List Int} {d : Nat} : ∀ {l : List Nat}, d ∈ l → (l.map fun e => (e, f e)).lookup d = some (f d)
  | x :: l, h => by
    rw [List.map_cons, List.lookup_cons]
    by_cases e : d = x
    · subst e
      rw [beq_self_eq_true]
    · rw [beq_eq_false_iff_ne.mpr e]
      rcases List.mem_cons.mp h with z | z
      · exact absurd z e
      · exact lookup_fun z
end SB
/-! t[b::k] of a tuple. -/
namespace SB
open PySem PySem.Spec PyProof.Rows L2 RZ HT
def stepV {α : Type} (xs : List α) (b k : Nat) : List α := (List.range (if b < xs.length then (xs.length - b - 1) / k + 1 else 0)).filterMap fun m => xs[b + m * k]?
section
variable {prog : Program} {w : World} {A : Around} {E : Value → Shared → Prop} {s : Shared}
theorem step_places (b n k : Nat) (hk : 1 ≤ k) : Builtin.Slice.slicePlaces (b : Int) (n : Int) (k : Int) = if b < n then (n - b - 1) / k + 1 else 0 := by
  unfold Builtin.Slice.slicePlaces
  rw [if_pos (by omega)]
  by_cases h : b < n
  · rw [if_pos h, if_pos (by omega)]
    have e : ((n : Int) - (b : Int) - 1) = ((n - b - 1 : Nat) : Int) := by omega
    rw [e]
    have e2 : (((n - b - 1 : Nat) : Int) / (k : Int) + 1) = (((n - b - 1) / k + 1 : Nat) : Int) := by push_cast; rfl
    rw [e2, Int.toNat_natCast]
  · rw [if_neg h, if_neg (by omega)]
    rfl
theorem step_applied {sl : Addr} {vl vu vs : Value} {n b k : Nat} {Q : Int × Int × Nat → Shared → Prop} (hs : s.heap.IsSliceOf sl vl vu vs) (pl : IsPart vl (some (b : Int))) (pu : IsPart vu none) (ps : IsPart vs (some (k : Int))) (hb : b ≤ n) (hk : 1 ≤ k)
    (h : Q ((b : Int), (k : Int), if b < n then (n - b - 1) / k + 1 else 0) s) : wpAny (model prog w) A (Builtin.Slice.sliceApplied (.ref sl) (pure (n : Int))) Q E s := by
  obtain ⟨os, hos, hcs, hds⟩ := id hs
  unfold Builtin.Slice.sliceApplied Builtin.Slice.sliceFields
  refine wpAny_bind (wpAny_bind (wpAny_field hos hds (x := vl) rfl (wpAny_bind (wpAny_field hos hds (x := vu) rfl (wpAny_bind (wpAny_field hos hds (x := vs) rfl (wpAny_pure ?_)))))))
  refine wpAny_bind (slicePart_ ps ?_)
  show wpAny _ _ (if ((k : Int) == 0) = true then _ else _) _ _ s
  rw [if_neg (by simp; omega)]
  refine wpAny_bind (slicePart_ pl (wpAny_bind (slicePart_ pu (wpAny_bind (wpAny_pure ?_)))))
  have ea : Builtin.Slice.sliceAdjust (some (b : Int)) none (k : Int) (n : Int) = ((b : Int), (n : Int)) := by
    unfold Builtin.Slice.sliceAdjust
    have h1 : ¬ ((k : Int) < 0) := by omega
    have h2 : ¬ ((b : Int) < 0) := by omega
    simp only [h1, h2, if_false]
    congr 1
    omega
  show wpAny _ _ (match Builtin.Slice.sliceAdjust (some (b : Int)) none (k : Int) (n : Int) with | (lo, hi) => pure (lo, (k : Int), Builtin.Slice.slicePlaces lo hi (k : Int))) _ _ s
  rw [ea]
  show wpAny _ _ (pure ((b : Int), (k : Int), Builtin.Slice.slicePlaces (b : Int) (n : Int) (k : Int))) _ _ s
  rw [step_places b n k hk]
  exact wpAny_pure h
theorem step_item {t sl : Addr} {items : Array Value} {vl vu vs : Value} {b k : Nat} {Q : Value → Shared → Prop} (ht : IsTup s.heap t items) (hs : s.heap.IsSliceOf sl vl vu vs) (pl : IsPart vl (some (b : Int))) (pu : IsPart vu none) (ps : IsPart vs (some (k : Int)))
    (hb : b ≤ items.size) (hk : 1 ≤ k) (h1 : b = 0 ∧ k = 1 → Q (.ref t) s) (h2 : ¬ (b = 0 ∧ k = 1) → Q (.ref s.heap.objs.size) { s with heap := s.heap.push { cls := .type "tuple", data := .seq (stepV items.toList b k).toArray } })
    (hsz : items.size ≤ sizeLine) : wpAny (model prog w) A (getItem (.ref t) (.ref sl)) Q E s := by
  have hz : sizeOk (.seq (stepV items.toList b k).toArray) := by
    show (stepV items.toList b k).toArray.size ≤ sizeLine
    rw [List.size_toArray]
    unfold stepV
    refine Nat.le_trans (List.length_filterMap_le _ _) ?_
    rw [List.length_range, Array.length_toList]
    split
    · have := Nat.div_le_self (items.size - b - 1) k
      omega
    · omega
  obtain ⟨os, hos, hcs, hds⟩ := id hs
  have hT : s.TypeIs (.ref sl) "slice" := ⟨os, hos, hcs⟩
  unfold getItem
  try with_reducible refine wpAny_holding ?_
  first | refine wpAny_bind (wpAny_pure ?_) | skip
  refine wpAny_bind (wpAny_sequenceKey ht.typeIs (by decide) ?_)
  refine wpAny_bind (wpAny_callSpecial?_slot (name := Str.ofString "__getitem__") ht.typeIs PyProof.Rows.slot_tuple_getitem (wpAny_call_entry PyProof.Rows.slot_tuple_getitem ht.typeIs entry_tuple_getitem ?_ (args_tuple_getitem _ _)))
  show wpAny _ _ (Builtin.Tuple.tupleItemsOf (.ref t) >>= _) _ _ s
  refine wpAny_bind (tupleItemsOf_ ht ?_)
  refine wpAny_bind (wpAny_typeOf hT ?_)
  rw [if_pos (by decide)]
  refine wpAny_bind (step_applied (n := items.size) hs pl pu ps hb hk ?_)
  obtain ⟨c, hc⟩ : ∃ c, (if b < items.size then (items.size - b - 1) / k + 1 else 0) = c := ⟨_, rfl⟩
  rw [hc]
  show wpAny _ _ (if ((b : Int) == 0 && (k : Int) == 1 && c == items.size) = true then _ else _) _ _ s
  by_cases hw : b = 0 ∧ k = 1
  · have hyes : ((b : Int) == 0 && (k : Int) == 1 && c == items.size) = true := by
      obtain ⟨e1, e2⟩ := hw
      subst e1 e2
      rw [← hc, Nat.div_one]
      simp only [Int.natCast_zero, beq_self_eq_true, Bool.true_and, Bool.and_eq_true, beq_iff_eq]
      refine ⟨by simp, ?_⟩
      split <;> omega
    rw [if_pos hyes]
    refine wpAny_bind ?_
    show wpAny _ _ (typeOf (.ref t) >>= fun T => pure (T == .type "tuple")) _ _ s
    refine wpAny_bind (wpAny_typeOf ht.typeIs (wpAny_pure ?_))
    first
      | rw [if_pos (by decide)]
      | simp only [beq_self_eq_true, if_true]
    first
      | exact wpAny_bind (wpAny_rule (wpAny_pure ⟨_, rfl, wpAny_pure (h1 hw)⟩))
      | exact wpAny_bind (wpAny_rule (wpAny_bind (wpAny_pure (wpAny_pure ⟨_, rfl, wpAny_pure (h1 hw)⟩))))
  · have hno : ¬ (((b : Int) == 0 && (k : Int) == 1 && c == items.size) = true) := by
      intro q
      rw [Bool.and_eq_true, Bool.and_eq_true] at q
      have q1 : (b : Int) = 0 := eq_of_beq q.1.1
      have q2 : (k : Int) = 1 := eq_of_beq q.1.2
      exact hw ⟨by omega, by omega⟩
    rw [if_neg hno]
    have epick : ((List.range c).filterMap fun (m : Nat) => items[((b : Int) + (m : Int) * (k : Int)).toNat]?) = stepV items.toList b k := by
      unfold stepV
      rw [Array.length_toList, hc]
      congr 1
      funext m
      have : (b : Int) + (m : Int) * (k : Int) = ((b + m * k : Nat) : Int) := by push_cast; rfl
      rw [Array.getElem?_toList, this, Int.toNat_natCast]
    have h3 := h2 hw
    rw [← epick] at h3 hz
    first
      | exact wpAny_bind (m := Builtin.Tuple.tupleExact _) (wpAny_newObj_type (wpAny_pure ⟨_, rfl, wpAny_pure h3⟩) hz)
      | exact wpAny_bind (m := Builtin.Tuple.tupleExact _) (wpAny_newObj_type (wpAny_bind (wpAny_pure (wpAny_pure ⟨_, rfl, wpAny_pure h3⟩))) hz)
      | exact wpAny_bind (wpAny_bind (m := Builtin.Tuple.tupleExact _) (wpAny_newObj_type (wpAny_pure (wpAny_pure ⟨_, rfl, wpAny_pure h3⟩)) hz))
      | exact wpAny_bind (wpAny_bind (m := Builtin.Tuple.tupleExact _) (wpAny_newObj_type (wpAny_pure ⟨_, rfl, wpAny_pure h3⟩) hz))
end
def tStepT (K : PySem.W.Frag) (te tl ts : TE) : TE := fun σ H Q => te σ H fun x H1 => tl σ H1 fun y H2 => ts σ H2 fun z H3 => ∃ (a : Addr) (xs : List V) (b k : Nat), x = .ref a ∧ y = .int (b : Int) ∧ z = .int (k : Int) ∧ SqT K H3 a xs ∧ b ≤ xs.length ∧ 1 ≤ k ∧
  (b = 0 ∧ k = 1 → Q (.ref a) H3) ∧ (¬ (b = 0 ∧ k = 1) → ∀ p, H3 p = none → Q (.ref p) (upd H3 p (.tup (stepV xs b k))))
theorem Vals.step : ∀ {xs : List V} {us : List Value}, Vals xs us → ∀ (l : List Nat), Vals (l.filterMap fun i => xs[i]?) (l.filterMap fun i => us[i]?)
  | xs, us, r, [] => .nil
  | xs, us, r, i :: l => by
    rw [List.filterMap_cons, List.filterMap_cons]
    have hl := r.length
    cases h : xs[i]? with
    | none =>
      have h2 : us[i]? = none := List.getElem?_eq_none (by have := List.getElem?_eq_none_iff.mp h; omega)
      rw [h2]
      exact Vals.step r l
    | some x =>
      have hi := (List.getElem?_eq_some_iff.mp h).1
      obtain ⟨u, hu, ru⟩ := Vals.get r h
      rw [hu]
      exact .cons ru (Vals.step r l)
section
variable {X : Cx}
theorem pe_stepT {e lo st : Expr} {te tl ts : TE} {p2 pos : Pos} (he : PE X e te) (hl : PE X lo tl) (hst : PE X st ts) : PE X (.Subscript e (.Slice (some lo) none (some st) p2) pos) (tStepT X.K te tl ts) := by
  refine ⟨fun pins z σ H Q I h => ?_⟩
  refine Subscript_ (thn (he.run pins z σ H _ I h) fun v z1 ⟨x, H1, I1, r1, q1⟩ => ?_)
  refine wpAny_Slice (thn (hl.run pins z1 σ H1 _ I1 q1) fun vl z2 ⟨y, H2, I2, r2, q2⟩ => ?_)
  rw [evalPart_none]
  refine wpAny_pure (thn (hst.run pins z2 σ H2 _ I2 q2) fun vs z3 ⟨w, H3, I3, r3, a, xs, b, k, ex, ey, ew, hx, hb, hk, h1, h2⟩ => ?_)
  subst ex ey ew
  cases r1
  obtain ⟨t2, rfl⟩ := r2
  obtain ⟨t3, rfl⟩ := r3
  have I4 : Inv X pins σ H3 { z3 with heap := z3.heap.push { cls := .type "slice", data := .fields #[.int (b : Int) t2, .none, .int (k : Int) t3] } } := I3.kept (t' := z3.toks) fun b ob q => Heap.get?_push_of_some _ q
  obtain ⟨its, r, ht, hz⟩ := I4.tuple hx
  have hlen := r.length
  have hz2 : its.toArray.size ≤ sizeLine := by rw [List.size_toArray, ← hlen]; exact hz
  show wpAny (model X.prog X.w) X.A (subscriptTail e (.Slice (some lo) none (some st) p2) (.ref a) (.ref z3.heap.objs.size)) (EP X pins σ Q) X.xe _
  refine tail_any (ops := [.ref a, .ref z3.heap.objs.size]) ht.typeIs PyProof.Rows.slot_tuple_getitem.lookup ?_ (by with_unfolding_all rfl)
  refine step_item ht (Heap.IsSliceOf.new ..) (.int _ _) .none (.int _ _) (by rw [List.size_toArray, ← hlen]; exact hb) hk (fun q => ⟨.ref a, H3, I4, rfl, h1 q⟩) (fun q => ?_) hz2
  refine ⟨.ref _, _, I4.laid (t' := z3.toks) (o := .tup (stepV xs b k)) (fun b ob q => Heap.get?_push_of_some _ q) (Nat.le_refl _) ?_, rfl, h2 q _ (I4.hok.fresh (Nat.le_refl _))⟩
  refine ⟨?_, _, ?_, IsTup.new _ _⟩
  · unfold stepV
    refine Nat.le_trans (List.length_filterMap_le _ _) ?_
    rw [List.length_range]
    split
    · have := Nat.div_le_self (xs.length - b - 1) k
      omega
    · omega
  · unfold stepV
    rw [show its.toArray.toList = its from List.toList_toArray .., ← hlen]
    have := Vals.step r ((List.range (if b < xs.length then (xs.length - b - 1) / k + 1 else 0)).map fun m => b + m * k)
    rw [List.filterMap_map, List.filterMap_map] at this
    exact this
theorem k_pe_stepT (K : PySem.W.Frag) {e lo st : Expr} {te tl ts : TE} {p2 pos : Pos} (he : PE X e te) (hl : PE X lo tl) (hst : PE X st ts) (h : X.K = K := by rfl) : PE X (.Subscript e (.Slice (some lo) none (some st) p2) pos) (tStepT K te tl ts) := h ▸ pe_stepT he hl hst
end
section
variable {K : PySem.W.Frag} {σ : L2.St} {H H' : Hp} {ta tb tc : TE}
theorem stepV_even {α : Type} [Inhabited α] {l : List α} {b k q : Nat} (hl : l.length = q * k) (hb : b < k) : stepV l b k = (List.range q).map fun t => l.getD (b + t * k) default := by
  unfold stepV
  have hq : (if b < l.length then (l.length - b - 1) / k + 1 else 0) = q := by
    rw [hl]
    cases q with
    | zero => simp
    | succ q =>
      have h1 : (q + 1) * k = q * k + k := Nat.succ_mul q k
      rw [if_pos (by rw [h1]; omega), h1]
      have h2 : q * k + k - b - 1 = (k - b - 1) + q * k := by omega
      rw [h2, Nat.add_mul_div_right _ _ (by omega), Nat.div_eq_of_lt (by omega)]
      omega
  rw [hq]
  have : ∀ m : List Nat, (∀ t ∈ m, t < q) → (m.filterMap fun t => l[b + t * k]?) = m.map fun t => l.getD (b + t * k) default := by
    intro m
    induction m with
    | nil => intro _; rfl
    | cons t m ih =>
      intro h
      have ht := h t List.mem_cons_self
      have : (t + 1) * k ≤ q * k := Nat.mul_le_mul_right k ht
      have h1 : (t + 1) * k = t * k + k := Nat.succ_mul t k
      have hlt : b + t * k < l.length := by omega
      rw [List.filterMap_cons, List.getElem?_eq_getElem hlt, List.map_cons, ih fun x hx => h x (List.mem_cons_of_mem _ hx), List.getD_eq_getElem?_getD, List.getElem?_eq_getElem hlt]
      rfl
  exact this _ fun t ht => List.mem_range.mp ht
theorem stepV_map {α β : Type} (f : α → β) (l : List α) (b k : Nat) : stepV (l.map f) b k = (stepV l b k).map f := by
  unfold stepV
  rw [List.length_map, List.map_filterMap]
  congr 1
  funext m
  rw [List.getElem?_map]
theorem stepV_one {α : Type} (l : List α) : stepV l 0 1 = l := by
  unfold stepV
  rw [Nat.div_one]
  have : (if 0 < l.length then l.length - 0 - 1 + 1 else 0) = l.length := by split <;> omega
  rw [this]
  apply List.ext_getElem?
  intro i
  have key : ∀ n, n ≤ l.length → (List.range n).filterMap (fun m => l[0 + m * 1]?) = l.take n := by
    intro n
    induction n with
    | zero => intro _; rfl
    | succ n ih =>
      intro hn
      rw [List.range_succ, List.filterMap_append, ih (by omega), List.take_add_one]
      congr 1
      have hn' : n < l.length := hn
      simp [hn']
  rw [key _ (Nat.le_refl _), List.take_length]
theorem ev_stepT {ns : List Int} {b k : Nat} (ha : EvD ta σ H (tI ns)) (hb : EvD tb σ H (.int (b : Int))) (hk : EvD tc σ H (.int (k : Int))) (h1 : b ≤ ns.length) (h2 : 1 ≤ k) : EvD (tStepT K ta tb tc) σ H (tI (stepV ns b k)) := fun H1 e Q q =>
  ha H1 e _ fun x H2 e2 r2 => hb H2 (e.trans e2) _ fun y H3 e3 r3 => hk H3 ((e.trans e2).trans e3) _ fun z H4 e4 r4 => by
    obtain ⟨a, rfl, hp⟩ := ((r2.same e3).same e4).tI
    refine ⟨a, _, b, k, rfl, r3.int', r4.int', SqT.of hp, by rw [List.length_map]; exact h1, h2, fun w => q _ H4 ((e2.trans e3).trans e4) ?_, fun w p hn => q _ _ (((e2.trans e3).trans e4).trans (Same.new hn)) ?_⟩
    · obtain ⟨rfl, rfl⟩ := w
      rw [stepV_one]
      exact Dt.ofI hp
    · exact Dt.ofI (by rw [upd_same, stepV_map])
end
end SB
/-! Returned dicts, tables. -/
namespace SB
open PySem PySem.Spec PyProof.Rows L2 RZ
open StX (tStar pa_star)
section
variable {K : PySem.W.Frag} {σ : L2.St} {H H' : Hp} {ρ : List Sd} {ta tb te ts td ty tx tv : TE} {d e kd : PyData} {i j : Int} {ds es : List PyData} {tr : TA} {a b : Addr} {C : Tb}
theorem st_retC {D : Ends} (h : EvC te σ H C) (k : ∀ p H1, H p = none → Same H H1 → H1 p = some (.dT (tbH C)) → D.rt (.ref p) H1) : tRet te D σ H := h H (Same.refl H) _ k
theorem ec_callM {R : List Addr → List PyData → Hp → VK → Prop} {E : XK} (h : EvA tr σ H ds) (hR : ∀ H1, Same H H1 → ∀ Q : VK, (∀ p H2, H1 p = none → Same H1 H2 → H2 p = some (.dT (tbH C)) → Q (.ref p) H2) → R [] ds H1 Q) : EvC (tCall (spM R) [] E tr) σ H C := fun H1 e Q q =>
  h H1 e _ fun ws H2 e2 r => ⟨[], ds, ws, by simp, r, hR H2 (e.trans e2) Q fun p H3 hp e3 r3 => q p H3 (fresh_back e2 hp) (e2.trans e3) r3⟩
theorem wk_both {wi : TI} (w : Wk Tp wi σ H ds) : Wk (fun A B => Tp A B ∧ Kp K A B) wi σ H ds := w.weak fun _ _ e => e.1
theorem wk_bothK {wi : TI} (w : Wk (Kp K) wi σ H ds) : Wk (fun A B => Tp A B ∧ Kp K A B) wi σ H ds := w.weak fun _ _ e => e.2
theorem el_list (h : EvR K te σ H ds) : EvL (tCB (fun xs H Q => ∃ p ys, xs = [.ref p] ∧ (SqL K H p ys ∨ SqT K H p ys) ∧ ∀ l, H l = none → Q (.ref l) (upd H l (.lst ys))) (tCons te tNil)) σ H ds := fun H1 e Q q =>
  h H1 e _ fun p H2 e2 ⟨xs, h1, r⟩ => ⟨p, xs, rfl, .inl h1, fun l hl => q l xs _ (fresh_back e2 hl) (e2.trans (Same.new hl)) upd_same (r.same (Same.new hl))⟩
theorem el_listT (h : EvD te σ H (.tuple ds)) : EvL (tCB (fun xs H Q => ∃ p ys, xs = [.ref p] ∧ (SqL K H p ys ∨ SqT K H p ys) ∧ ∀ l, H l = none → Q (.ref l) (upd H l (.lst ys))) (tCons te tNil)) σ H ds := fun H1 e Q q =>
  h H1 e _ fun v H2 e2 r => by
    obtain ⟨p, xs, rfl, h1, rs⟩ := r.tup'
    exact ⟨p, xs, rfl, .inr (SqT.of h1), fun l hl => q l xs _ (fresh_back e2 hl) (e2.trans (Same.new hl)) upd_same (rs.same (Same.new hl))⟩
theorem ev_min {ns : List Int} {m : Int} (h : EvR K te σ H (ns.map .int)) (h0 : 0 < ns.length) (hm : ∀ x, x ∈ ns → (∀ y, y ∈ ns → x ≤ y) → x = m) : EvD (tCB (rMin K) (tCons te tNil)) σ H (.int m) := fun H1 e Q q =>
  h H1 e _ fun p H2 e2 r => ⟨p, ns, rfl, r.ints, h0, fun x hx hy => by rw [hm x hx hy]; exact q _ H2 e2 (.int _)⟩
end
/-- the table of a coset -/
def tabL (v : List Int) (c : Nat) : Tb := (allR (primesL v.length)).map fun rs => (zs rs, v.getD (beatL v.length c rs) 0)
end SB
namespace SB
open PySem PySem.Spec PyProof.Rows L2 RZ
open StX (tStar pa_star)
theorem chN_succ : ∀ (n : Nat) (f : List (List Bool)), chN (n + 1) f = chStep (chN n f)
  | 0, f => rfl
  | n + 1, f => by
    show chN (n + 1) (chStep f) = _
    rw [chN_succ n (chStep f)]
    rfl
theorem chStep_len (f : List (List Bool)) : (chStep f).length = 2 * f.length := by
  unfold chStep
  induction f with
  | nil => rfl
  | cons x f ih => rw [List.flatMap_cons, List.length_append, ih, List.length_cons]; simp; omega
theorem chN_len : ∀ (n : Nat) (f : List (List Bool)), (chN n f).length = 2 ^ n * f.length
  | 0, f => by simp [chN]
  | n + 1, f => by rw [chN_succ, chStep_len, chN_len n f, Nat.pow_succ, Nat.mul_comm (2 ^ n) 2, Nat.mul_assoc]
theorem chN_each : ∀ (n : Nat) (f : List (List Bool)) (k : Nat), (∀ x ∈ f, x.length = k) → ∀ x ∈ chN n f, x.length = k + n
  | 0, f, k, h, x, hx => h x hx
  | n + 1, f, k, h, x, hx => by
    rw [chN_succ] at hx
    unfold chStep at hx
    obtain ⟨y, hy, hx⟩ := List.mem_flatMap.mp hx
    have := chN_each n f k h y hy
    simp at hx
    rcases hx with rfl | rfl <;> simp [this] <;> omega
end SB
/-! (x,) * k for small k. -/
namespace SB
open PySem PySem.Spec PyProof.Rows L2 RZ
theorem mul_self (l : Addr) (items : Array Value) (n : Nat) (dd : Option Addr) (sl : Array (Option Value)) (u : Tok) :
    Meets (Builtin.«tuple.__mul__» ⟨[.ref l, .int 1 u], []⟩) (fun _ R s => s.heap.get? l = some { cls := .type "tuple", dict := dd, data := .seq items n, slots := sl } ∧ R (.ok (.ret (Value.ref l))) s) :=
  .of_wp fun prog w A R s h => by
    obtain ⟨hp, g, d, tk, os⟩ := s
    obtain ⟨hl, h⟩ := h
    have f1 := AutoSeq1.idx_int
    have c0 : (decide ((1 : Int) < -(2 ^ 63)) || decide ((1 : Int) ≥ 2 ^ 63)) = false := by decide
    have c1 : (items.isEmpty || (1 : Int) == 1) = true := by simp
    wp_walk using wpAny_loadPart' hl
    repeat (first
      | (refine wpAny_ite_false (decide_eq_false (by rw [c0]; exact Bool.false_ne_true)) ?_; wp_walk using wpAny_loadPart' hl)
      | (refine wpAny_ite_true (decide_eq_true c1) ?_; wp_walk using wpAny_loadPart' hl))
    exact ⟨_, rfl, h⟩
theorem mul_zero (l : Addr) (items : Array Value) (n : Nat) (dd : Option Addr) (sl : Array (Option Value)) (u : Tok) (h0 : items.isEmpty = false) :
    Meets (Builtin.«tuple.__mul__» ⟨[.ref l, .int 0 u], []⟩) (fun _ R s => s.heap.get? l = some { cls := .type "tuple", dict := dd, data := .seq items n, slots := sl } ∧
      R (.ok (.ret (Value.ref s.heap.objs.size))) { s with heap := s.heap.push { cls := Value.type "tuple", data := Data.seq #[] }, toks := s.toks }) :=
  .of_wp fun prog w A R s h => by
    obtain ⟨hp, g, d, tk, os⟩ := s
    obtain ⟨hl, h⟩ := h
    have f1 := AutoSeq1.idx_int
    have c0 : (decide ((0 : Int) < -(2 ^ 63)) || decide ((0 : Int) ≥ 2 ^ 63)) = false := by decide
    have c1 : (items.isEmpty || (0 : Int) == 1) = false := by rw [h0]; rfl
    have c2 : (decide ((0 : Int) ≤ 0) || items.isEmpty) = true := by simp
    wp_walk using wpAny_loadPart' hl
    repeat (first
      | (refine wpAny_ite_false (decide_eq_false (by rw [c0]; exact Bool.false_ne_true)) ?_; wp_walk using wpAny_loadPart' hl)
      | (refine wpAny_ite_false (decide_eq_false (by rw [c1]; exact Bool.false_ne_true)) ?_; wp_walk using wpAny_loadPart' hl)
      | (refine wpAny_ite_true (decide_eq_true c2) ?_; wp_walk using wpAny_loadPart' hl))
    exact ⟨_, rfl, h⟩
def rRepS (K : PySem.W.Frag) : R2 := fun x y H Q => ∃ l k xs, x = .ref l ∧ y = .int k ∧ SqT K H l xs ∧ xs ≠ [] ∧ (k = 0 ∧ (∀ p, H p = none → Q (.ref p) (upd H p (.tup []))) ∨ k = 1 ∧ Q (.ref l) H)
def rRepB (K : PySem.W.Frag) : R2 := fun x y H Q => rRepT K x y H Q ∨ rRepS K x y H Q
section
variable {X : Cx}
theorem op_repS : OpR X (binaryOp .Mult) (rRepS X.K) := by
  intro pins s σ H x y v u Q I rx ry h
  obtain ⟨l, k, xs, rfl, rfl, hT, hne, h⟩ := h
  cases rx
  obtain ⟨t, rfl⟩ := ry
  obtain ⟨its, r, ⟨⟨cls, dd, data, sl⟩, ho, hc, n, hd⟩, hs⟩ := I.tuple hT
  simp only at hc hd
  subst hc hd
  have hi : its.toArray.isEmpty = false := by
    cases its with
    | nil => cases r; exact absurd rfl hne
    | cons a b => rfl
  have road : ∀ {R : Value → Shared → Prop}, wpAny (model X.prog X.w) X.A.in1.in1 (call (.builtin "tuple.__mul__") [.ref l, .int k t]) R X.xe s → True := fun _ => True.intro
  rcases h with ⟨rfl, q⟩ | ⟨rfl, q⟩
  · refine wpAny_binaryOp_repeat_ref (T := "tuple") (U := "int") (by decide) ⟨_, ho, rfl⟩ (fun s' => typeIs_int s' 0 t) noFill_tuple_mul F.fills_int_mul F.slot_int_rmul repeat_tuple F.slot_int_index.lookup
      (call_meets F.slot_int_rmul (typeIs_int s 0 t) F.entry_int_rmul (F.args_int_rmul_2 _ _) (int_rmul_tuple 0 t l its.toArray n dd sl)
        ⟨ho, rfl, ⟨_, ho, rfl⟩, call_meets F.slot_tuple_mul ⟨_, ho, rfl⟩ F.entry_tuple_mul (F.args_tuple_mul_2 _ _) (mul_zero l its.toArray n dd sl t hi) ⟨ho, ?_⟩⟩)
    exact ⟨.ref s.heap.objs.size, _, I.laid (t' := s.toks) (o := .tup []) (fun b ob q => Heap.get?_push_of_some _ q) (Nat.le_refl _) ⟨by show 0 ≤ sizeLine; omega, [], .nil, IsTup.new _ _⟩, rfl, q _ (I.hok.fresh (Nat.le_refl _))⟩
  · refine wpAny_binaryOp_repeat_ref (T := "tuple") (U := "int") (by decide) ⟨_, ho, rfl⟩ (fun s' => typeIs_int s' 1 t) noFill_tuple_mul F.fills_int_mul F.slot_int_rmul repeat_tuple F.slot_int_index.lookup
      (call_meets F.slot_int_rmul (typeIs_int s 1 t) F.entry_int_rmul (F.args_int_rmul_2 _ _) (int_rmul_tuple 1 t l its.toArray n dd sl)
        ⟨ho, rfl, ⟨_, ho, rfl⟩, call_meets F.slot_tuple_mul ⟨_, ho, rfl⟩ F.entry_tuple_mul (F.args_tuple_mul_2 _ _) (mul_self l its.toArray n dd sl t) ⟨ho, ?_⟩⟩)
    exact ⟨.ref l, H, I, rfl, q⟩
theorem k_op_repB (K : PySem.W.Frag) (h : X.K = K := by rfl) : OpR X (binaryOp .Mult) (rRepB K) := by
  subst h
  intro pins s σ H x y v u Q I rx ry q
  rcases q with q | q
  · exact op_repT pins s σ H x y v u Q I rx ry q
  · exact op_repS pins s σ H x y v u Q I rx ry q
end
section
variable {K : PySem.W.Frag} {σ : L2.St} {H H' : Hp} {ta tb : TE} {d : PyData} {i : Int}
/-- (d,) * k -/
theorem ev_rep1T (ha : EvD ta σ H (.tuple [d])) (hb : EvD tb σ H (.int i)) (hi : 0 ≤ i ∧ i ≤ 1000) : EvD (tOp (rRepB K) ta tb) σ H (.tuple (List.replicate i.toNat d)) := fun H1 e Q q =>
  ha H1 e _ fun v H2 e2 r2 => hb H2 (e.trans e2) _ fun w H3 e3 r3 => by
    obtain ⟨a, xs, rfl, hp, rs⟩ := (r2.same e3).tup'
    cases rs with
    | cons r1 rs =>
      cases rs
      rw [r3.int']
      by_cases h2 : 2 ≤ i
      · refine .inl ⟨a, i, _, rfl, rfl, SqT.of hp, by simp, h2, hi.2, by simp, fun p hn => ?_⟩
        rw [rep_flat]
        exact q _ _ ((e2.trans e3).trans (Same.new hn)) (.tup upd_same ((DtA.rep r1 _).same (Same.new hn)))
      · refine .inr ⟨a, i, _, rfl, rfl, SqT.of hp, by simp, ?_⟩
        have : i = 0 ∨ i = 1 := by omega
        rcases this with rfl | rfl
        · exact .inl ⟨rfl, fun p hn => q _ _ ((e2.trans e3).trans (Same.new hn)) (.tup upd_same .nil)⟩
        · exact .inr ⟨rfl, q _ H3 (e2.trans e3) (.tup hp (.cons r1 .nil))⟩
end
end SB
/-! sum of a tuple of ints, of truth values; min of pairs. -/
namespace SB
open PySem PySem.Spec PyProof.Rows L2 RZ
abbrev b01 (b : Bool) : Int := if b then 1 else 0
section
variable {prog : Program} {w : World} {A : Around} {R : Result → Shared → Prop} {I : Addr} {fp wr : List Addr} {n : Nat} {P : Nat → Value → Prop} {St : Nat → Heap → Prop}
theorem sumB_loop (W : PySem.Walks prog w A.in1 I fp wr n P St) (val : Nat → Bool) (hval : ∀ i v, P i v → v = .bool (val i)) (hn : n ≤ 1000) (S : Addr) (hSf : S ∉ fp) :
    ∀ (k i : Nat) (z : Shared) (tA : Tok) (c : Nat), n - i = k → i ≤ n → St i z.heap → z.heap.get? S = some { cls := .type "list", dict := none, data := .seq #[.int (preSum (fun j => b01 (val j)) i) tA] c, slots := #[] } → (0 ≤ preSum (fun j => b01 (val j)) i ∧ preSum (fun j => b01 (val j)) i ≤ i) →
    (∀ h' tk t', (∀ b o, b ∉ wr → b ≠ S → z.heap.get? b = some o → h'.get? b = some o) → R (.ok (.ret (.int (preSum (fun j => b01 (val j)) n) t'))) { z with heap := h', toks := tk }) →
    codeAny (model prog w) A (.builtin "sum.loop" ⟨[.ref I, .ref S, rawInt 0, rawInt 0], []⟩) R z := by
  have nw : S ∉ wr := fun h => hSf (W.sub _ h)
  intro k
  induction k with
  | zero =>
    intro i z tA c hk hi hst hS hb hR
    obtain rfl : i = n := by omega
    refine codeAny_builtin F.entry_sum_loop ?_
    rw [Around.under_plainId F.plain_sum_loop _]
    show wpAny _ A.in1 (seqItems? (.ref S) >>= _) _ _ z
    refine wpAny_bind (wpAny_seqItems hS rfl ?_)
    show wpAny _ A.in1 (tryCatch (pyNext (.ref I)) _ >>= _) _ _ z
    refine wpAny_bind (wpAny_tryCatch (W.done z _ _ hst fun h' tk kp => ?_))
    exact wpAny_pure (hR h' tk tA fun b o hbw _ e => kp b o hbw e)
  | succ k ih =>
    intro i z tA c hk hi hst hS hb hR
    have hlt : i < n := by omega
    refine codeAny_builtin F.entry_sum_loop ?_
    rw [Around.under_plainId F.plain_sum_loop _]
    show wpAny _ A.in1 (seqItems? (.ref S) >>= _) _ _ z
    refine wpAny_bind (wpAny_seqItems hS rfl ?_)
    show wpAny _ A.in1 (tryCatch (pyNext (.ref I)) _ >>= _) _ _ z
    refine wpAny_bind (wpAny_tryCatch (W.item i z _ _ hlt hst fun v h' tk hP hst' kp => ?_))
    obtain rfl := hval i v hP
    have hS' := kp S _ nw hS
    cases hvi : val i with
    | false =>
      have hx : b01 (val i) = 0 := by rw [hvi]; rfl
      have hc : ((decide (-(2 ^ 63) ≤ (0 : Int)) && decide ((0 : Int) < 2 ^ 63)) && (decide (-(2 ^ 63) ≤ preSum (fun j => b01 (val j)) i + 0) && decide (preSum (fun j => b01 (val j)) i + 0 < 2 ^ 63))) = true := by
        simp only [Bool.and_eq_true, decide_eq_true_eq]
        omega
      have hp1 : preSum (fun j => b01 (val j)) (i + 1) = preSum (fun j => b01 (val j)) i + 0 := by rw [← hx]; rfl
      show wpAny _ A.in1 (if (_ : Bool) = true then (mkInt (preSum (fun j => b01 (val j)) i + 0) >>= _) else _) _ _ _
      refine wpAny_ite_true (decide_eq_true hc) ?_
      · refine wpAny_bind (wpAny_mkInt ?_)
        show wpAny _ A.in1 (updateSeq S (fun _ => #[.int (preSum (fun j => b01 (val j)) i + 0) tk]) >>= _) _ _ _
        rw [← hp1]
        refine wpAny_bind ?_
        refine wpAny_updateSeq hS' rfl (wpAny_pure ⟨plainId_quiet F.plain_sum_loop _, ih (i + 1) _ tk _ (by omega) hlt (W.frame _ _ _ hst' fun b hbf o e => ?_) (Heap.get?_update_self _ hS' rfl) (by omega) fun h2 tk2 t2 kp2 => ?_⟩)
        · exact (Heap.get?_update_other _ _ (fun h : S = b => hSf (by rw [h]; exact hbf))).trans e
        · exact hR h2 tk2 t2 fun b o hbw hbS e => kp2 b o hbw hbS ((Heap.get?_update_other _ _ (Ne.symm hbS)).trans (kp b o hbw e))
    | true =>
      have hx : b01 (val i) = 1 := by rw [hvi]; rfl
      have hc : ((decide (-(2 ^ 63) ≤ (1 : Int)) && decide ((1 : Int) < 2 ^ 63)) && (decide (-(2 ^ 63) ≤ preSum (fun j => b01 (val j)) i + 1) && decide (preSum (fun j => b01 (val j)) i + 1 < 2 ^ 63))) = true := by
        simp only [Bool.and_eq_true, decide_eq_true_eq]
        omega
      have hp1 : preSum (fun j => b01 (val j)) (i + 1) = preSum (fun j => b01 (val j)) i + 1 := by rw [← hx]; rfl
      show wpAny _ A.in1 (if (_ : Bool) = true then (mkInt (preSum (fun j => b01 (val j)) i + 1) >>= _) else _) _ _ _
      refine wpAny_ite_true (decide_eq_true hc) ?_
      · refine wpAny_bind (wpAny_mkInt ?_)
        show wpAny _ A.in1 (updateSeq S (fun _ => #[.int (preSum (fun j => b01 (val j)) i + 1) tk]) >>= _) _ _ _
        rw [← hp1]
        refine wpAny_bind ?_
        refine wpAny_updateSeq hS' rfl (wpAny_pure ⟨plainId_quiet F.plain_sum_loop _, ih (i + 1) _ tk _ (by omega) hlt (W.frame _ _ _ hst' fun b hbf o e => ?_) (Heap.get?_update_self _ hS' rfl) (by omega) fun h2 tk2 t2 kp2 => ?_⟩)
        · exact (Heap.get?_update_other _ _ (fun h : S = b => hSf (by rw [h]; exact hbf))).trans e
        · exact hR h2 tk2 t2 fun b o hbw hbS e => kp2 b o hbw hbS ((Heap.get?_update_other _ _ (Ne.symm hbS)).trans (kp b o hbw e))
theorem sumB_call {E : Value → Shared → Prop} {z : Shared} {t : Addr} {its : Array Value} {bs : List Bool} {Q : Value → Shared → Prop} (hh : A.handled = none) (ht : z.heap.IsTuple t its) (hi : ∀ (i : Nat) (v : Value), its[i]? = some v → v = Value.bool (bs.getD i false)) (hn : its.size ≤ 1000)
    (h : ∀ h' tk t', (∀ b o, z.heap.get? b = some o → h'.get? b = some o) → Q (.int (preSum (fun j => b01 (bs.getD j false)) its.size) t') { z with heap := h', toks := tk }) : wpAny (model prog w) A (call (.builtin "sum") [.ref t]) Q E z := by
  obtain ⟨o, ho, hc, n0, hd⟩ := id ht
  have hne : t ≠ z.heap.objs.size := Nat.ne_of_lt (Heap.lt_size ho)
  have W := PySem.Walks.tuple (prog := prog) (w := w) (A := A.in1) hh z.heap.objs.size t hne its
  refine call_function_tree F.kind_sum F.plain_sum F.entry_sum (F.args_sum1 _) ?_
  unfold Builtin.«sum»
  simp only [List.length_cons, List.length_nil]
  rw [if_neg (by decide)]
  refine wpAny_bind (wpAny_of_eq (show Builtin.Builtins.bindParams "sum" ["start"] 0 { } = pure [none] from rfl) ?_)
  refine wpAny_bind (wpAny_pyIter_tuple ht ?_)
  refine wpAny_bind (wpAny_mkInt ?_)
  refine wpAny_bind (wpAny_pure ?_)
  simp only [List.forIn_cons, List.forIn_nil]
  refine wpAny_bind (wpAny_bind (wpAny_bind (wpAny_isInstance (T := "int") (b := false) (typeIs_int _ _ _) PySem.sub_int_str ?_)))
  simp only [Bool.false_eq_true, if_false]
  refine wpAny_pure (wpAny_bind (wpAny_bind (wpAny_isInstance (T := "int") (b := false) (typeIs_int _ _ _) PySem.sub_int_bytes ?_)))
  simp only [Bool.false_eq_true, if_false]
  refine wpAny_pure (wpAny_bind (wpAny_bind (wpAny_isInstance (T := "int") (b := false) (typeIs_int _ _ _) PySem.sub_int_bytearray ?_)))
  simp only [Bool.false_eq_true, if_false]
  refine wpAny_pure (wpAny_pure ?_)
  refine wpAny_bind (wpAny_newObj_type ?_)
  have k1 : ∀ b o, z.heap.get? b = some o → (z.heap.push { cls := .type "tuple_iterator", data := .fields #[.ref t, .int 0 0] }).get? b = some o := fun b o e => Heap.get?_push_of_some _ e
  refine wpAny_pure ⟨plainId_quiet F.plain_sum_loop _, sumB_loop W (fun i => bs.getD i false) hi hn _ (fun hm => ?_) its.size 0 _ _ 0 rfl (Nat.zero_le _) ?_ (Heap.get?_push_size _ rfl) ⟨Int.le_refl _, Int.le_refl _⟩ fun h' tk t' kp => ?_⟩
  · rw [Heap.size_push] at hm
    rcases List.mem_cons.mp hm with e | hm
    · exact Nat.succ_ne_self _ e
    · have e := List.mem_singleton.mp hm
      exact Nat.lt_irrefl _ (Nat.lt_trans (Nat.lt_succ_self _) (e ▸ Heap.lt_size ho))
  · exact ⟨⟨_, Heap.get?_push_of_some _ (Heap.get?_push_size _ rfl), rfl, rfl⟩, ht.at fun o e => Heap.get?_push_of_some _ (k1 _ _ e)⟩
  · refine h h' tk t' fun b o e => kp b o (fun hb => ?_) (fun hb => ?_) (Heap.get?_push_of_some _ (k1 _ _ e))
    · exact Nat.lt_irrefl _ ((List.mem_singleton.mp hb) ▸ Heap.lt_size e)
    · rw [Heap.size_push] at hb
      exact Nat.lt_irrefl _ (Nat.lt_trans (Nat.lt_succ_self _) (hb ▸ Heap.lt_size e))
end
theorem preSumB (bs : List Bool) : ∀ n, n ≤ bs.length → preSum (fun j => b01 (bs.getD j false)) n = (((bs.take n).filter id).length : Int)
  | 0, _ => rfl
  | n + 1, h => by
    show preSum _ n + b01 (bs.getD n false) = _
    rw [preSumB bs n (by omega), List.take_add_one, List.getElem?_eq_getElem (by omega), List.filter_append, List.length_append, List.getD_eq_getElem?_getD, List.getElem?_eq_getElem (by omega)]
    cases bs[n] <;> simp [b01]
def rSumB (K : PySem.W.Frag) : List V → Hp → VK → Prop := fun vs H Q => ∃ (a : Addr) (bs : List Bool), vs = [.ref a] ∧ SqT K H a (bs.map V.bl) ∧ bs.length ≤ 1000 ∧ Q (.int ((bs.filter id).length : Int)) H
def rSumT (K : PySem.W.Frag) : List V → Hp → VK → Prop := fun vs H Q => ∃ (a : Addr) (ns : List Int), vs = [.ref a] ∧ SqT K H a (ns.map V.int) ∧ Q (.int ns.sum) H
def rMinP (K : PySem.W.Frag) : List V → Hp → VK → Prop := fun vs H Q => ∃ (a : Addr) (xs : List V) (ps : List (Int × Int)), vs = [.ref a] ∧ SqL K H a xs ∧ DtA H xs (ps.map kD) ∧ xs ≠ [] ∧ ∀ (i : Nat) v, xs[i]? = some v → Q v H
theorem valsB : ∀ {bs : List Bool} {us : List Value}, Vals (bs.map V.bl) us → ∀ (i : Nat) (v : Value), us[i]? = some v → v = Value.bool (bs.getD i false)
  | [], _, r, i, v, h => by cases r; simp at h
  | b :: bs, _, r, i, v, h => by
    cases r with
    | cons r1 r2 =>
      cases i with
      | zero => simp at h; subst h; exact r1
      | succ i =>
        have := valsB r2 i v (by simpa using h)
        simpa using this
theorem alike_pair (p q : Int × Int) : PySem.W.alike (kD p) (kD q) = true := rfl
section
variable {X : Cx}
theorem cr_sumB (hc : X.calm = true) : CallR X (.builtin "sum") (rSumB X.K) := by
  intro pins z σ H vs us Q I r h
  obtain ⟨a, bs, rfl, hs, hn, q⟩ := h
  obtain ⟨its, rv, ht, _⟩ := I.tuple hs
  rw [Vals.ref1 r]
  have hl : its.length = bs.length := by rw [← rv.length, List.length_map]
  refine sumB_call (bs := bs) (its := its.toArray) (I.ok.hd hc) ht (fun i v e => valsB rv i v (by simpa using e)) (by rw [List.size_toArray]; omega) fun h' tk t' kp => ?_
  rw [List.size_toArray, preSumB bs _ (by omega), hl, List.take_length]
  exact ⟨.int _, H, I.kept kp, ⟨_, rfl⟩, q⟩
theorem cr_sumT (hc : X.calm = true) : CallR X (.builtin "sum") (rSumT X.K) := by
  intro pins z σ H vs us Q I r h
  obtain ⟨a, ns, rfl, hs, q⟩ := h
  obtain ⟨its, rv, ht, _⟩ := I.tuple hs
  rw [Vals.ref1 r]
  have hi := rv.ints
  obtain ⟨xs, e⟩ := hi.allInts.items
  have hn : numsOf (intItems xs).toList = ns := by rw [← e]; exact hi.numsOf
  rw [nums_intItems] at hn
  have ht2 : z.heap.IsTuple a (intItems xs) := by rw [← e]; exact ht
  refine PySem.W.ktm_sumG (I.ok.hd hc) ht2 fun h' tk t' kp => ?_
  rw [preSum_eq, List.take_of_length_le (by simp), hn]
  exact ⟨.int _, H, I.kept kp, ⟨_, rfl⟩, q⟩
theorem cr_minP (hc : X.calm = true) (hu : X.A.units + 64 < cLine) : CallR X (.builtin "min") (rMinP X.K) := by
  intro pins z σ H vs us Q I r h
  obtain ⟨a, xs, ps, rfl, hs, hd, hne, q⟩ := h
  obtain ⟨its, rv, hl, _⟩ := I.list hs
  rw [Vals.ref1 r]
  obtain ⟨as, hr⟩ := Dp.readsAll I _ _ its hd.dpA rv
  cases ps with
  | nil => cases hd; exact absurd rfl hne
  | cons p ps =>
    refine PySem.W.min_list_data (I.ok.hd hc) hl.isList (vs := its.toArray) (x := kD p) (xs := ps.map kD) (as := as) hr ⟨fun x hx y hy => ?_, fun x hx e => ?_⟩ ?_ fun i v h' tk bs hv _ kp => ?_
    · rw [← List.map_cons] at hx hy
      obtain ⟨p1, _, rfl⟩ := List.mem_map.mp hx
      obtain ⟨p2, _, rfl⟩ := List.mem_map.mp hy
      exact alike_pair p1 p2
    · rw [← List.map_cons] at hx
      obtain ⟨p1, _, rfl⟩ := List.mem_map.mp hx
      cases e
    · have key : ∀ ps : List (Int × Int), PyData.depthAll (ps.map kD) ≤ 2 := by
        intro ps
        induction ps with
        | nil => exact Nat.zero_le _
        | cons p ps ih =>
          show max (PyData.depth (kD p)) (PyData.depthAll (ps.map kD)) ≤ 2
          have : PyData.depth (kD p) ≤ 2 := by simp [kD, tI, PyData.depth, PyData.depthAll]
          omega
      have := key (p :: ps)
      rw [List.map_cons] at this
      omega
    · have hv' : its[i]? = some v := by simpa using hv
      cases hx : xs[i]? with
      | none =>
        have := Vals.none_of rv hx
        rw [this] at hv'
        cases hv'
      | some x =>
        obtain ⟨u, e1, e2⟩ := Vals.get rv hx
        rw [hv'] at e1
        cases e1
        exact ⟨x, H, I.kept kp, e2, q i x hx⟩
theorem k_cr_sumB (K : PySem.W.Frag) (hc : X.calm = true) (h : X.K = K := by rfl) : CallR X (.builtin "sum") (rSumB K) := h ▸ cr_sumB hc
theorem k_cr_sumT (K : PySem.W.Frag) (hc : X.calm = true) (h : X.K = K := by rfl) : CallR X (.builtin "sum") (rSumT K) := h ▸ cr_sumT hc
theorem k_cr_minP (K : PySem.W.Frag) (hc : X.calm = true) (hu : X.A.units + 64 < cLine) (h : X.K = K := by rfl) : CallR X (.builtin "min") (rMinP K) := h ▸ cr_minP hc hu
end
section
variable {K : PySem.W.Frag} {σ : L2.St} {H H' : Hp} {te : TE} {d : PyData} {i : Int}
theorem ev_sumB {bs : List Bool} (h : EvD te σ H (.tuple (bs.map .bool))) (hl : bs.length ≤ 1000) : EvD (tCB (rSumB K) (tCons te tNil)) σ H (.int ((bs.filter id).length : Int)) := fun H1 e Q q =>
  h H1 e _ fun v H2 e2 r => by
    obtain ⟨a, xs, rfl, hp, rs⟩ := r.tup'
    rw [DtA.bools rs] at hp
    exact ⟨a, bs, rfl, SqT.of hp, hl, q _ H2 e2 (.int _)⟩
theorem ev_sumT {ns : List Int} (h : EvD te σ H (tI ns)) : EvD (tCB (rSumT K) (tCons te tNil)) σ H (.int ns.sum) := fun H1 e Q q =>
  h H1 e _ fun v H2 e2 r => by
    obtain ⟨a, rfl, hp⟩ := r.tI
    exact ⟨a, ns, rfl, SqT.of hp, q _ H2 e2 (.int _)⟩
end
end SB
/-! Pairs of a number and a dict; one dict changing beside another that is locked. -/
namespace SB
open PySem PySem.Spec PyProof.Rows L2 RZ
open StX (tStar pa_star)
section
variable {K : PySem.W.Frag} {σ : L2.St} {H H' : Hp} {ρ : List Sd} {t1 t2 te : TE} {d : PyData} {ds : List PyData} {C : Tb} {D : Ends} {i j : Nat} {a b c : Addr}
theorem st_tup2C (S : Sl K σ H ρ) (h1 : EvD t1 σ H d) (h2 : EvC t2 σ H C) (k : ∀ p σ' H1, H p = none → Same H H1 → H1 p = some (.dT (tbH C)) → Sl K σ' H1 ((ρ.set i (.dat d)).set j (.ref p)) → D.nx σ' H1) :
    tAsg (tTup (tCons t1 (tCons t2 tNil))) (gTup K 2 (gCons (gName i) (gCons (gName j) gNil))) D σ H := h1 H (Same.refl H) _ fun v H1 e1 r1 => h2 H1 e1 _ fun p H2 hp e2 hd => by
  refine ⟨by show 2 ≤ sizeLine; decide, fun q hq => ⟨q, _, rfl, SqT.of upd_same, rfl, _, _, rfl, _, _, rfl, rfl, ?_⟩⟩
  have e := (e1.trans e2).trans (Same.new (o := .tup [v, .ref p]) hq)
  refine k p _ _ (fresh_back e1 hp) e ?_ (((S.same e).setD i ((r1.same e2).same (Same.new hq))).setR j p)
  rw [upd_ne (ne_of_none hd hq)]
  exact hd
theorem sb_unlock {u f : HO} (h : H a = some u) (n : a ≠ c) (e : Sb c (upd H a f) H') : Sb c H (upd H' a u) := fun b w nb hb => by
  by_cases z : b = a
  · rw [z, upd_same]
    rw [z, h] at hb
    exact hb
  · rw [upd_ne z]
    exact e b w nb (by rw [upd_ne z]; exact hb)
end
/-- cells of a coset -/
def inR : List Nat → List Nat → Prop
  | [], [] => True
  | p :: ps, r :: rs => r < p ∧ inR ps rs
  | _, _ => False
theorem mem_grow : ∀ (ps : List Nat) (l : List (List Nat)) (x : List Nat), x ∈ ps.foldl grow l ↔ ∃ a ∈ l, ∃ b, inR ps b ∧ x = a ++ b
  | [], l, x => by
    constructor
    · intro h
      exact ⟨x, h, [], True.intro, by simp⟩
    · rintro ⟨a, ha, b, hb, rfl⟩
      cases b with
      | nil => simpa using ha
      | cons => exact hb.elim
  | p :: ps, l, x => by
    rw [List.foldl_cons, mem_grow ps]
    constructor
    · rintro ⟨a, ha, b, hb, rfl⟩
      unfold grow at ha
      obtain ⟨a0, h0, h1⟩ := List.mem_flatMap.mp ha
      obtain ⟨r, hr, rfl⟩ := List.mem_map.mp h1
      exact ⟨a0, h0, r :: b, ⟨List.mem_range.mp hr, hb⟩, by simp⟩
    · rintro ⟨a, ha, b, hb, rfl⟩
      cases b with
      | nil => exact hb.elim
      | cons r b =>
        obtain ⟨h1, h2⟩ := hb
        refine ⟨a ++ [r], ?_, b, h2, by simp⟩
        unfold grow
        exact List.mem_flatMap.mpr ⟨a, ha, List.mem_map.mpr ⟨r, List.mem_range.mpr h1, rfl⟩⟩
theorem mem_allR {ps x : List Nat} : x ∈ allR ps ↔ inR ps x := by
  unfold allR
  rw [mem_grow]
  constructor
  · rintro ⟨a, ha, b, hb, rfl⟩
    have : a = [] := by simpa using ha
    subst this
    exact hb
  · intro h
    exact ⟨[], by simp, x, h, rfl⟩
theorem inR_held : ∀ {ps rs : List Nat} {ch : List Bool}, inR ps rs → ch.length = ps.length → inR ps (heldL rs ch)
  | [], [], [], _, _ => True.intro
  | p :: ps, r :: rs, c :: ch, h, hl => by
    refine ⟨?_, inR_held h.2 (by simpa using hl)⟩
    have := h.1
    cases c
    · exact this
    · show 0 < p
      omega
theorem chL_len {m k : Nat} (hk : k < m) {ch : List Bool} (h : ch ∈ chL m k) : ch.length = m := by
  have := chN_each (m - k - 1) [List.replicate k false ++ [true]] (k + 1) (by simp) ch h
  omega
theorem putAll_append (C : Cts) (l l' : List ((Int × Int) × Int)) : putAll C (l ++ l') = putAll (putAll C l) l' := by
  unfold putAll
  rw [List.foldl_append]
theorem putAll_nodup : ∀ (l : List ((Int × Int) × Int)) {C : Cts}, (C.map (·.1)).Nodup → ((putAll C l).map (·.1)).Nodup
  | [], _, h => h
  | e :: l, C, h => putAll_nodup l (C := putC C e.1 e.2) (putC_nodup h _ _)
theorem putAll_len : ∀ (l : List ((Int × Int) × Int)) (C : Cts), (putAll C l).length ≤ C.length + l.length
  | [], C => Nat.le_refl _
  | e :: l, C => by
    have h1 := putAll_len l (putC C e.1 e.2)
    have h2 := putC_len C e.1 e.2
    show (putAll (putC C e.1 e.2) l).length ≤ _
    rw [List.length_cons]
    omega
end SB
/-! Least and greatest, places in lists, targets within targets, dicts that grow. -/
namespace SB
open PySem PySem.Spec PyProof.Rows L2 RZ
open StX (tStar pa_star)
def minL : List Int → Int
  | [] => 0
  | [x] => x
  | x :: y :: xs => min x (minL (y :: xs))
def maxL : List Int → Int
  | [] => 0
  | [x] => x
  | x :: y :: xs => max x (maxL (y :: xs))
theorem minL_spec : ∀ {l : List Int}, l ≠ [] → minL l ∈ l ∧ ∀ y ∈ l, minL l ≤ y
  | [x], _ => ⟨List.mem_singleton.mpr rfl, fun y hy => by rw [List.mem_singleton.mp hy]; exact Int.le_refl _⟩
  | x :: y :: xs, _ => by
    obtain ⟨h1, h2⟩ := minL_spec (l := y :: xs) (by simp)
    show min x (minL (y :: xs)) ∈ _ ∧ ∀ z ∈ x :: y :: xs, min x (minL (y :: xs)) ≤ z
    refine ⟨?_, fun z hz => ?_⟩
    · by_cases h : x ≤ minL (y :: xs)
      · rw [Int.min_eq_left h]; exact List.mem_cons_self
      · rw [Int.min_eq_right (by omega)]; exact List.mem_cons_of_mem _ h1
    · rcases List.mem_cons.mp hz with e | e
      · rw [e]; exact Int.min_le_left _ _
      · exact Int.le_trans (Int.min_le_right _ _) (h2 z e)
theorem maxL_spec : ∀ {l : List Int}, l ≠ [] → maxL l ∈ l ∧ ∀ y ∈ l, y ≤ maxL l
  | [x], _ => ⟨List.mem_singleton.mpr rfl, fun y hy => by rw [List.mem_singleton.mp hy]; exact Int.le_refl _⟩
  | x :: y :: xs, _ => by
    obtain ⟨h1, h2⟩ := maxL_spec (l := y :: xs) (by simp)
    show max x (maxL (y :: xs)) ∈ _ ∧ ∀ z ∈ x :: y :: xs, z ≤ max x (maxL (y :: xs))
    refine ⟨?_, fun z hz => ?_⟩
    · by_cases h : maxL (y :: xs) ≤ x
      · rw [Int.max_eq_left h]; exact List.mem_cons_self
      · rw [Int.max_eq_right (by omega)]; exact List.mem_cons_of_mem _ h1
    · rcases List.mem_cons.mp hz with e | e
      · rw [e]; exact Int.le_max_left _ _
      · exact Int.le_trans (h2 z e) (Int.le_max_right _ _)
theorem idx_lt {x y : Int} : ∀ {ns : List Int} {m : Nat}, m < ns.idxOf x → ns[m]? = some y → y ≠ x
  | [], m, h, _ => by simp at h
  | z :: ns, m, h, e => by
    rw [List.idxOf_cons] at h
    by_cases q : z = x
    · subst q
      simp at h
    · have hq : (z == x) = false := by simpa using q
      rw [hq] at h
      cases m with
      | zero => simp at e; subst e; exact q
      | succ m => exact idx_lt (ns := ns) (m := m) (by simpa using h) (by simpa using e)
section
variable {K : PySem.W.Frag} {σ : L2.St} {H H' : Hp} {ρ : List Sd} {te ta : TE} {d d1 d2 : PyData} {ds : List PyData} {C : Tb} {D : Ends} {i j : Nat} {a b c : Addr} {ns : List Int}
theorem ev_minL (h : EvR K te σ H (ns.map .int)) (h0 : ns ≠ []) : EvD (tCB (rMin K) (tCons te tNil)) σ H (.int (minL ns)) :=
  ev_min h (List.length_pos_iff.mpr h0) fun x hx hy => Int.le_antisymm (hy _ (minL_spec h0).1) ((minL_spec h0).2 _ hx)
theorem ev_maxL (h : EvR K te σ H (ns.map .int)) (h0 : ns ≠ []) : EvD (tCB (rMax K) (tCons te tNil)) σ H (.int (maxL ns)) := fun H1 e Q q =>
  h H1 e _ fun p H2 e2 r => ⟨p, ns, rfl, r.ints, List.length_pos_iff.mpr h0, fun x hx hy => by
    have : x = maxL ns := Int.le_antisymm ((maxL_spec h0).2 _ hx) (hy _ (maxL_spec h0).1)
    rw [this]
    exact q _ H2 e2 (.int _)⟩
/-- the place of x in a list -/
theorem ev_index {x : Int} (h : EvR K te σ H (ns.map .int)) (hx : EvD ta σ H (.int x)) (hm : x ∈ ns) : EvD (tBM K "list" (rIndex K) te (tCons ta tNil)) σ H (.int ((ns.idxOf x : Nat) : Int)) := fun H1 e Q q =>
  h H1 e _ fun p H2 e2 r => ⟨.inl ⟨rfl, _, r.ints⟩, hx H2 (e.trans e2) _ fun w H3 e3 r3 => by
    rw [r3.int']
    have hl : ns.idxOf x < ns.length := List.idxOf_lt_length_of_mem hm
    refine ⟨p, ns.map V.int, .int x, ns.idxOf x, .int x, rfl, rfl, (r.same e3).ints, rfl, flat_ints ns, ?_, ?_, fun m z hm hz => ?_, q _ H3 (e2.trans e3) (.int _)⟩
    · rw [List.getElem?_map, List.getElem?_eq_getElem hl, List.getElem_idxOf]
      rfl
    · simp [eqV]
    · rw [List.getElem?_map] at hz
      cases e4 : ns[m]? with
      | none => rw [e4] at hz; cases hz
      | some y =>
        rw [e4] at hz
        cases hz
        have : y ≠ x := idx_lt hm e4
        simp [eqV, this]⟩
/-- a target of two targets -/
theorem tg_two {g1 g2 : TG} {is1 is2 : List Nat} {f1 f2 : List Sd → List Sd} (h1 : Tg K g1 d1 is1 f1) (h2 : Tg K g2 d2 is2 f2) : Tg K (gTup K 2 (gCons g1 (gCons g2 gNil))) (.tuple [d1, d2]) (is1 ++ is2) (fun ρ => f2 (f1 ρ)) := fun v σ H ρ Q s r k => by
  obtain ⟨p, xs, rfl, hp, rs⟩ := r.tup'
  cases rs with
  | cons r1 rs =>
    cases rs with
    | cons r2 rs =>
      cases rs
      refine ⟨p, _, rfl, SqT.of hp, rfl, _, _, rfl, h1 _ σ H ρ _ s r1 fun σ1 s1 l1 k1 => ⟨_, _, rfl, h2 _ σ1 H _ _ s1 r2 fun σ2 s2 l2 k2 => ⟨rfl, k σ2 s2 (l2.trans l1) fun j hj => ?_⟩⟩⟩
      rw [k2 j fun z => hj (List.mem_append_right _ z), k1 j fun z => hj (List.mem_append_left _ z)]
/-- two lists out of a pair -/
theorem st_pairLL (S : Sl K σ H ρ) {te : TE} (h : ∀ Q : VK, (∀ r l1 l2 H1, Same H H1 → H1 r = some (.tup [.ref l1, .ref l2]) → ∀ q : Sl K ((σ.set i (some (.ref l1))).set j (some (.ref l2))) H1 ((ρ.set i (.ref l1)).set j (.ref l2)), True → Q (.ref r) H1) → te σ H Q) : True := True.intro
theorem st_unLL {r l1 l2 : Addr} (S : Sl K σ H ρ) (hr : H r = some (.tup [.ref l1, .ref l2])) {Q : L2.St → Hp → Prop} (k : ∀ σ', Sl K σ' H ((ρ.set i (.ref l1)).set j (.ref l2)) → Q σ' H) : gTup K 2 (gCons (gName i) (gCons (gName j) gNil)) (.ref r) σ H Q :=
  ⟨r, _, rfl, SqT.of hr, rfl, _, _, rfl, _, _, rfl, rfl, k _ ((S.setR i l1).setR j l2)⟩
theorem st_unLD {r l1 : Addr} {v : V} (S : Sl K σ H ρ) (hr : H r = some (.tup [.ref l1, v])) (hv : Dt H v d) {Q : L2.St → Hp → Prop} (k : ∀ σ', Sl K σ' H ((ρ.set i (.ref l1)).set j (.dat d)) → Q σ' H) : gTup K 2 (gCons (gName i) (gCons (gName j) gNil)) (.ref r) σ H Q :=
  ⟨r, _, rfl, SqT.of hr, rfl, _, _, rfl, _, _, rfl, rfl, k _ ((S.setR i l1).setD j hv)⟩
end
theorem pe_never {X : Cx} {e : Expr} : PE X e (fun _ _ _ => False) := ⟨fun _ _ _ _ _ _ h => h.elim⟩
/-- counts that have grown by at most m -/
def Grew (c : Addr) (C : Cts) (m : Nat) (H : Hp) (Q : VK) : Prop := ∀ H' C', Sb c H H' → H' c = some (.dT (tbH (cT C'))) → (C'.map (·.1)).Nodup → C'.length ≤ C.length + m → Q .non H'
/-- the table has these cells -/
def Has2 (C : Tb) (p q : Nat) (f : Nat → Nat → Int) : Prop := ∀ i j, i < p → j < q → getT C [(i : Int), (j : Int)] = some (f i j)
def Has3 (C : Tb) (p q r : Nat) (f : Nat → Nat → Nat → Int) : Prop := ∀ i j k, i < p → j < q → k < r → getT C [(i : Int), (j : Int), (k : Int)] = some (f i j k)
end SB
namespace SB
open PySem PySem.Spec PyProof.Rows L2 RZ
/-- 1 at the beats -/
def vbeats (n : Nat) (bs : List Int) : List Int := (List.range n).map fun (b : Nat) => if bs.any (· == ((b : Nat) : Int)) then (1 : Int) else 0
def polyBeats (n p f : Nat) : List Int := (List.range p).map fun (t : Nat) => ((f + t * (n / p) : Nat) : Int)
def sp_voice_by (K : PySem.W.Frag) : Sp := fun vs H Q _ => ∃ (n : Nat) (a : Addr) (ns : List Int), vs = [.int n, .ref a] ∧ RdL K H a (ns.map .int) ∧ n < 111 ∧ ∀ v H', Same H H' → Dt H' v (tI (vbeats n ns)) → Q v H'
theorem ev_voiceBy {K : PySem.W.Frag} {σ : L2.St} {H : Hp} {t1 t2 : TE} {E : XK} {n : Nat} {ds : List PyData} {ns : List Int} (h1 : EvD t1 σ H (.int n)) (h2 : EvL t2 σ H ds) (e : ds = ns.map .int) (hn : n < 111) : EvD (tCall (sp_voice_by K) [] E (tCons t1 (tCons t2 tNil))) σ H (tI (vbeats n ns)) := fun H1 a Q q =>
  h1 H1 a _ fun v H2 a2 r2 => h2 H2 (a.trans a2) _ fun p vs H3 _ a3 h3 r3 => ⟨n, p, ns, by rw [r2.int']; rfl, by rw [← e]; exact ⟨vs, SqL.of h3, r3⟩, hn, fun w H4 a4 r4 => q w H4 ((a2.trans a3).trans a4) r4⟩
end SB
namespace SB
/-! ### the law's own mirrors -/
def primeTab : List Nat := [2, 3, 5, 7, 11, 13, 17, 19, 23, 29, 31, 37, 41, 43, 47, 53, 59, 61, 67, 71, 73, 79, 83, 89, 97, 101, 103]
theorem primes_tab : ∀ n ∈ (List.range 111).drop 1, ((primeTab ++ [107, 109]).filter fun p => n % p == 0) = primesL n := by decide +kernel
/-- the quotient's coefficients -/
def lquot (wide narrow : List Int) : List Int := (divL narrow (narrow.length - 1) (wide.length + 1 - narrow.length) (List.replicate (wide.length + 1 - narrow.length) 0) wide).1
def spreadL (l : List Int) (m : Nat) : List Int := (List.range ((l.length - 1) * m + 1)).map fun i => if i % m = 0 then l.getD (i / m) 0 else 0
/-- as far as the k-th -/
def spreadN (l : List Int) (m k : Nat) : List Int := (List.range ((l.length - 1) * m + 1)).map fun i => if i % m = 0 ∧ i / m < k then l.getD (i / m) 0 else 0
theorem spreadN_zero (l : List Int) (m : Nat) : spreadN l m 0 = List.replicate ((l.length - 1) * m + 1) 0 := by
  unfold spreadN
  rw [List.eq_replicate_iff]
  refine ⟨by simp, fun x hx => ?_⟩
  obtain ⟨i, _, rfl⟩ := List.mem_map.mp hx
  rw [if_neg (fun z => absurd z.2 (Nat.not_lt_zero _))]
theorem spreadN_len (l : List Int) (m k : Nat) : (spreadN l m k).length = (l.length - 1) * m + 1 := by simp [spreadN]
theorem spreadN_succ {l : List Int} {m k : Nat} (hm : 1 ≤ m) (hk : k < l.length) : (spreadN l m k).set (k * m) (l.getD k 0) = spreadN l m (k + 1) := by
  have hkm : k * m < (l.length - 1) * m + 1 := by
    have : k * m ≤ (l.length - 1) * m := Nat.mul_le_mul_right m (by omega)
    omega
  apply List.ext_getElem
  · simp [spreadN]
  · intro i h1 h2
    rw [List.getElem_set]
    unfold spreadN at h1 h2 ⊢
    simp only [List.getElem_map, List.getElem_range]
    by_cases e : k * m = i
    · subst e
      rw [if_pos rfl, if_pos ⟨Nat.mul_mod_left k m, by rw [Nat.mul_div_cancel _ hm]; omega⟩, Nat.mul_div_cancel _ hm]
    · rw [if_neg e]
      by_cases h : i % m = 0
      · have hi : i / m ≠ k := fun z => e (by rw [← z]; exact Nat.div_mul_cancel (Nat.dvd_of_mod_eq_zero h))
        by_cases q : i / m < k
        · rw [if_pos ⟨h, q⟩, if_pos ⟨h, by omega⟩]
        · rw [if_neg (fun z => q z.2), if_neg (fun z => by omega)]
      · rw [if_neg (fun z => h z.1), if_neg (fun z => h z.1)]
theorem spreadN_all {l : List Int} {m : Nat} (hm : 1 ≤ m) (hl : 1 ≤ l.length) : spreadN l m l.length = spreadL l m := by
  unfold spreadN spreadL
  apply List.map_congr_left
  intro i hi
  have hi := List.mem_range.mp hi
  by_cases h : i % m = 0
  · have : i / m < l.length := by
      have h1 : i / m * m ≤ (l.length - 1) * m := by rw [Nat.div_mul_cancel (Nat.dvd_of_mod_eq_zero h)]; omega
      have := Nat.le_of_mul_le_mul_right h1 hm
      omega
    rw [if_pos ⟨h, this⟩, if_pos h]
  · rw [if_neg (fun z => h z.1), if_neg h]
/-- the law's polynomial of the size -/
def topF : List Nat → List Int → Nat → List Int × Nat
  | [], f, l => (f, l)
  | p :: ps, f, l => topF ps (lquot (spreadL f p) f) (l / p)
def topL (n : Nat) : List Int := let r := topF (primesL n) [-1, 1] n; spreadL r.1 r.2
theorem top_cyc : ∀ n ∈ sizes, topL n = cyc n := by decide +kernel
/-- what stands in the course of it -/
def topOk : List Nat → List Int → Nat → Bool
  | [], f, l => decide (1 ≤ f.length) && decide (f.length ≤ 200) && decide (1 ≤ l) && decide (l ≤ 110) && decide ((f.length - 1) * l ≤ 500)
  | p :: ps, f, l => decide (1 ≤ f.length) && decide (f.length ≤ 200) && decide ((f.length - 1) * p ≤ 500) && f.all (fun x => decide (-3 ≤ x) && decide (x ≤ 3)) && decide (1 ≤ p) && decide (p ≤ 110) && topOk ps (lquot (spreadL f p) f) (l / p)
theorem top_ok : ∀ n ∈ sizes, topOk (primesL n) [-1, 1] n = true := by decide +kernel
/-- the law's rest -/
def lrest (v : List Int) : List Int := ((divL (cyc v.length) ((cyc v.length).length - 1) (v.length + 1 - (cyc v.length).length) (v.map fun _ => 0) v).2).take ((cyc v.length).length - 1)
def lsilent (v : List Int) : Bool := (lrest v).all fun x => decide (x = 0)
def polysL (n : Nat) : List (Nat × Nat) := (primesL n).flatMap fun p => (List.range (n / p)).map fun f => (p, f)
end SB
/-! The feed. -/
namespace SB
open PySem PySem.Spec PyProof.Rows L2 RZ
open StX (tStar pa_star)
def feedT (l : Addr) (i j c : Int) : List (Key × V) := [(Sum.inr "cells", .ref l), (Sum.inr "at", .int i), (Sum.inr "left", .int j), (Sum.inr "count", .int c)]
theorem feed_cells (l : Addr) (i j c : Int) : valV (feedT l i j c) (Sum.inr "cells") = some (.ref l) := by rfl
theorem feed_at (l : Addr) (i j c : Int) : valV (feedT l i j c) (Sum.inr "at") = some (.int i) := by rfl
theorem feed_left (l : Addr) (i j c : Int) : valV (feedT l i j c) (Sum.inr "left") = some (.int j) := by rfl
theorem feed_count (l : Addr) (i j c : Int) : valV (feedT l i j c) (Sum.inr "count") = some (.int c) := by rfl
theorem put_at (l : Addr) (i j c x : Int) : putK (feedT l i j c) (Sum.inr "at") (.int x) = feedT l x j c := by rfl
theorem put_left (l : Addr) (i j c x : Int) : putK (feedT l i j c) (Sum.inr "left") (.int x) = feedT l i x c := by rfl
theorem put_count (l : Addr) (i j c x : Int) : putK (feedT l i j c) (Sum.inr "count") (.int x) = feedT l i j x := by rfl
theorem feed_new (l : Addr) (i j c : Int) : mergeK [] (feedT l i j c) = feedT l i j c := by rfl
/-- a feed at a -/
def FeedAt (H : Hp) (a l : Addr) (ns : List Int) (i j c : Int) : Prop := H a = some (.dK (feedT l i j c)) ∧ H l = some (.lst (ns.map V.int)) ∧ l ≠ a
def FeedOk (H : Hp) (a : Addr) : Prop := ∃ l ns i j c, FeedAt H a l ns i j c
theorem FeedAt.same {H H' : Hp} {a l : Addr} {ns : List Int} {i j c : Int} (e : Same H H') (h : FeedAt H a l ns i j c) : FeedAt H' a l ns i j c := ⟨e _ _ h.1, e _ _ h.2.1, h.2.2⟩
theorem FeedOk.same {H H' : Hp} {a : Addr} (e : Same H H') (h : FeedOk H a) : FeedOk H' a := by
  obtain ⟨l, ns, i, j, c, h⟩ := h
  exact ⟨l, ns, i, j, c, h.same e⟩
theorem FeedOk.kp {K : PySem.W.Frag} {H H' : Hp} {a : Addr} (h : FeedOk H a) (s : Sb a H H') : Kp K H H' := by
  obtain ⟨l, ns, i, j, c, h⟩ := h
  exact kp_of s h.1 (fun _ z => nomatch z) (fun _ z => nomatch z) (fun _ _ z => nomatch z)
theorem FeedOk.tp {H H' : Hp} {a : Addr} (h : FeedOk H a) (s : Sb a H H') : Tp H H' := by
  obtain ⟨l, ns, i, j, c, h⟩ := h
  exact s.tpo h.1 (fun _ z => nomatch z) (fun _ _ z => nomatch z)
section
variable {K : PySem.W.Frag} {σ : L2.St} {H H' : Hp} {ρ : List Sd} {te tv : TE} {D : Ends} {a l : Addr} {ns : List Int} {i j c x : Int} {n : Nat}
theorem ev_at (S : Sl K σ H ρ) (h0 : ρ[n]? = some (.ref a)) (h : FeedAt H a l ns i j c) : EvD (tDGet (tVar n) (tC (.str "at"))) σ H (.int i) := ev_dgetK (ev_ref S h0) (.inl h.1) ev_str kk_str (feed_at l i j c) (.int i)
theorem ev_left (S : Sl K σ H ρ) (h0 : ρ[n]? = some (.ref a)) (h : FeedAt H a l ns i j c) : EvD (tDGet (tVar n) (tC (.str "left"))) σ H (.int j) := ev_dgetK (ev_ref S h0) (.inl h.1) ev_str kk_str (feed_left l i j c) (.int j)
theorem ev_count (S : Sl K σ H ρ) (h0 : ρ[n]? = some (.ref a)) (h : FeedAt H a l ns i j c) : EvD (tDGet (tVar n) (tC (.str "count"))) σ H (.int c) := ev_dgetK (ev_ref S h0) (.inl h.1) ev_str kk_str (feed_count l i j c) (.int c)
theorem er_cells (S : Sl K σ H ρ) (h0 : ρ[n]? = some (.ref a)) (h : FeedAt H a l ns i j c) : EvR K (tDGet (tVar n) (tC (.str "cells"))) σ H (ns.map .int) := EvX.r (ex_dgetK (ev_ref S h0) (.inl h.1) ev_str kk_str (feed_cells l i j c)) (RdL.ofI (SqL.of h.2.1))
theorem feed_put {kvs : List (Key × V)} (h : FeedAt H a l ns i j c) (e : Same H H') {i' j' c' : Int} (hk : kvs = feedT l i' j' c') : FeedAt (upd H' a (.dK kvs)) a l ns i' j' c' ∧ Sb a H (upd H' a (.dK kvs)) ∧ Kp K H' (upd H' a (.dK kvs)) := by
  subst hk
  refine ⟨⟨upd_same, by rw [upd_ne h.2.2]; exact e _ _ h.2.1, h.2.2⟩, (Same.sb e).trans Sb.put, kp_of Sb.put (e _ _ h.1) (fun _ z => nomatch z) (fun _ z => nomatch z) (fun _ _ z => nomatch z)⟩
theorem st_putAt (S : Sl K σ H ρ) (h0 : ρ[n]? = some (.ref a)) (h : FeedAt H a l ns i j c) (hv : EvD tv σ H (.int x)) (k : ∀ H1, Sb a H H1 → FeedAt H1 a l ns x j c → Sl K σ H1 ρ → D.nx σ H1) : sDPut (tVar n) (tC (.str "at")) tv D σ H :=
  st_dputK hv (ev_ref S h0) ev_str kk_str h.1 (show 4 < 100000 by decide) fun v H1 e r => by
    rw [r.int']
    obtain ⟨f, s, kp⟩ := feed_put (K := K) h e (put_at l i j c x)
    exact k _ s f ((S.same e).kp kp)
theorem st_putLeft (S : Sl K σ H ρ) (h0 : ρ[n]? = some (.ref a)) (h : FeedAt H a l ns i j c) (hv : EvD tv σ H (.int x)) (k : ∀ H1, Sb a H H1 → FeedAt H1 a l ns i x c → Sl K σ H1 ρ → D.nx σ H1) : sDPut (tVar n) (tC (.str "left")) tv D σ H :=
  st_dputK hv (ev_ref S h0) ev_str kk_str h.1 (show 4 < 100000 by decide) fun v H1 e r => by
    rw [r.int']
    obtain ⟨f, s, kp⟩ := feed_put (K := K) h e (put_left l i j c x)
    exact k _ s f ((S.same e).kp kp)
theorem st_putCount (S : Sl K σ H ρ) (h0 : ρ[n]? = some (.ref a)) (h : FeedAt H a l ns i j c) (hv : EvD tv σ H (.int x)) (k : ∀ H1, Sb a H H1 → FeedAt H1 a l ns i j x → Sl K σ H1 ρ → D.nx σ H1) : sDPut (tVar n) (tC (.str "count")) tv D σ H :=
  st_dputK hv (ev_ref S h0) ev_str kk_str h.1 (show 4 < 100000 by decide) fun v H1 e r => by
    rw [r.int']
    obtain ⟨f, s, kp⟩ := feed_put (K := K) h e (put_count l i j c x)
    exact k _ s f ((S.same e).kp kp)
end
end SB
namespace SB
open PySem PySem.Spec PyProof.Rows L2 RZ
open StX (tStar pa_star)
/-! ### shapes -/
theorem lay_ints : ∀ ns : List Int, PyData.canLayAll0 (ns.map .int) = true
  | [] => by rw [List.map_nil, PyData.canLayAll0]
  | n :: ns => by rw [List.map_cons, PyData.canLayAll0, lay_ints ns, PyData.canLay0]; rfl
theorem dep_ints : ∀ ns : List Int, PyData.depthAll (ns.map .int) = 0
  | [] => by rw [List.map_nil, PyData.depthAll]
  | n :: ns => by rw [List.map_cons, PyData.depthAll, dep_ints ns, PyData.depth]; rfl
theorem shp_ints (ns : List Int) : SeqAt.shaped (.list (ns.map .int)) = true := by
  unfold SeqAt.shaped
  rw [PyData.canLay0, lay_ints, PyData.depth, dep_ints]
  rfl
theorem shp_tI (ns : List Int) : SeqAt.shaped (tI ns) = true := by
  unfold SeqAt.shaped
  rw [PyData.canLay0, lay_ints, PyData.depth, dep_ints]
  rfl
theorem shp_nil : SeqAt.shaped (.list []) = true := shp_ints []
theorem lay_pairs {α : Type} (f : α → PyData) (hf : ∀ x, PyData.canLay0 (f x) = true) : ∀ l : List α, PyData.canLayAll0 (l.map f) = true
  | [] => by rw [List.map_nil, PyData.canLayAll0]
  | x :: l => by rw [List.map_cons, PyData.canLayAll0, lay_pairs f hf l, hf]; rfl
theorem dep_pairs {α : Type} (f : α → PyData) (hf : ∀ x, PyData.depth (f x) ≤ 8) : ∀ l : List α, PyData.depthAll (l.map f) ≤ 8
  | [] => by rw [List.map_nil, PyData.depthAll]; exact Nat.zero_le _
  | x :: l => by
    rw [List.map_cons, PyData.depthAll]
    have := dep_pairs f hf l
    have := hf x
    omega
theorem shp_pairs (l : List (Int × Int)) : SeqAt.shaped (.list (l.map kD)) = true := by
  unfold SeqAt.shaped
  rw [PyData.canLay0, lay_pairs kD (fun x => by rw [PyData.canLay0, lay_ints]), PyData.depth]
  have := dep_pairs kD (fun x => by rw [PyData.depth, dep_ints]; decide) l
  rw [decide_eq_true (by omega)]
  rfl
theorem eqv_nil {ds : List PyData} : PyData.eqv (.list ds) (.list []) = decide (ds = []) := by
  cases ds with
  | nil => rw [PyData.eqv, PyData.eqvAll]; rfl
  | cons d ds => rw [PyData.eqv, PyData.eqvAll]; simp
section
variable {K : PySem.W.Frag} {σ : L2.St} {H H' : Hp} {ta tb : TE} {ds : List PyData}
theorem ev_eqNil (ha : EvR K ta σ H ds) (h : SeqAt.shaped (.list ds) = true) : EvD (tOp (rEqD K) ta (tLst tNil)) σ H (.bool (decide (ds = []))) := (ev_eqL ha (EvL.r (el_lst ea_nil (by simp))) h shp_nil).to (by rw [eqv_nil])
theorem ev_neNil (ha : EvR K ta σ H ds) (h : SeqAt.shaped (.list ds) = true) : EvD (tOp (rNeD K) ta (tLst tNil)) σ H (.bool (!decide (ds = []))) := (ev_neL ha (EvL.r (el_lst ea_nil (by simp))) h shp_nil).to (by rw [eqv_nil])
end
end SB
namespace SB
open PySem PySem.Spec PyProof.Rows L2 RZ
section
variable {K : PySem.W.Frag} {σ : L2.St} {H H' : Hp} {ta tb : TE} {D : Ends} {r : R2} {x : V}
theorem st_retOpX (h : EvX ta σ H x) (k : ∀ H1, Same H H1 → tb σ H1 (fun y H2 => r x y H2 D.rt)) : tRet (tOp r ta tb) D σ H := h H (Same.refl H) _ k
end
end SB
namespace SB
open PySem PySem.Spec PyProof.Rows L2 RZ
section
variable {K : PySem.W.Frag} {σ : L2.St} {H H' : Hp} {t1 : TE} {tr : TA} {D : Ends} {R : List Addr → List PyData → Hp → VK → Prop} {E : XK} {as : List Addr} {ds ds1 : List PyData} {ns : List Int}
theorem el_callM (h : EvAX tr σ H as ds) (hR : ∀ H1, Same H H1 → ∀ Q : VK, (∀ p H2, H1 p = none → Same H1 H2 → H2 p = some (.lst (ns.map V.int)) → Q (.ref p) H2) → R as ds H1 Q) : EvL (tCall (spM R) [] E tr) σ H (ns.map .int) := fun H1 e Q q =>
  h H1 e _ fun ws H2 e2 r => ⟨as, ds, ws, by rw [List.append_nil], r, hR H2 (e.trans e2) Q fun p H3 hp e3 h3 => q p _ H3 (fresh_back e2 hp) (e2.trans e3) h3 (DtA.ofInts ns)⟩
theorem el_callL (h1 : EvR K t1 σ H ds1) (h : EvAX tr σ H as ds) (hR : ∀ p H1, Same H H1 → RdL K H1 p ds1 → ∀ Q : VK, (∀ p H2, H1 p = none → Same H1 H2 → H2 p = some (.lst (ns.map V.int)) → Q (.ref p) H2) → R (p :: as) ds H1 Q) : EvL (tCall (spM R) [] E (tCons t1 tr)) σ H (ns.map .int) := fun H1 e Q q =>
  h1 H1 e _ fun p H2 e2 r2 => h H2 (e.trans e2) _ fun ws H3 e3 r => ⟨p :: as, ds, ws, by rw [List.append_nil]; rfl, r, hR p H3 ((e.trans e2).trans e3) (r2.same e3) Q fun p2 H4 hp e4 h4 => q p2 _ H4 (fresh_back (e2.trans e3) hp) ((e2.trans e3).trans e4) h4 (DtA.ofInts ns)⟩
end
end SB
namespace SB
open PySem PySem.Spec PyProof.Rows L2 RZ
section
variable {K : PySem.W.Frag} {σ : L2.St} {H H' : Hp} {tr : TA}
/-- downward: from n - 1 to m - 1 -/
theorem wk_downTo {n m : Nat} (h : EvA tr σ H [.int ((n : Int) - 1), .int ((m : Int) - 1 - 1), .int (-1)]) (h1 : n ≤ 1000) (h2 : m ≤ 1000) (h3 : 1 ≤ m) : Wk Tp (iRng3 tr) σ H ((List.range (n + 1 - m)).map fun (i : Nat) => .int ((n - 1 - i : Nat) : Int)) := fun H1 a R k => h H1 a _ fun vs H2 a2 r => by
  cases r with
  | cons r1 r =>
    cases r with
    | cons r2 r =>
      cases r with
      | cons r3 r =>
        cases r
        rw [r1.int', r2.int', r3.int']
        have hR := RgC.neg (i := (n : Int) - 1) (j := (m : Int) - 1 - 1) (by omega) (by omega) (by omega) (by omega)
        have en : ((n : Int) - 1 - ((m : Int) - 1 - 1)).toNat = n + 1 - m := by omega
        rw [en] at hR
        refine ⟨(n : Int) - 1, (m : Int) - 1 - 1, -1, _, rfl, hR, k _ H2 a2 fun H' _ => ⟨fun i d hd => ?_, by show _ ≤ _; simp⟩⟩
        rw [List.getElem?_map] at hd
        by_cases hi : i < n + 1 - m
        · rw [List.getElem?_range hi] at hd
          cases hd
          refine ⟨hi, fun x H'' hx => ?_⟩
          obtain ⟨e1, e2⟩ := hx
          subst e1 e2
          refine ⟨Same.refl _, ?_⟩
          have e3 : (n : Int) - 1 + (i : Int) * -1 = ((n - 1 - i : Nat) : Int) := by omega
          rw [e3]
          exact .int _
        · rw [List.getElem?_eq_none (by simpa using hi)] at hd
          cases hd
end
end SB
namespace SB
open PySem PySem.Spec PyProof.Rows L2 RZ
theorem tp_cons {k : V} {tv : TE} {r : List (TE × TE)} {σ : L2.St} {H : Hp} {Q : List (V × V) → Hp → Prop} (h : tv σ H fun y H1 => tPairs r σ H1 fun ps H2 => Q ((k, y) :: ps) H2) : tPairs ((tC k, tv) :: r) σ H Q := by
  unfold tPairs
  exact h
theorem tp_nil {σ : L2.St} {H : Hp} {Q : List (V × V) → Hp → Prop} (h : Q [] H) : tPairs [] σ H Q := by
  unfold tPairs
  exact h
end SB
namespace SB
open PySem PySem.Spec PyProof.Rows L2 RZ
theorem tp_cons2 {k v : V} {r : List (TE × TE)} {σ : L2.St} {H : Hp} {Q : List (V × V) → Hp → Prop} (h : tPairs r σ H fun ps H2 => Q ((k, v) :: ps) H2) : tPairs ((tC k, tC v) :: r) σ H Q := tp_cons h
end SB
namespace SB
open PySem PySem.Spec PyProof.Rows L2 RZ
/-- a def whose last parameter is left out -/
structure FnW (P : Program) (w : World) (K : PySem.W.Frag) (mg : Str → Option Value) (base : Heap) (x : Str) (k : Nat) (ps : List Str) (sp : Sp) : Prop where
  ex : ∃ f fd d ds, FnOk P w K mg base CX0 k f fd ps (fun vs H Q E => sp vs.dropLast H Q E) ∧ mg x = some (.ref f) ∧ PySem.W.keepIn K (.ref f) = true ∧ Binds K fd ps ds ∧ Vals [d] ds
section
variable {X : Cx} {k : Nat} {ps : List Str} {sp : Sp} {x : Str} {p pos : Pos} {e : Expr} {es : List Expr} {t : TA}
theorem pe_fnW (F : FnW X.prog X.w X.K X.mg X.base x k ps sp) (hr : Room k X.A) (hg : Gl X x) (ha : PA X (e :: es) t) (hdb : (x == ("__debug__" : Str)) = false := by decide) (he : starEach (e :: es) X.env = (false, eval e X.env) :: starEach es X.env := by rfl)
    (hpl : (backTo pos (starEach es X.env)).any (·.1) = false := by rfl) : PE X (.Call (.Name x p) (e :: es) [] pos) (tCall sp [] E0 t) := by
  obtain ⟨f, fd, d, ds, F1, hm, hk, hb, hd⟩ := F.ex
  have h := pe_call (p := p) F1 hr hg hm hk hb hd pass0 ha hdb he hpl
  have e : tCall (fun vs H Q E => sp vs.dropLast H Q E) [d] E0 t = tCall sp [] E0 t := by
    unfold tCall
    funext σ H Q
    congr 1
    funext vs H1
    show sp (vs ++ [d]).dropLast H1 Q E0 = sp (vs ++ []) H1 Q E0
    rw [List.dropLast_concat, List.append_nil]
  rw [← e]
  exact h
end
end SB
namespace SB
open PySem PySem.Spec PyProof.Rows L2 RZ
open LamX
open StX (tStar pa_star)
abbrev sp_is_integer : Sp := spD fun ds d => ∃ i, ds = [.int i] ∧ d = .bool true
abbrev sp_is_number : Sp := spD fun ds d => ∃ i, ds = [.int i] ∧ d = .bool (decide (0 ≤ i))
abbrev sp_is_size : Sp := spD fun ds d => ∃ i, ds = [.int i] ∧ d = .bool (decide (1 ≤ i))
abbrev sp_is_index : Sp := spD fun ds d => ∃ i m, ds = [.int i, .int m] ∧ d = .bool (decide (0 ≤ i) && decide (i < m))
abbrev sp_is_tuple_of : Sp := spD fun ds d => ∃ es m, ds = [.tuple es, .int m] ∧ d = .bool (decide ((es.length : Int) = m))
abbrev sp_are_ascending (K : PySem.W.Frag) : Sp := fun vs H Q _ => ∃ (a : Addr) (ks : List (Int × Int)), vs = [.ref a] ∧ RdL K H a (ks.map kD) ∧ ks.length ≤ 1000 ∧ ∀ H', Same H H' → Q (.bl (ascB ks)) H'
abbrev sp_least_divisor : Sp := spD fun ds d => ∃ n : Nat, (2 ≤ n ∧ n < 111) ∧ ds = [.int n] ∧ d = .int (lp n)
abbrev sp_is_prime : Sp := spD fun ds d => ∃ n : Nat, (2 ≤ n ∧ n < 111) ∧ ds = [.int n] ∧ d = .bool (lp n == n)
abbrev sp_common_in : Sp := spD fun ds d => ∃ a b : Nat, (1 ≤ a ∧ a < 1000 ∧ 1 ≤ b ∧ b < 1000) ∧ ds = [.int a, .int b] ∧ d = .int (Nat.gcd a b)
abbrev sp_parts_in : Sp := spD fun ds d => ∃ n : Nat, (1 ≤ n ∧ n < 111) ∧ ds = [.int n] ∧ d = tI (zs (partsL n))
abbrev sp_primes_in : Sp := spD fun ds d => ∃ n : Nat, (1 ≤ n ∧ n < 111) ∧ ds = [.int n] ∧ d = tI (zs (primesL n))
abbrev sp_divisors_in : Sp := spD fun ds d => ∃ n : Nat, (1 ≤ n ∧ n < 111) ∧ ds = [.int n] ∧ d = tI (zs (divsL n))
abbrev sp_totient_in : Sp := spD fun ds d => ∃ n : Nat, (1 ≤ n ∧ n < 111) ∧ ds = [.int n] ∧ d = .int (phi n)
abbrev sp_polygon_beats : Sp := spL fun ds es => ∃ n p f : Nat, (1 ≤ p ∧ p < 111 ∧ n < 111) ∧ ds = [.int n, .int p, .int f] ∧ es = (List.range p).map (fun (t : Nat) => .int ((f + t * (n / p) : Nat) : Int))
abbrev sp_primes_at : Sp := spD fun ds d => ∃ n : Nat, (1 ≤ n ∧ n < 111) ∧ ds = [.int n] ∧ d = tI (zs (primesL n))
abbrev sp_is_polygon_of : Sp := spD fun ds d => ∃ (n : Nat) (p f : Int), (1 ≤ n ∧ n < 111) ∧ ds = [.int n, .int p, .int f] ∧ d = .bool (polyB n p f)
abbrev sp_is_heap_row : Sp := spD fun ds d => ∃ (n : Nat) (r : Row), (1 ≤ n ∧ n < 111) ∧ ds = [.int n, rD r] ∧ d = .bool (rowB n r)
abbrev sp_is_heap_of : Sp := spD fun ds d => ∃ (n : Nat) (rows : List Row), (1 ≤ n ∧ n < 111 ∧ rows.length ≤ 1000) ∧ ds = [.int n, .tuple (rows.map rD)] ∧ d = .bool (heapB n rows)
abbrev sp_voice_by_heap : Sp := spD fun ds d => ∃ (n : Nat) (rows : List Row), (1 ≤ n ∧ n < 111 ∧ rows.length ≤ 1000 ∧ rows.all (rowB n) = true) ∧ ds = [.int n, .tuple (rows.map rD)] ∧ d = tI (vbh n rows)
abbrev sp_heap_by : Sp := spM fun as ds H Q => ∃ (c : Addr) (C : Cts), C.length ≤ 90000 ∧ as = [c] ∧ ds = [] ∧ RdT H c (cT C) ∧ ∀ v H', Same H H' → Dt H' v (.tuple ((heapL C).map rD)) → Q v H'
abbrev sp_put_polygon : Sp := spM fun as ds H Q => ∃ (c : Addr) (C : Cts) (n p b : Nat) (m : Int), (1 ≤ p ∧ p < 111 ∧ 1 ≤ n / p ∧ n < 111 ∧ C.length < 90000 ∧ (C.map (·.1)).Nodup) ∧ as = [c] ∧ ds = [.int n, .int p, .int b, .int m] ∧ H c = some (.dT (tbH (cT C))) ∧ ∀ H', Sb c H H' → H' c = some (.dT (tbH (cT (putC C ((p : Int), ((b % (n / p) : Nat) : Int)) m)))) → Q .non H'
abbrev sp_step_in : Sp := spD fun ds d => ∃ n : Nat, (1 ≤ n ∧ n < 111) ∧ ds = [.int n] ∧ d = .int (stepL n)
abbrev sp_number_with : Sp := spD fun ds d => ∃ ps rs : List Nat, crtOk ps rs 0 1 = true ∧ ds = [tI (zs ps), tI (zs rs)] ∧ d = .int (crt ps rs 0 1)
abbrev sp_beat_with : Sp := spD fun ds d => ∃ (n c : Nat) (rs : List Nat), (1 ≤ n ∧ n < 111 ∧ crtOk (primesL n) rs 0 1 = true) ∧ ds = [.int n, .int c, tI (zs rs)] ∧ d = .int (beatL n c rs)
abbrev sp_all_rests : Sp := spL fun ds es => ∃ ps : List Nat, (ps.length ≤ 3 ∧ (∀ p ∈ ps, p < 111) ∧ (List.range 4).all (fun k => decide ((allR (ps.take k)).length ≤ 200)) = true) ∧ ds = [tI (zs ps)] ∧ es = (allR ps).map fun rs => tI (zs rs)
abbrev sp_table_at : Sp := spM fun as ds H Q => ∃ (v : List Int) (c : Nat), (v.length ∈ sizes ∧ c < stepL v.length) ∧ as = [] ∧ ds = [tI v, .int c] ∧ ∀ p H', H p = none → Same H H' → H' p = some (.dT (tbH (tabL v c))) → Q (.ref p) H'
abbrev sp_poly_of : Sp := spD fun ds d => ∃ ns : List Int, ns.length ≤ 1000 ∧ ds = [tI ns] ∧ d = tI (stripL ns)
abbrev sp_poly_parted : Sp := spD fun ds d => ∃ one dv : List Int, (one.length ≤ 1000 ∧ dv.length ≤ 1000 ∧ 1 ≤ dv.length ∧ (∀ x ∈ dv, -(2 ^ 64) < x ∧ x < 2 ^ 64)) ∧ ds = [tI one, tI dv] ∧ d = .tuple [tI (pparted one dv).1, tI (pparted one dv).2]
abbrev sp_around : Sp := spD fun ds d => ∃ n : Nat, (1 ≤ n ∧ n < 111) ∧ ds = [.int n] ∧ d = tI (aroundL n)
abbrev sp_cyclotomic_in : Sp := spD fun ds d => ∃ n : Nat, n ∈ subSizes ∧ ds = [.int n] ∧ d = tI (cyc n)
abbrev sp_padded : Sp := spD fun ds d => ∃ (ns : List Int) (n : Nat), (ns.length ≤ 1000 ∧ n < 1000) ∧ ds = [tI ns, .int n] ∧ d = tI (padTo ns n)
abbrev sp_split_at : Sp := spD fun ds d => ∃ (v : List Int) (k : Nat), (v.length ≤ 1000 ∧ k ∈ subSizes) ∧ ds = [tI v, .int k] ∧ d = .tuple [tI (splitL v k).1, tI (splitL v k).2]
abbrev sp_rest_in : Sp := spD fun ds d => ∃ (v : List Int) (k : Nat), (v.length ≤ 1000 ∧ k ∈ subSizes) ∧ ds = [tI v, .int k] ∧ d = tI (restL v k)
abbrev sp_is_silent_in : Sp := spD fun ds d => ∃ (v : List Int) (k : Nat), (v.length ≤ 1000 ∧ k ∈ subSizes) ∧ ds = [tI v, .int k] ∧ d = .bool (silentB v k)
abbrev sp_silences_in : Sp := spD fun ds d => ∃ v : List Int, v.length ∈ subSizes ∧ ds = [tI v] ∧ d = tI (zs (silencesL v))
abbrev sp_want_silent (C : Addr) : Sp := fun vs H Q E => ∃ (w0 : V) (v : List Int), vs = [w0] ∧ Dt H w0 (tI v) ∧ v.length ∈ subSizes ∧ (silentB v v.length = true → ∀ H', Same H H' → Q .non H') ∧ (silentB v v.length = false → ∀ d x H', Same H H' → H' d = some (.xd [("rest", x)]) → Dt H' x (tI (restL v v.length)) → E (.ref C) (some d) H')
abbrev sp_choices_from : Sp := spL fun ds es => ∃ many k : Nat, (k < many ∧ many ≤ 3) ∧ ds = [.int many, .int k] ∧ es = (chL many k).map fun c => .tuple (c.map .bool)
abbrev sp_rests_held : Sp := spD fun ds d => ∃ (rs : List Nat) (ch : List Bool), (rs.length = ch.length ∧ rs.length ≤ 3) ∧ ds = [tI (zs rs), .tuple (ch.map .bool)] ∧ d = tI (zs (heldL rs ch))
abbrev sp_put_signed : Sp := spM fun as ds H Q => ∃ (c : Addr) (C : Cts) (v : List Int) (k : Nat), (v.length ∈ sizes ∧ k < stepL v.length ∧ C.length + (putsC v.length v k).length < 90000 ∧ (C.map (·.1)).Nodup) ∧ as = [c] ∧ ds = [tI v, .int k] ∧ H c = some (.dT (tbH (cT C))) ∧ ∀ H', Sb c H H' → H' c = some (.dT (tbH (cT (putAll C (putsC v.length v k))))) → Q .non H'
abbrev sp_signed_by : Sp := spD fun ds d => ∃ v : List Int, v.length ∈ sizes ∧ ds = [tI v] ∧ d = .tuple ((signedL v.length v).map rD)
abbrev sp_signed_heap (C : Addr) : Sp := fun vs H Q E => ∃ (w0 : V) (v : List Int), vs = [w0] ∧ Dt H w0 (tI v) ∧ v.length ∈ sizes ∧ (silentB v v.length = true → ∀ x H', Same H H' → Dt H' x (.tuple ((signedL v.length v).map rD)) → Q x H') ∧ (silentB v v.length = false → ∀ d x H', Same H H' → H' d = some (.xd [("rest", x)]) → Dt H' x (tI (restL v v.length)) → E (.ref C) (some d) H')
abbrev sp_fold_to : Sp := spD fun ds d => ∃ (v : List Int) (k q : Nat), (1 ≤ k ∧ k ≤ 1000 ∧ v.length = q * k ∧ 1 ≤ q) ∧ ds = [tI v, .int k] ∧ d = tI (foldL v k)
abbrev sp_want : Sp := spD fun ds d => ∃ x, ds = [.bool true, .str x] ∧ d = .none
abbrev sp_want_size : Sp := spD fun ds d => ∃ i : Int, 1 ≤ i ∧ ds = [.int i] ∧ d = .none
abbrev sp_folded : Sp := spD fun ds d => ∃ (v : List Int) (k q : Nat), (1 ≤ k ∧ k ≤ 1000 ∧ v.length = q * k ∧ 1 ≤ q) ∧ ds = [tI v, .int k] ∧ d = tI (foldL v k)
abbrev sp_put_one : Sp := spM fun as ds H Q => ∃ (c : Addr) (C : Cts) (v : List Int) (k : Nat), (v.length ∈ sizes ∧ (primesL v.length).length = 1 ∧ k < v.length ∧ C.length < 90000 ∧ (C.map (·.1)).Nodup) ∧ as = [c] ∧ ds = [tI v, .int k] ∧ H c = some (.dT (tbH (cT C))) ∧ Grew c C 1 H Q
abbrev sp_parted : Sp := spM fun as ds H Q => ∃ (t : Addr) (C : Tb) (p q : Nat) (g : Nat → Nat → Int), (1 ≤ p ∧ p ≤ 110 ∧ 1 ≤ q ∧ q ≤ 110 ∧ Has2 C p q g) ∧ as = [t] ∧ ds = [.int p, .int q] ∧ RdT H t C ∧ ∀ (r l1 l2 : Addr) (fs ss : List Int) H', fs.length = p → ss.length = q → H l1 = none → H l2 = none → Same H H' → H' r = some (.tup [.ref l1, .ref l2]) → H' l1 = some (.lst (fs.map V.int)) → H' l2 = some (.lst (ss.map V.int)) → Q (.ref r) H'
abbrev sp_put_two : Sp := spM fun as ds H Q => ∃ (c : Addr) (C : Cts) (v : List Int) (k : Nat), (v.length ∈ sizes ∧ (primesL v.length).length = 2 ∧ k < stepL v.length ∧ C.length + 300 < 90000 ∧ (C.map (·.1)).Nodup) ∧ as = [c] ∧ ds = [tI v, .int k] ∧ H c = some (.dT (tbH (cT C))) ∧ Grew c C 300 H Q
abbrev sp_lows_of : Sp := spM fun as ds H Q => ∃ (t : Addr) (C : Tb) (p q r : Nat) (g : Nat → Nat → Nat → Int), (p ≤ 110 ∧ q ≤ 110 ∧ 1 ≤ r ∧ r ≤ 110 ∧ p * q ≤ 1000 ∧ Has3 C p q r g) ∧ as = [t] ∧ ds = [tI (zs [p, q, r])] ∧ RdT H t C ∧ ∀ l L H', Has2 L p q (fun i j => minL ((List.range r).map fun k => g i j k)) → H l = none → Same H H' → H' l = some (.dT (tbH L)) → Q (.ref l) H'
abbrev sp_bound_between : Sp := spM fun as ds H Q => ∃ (t l : Addr) (C L : Tb) (p q r a b : Nat) (g : Nat → Nat → Nat → Int) (lw : Nat → Nat → Int), (a < p ∧ b < p ∧ 1 ≤ q ∧ q ≤ 110 ∧ 1 ≤ r ∧ Has3 C p q r g ∧ Has2 L p q lw) ∧ as = [t, l] ∧ ds = [.int q, tI [(a : Int), (b : Int)]] ∧ RdT H t C ∧ RdT H l L ∧ ∀ v H' j, j < q → Same H H' → Dt H' v (tI [g a j 0 + lw b j - g b j 0, (j : Int)]) → Q v H'
abbrev sp_settled : Sp := spM fun as ds H Q => ∃ (t l : Addr) (C L : Tb) (p q r : Nat) (g : Nat → Nat → Nat → Int) (lw : Nat → Nat → Int), (1 ≤ p ∧ p ≤ 110 ∧ 1 ≤ q ∧ q ≤ 110 ∧ 1 ≤ r ∧ Has3 C p q r g ∧ Has2 L p q lw ∧ ∀ a b j, a < p → b < p → j < q → 0 ≤ g a j 0 + lw b j - g b j 0) ∧ as = [t, l] ∧ ds = [.int p, .int q] ∧ RdT H t C ∧ RdT H l L ∧ ∀ rr ff e H', Same H H' → H ff = none → H' rr = some (.tup [.ref ff, e]) → H' ff = some (.lst (List.replicate p (.int 0))) → Dt H' e (.tuple []) → Q (.ref rr) H'
abbrev sp_put_three : Sp := spM fun as ds H Q => ∃ (c : Addr) (C : Cts) (v : List Int) (k : Nat), (v.length ∈ sizes ∧ (primesL v.length).length = 3 ∧ k < stepL v.length ∧ C.length + 700 < 90000 ∧ (C.map (·.1)).Nodup ∧ ∃ M : Int, 0 ≤ M ∧ ∀ x ∈ v, 3 * M ≤ x ∧ x ≤ 5 * M) ∧ as = [c] ∧ ds = [tI v, .int k] ∧ H c = some (.dT (tbH (cT C))) ∧ Grew c C 700 H Q
abbrev sp_plain_by : Sp := spM fun as ds H Q => ∃ v : List Int, (v.length ∈ sizes ∧ ∃ M : Int, 0 ≤ M ∧ ∀ x ∈ v, 3 * M ≤ x ∧ x ≤ 5 * M) ∧ as = [] ∧ ds = [tI v] ∧ ∀ w rows H', Same H H' → Dt H' w (.tuple [.tuple rows, .none]) → Q w H'
abbrev sp_is_low : Sp := spD fun ds d => ∃ v : List Int, v.length ≤ 1000 ∧ ds = [tI v] ∧ d = .bool (v.any fun x => decide (x < 0))
abbrev sp_is_heap : Sp := spD fun ds d => ∃ v : List Int, (v.length ∈ sizes ∧ (v.any fun x => decide (x < 0)) = false ∧ silentB v v.length = true ∧ ∃ M : Int, 0 ≤ M ∧ ∀ x ∈ v, 3 * M ≤ x ∧ x ≤ 5 * M) ∧ ds = [tI v] ∧ d = .bool true
abbrev sp_polygon : Sp := spD fun ds d => ∃ n p f : Nat, (1 ≤ n ∧ n < 111 ∧ p ∈ primesL n ∧ f < n / p) ∧ ds = [.int n, .int p, .int f] ∧ d = tI (vbeats n (polyBeats n p f))
abbrev sp_heap_voice : Sp := spD fun ds d => ∃ (n : Nat) (rows : List Row), (1 ≤ n ∧ n < 111 ∧ rows.length ≤ 1000 ∧ heapB n rows = true) ∧ ds = [.int n, .tuple (rows.map rD)] ∧ d = tI (vbh n rows)
abbrev sp_want_divisor : Sp := spD fun ds d => ∃ (v : List Int) (k : Nat), (1 ≤ k ∧ v.length % k = 0) ∧ ds = [tI v, .int k] ∧ d = .none
abbrev sp_silences_of : Sp := spD fun ds d => ∃ v : List Int, v.length ∈ subSizes ∧ ds = [tI v] ∧ d = tI (zs (silencesL v))
abbrev sp_is_silent : Sp := spD fun ds d => ∃ (v : List Int) (k : Nat), (v.length ≤ 1000 ∧ k ∈ subSizes ∧ 1 ≤ k ∧ v.length % k = 0) ∧ ds = [tI v, .int k] ∧ d = .bool (silentB v k)
abbrev sp_rest_at : Sp := spD fun ds d => ∃ (v : List Int) (k : Nat), (v.length ≤ 1000 ∧ k ∈ subSizes ∧ 1 ≤ k ∧ v.length % k = 0) ∧ ds = [tI v, .int k] ∧ d = tI (restL v k)
abbrev sp__law_feed (K : PySem.W.Frag) : Sp := spM fun as ds H Q => ∃ (s : Addr) (ns : List Int), as = [s] ∧ ds = [] ∧ RdL K H s (ns.map .int) ∧ ∀ a H', H a = none → Same H H' → FeedOk H' a → Q (.ref a) H'
abbrev sp__law_draw : Sp := spM fun as ds H Q => ∃ (a : Addr) (m : Nat), (1 ≤ m ∧ m ≤ 1000) ∧ FeedOk H a ∧ as = [a] ∧ ds = [.int m] ∧ ∀ (r : Nat) H', r < m → Sb a H H' → FeedOk H' a → Q (.int r) H'
abbrev sp__law_pick (K : PySem.W.Frag) : Sp := spM fun as ds H Q => ∃ (a t : Addr) (es : List PyData), (es ≠ [] ∧ es.length ≤ 1000) ∧ FeedOk H a ∧ RdL K H t es ∧ as = [a, t] ∧ ds = [] ∧ ∀ (v : V) (d : PyData) H', d ∈ es → Sb a H H' → FeedOk H' a → Dt H' v d → Q v H'
abbrev sp__law_primes : Sp := spL fun ds es => ∃ n : Nat, (1 ≤ n ∧ n < 111) ∧ ds = [.int n] ∧ es = (zs (primesL n)).map .int
abbrev sp__law_divided (K : PySem.W.Frag) : Sp := spM fun as ds H Q => ∃ (s t : Addr) (one dv : List Int), (one.length ≤ 1000 ∧ 1 ≤ dv.length ∧ dv.length ≤ one.length ∧ (∀ x ∈ dv, -(2 ^ 64) < x ∧ x < 2 ^ 64)) ∧ RdL K H s (one.map .int) ∧ RdL K H t (dv.map .int) ∧ as = [s, t] ∧ ds = [] ∧ ∀ p H', H p = none → Same H H' → H' p = some (.lst ((lquot one dv).map V.int)) → Q (.ref p) H'
abbrev sp__law_spread (K : PySem.W.Frag) : Sp := spM fun as ds H Q => ∃ (s : Addr) (l : List Int) (m : Nat), (1 ≤ m ∧ m ≤ 110 ∧ 1 ≤ l.length ∧ (l.length - 1) * m ≤ 500) ∧ RdL K H s (l.map .int) ∧ as = [s] ∧ ds = [.int m] ∧ ∀ p H', H p = none → Same H H' → H' p = some (.lst ((spreadL l m).map V.int)) → Q (.ref p) H'
abbrev sp__law_top : Sp := spL fun ds es => ∃ n : Nat, n ∈ sizes ∧ ds = [.int n] ∧ es = (topL n).map .int
abbrev sp__law_rest : Sp := spD fun ds d => ∃ v : List Int, v.length ∈ sizes ∧ ds = [tI v] ∧ d = tI (lrest v)
abbrev sp__law_is_silent : Sp := spD fun ds d => ∃ v : List Int, v.length ∈ sizes ∧ ds = [tI v] ∧ d = .bool (lsilent v)
abbrev sp__law_polygons : Sp := spL fun ds es => ∃ n : Nat, (1 ≤ n ∧ n < 111) ∧ ds = [.int n] ∧ es = (polysL n).map fun x => kD ((x.1 : Int), (x.2 : Int))
abbrev sp__law_voice : Sp := spD fun ds d => ∃ (n : Nat) (rows : List Row), (1 ≤ n ∧ n < 111 ∧ rows.length ≤ 1000 ∧ ∀ r ∈ rows, polyB n r.1 r.2.1 = true) ∧ ds = [.int n, .tuple (rows.map rD)] ∧ d = tI (vbh n rows)
abbrev sp__law_is_number : Sp := spD fun ds d => ∃ i : Int, ds = [.int i] ∧ d = .bool (decide (0 ≤ i))
abbrev sp__law_is_pair : Sp := spD fun ds d => ∃ n p f : Nat, (1 ≤ n ∧ n < 111 ∧ p ∈ primesL n ∧ f < n / p) ∧ ds = [.int n, tI [(p : Int), (f : Int)]] ∧ d = .bool true
abbrev sp__law_row_fault : Sp := spD fun ds d => ∃ (n : Nat) (rows : List Row), (1 ≤ n ∧ n < 111 ∧ rows.length ≤ 1000 ∧ heapB n rows = true) ∧ ds = [.int n, .tuple (rows.map rD), .none] ∧ d = .none
abbrev sp__law_is_rows : Sp := spD fun ds d => ∃ (n : Nat) (rows : List Row), (1 ≤ n ∧ n < 111 ∧ rows.length ≤ 1000 ∧ heapB n rows = true) ∧ ds = [.int n, .tuple (rows.map rD)] ∧ d = .bool true
abbrev sp__law_drawn_rows (K : PySem.W.Frag) : Sp := fun vs H Q _ => ∃ (a t : Addr) (n : Nat) (ws : List Int), vs = [.ref a, .int n, .int 8, .ref t] ∧ (1 ≤ n ∧ n < 111 ∧ ws ≠ [] ∧ ws.length ≤ 1000) ∧ FeedOk H a ∧ RdL K H t (ws.map .int) ∧ ∀ (v : V) (rows : List Row) (H' : Hp), (∀ r ∈ rows, polyB n r.1 r.2.1 = true ∧ r.2.2 ∈ ws) → rows.length ≤ 8 → Sb a H H' → FeedOk H' a → Dt H' v (.tuple (rows.map rD)) → Q v H'
abbrev sp__law_drawn : Sp := spM fun as ds H Q => ∃ (a : Addr) (n : Nat), n ∈ sizes ∧ FeedOk H a ∧ as = [a] ∧ ds = [.int n] ∧ ∀ (v : V) (ns : List Int) (H' : Hp), ns.length = n → (∀ x ∈ ns, -1000 ≤ x ∧ x ≤ 1000) → Sb a H H' → FeedOk H' a → Dt H' v (tI ns) → Q v H'
abbrev sp__law_voice_right (K : PySem.W.Frag) (TT : List (Addr × Str)) : Sp := fun vs H Q _ => ∃ (w0 : V) (v : List Int), vs = [w0] ∧ Dt H w0 (tI v) ∧ (v.length ∈ sizes ∧ ∀ x ∈ v, -100000 ≤ x ∧ x ≤ 100000) ∧ Tabs TT H ∧ ∀ H', ExtN H H' → Tabs TT H' → Q (.bl true) H'
abbrev sp__law_with_silences (K : PySem.W.Frag) (TT : List (Addr × Str)) : Sp := fun vs H Q _ => ∃ (a : Addr) (w0 : V) (v : List Int), vs = [.ref a, w0] ∧ FeedOk H a ∧ Dt H w0 (tI v) ∧ (v.length ∈ sizes ∧ v.length ≤ 36 ∧ ∀ x ∈ v, -1000 ≤ x ∧ x ≤ 1000) ∧ Tabs TT H ∧ ∀ H', (∀ b o, b ≠ a → H b = some o → (∀ ps, o ≠ .tbl ps) → H' b = some o) → FeedOk H' a → Tabs TT H' → Q (.bl true) H'
abbrev sp_law (K : PySem.W.Frag) (TT : List (Addr × Str)) : Sp := fun vs H Q _ => ∃ (s : Addr) (ns : List Int), vs = [.ref s] ∧ RdL K H s (ns.map .int) ∧ Tabs TT H ∧ ∀ H', Q (.bl true) H'
end SB
/-! Loops that put polygons. -/
namespace SB
open PySem PySem.Spec PyProof.Rows L2 RZ
open StX (tStar pa_star)
theorem atI_zero {x : V} {l : List V} : atI (x :: l) 0 = some x := by
  unfold atI
  have h : ixN (x :: l).length (0 : Int) = some 0 := ixN_nat (j := 0) (by simp)
  rw [h]
  rfl
theorem keys_nodup (p q : Nat) : ((List.range p).flatMap fun (i : Nat) => (List.range q).map fun (j : Nat) => [(i : Int), (j : Int)]).Nodup := by
  have row : ∀ i : Nat, ((List.range q).map fun (j : Nat) => [(i : Int), (j : Int)]).Nodup := fun i => by
    refine List.Pairwise.map _ (fun a b hab e => hab ?_) List.nodup_range
    injection e with _ e
    injection e with e _
    exact Int.ofNat.inj e
  induction p with
  | zero => exact .nil
  | succ p ih =>
    rw [List.range_succ, List.flatMap_append, List.nodup_append]
    refine ⟨ih, by simpa using row p, fun a ha b hb e => ?_⟩
    obtain ⟨i, hi, ha⟩ := List.mem_flatMap.mp ha
    obtain ⟨j, _, rfl⟩ := List.mem_map.mp ha
    obtain ⟨i2, hi2, hb⟩ := List.mem_flatMap.mp hb
    obtain ⟨j2, _, rfl⟩ := List.mem_map.mp hb
    have : i2 = p := by simpa using hi2
    subst this
    injection e with e _
    have := Int.ofNat.inj e
    have := List.mem_range.mp hi
    omega
theorem has2_of (p q : Nat) (v : Nat → Nat → Int) : Has2 ((List.range p).flatMap fun (i : Nat) => (List.range q).map fun (j : Nat) => ([(i : Int), (j : Int)], v i j)) p q v := fun i j hi hj => by
  have e : ((List.range p).flatMap fun (i : Nat) => (List.range q).map fun (j : Nat) => ([(i : Int), (j : Int)], v i j)) = ((List.range p).flatMap fun i => (List.range q).map fun j => (i, j)).map fun x => ([(x.1 : Int), (x.2 : Int)], v x.1 x.2) := by
    rw [List.map_flatMap]
    congr 1
    funext i
    rw [List.map_map]
    rfl
  rw [e]
  refine getT_of (fun x : Nat × Nat => [(x.1 : Int), (x.2 : Int)]) (fun x => v x.1 x.2) (x := (i, j)) ?_ (List.mem_flatMap.mpr ⟨i, List.mem_range.mpr hi, List.mem_map.mpr ⟨j, List.mem_range.mpr hj, rfl⟩⟩)
  have h := keys_nodup p q
  rw [List.map_flatMap]
  have e2 : (fun i => ((List.range q).map fun j => (i, j)).map fun x : Nat × Nat => [(x.1 : Int), (x.2 : Int)]) = fun (i : Nat) => (List.range q).map fun (j : Nat) => [(i : Int), (j : Int)] := by
    funext i
    rw [List.map_map]
    rfl
  rw [e2]
  exact h
section
variable {K : PySem.W.Frag} {σ : L2.St} {H H' : Hp} {ρ : List Sd} {te : TE} {tr : TA} {D : Ends} {E : XK} {c : Addr} {C : Cts} {n p b : Nat} {m : Int} {R : List Addr → List PyData → Hp → VK → Prop} {ds : List PyData} {T : Tb} {Q : VK}
theorem call_MC (h : EvC te σ H T) (hr : ∀ H1, Same H H1 → EvA tr σ H1 ds) (hR : ∀ p H1, H p = none → Same H H1 → H1 p = some (.dT (tbH T)) → R [p] ds H1 Q) : tCall (spM R) [] E (tCons te tr) σ H Q := h H (Same.refl H) _ fun p H1 hp e1 h1 =>
  hr H1 e1 H1 (Same.refl H1) _ fun ws H2 e2 r => ⟨[p], ds, ws, by simp, r, hR p H2 hp (e1.trans e2) (e2 _ _ h1)⟩
theorem st_put1 (S : Sl K σ H ρ) (h0 : ρ[0]? = some (.ref c)) (h : EvA tr σ H [.int n, .int p, .int b, .int m]) (hn : 1 ≤ p ∧ p < 111 ∧ 1 ≤ n / p ∧ n < 111) (hc : H c = some (.dT (tbH (cT C)))) (hz : C.length < 90000) (hd : (C.map (·.1)).Nodup)
    (k : ∀ H1 C1, Sb c H H1 → H1 c = some (.dT (tbH (cT C1))) → (C1.map (·.1)).Nodup → C1.length ≤ C.length + 1 → D.nx σ H1) : tDrop (tCall sp_put_polygon [] E (tCons (tVar 0) tr)) D σ H :=
  st_dropM (ex_cons (ev_ref S h0) (ex_nil h)) fun H1 e1 => ⟨c, C, n, p, b, m, ⟨hn.1, hn.2.1, hn.2.2.1, hn.2.2.2, hz, hd⟩, rfl, rfl, e1 _ _ hc, fun H2 s2 h2 => k H2 _ ((Same.sb e1).trans s2) h2 (putC_nodup hd _ _) (putC_len _ _ _)⟩
theorem st_forPut {α : Type} {xs : List α} {enc : α → PyData} {wi : TI} {g : TG} {tb : TS} {is : List Nat} {f : α → List Sd → List Sd} (w : Wk (fun A B => Tp A B ∧ Kp K A B) wi σ H (xs.map enc)) (S : Sl K σ H ρ) (hc : H c = some (.dT (tbH (cT C)))) (hd : (C.map (·.1)).Nodup) (hz : C.length + xs.length < 90000)
    (hg : ∀ x, Tg K g (enc x) is (f x)) (hw : ∀ x σ' H', Sl K σ' H' (f x ρ) → Sl K σ' H' ρ)
    (body : ∀ x, x ∈ xs → ∀ σ' H' C', Sb c H H' → H' c = some (.dT (tbH (cT C'))) → (C'.map (·.1)).Nodup → C'.length < 90000 → Sl K σ' H' (f x ρ) → ∀ D' : Ends,
      (∀ H1 C1, Sb c H' H1 → H1 c = some (.dT (tbH (cT C1))) → (C1.map (·.1)).Nodup → C1.length ≤ C'.length + 1 → D'.nx σ' H1) → tb D' σ' H')
    (k : ∀ σ' H' C', Sb c H H' → H' c = some (.dT (tbH (cT C'))) → (C'.map (·.1)).Nodup → C'.length ≤ C.length + xs.length → Sl K σ' H' ρ → D.nx σ' H') : tFor wi g tb D σ H := by
  refine st_for (xs := xs) (enc := enc) w (fun H3 i σ' H' => Sb c H3 H' ∧ ∃ C', H' c = some (.dT (tbH (cT C'))) ∧ (C'.map (·.1)).Nodup ∧ C'.length ≤ C.length + i ∧ Sl K σ' H' ρ) (fun H3 e3 => ⟨Sb.refl _, C, e3 _ _ hc, hd, Nat.le_add_right _ _, S.same e3⟩) (fun H3 i σ' H' e3 h => ⟨h.1.tp (e3 _ _ hc), h.1.kp (e3 _ _ hc)⟩) ?_ ?_
  · rintro H3 i x σ' H' v H4 e3 hx ⟨s3, C3, h3, d3, l3, S3⟩ e4 rv
    have hi := (List.getElem?_eq_some_iff.mp hx).1
    refine hg x v σ' H4 ρ _ (S3.same e4) rv fun σ5 S5 _ _ => ?_
    refine body x (List.mem_of_getElem? hx) σ5 H4 C3 ((Same.sb e3).trans (s3.trans (Same.sb e4))) (e4 _ _ h3) d3 (by omega) S5 _ fun H6 C6 s6 h6 d6 l6 => ⟨s3.trans ((Same.sb e4).trans s6), C6, h6, d6, by omega, hw x σ5 H6 (S5.kp (s6.kp (e4 _ _ h3)))⟩
  · rintro H3 σ' H' e3 ⟨s3, C3, h3, d3, l3, S3⟩
    exact k σ' H' C3 ((Same.sb e3).trans s3) h3 d3 l3 S3
theorem st_retLL {t1 t2 : TE} {es : List PyData} (h1 : EvL t1 σ H ds) (h2 : EvL t2 σ H es) (k : ∀ r l1 l2 vs us H1, H l1 = none → H l2 = none → Same H H1 → H1 r = some (.tup [.ref l1, .ref l2]) → H1 l1 = some (.lst vs) → DtA H1 vs ds → H1 l2 = some (.lst us) → DtA H1 us es → D.rt (.ref r) H1) :
    tRet (tTup (tCons t1 (tCons t2 tNil))) D σ H := h1 H (Same.refl H) _ fun l1 vs H1 n1 e1 g1 r1 => h2 H1 e1 _ fun l2 us H2 n2 e2 g2 r2 => ⟨by show 2 ≤ sizeLine; decide, fun r hr => by
  have g12 := e2 _ _ g1
  exact k r l1 l2 vs us _ n1 (fresh_back e1 n2) ((e1.trans e2).trans (Same.new hr)) upd_same (by rw [upd_ne (ne_of_none g12 hr)]; exact g12) ((r1.same e2).same (Same.new hr)) (by rw [upd_ne (ne_of_none g2 hr)]; exact g2) (r2.same (Same.new hr))⟩
theorem et_isN {ta : TE} (h : EvD ta σ H .none) : EvT (tTest (tOp (fun x y H Q => y = .non ∧ Q (.bl (decide (x = .non))) H) ta (tC .non))) σ H true := fun H1 e Q q => h H1 e _ fun v H2 e2 r => ⟨rfl, decide (v = .non), rfl, by rw [r.non']; exact q H2 e2⟩
theorem et_isNX {ta : TE} {a : Addr} (h : EvX ta σ H (.ref a)) : EvT (tTest (tOp (fun x y H Q => y = .non ∧ Q (.bl (decide (x = .non))) H) ta (tC .non))) σ H false := fun H1 e Q q => h H1 e _ fun H2 e2 => ⟨rfl, false, rfl, q H2 e2⟩
theorem ret_if {t : TT} {ta tb : TE} (h : EvT t σ H true) (k : ∀ H1, Same H H1 → tRet ta D σ H1) : tRet (tIf t ta tb) D σ H := h H (Same.refl H) _ fun H1 e => k H1 e
theorem st_retXD {t1 t2 : TE} {a : Addr} {d : PyData} (h1 : EvX t1 σ H (.ref a)) (h2 : EvD t2 σ H d) (k : ∀ r v H1, Same H H1 → H1 r = some (.tup [.ref a, v]) → Dt H1 v d → D.rt (.ref r) H1) : tRet (tTup (tCons t1 (tCons t2 tNil))) D σ H :=
  h1 H (Same.refl H) _ fun H1 e1 => h2 H1 e1 _ fun v H2 e2 r2 => ⟨by show 2 ≤ sizeLine; decide, fun r hr => k r v _ ((e1.trans e2).trans (Same.new hr)) upd_same (r2.same (Same.new hr))⟩
theorem st_asgX {g : TG} {te : TE} (h : te σ H (fun v H1 => g v σ H1 D.nx)) : tAsg te g D σ H := h
theorem st_asgC {i : Nat} {te : TE} (S : Sl K σ H ρ) (h : te σ H (fun v H1 => D.nx (σ.set i (some v)) H1)) : tAsg te (gName i) D σ H := h
theorem et_notN {ta : TE} (h : EvD ta σ H .none) : EvT (tTest (tOp (fun x y H Q => y = .non ∧ Q (.bl (!decide (x = .non))) H) ta (tC .non))) σ H false := fun H1 e Q q => h H1 e _ fun v H2 e2 r => ⟨rfl, !decide (v = .non), rfl, by rw [r.non']; exact q H2 e2⟩
theorem ev_notNT {ta : TE} {es : List PyData} (h : EvD ta σ H (.tuple es)) : EvD (tOp (fun x y H Q => y = .non ∧ Q (.bl (!decide (x = .non))) H) ta (tC .non)) σ H (.bool true) := fun H1 e Q q => h H1 e _ fun v H2 e2 r => by
  obtain ⟨a, xs, rfl, _, _⟩ := r.tup'
  exact ⟨rfl, q (.bl true) H2 e2 (.bl true)⟩
/-- one of the pairs -/
theorem st_retMinP {ps : List (Int × Int)} (h : EvR K te σ H (ps.map kD)) (h0 : ps ≠ []) (k : ∀ v H1 p, Same H H1 → p ∈ ps → Dt H1 v (kD p) → D.rt v H1) : tRet (tCB (rMinP K) (tCons te tNil)) D σ H :=
  h H (Same.refl H) _ fun a H1 e1 ⟨xs, h1, r1⟩ => ⟨a, xs, ps, rfl, h1, r1, (fun z => by
    rw [z] at r1
    cases ps with
    | nil => exact h0 rfl
    | cons p ps => cases r1), fun i v hv => by
    obtain ⟨d, e2, r2⟩ := DtA.at r1 hv
    rw [List.getElem?_map] at e2
    cases e3 : ps[i]? with
    | none => rw [e3] at e2; cases e2
    | some p =>
      rw [e3] at e2
      cases e2
      exact k v H1 p e1 (List.mem_of_getElem? e3) r2⟩
end
/-! one step at a time -/
theorem st_rngE {te : TE} {g : TG} {tb : TS} {D : Ends} {σ : L2.St} {H : Hp} (h : te σ H (fun v H1 => tFor (iRng1 (tCons (tC v) tNil)) g tb D σ H1)) : tFor (iRng1 (tCons te tNil)) g tb D σ H := h
theorem call_go {sp : Sp} {E : XK} {ta : TA} {σ : L2.St} {H : Hp} {Q : VK} (h : ta σ H (fun vs H1 => sp (vs ++ []) H1 Q E)) : tCall sp [] E ta σ H Q := h
theorem ta_cons {te : TE} {ta : TA} {σ : L2.St} {H : Hp} {Q : List V → Hp → Prop} (h : te σ H (fun v H1 => ta σ H1 fun vs H2 => Q (v :: vs) H2)) : tCons te ta σ H Q := h
theorem ta_nil {σ : L2.St} {H : Hp} {Q : List V → Hp → Prop} (h : Q [] H) : tNil σ H Q := h
theorem ret_cb {R : List V → Hp → VK → Prop} {ta : TA} {D : Ends} {σ : L2.St} {H : Hp} (h : ta σ H (fun vs H1 => R vs H1 D.rt)) : tRet (tCB R ta) D σ H := h
theorem st_dropQ {te : TE} {D : Ends} {σ : L2.St} {H : Hp} (h : te σ H (fun _ H1 => D.nx σ H1)) : tDrop te D σ H := h
end SB
/-! The exception's own initialiser. -/
namespace SB
open PySem PySem.Spec PySem.W PySem.Calls PyProof.Rows L2
section
variable {prog : Program} {w : World} {A : Around} {E : Value → Shared → Prop} {h : Heap} {g : Array GenState} {d : Drawn} {t : Nat} {os : OsState}
variable {nm q : Str} {C N : Addr} {bs bm : List Value} {hdct : Bool} {sn : List Str} {sub : List Value} {ab : Bool} {col : Option Bool} {dd : Option Addr} {k0 k1 k2 k3 k5 : Option Value}
/-- the bound initialiser of the base called -/
theorem call_ve {u e t0 : Addr} {rest : List Value} {Q : Value → Shared → Prop}
    (hC : h.get? C = some (excClassObj nm q C N bs bm hdct sn sub ab col dd k0 k1 k2 k3 k5 "ValueError.__new__")) (he : h.get? e = some (HandSPX.excO C t0)) (hu : h.get? u = some (kxs_mw "ValueError.__init__" e)) (hrest : rest.length ≤ sizeLine)
    (hq : ∀ h' t1, (∀ b o, b ≠ e → h.get? b = some o → h'.get? b = some o) → h'.get? e = some (HandSPX.excO C t1) → Q .none ⟨h', g, d, t, os⟩) :
    wpAny (model prog w) A (call (.ref u) rest) Q E ⟨h, g, d, t, os⟩ := by
  refine wpAny_call (codeAny_of_tree ?_)
  show wpAny _ A.in1 (callAny (.ref u) ⟨rest, []⟩) _ _ _
  simp only [callAny]
  refine wpAny_bind (wpAny_load hu ?_)
  simp only [kxs_mw, show (Value.type "method-wrapper" == Value.type "method" || Value.type "method-wrapper" == Value.type "builtin_function_or_method" || Value.type "method-wrapper" == Value.type "method-wrapper") = true by decide, if_true]
  refine KFB.if_so (by decide) ?_
  refine wpAny_bind (ESX.check_bound F.excBase_ValueError hC he rfl ?_)
  refine wpAny_bind (wpAny_pure (wpAny_pure ?_))
  refine ⟨Code.quiet_builtin _ (by decide +kernel), codeAny_builtin F.excBase_ValueError.initEntry ?_⟩
  rw [Around.under_plainId F.excBase_ValueError.init.plain _]
  wp_walk
  refine hq _ h.objs.size (fun b o hb ho => ?_) ?_
  · rw [Heap.get?_update_other _ _ (Ne.symm hb)]
    exact Heap.get?_push_of_some _ ho
  · rw [Heap.get?_update_self _ (Heap.get?_push_of_some _ he) rfl]
    rfl
end
section
variable {prog : Program} {w : World} {A : Around} {E : Value → Shared → Prop} {s : Shared} {h₀ : Heap} {m mg mb : Str → Option Value} {K : Frag} {x C D f cc cda : Addr} {ox : Obj} {odx : Option Obj}
/-- super() within an initialiser -/
theorem node_super {body : List Stmt} {q : Str} {scope : Scope} {p0 p1 : Pos} {attr : Str} {whole : Sem Value} {fd : FuncData} {ar : Arg} {vs : Array Value} {file : Str} {tf : Tok} {oc ccl cl : Value} {od cdd cld : Option Addr} {osl ccs csl : Array (Option Value)} {cdD : ClassData} {L : Addr} {Q : Value → Shared → Prop}
    (X : K.In s.heap) (ns : s.heap.Ns L m) (tg : s.heap.Ns mainGlobals mg) (hsuper : mg "super" = none) (tb : s.heap.Ns builtinsNs mb) (hboot : mb "super" = some (.type "super"))
    (hf : K.lookup f = some ⟨oc, od, .func fd, osl⟩) (hp : (fd.params.posonlyargs ++ fd.params.args).head? = some ar) (hv : m ar.arg = some (.ref x)) (I : InstAt s.heap x ox C odx)
    (hcode : K.lookup cda = some ⟨ccl, cdd, .fields vs, ccs⟩) (hvs : vs[2]? = some (.str file tf)) (hfile : ((prog.main.file : Str) == file) = true)
    (hcell : K.lookup cc = some ⟨cl, cld, .cell (some (.ref D)), csl⟩) (hD : clsIn K D = some cdD) (hsub : mroIn K C (.ref D) = some true)
    (hat : (attr == ("__class__" : Str)) = false) (hks : scope.names.lookup ("super" : Str) = some .globalImplicit) (hkc : scope.names.lookup ("__class__" : Str) = some .free) (hka : scope.names.lookup ar.arg = some .local) (hk : scope.kind = .function)
    (htop : (prog.main.scope.names.lookup ("super" : Str)).isSome = false)
    (h : ∀ h', h'.get? s.heap.objs.size = some (ks_superObj D x C) → (∀ y o, s.heap.get? y = some o → h'.get? y = some o) → Q (.ref s.heap.objs.size) { s with heap := h' }) :
    _root_.PySem.wpAt (model prog w) A (.func body (ksEnv q scope L f (.ref cda) cc)) (attributeBase (.Call (.Name "super" p0) [] [] p1) attr (ksEnv q scope L f (.ref cda) cc) whole) Q E s := by
  obtain ⟨hh, g, d, t, os⟩ := s
  obtain ⟨oD, hD1, hD2⟩ : ∃ oD, hh.get? D = some oD ∧ oD.data = .cls cdD := by
    unfold clsIn at hD
    split at hD
    · rename_i c d cd' sl ho
      cases hD
      exact ⟨_, X _ _ ho, rfl⟩
    · cases hD
  refine ks_wpAt_super_base (env := ksEnv q scope L f (.ref cda) cc) hks hkc hat rfl (X _ _ hf) rfl hp rfl (X _ _ hcode) rfl hvs hfile htop ?_
  refine ks_loadName_global hk hks (loadGlobal_builtin (env := ksEnv q scope L f (.ref cda) cc) tg hsuper tb hboot ⟨rfl, ?_⟩)
  refine wpAny_loadName_free hk hkc rfl ⟨_, X _ _ hcell, rfl⟩ ?_
  refine wpAny_loadName_local hk hka ns hv ?_
  refine ks_wpAny_isType_cls hD1 hD2 ⟨rfl, ?_⟩
  refine ks_wpAny_call_super hD1 hD2 I.at_ I.cls (fun c e => ?_) (looks_mroIn X hsub) h
  have := I.no
  unfold notCls at this
  rw [e] at this
  exact Bool.noConfusion this
end
end SB
/-! Unsilent's initialiser keeps its promise. -/
namespace SB
open PySem PySem.Spec PySem.W PySem.Calls PyProof.Rows L2 NdefX
def clsBody : Stmt → List Stmt
  | .ClassDef _ _ _ b .. => b
  | _ => []
abbrev s_ui : Stmt := (clsBody (topS 8)).getD 0 (.Pass ⟨0, 0, 0, 0⟩)
/-- what the written part says of Unsilent and its initialiser -/
structure UIn (P : Program) (K : Frag) (mg : Str → Option Value) (f C cc cda : Addr) (fd : FuncData) : Prop where
  ex : ∃ (oc : Value) (od : Option Addr) (kV doc pm : Value) (an : Option Addr) (ct : Value) (osl : Array (Option Value)),
    fd = ksFn "__init__" "Unsilent.__init__" (defArgs s_ui) (defBody s_ui) (defScope s_ui) .none kV doc pm an (.ref cda) ct cc ∧ K.lookup f = some ⟨oc, od, .func fd, osl⟩
  code : codeIn K (.ref cda) "Unsilent.__init__" = true
  file : ∃ (ccl : Value) (cdd : Option Addr) (vs : Array Value) (ccs : Array (Option Value)) (fl : Str) (tf : Tok), K.lookup cda = some ⟨ccl, cdd, .fields vs, ccs⟩ ∧ vs[2]? = some (.str fl tf) ∧ ((P.main.file : Str) == fl) = true
  cell : ∃ (cl : Value) (cld : Option Addr) (csl : Array (Option Value)), K.lookup cc = some ⟨cl, cld, .cell (some (.ref C)), csl⟩
  cls : OexC K C
  sup : ks_superIn K C C "__init__" = some (some (.builtin "ValueError.__init__"))
  ve : subIn K (.ref C) (.type "ValueError") = some true
  mro : mroIn K C (.ref C) = some true
  opq : nsIn K cStatics "thirdparty.any" = some none
  gl : mg "super" = none
  top : (P.main.scope.names.lookup ("super" : Str)).isSome = false
  fld : findIn K (.ref C) "rest" = some none
abbrev sp_ui (C : Addr) : Sp := fun vs H Q _ => ∃ (a : Addr) (v : V), vs = [.ref a, v] ∧ H a = some (exo a C none) ∧ ∀ dx, H dx = none → dx ≠ a → Q .non (upd (upd H dx (exd dx [("rest", v)])) a (exo a C (some dx)))
theorem ui_scope : NScope ["self", "rest", "__class__"] ["self", "rest"] ["__class__"] (defScope s_ui) := ⟨by decide +kernel, by decide +kernel, by decide +kernel, by decide, rfl, by decide +kernel, by decide +kernel, by decide +kernel, by decide +kernel⟩
theorem callWith_mw {M : Model} {A : Around} {E : Value → Shared → Prop} {s : Shared} {i : String} {u x : Addr} {pos : Pos} {env : Env} {e : Expr} {rest : List Expr} {Q : Value → Shared → Prop}
    (h : wpAny M A (spliced (backTo pos (starEach (e :: rest) env))) (fun vs s₁ => KxsAt i u x s₁.heap ∧ wpAny M A (call (.ref u) vs) Q E s₁) E s)
    (he : starEach (e :: rest) env = (false, eval e env) :: starEach rest env := by rfl) (hplain : (backTo pos (starEach rest env)).any (·.1) = false := by rfl) :
    wpAny M A (callWith pos (.ref u) [] (backTo pos (starEach (e :: rest) env)) []) Q E s := by
  rw [he] at h ⊢
  refine kxs_callWith (i := i) (x := x) (by show (false || (backTo pos (starEach rest env)).any (·.1)) = false; rw [hplain]; rfl) ?_
  exact evalArgs_plain h
theorem ok_ui {P : Program} {w : World} {K : Frag} {mg : Str → Option Value} {base : Heap} {f C cc cda : Addr} {fd : FuncData} (U : UIn P K mg f C cc cda fd) : FnOk P w K mg base CX0 1 f fd ["self", "rest"] (sp_ui C) := by
  refine ⟨fun vs H Q E h => by obtain ⟨a, v, rfl, _⟩ := h; rfl, fun A outer s H args us vs Q E hr e0 hb r hsp => ?_⟩
  obtain ⟨a, v, rfl, ha, kk⟩ := hsp
  obtain ⟨oc, od, kV, doc, pm, an, ct, osl, rfl, lk⟩ := U.ex
  obtain ⟨ccl, cdd, vsf, ccs, fl, tf, hcode, hvs, hfile⟩ := U.file
  obtain ⟨cl, cld, csl, hcell⟩ := U.cell
  cases r with
  | @cons _ u1 _ ur ra r2 =>
    cases r2 with
    | @cons _ u _ ur2 rv r3 =>
      cases r3
      obtain rfl : u1 = Value.ref a := ra
      have KX : K.In s.heap := e0.mod.kin.keeps fun b o e => (e0.bs b o e).1
      have lim : s.heap.NoLimit := e0.mod.nolimit.keeps fun b o e => (e0.bs b o e).1
      refine ks_codeAny_call_defAt hr.depth (KX _ _ lk) rfl lim (codeRec_of KX U.code) rfl hb ui_scope.nocell (fun x hx => ?_) (fun h₁ hns hk => ?_) ui_scope.co ui_scope.gen ui_scope.kind
      · rcases List.mem_cons.mp hx with e | hx
        · rw [e]; exact ui_scope.par _ (by simp)
        · rcases List.mem_cons.mp hx with e | hx
          · rw [e]; exact ui_scope.par _ (by simp)
          · cases hx
      have CA : CellsAt [("__class__", cc)] ["__class__"] [none] s.heap H := {
        len := rfl
        all := fun y c hy => by
          rw [List.lookup_cons] at hy
          split at hy
          · cases hy
            exact ⟨(e0.bs _ _ (e0.mod.kin _ _ hcell)).2, _, _, KX _ _ hcell, rfl⟩
          · cases hy
        inj := fun x y c hx hy => by
          rw [List.lookup_cons] at hx hy
          split at hx
          · rename_i e1
            split at hy
            · rename_i e2
              rw [eq_of_beq e1, eq_of_beq e2]
            · cases hy
          · cases hx
        has := fun i y hy => by
          have e : y = "__class__" := by
            cases i with
            | zero => simpa using hy.symm
            | succ i => simp at hy
          refine ⟨cc, by rw [e]; rfl, fun z hz => ?_⟩
          cases i with
          | zero => simp at hz
          | succ i => simp at hz }
      have I0 := inv_startN (CX := CX0) (E := E) (f := f) (F := ⟨"__init__", "Unsilent.__init__", defArgs s_ui, defBody s_ui, defScope s_ui, [("__class__", cc)], cda⟩) (ws := [none]) (tk := s.toks + 2) ui_scope hr.hd e0 rfl (.cons (show RelV (V.ref a) (.ref a) from rfl) (.cons rv .nil)) CA hns hk
      obtain ⟨t1, hoa⟩ := exo_at I0.hok ha
      have hC' := U.cls.cls
      obtain ⟨nm, q, N, bs, bm, sn, sub, ab, col, dd, k0, k1, k2, k3, k5, hC, hbm⟩ := hC'
      obtain ⟨cd, hcd⟩ : ∃ cd, clsIn K C = some cd := by
        unfold clsIn
        rw [hC]
        exact ⟨_, rfl⟩
      have KX1 : K.In h₁ := KX.keeps hk
      obtain ⟨mb, hb1, hb2⟩ := e0.mod.blt
      have k01 : ∀ b o, base.get? b = some o → h₁.get? b = some o := fun b o e => hk b o (e0.bs b o e).1
      have IA : InstAt h₁ a { cls := .ref C, dict := none, data := .fields #[.ref t1, .none, .none, .none, .bool false, .none] } C none := ⟨hoa, rfl, rfl, trivial⟩
      have hbs : mb "super" = some (.type "super") := (hb2 _ (by decide)).trans PyProof.Rows.Boot.«super»
      refine ks_wpAt_execs_cons (ks_wpAt_Expr_any (ks_wpAt_MethodCall (node_super (s := ⟨h₁, s.gens, s.drawn, s.toks + 2, s.os⟩) KX1 hns (e0.mod.glob.keeps k01) U.gl (hb1.keeps k01) hbs lk rfl rfl IA hcode hvs hfile hcell hcd U.mro rfl rfl rfl rfl rfl U.top (fun h2 e2 k2 => ?_))))
      have hm := U.sup
      unfold ks_superIn at hm
      rw [hcd] at hm
      have KX2 := KX1.keeps k2
      have hne : a ≠ C := ks_ne KX1 IA hcd
      have hI2 : Looks (model P w) h2 (isInstance (.ref a) (.type "ValueError")) true := (InstAt.type (od := none) ⟨k2 _ _ hoa, rfl, rfl, trivial⟩).andThen (looks_subIn KX2 U.ve)
      refine kxs_getMethod kxs_ValueError e2 (looks_opaque KX2 U.opq) (l₀ := cd.mro) (fun A Q E s k q => wpAny_bind ((looks_clsIn KX2 hcd) A _ E s k (wpAny_pure q))) rfl KX2 hm hI2 hne rfl ?_
      have k13 : ∀ b o, h₁.get? b = some o → (h2.push (kxs_mw "ValueError.__init__" a)).get? b = some o := fun b o e => Heap.get?_push_of_some _ (k2 b o e)
      refine callWith_mw (i := "ValueError.__init__") (x := a) (spliced_more (PySem.ESX.ldL (hns.keeps k13) (v := u) rfl (spliced_none ⟨Heap.get?_push_at rfl rfl, ?_⟩)))
      refine call_ve (KX2.keeps (fun b o e => Heap.get?_push_of_some _ e) _ _ hC) (t0 := t1) (k13 _ _ hoa) (Heap.get?_push_at rfl rfl) (by simp [sizeLine_eq]) fun h4 t4 k4 e4 => ?_
      have I3 := I0.un (t' := s.toks + 2 + 1) (Un.kept k13) (I0.hok.kept k13)
      have I4 := I3.write (t' := s.toks + 2 + 1) (x := a) (e := a) (o := exo a C none) (by rw [ha]; exact True.intro) (.inl rfl) k4 ⟨_, e4⟩ (exo_ok e4)
      have eu : upd H a (exo a C none) = H := by
        funext b
        by_cases hb : b = a
        · rw [hb, upd_same, ha]
        · rw [upd_ne hb]
      rw [eu] at I4
      have bd : PSs (ncx CX0 P w K mg base ["self", "rest", "__class__"] ⟨"__init__", "Unsilent.__init__", defArgs s_ui, defBody s_ui, defScope s_ui, [("__class__", cc)], cda⟩ f A outer s H E) ((defBody s_ui).drop 1) _ := pss_one (ps_ost (pv 0) (pv 1))
      have go := bd.run [] _ _ H { nx := fun _ H' => Q .non H', rt := fun _ _ => False } I4 (by
        refine ⟨v, rfl, .ref a, rfl, a, C, rfl, U.cls, U.fld, .inl ⟨ha, fun dx hd hn => kk dx hd hn⟩⟩)
      show _root_.PySem.wpAt _ _ _ (execs ((defBody s_ui).drop 1) _) _ _ _
      refine wpAt_of_wpAny (wpAny_mono go (fun fl s' hs => ?_) fun e s' hs => hs)
      cases fl with
      | ret u => obtain ⟨v, σ', H', J, rv, q⟩ := hs; exact False.elim q
      | next =>
        obtain ⟨σ', H', J, q⟩ := hs
        exact ⟨.non, H', J.os, J.bare, J.base, J.hok, rfl, q⟩
      | brk => obtain ⟨_, _, _, q⟩ := hs; exact False.elim q
      | cont => obtain ⟨_, _, _, q⟩ := hs; exact False.elim q
end SB
/-! Errors made, let through, asked of their class. -/
namespace SB
open PySem PySem.Spec PyProof.Rows L2
/-- isinstance of the error in hand that has a dict: one class, or a tuple of classes just laid -/
def rIsEd (K : PySem.W.Frag) (D a : Addr) : List V → Hp → VK → Prop := fun xs H Q =>
  (∃ (c : V) (cv : Value) (b : Bool), xs = [.ref a, c] ∧ ClsV c cv ∧ PySem.W.kitOne K (.ref D) cv = some b ∧ Q (.bl b) H) ∨
  ∃ (tp : Addr) (cs : List V) (us : List Value) (b : Bool), xs = [.ref a, .ref tp] ∧ H tp = some (.tup cs) ∧ Paired ClsV cs us ∧ PySem.W.kitAny K (.ref D) us = some b ∧ Q (.bl b) H
theorem call_isEd {X : Cx} {a D dd : Addr} {oe : Obj} {pn : List (Addr × Obj)} (C : ExcC X.K D) (hz : Zc (.ref D) (some dd) oe) (hf : ∃ vs, oe.data = .fields vs) :
    CallR (X.suite a ((a, oe) :: pn)) (.builtin "isinstance") (fun xs H Q => (∃ fs, H dd = some (.xd fs)) ∧ rIsEd X.K D a xs H Q) := by
  intro pins s σ H xs us Q I r h
  obtain ⟨⟨fs, hd⟩, h⟩ := h
  obtain ⟨hget, _⟩ := I.pin (a, oe) (List.mem_append.mpr (.inl List.mem_cons_self))
  obtain ⟨vs, hv⟩ := hf
  have hx : ObjOk X.prog X.w H s.heap dd (.xd fs) := I.hok dd _ hd
  obtain ⟨mA, hns, hr⟩ := hx
  obtain ⟨od, ho, hl⟩ := lookIn_ns hns
  have J : PySem.W.InstAt s.heap a oe D (some od) := ⟨hget, hz.1, by unfold PySem.W.notCls; rw [hv] <;> rfl, by rw [hz.2]; exact ho⟩
  have hcl : (PySem.W.clsIn X.K D).isSome = true := by
    obtain ⟨cd, hc, _⟩ := PySem.W.any_some C.hd
    rw [hc]
    rfl
  have Z : PySem.W.KitX X.K (.ref a) (.ref D) (fun h => PySem.W.InstAt h a oe D (some od)) := PySem.W.kitx_exc hcl C.hg C.hk C.hs C.ha C.hn C.ht C.hm
  rcases h with ⟨c, cv, b, rfl, k, e, q⟩ | ⟨tp, cs, ws, b, rfl, hT, k, e, q⟩
  · obtain ⟨u1, u2, rfl, r1, r2⟩ := vals2 r
    cases (show u1 = Value.ref a from r1)
    have e2 := k.eq r2
    subst e2
    exact PySem.W.kia_one Z I.kIn J e (fun z => nomatch z) fun tk => ⟨.bl b, H, I.tok tk, rfl, q⟩
  · obtain ⟨u1, u2, rfl, r1, r2⟩ := vals2 r
    cases (show u1 = Value.ref a from r1)
    cases (show u2 = Value.ref tp from r2)
    obtain ⟨_, its, rv, o, h1, h2, n, h3⟩ := (show ObjOk X.prog X.w H s.heap tp (.tup cs) from I.hok tp _ hT)
    have e3 := ClsV.all k rv
    subst e3
    obtain ⟨oc, odd, dt, sl⟩ := o
    simp only at h2 h3
    subst h2 h3
    exact PySem.W.kia_tup Z I.kIn J h1 e (fun z => nomatch z) fun tk => ⟨.bl b, H, I.tok tk, rfl, q⟩
/-- a def that may raise, as the callers see it -/
structure FnX (P : Program) (w : World) (K : PySem.W.Frag) (mg : Str → Option Value) (base : Heap) (x : Str) (k : Nat) (ps : List Str) (sp : Sp) : Prop where
  ex : ∃ f fd, FnOk P w K mg base (L2.CX P w) k f fd ps sp ∧ mg x = some (.ref f) ∧ PySem.W.keepIn K (.ref f) = true ∧ Binds K fd ps []
section
variable {X : Cx} {k : Nat} {ps : List Str} {sp : Sp} {x : Str} {p pos : Pos} {e : Expr} {es : List Expr} {t : TA} {W : WX} {E : XK}
theorem pe_fnX (F : FnX X.prog X.w X.K X.mg X.base x k ps sp) (tk : Takes X W) (hW : ∀ cls d σ H, E cls d H → W cls d σ H) (hr : Room k X.A) (hg : Gl X x) (ha : PA X (e :: es) t) (hdb : (x == ("__debug__" : Str)) = false := by decide) (he : starEach (e :: es) X.env = (false, eval e X.env) :: starEach es X.env := by rfl)
    (hpl : (backTo pos (starEach es X.env)).any (·.1) = false := by rfl) : PE X (.Call (.Name x p) (e :: es) [] pos) (tCall sp [] E t) := by
  obtain ⟨f, fd, F1, hm, hk, hb⟩ := F.ex
  exact pe_call F1 hr hg hm hk hb .nil (passes_call tk hW) ha hdb he hpl
end
/-- the class at C is Unsilent -/
structure Uns (P : Program) (w : World) (K : PySem.W.Frag) (mg : Str → Option Value) (base : Heap) (C : Addr) : Prop where
  ex : ∃ f cc cda fd, UIn P K mg f C cc cda fd ∧ PySem.W.findIn K (.ref C) "__init__" = some (some (.ref f)) ∧ PySem.W.typeIn K (.ref f) = some (.type "function") ∧ Binds K fd ["self", "rest"] []
  nm : mg "Unsilent" = some (.ref C)
theorem pmk_un {X : Cx} {C : Addr} {e : Expr} {es : List Expr} {ta : TA} {p pos : Pos} (U : Uns X.prog X.w X.K X.mg X.base C) (hr : Room 2 X.A) (hg : Gl X "Unsilent") (ha : PA X (e :: es) ta)
    (he : starEach (e :: es) X.env = (false, eval e X.env) :: starEach es X.env := by rfl) (hpl : (backTo pos (starEach es X.env)).any (·.1) = false := by rfl) :
    PMk X (.Call (.Name "Unsilent" p) (e :: es) [] pos) (tMkO C (sp_ui C) [] ta) := by
  obtain ⟨f, cc, cda, fd, UI, hi, ht, hb⟩ := U.ex
  exact pmk_oex UI.cls hi ht (ok_ui UI) hr hb .nil pass0 hg U.nm ha (by decide) he hpl
/-- raising it -/
theorem mk_un {σ : L2.St} {H : Hp} {C : Addr} {te : TE} {d : PyData} {Q : XK} (h : EvD te σ H d) (k : ∀ dd v H', Same H H' → H' dd = some (.xd [("rest", v)]) → Dt H' v d → Q (.ref C) (some dd) H') : tMkO C (sp_ui C) [] (tCons te tNil) σ H Q :=
  h H (Same.refl H) _ fun v H1 e1 r1 => ⟨by show 1 ≤ 1000; decide, fun a ha => ⟨a, v, rfl, upd_same, fun dx hdx hne => by
    have hd1 : H1 dx = none := by rw [upd_ne hne] at hdx; exact hdx
    refine ⟨rfl, dx, [("rest", v)], upd_same, by rw [upd_ne hne, upd_same], hd1, ?_⟩
    have s1 : Same H1 (upd (del (upd (upd (upd H1 a (exo a C none)) dx (exd dx [("rest", v)])) a (exo a C (some dx))) a) dx (.xd [("rest", v)])) := fun b u hb => by
      rw [upd_ne (ne_of_none hb hd1), del_ne (ne_of_none hb ha), upd_ne (ne_of_none hb ha), upd_ne (ne_of_none hb hd1), upd_ne (ne_of_none hb ha)]
      exact hb
    exact k dx v _ (e1.trans s1) upd_same (r1.same s1)⟩⟩
end SB
namespace SB
theorem stripL_len (l : List Int) : (stripL l).length ≤ l.length := by
  unfold stripL
  rw [List.length_take]
  omega
theorem divL_len (d : List Int) (m : Nat) : ∀ (k : Nat) (g r : List Int), (divL d m k g r).1.length = g.length ∧ (divL d m k g r).2.length = r.length
  | 0, g, r => ⟨rfl, rfl⟩
  | k + 1, g, r => by
    have := divL_len d m k (g.set k (r.getD (k + m) 0)) (subAt k (r.getD (k + m) 0) d r)
    rw [List.length_set, subAt_len] at this
    exact this
theorem pparted_len (one d : List Int) : (pparted one d).1.length ≤ one.length ∧ (pparted one d).2.length ≤ one.length := by
  have := divL_len d (d.length - 1) (one.length + 1 - d.length) (one.map fun _ => 0) one
  rw [List.length_map] at this
  unfold pparted
  exact ⟨Nat.le_trans (stripL_len _) (Nat.le_of_eq this.1), Nat.le_trans (stripL_len _) (Nat.le_of_eq this.2)⟩
theorem aroundL_len {n : Nat} (h : 1 ≤ n) : (aroundL n).length = n + 1 := by
  unfold aroundL
  simp
  omega
def coefOk (l : List Int) : Bool := decide (1 ≤ l.length) && decide (l.length ≤ 200) && l.all fun x => decide (-3 ≤ x) && decide (x ≤ 3)
theorem cyc_step : ∀ e ∈ subSizes, cycLate e (((divsL e).dropLast).map fun x => (x, cyc x)) = cyc e := by decide +kernel
theorem cyc_coef : ∀ e ∈ subSizes, coefOk (cyc e) = true := by decide +kernel
theorem divs_take : ∀ n ∈ subSizes, (List.range (divsL n).length).all (fun i => decide ((((divsL n).take i).filter fun e => (divsL n).getD i 1 % e == 0) = (divsL ((divsL n).getD i 1)).dropLast) && subSizes.contains ((divsL n).getD i 1)
    && ((divsL ((divsL n).getD i 1)).dropLast).all fun e => (divsL n).getD i 1 % e == 0) = true := by decide +kernel
theorem divs_last : ∀ n ∈ subSizes, (divsL n).Nodup ∧ (divsL n).length ≤ 20 ∧ n ∈ divsL n := by decide +kernel
theorem sub_size : ∀ n ∈ sizes, n ∈ subSizes := by decide +kernel
theorem sub_divs : ∀ n ∈ subSizes, ∀ d ∈ divsL n, d ∈ subSizes := by decide +kernel
theorem sub_lt : ∀ n ∈ subSizes, 1 ≤ n ∧ n < 111 := by decide +kernel
theorem cycLate_filter (one : Nat) (F : List (Nat × List Int)) : cycLate one (F.filter fun e => one % e.1 == 0) = cycLate one F := by
  unfold cycLate
  rw [List.foldl_filter]
  congr 1
  funext l e
  by_cases h : (one % e.1 == 0) = true
  · simp only [h, if_true]
  · simp only [h, if_false, Bool.false_eq_true]
/-- the polynomial of the i-th divisor -/
theorem cyc_at {n i : Nat} (h : n ∈ subSizes) (hi : i < (divsL n).length) : cycLate ((divsL n).getD i 1) (((divsL n).take i).map fun x => (x, cyc x)) = cyc ((divsL n).getD i 1) := by
  have h1 := List.all_eq_true.mp (divs_take n h) i (List.mem_range.mpr hi)
  simp only [Bool.and_eq_true, decide_eq_true_eq] at h1
  obtain ⟨⟨h2, h3⟩, _⟩ := h1
  rw [← cycLate_filter, List.filter_map]
  have e : ((fun e : Nat × List Int => (divsL n).getD i 1 % e.1 == 0) ∘ fun x => (x, cyc x)) = fun x => (divsL n).getD i 1 % x == 0 := rfl
  rw [e, h2]
  exact cyc_step _ (by simpa using h3)
theorem cycLate_len (one : Nat) (h : 1 ≤ one) (F : List (Nat × List Int)) : (cycLate one F).length ≤ one + 1 := by
  have key : ∀ (F : List (Nat × List Int)) (l : List Int), l.length ≤ one + 1 → (F.foldl (fun late e => if one % e.1 == 0 then (pparted late e.2).1 else late) l).length ≤ one + 1 := by
    intro F
    induction F with
    | nil => intro l h; exact h
    | cons e F ih =>
      intro l h
      refine ih _ ?_
      show (if one % e.1 == 0 then (pparted l e.2).1 else l).length ≤ one + 1
      split
      · exact Nat.le_trans (pparted_len _ _).1 h
      · exact h
  exact key F _ (Nat.le_of_eq (aroundL_len h))
theorem cycLate_snoc (one : Nat) (F : List (Nat × List Int)) (e : Nat × List Int) : cycLate one (F ++ [e]) = if one % e.1 == 0 then (pparted (cycLate one F) e.2).1 else cycLate one F := by
  unfold cycLate
  rw [List.foldl_append]
  rfl
end SB
namespace SB
theorem cyc_fit {n : Nat} (h : n ∈ subSizes) : (cyc n).length ≤ 1000 ∧ 1 ≤ (cyc n).length ∧ ∀ x ∈ cyc n, -(2 ^ 64) < x ∧ x < 2 ^ 64 := by
  have h1 := cyc_coef n h
  unfold coefOk at h1
  simp only [Bool.and_eq_true, decide_eq_true_eq, List.all_eq_true] at h1
  refine ⟨by omega, h1.1.1, fun x hx => ?_⟩
  have := h1.2 x hx
  omega
theorem phi_le (n : Nat) : phi n ≤ n := by
  unfold phi
  refine Nat.le_trans (List.length_filter_le _ _) ?_
  simp
theorem allR_nodup : ∀ n ∈ sizes, (allR (primesL n)).Nodup := by decide +kernel
theorem size_sub {n : Nat} (h : n ∈ sizes) : n ∈ subSizes := sub_size n h
theorem crt_all {n c : Nat} {rs : List Nat} (hn : n ∈ sizes) (hc : c < stepL n) (hr : rs ∈ allR (primesL n)) : crtOk (primesL n) rs 0 1 = true ∧ beatL n c rs < n := by
  have := List.all_eq_true.mp (List.all_eq_true.mp (crt_ok n hn) c (List.mem_range.mpr hc)) rs hr
  simpa using this
theorem allR_fits {n : Nat} (hn : n ∈ sizes) : (primesL n).length ≤ 3 ∧ (∀ p ∈ primesL n, p < 111) ∧ (List.range 4).all (fun k => decide ((allR ((primesL n).take k)).length ≤ 200)) = true := by
  have h1 := size_lt n hn
  have h2 := primes_small n (mem_drop1 h1.1 h1.2)
  exact ⟨h2.1, fun p hp => by have := mem_primes hp; omega, h2.2.2.2⟩
theorem allR_len200 {n : Nat} (hn : n ∈ sizes) : (allR (primesL n)).length ≤ 200 := by
  have h := allR_fits hn
  have := List.all_eq_true.mp h.2.2 (primesL n).length (List.mem_range.mpr (by omega))
  rw [List.take_length] at this
  simpa using this
theorem zs_nodup {l : List (List Nat)} (h : l.Nodup) : (l.map zs).Nodup := by
  refine List.Pairwise.map _ (fun a b hab e => hab ?_) h
  have : ∀ {a b : List Nat}, zs a = zs b → a = b := by
    intro a
    induction a with
    | nil => intro b h; cases b with
      | nil => rfl
      | cons y b => cases h
    | cons x a ih => intro b h; cases b with
      | nil => cases h
      | cons y b =>
        injection h with h1 h2
        rw [ih h2]
        congr 1
        exact Int.ofNat.inj h1
  exact this e
end SB
namespace SB
theorem cyc_monic : ∀ n ∈ subSizes, (cyc n).length = phi n + 1 ∧ (cyc n).getD (phi n) 0 = 1 := by decide +kernel
end SB
/-! What _law_heard makes of the thing that it calls. -/
namespace SB
open PySem PySem.Spec PyProof.Rows L2 RZ LamX
abbrev s__law_heard : Stmt := topS 105
theorem sc__law_heard : FnScope ["_law_deed", "e", "_law_families"] ["_law_deed"] (defScope s__law_heard) := ⟨rfl, rfl, rfl, by decide +kernel, rfl, by decide +kernel, by decide +kernel⟩
/-- the classes of the errors -/
structure Hrd (K : PySem.W.Frag) (mg : Str → Option Value) (C : Addr) : Prop where
  ex : ∃ CB CV CP CL CT CN : Addr, mg "BeatError" = some (.ref CB) ∧ mg "VoiceError" = some (.ref CV) ∧ mg "PaperError" = some (.ref CP) ∧ mg "LiveError" = some (.ref CL) ∧ mg "TextError" = some (.ref CT) ∧ mg "NotUsable" = some (.ref CN) ∧
    PySem.W.exmOne K (.ref C) (.ref CB) = some true ∧ PySem.W.kitOne K (.ref C) (.ref CV) = some true ∧ PySem.W.kitOne K (.ref C) (.ref CP) = some false ∧ PySem.W.kitAny K (.ref C) [.ref CL, .ref CT] = some false ∧ PySem.W.kitOne K (.ref C) (.ref CN) = some false
  un : mg "Unsilent" = some (.ref C)
  own : PySem.W.kitOne K (.ref C) (.ref C) = some true
  exc : ExcC K C
  xf : XfC K C
  fld : PySem.W.findIn K (.ref C) "rest" = some none
def TTheard (C : Addr) : (XK → Hp → VK → Prop) → Hp → VK → Prop := fun tl H Q =>
  tl (fun cls d H' => cls = .ref C ∧ ∃ dd v, d = some dd ∧ H' dd = some (.xd [("rest", v)]) ∧ ∀ r H'', Same H' H'' → H'' r = some (.tup [.str "rest", v]) → Q (.ref r) H'') H
    (fun v H' => [V.str "got", v].length ≤ sizeLine ∧ ∀ p, H' p = none → Q (.ref p) (upd H' p (.tup [.str "got", v])))
theorem bools3 (a b c : Bool) : SeqAt.shaped (.list [.bool a, .bool b, .bool c]) = true := by
  revert a b c
  decide
section
variable {K : PySem.W.Frag} {σ : L2.St} {H : Hp} {ρ : List Sd} {C a dd D : Addr} {b : Bool} {fs : List (Str × V)}
theorem ev_isE (S : Sl K σ H ρ) (h : ρ[1]? = some (.ref a)) (hd : H dd = some (.xd fs)) (hk : PySem.W.kitOne K (.ref C) (.ref D) = some b) :
    EvD (tCB (fun xs H Q => (∃ fs, H dd = some (.xd fs)) ∧ rIsEd K C a xs H Q) (tCons (tVar 1) (tCons (tC (.ref D)) tNil))) σ H (.bool b) := fun H1 e Q q =>
  ev_ref S h H1 e _ fun H2 e2 => ⟨⟨fs, (e.trans e2) _ _ hd⟩, .inl ⟨.ref D, .ref D, b, rfl, .own D, hk, q _ H2 e2 (.bl b)⟩⟩
theorem ret_xf {D : Ends} {v : V} (S : Sl K σ H ρ) (h : ρ[1]? = some (.ref a)) (hd : H dd = some (.xd [("rest", v)])) (k : ∀ r H', Same H H' → H' r = some (.tup [.str "rest", v]) → D.rt (.ref r) H') :
    tRet (tTup (tCons (tC (.str "rest")) (tCons (tXf a (.ref C) (some dd) C "rest" (tVar 1)) tNil))) D σ H := by
  show tVar 1 σ H (fun x H1 => x = .ref a ∧ Value.ref C = .ref C ∧ ∃ (dd' : Addr) (fs : List (Str × V)) (v' : V), some dd = some dd' ∧ H1 dd' = some (.xd fs) ∧ fs.lookup ("rest" : Str) = some v' ∧ ([V.str "rest", v'].length ≤ sizeLine ∧ ∀ p, H1 p = none → D.rt (.ref p) (upd H1 p (.tup [.str "rest", v']))))
  exact ev_ref S h H (Same.refl _) _ fun H4 e4 => ⟨rfl, rfl, dd, [("rest", v)], v, rfl, e4 _ _ hd, rfl, by show 2 ≤ sizeLine; decide, fun r hr => k r _ (e4.trans (Same.new hr)) upd_same⟩
theorem ev_isE2 {D2 : Addr} (S : Sl K σ H ρ) (h : ρ[1]? = some (.ref a)) (hd : H dd = some (.xd fs)) (hk : PySem.W.kitAny K (.ref C) [.ref D, .ref D2] = some b) :
    EvD (tCB (fun xs H Q => (∃ fs, H dd = some (.xd fs)) ∧ rIsEd K C a xs H Q) (tCons (tVar 1) (tCons (tTup (tCons (tC (.ref D)) (tCons (tC (.ref D2)) tNil))) tNil))) σ H (.bool b) := fun H1 e Q q =>
  ev_ref S h H1 e _ fun H2 e2 => ⟨by show 2 ≤ sizeLine; decide, fun p hp => ⟨⟨fs, (Same.new hp) _ _ ((e.trans e2) _ _ hd)⟩, .inr ⟨p, _, [.ref D, .ref D2], b, rfl, upd_same, .cons (.own D) (.cons (.own D2) .nil), hk, q _ _ (e2.trans (Same.new hp)) (.bl b)⟩⟩⟩
end
theorem heard_gives {X : Cx} {C g : Addr} {cdg : Value} {q : Str} (T : Txt X.K X.mg) (Hd : Hrd X.K X.mg C) (hu : ∀ (s : Shared) (H : Hp), (X.A.deeper (envOfC "_law_heard" (defScope s__law_heard) s.heap.objs.size g cdg)).units + 64 < cLine) :
    GivesTo X ["_law_deed", "e", "_law_families"] "_law_heard" (defScope s__law_heard) g cdg (defBody s__law_heard) "_law_deed" q (TTheard C) := by
  intro f c' s H Q tl act hc h
  obtain ⟨CB, CV, CP, CL, CT, CN, mB, mV, mP, mL, mT, mN, xB, kV, kP, kA, kN⟩ := Hd.ex
  refine ⟨_, pss_one (ps_try_as (X := (cxOf C8.CX0 X.prog X.w X.K X.mg X.base ["_law_deed", "e", "_law_families"] "_law_heard" (defScope s__law_heard) g cdg X.A X.stack s H C8.E0).nox) (x := "BeatError") (n := "e") (c := .ref CB) (i := 1)
      (tb := fun W D σ H => ∃ Ech : XK, (∀ cls d σ' H', Ech cls d H' → W cls d σ' H') ∧ σ[0]? = some (some (.ref f)) ∧ H c' = some (CodeO c' q) ∧ tl Ech H (fun v H' => [V.str "got", v].length ≤ sizeLine ∧ ∀ p, H' p = none → D.rt (.ref p) (upd H' p (.tup [.str "got", v]))))
      (ts := fun a cls d D σ H => cls = .ref C ∧ ∃ dd v, d = some dd ∧ (∃ σ0 : L2.St, σ = σ0.set 1 (some (.ref a))) ∧ H dd = some (.xd [("rest", v)]) ∧ ∀ r H'', Same H H'' → H'' r = some (.tup [.str "rest", v]) → D.rt (.ref r) H'')
      (Wout := fun _ _ _ _ => False)
      rfl rfl sc__law_heard.nd rfl rfl ⟨by rfl, by decide, .inl mB⟩ LamX.takes0 (fun W pn xe tk _ => ?_) (fun a oe cls d pn hz hf => ?_)), ?_⟩
  · refine ⟨fun pins s' σ H D I h' => ?_⟩
    obtain ⟨Ech, hW, h1, h2, h3⟩ := h'
    have hp := fun p1 p2 => act W pn xe Ech p1 p2 tk hW
    exact PSs.run (pss_one (ps_ret (pe_tup (pa_cons pe_str (pa_cons (hp _ _) pa_nil))))) pins s' σ H D I ⟨h1, h2, h3⟩
  · refine ⟨fun pins s' σ' H' D I h' => ?_⟩
    obtain ⟨rfl, dd, v, rfl, ⟨σ0, rfl⟩, h2, h3⟩ := h'
    have h1 : (σ0.set 1 (some (V.ref a)))[1]? = some (some (.ref a)) := by
      have z := I.len
      rw [List.length_set] at z
      exact List.getElem?_set_self (by rw [z]; show 1 < 3; decide)
    have R := call_isEd (X := (cxOf C8.CX0 X.prog X.w X.K X.mg X.base ["_law_deed", "e", "_law_families"] "_law_heard" (defScope s__law_heard) g cdg X.A X.stack s H C8.E0).nox) (a := a) (D := C) (dd := dd) (oe := oe) (pn := pn) Hd.exc hz hf
    have un := hu s H
    have S : Sl X.K (σ0.set 1 (some (V.ref a))) H' [.un, .ref a, .un] := ⟨I.len, fun i o x e1 e2 => by
      match i with
      | 0 => cases e2; exact True.intro
      | 1 => cases e2; rw [h1] at e1; cases e1; rfl
      | 2 => cases e2; exact True.intro
      | i + 3 => cases e2⟩
    refine PSs.run (pss_cons (ps_set (i := 2) sc__law_heard.nd rfl (Or.inl rfl) (pe_lst (pa_cons (pe_callB R (by rfl) T.isinstance (by decide +kernel) (pa_cons (pv 1) (pa_cons (pe_glob (v := .ref CV) (by rfl) mV rfl) pa_nil))) (pa_cons (pe_callB R (by rfl) T.isinstance (by decide +kernel) (pa_cons (pv 1) (pa_cons (pe_glob (v := .ref CP) (by rfl) mP rfl) pa_nil))) (pa_cons (pe_callB R (by rfl) T.isinstance (by decide +kernel) (pa_cons (pv 1) (pa_cons (pe_tup (pa_cons (pe_glob (v := .ref CL) (by rfl) mL rfl) (pa_cons (pe_glob (v := .ref CT) (by rfl) mT rfl) pa_nil))) pa_nil))) pa_nil)))))
      (pss_cons (ps_if (PW.pt (pw_and (pt_val (pe_callB R (by rfl) T.isinstance (by decide +kernel) (pa_cons (pv 1) (pa_cons (pe_glob (v := .ref CN) (by rfl) mN rfl) pa_nil)))) (pw_and1 (pt_cmpR (k_op_eqD X.K un) (pv 2) (pe_lst (pa_cons pe_bl (pa_cons pe_bl (pa_cons pe_bl pa_nil)))) (nomark _))))) (pss_one ps_never) pss_nil)
      (pss_cons (ps_if (PW.pt (pw_and (pt_val (pe_callB R (by rfl) T.isinstance (by decide +kernel) (pa_cons (pv 1) (pa_cons (pe_glob (v := .ref C) (by rfl) Hd.un rfl) pa_nil)))) (pw_and1 (pt_cmpR (k_op_eqD X.K un) (pv 2) (pe_lst (pa_cons pe_bl (pa_cons pe_bl (pa_cons pe_bl pa_nil)))) (nomark _))))) (pss_one (ps_ret (pe_tup (pa_cons pe_str (pa_cons (pe_xf Hd.xf Hd.fld hz hf (pv 1)) pa_nil))))) pss_nil)
      (pss_cons ps_never (pss_one ps_never))))) pins s' _ H' D I ?_
    refine sq (st_setN S (el_lst (ea_cons (ev_isE S rfl h2 kV) (ea_cons (ev_isE S rfl h2 kP) (ea_cons (ev_isE2 S rfl h2 kA) ea_nil))) (by simp)) fun p vs σ1 H1 hp e1 hl rl S1 => ?_)
    have h21 := e1 _ _ h2
    refine sq (st_if (b := false) (et_and (b := false) (c := false) (et_B (ev_isE S1 rfl h21 kN)) fun z => nomatch z) (fun z => nomatch z) fun _ H2 e2 => ?_)
    have h22 := e2 _ _ h21
    have S2 := S1.same e2
    refine sq (st_if (b := true) (et_and (b := true) (c := true) (et_B (ev_isE S2 rfl h22 Hd.own)) fun _ => (et_test (ev_eqL (EvX.r (ev_ref S2 (k := 2) rfl) ⟨vs, SqL.of (e2 _ _ hl), rl.same e2⟩) (EvL.r (el_lst (ea_cons ev_bl (ea_cons ev_bl (ea_cons ev_bl ea_nil))) (by simp))) (bools3 _ _ _) (bools3 _ _ _))).to (by decide)) (fun _ H3 e3 => ?_) fun z => nomatch z)
    have h23 := e3 _ _ h22
    have e13 := (e1.trans e2).trans e3
    exact ret_xf (S2.same e3) rfl h23 fun r H4 e4 h4 => h3 r _ (e13.trans e4) h4
  · exact ⟨_, fun cls d σ' H' ⟨e1, dd, v, e2, hd, k⟩ => ⟨true, by rw [e1]; exact xB, fun _ a ha => ⟨e1, dd, v, e2, ⟨σ', rfl⟩, hd, k⟩, fun z => nomatch z⟩, rfl, hc, h⟩
end SB
/-! Defs that show nested data: no guard stands around them. -/
namespace SB
open PySem PySem.Spec PyProof.Rows L2 RZ LamX
structure FnOkG (P : Program) (w : World) (K : PySem.W.Frag) (mg : Str → Option Value) (base : Heap) (CX : CXT) (k : Nat) (f : Addr) (fd : FuncData) (ps : List Str) (sp : Sp) : Prop where
  len : ∀ vs H Q E, sp vs H Q E → vs.length = ps.length
  go : ∀ (A : Around) (outer : List Env) (s : Shared) (H : Hp) (args : Args) (us : List Value) (vs : List V) (Q : VK) (E : XK), A.guards = some [] → Room k A → Env0 P w K mg base A outer s H → BindsTo s fd args (ps.zip us) → Vals vs us → sp vs H Q E →
    codeAny (model P w) A (.call (.ref f) args) (CR CX outer P w H s Q E) s
structure FunC (K : PySem.W.Frag) (x : Str) (st : Stmt) (c f : Addr) (fd : FuncData) : Prop where
  ex : ∃ (oc : Value) (od : Option Addr) (kV doc pm : Value) (an : Option Addr) (ct : Value) (osl : Array (Option Value)),
    fd = PySem.W.fnOf x x (defArgs st) (defBody st) (defScope st) .none kV doc pm an (.ref c) ct ∧ K.lookup f = some ⟨oc, od, .func fd, osl⟩ ∧ PySem.W.codeIn K (.ref c) x = true
  kp : PySem.W.keepIn K (.ref f) = true
section
variable {P : Program} {w : World} {K : PySem.W.Frag} {mg : Str → Option Value} {base : Heap}
theorem FunC.okG {x : Str} {st : Stmt} {c f : Addr} {fd : FuncData} {N ps : List Str} {k : Nat} {sp : Sp} (F : FunC K x st c f fd) (S : FnScope N ps (defScope st)) (len : ∀ vs H Q E, sp vs H Q E → vs.length = ps.length)
    (hb : ∀ (A : Around) (outer : List Env) (s : Shared) (H : Hp) (vs : List V) (Q : VK) (E : XK), A.guards = some [] → Room k (A.deeper (envOfC x (defScope st) s.heap.objs.size f (.ref c))) → sp vs H Q E →
      ∃ t, PSs (cxOf CX0 P w K mg base N x (defScope st) f (.ref c) A outer s H E) (defBody st) t ∧ t { nx := fun _ H' => Q .non H', rt := Q } (L2.start N vs) H) : FnOkG P w K mg base CX0 (k + 1) f fd ps sp := by
  obtain ⟨oc, od, kV, doc, pm, an, ct, osl, rfl, lk, hcd⟩ := F.ex
  exact ⟨len, fun A outer s H args us vs Q E hg hr e0 hbn r hs => run_ofS lk hcd S hr e0 hbn r (len _ _ _ _ hs) fun hr' => hb A outer s H vs Q E hg hr' hs⟩
theorem FunC.binds {x : Str} {st : Stmt} {c f : Addr} {fd : FuncData} {ps : List Str} (F : FunC K x st c f fd)
    (h : ∀ (kV doc pm : Value) (an : Option Addr) (cdv ct : Value) (us : List Value), us.length = ps.length → bindArgs (PySem.W.fnOf x x (defArgs st) (defBody st) (defScope st) .none kV doc pm an cdv ct) ⟨us, []⟩ = pure (ps.zip us)) : Binds K fd ps [] := by
  obtain ⟨oc, od, kV, doc, pm, an, ct, osl, rfl, lk, hcd⟩ := F.ex
  exact .all (h kV doc pm an (.ref c) ct)
end
/-- such a def, as its callers see it -/
structure FnG (P : Program) (w : World) (K : PySem.W.Frag) (mg : Str → Option Value) (base : Heap) (x : Str) (k : Nat) (ps : List Str) (sp : Sp) : Prop where
  ex : ∃ f fd, FnOkG P w K mg base CX0 k f fd ps sp ∧ mg x = some (.ref f) ∧ PySem.W.keepIn K (.ref f) = true ∧ Binds K fd ps []
section
variable {X : Cx} {k : Nat} {ps : List Str} {sp : Sp} {x : Str} {p pos : Pos} {e : Expr} {es : List Expr} {t : TA}
theorem pe_fnG (F : FnG X.prog X.w X.K X.mg X.base x k ps sp) (hgu : X.A.guards = some []) (hr : Room k X.A) (hg : Gl X x) (ha : PA X (e :: es) t) (hdb : (x == ("__debug__" : Str)) = false := by decide) (he : starEach (e :: es) X.env = (false, eval e X.env) :: starEach es X.env := by rfl)
    (hpl : (backTo pos (starEach es X.env)).any (·.1) = false := by rfl) : PE X (.Call (.Name x p) (e :: es) [] pos) (tCall sp [] E0 t) := by
  obtain ⟨f, fd, F1, hm, hk, hb⟩ := F.ex
  refine ⟨fun pins s σ H Q I h => wpAny_Call_Name_kw (ld_glob I hg hm (PySem.W.callWith_K (h₀ := X.base) I.ok.mod.kin hk (thn (ha.run pos pins s σ H _ I h) fun us s1 ⟨vs, H1, I1, r, q⟩ => ⟨I1.kIn, ?_⟩) he hpl) hdb)⟩
  have q : sp (vs ++ []) H1 Q E0 := q
  rw [List.append_nil] at q
  have hl : us.length = ps.length := by rw [← r.length, F1.len _ _ _ _ q]
  have bn := hb s1 us I1.kIn (by rw [List.append_nil]; exact hl)
  rw [List.append_nil] at bn
  refine wpAny_call (codeAny_mono (F1.go X.A X.stack s1 H1 ⟨us, []⟩ us vs Q E0 hgu hr I1.env0 bn r q) fun res s2 hq => ?_)
  match res with
  | .error _ => exact False.elim hq
  | .ok (.ret _) => exact I1.after hq
  | .ok .next => exact hq.elim
  | .ok .brk => exact hq.elim
  | .ok .cont => exact hq.elim
end
/-- repr of nested data, of a text -/
def rRepr (K : PySem.W.Frag) : List V → Hp → VK → Prop := fun xs H Q => ∃ (x : V) (d : PyData), xs = [x] ∧ Dp K H x d ∧ ((∃ y, d = .str y) ∨ ∃ ds, d = .tuple ds) ∧ d.showable = true ∧ d.hasDict = false ∧ d.depth ≤ 20 ∧ d.shown.length ≤ sizeLine ∧ Q (.str d.shown) H
theorem cr_repr {X : Cx} (hg : X.A.guards = some []) (hu : X.A.units + 64 < cLine) : CallR X (.builtin "repr") (rRepr X.K) := by
  intro pins s σ H xs us Q I r h
  obtain ⟨x, d, rfl, hd, hf, h1, h2, h3, h4, q⟩ := h
  cases r with
  | cons rx rr =>
    cases rr
    rcases hf with ⟨y, rfl⟩ | ⟨ds, rfl⟩
    · cases hd
      obtain ⟨t, e⟩ := (show ∃ t, _ = Value.str y t from rx)
      subst e
      exact PySem.P.repr_of_str ⟨.str (reprText y), H, I.tok _, (show RelV (.str _) (.str _ _) from ⟨_, rfl⟩), by rw [PyData.shown] at q; exact q⟩ (by rw [PyData.shown] at h4; exact h4)
    · obtain ⟨as, R⟩ := Dp.reads I _ _ _ hd rx
      cases hd with
      | @tup a xs _ e1 e2 =>
        cases (show _ = Value.ref a from rx)
        exact repr_of_reads' R h1 (PyData.noDict_hsm h2) hg (by omega) (fun _ _ z => z) (fun h' u tk hk => ⟨.str (PyData.tuple ds).shown, H, I.kept (t' := tk) hk, (show RelV (.str _) (.str _ u) from ⟨_, rfl⟩), q⟩) h4
end SB
/-! _law_heard(lambda: signed_heap(v)) -/
namespace SB
open PySem PySem.Spec PyProof.Rows L2 RZ LamX
theorem extN_kp {K : PySem.W.Frag} {H H' : Hp} (e : ExtN H H') : Kp K H H' := by
  refine ⟨fun a xs h => e a _ h (fun ps z => nomatch z), fun a xs h => ?_⟩
  rcases h with (h | ⟨o, h⟩) | h
  · exact .inl (.inl (e a _ h (fun ps z => nomatch z)))
  · exact .inl (.inr ⟨o, e a _ h (fun ps z => nomatch z)⟩)
  · exact .inr h
/-- what the written part says of _law_heard -/
structure HdF (K : PySem.W.Frag) (mg : Str → Option Value) (C : Addr) : Prop where
  ex : ∃ (g : Addr) (oc : Value) (od : Option Addr) (kV doc pm : Value) (an : Option Addr) (cdg ct : Value) (osl : Array (Option Value)),
    K.lookup g = some ⟨oc, od, .func (PySem.W.fnOf "_law_heard" "_law_heard" (defArgs s__law_heard) (defBody s__law_heard) (defScope s__law_heard) .none kV doc pm an cdg ct), osl⟩ ∧ PySem.W.codeIn K cdg "_law_heard" = true ∧ PySem.W.keepIn K (.ref g) = true ∧ mg "_law_heard" = some (.ref g)
  hd : Hrd K mg C
theorem bind_heard (kV doc pm : Value) (an : Option Addr) (cdv ct : Value) (us : List Value) (h : us.length = ["_law_deed"].length) : bindArgs (PySem.W.fnOf "_law_heard" "_law_heard" (defArgs s__law_heard) (defBody s__law_heard) (defScope s__law_heard) .none kV doc pm an cdv ct) ⟨us, []⟩ = pure ((["_law_deed"] : List Str).zip us) :=
  match us, h with | [_], _ => rfl
theorem pe_heard {X : Cx} {C c Pt : Addr} {k i : Nat} {T : List (Addr × Str)} {y : Str} {params : Arguments} {scope : Scope} {p q1 q2 q3 lpos pos : Pos} (Tx : Txt X.K X.mg) (Hf : HdF X.K X.mg C) (G : FnX X.prog X.w X.K X.mg X.base "signed_heap" k ["voice"] (sp_signed_heap C)) (TB : TabB X.base X.mg c Pt) (hcode : X.env.code = .ref c)
    (hmT : (Pt, X.env.qual ++ "<lambda>") ∈ T) (hu : ∀ p ∈ T, p.1 = Pt → p.2 = X.env.qual ++ "<lambda>") (hr : Room (k + 2) X.A) (hg : Gl X "_law_heard") (L : LamS X.env.scope scope) (hdef : defaultsOf params X.env = ([], []))
    (hbind : ∀ (q : Str) (cl : List (Str × Addr)) (pm cv ctv : Value), bindArgs (PySem.W.kla_fn "<lambda>" q params (.Call (.Name "signed_heap" q1) [.Name y q2] [] q3) scope cl pm cv ctv) ⟨[], []⟩ = pure [])
    (hgs : scope.names.lookup ("signed_heap" : Str) = some .globalImplicit) (hN : X.N[i]? = some y) (hv : scope.names.lookup y = some .free) (hdy : (y == ("__debug__" : Str)) = false) (hcy : (y == ("__classdict__" : Str)) = false) :
    PE X (.Call (.Name "_law_heard" p) [.Lambda params (.Call (.Name "signed_heap" q1) [.Name y q2] [] q3) scope lpos] [] pos) (tLam T (TTheard C) fun E => tCall (sp_signed_heap C) [] E (tCons (tVar i) tNil)) := by
  obtain ⟨g, oc, od, kV, doc, pm, an, cdg, ct, osl, lk, hcd, hk, hm⟩ := Hf.ex
  refine pe_lamcall (a := "_law_deed") (Ng := ["_law_deed", "e", "_law_families"]) hg hm hk lk hcd (.all (bind_heard kV doc pm an cdg ct)) sc__law_heard rfl (Or.inl rfl) (heard_gives Tx Hf.hd fun s H => (hr.deeper _).units) TB hcode hmT hu hr L hdef hbind fun A outer s H E f c' hr' => ?_
  exact pe_fnX G (takes_of rfl rfl rfl rfl) (fun _ _ _ _ h => h) hr' hgs (pa_cons (pe_var hN (Or.inr (Or.inr hv)) hdy hcy) pa_nil)
section
variable {K : PySem.W.Frag} {σ : L2.St} {H : Hp} {ρ : List Sd} {C : Addr} {T : List (Addr × Str)} {i : Nat} {v : List Int} {Q : VK}
/-- of a silent voice: its heap -/
theorem heard_got (S : Sl K σ H ρ) (hi : ρ[i]? = some (.dat (tI v))) (hT : Tabs T H) (hn : v.length ∈ sizes) (hs : silentB v v.length = true)
    (k : ∀ r x H', ExtN H H' → Tabs T H' → H' r = some (.tup [.str "got", x]) → Dt H' x (.tuple ((signedL v.length v).map rD)) → Q (.ref r) H') : tLam T (TTheard C) (fun E => tCall (sp_signed_heap C) [] E (tCons (tVar i) tNil)) σ H Q :=
  ⟨hT, fun H1 e1 t1 => call_go (ta_cons (ev_var (S.kp (extN_kp e1)) hi H1 (Same.refl H1) _ fun x2 H2 e2 r2 => ta_nil ⟨x2, v, rfl, r2, hn, fun _ x H3 e3 r3 => ⟨by show 2 ≤ sizeLine; decide, fun p hp => k p x _ (e1.trans (ExtN.of ((e2.trans e3).trans (Same.new hp)))) (t1.ext ((e2.trans e3).trans (Same.new hp))) upd_same (r3.same (Same.new hp))⟩, (fun z => by rw [hs] at z; cases z)⟩))⟩
/-- of another one: its rest -/
theorem heard_rest (S : Sl K σ H ρ) (hi : ρ[i]? = some (.dat (tI v))) (hT : Tabs T H) (hn : v.length ∈ sizes) (hs : silentB v v.length = false)
    (k : ∀ r x H', ExtN H H' → Tabs T H' → H' r = some (.tup [.str "rest", x]) → Dt H' x (tI (restL v v.length)) → Q (.ref r) H') : tLam T (TTheard C) (fun E => tCall (sp_signed_heap C) [] E (tCons (tVar i) tNil)) σ H Q :=
  ⟨hT, fun H1 e1 t1 => call_go (ta_cons (ev_var (S.kp (extN_kp e1)) hi H1 (Same.refl H1) _ fun x2 H2 e2 r2 => ta_nil ⟨x2, v, rfl, r2, hn, (fun z => by rw [hs] at z; cases z), fun _ d x H3 e3 h3 r3 => ⟨rfl, d, x, rfl, h3, fun r H4 e4 h4 => k r x H4 (e1.trans (ExtN.of ((e2.trans e3).trans e4))) (t1.ext ((e2.trans e3).trans e4)) h4 (r3.same e4)⟩⟩))⟩
end
end SB
/-! What may be shown. -/
namespace SB
open PySem PySem.Spec PyProof.Rows L2 RZ
def Shw (d : PyData) : Prop := d.showable = true ∧ d.hasDict = false ∧ d.depth ≤ 20 ∧ d.shown.length ≤ sizeLine
theorem shown_ints : ∀ {ns : List Int}, (∀ x ∈ ns, x.natAbs.log2 < 1920) → PyData.showableAll (ns.map .int) = true ∧ PyData.hasDictAll (ns.map .int) = false ∧ (PyData.shownAll (ns.map .int)).length = ns.length ∧ ((PyData.shownAll (ns.map .int)).map (·.length)).sum ≤ ns.length * 1921
  | [], _ => by simp [PyData.showableAll, PyData.hasDictAll, PyData.shownAll]
  | n :: ns, h => by
    obtain ⟨a, b, c, d⟩ := shown_ints (ns := ns) fun x hx => h x (List.mem_cons_of_mem _ hx)
    have hn := h n List.mem_cons_self
    have hl := int_text_len_1921 hn
    rw [List.map_cons, PyData.showableAll, PyData.hasDictAll, PyData.shownAll, a, b, PyData.showable, PyData.hasDict, PyData.shown, decide_eq_true hn]
    refine ⟨rfl, rfl, by rw [List.length_cons, List.length_cons, c], ?_⟩
    rw [List.map_cons, List.sum_cons, List.length_cons, Nat.succ_mul]
    omega
theorem tI_len {ns : List Int} (hl : ns.length ≤ 120) (hb : ∀ x ∈ ns, x.natAbs.log2 < 1920) : (PyData.shown (tI ns)).length ≤ 240000 := by
  obtain ⟨a, b, c, d⟩ := shown_ints hb
  have h := tupleText_len_le (PyData.shownAll (ns.map .int))
  rw [c] at h
  rw [PyData.shown]
  have := Nat.mul_le_mul_right 1921 hl
  omega
theorem shw_tI {ns : List Int} (hl : ns.length ≤ 120) (hb : ∀ x ∈ ns, x.natAbs.log2 < 1920) : Shw (tI ns) := by
  obtain ⟨a, b, c, d⟩ := shown_ints hb
  refine ⟨by rw [PyData.showable]; exact a, by rw [PyData.hasDict]; exact b, by rw [PyData.depth, dep_ints]; decide, Nat.le_trans (tI_len hl hb) (by decide)⟩
theorem shw_two {d : PyData} {ns : List Int} (hd : d.showable = true ∧ d.hasDict = false ∧ d.depth ≤ 1 ∧ d.shown.length ≤ 100) (hl : ns.length ≤ 120) (hb : ∀ x ∈ ns, x.natAbs.log2 < 1920) : Shw (.tuple [d, tI ns]) := by
  obtain ⟨a, b, c, e⟩ := shown_ints hb
  have ht := tI_len hl hb
  refine ⟨?_, ?_, ?_, ?_⟩
  · rw [PyData.showable, PyData.showableAll, PyData.showableAll, PyData.showableAll, hd.1, PyData.showable, a]
    rfl
  · rw [PyData.hasDict, PyData.hasDictAll, PyData.hasDictAll, PyData.hasDictAll, hd.2.1, PyData.hasDict, b]
    rfl
  · rw [PyData.depth, PyData.depthAll, PyData.depthAll, PyData.depthAll, PyData.depth, dep_ints]
    have := hd.2.2.1
    omega
  · rw [PyData.shown, PyData.shownAll, PyData.shownAll, PyData.shownAll]
    have h := tupleText_len_le [d.shown, (tI ns).shown]
    have := hd.2.2.2
    simp only [List.map_cons, List.map_nil, List.sum_cons, List.sum_nil, List.length_cons, List.length_nil] at h
    refine Nat.le_trans h (Nat.le_trans (?_ : _ ≤ 300000) (by decide))
    omega
theorem shw_got : Shw (.str "got") := by
  refine ⟨by rw [PyData.showable], by rw [PyData.hasDict], by rw [PyData.depth]; decide, by rw [PyData.shown]; decide +kernel⟩
theorem shw_rest : Shw (.str "rest") := by
  refine ⟨by rw [PyData.showable], by rw [PyData.hasDict], by rw [PyData.depth]; decide, by rw [PyData.shown]; decide +kernel⟩
theorem got_ne_rest : (PyData.str "got").shown ≠ (PyData.str "rest").shown := by
  rw [PyData.shown, PyData.shown]
  decide +kernel
theorem small_str (y : Str) (h : (reprText y).length ≤ 100) : (PyData.str y).showable = true ∧ (PyData.str y).hasDict = false ∧ (PyData.str y).depth ≤ 1 ∧ (PyData.str y).shown.length ≤ 100 :=
  ⟨by rw [PyData.showable], by rw [PyData.hasDict], by rw [PyData.depth]; decide, by rw [PyData.shown]; exact h⟩
theorem small_bool (b : Bool) : (PyData.bool b).showable = true ∧ (PyData.bool b).hasDict = false ∧ (PyData.bool b).depth ≤ 1 ∧ (PyData.bool b).shown.length ≤ 100 :=
  ⟨by rw [PyData.showable], by rw [PyData.hasDict], by rw [PyData.depth]; decide, by rw [PyData.shown]; cases b <;> decide +kernel⟩
theorem log2_of {x : Int} {k : Nat} (h : x.natAbs < 2 ^ k) (hk : k ≤ 1900) : x.natAbs.log2 < 1920 := by
  by_cases e : x.natAbs = 0
  · rw [e]; decide
  · have := (Nat.log2_lt e).mpr h
    omega
section
variable {K : PySem.W.Frag}
theorem ev_repr {σ : L2.St} {H : Hp} {te : TE} {d : PyData} (h : EvD te σ H d) (hf : (∃ y, d = .str y) ∨ ∃ ds, d = .tuple ds) (hs : Shw d) : EvD (tCB (rRepr K) (tCons te tNil)) σ H (.str d.shown) := fun H1 e Q q =>
  h H1 e _ fun v H2 e2 r2 => ⟨v, d, rfl, r2.dp, hf, hs.1, hs.2.1, hs.2.2.1, hs.2.2.2, q _ H2 e2 (.str _)⟩
theorem scal_str {x y : Str} : decide (V.str x = V.str y) = decide (x = y) := by
  by_cases z : x = y
  · rw [z, decide_eq_true rfl, decide_eq_true rfl]
  · rw [decide_eq_false z, decide_eq_false (fun u => z (by injection u))]
theorem ev_eqS {σ : L2.St} {H : Hp} {ta tb : TE} {x y : Str} (ha : EvD ta σ H (.str x)) (hb : EvD tb σ H (.str y)) : EvD (tOp rEq ta tb) σ H (.bool (decide (x = y))) := fun H1 e Q q =>
  ha H1 e _ fun v H2 e2 r2 => hb H2 (e.trans e2) _ fun w H3 e3 r3 => by
    rw [r2.str', r3.str']
    refine ⟨rfl, ?_⟩
    rw [scal_str]
    exact q _ H3 (e2.trans e3) (.bl _)
theorem ev_neS {σ : L2.St} {H : Hp} {ta tb : TE} {x y : Str} (ha : EvD ta σ H (.str x)) (hb : EvD tb σ H (.str y)) : EvD (tOp rNe ta tb) σ H (.bool (!decide (x = y))) := fun H1 e Q q =>
  ha H1 e _ fun v H2 e2 r2 => hb H2 (e.trans e2) _ fun w H3 e3 r3 => by
    rw [r2.str', r3.str']
    refine ⟨rfl, ?_⟩
    rw [scal_str]
    exact q _ H3 (e2.trans e3) (.bl _)
theorem ev_neB {σ : L2.St} {H : Hp} {ta tb : TE} {x y : Bool} (ha : EvD ta σ H (.bool x)) (hb : EvD tb σ H (.bool y)) : EvD (tOp rNe ta tb) σ H (.bool (!decide (x = y))) := fun H1 e Q q =>
  ha H1 e _ fun v H2 e2 r2 => hb H2 (e.trans e2) _ fun w H3 e3 r3 => by
    rw [r2.bl', r3.bl']
    refine ⟨rfl, ?_⟩
    have : decide (V.bl x = V.bl y) = decide (x = y) := by cases x <;> cases y <;> rfl
    rw [this]
    exact q _ H3 (e2.trans e3) (.bl _)
end
theorem eqvAll_ints : ∀ ns : List Int, PyData.eqvAll (ns.map .int) (ns.map .int) = true
  | [] => by rw [List.map_nil, PyData.eqvAll]
  | n :: ns => by rw [List.map_cons, PyData.eqvAll, eqvAll_ints ns, PyData.eqv]; simp
theorem eqv_tI (ns : List Int) : PyData.eqv (tI ns) (tI ns) = true := by rw [PyData.eqv]; exact eqvAll_ints ns
end SB
namespace SB
open PySem PySem.Spec PyProof.Rows L2 RZ LamX
theorem feed_ext {H H' : Hp} {a : Addr} (f : FeedOk H a) (e : ExtN H H') : FeedOk H' a := by
  obtain ⟨l, ns, i, j, c, h1, h2, h3⟩ := f
  exact ⟨l, ns, i, j, c, e _ _ h1 (fun ps z => nomatch z), e _ _ h2 (fun ps z => nomatch z), h3⟩
theorem tabs_sb {TT : List (Addr × Str)} {H H' : Hp} {a : Addr} (t : Tabs TT H) (f : FeedOk H a) (s : Sb a H H') : Tabs TT H' := fun p hp => by
  obtain ⟨ps, h1, h2, h3⟩ := t p hp
  obtain ⟨_, _, _, _, _, g, _⟩ := f
  refine ⟨ps, s _ _ (fun z => ?_) h1, h2, fun pos cv hc => ?_⟩
  · rw [z, g] at h1
    cases h1
  · obtain ⟨c, e, hcO⟩ := h3 pos cv hc
    refine ⟨c, e, s _ _ (fun z => ?_) hcO⟩
    rw [z, g] at hcO
    cases hcO
/-- all but a and the tables stands -/
def Sbn (a : Addr) (H H' : Hp) : Prop := ∀ b o, b ≠ a → H b = some o → (∀ ps, o ≠ .tbl ps) → H' b = some o
theorem Sbn.refl {a : Addr} (H : Hp) : Sbn a H H := fun _ _ _ h _ => h
theorem Sbn.trans {a : Addr} {A B C : Hp} (x : Sbn a A B) (y : Sbn a B C) : Sbn a A C := fun b o n h t => y b o n (x b o n h t) t
theorem Sb.sbn {a : Addr} {H H' : Hp} (s : Sb a H H') : Sbn a H H' := fun b o n h _ => s b o n h
theorem Sbn.tp {a : Addr} {H H' : Hp} (s : Sbn a H H') (f : FeedOk H a) : Tp H H' := by
  obtain ⟨l, ns, i, j, c, h⟩ := f
  refine ⟨fun b xs q => s b _ (fun z => by rw [z, h.1] at q; cases q) q (fun ps z => nomatch z), fun b o u q => s b _ (fun z => by rw [z, h.1] at q; cases q) q (fun ps z => nomatch z)⟩
theorem Sbn.kp {K : PySem.W.Frag} {a : Addr} {H H' : Hp} (s : Sbn a H H') (f : FeedOk H a) : Kp K H H' := by
  obtain ⟨l, ns, i, j, c, f⟩ := f
  refine ⟨fun b xs h => s b _ (fun z => by rw [z, f.1] at h; cases h) h (fun ps z => nomatch z), fun b xs h => ?_⟩
  rcases h with (h | ⟨o, h⟩) | h
  · exact .inl (.inl (s b _ (fun z => by rw [z, f.1] at h; cases h) h (fun ps z => nomatch z)))
  · exact .inl (.inr ⟨o, s b _ (fun z => by rw [z, f.1] at h; cases h) h (fun ps z => nomatch z)⟩)
  · exact .inr h
end SB
/-! The law's own call: from the head's heap to the walk, for a def that wants no guard around it. -/
namespace SB
open PySem PySem.Spec PyProof.Rows L2 RZ LamX
abbrev bareTab : Obj := { cls := .none, data := .fields #[] }
abbrev scrObj (us : List Value) : Obj := { cls := .type "list", data := .seq us.toArray }
theorem first_heap {K : PySem.W.Frag} {a : Addr} {ns : List Int} {us : List Value} (Tb : List Addr) (hp : Heap) (kin : K.In hp) (scr : hp.get? a = some (scrObj us)) (na : a ∉ Tb) (rel : Vals (ns.map V.int) us) (sz : us.length ≤ sizeLine) :
    ∃ H : Hp, (∀ b ∈ Tb, H b = some (.tbl #[])) ∧ (∀ b, b ∉ Tb → H b = none ∨ (b = a ∧ K.lookup a = none ∧ H b = some (.frz (scrObj us) (.lst (ns.map V.int))))) ∧ SqL K H a (ns.map V.int) := by
  by_cases q : K.lookup a = none
  · refine ⟨fun b => if b ∈ Tb then some (.tbl #[]) else if b = a then some (.frz (scrObj us) (.lst (ns.map V.int))) else none, fun b hb => if_pos hb, fun b hb => ?_, .inl (.inr ⟨scrObj us, ?_⟩)⟩
    · by_cases e : b = a
      · exact .inr ⟨e, q, (if_neg hb).trans (if_pos e)⟩
      · exact .inl ((if_neg hb).trans (if_neg e))
    · exact (if_neg na).trans (if_pos rfl)
  · obtain ⟨o, ho⟩ := Option.ne_none_iff_exists'.mp q
    have e := (kin a o ho).symm.trans scr
    cases e
    exact ⟨fun b => if b ∈ Tb then some (.tbl #[]) else none, fun b hb => if_pos hb, fun b hb => .inl (if_neg hb), .inr ⟨_, us.toArray, _, ho, rfl, rfl, rfl, by simpa using sz, by simpa using rel⟩⟩
theorem call_end {P : Program} {w : World} {K : PySem.W.Frag} {mg mb : Str → Option Value} {k : Nat} {fa a : Addr} {tb : List (Addr × Addr)} {fd : FuncData} {x : Str} {pr : Sp} {s : Shared} {us : List Value} {ns : List Int}
    (kin : K.In s.heap) (gl : s.heap.Ns mainGlobals mg) (bl : s.heap.Ns builtinsNs mb) (bb : ∀ y : Str, y ≠ "__name__" → mb y = bootBuiltins y) (lim : s.heap.NoLimit) (gn : s.gens = #[])
    (bare : ∀ p ∈ tb, s.heap.get? p.2 = some bareTab) (away : ∀ p ∈ tb, K.lookup p.2 = none) (codes : ∀ p ∈ tb, PySem.W.CodeHd s.heap p.1 p.2)
    (main : ∃ (m : Addr) (o : Obj), mg "__builtins__" = some (.ref m) ∧ m ≠ builtinsNs ∧ s.heap.get? m = some o ∧ o.cls = .type "module" ∧ o.dict = some builtinsNs ∧ o.data = .plain)
    (scr : s.heap.get? a = some (scrObj us)) (allInt : IntsAre us ns) (short : ns.length ≤ sizeLine) (room : Room k callerA)
    (F : ∀ base : Heap, K.In base → base.Ns mainGlobals mg → (∀ p ∈ tb, TabB base mg p.1 p.2) → FnOkG P w K mg base CX0 k fa fd [x] pr) (bind : ∀ (s : Shared) (u : Value), BindsTo s fd ⟨[u], []⟩ [(x, u)])
    (pre : ∀ H : Hp, (∀ p ∈ tb, H p.2 = some (.tbl #[])) → SqL K H a (ns.map V.int) → pr [.ref a] H (fun v _ => v = .bl true) fun _ _ _ => False) :
    codeAny (model P w) callerA (.call (.ref fa) ⟨[.ref a], []⟩) (fun r t => r = .ok (.ret (.bool true)) ∧ OldK s.heap t.heap ∧ t.os = s.os ∧ AllBare t.gens) s := by
  obtain ⟨Tb, eT⟩ : ∃ Tb, tb.map (·.2) = Tb := ⟨_, rfl⟩
  have inT : ∀ p ∈ tb, p.2 ∈ Tb := fun p hp => by rw [← eT]; exact List.mem_map_of_mem hp
  have ofT : ∀ b ∈ Tb, ∃ c, (c, b) ∈ tb := fun b hb => by
    rw [← eT] at hb
    obtain ⟨⟨c, d⟩, hp, rfl⟩ := List.mem_map.mp hb
    exact ⟨c, hp⟩
  have atT : ∀ b ∈ Tb, s.heap.get? b = some bareTab := fun b hb => by
    obtain ⟨c, hp⟩ := ofT b hb
    exact bare _ hp
  have na : a ∉ Tb := fun z => by
    have e := (atT a z).symm.trans scr
    have e2 := congrArg Obj.data (Option.some.inj e)
    cases e2
  have rel := vals_ints allInt
  have sz : us.length ≤ sizeLine := by rw [allInt.length]; exact short
  obtain ⟨H, t1, t2, seq⟩ := first_heap Tb s.heap kin scr na rel sz
  have out : ∀ {b : Addr} {o : Obj}, s.heap.get? b = some o → o.data ≠ .fields #[] → (∀ vs n, o.data ≠ .seq vs n) → H b = none := fun {b o} e n1 n2 => by
    by_cases hb : b ∈ Tb
    · have z := (atT b hb).symm.trans e
      cases z
      exact absurd rfl n1
    · rcases t2 b hb with z | ⟨z, _, _⟩
      · exact z
      · rw [z] at e
        have z2 := scr.symm.trans e
        cases z2
        exact absurd rfl (n2 _ _)
  have dictOut : ∀ {b : Addr} {o : Obj} {es : Array DictEntry} {n : Nat}, s.heap.get? b = some o → o.data = .dict es n → H b = none := fun {b o es n} e hd =>
    out e (by rw [hd]; exact fun z => nomatch z) (by rw [hd]; exact fun _ _ z => nomatch z)
  have spaces : ∀ {b : Addr} {m : Str → Option Value}, s.heap.Ns b m → (hidT s.heap H).Ns b m := fun {b m} h => by
    obtain ⟨o, es, n, e, hd, rest⟩ := h
    exact ⟨o, es, n, hidT_get e (dictOut e hd), hd, rest⟩
  have ok : HOk P w H s.heap := fun b o e => by
    by_cases hb : b ∈ Tb
    · have z := (t1 b hb).symm.trans e
      cases z
      exact atT b hb
    · rcases t2 b hb with z | ⟨rfl, _, z⟩
      · rw [z] at e
        cases e
      · have y := z.symm.trans e
        cases y
        exact ⟨scr, by rw [List.length_map]; exact short, us, 0, rel, scr⟩
  have kinB : K.In (hidT s.heap H) := fun b o e => by
    refine hidT_get (kin b o e) ?_
    by_cases hb : b ∈ Tb
    · obtain ⟨c, hp⟩ := ofT b hb
      have z := (away _ hp).symm.trans e
      cases z
    · rcases t2 b hb with z | ⟨rfl, q, _⟩
      · exact z
      · have z := q.symm.trans e
        cases z
  have tabs : ∀ p ∈ tb, TabB (hidT s.heap H) mg p.1 p.2 := fun p hp => by
    obtain ⟨gO, gE, gN, gH, gD, _⟩ := id gl
    refine ⟨?_, ?_, fun z => ?_⟩
    · obtain ⟨o, vs, f, tf, fl, tg, inF, tx, tt, q1, q2, q3, q4, rest⟩ := codes p hp
      refine ⟨o, vs, f, tf, fl, tg, inF, tx, tt, hidT_get q1 (out q1 (fun z => ?_) (by rw [q3]; exact fun _ _ z => nomatch z)), q2, q3, q4, rest⟩
      rw [q3] at z
      cases z
      simp at q4
    · obtain ⟨m, o, m1, m2, m3, m4, m5, m6⟩ := main
      refine ⟨m, o, m1, m2, fun z => ?_, fun z => ?_, hidT_get m3 (out m3 (by rw [m6]; exact fun z => nomatch z) (by rw [m6]; exact fun _ _ z => nomatch z)), m4, m5, m6⟩
      · rw [z] at m3
        have y := m3.symm.trans gH
        cases y
        have y := m6.symm.trans gD
        cases y
      · rw [z] at m3
        have y := m3.symm.trans (bare p hp)
        cases y
        cases m6
    · have y := (bare p hp).symm.trans (z ▸ gH)
      cases y
      cases gD
  have md : L2.Mod K mg (hidT s.heap H) := ⟨kinB, spaces gl, ⟨mb, spaces bl, bb⟩, by
    obtain ⟨mc, l1, l2⟩ := lim
    exact ⟨mc, spaces l1, l2⟩⟩
  have e0 : Env0 P w K mg (hidT s.heap H) callerA [] s H := ⟨rfl, md, fun b o e => of_hidT e, Nat.le_of_eq (hidT_size _ _), trivial, fun b hb => absurd (show b ∈ ([] : List Addr) from hb) (by simp), ok, .of_eq gn⟩
  have go := (F _ kinB (spaces gl) tabs).go callerA [] s H ⟨[.ref a], []⟩ [.ref a] [.ref a] (fun v _ => v = .bl true) (fun _ _ _ => False) rfl room e0 (bind s (.ref a)) (.cons rfl .nil) (pre H (fun p hp => t1 _ (inT p hp)) seq)
  refine codeAny_mono go fun r t h => ?_
  match r, h with
  | .ok (.ret u), h =>
    obtain ⟨v, H', hos, hbare, un, ok', hr, rfl⟩ := h
    obtain rfl : u = Value.bool true := hr
    have still : ∀ b o, b ∉ Tb → s.heap.get? b = some o → t.heap.get? b = some o := fun b o nb e => by
      rcases t2 b nb with z | ⟨_, _, z⟩
      · exact un.keep b o e z (fun y => absurd (show b ∈ ([] : List Addr) from y) (by simp)) (by simp)
      · have y1 := (ok b _ z).1
        have y2 := (ok' b _ (un.frzs b _ _ z)).1
        have y3 := y1.symm.trans e
        cases y3
        exact y2
    have more : ∀ b ∈ Tb, ∃ ps : Array Value, t.heap.get? b = some { cls := .none, data := .fields ps } := fun b hb => by
      obtain ⟨ps, z⟩ := un.tbls b #[] (t1 b hb)
      exact ⟨_, ok' b _ z⟩
    refine ⟨rfl, ⟨fun b o e => ?_, fun b o e => ?_⟩, hos, hbare⟩
    · by_cases hb : b ∈ Tb
      · obtain ⟨c, hp⟩ := ofT b hb
        obtain ⟨ps, z⟩ := more b hb
        have y := (atT b hb).symm.trans e
        cases y
        exact .inr (.inl ⟨((codes _ hp).tab (bare _ hp)).isCodeTable, rfl, #[], ps, rfl, by rw [Array.empty_append]; exact z⟩)
      · exact .inl (still b o hb e)
    · by_cases hb : b ∈ Tb
      · obtain ⟨ps, z⟩ := more b hb
        exact ⟨_, z⟩
      · exact ⟨o, still b o hb e⟩
/-- what the head tells of the law -/
def LawG (l : PySem.W.OpenLaw) (w : World) (K : PySem.W.Frag) (k n : Nat) (x : Str) (mg : Str → Option Value) (fa : Addr) (h : Heap) : Prop :=
  ∃ (fd : FuncData) (tb : List (Addr × Addr)) (pr : Sp), (∀ p ∈ tb, h.get? p.2 = some bareTab ∧ K.lookup p.2 = none ∧ PySem.W.CodeHd h p.1 p.2) ∧ (∀ (s : Shared) (u : Value), BindsTo s fd ⟨[u], []⟩ [(x, u)]) ∧
    (∀ (H : Hp) (a : Addr) (ns : List Int), ns.length ≤ n → (∀ p ∈ tb, H p.2 = some (.tbl #[])) → SqL K H a (ns.map V.int) → pr [.ref a] H (fun v _ => v = .bl true) fun _ _ _ => False) ∧
    ∀ base : Heap, K.In base → base.Ns mainGlobals mg → (∀ p ∈ tb, TabB base mg p.1 p.2) → FnOkG l.prog w K mg base CX0 k fa fd [x] pr
theorem walk_end {l : PySem.W.OpenLaw} {n k : Nat} {q : Program} {loose : List Str} {XP : (Str → Option Value) → Heap → Prop} {YP : World → Heap → Prop} {d : DefRec} {K : Params → PySem.W.Frag} {x : Str}
    (most : l.most = some n) (small : n ≤ sizeLine) (noDef : d.params.defaults = []) (room : Room k callerA) (hY : ∀ (w : World) (h : Heap), YP w h → (K w.params).In h)
    (told : ∀ (w : World) (mg : Str → Option Value) (fa : Addr) (h : Heap), YP w h → (K w.params).In h → h.Ns mainGlobals mg → mg d.name = some (.ref fa) → LawG l w (K w.params) k n x mg fa h) :
    PySem.W.WalkO q loose XP YP l.row.toRowW d [] (fun f vs => PySem.call f vs) := by
  refine Att.attach_callB most noDef fun w s0 s mg mb fa o pm cd doc a us ns Gr Y ho hd hcd nm scr allInt few bits gn => ?_
  have kin := hY w _ Y
  obtain ⟨fd, tb, pr, at3, bind, pre, F⟩ := told w mg fa _ Y kin Gr.T.g nm
  exact call_end kin Gr.T.g Gr.T.b Gr.T.builtins Gr.T.nolimit gn (fun p hp => (at3 p hp).1) (fun p hp => (at3 p hp).2.1) (fun p hp => (at3 p hp).2.2) Gr.T.bmain scr allInt (Nat.le_trans few small) room F bind fun H => pre H a ns few
end SB
namespace SB
open PySem PySem.Spec PyProof.Rows L2 RZ
open StX (tStar pa_star)
section
variable {P : Program} {w : World} {K : PySem.W.Frag} {mg : Str → Option Value} {base : Heap}
abbrev s_is_integer : Stmt := topS 11
theorem sc_is_integer : FnScope ["thing"] ["thing"] (defScope s_is_integer) := ⟨rfl, rfl, rfl, by decide +kernel, rfl, by decide +kernel, by decide +kernel⟩
theorem ok_is_integer {f : Addr} {fd : FuncData} (F : Fun K "is_integer" "is_integer" s_is_integer f fd) (T : Txt K mg)  : FnOk P w K mg base CX0 1 f fd ["thing"] sp_is_integer := by
  refine okD F sc_is_integer (by rintro _ _ ⟨i, rfl, rfl⟩; rfl) fun cdv A outer s H vs Q E ds d hr hR S kk => ?_
  obtain ⟨i, rfl, rfl⟩ := hR
  have hu := hu_of hr
  refine ⟨_, (pss_one (ps_ret (pe_and (pe_callB (k_call_isi K) (by rfl) T.isinstance (by decide +kernel) (pa_cons (pv 0) (pa_cons (pe_bltn (v := .ty "int") (u := .type "int") (by rfl) T.int (by decide +kernel) rfl) pa_nil))) (pe_one (pe_not (pe_callB (k_call_isi K) (by rfl) T.isinstance (by decide +kernel) (pa_cons (pv 0) (pa_cons (pe_bltn (v := .ty "bool") (u := .type "bool") (by rfl) T.bool (by decide +kernel) rfl) pa_nil)))))))), ?_⟩
  exact st_ret (ev_and (ev_isiI (b := true) (ev_var S rfl) (by decide +kernel)) fun _ => ev_not (ev_isiI (b := false) (ev_var S rfl) (by decide +kernel))) kk
end
end SB
namespace SB
open PySem PySem.Spec PyProof.Rows L2 RZ
open StX (tStar pa_star)
section
variable {P : Program} {w : World} {K : PySem.W.Frag} {mg : Str → Option Value} {base : Heap}
abbrev s_is_tuple_of : Stmt := topS 15
theorem sc_is_tuple_of : FnScope ["thing", "many"] ["thing", "many"] (defScope s_is_tuple_of) := ⟨rfl, rfl, rfl, by decide +kernel, rfl, by decide +kernel, by decide +kernel⟩
theorem ok_is_tuple_of {f : Addr} {fd : FuncData} (F : Fun K "is_tuple_of" "is_tuple_of" s_is_tuple_of f fd) (T : Txt K mg)  : FnOk P w K mg base CX0 1 f fd ["thing", "many"] sp_is_tuple_of := by
  refine okD F sc_is_tuple_of (by rintro _ _ ⟨es, m, rfl, rfl⟩; rfl) fun cdv A outer s H vs Q E ds d hr hR S kk => ?_
  obtain ⟨es, m, rfl, rfl⟩ := hR
  have hu := hu_of hr
  refine ⟨_, (pss_one (ps_ret (pe_and (pe_callB (k_call_isi K) (by rfl) T.isinstance (by decide +kernel) (pa_cons (pv 0) (pa_cons (pe_bltn (v := .ty "tuple") (u := .type "tuple") (by rfl) T.tuple (by decide +kernel) rfl) pa_nil))) (pe_one (pe_cmpR op_eq (pe_callB (k_call_len_seq K) (by rfl) T.len PySem.boot_len (pa_cons (pv 0) pa_nil)) (pv 1) (nomark _)))))), ?_⟩
  exact st_ret (ev_and (ev_isiT (b := true) (ev_var S rfl) (by decide +kernel)) fun _ => ev_eq (ev_lenT (ev_var S rfl)) (ev_var S rfl)) kk
end
end SB
namespace SB
open PySem PySem.Spec PyProof.Rows L2 RZ
open StX (tStar pa_star)
section
variable {P : Program} {w : World} {K : PySem.W.Frag} {mg : Str → Option Value} {base : Heap}
abbrev s_least_divisor : Stmt := topS 17
theorem sc_least_divisor : FnScope ["number", "found"] ["number"] (defScope s_least_divisor) := ⟨rfl, rfl, rfl, by decide +kernel, rfl, by decide +kernel, by decide +kernel⟩
theorem ok_least_divisor {f : Addr} {fd : FuncData} (F : Fun K "least_divisor" "least_divisor" s_least_divisor f fd) (T : Txt K mg)  : FnOk P w K mg base CX0 1 f fd ["number"] sp_least_divisor := by
  refine okD F sc_least_divisor (by rintro _ _ ⟨n, hn, rfl, rfl⟩; rfl) fun cdv A outer s H vs Q E ds d hr hR S kk => ?_
  obtain ⟨n, hn, rfl, rfl⟩ := hR
  have hu := hu_of hr
  refine ⟨_, (pss_cons (ps_set (i := 1) sc_least_divisor.nd rfl (Or.inl rfl) pe_int)
    (pss_cons (ps_while PassesOwn.never (PW.pt (pw_and (pt_cmpR op_gt (pe_op op_mod (pv 0) (pv 1)) pe_int (nomark _)) (pw_and1 (pt_cmpR op_le (pe_op op_mul (pv 1) (pv 1)) (pv 0) (nomark _))))) 
      (pss_one (ps_aug (i := 1) sc_least_divisor.nd rfl (Or.inl rfl) pe_int ip_add)))
    (pss_one (ps_ret (pe_ifExp (pt_cmpR op_eq (pe_op op_mod (pv 0) (pv 1)) pe_int (nomark _)) (pv 1) (pv 0)))))), ?_⟩
  refine sq (st_set S ev_int fun σ1 H1 e1 S1 => ?_)
  refine sq (st_while (fun m σ' H' => ∃ f : Nat, m + f = 200 ∧ 2 ≤ f ∧ f < 12 ∧ (f - 1) * (f - 1) ≤ n ∧ ((List.range f).drop 2).all (fun d => n % d != 0) = true ∧ Same H H' ∧ Sl K σ' H' [.dat (.int n), .dat (.int f)]) 198 ⟨2, rfl, by omega, by omega, by omega, rfl, e1, S1⟩ ?_)
  rintro m σ' H' ⟨f, hm, h2, h12, hff, hall, e2, S2⟩
  refine ⟨_, et_and (et_test (ev_gt (ev_mod (ev_var S2 rfl) (ev_var S2 rfl) (by omega)) ev_int)) fun _ => et_test (ev_le (ev_mul (ev_var S2 rfl) (ev_var S2 rfl) (.inl (by omega))) (ev_var S2 rfl)), fun hb H3 e3 => ?_, fun hb H3 e3 => ?_⟩
  · simp only [Bool.and_eq_true, decide_eq_true_eq] at hb
    have hsq : f * f ≤ n := by have := hb.2; norm_cast at this
    have hmod : n % f ≠ 0 := by have := hb.1; norm_cast at this; omega
    have hf : f < 11 := by
      rcases Nat.lt_or_ge f 11 with h | h
      · exact h
      · have : 11 * 11 ≤ f * f := Nat.mul_le_mul h h
        omega
    refine st_aug (S2.same e3) rfl ev_int fun σ4 H4 e4 S4 => ⟨m - 1, by omega, f + 1, by omega, by omega, by omega, by simpa using hsq, ?_, (e2.trans e3).trans e4, S4⟩
    rw [List.range_succ, List.drop_append_of_le_length (by simp; omega), List.all_append, hall]
    simpa using hmod
  · refine st_ret ((ev_if (d := .int (lp n)) (et_test (ev_eq (ev_mod (ev_var (S2.same e3) rfl) (ev_var (S2.same e3) rfl) (by omega)) ev_int)) (fun h => (ev_var (S2.same e3) rfl).to ?_) fun h => (ev_var (S2.same e3) rfl).to ?_)) fun v H4 e4 r => kk v H4 ((e2.trans e3).trans e4) r
    all_goals
      have hx := ld_done n (mem_drop2 hn.1 hn.2) f (mem_drop2 h2 h12) hall
      simp only [Bool.and_eq_false_iff, decide_eq_false_iff_not, decide_eq_true_eq] at hb h
      norm_cast at hb h
    · rw [if_pos h] at hx
      rw [hx (.inl h)]
    · rw [if_neg h] at hx
      rw [← hx (.inr (by omega))]
end
end SB
namespace SB
open PySem PySem.Spec PyProof.Rows L2 RZ
open StX (tStar pa_star)
section
variable {P : Program} {w : World} {K : PySem.W.Frag} {mg : Str → Option Value} {base : Heap}
abbrev s_common_in : Stmt := topS 19
theorem sc_common_in : FnScope ["one", "other", "late", "rest"] ["one", "other"] (defScope s_common_in) := ⟨rfl, rfl, rfl, by decide +kernel, rfl, by decide +kernel, by decide +kernel⟩
theorem ok_common_in {f : Addr} {fd : FuncData} (F : Fun K "common_in" "common_in" s_common_in f fd) (T : Txt K mg)  : FnOk P w K mg base CX0 1 f fd ["one", "other"] sp_common_in := by
  refine okD F sc_common_in (by rintro _ _ ⟨a, b, hn, rfl, rfl⟩; rfl) fun cdv A outer s H vs Q E ds d hr hR S kk => ?_
  obtain ⟨a, b, hn, rfl, rfl⟩ := hR
  have hu := hu_of hr
  refine ⟨_, (pss_cons (ps_par (i := 2) (j := 3) rfl sc_common_in.nd rfl rfl (by decide) rfl rfl (pa_cons (pe_callB call_abs (by rfl) T.abs (by decide +kernel) (pa_cons (pv 0) pa_nil)) (pa_cons (pe_callB call_abs (by rfl) T.abs (by decide +kernel) (pa_cons (pv 1) pa_nil)) pa_nil)) (by rfl))
    (pss_cons (ps_while PassesOwn.never (pt_cmpR op_gt (pv 3) pe_int (nomark _)) 
      (pss_one (ps_par (i := 2) (j := 3) rfl sc_common_in.nd rfl rfl (by decide) rfl rfl (pa_cons (pv 3) (pa_cons (pe_op op_mod (pv 2) (pv 3)) pa_nil)) (by rfl))))
    (pss_one (ps_ret (pv 2))))), ?_⟩
  refine sq (st_par S (ea_cons (ev_abs (ev_var S rfl)) (ea_cons (ev_abs (ev_var S rfl)) ea_nil)) fun σ1 H1 e1 S1 => ?_)
  refine sq (st_while (fun y σ' H' => ∃ x : Nat, x < 1000 ∧ y < 1000 ∧ Nat.gcd x y = Nat.gcd a b ∧ Same H H' ∧ Sl K σ' H' [.dat (.int a), .dat (.int b), .dat (.int x), .dat (.int y)]) b ⟨a, by omega, by omega, rfl, e1, ?_⟩ ?_)
  · have h1 : (if (a : Int) < 0 then -(a : Int) else a) = a := if_neg (by omega)
    have h2 : (if (b : Int) < 0 then -(b : Int) else b) = b := if_neg (by omega)
    rw [h1, h2] at S1
    exact S1
  rintro y σ' H' ⟨x, hx, hy, hg, e2, S2⟩
  refine ⟨_, et_test (ev_gt (ev_var S2 rfl) ev_int), fun hb H3 e3 => ?_, fun hb H3 e3 => ?_⟩
  · have hy0 : 0 < y := by simp only [decide_eq_true_eq] at hb; omega
    refine st_par (S2.same e3) (ea_cons (ev_var (S2.same e3) rfl) (ea_cons (ev_mod (ev_var (S2.same e3) rfl) (ev_var (S2.same e3) rfl) (by omega)) ea_nil)) fun σ4 H4 e4 S4 => ⟨x % y, Nat.mod_lt _ hy0, y, hy, Nat.lt_trans (Nat.mod_lt _ hy0) hy, ?_, (e2.trans e3).trans e4, S4⟩
    rw [← hg, Nat.gcd_comm x y, Nat.gcd_rec y x, Nat.gcd_comm]
  · have hy0 : y = 0 := by simp only [decide_eq_false_iff_not] at hb; omega
    subst hy0
    refine st_ret (ev_var (S2.same e3) rfl) fun v H4 e4 r => kk v H4 ((e2.trans e3).trans e4) ?_
    rw [← hg, Nat.gcd_zero_right]
    exact r
end
end SB
namespace SB
open PySem PySem.Spec PyProof.Rows L2 RZ
open StX (tStar pa_star)
section
variable {P : Program} {w : World} {K : PySem.W.Frag} {mg : Str → Option Value} {base : Heap}
abbrev s_divisors_in : Stmt := topS 23
theorem sc_divisors_in : FnScope ["number", "one"] ["number"] (defScope s_divisors_in) := ⟨rfl, rfl, rfl, by decide +kernel, rfl, by decide +kernel, by decide +kernel⟩
theorem ok_divisors_in {f : Addr} {fd : FuncData} (F : Fun K "divisors_in" "divisors_in" s_divisors_in f fd) (T : Txt K mg)  : FnOk P w K mg base CX0 1 f fd ["number"] sp_divisors_in := by
  refine okD F sc_divisors_in (by rintro _ _ ⟨n, hn, rfl, rfl⟩; rfl) fun cdv A outer s H vs Q E ds d hr hR S kk => ?_
  obtain ⟨n, hn, rfl, rfl⟩ := hR
  have hu := hu_of hr
  refine ⟨_, (pss_one (ps_ret (pe_callTy (k_call_tuple_of K) (by rfl) T.tuple (by decide +kernel) (pa_cons (pe_lc (own := [("one", 1)]) rfl sc_divisors_in.nd (pi_range2 (by rfl) T.range (pa_cons pe_int (pa_cons (pe_op op_add (pv 0) pe_int) pa_nil))) (blkOk_by (by kernel_rfl)) (fun _ _ _ _ _ => (pg_name (i := 1) sc_divisors_in.nd rfl (Or.inl rfl))) (fun _ _ _ _ _ => (pts_one (pt_cmpR op_eq (pe_op op_mod (pv 0) (pv 1)) pe_int (nomark _)))) (fun _ _ _ _ _ => (pv 1))) pa_nil)))), ?_⟩
  refine st_ret ((ev_tupleOf (EvL.r (el_lc (xs := (List.range (n + 1)).drop 1) (enc := fun k => .int k) (p := fun k => n % k == 0) (f := fun k => .int k) S ((wk_rng2 (ea_cons ev_int (ea_cons (ev_add (ev_var S rfl) ev_int) ea_nil)) (by omega) (rng_d1 n (by omega))).same) (fun x _ => tg_name) (by simp; omega) ?_ ?_))).to (by simp [divsL])) kk
  · intro x hx σ' H' e' S'
    have := of_drop1 hx
    exact (et_test (ev_eq (ev_mod (ev_var S' rfl) (ev_var S' rfl) (by omega)) ev_int)).to (mod_b n x)
  · intro x hx _ σ' H' e' S'
    exact ev_var S' rfl
end
end SB
namespace SB
open PySem PySem.Spec PyProof.Rows L2 RZ
open StX (tStar pa_star)
section
variable {P : Program} {w : World} {K : PySem.W.Frag} {mg : Str → Option Value} {base : Heap}
abbrev s_polygon_beats : Stmt := topS 26
theorem sc_polygon_beats : FnScope ["size", "prime", "first", "turn"] ["size", "prime", "first"] (defScope s_polygon_beats) := ⟨rfl, rfl, rfl, by decide +kernel, rfl, by decide +kernel, by decide +kernel⟩
theorem ok_polygon_beats {f : Addr} {fd : FuncData} (F : Fun K "polygon_beats" "polygon_beats" s_polygon_beats f fd) (T : Txt K mg)  : FnOk P w K mg base CX0 1 f fd ["size", "prime", "first"] sp_polygon_beats := by
  refine okL F sc_polygon_beats (by rintro _ _ ⟨n, p, g, hn, rfl, rfl⟩; rfl) fun cdv A outer s H vs Q E ds es hr hR S kk => ?_
  obtain ⟨n, p, g, hn, rfl, rfl⟩ := hR
  have hu := hu_of hr
  refine ⟨_, (pss_one (ps_ret (pe_lc (own := [("turn", 3)]) rfl sc_polygon_beats.nd (pi_range1 (by rfl) T.range (pa_cons (pv 1) pa_nil)) (blkOk_by (by kernel_rfl)) (fun _ _ _ _ _ => (pg_name (i := 3) sc_polygon_beats.nd rfl (Or.inl rfl))) (fun _ _ _ _ _ => pts_nil) (fun _ _ _ _ _ => (pe_op op_add (pv 2) (pe_op op_mul (pv 3) (pe_op op_fdiv (pv 0) (pv 1)))))))), ?_⟩
  refine st_retL (el_lc0 (xs := List.range p) (enc := fun k => .int k) S ((wk_rng1 (ea_cons (ev_var S rfl) ea_nil) (by omega) (rng_d0 p (by omega))).same) (fun x _ => tg_name) (by simp; omega) ?_) kk
  intro x hx σ' H' e' S'
  have := List.mem_range.mp hx
  exact (ev_add (ev_var S' rfl) (ev_mul (ev_var S' rfl) (ev_div (ev_var S' rfl) (ev_var S' rfl) ⟨by omega, by omega⟩) (.inl (by omega)))).to (by norm_cast)
end
end SB
namespace SB
open PySem PySem.Spec PyProof.Rows L2 RZ
open StX (tStar pa_star)
section
variable {P : Program} {w : World} {K : PySem.W.Frag} {mg : Str → Option Value} {base : Heap}
abbrev s_are_ascending : Stmt := topS 16
theorem sc_are_ascending : FnScope ["things", "one", "late"] ["things"] (defScope s_are_ascending) := ⟨rfl, rfl, rfl, by decide +kernel, rfl, by decide +kernel, by decide +kernel⟩
theorem ok_are_ascending {f : Addr} {fd : FuncData} (F : Fun K "are_ascending" "are_ascending" s_are_ascending f fd) (T : Txt K mg)  : FnOk P w K mg base CX0 1 f fd ["things"] (sp_are_ascending K) := by
  refine F.ok sc_are_ascending (fun vs H Q E h => ?_) (fun cdv A outer s H vs Q E hr h => ?_)
  · obtain ⟨a, ks, rfl, _⟩ := h
    rfl
  · obtain ⟨a, ks, rfl, hl, hz, kk⟩ := h
    have hu := hu_of hr
    have S : Sl K (L2.start ["things", "one", "late"] [.ref a]) H [.lst (ks.map kD), .un, .un] := Sl.start (N := ["things", "one", "late"]) (xs := [.lst (ks.map kD)]) rfl fun i v x h1 h2 => by
      cases i with
      | zero => cases h1; cases h2; exact ⟨a, rfl, hl⟩
      | succ i => cases h1
    refine ⟨_, (pss_one (ps_ret (pe_callB (k_cr_all K rfl) (by rfl) T.all (by decide +kernel) (pa_cons (pe_lc (own := [("one", 1), ("late", 2)]) rfl sc_are_ascending.nd (k_pi_zipA K (by rfl) T.zip (pa_cons (pv 0) (pa_cons (pe_slice (k_sl_list K) (pv 0) (po_some pe_int) po_none) pa_nil))) (blkOk_by (by kernel_rfl)) (fun _ _ _ _ _ => (k_pg_tup K 2 rfl (pgs_cons (pg_name (i := 1) sc_are_ascending.nd rfl (Or.inl rfl)) (pgs_cons (pg_name (i := 2) sc_are_ascending.nd rfl (Or.inl rfl)) pgs_nil)))) (fun _ _ _ _ _ => pts_nil) (fun _ _ _ _ _ => (pe_cmpR (k_op_ltT K hr.units0) (pv 1) (pv 2) (nomark _)))) pa_nil)))), ?_⟩
    refine st_ret ((ev_all (bs := (ks.zip ks.tail).map fun p => ltK p.1 p.2) (EvL.r ((el_lc0 (xs := ks.zip ks.tail) (enc := fun p => .tuple [kD p.1, kD p.2]) (f := fun p => .bool (ltK p.1 p.2)) S ((wk_zipL (ev_lst S rfl) (EvL.r (el_slL (ev_lst S rfl) (eo_some ev_int) eo_none))).kp.to ?_) (fun x _ => tg_tup (ns := [1, 2]) rfl rfl) (by simp; omega) ?_).to (by simp)))).to ?_) fun v H1 e1 r1 => by rw [r1.bl']; exact kk H1 e1
    · have e : cutA (ks.map kD) (some 1) none = (ks.tail).map kD := by
        unfold cutA HT.sIx
        cases ks with
        | nil => rfl
        | cons k ks => simp [List.take_of_length_le]
      rw [e]
      unfold zipD
      rw [List.zipWith_map, List.map_zip_eq_zipWith]
      rfl
    · intro p hp σ' H' e' S'
      refine (ev_ltT (ns := [p.1.1, p.1.2]) (ms := [p.2.1, p.2.2]) (ev_var S' rfl) (ev_var S' rfl)).to ?_
      rw [lexLt_pair HT.lexLt (fun a b xs ys => HT.lexLt_cons a b xs ys) rfl]
    · unfold ascB
      rw [List.map_zip_eq_zipWith]
      rfl
end
end SB
namespace SB
open PySem PySem.Spec PyProof.Rows L2 RZ
open StX (tStar pa_star)
section
variable {P : Program} {w : World} {K : PySem.W.Frag} {mg : Str → Option Value} {base : Heap}
abbrev s_voice_by_heap : Stmt := topS 31
theorem sc_voice_by_heap : FnScope ["size", "heap", "beat", "prime", "first", "many"] ["size", "heap"] (defScope s_voice_by_heap) := ⟨rfl, rfl, rfl, by decide +kernel, rfl, by decide +kernel, by decide +kernel⟩
theorem ok_voice_by_heap {f : Addr} {fd : FuncData} (F : Fun K "voice_by_heap" "voice_by_heap" s_voice_by_heap f fd) (T : Txt K mg)  : FnOk P w K mg base CX0 1 f fd ["size", "heap"] sp_voice_by_heap := by
  refine okD F sc_voice_by_heap (by rintro _ _ ⟨n, rows, hn, rfl, rfl⟩; rfl) fun cdv A outer s H vs Q E ds d hr hR S kk => ?_
  obtain ⟨n, rows, hn, rfl, rfl⟩ := hR
  have hu := hu_of hr
  refine ⟨_, (pss_one (ps_ret (pe_callTy (k_call_tuple_of K) (by rfl) T.tuple (by decide +kernel) (pa_cons (pe_lc (own := [("beat", 2)]) rfl sc_voice_by_heap.nd (pi_range1 (by rfl) T.range (pa_cons (pv 0) pa_nil)) (blkOk_by (by kernel_rfl)) (fun _ _ _ _ _ => (pg_name (i := 2) sc_voice_by_heap.nd rfl (Or.inr rfl))) (fun _ _ _ _ _ => pts_nil) (fun _ _ _ _ _ => (pe_callB (k_cr_sum K rfl) (by rfl) T.sum (by decide +kernel) (pa_cons (pe_lc (own := [("prime", 3), ("first", 4), ("many", 5)]) rfl sc_voice_by_heap.nd (k_pi_tup K (pv 1)) (blkOk_by (by kernel_rfl)) (fun _ _ _ _ _ => (k_pg_tup K 3 rfl (pgs_cons (pg_name (i := 3) sc_voice_by_heap.nd rfl (Or.inl rfl)) (pgs_cons (pg_name (i := 4) sc_voice_by_heap.nd rfl (Or.inl rfl)) (pgs_cons (pg_name (i := 5) sc_voice_by_heap.nd rfl (Or.inl rfl)) pgs_nil))))) (fun _ _ _ _ _ => (pts_one (pt_cmpR op_eq (pe_op op_mod (pv 2) (pe_op op_fdiv (pv 0) (pv 3))) (pv 4) (nomark _)))) (fun _ _ _ _ _ => (pv 5))) pa_nil)))) pa_nil)))), ?_⟩
  refine st_ret ((ev_tupleOf (EvL.r (el_lc0 (xs := List.range n) (enc := fun b => .int b) (f := fun b => .int ((rows.filter fun r => decide ((b : Int) % ((n : Int) / r.1) = r.2.1)).map (·.2.2)).sum) S (wk_rng1 (ea_cons (ev_var S rfl) ea_nil) (by omega) (rng_d0 n (by omega))).same (fun x _ => tg_name) (by simp; omega) ?_))).to (by simp [vbh])) kk
  intro b hb σ' H' e' S'
  refine ev_sum (EvL.r ((el_lc (xs := rows) (enc := rD) (p := fun r => decide ((b : Int) % ((n : Int) / r.1) = r.2.1)) (f := fun r => .int r.2.2) S' (wk_tup (ev_var S' rfl)).same (fun r _ => tg_tup (ns := [3, 4, 5]) rfl rfl) (by omega) ?_ ?_).to (by simp)))
  · intro r hr' σ2 H2 e2 S2
    have h1 := List.all_eq_true.mp hn.2.2.2 r hr'
    unfold rowB at h1
    simp only [Bool.and_eq_true] at h1
    obtain ⟨q, g, hq, e1, e2', hg⟩ := polyB_of h1.1
    have hp := mem_primes hq
    have hpos : 0 < n / q := by omega
    have h3 : ((n : Int) / r.1) = ((n / q : Nat) : Int) := by rw [e1]; norm_cast
    exact et_test (ev_eq (ev_mod (ev_var S2 rfl) (ev_div (ev_var S2 rfl) (ev_var S2 rfl) ⟨by rw [e1]; omega, by rw [e1]; omega⟩) (by rw [h3]; omega)) (ev_var S2 rfl))
  · intro r hr' _ σ2 H2 e2 S2
    exact ev_var S2 rfl
end
end SB
namespace SB
open PySem PySem.Spec PyProof.Rows L2 RZ
open StX (tStar pa_star)
section
variable {P : Program} {w : World} {K : PySem.W.Frag} {mg : Str → Option Value} {base : Heap}
abbrev s_number_with : Stmt := topS 35
theorem sc_number_with : FnScope ["primes", "rests", "found", "step", "prime", "rest"] ["primes", "rests"] (defScope s_number_with) := ⟨rfl, rfl, rfl, by decide +kernel, rfl, by decide +kernel, by decide +kernel⟩
theorem ok_number_with {f : Addr} {fd : FuncData} (F : Fun K "number_with" "number_with" s_number_with f fd) (T : Txt K mg)  : FnOk P w K mg base CX0 1 f fd ["primes", "rests"] sp_number_with := by
  refine okD F sc_number_with (by rintro _ _ ⟨ps, rs, hn, rfl, rfl⟩; rfl) fun cdv A outer s H vs Q E ds d hr hR S kk => ?_
  obtain ⟨ps, rs, hn, rfl, rfl⟩ := hR
  have hu := hu_of hr
  refine ⟨_, (pss_cons (ps_asg (pe_tup (pa_cons pe_int (pa_cons pe_int pa_nil))) (k_pg_tup K 2 rfl (pgs_cons (pg_name (i := 2) sc_number_with.nd rfl (Or.inl rfl)) (pgs_cons (pg_name (i := 3) sc_number_with.nd rfl (Or.inl rfl)) pgs_nil))))
    (pss_cons (ps_for PassesOwn.never rfl (k_pi_zipA K (by rfl) T.zip (pa_cons (pv 0) (pa_cons (pv 1) pa_nil))) (k_pg_tup K 2 rfl (pgs_cons (pg_name (i := 4) sc_number_with.nd rfl (Or.inl rfl)) (pgs_cons (pg_name (i := 5) sc_number_with.nd rfl (Or.inl rfl)) pgs_nil))) 
      (pss_cons (ps_while PassesOwn.never (pt_cmpR op_ne (pe_op op_mod (pv 2) (pv 4)) (pv 5) (nomark _)) 
        (pss_one (ps_aug (i := 2) sc_number_with.nd rfl (Or.inl rfl) (pv 3) ip_add)))
      (pss_one (ps_set (i := 3) sc_number_with.nd rfl (Or.inl rfl) (pe_op op_mul (pv 3) (pv 4))))))
    (pss_one (ps_ret (pv 2))))), ?_⟩
  refine sq (st_asg S (ev_tup (ea_cons (ev_int (i := 0)) (ea_cons (ev_int (i := 1)) ea_nil)) (by decide)) (tg_tup (ns := [2, 3]) rfl rfl) fun σ1 H1 e1 S1 => ?_)
  refine sq (st_for (xs := ps.zip rs) (enc := fun p => .tuple [.int p.1, .int p.2]) ((wk_zipT (ea_cons (ev_var S1 rfl) (ea_cons (ev_var S1 rfl) ea_nil))).to ?_) (fun H1 i σ' H' => Same H H' ∧ Tp H1 H' ∧ ∃ f s : Nat, crtOk (ps.drop i) (rs.drop i) f s = true ∧ crt (ps.drop i) (rs.drop i) f s = crt ps rs 0 1 ∧ Sl K σ' H' [.dat (tI (zs ps)), .dat (tI (zs rs)), .dat (.int f), .dat (.int s), .un, .un])
    (fun H2 e2 => ⟨e1.trans e2, Tp.refl _, 0, 1, hn, rfl, S1.same e2⟩) (fun H1 i σ' H' _ h => h.2.1) ?_ ?_)
  · unfold zipD
    rw [List.zipWith_map, List.zipWith_map, List.map_zip_eq_zipWith]
    rfl
  · rintro H2 i ⟨p, r⟩ σ' H' v H'' e2 hx ⟨e3, t3, f, s', hok, hcrt, S3⟩ e4 rv
    have hlen := crtOk_len hn
    have hi : i < (ps.zip rs).length := (List.getElem?_eq_some_iff.mp hx).1
    have hip : i < ps.length := by rw [List.length_zip] at hi; omega
    have hir : i < rs.length := by omega
    have hx2 : ps[i] = p ∧ rs[i] = r := by
      have := (List.getElem?_eq_some_iff.mp hx).2
      rw [List.getElem_zip] at this
      exact ⟨congrArg Prod.fst this, congrArg Prod.snd this⟩
    rw [List.drop_eq_getElem_cons hip, List.drop_eq_getElem_cons hir, hx2.1, hx2.2] at hok hcrt
    unfold crtOk at hok
    simp only [Bool.and_eq_true, decide_eq_true_eq] at hok
    obtain ⟨⟨⟨hs, h2⟩, h111⟩, hrest⟩ := hok
    obtain ⟨k0, hk0⟩ := Option.isSome_iff_exists.mp hs
    obtain ⟨hc1, hkp, hkr, hkn⟩ := crt1_of hk0
    refine tg_tup (ns := [4, 5]) rfl rfl v σ' H'' _ _ (S3.same e4) rv fun σ5 S5 _ _ => ?_
    refine sq (st_while (fun m σ6 H6 => ∃ k : Nat, m + k = k0 ∧ Same H'' H6 ∧ Sl K σ6 H6 [.dat (tI (zs ps)), .dat (tI (zs rs)), .dat (.int ((f + s' * k : Nat) : Int)), .dat (.int s'), .dat (.int p), .dat (.int r)]) k0 ⟨0, rfl, Same.refl _, by simpa [setAll] using S5⟩ ?_)
    rintro m σ6 H6 ⟨k, hmk, e6, S6⟩
    refine ⟨_, et_test (ev_ne (ev_mod (ev_var S6 rfl) (ev_var S6 rfl) (by omega)) (ev_var S6 rfl)), fun hb H7 e7 => ?_, fun hb H7 e7 => ?_⟩
    · have hne : (f + s' * k) % p ≠ r := by
        intro h
        simp only [Bool.not_eq_true', decide_eq_false_iff_not] at hb
        exact hb (by norm_cast)
      have hk : k ≠ k0 := fun h => hne (by rw [h]; exact hkr)
      exact st_aug (S6.same e7) rfl (ev_var (S6.same e7) rfl) fun σ8 H8 e8 S8 => ⟨m - 1, by omega, k + 1, by omega, (e6.trans e7).trans e8, by
        have : ((f + s' * (k + 1) : Nat) : Int) = ((f + s' * k : Nat) : Int) + (s' : Int) := by rw [Nat.mul_add]; push_cast; omega
        rw [this]
        exact S8⟩
    · have heq : (f + s' * k) % p = r := by
        simp only [Bool.not_eq_false', decide_eq_true_eq] at hb
        norm_cast at hb
      have hk : k = k0 := by
        rcases Nat.lt_or_ge k k0 with h | h
        · exact absurd heq (hkn k h)
        · omega
      subst hk
      refine st_set (S6.same e7) (ev_mul (ev_var (S6.same e7) rfl) (ev_var (S6.same e7) rfl) (.inr (by omega))) fun σ8 H8 e8 S8 => ⟨((e3.trans e4).trans e6).trans (e7.trans e8), ((t3.trans (Same.tp e4)).trans (Same.tp e6)).trans (Same.tp (e7.trans e8)), crt1 f s' p r, s' * p, hrest, ?_, ?_⟩
      · rw [← hcrt]
        rfl
      · rw [hc1]
        exact (S8.weak 4).weak 5
  · rintro H2 σ' H' e2 ⟨e3, _, f, s', hok, hcrt, S3⟩
    have hl : (ps.zip rs).length = ps.length := by rw [List.length_zip, crtOk_len hn]; omega
    rw [hl, List.drop_length] at hcrt
    refine st_ret (ev_var S3 rfl) fun v H4 e4 r4 => kk v H4 (e3.trans e4) ?_
    rw [← hcrt]
    exact r4
end
end SB
namespace SB
open PySem PySem.Spec PyProof.Rows L2 RZ
open StX (tStar pa_star)
section
variable {P : Program} {w : World} {K : PySem.W.Frag} {mg : Str → Option Value} {base : Heap}
abbrev s_all_rests : Stmt := topS 37
theorem sc_all_rests : FnScope ["primes", "found", "prime", "one", "rest"] ["primes"] (defScope s_all_rests) := ⟨rfl, rfl, rfl, by decide +kernel, rfl, by decide +kernel, by decide +kernel⟩
theorem ok_all_rests {f : Addr} {fd : FuncData} (F : Fun K "all_rests" "all_rests" s_all_rests f fd) (T : Txt K mg)  : FnOk P w K mg base CX0 1 f fd ["primes"] sp_all_rests := by
  refine okL F sc_all_rests (by rintro _ _ ⟨ps, hn, rfl, rfl⟩; rfl) fun cdv A outer s H vs Q E ds es hr hR S kk => ?_
  obtain ⟨ps, hn, rfl, rfl⟩ := hR
  have hu := hu_of hr
  refine ⟨_, (pss_cons (ps_set (i := 1) sc_all_rests.nd rfl (Or.inl rfl) (pe_lst (pa_cons (pe_tup pa_nil) pa_nil)))
    (pss_cons (ps_for PassesOwn.never rfl (k_pi_tup K (pv 0)) (pg_name (i := 2) sc_all_rests.nd rfl (Or.inr rfl)) 
      (pss_one (ps_setLc2 (i := 1) (own := [("one", 3), ("rest", 4)]) (vs1 := [4]) rfl sc_all_rests.nd rfl rfl (sw_true rfl rfl rfl (by decide +kernel)) (k_pi_list K (pv 1)) (blkOk_by (by kernel_rfl)) (by decide) (fun _ _ _ _ _ => (pg_name (i := 3) sc_all_rests.nd rfl (Or.inl rfl))) (fun _ _ _ _ _ => pts_nil) (fun _ _ _ _ _ => (pi_range1 (by rfl) T.range (pa_cons (pv 2) pa_nil))) (fun _ _ _ _ _ => (pg_name (i := 4) sc_all_rests.nd rfl (Or.inl rfl))) (fun _ _ _ _ _ => pts_nil) (fun _ _ _ _ _ => (pe_tup (k_pa_star K (pv 3) (pa_cons (pv 4) pa_nil)))))))
    (pss_one (ps_ret (pv 1))))), ?_⟩
  refine sq (st_setN S (el_lst (ea_cons (ev_tup ea_nil (by decide)) ea_nil) (by decide)) fun p0 vs0 σ1 H1 hp0 e1 h1 r1 S1 => ?_)
  refine sq (st_for (xs := ps) (enc := fun p => .int p) ((wk_tup (ev_var S1 rfl)).to (by simp)) (fun H2 i σ' H' => Same H H' ∧ Tp H2 H' ∧ ∃ p vs, H p = none ∧ H' p = some (.lst vs) ∧ DtA H' vs ((allR (ps.take i)).map fun rs => tI (zs rs)) ∧ Sl K σ' H' [.dat (tI (zs ps)), .ref p, .un, .un, .un])
    (fun H2 e2 => ⟨e1.trans e2, Tp.refl _, p0, vs0, hp0, e2 _ _ h1, r1.same e2, S1.same e2⟩) (fun H1 i σ' H' _ h => h.2.1) ?_ ?_)
  · rintro H2 i p σ' H' v H'' e2 hx ⟨e3, t3, q, vs, hq, h3, r3, S3⟩ e4 rv
    have hi : i < ps.length := (List.getElem?_eq_some_iff.mp hx).1
    have hp := hn.2.1 p (List.mem_of_getElem? hx)
    have S4 := (S3.same e4).setD 2 rv
    have etk : ps.take (i + 1) = ps.take i ++ [p] := by rw [List.take_add_one, hx]; rfl
    have eal : allR (ps.take (i + 1)) = grow (allR (ps.take i)) p := by rw [etk]; unfold allR; rw [List.foldl_append]; rfl
    have hlen : (allR (ps.take (i + 1))).length ≤ 200 := by simpa using List.all_eq_true.mp hn.2.2 (i + 1) (List.mem_range.mpr (by omega))
    refine st_setN S4 ((el_lc2 (xs := allR (ps.take i)) (enc := fun rs => tI (zs rs)) (ys := fun _ => List.range p) (enc1 := fun r => .int r) (f := fun rs r => tI (zs (rs ++ [r]))) S4 (wk_list (EvX.r (ev_ref S4 rfl) ⟨vs, SqL.of (e4 _ _ h3), r3.same e4⟩)).kp (fun x _ => tg_name) ?_ (fun x _ σ5 H5 e5 S5 => wk_rng1 (ea_cons (ev_var S5 rfl) ea_nil) (by omega) (rng_d0 p (by omega))) (fun y => tg_name) (fun x hx5 y _ σ5 H5 e5 S5 => ?_)).to (es := (allR (ps.take (i + 1))).map fun rs => tI (zs rs)) ?_) fun p5 vs5 σ5 H5 hp5 e5 h5 r5 S5 => ⟨(e3.trans e4).trans e5, (t3.trans (Same.tp e4)).trans (Same.tp e5), p5, vs5, fresh_back (e3.trans e4) hp5, h5, r5, S5.weak 2⟩
    · rw [grow_map (fun rs => tI (zs rs)), List.length_map, ← eal]
      omega
    · exact (ev_tup (ea_starT (ev_var S5 rfl) (ea_cons (ev_var S5 rfl) ea_nil)) (by have := allR_len hx5; simp at this ⊢; omega)).to (by simp)
    · rw [eal]
      exact grow_map (fun rs => tI (zs rs)) _ _
  · rintro H2 σ' H' e2 ⟨e3, _, q, vs, hq, h3, r3, S3⟩
    rw [List.take_length] at r3
    exact ⟨.ref q, S3.ref rfl, kk q vs H' hq e3 h3 r3⟩
end
end SB
namespace SB
open PySem PySem.Spec PyProof.Rows L2 RZ
open StX (tStar pa_star)
section
variable {P : Program} {w : World} {K : PySem.W.Frag} {mg : Str → Option Value} {base : Heap}
abbrev s_stripped : Stmt := topS 40
theorem sc_stripped : FnScope ["numbers", "size"] ["numbers"] (defScope s_stripped) := ⟨rfl, rfl, rfl, by decide +kernel, rfl, by decide +kernel, by decide +kernel⟩
theorem ok_stripped {f : Addr} {fd : FuncData} (F : Fun K "stripped" "stripped" s_stripped f fd) (T : Txt K mg)  : FnOk P w K mg base CX0 1 f fd ["numbers"] (sp_stripped K) := by
  refine F.ok sc_stripped (fun vs H Q E h => ?_) (fun cdv A outer s H vs Q E hr h => ?_)
  · obtain ⟨a, ks, rfl, _⟩ := h
    rfl
  · obtain ⟨a, ns, rfl, hl, hz, kk⟩ := h
    have hu := hu_of hr
    have S : Sl K (L2.start ["numbers", "size"] [.ref a]) H [.ref a, .un] := Sl.start (N := ["numbers", "size"]) (xs := [.ref a]) rfl fun i v x h1 h2 => by
      cases i with
      | zero => cases h1; cases h2; rfl
      | succ i => cases h1
    refine ⟨_, (pss_cons (ps_set (i := 1) sc_stripped.nd rfl (Or.inl rfl) (pe_callB (k_call_len_seq K) (by rfl) T.len PySem.boot_len (pa_cons (pv 0) pa_nil)))
      (pss_cons (ps_while PassesOwn.never (PW.pt (pw_and (pt_cmpR op_gt (pv 1) pe_int (nomark _)) (pw_and1 (pt_cmpR op_eq (pe_ix (k_ix_seq K) (pv 0) (pe_op op_sub (pv 1) pe_int) (fun _ _ => rfl)) pe_int (nomark _))))) (pss_one (ps_set (i := 1) sc_stripped.nd rfl (Or.inl rfl) (pe_op op_sub (pv 1) pe_int))))
      (pss_one (ps_ret (pe_callTy (k_call_tuple_of K) (by rfl) T.tuple (by decide +kernel) (pa_cons (pe_slice (k_sl_any K) (pv 0) po_none (po_some (pv 1))) pa_nil)))))), ?_⟩
    refine sq (st_set S (ev_lenQ (EvX.q (ev_ref S rfl) hl)) fun σ1 H1 e1 S1 => ?_)
    refine sq (st_while (fun m σ' H' => m ≤ ns.length ∧ stripN ns m = stripN ns ns.length ∧ Same H H' ∧ Sl K σ' H' [.ref a, .dat (.int m)]) ns.length ⟨Nat.le_refl _, rfl, e1, S1⟩ ?_)
    rintro m σ' H' ⟨hm, hs, e2, S2⟩
    refine ⟨_, et_and (et_test (ev_gt (ev_var S2 rfl) ev_int)) fun hb => et_test (ev_eq (ev_ixQ (k := m - 1) (EvX.q (ev_ref S2 rfl) (hl.same e2)) (ev_sub (ev_var S2 rfl) ev_int) ?_ (getD_of ?_)) ev_int), fun hb H3 e3 => ?_, fun hb H3 e3 => ?_⟩
    · have h0 : 0 < m := by simp only [decide_eq_true_eq] at hb; omega
      have : (m : Int) - 1 = ((m - 1 : Nat) : Int) := by omega
      rw [this]
      exact ixN_nat (by omega)
    · have h0 : 0 < m := by simp only [decide_eq_true_eq] at hb; omega
      omega
    · simp only [Bool.and_eq_true, decide_eq_true_eq] at hb
      obtain ⟨h0, h1⟩ := hb
      obtain ⟨k, rfl⟩ : ∃ k, m = k + 1 := ⟨m - 1, by omega⟩
      refine st_set (S2.same e3) (ev_sub (ev_var (S2.same e3) rfl) ev_int) fun σ4 H4 e4 S4 => ⟨k, by omega, by omega, ?_, (e2.trans e3).trans e4, ?_⟩
      · rw [← hs]
        exact (stripN_step (by simpa using h1)).symm
      · have : ((k + 1 : Nat) : Int) - 1 = (k : Int) := by omega
        rw [this] at S4
        exact S4
    · have hend : stripN ns m = m := by
        cases m with
        | zero => rfl
        | succ k =>
          simp only [Bool.and_eq_false_iff, decide_eq_false_iff_not] at hb
          unfold stripN
          rw [if_neg]
          rcases hb with h | h
          · exact absurd (by omega) h
          · exact h
      refine st_ret (ev_tupQ (ev_slQ (EvX.q (ev_ref (S2.same e3) rfl) (hl.same (e2.trans e3))) eo_none (eo_some (ev_var (S2.same e3) rfl)))) fun v H4 e4 r4 => kk v H4 ((e2.trans e3).trans e4) ?_
      rw [cut_take _ _ hm] at r4
      unfold stripL
      rw [← hs, hend]
      exact r4
end
end SB
namespace SB
open PySem PySem.Spec PyProof.Rows L2 RZ
open StX (tStar pa_star)
section
variable {P : Program} {w : World} {K : PySem.W.Frag} {mg : Str → Option Value} {base : Heap}
abbrev s_around : Stmt := topS 43
theorem sc_around : FnScope ["number"] ["number"] (defScope s_around) := ⟨rfl, rfl, rfl, by decide +kernel, rfl, by decide +kernel, by decide +kernel⟩
theorem ok_around {f : Addr} {fd : FuncData} (F : Fun K "around" "around" s_around f fd) (T : Txt K mg)  : FnOk P w K mg base CX0 1 f fd ["number"] sp_around := by
  refine okD F sc_around (by rintro _ _ ⟨n, hn, rfl, rfl⟩; rfl) fun cdv A outer s H vs Q E ds d hr hR S kk => ?_
  obtain ⟨n, hn, rfl, rfl⟩ := hR
  have hu := hu_of hr
  refine ⟨_, (pss_one (ps_ret (pe_tup (pa_cons (pe_un un_neg pe_int) (k_pa_star K (pe_op op_rep (pe_lst (pa_cons pe_int pa_nil)) (pe_op op_sub (pv 0) pe_int)) (pa_cons pe_int pa_nil)))))), ?_⟩
  refine st_ret ((ev_tup (ea_cons (ev_neg (ev_int (i := 1))) (ea_starL (EvL.r (el_rep1 (el_lst (ea_cons (ev_int (i := 0)) ea_nil) (by decide)) (ev_sub (ev_var S rfl) ev_int) (by omega))) (ea_cons (ev_int (i := 1)) ea_nil))) (by simp; omega)).to ?_) kk
  have : ((n : Int) - 1).toNat = n - 1 := by omega
  rw [this]
  simp [aroundL]
end
end SB
namespace SB
open PySem PySem.Spec PyProof.Rows L2 RZ
open StX (tStar pa_star)
section
variable {P : Program} {w : World} {K : PySem.W.Frag} {mg : Str → Option Value} {base : Heap}
abbrev s_padded : Stmt := topS 46
theorem sc_padded : FnScope ["numbers", "size"] ["numbers", "size"] (defScope s_padded) := ⟨rfl, rfl, rfl, by decide +kernel, rfl, by decide +kernel, by decide +kernel⟩
theorem ok_padded {f : Addr} {fd : FuncData} (F : Fun K "padded" "padded" s_padded f fd) (T : Txt K mg)  : FnOk P w K mg base CX0 1 f fd ["numbers", "size"] sp_padded := by
  refine okD F sc_padded (by rintro _ _ ⟨ns, n, hn, rfl, rfl⟩; rfl) fun cdv A outer s H vs Q E ds d hr hR S kk => ?_
  obtain ⟨ns, n, hn, rfl, rfl⟩ := hR
  have hu := hu_of hr
  refine ⟨_, (pss_one (ps_ret (pe_tup (k_pa_star K (pv 0) (k_pa_star K (pe_op op_rep (pe_lst (pa_cons pe_int pa_nil)) (pe_op op_sub (pv 1) (pe_callB (k_call_len_seq K) (by rfl) T.len PySem.boot_len (pa_cons (pv 0) pa_nil)))) pa_nil))))), ?_⟩
  refine st_ret ((ev_tup (ea_starT (ev_var S rfl) (ea_starL (EvL.r (el_rep1 (el_lst (ea_cons (ev_int (i := 0)) ea_nil) (by decide)) (ev_sub (ev_var S rfl) (ev_lenT (ev_var S rfl))) (by simp; omega))) ea_nil)) (by simp; omega)).to ?_) kk
  have : ((n : Int) - ((ns.map PyData.int).length : Int)).toNat = n - ns.length := by rw [List.length_map]; omega
  rw [this]
  simp [padTo]
end
end SB
namespace SB
open PySem PySem.Spec PyProof.Rows L2 RZ
open StX (tStar pa_star)
section
variable {P : Program} {w : World} {K : PySem.W.Frag} {mg : Str → Option Value} {base : Heap}
abbrev s_choices_from : Stmt := topS 53
theorem sc_choices_from : FnScope ["many", "k", "found", "lap", "one", "is_held"] ["many", "k"] (defScope s_choices_from) := ⟨rfl, rfl, rfl, by decide +kernel, rfl, by decide +kernel, by decide +kernel⟩
theorem ok_choices_from {f : Addr} {fd : FuncData} (F : Fun K "choices_from" "choices_from" s_choices_from f fd) (T : Txt K mg)  : FnOk P w K mg base CX0 1 f fd ["many", "k"] sp_choices_from := by
  refine okL F sc_choices_from (by rintro _ _ ⟨many, k, hn, rfl, rfl⟩; rfl) fun cdv A outer s H vs Q E ds es hr hR S kk => ?_
  obtain ⟨many, k, hn, rfl, rfl⟩ := hR
  have hu := hu_of hr
  refine ⟨_, (pss_cons (ps_set (i := 2) sc_choices_from.nd rfl (Or.inl rfl) (pe_lst (pa_cons (pe_op (k_op_catA K) (pe_op (k_op_repB K) (pe_tup (pa_cons pe_bl pa_nil)) (pv 1)) (pe_tup (pa_cons pe_bl pa_nil))) pa_nil)))
    (pss_cons (ps_for PassesOwn.never rfl (pi_range1 (by rfl) T.range (pa_cons (pe_op op_sub (pe_op op_sub (pv 0) (pv 1)) pe_int) pa_nil)) (pg_name (i := 3) sc_choices_from.nd rfl (Or.inl rfl)) 
      (pss_one (ps_setLc2 (i := 2) (own := [("one", 4), ("is_held", 5)]) (vs1 := [5]) rfl sc_choices_from.nd rfl rfl (sw_true rfl rfl rfl (by decide +kernel)) (k_pi_list K (pv 2)) (blkOk_by (by kernel_rfl)) (by decide) (fun _ _ _ _ _ => (pg_name (i := 4) sc_choices_from.nd rfl (Or.inl rfl))) (fun _ _ _ _ _ => pts_nil) (fun _ _ _ _ _ => (k_pi_tup K (pe_tup (pa_cons pe_bl (pa_cons pe_bl pa_nil))))) (fun _ _ _ _ _ => (pg_name (i := 5) sc_choices_from.nd rfl (Or.inl rfl))) (fun _ _ _ _ _ => pts_nil) (fun _ _ _ _ _ => (pe_tup (k_pa_star K (pv 4) (pa_cons (pv 5) pa_nil)))))))
    (pss_one (ps_ret (pv 2))))), ?_⟩
  refine sq (st_setN S (el_lst (ea_cons (ev_catT (ev_rep1T (ev_tup (ea_cons ev_bl ea_nil) (by decide)) (ev_var S rfl) (by omega)) (ev_tup (ea_cons ev_bl ea_nil) (by decide)) (by simp; omega)) ea_nil) (by simp)) fun p0 vs0 σ1 H1 hp0 e1 h1 r1 S1 => ?_)
  refine sq (st_for (xs := List.range (many - k - 1)) (enc := fun l => .int ((l : Nat) : Int)) ((wk_rng1 (ea_cons (ev_sub (ev_sub (ev_var S1 rfl) (ev_var S1 rfl)) ev_int) ea_nil) (by omega) (rng_d0 (many - k - 1) (by omega)))) (fun H2 i σ' H' => Same H H' ∧ Tp H2 H' ∧ ∃ p vs, H p = none ∧ H' p = some (.lst vs) ∧ DtA H' vs ((chN i [List.replicate k false ++ [true]]).map fun c => .tuple (c.map .bool)) ∧ Sl K σ' H' [.dat (.int many), .dat (.int k), .ref p, .un, .un, .un])
    (fun H2 e2 => ⟨e1.trans e2, Tp.refl _, p0, vs0, hp0, e2 _ _ h1, ?_, S1.same e2⟩) (fun H1 i σ' H' _ h => h.2.1) ?_ ?_)
  · have := r1.same e2
    simpa [chN] using this
  · rintro H2 i p σ' H' v H'' e2 hx ⟨e3, t3, q, vs, hq, h3, r3, S3⟩ e4 rv
    have hi : i < many - k - 1 := by simpa using (List.getElem?_eq_some_iff.mp hx).1
    have S4 := (S3.same e4).setD 3 rv
    refine st_setN S4 ((el_lc2 (xs := chN i [List.replicate k false ++ [true]]) (enc := fun c => .tuple (c.map .bool)) (ys := fun _ => [false, true]) (enc1 := .bool) (f := fun c b => .tuple ((c ++ [b]).map .bool)) S4 (wk_list (EvX.r (ev_ref S4 rfl) ⟨vs, SqL.of (e4 _ _ h3), r3.same e4⟩)).kp (fun x _ => tg_name) ?_ (fun x _ σ5 H5 e5 S5 => wk_tup (ev_tup (ea_cons ev_bl (ea_cons ev_bl ea_nil)) (by decide))) (fun y => tg_name) (fun x hx5 y _ σ5 H5 e5 S5 => ?_)).to (es := (chN (i + 1) [List.replicate k false ++ [true]]).map fun c => .tuple (c.map .bool)) ?_) fun p5 vs5 σ5 H5 hp5 e5 h5 r5 S5 => ⟨(e3.trans e4).trans e5, (t3.trans (Same.tp e4)).trans (Same.tp e5), p5, vs5, fresh_back (e3.trans e4) hp5, h5, r5, S5.weak 3⟩
    · have := chN_len i [List.replicate k false ++ [true]]
      have h2 : 2 ^ i ≤ 2 ^ 3 := Nat.pow_le_pow_right (by omega) (by omega)
      have key : ∀ l : List (List Bool), (l.flatMap fun c => ([false, true]).map fun b => PyData.tuple ((c ++ [b]).map .bool)).length = 2 * l.length := by
        intro l
        induction l with
        | nil => rfl
        | cons x l ih =>
          rw [List.flatMap_cons, List.length_append, ih, List.length_cons]
          simp
          omega
      rw [key, this]
      simp
      omega
    · exact (ev_tup (ea_starT (ev_var S5 rfl) (ea_cons (ev_var S5 rfl) ea_nil)) (by have := chN_each i _ (k + 1) (by simp) x hx5; simp at this ⊢; omega)).to (by simp)
    · rw [chN_succ]
      unfold chStep
      rw [List.map_flatMap]
      rfl
  · rintro H2 σ' H' e2 ⟨e3, _, q, vs, hq, h3, r3, S3⟩
    rw [List.length_range] at r3
    exact ⟨.ref q, S3.ref rfl, kk q vs H' hq e3 h3 r3⟩
end
end SB
namespace SB
open PySem PySem.Spec PyProof.Rows L2 RZ
open StX (tStar pa_star)
section
variable {P : Program} {w : World} {K : PySem.W.Frag} {mg : Str → Option Value} {base : Heap}
abbrev s_rests_held : Stmt := topS 54
theorem sc_rests_held : FnScope ["rests", "choice", "rest", "is_held"] ["rests", "choice"] (defScope s_rests_held) := ⟨rfl, rfl, rfl, by decide +kernel, rfl, by decide +kernel, by decide +kernel⟩
theorem ok_rests_held {f : Addr} {fd : FuncData} (F : Fun K "rests_held" "rests_held" s_rests_held f fd) (T : Txt K mg)  : FnOk P w K mg base CX0 1 f fd ["rests", "choice"] sp_rests_held := by
  refine okD F sc_rests_held (by rintro _ _ ⟨rs, ch, hn, rfl, rfl⟩; rfl) fun cdv A outer s H vs Q E ds d hr hR S kk => ?_
  obtain ⟨rs, ch, hn, rfl, rfl⟩ := hR
  have hu := hu_of hr
  refine ⟨_, (pss_one (ps_ret (pe_callTy (k_call_tuple_of K) (by rfl) T.tuple (by decide +kernel) (pa_cons (pe_lc (own := [("rest", 2), ("is_held", 3)]) rfl sc_rests_held.nd (k_pi_zipA K (by rfl) T.zip (pa_cons (pv 0) (pa_cons (pv 1) pa_nil))) (blkOk_by (by kernel_rfl)) (fun _ _ _ _ _ => (k_pg_tup K 2 rfl (pgs_cons (pg_name (i := 2) sc_rests_held.nd rfl (Or.inl rfl)) (pgs_cons (pg_name (i := 3) sc_rests_held.nd rfl (Or.inl rfl)) pgs_nil)))) (fun _ _ _ _ _ => pts_nil) (fun _ _ _ _ _ => (pe_ifExp (pt_val (pv 3)) pe_int (pv 2)))) pa_nil)))), ?_⟩
  refine st_ret ((ev_tupleOf (EvL.r (el_lc0 (xs := rs.zip ch) (enc := fun e => .tuple [.int ((e.1 : Nat) : Int), .bool e.2]) (f := fun e => .int (if e.2 then 0 else ((e.1 : Nat) : Int))) S ((wk_zipT (ea_cons (ev_var S rfl) (ea_cons (ev_var S rfl) ea_nil))).to ?_).same (fun x _ => tg_tup (ns := [2, 3]) rfl rfl) ?_ fun x _ σ' H' _ S' => ?_))).to ?_) kk
  · unfold zipD
    rw [List.map_map, List.zipWith_map, List.zip, List.map_zipWith]
    rfl
  · rw [List.length_zip]
    omega
  · refine ev_if (b := x.2) (et_B (ev_var S' rfl)) (fun h => ?_) (fun h => ?_)
    · rw [h]; exact ev_int
    · rw [h]; exact ev_var S' rfl
  · unfold tI heldL
    rw [List.map_map, List.zip, List.map_zipWith, List.map_zipWith]
    congr 1
    congr 1
    funext a b
    cases b <;> rfl
end
end SB
namespace SB
open PySem PySem.Spec PyProof.Rows L2 RZ
open StX (tStar pa_star)
section
variable {P : Program} {w : World} {K : PySem.W.Frag} {mg : Str → Option Value} {base : Heap}
abbrev s_put_polygon : Stmt := topS 33
theorem sc_put_polygon : FnScope ["counts", "size", "prime", "beat", "many", "key"] ["counts", "size", "prime", "beat", "many"] (defScope s_put_polygon) := ⟨rfl, rfl, rfl, by decide +kernel, rfl, by decide +kernel, by decide +kernel⟩
theorem ok_put_polygon {f : Addr} {fd : FuncData} (F : Fun K "put_polygon" "put_polygon" s_put_polygon f fd) (T : Txt K mg)  : FnOk P w K mg base CX0 1 f fd ["counts", "size", "prime", "beat", "many"] sp_put_polygon := by
  refine okM F sc_put_polygon (by rintro _ _ _ _ ⟨c, C, n, p, b, m, hn, rfl, rfl, hc, kk⟩; rfl) fun cdv A outer s H vs Q E as ds hr hR S => ?_
  obtain ⟨c, C, n, p, b, m, hn, rfl, rfl, hc, kk⟩ := hR
  have hu := hu_of hr
  refine ⟨_, (pss_cons (ps_set (i := 5) sc_put_polygon.nd rfl (Or.inl rfl) (pe_tup (pa_cons (pv 2) (pa_cons (pe_op op_mod (pv 3) (pe_op op_fdiv (pv 1) (pv 2))) pa_nil))))
    (pss_one (ps_dput hu (pv 0) (pv 5) (pe_op op_add (pe_dget2 hu (pv 0) (pv 5) pe_int ⟨by rfl, by rfl, by rfl, by rfl⟩) (pv 4)) rfl))), ?_⟩
  have hd : ((n : Int) / (p : Int)) = ((n / p : Nat) : Int) := by norm_cast
  refine sq (st_set (d := tI [(p : Int), ((b % (n / p) : Nat) : Int)]) S ((ev_tup (ea_cons (ev_var S rfl) (ea_cons (ev_mod (ev_var S rfl) (ev_div (ev_var S rfl) (ev_var S rfl) ⟨by omega, by omega⟩) (by rw [hd]; omega)) ea_nil)) (by simp)).to (by rw [hd]; norm_cast)) fun σ1 H1 e1 S1 => ?_)
  have hc1 := e1 _ _ hc
  refine st_dput (C := cT C) (k := [(p : Int), ((b % (n / p) : Nat) : Int)]) (ev_add (ev_dget2 (ev_ref S1 rfl) (RdT.of hc1) (ev_var S1 rfl) ev_int) (ev_var S1 rfl)) (ev_ref S1 rfl) (ev_var S1 rfl) hc1 (by unfold cT; rw [List.length_map]; omega) fun H2 e2 => ?_
  refine kk _ (((Same.sb e1).trans (Same.sb e2)).trans Sb.put) ?_
  rw [upd_same]
  have h1 := cT_get C ((p : Int), ((b % (n / p) : Nat) : Int))
  have h2 := cT_put C ((p : Int), ((b % (n / p) : Nat) : Int)) m hn.2.2.2.2.2
  rw [← h1] at h2
  exact congrArg (fun z => some (HO.dT (tbH z))) h2
end
end SB
namespace SB
open PySem PySem.Spec PyProof.Rows L2 RZ
open StX (tStar pa_star)
section
variable {P : Program} {w : World} {K : PySem.W.Frag} {mg : Str → Option Value} {base : Heap}
theorem get_at {C : Cts} {x : Int × Int} (hx : x ∈ sortK (C.map (·.1))) : getT (cT C) [x.1, x.2] = some (getC C x) := by
  have h1 := (sortK_perm _).mem_iff.mp hx
  obtain ⟨v, hv⟩ := getT_some (C := cT C) (k := [x.1, x.2]) (by
    obtain ⟨e, he, rfl⟩ := List.mem_map.mp h1
    exact List.mem_map.mpr ⟨([e.1.1, e.1.2], e.2), List.mem_map.mpr ⟨e, he, rfl⟩, rfl⟩)
  rw [hv, ← cT_get, hv]
  rfl
abbrev s_heap_by : Stmt := topS 32
theorem sc_heap_by : FnScope ["counts", "key"] ["counts"] (defScope s_heap_by) := ⟨rfl, rfl, rfl, by decide +kernel, rfl, by decide +kernel, by decide +kernel⟩
theorem ok_heap_by {f : Addr} {fd : FuncData} (F : Fun K "heap_by" "heap_by" s_heap_by f fd) (T : Txt K mg)  : FnOk P w K mg base CX0 1 f fd ["counts"] sp_heap_by := by
  refine okM F sc_heap_by (by rintro _ _ _ _ ⟨c, C, hn, rfl, rfl, hc, kk⟩; rfl) fun cdv A outer s H vs Q E as ds hr hR S => ?_
  obtain ⟨c, C, hn, rfl, rfl, hc, kk⟩ := hR
  have hu := hu_of hr
  refine ⟨_, (pss_one (ps_ret (pe_callTy (k_call_tuple_of K) (by rfl) T.tuple (by decide +kernel) (pa_cons (pe_lc (own := [("key", 1)]) rfl sc_heap_by.nd (k_pi_list K (pe_callB (k_cr_sortedDT K) (by rfl) T.sorted (by decide +kernel) (pa_cons (pv 0) pa_nil))) (blkOk_by (by kernel_rfl)) (fun _ _ _ _ _ => (pg_name (i := 1) sc_heap_by.nd rfl (Or.inl rfl))) (fun _ _ _ _ _ => (pts_one (pt_cmpR op_ne (pe_dget hu (pv 0) (pv 1) (fun _ _ => rfl)) pe_int (nomark _)))) (fun _ _ _ _ _ => (pe_tup (k_pa_star K (pv 1) (pa_cons (pe_dget hu (pv 0) (pv 1) (fun _ _ => rfl)) pa_nil))))) pa_nil)))), ?_⟩
  refine st_ret ((ev_tupleOf (EvL.r (el_lc (xs := sortK (C.map (·.1))) (enc := kD) (p := fun k => !decide (getC C k = 0)) (f := fun k => rD (k.1, k.2, getC C k)) S (wk_list (EvL.r (el_sortedDT (ev_ref S rfl) hc))).kp (fun x _ => tg_name) ?_ ?_ ?_))).to ?_) kk
  · rw [(sortK_perm _).length_eq, List.length_map]
    omega
  · intro x hx σ' H' e' S'
    exact et_test (ev_ne (ev_dget (ev_ref S' rfl) (hc.same e') (ev_var S' rfl) (get_at hx)) ev_int)
  · intro x hx _ σ' H' e' S'
    exact ev_tup (ds := [.int x.1, .int x.2] ++ [.int (getC C x)]) (ea_starT (ev_var S' (k := 1) rfl) (ea_cons (ev_dget (ev_ref S' (k := 0) rfl) (hc.same e') (ev_var S' (k := 1) rfl) (get_at hx)) ea_nil)) (by simp)
  · unfold heapL
    rw [List.map_map]
    rfl
end
end SB
namespace SB
open PySem PySem.Spec PyProof.Rows L2 RZ
open StX (tStar pa_star)
section
variable {P : Program} {w : World} {K : PySem.W.Frag} {mg : Str → Option Value} {base : Heap}
abbrev s_is_low : Stmt := topS 78
theorem sc_is_low : FnScope ["voice", "weight"] ["voice"] (defScope s_is_low) := ⟨rfl, rfl, rfl, by decide +kernel, rfl, by decide +kernel, by decide +kernel⟩
theorem ok_is_low {f : Addr} {fd : FuncData} (F : Fun K "is_low" "is_low" s_is_low f fd) (T : Txt K mg)  : FnOk P w K mg base CX0 1 f fd ["voice"] sp_is_low := by
  refine okD F sc_is_low (by rintro _ _ ⟨v, hn, rfl, rfl⟩; rfl) fun cdv A outer s H vs Q E ds d hr hR S kk => ?_
  obtain ⟨v, hn, rfl, rfl⟩ := hR
  have hu := hu_of hr
  refine ⟨_, (pss_one (ps_ret (pe_callB (k_cr_any K rfl) (by rfl) T.any (by decide +kernel) (pa_cons (pe_lc (own := [("weight", 1)]) rfl sc_is_low.nd (k_pi_tup K (pv 0)) (blkOk_by (by kernel_rfl)) (fun _ _ _ _ _ => (pg_name (i := 1) sc_is_low.nd rfl (Or.inl rfl))) (fun _ _ _ _ _ => pts_nil) (fun _ _ _ _ _ => (pe_cmpR op_lt (pv 1) pe_int (nomark _)))) pa_nil)))), ?_⟩
  refine st_ret ((ev_any (bs := v.map fun x => decide (x < 0)) (EvL.r ((el_lc0 (xs := v) (enc := .int) (f := fun x => .bool (decide (x < 0))) S (wk_tup (ev_var S rfl)).same (fun x _ => tg_name) (by omega) fun x _ σ' H' _ S' => ev_lt (ev_var S' rfl) ev_int).to (by rw [List.map_map]; rfl)))).to (by rw [List.any_map]; rfl)) kk
end
end SB
namespace SB
open PySem PySem.Spec PyProof.Rows L2 RZ
open StX (tStar pa_star)
section
variable {P : Program} {w : World} {K : PySem.W.Frag} {mg : Str → Option Value} {base : Heap}
abbrev s_parted : Stmt := topS 69
theorem sc_parted : FnScope ["table", "p", "q", "low", "spot", "j", "i"] ["table", "p", "q"] (defScope s_parted) := ⟨rfl, rfl, rfl, by decide +kernel, rfl, by decide +kernel, by decide +kernel⟩
theorem ok_parted {f : Addr} {fd : FuncData} (F : Fun K "parted" "parted" s_parted f fd) (T : Txt K mg)  : FnOk P w K mg base CX0 1 f fd ["table", "p", "q"] sp_parted := by
  refine okM F sc_parted (by rintro _ _ _ _ ⟨t, C, p, q, g, hn, rfl, rfl, hc, kk⟩; rfl) fun cdv A outer s H vs Q E as ds hr hR S => ?_
  obtain ⟨t, C, p, q, g, hn, rfl, rfl, hc, kk⟩ := hR
  have hu := hu_of hr
  refine ⟨_, (pss_cons (ps_set (i := 3) sc_parted.nd rfl (Or.inr rfl) (pe_callB (k_cr_min K rfl) (by rfl) T.min (by decide +kernel) (pa_cons (pe_lc (own := [("j", 5)]) rfl sc_parted.nd (pi_range1 (by rfl) T.range (pa_cons (pv 2) pa_nil)) (blkOk_by (by kernel_rfl)) (fun _ _ _ _ _ => (pg_name (i := 5) sc_parted.nd rfl (Or.inl rfl))) (fun _ _ _ _ _ => pts_nil) (fun _ _ _ _ _ => (pe_dget hu (pv 0) (pe_tup (pa_cons pe_int (pa_cons (pv 5) pa_nil))) (fun _ _ => rfl)))) pa_nil)))
    (pss_cons (ps_set (i := 4) sc_parted.nd rfl (Or.inr rfl) (pe_bm PySem.F.plainAttrs_list PySem.F.slot_list_index PySem.F.type_list_index mt_index (pe_lc (own := [("j", 5)]) rfl sc_parted.nd (pi_range1 (by rfl) T.range (pa_cons (pv 2) pa_nil)) (blkOk_by (by kernel_rfl)) (fun _ _ _ _ _ => (pg_name (i := 5) sc_parted.nd rfl (Or.inl rfl))) (fun _ _ _ _ _ => pts_nil) (fun _ _ _ _ _ => (pe_dget hu (pv 0) (pe_tup (pa_cons pe_int (pa_cons (pv 5) pa_nil))) (fun _ _ => rfl)))) (pa_cons (pv 3) pa_nil)))
    (pss_one (ps_ret (pe_tup (pa_cons (pe_lc (own := [("i", 6)]) rfl sc_parted.nd (pi_range1 (by rfl) T.range (pa_cons (pv 1) pa_nil)) (blkOk_by (by kernel_rfl)) (fun _ _ _ _ _ => (pg_name (i := 6) sc_parted.nd rfl (Or.inl rfl))) (fun _ _ _ _ _ => pts_nil) (fun _ _ _ _ _ => (pe_dget hu (pv 0) (pe_tup (pa_cons (pv 6) (pa_cons (pv 4) pa_nil))) (fun _ _ => rfl)))) (pa_cons (pe_lc (own := [("j", 5)]) rfl sc_parted.nd (pi_range1 (by rfl) T.range (pa_cons (pv 2) pa_nil)) (blkOk_by (by kernel_rfl)) (fun _ _ _ _ _ => (pg_name (i := 5) sc_parted.nd rfl (Or.inl rfl))) (fun _ _ _ _ _ => pts_nil) (fun _ _ _ _ _ => (pe_op op_sub (pe_dget hu (pv 0) (pe_tup (pa_cons pe_int (pa_cons (pv 5) pa_nil))) (fun _ _ => rfl)) (pv 3)))) pa_nil))))))), ?_⟩
  have row : ∀ {σ' : L2.St} {H' : Hp} {ρ : List Sd}, Same H H' → Sl K σ' H' ρ → ρ[0]? = some (.ref t) → ρ[2]? = some (.dat (.int q)) → ρ.length = 7 → True := fun _ _ _ _ _ => True.intro
  have hne : ((List.range q).map fun j => g 0 j) ≠ [] := by
    intro z
    have := congrArg List.length z
    simp at this
    omega
  refine sq (st_set (d := .int (minL ((List.range q).map fun j => g 0 j))) S (ev_minL (EvL.r ((el_lc0 (xs := List.range q) (enc := fun j => .int ((j : Nat) : Int)) (f := fun j => .int (g 0 j)) S (wk_rng1 (ea_cons (ev_var S rfl) ea_nil) (by omega) (rng_d0 q (by omega))).same (fun x _ => tg_name) (by simp; omega) fun j hj σ' H' e' S' => ?_).to (by rw [List.map_map]; rfl))) hne) fun σ1 H1 e1 S1 => ?_)
  · exact ev_dget (k := [0, (j : Int)]) (ev_ref S' rfl) (hc.same e') (ev_tup (ea_cons ev_int (ea_cons (ev_var S' rfl) ea_nil)) (by simp)) (hn.2.2.2.2 0 j (by omega) (List.mem_range.mp hj))
  obtain ⟨hm, _⟩ := minL_spec hne
  have hlt : ((List.range q).map fun j => g 0 j).idxOf (minL ((List.range q).map fun j => g 0 j)) < q := by
    have := List.idxOf_lt_length_of_mem hm
    simpa using this
  obtain ⟨sp, hsp⟩ : ∃ sp, ((List.range q).map fun j => g 0 j).idxOf (minL ((List.range q).map fun j => g 0 j)) = sp := ⟨_, rfl⟩
  obtain ⟨low, hlow⟩ : ∃ low, minL ((List.range q).map fun j => g 0 j) = low := ⟨_, rfl⟩
  rw [hsp] at hlt
  refine sq (st_set (d := .int (sp : Int)) S1 ((ev_index (ns := (List.range q).map fun j => g 0 j) (EvL.r ((el_lc0 (xs := List.range q) (enc := fun j => .int ((j : Nat) : Int)) (f := fun j => .int (g 0 j)) S1 (wk_rng1 (ea_cons (ev_var S1 rfl) ea_nil) (by omega) (rng_d0 q (by omega))).same (fun x _ => tg_name) (by simp; omega) fun j hj σ' H' e' S' => ?_).to (by rw [List.map_map]; rfl))) (ev_var S1 rfl) hm).to (by rw [hsp])) fun σ2 H2 e2 S2 => ?_)
  · exact ev_dget (k := [0, (j : Int)]) (ev_ref S' rfl) (hc.same (e1.trans e')) (ev_tup (ea_cons ev_int (ea_cons (ev_var S' rfl) ea_nil)) (by simp)) (hn.2.2.2.2 0 j (by omega) (List.mem_range.mp hj))
  have e12 := e1.trans e2
  rw [hlow] at S2
  refine st_retLL (el_lc0 (xs := List.range p) (enc := fun i => .int ((i : Nat) : Int)) (f := fun i => .int (g i sp)) S2 (wk_rng1 (ea_cons (ev_var S2 rfl) ea_nil) (by omega) (rng_d0 p (by omega))).same (fun x _ => tg_name) (by simp; omega) fun i hi σ' H' e' S' => ?_) (el_lc0 (xs := List.range q) (enc := fun j => .int ((j : Nat) : Int)) (f := fun j => .int (g 0 j - low)) S2 (wk_rng1 (ea_cons (ev_var S2 rfl) ea_nil) (by omega) (rng_d0 q (by omega))).same (fun x _ => tg_name) (by simp; omega) fun j hj σ' H' e' S' => ?_) fun r l1 l2 vs1 vs2 H4 hl1 hl2 e4 hr h3 r3 h4 r4 => ?_
  · exact ev_dget (k := [(i : Int), (sp : Int)]) (ev_ref S' rfl) (hc.same (e12.trans e')) (ev_tup (ea_cons (ev_var S' rfl) (ea_cons (ev_var S' rfl) ea_nil)) (by simp)) (hn.2.2.2.2 i sp (List.mem_range.mp hi) hlt)
  · exact ev_sub (ev_dget (k := [0, (j : Int)]) (ev_ref S' rfl) (hc.same (e12.trans e')) (ev_tup (ea_cons ev_int (ea_cons (ev_var S' rfl) ea_nil)) (by simp)) (hn.2.2.2.2 0 j (by omega) (List.mem_range.mp hj))) (ev_var S' rfl)
  · have v1 : vs1 = ((List.range p).map fun i => g i sp).map V.int := DtA.ints (ns := (List.range p).map fun i => g i sp) (by rw [List.map_map]; exact r3)
    have v2 : vs2 = ((List.range q).map fun j => g 0 j - low).map V.int := DtA.ints (ns := (List.range q).map fun j => g 0 j - low) (by rw [List.map_map]; exact r4)
    exact kk r l1 l2 ((List.range p).map fun i => g i sp) ((List.range q).map fun j => g 0 j - low) _ (by simp) (by simp) (fresh_back e12 hl1) (fresh_back e12 hl2) (e12.trans e4) hr (by rw [h3, v1]) (by rw [h4, v2])
end
end SB
namespace SB
open PySem PySem.Spec PyProof.Rows L2 RZ
open StX (tStar pa_star)
section
variable {P : Program} {w : World} {K : PySem.W.Frag} {mg : Str → Option Value} {base : Heap}
abbrev s_lows_of : Stmt := topS 71
theorem sc_lows_of : FnScope ["table", "primes", "p", "q", "r", "i", "j", "k"] ["table", "primes"] (defScope s_lows_of) := ⟨rfl, rfl, rfl, by decide +kernel, rfl, by decide +kernel, by decide +kernel⟩
theorem ok_lows_of {f : Addr} {fd : FuncData} (F : Fun K "lows_of" "lows_of" s_lows_of f fd) (T : Txt K mg)  : FnOk P w K mg base CX0 1 f fd ["table", "primes"] sp_lows_of := by
  refine okM F sc_lows_of (by rintro _ _ _ _ ⟨t, C, p, q, r, g, hn, rfl, rfl, hc, kk⟩; rfl) fun cdv A outer s H vs Q E as ds hr hR S => ?_
  obtain ⟨t, C, p, q, r, g, hn, rfl, rfl, hc, kk⟩ := hR
  have hu := hu_of hr
  refine ⟨_, (pss_cons (ps_asg (pv 1) (k_pg_tup K 3 rfl (pgs_cons (pg_name (i := 2) sc_lows_of.nd rfl (Or.inl rfl)) (pgs_cons (pg_name (i := 3) sc_lows_of.nd rfl (Or.inr rfl)) (pgs_cons (pg_name (i := 4) sc_lows_of.nd rfl (Or.inr rfl)) pgs_nil)))))
    (pss_one (ps_ret (pe_dcT2 (own := [("i", 5), ("j", 6)]) (vs1 := [6]) rfl sc_lows_of.nd hu (pi_range1 (by rfl) T.range (pa_cons (pv 2) pa_nil)) (blkOk_by (by kernel_rfl)) (by decide) (fun _ _ _ _ _ => (pg_name (i := 5) sc_lows_of.nd rfl (Or.inr rfl))) (fun _ _ _ _ _ => (pi_range1 (by rfl) T.range (pa_cons (pv 3) pa_nil))) (fun _ _ _ _ _ => (pg_name (i := 6) sc_lows_of.nd rfl (Or.inr rfl))) (fun _ _ _ _ _ => (pe_tup (pa_cons (pv 5) (pa_cons (pv 6) pa_nil)))) (fun _ _ _ _ _ => (pe_callB (k_cr_min K rfl) (by rfl) T.min (by decide +kernel) (pa_cons (pe_lc (own := [("k", 7)]) rfl sc_lows_of.nd (pi_range1 (by rfl) T.range (pa_cons (pv 4) pa_nil)) (blkOk_by (by kernel_rfl)) (fun _ _ _ _ _ => (pg_name (i := 7) sc_lows_of.nd rfl (Or.inl rfl))) (fun _ _ _ _ _ => pts_nil) (fun _ _ _ _ _ => (pe_dget hu (pv 0) (pe_tup (pa_cons (pv 5) (pa_cons (pv 6) (pa_cons (pv 7) pa_nil)))) (fun _ _ => rfl)))) pa_nil))))))), ?_⟩
  refine sq (st_asg (d := tI (zs [p, q, r])) S (ev_var S rfl) (tg_tup (ns := [2, 3, 4]) rfl rfl) fun σ1 H1 e1 S1 => ?_)
  have S1 : Sl K σ1 H1 [.ref t, .dat (tI (zs [p, q, r])), .dat (.int p), .dat (.int q), .dat (.int r), .un, .un, .un] := S1
  refine st_retC (ec_dc2 (xs := List.range p) (enc := fun i => .int ((i : Nat) : Int)) (ys := List.range q) (enc1 := fun j => .int ((j : Nat) : Int)) (kf := fun i j => [(i : Int), (j : Int)]) (vf := fun i j => minL ((List.range r).map fun k => g i j k)) S1 (wk_rng1 (ea_cons (ev_var S1 rfl) ea_nil) (by omega) (rng_d0 p (by omega))) (fun x _ => tg_name) ?_ (keys_nodup p q) (fun x _ => rfl) (fun i hi σ' H' e' S' => wk_rng1 (ea_cons (ev_var S' rfl) ea_nil) (by omega) (rng_d0 q (by omega))) (fun y _ => tg_name) (fun i hi j hj σ' H' e' S' => ev_tup (ea_cons (ev_var S' rfl) (ea_cons (ev_var S' rfl) ea_nil)) (by simp)) fun i hi j hj σ' H' e' S' => ?_) fun l H2 hl e2 h2 => kk l _ H2 (fun i j hi hj => ?_) (fresh_back e1 hl) (e1.trans e2) h2
  · have : ∀ l : List Nat, (l.flatMap fun (i : Nat) => (List.range q).map fun (j : Nat) => ([(i : Int), (j : Int)], minL ((List.range r).map fun k => g i j k))).length = l.length * q := by
      intro l
      induction l with
      | nil => simp
      | cons x l ih => rw [List.flatMap_cons, List.length_append, ih, List.length_map, List.length_range, List.length_cons, Nat.succ_mul]; omega
    rw [this, List.length_range]
    omega
  · refine ev_minL (EvL.r ((el_lc0 (xs := List.range r) (enc := fun k => .int ((k : Nat) : Int)) (f := fun k => .int (g i j k)) S' (wk_rng1 (ea_cons (ev_var S' rfl) ea_nil) (by omega) (rng_d0 r (by omega))).same (fun x _ => tg_name) (by simp; omega) fun k hk σ2 H2 e2 S2 => ?_).to (by rw [List.map_map]; rfl))) (fun z => ?_)
    · exact ev_dget (k := [(i : Int), (j : Int), (k : Int)]) (ev_ref S2 rfl) (hc.same ((e1.trans e').trans e2)) (ev_tup (ea_cons (ev_var S2 rfl) (ea_cons (ev_var S2 rfl) (ea_cons (ev_var S2 rfl) ea_nil))) (by simp)) (hn.2.2.2.2.2 i j k (List.mem_range.mp hi) (List.mem_range.mp hj) (List.mem_range.mp hk))
    · have := congrArg List.length z
      simp at this
      omega
  · exact has2_of p q _ i j hi hj
end
end SB
namespace SB
open PySem PySem.Spec PyProof.Rows L2 RZ
open StX (tStar pa_star)
section
variable {P : Program} {w : World} {K : PySem.W.Frag} {mg : Str → Option Value} {base : Heap}
abbrev s_bound_between : Stmt := topS 72
theorem sc_bound_between : FnScope ["table", "lows", "q", "pair", "one", "late", "bounds", "j"] ["table", "lows", "q", "pair"] (defScope s_bound_between) := ⟨rfl, rfl, rfl, by decide +kernel, rfl, by decide +kernel, by decide +kernel⟩
theorem ok_bound_between {f : Addr} {fd : FuncData} (F : Fun K "bound_between" "bound_between" s_bound_between f fd) (T : Txt K mg)  : FnOk P w K mg base CX0 1 f fd ["table", "lows", "q", "pair"] sp_bound_between := by
  refine okM F sc_bound_between (by rintro _ _ _ _ ⟨t, l, C, L, p, q, r, a, b, g, lw, hn, rfl, rfl, hc, hl, kk⟩; rfl) fun cdv A outer s H vs Q E as ds hr hR S => ?_
  obtain ⟨t, l, C, L, p, q, r, a, b, g, lw, hn, rfl, rfl, hc, hl, kk⟩ := hR
  have hu := hu_of hr
  refine ⟨_, (pss_cons (ps_asg (pv 3) (k_pg_tup K 2 rfl (pgs_cons (pg_name (i := 4) sc_bound_between.nd rfl (Or.inr rfl)) (pgs_cons (pg_name (i := 5) sc_bound_between.nd rfl (Or.inr rfl)) pgs_nil))))
    (pss_cons (ps_setLc (i := 6) (own := [("j", 7)]) rfl sc_bound_between.nd rfl rfl (sw_true rfl rfl rfl (by decide +kernel)) (pi_range1 (by rfl) T.range (pa_cons (pv 2) pa_nil)) (blkOk_by (by kernel_rfl)) (fun _ _ _ _ _ => (pg_name (i := 7) sc_bound_between.nd rfl (Or.inl rfl))) (fun _ _ _ _ _ => pts_nil) (fun _ _ _ _ _ => (pe_tup (pa_cons (pe_op op_sub (pe_op op_add (pe_dget hu (pv 0) (pe_tup (pa_cons (pv 4) (pa_cons (pv 7) (pa_cons pe_int pa_nil)))) (fun _ _ => rfl)) (pe_dget hu (pv 1) (pe_tup (pa_cons (pv 5) (pa_cons (pv 7) pa_nil))) (fun _ _ => rfl))) (pe_dget hu (pv 0) (pe_tup (pa_cons (pv 5) (pa_cons (pv 7) (pa_cons pe_int pa_nil)))) (fun _ _ => rfl))) (pa_cons (pv 7) pa_nil)))))
    (pss_one (ps_ret (pe_callB (k_cr_minP K rfl hr.units) (by rfl) T.min (by decide +kernel) (pa_cons (pv 6) pa_nil)))))), ?_⟩
  refine sq (st_asg (d := tI [(a : Int), (b : Int)]) S (ev_var S rfl) (tg_tup (ns := [4, 5]) rfl rfl) fun σ1 H1 e1 S1 => ?_)
  refine sq (st_setN S1 (el_lc0 (xs := List.range q) (enc := fun j => .int ((j : Nat) : Int)) (f := fun j => kD (g a j 0 + lw b j - g b j 0, (j : Int))) S1 (wk_rng1 (ea_cons (ev_var S1 rfl) ea_nil) (by omega) (rng_d0 q (by omega))).same (fun x _ => tg_name) (by simp; omega) fun j hj σ2 H2 e2 S2 => ?_) fun p2 vs σ2 H2 hp2 e2 h2 r2 S2 => ?_)
  · have hj := List.mem_range.mp hj
    exact ev_tup (ea_cons (ev_sub (ev_add (ev_dget (k := [(a : Int), (j : Int), 0]) (ev_ref S2 rfl) (hc.same (e1.trans e2)) (ev_tup (ea_cons (ev_var S2 rfl) (ea_cons (ev_var S2 rfl) (ea_cons ev_int ea_nil))) (by simp)) (hn.2.2.2.2.2.1 a j 0 hn.1 hj (by omega))) (ev_dget (k := [(b : Int), (j : Int)]) (ev_ref S2 rfl) (hl.same (e1.trans e2)) (ev_tup (ea_cons (ev_var S2 rfl) (ea_cons (ev_var S2 rfl) ea_nil)) (by simp)) (hn.2.2.2.2.2.2 b j hn.2.1 hj))) (ev_dget (k := [(b : Int), (j : Int), 0]) (ev_ref S2 rfl) (hc.same (e1.trans e2)) (ev_tup (ea_cons (ev_var S2 rfl) (ea_cons (ev_var S2 rfl) (ea_cons ev_int ea_nil))) (by simp)) (hn.2.2.2.2.2.1 b j 0 hn.2.1 hj (by omega)))) (ea_cons (ev_var S2 rfl) ea_nil)) (by simp)
  · refine st_retMinP (ps := (List.range q).map fun (j : Nat) => (g a j 0 + lw b j - g b j 0, (j : Int))) (EvX.r (ev_ref S2 rfl) ⟨vs, SqL.of h2, by rw [List.map_map]; exact r2⟩) (fun z => ?_) fun v H3 x e3 hx r3 => ?_
    · have := congrArg List.length z
      simp at this
      omega
    · obtain ⟨j, hj, rfl⟩ := List.mem_map.mp hx
      exact kk v H3 j (List.mem_range.mp hj) ((e1.trans e2).trans e3) r3
end
end SB
namespace SB
open PySem PySem.Spec PyProof.Rows L2 RZ
open StX (tStar pa_star)
section
variable {P : Program} {w : World} {K : PySem.W.Frag} {mg : Str → Option Value} {base : Heap}
abbrev s_voice_by : Stmt := topS 59
theorem sc_voice_by : FnScope ["size", "beats", "beat"] ["size", "beats"] (defScope s_voice_by) := ⟨rfl, rfl, rfl, by decide +kernel, rfl, by decide +kernel, by decide +kernel⟩
theorem ok_voice_by {f : Addr} {fd : FuncData} (F : Fun K "voice_by" "voice_by" s_voice_by f fd) (T : Txt K mg)  : FnOk P w K mg base CX0 1 f fd ["size", "beats"] (sp_voice_by K) := by
  refine F.ok sc_voice_by (fun vs H Q E h => ?_) (fun cdv A outer s H vs Q E hr h => ?_)
  · obtain ⟨n, a, ns, rfl, _⟩ := h
    rfl
  · obtain ⟨n, a, ns, rfl, hl, hn, kk⟩ := h
    have hu := hu_of hr
    have S : Sl K (L2.start ["size", "beats", "beat"] [.int n, .ref a]) H [.dat (.int n), .ref a, .un] := Sl.start (N := ["size", "beats", "beat"]) (xs := [.dat (.int n), .ref a]) rfl fun i v x h1 h2 => by
      cases i with
      | zero => cases h1; cases h2; exact ⟨_, rfl, .int _⟩
      | succ i =>
        cases i with
        | zero => cases h1; cases h2; rfl
        | succ i => cases h1
    refine ⟨_, (pss_one (ps_ret (pe_callTy (k_call_tuple_of K) (by rfl) T.tuple (by decide +kernel) (pa_cons (pe_lc (own := [("beat", 2)]) rfl sc_voice_by.nd (pi_range1 (by rfl) T.range (pa_cons (pv 0) pa_nil)) (blkOk_by (by kernel_rfl)) (fun _ _ _ _ _ => (pg_name (i := 2) sc_voice_by.nd rfl (Or.inl rfl))) (fun _ _ _ _ _ => pts_nil) (fun _ _ _ _ _ => (pe_callTy call_int1 (by rfl) T.int (by decide +kernel) (pa_cons (pe_cmpR (k_op_in_seq K) (pv 2) (pv 1) (by rfl)) pa_nil)))) pa_nil)))), ?_⟩
    refine st_ret ((ev_tupleOf (EvL.r (el_lc0 (xs := List.range n) (enc := fun b => .int ((b : Nat) : Int)) (f := fun b => .int (if ns.any (· == ((b : Nat) : Int)) then 1 else 0)) S (wk_rng1 (n := (n : Int)) (ea_cons (ev_var S rfl) ea_nil) (by omega) (rng_d0 n (by omega))).same (fun x _ => tg_name) (by simp; omega) fun b hb σ' H' e' S' => ev_intB (ev_inL (ev_var S' rfl) (EvX.r (ev_ref S' rfl) (hl.same e')))))).to (by unfold tI vbeats; rw [List.map_map]; rfl)) kk
end
end SB
namespace SB
open PySem PySem.Spec PyProof.Rows L2 RZ
open StX (tStar pa_star)
section
variable {P : Program} {w : World} {K : PySem.W.Frag} {mg : Str → Option Value} {base : Heap}
abbrev s_fold_to : Stmt := topS 61
theorem sc_fold_to : FnScope ["voice", "size", "beat"] ["voice", "size"] (defScope s_fold_to) := ⟨rfl, rfl, rfl, by decide +kernel, rfl, by decide +kernel, by decide +kernel⟩
theorem ok_fold_to {f : Addr} {fd : FuncData} (F : Fun K "fold_to" "fold_to" s_fold_to f fd) (T : Txt K mg)  : FnOk P w K mg base CX0 1 f fd ["voice", "size"] sp_fold_to := by
  refine okD F sc_fold_to (by rintro _ _ ⟨v, k, q, hn, rfl, rfl⟩; rfl) fun cdv A outer s H vs Q E ds d hr hR S kk => ?_
  obtain ⟨v, k, q, hn, rfl, rfl⟩ := hR
  have hu := hu_of hr
  refine ⟨_, (pss_one (ps_ret (pe_callTy (k_call_tuple_of K) (by rfl) T.tuple (by decide +kernel) (pa_cons (pe_lc (own := [("beat", 2)]) rfl sc_fold_to.nd (pi_range1 (by rfl) T.range (pa_cons (pv 1) pa_nil)) (blkOk_by (by kernel_rfl)) (fun _ _ _ _ _ => (pg_name (i := 2) sc_fold_to.nd rfl (Or.inl rfl))) (fun _ _ _ _ _ => pts_nil) (fun _ _ _ _ _ => (pe_callB (k_cr_sumT K rfl) (by rfl) T.sum (by decide +kernel) (pa_cons (k_pe_stepT K (pv 0) (pv 2) (pv 1)) pa_nil)))) pa_nil)))), ?_⟩
  refine st_ret ((ev_tupleOf (EvL.r (el_lc0 (xs := List.range k) (enc := fun b => .int ((b : Nat) : Int)) (f := fun b => .int (((List.range (v.length / k)).map fun t => v.getD (b + t * k) 0).sum)) S (wk_rng1 (n := (k : Int)) (ea_cons (ev_var S rfl) ea_nil) (by omega) (rng_d0 k (by omega))).same (fun x _ => tg_name) (by simp; omega) fun b hb σ' H' e' S' => ?_))).to (by unfold foldL tI; rw [List.map_map]; rfl)) kk
  have hb := List.mem_range.mp hb
  have hle : k ≤ v.length := by
    rw [hn.2.2.1]
    exact Nat.le_mul_of_pos_left _ (by omega)
  have hdiv : v.length / k = q := by rw [hn.2.2.1]; exact Nat.mul_div_cancel _ (by omega)
  refine (ev_sumT (ns := stepV v b k) (ev_stepT (ev_var S' rfl) (ev_var S' rfl) (ev_var S' rfl) (by omega) hn.1)).to ?_
  rw [hdiv, stepV_even hn.2.2.1 hb]
  rfl
end
end SB

namespace SB
open PySem PySem.Spec PyProof.Rows L2 RZ
open StX (tStar pa_star)
section
variable {P : Program} {w : World} {K : PySem.W.Frag} {mg : Str → Option Value} {base : Heap}
abbrev s_want : Stmt := topS 63
theorem sc_want : FnScope ["holds", "word", "at"] ["holds", "word", "at"] (defScope s_want) := ⟨rfl, rfl, rfl, by decide +kernel, rfl, by decide +kernel, by decide +kernel⟩
theorem ok_want {dvs : List V} {f : Addr} {fd : FuncData} (F : FunD K "want" "want" (defArgs s_want) (defBody s_want) (defScope s_want) dvs [] f fd) (T : Txt K mg) : FnOk P w K mg base CX0 1 f fd ["holds", "word", "at"] (fun vs H Q E => sp_want vs.dropLast H Q E) := by
  refine F.ok sc_want (fun vs H Q E h => ?_) (fun cdv A outer s H vs Q E hr h => ?_)
  · obtain ⟨ds, d, r, ⟨x, rfl, _⟩, _⟩ := h
    have := r.len
    rw [List.length_dropLast] at this
    show vs.length = 3
    simp at this
    omega
  · obtain ⟨ds, d, r, ⟨x, rfl, rfl⟩, kk⟩ := h
    have hu := hu_of hr
    obtain ⟨a, b, rfl⟩ : ∃ a b, vs = a ++ [b] := by
      have hne : vs ≠ [] := fun z => by rw [z] at r; cases r
      exact ⟨vs.dropLast, vs.getLast hne, (List.dropLast_concat_getLast hne).symm⟩
    rw [List.dropLast_concat] at r
    obtain ⟨x1, x2, rfl, r1, r2⟩ : ∃ x1 x2, a = [x1, x2] ∧ Dt H x1 (.bool true) ∧ Dt H x2 (.str x) := by
      cases r with
      | cons r1 r =>
        cases r with
        | cons r2 r =>
          cases r
          exact ⟨_, _, rfl, r1, r2⟩
    have S : Sl K (L2.start ["holds", "word", "at"] [x1, x2, b]) H [.dat (.bool true), .dat (.str x), .un] := Sl.start (N := ["holds", "word", "at"]) (xs := [.dat (.bool true), .dat (.str x), .un]) rfl fun i v y h1 h2 => by
      match i with
      | 0 => cases h1; cases h2; exact ⟨_, rfl, r1⟩
      | 1 => cases h1; cases h2; exact ⟨_, rfl, r2⟩
      | 2 => cases h1; cases h2; exact True.intro
      | i + 3 => cases h1
    refine ⟨_, (pss_one (ps_if (pt_not (pt_val (pv 0))) 
      (pss_one ps_never)
      pss_nil)), ?_⟩
    exact st_if (b := false) ((et_not (et_B (ev_var S rfl))).to rfl) (fun z => nomatch z) fun _ H1 e1 => kk _ H1 e1 .non
end
end SB
namespace SB
open PySem PySem.Spec PyProof.Rows L2 RZ
open StX (tStar pa_star)
section
variable {P : Program} {w : World} {K : PySem.W.Frag} {mg : Str → Option Value} {base : Heap}
abbrev s__law_feed : Stmt := topS 89
theorem sc__law_feed : FnScope ["_law_script"] ["_law_script"] (defScope s__law_feed) := ⟨rfl, rfl, rfl, by decide +kernel, rfl, by decide +kernel, by decide +kernel⟩
theorem ok__law_feed {f : Addr} {fd : FuncData} (F : Fun K "_law_feed" "_law_feed" s__law_feed f fd) (T : Txt K mg)  : FnOk P w K mg base CX0 1 f fd ["_law_script"] (sp__law_feed K) := by
  refine okM F sc__law_feed (by rintro _ _ _ _ ⟨s, ns, rfl, rfl, hs, kk⟩; rfl) fun cdv A outer s H vs Q E as ds hr hR S => ?_
  obtain ⟨s, ns, rfl, rfl, hs, kk⟩ := hR
  have hu := hu_of hr
  refine ⟨_, (pss_one (ps_ret (pe_disp (pps_cons pe_str (pe_callTy (k_call_list_of K) (by rfl) T.list (by decide +kernel) (pa_cons (pe_slice (k_sl_list K) (pv 0) po_none (po_some pe_int)) pa_nil)) (pps_cons pe_str pe_int (pps_cons pe_str pe_int (pps_cons pe_str pe_int pps_nil)))) (by rfl) (by rfl) (fun z => by cases z) (by decide)))), ?_⟩
  intro p hp
  have S1 := S.same (Same.new (o := .dK []) hp)
  have e0 : Same H (upd H p (.dK [])) := Same.new hp
  refine tp_cons ((el_list (EvL.r ((el_slL (lo := none) (hi := some 62) (EvX.r (ev_ref S1 (k := 0) rfl) (hs.same e0)) eo_none (eo_some ev_int)).to (cut_map (lo := none) (hi := some 62) PyData.int ns)))) _ (Same.refl _) _ fun l vs H1 hl e1 h1 r1 => tp_cons2 (tp_cons2 (tp_cons2 (tp_nil ?_))))
  have hv : vs = (cutA ns none (some 62)).map V.int := DtA.ints r1
  have hlp : l ≠ p := fun z => by rw [z, upd_same] at hl; cases hl
  refine ⟨e1 _ _ upd_same, feedT l 0 0 0, rfl, (show 4 ≤ 15 by decide), ?_⟩
  rw [feed_new]
  refine kk p _ hp (Same.mut (e0.trans e1) hp) ⟨l, cutA ns none (some 62), 0, 0, 0, upd_same, ?_, hlp⟩
  rw [upd_ne hlp, h1, hv]
end
end SB
namespace SB
open PySem PySem.Spec PyProof.Rows L2 RZ
open StX (tStar pa_star)
section
variable {P : Program} {w : World} {K : PySem.W.Frag} {mg : Str → Option Value} {base : Heap}
abbrev s__law_draw : Stmt := topS 90
theorem sc__law_draw : FnScope ["_law_feed_here", "_law_many", "_law_figure", "_law_at", "_law_cell", "_law_mash"] ["_law_feed_here", "_law_many"] (defScope s__law_draw) := ⟨rfl, rfl, rfl, by decide +kernel, rfl, by decide +kernel, by decide +kernel⟩
theorem ok__law_draw {f : Addr} {fd : FuncData} (F : Fun K "_law_draw" "_law_draw" s__law_draw f fd) (T : Txt K mg)  : FnOk P w K mg base CX0 1 f fd ["_law_feed_here", "_law_many"] sp__law_draw := by
  refine okM F sc__law_draw (by rintro _ _ _ _ ⟨a, m, hm, hf, rfl, rfl, kk⟩; rfl) fun cdv A outer s H vs Q E as ds hr hR S => ?_
  obtain ⟨a, m, hm, hf, rfl, rfl, kk⟩ := hR
  have hu := hu_of hr
  refine ⟨_, (pss_cons (ps_dput hu (pv 0) pe_str (pe_op op_add (pe_dget hu (pv 0) pe_str (fun _ _ => rfl)) pe_int) rfl)
    (pss_cons (ps_if (pt_cmpR op_gt (pe_dget hu (pv 0) pe_str (fun _ _ => rfl)) pe_int (nomark _)) 
      (pss_cons (ps_set (i := 2) sc__law_draw.nd rfl (Or.inl rfl) (pe_op op_mod (pe_callTy call_int1 (by rfl) T.int (by decide +kernel) (pa_cons (pe_dget hu (pv 0) pe_str (fun _ _ => rfl)) pa_nil)) (pv 1)))
      (pss_cons (ps_dput hu (pv 0) pe_str (pe_op op_fdiv (pe_dget hu (pv 0) pe_str (fun _ _ => rfl)) (pv 1)) rfl)
      (pss_one (ps_ret (pv 2)))))
      pss_nil)
    (pss_cons (ps_set (i := 3) sc__law_draw.nd rfl (Or.inl rfl) (pe_dget hu (pv 0) pe_str (fun _ _ => rfl)))
    (pss_cons (ps_dput hu (pv 0) pe_str (pe_op op_add (pv 3) pe_int) rfl)
    (pss_cons (ps_set (i := 4) sc__law_draw.nd rfl (Or.inl rfl) (pe_ifExp (pt_cmpR (k_op_neD K hr.units) (pe_dget hu (pv 0) pe_str (fun _ _ => rfl)) (pe_lst pa_nil) (nomark _)) (pe_ix (k_ix_list K) (pe_dget hu (pv 0) pe_str (fun _ _ => rfl)) (pe_op op_mod (pe_callTy call_int1 (by rfl) T.int (by decide +kernel) (pa_cons (pv 3) pa_nil)) (pe_callB (k_call_len_seq K) (by rfl) T.len PySem.boot_len (pa_cons (pe_dget hu (pv 0) pe_str (fun _ _ => rfl)) pa_nil))) (fun _ _ => rfl)) pe_int))
    (pss_cons (ps_if (PW.pt (pw_and (pt_cmpR op_ge (pv 4) (pe_op op_pow pe_int pe_int) (nomark _)) (pw_and1 (pt_cmpR op_lt (pv 3) (pe_callB (k_call_len_seq K) (by rfl) T.len PySem.boot_len (pa_cons (pe_dget hu (pv 0) pe_str (fun _ _ => rfl)) pa_nil)) (nomark _))))) 
      (pss_cons (ps_dput hu (pv 0) pe_str (pe_op op_fdiv (pv 4) (pv 1)) rfl)
      (pss_one (ps_ret (pe_op op_mod (pe_callTy call_int1 (by rfl) T.int (by decide +kernel) (pa_cons (pv 4) pa_nil)) (pv 1)))))
      pss_nil)
    (pss_cons (ps_set (i := 5) sc__law_draw.nd rfl (Or.inl rfl) (pe_op op_mod (pe_callTy call_int1 (by rfl) T.int (by decide +kernel) (pa_cons (pe_op op_add (pe_op op_add (pe_op op_mod (pe_callTy call_int1 (by rfl) T.int (by decide +kernel) (pa_cons (pv 4) pa_nil)) pe_int) (pe_op op_mul pe_int (pe_dget hu (pv 0) pe_str (fun _ _ => rfl)))) pe_int) pa_nil)) pe_int))
    (pss_cons (ps_set (i := 5) sc__law_draw.nd rfl (Or.inl rfl) (pe_op op_mod (pe_callTy call_int1 (by rfl) T.int (by decide +kernel) (pa_cons (pe_op op_add (pe_op op_add (pe_op op_mul (pv 5) (pv 5)) (pe_op op_mul pe_int (pe_dget hu (pv 0) pe_str (fun _ _ => rfl)))) pe_int) pa_nil)) pe_int))
    (pss_one (ps_ret (pe_op op_mod (pe_callTy call_int1 (by rfl) T.int (by decide +kernel) (pa_cons (pe_op op_fdiv (pe_op op_mod (pe_callTy call_int1 (by rfl) T.int (by decide +kernel) (pa_cons (pe_op op_add (pe_op op_mul (pv 5) (pv 5)) (pe_op op_mul pe_int (pv 5))) pa_nil)) pe_int) pe_int) pa_nil)) (pv 1)))))))))))), ?_⟩
  obtain ⟨l, ns, i, j, c, hf⟩ := hf
  have fin : ∀ {x : Int} {v : V} {H' H2 : Hp}, Sb a H H' → FeedOk H' a → Same H' H2 → Dt H2 v (.int (x % (m : Int))) → Q v H2 := fun {x v H' H2} s f e r => by
    have h1 := Int.emod_nonneg x (b := (m : Int)) (by omega)
    have h2 := Int.emod_lt_of_pos x (b := (m : Int)) (by omega)
    obtain ⟨k, hk⟩ : ∃ k : Nat, x % (m : Int) = (k : Int) := ⟨(x % (m : Int)).toNat, by omega⟩
    rw [r.int', hk]
    exact kk k H2 (by omega) (s.trans (Same.sb e)) (f.same e)
  refine sq (st_putCount S rfl hf (ev_add (ev_count S rfl hf) ev_int) fun H1 s1 f1 S1 => ?_)
  refine sq (st_if (et_test (ev_gt (ev_left S1 rfl f1) ev_int)) (fun _ H2 e2 => ?_) fun _ H2 e2 => ?_)
  · have f2 := f1.same e2
    have S2 := S1.same e2
    refine sq (st_set S2 (ev_mod (ev_intI (ev_left S2 rfl f2)) (ev_var S2 rfl) (by omega)) fun σ3 H3 e3 S3 => ?_)
    have f3 := f2.same e3
    refine sq (st_putLeft S3 rfl f3 (ev_div (ev_left S3 rfl f3) (ev_var S3 rfl) ⟨by omega, by omega⟩) fun H4 s4 f4 S4 => ?_)
    exact st_ret (ev_var S4 rfl) fun v H5 e5 r5 => fin (s1.trans ((Same.sb (e2.trans e3)).trans s4)) ⟨_, _, _, _, _, f4⟩ e5 r5
  · have f2 := f1.same e2
    have S2 := S1.same e2
    refine sq (st_set S2 (ev_at S2 rfl f2) fun σ3 H3 e3 S3 => ?_)
    have f3 := f2.same e3
    refine sq (st_putAt S3 rfl f3 (ev_add (ev_var S3 rfl) ev_int) fun H4 s4 f4 S4 => ?_)
    have b4 := s1.trans ((Same.sb (e2.trans e3)).trans s4)
    obtain ⟨cell, hcell⟩ : ∃ cell : Int, (if ns = [] then 577 else ns.getD (i % (ns.length : Int)).toNat 0) = cell := ⟨_, rfl⟩
    refine sq (st_set (d := .int cell) S4 (ev_if (b := !decide (ns = [])) ((et_test (ev_neNil (er_cells S4 rfl f4) (shp_ints ns))).to ?_) (fun h => ?_) fun h => ?_) fun σ5 H5 e5 S5 => ?_)
    · cases ns with
      | nil => rfl
      | cons => rfl
    · have hne : ns ≠ [] := by simpa using h
      have hlen : 0 < ns.length := List.length_pos_iff.mpr hne
      have h1 := Int.emod_nonneg i (b := (ns.length : Int)) (by omega)
      have h2 := Int.emod_lt_of_pos i (b := (ns.length : Int)) (by omega)
      obtain ⟨k, hk⟩ : ∃ k : Nat, i % (ns.length : Int) = (k : Int) := ⟨(i % (ns.length : Int)).toNat, by omega⟩
      rw [if_neg hne, hk, Int.toNat_natCast] at hcell
      refine ev_ixL (k := k) (er_cells S4 rfl f4) (ev_mod (ev_intI (ev_var S4 rfl)) ((ev_lenL (er_cells S4 rfl f4)).to (by rw [List.length_map])) (by omega)) (by rw [hk]; exact ixN_nat (by rw [List.length_map]; omega)) ?_
      rw [List.getElem?_map, getD_of (by omega), hcell]
      rfl
    · have hne : ns = [] := by simpa using h
      rw [if_pos hne] at hcell
      rw [← hcell]
      exact ev_int
    have f5 := f4.same e5
    refine sq (st_if (et_and (et_test (ev_ge (ev_var S5 rfl) (ev_pow ev_int ev_int (by unfold CPow; decide)))) fun _ => et_test (ev_lt (ev_var S5 rfl) (ev_lenL (er_cells S5 rfl f5)))) (fun _ H6 e6 => ?_) fun _ H6 e6 => ?_)
    · have f6 := f5.same e6
      have S6 := S5.same e6
      refine sq (st_putLeft S6 rfl f6 (ev_div (ev_var S6 rfl) (ev_var S6 rfl) ⟨by omega, by omega⟩) fun H7 s7 f7 S7 => ?_)
      exact st_ret (ev_mod (ev_intI (ev_var S7 rfl)) (ev_var S7 rfl) (by omega)) fun v H8 e8 r8 => fin (b4.trans ((Same.sb (e5.trans e6)).trans s7)) ⟨_, _, _, _, _, f7⟩ e8 r8
    · have f6 := f5.same e6
      have S6 := S5.same e6
      refine sq (st_set S6 (ev_mod (ev_intI (ev_add (ev_add (ev_mod (ev_intI (ev_var S6 rfl)) ev_int (by decide)) (ev_mul ev_int (ev_count S6 rfl f6) (.inl (by decide)))) ev_int)) ev_int (by decide)) fun σ7 H7 e7 S7 => ?_)
      have f7 := f6.same e7
      obtain ⟨m1, hm1⟩ : ∃ m1 : Int, (cell % 1000001071 + 17021 * (c + 1) + 503) % 2147481973 = m1 := ⟨_, rfl⟩
      have b1 : 0 ≤ m1 ∧ m1 < 2147481973 := by rw [← hm1]; exact ⟨Int.emod_nonneg _ (by decide), Int.emod_lt_of_pos _ (by decide)⟩
      rw [hm1] at S7
      refine sq (st_set S7 (ev_mod (ev_intI (ev_add (ev_add (ev_mul (ev_var S7 rfl) (ev_var S7 rfl) (.inl (by omega))) (ev_mul ev_int (ev_count S7 rfl f7) (.inl (by decide)))) ev_int)) ev_int (by decide)) fun σ8 H8 e8 S8 => ?_)
      obtain ⟨m2, hm2⟩ : ∃ m2 : Int, (m1 * m1 + 9500011 * (c + 1) + 503) % 2147481967 = m2 := ⟨_, rfl⟩
      have b2 : 0 ≤ m2 ∧ m2 < 2147481967 := by rw [← hm2]; exact ⟨Int.emod_nonneg _ (by decide), Int.emod_lt_of_pos _ (by decide)⟩
      rw [hm2] at S8
      exact st_ret (ev_mod (ev_intI (ev_div (ev_mod (ev_intI (ev_add (ev_mul (ev_var S8 rfl) (ev_var S8 rfl) (.inl (by omega))) (ev_mul ev_int (ev_var S8 rfl) (.inl (by decide))))) ev_int (by decide)) ev_int ⟨by decide, by decide⟩)) (ev_var S8 rfl) (by omega)) fun v H9 e9 r9 => fin (b4.trans (Same.sb (((e5.trans e6).trans e7).trans e8))) ⟨_, _, _, _, _, f7.same e8⟩ e9 r9
end
end SB
namespace SB
open PySem PySem.Spec PyProof.Rows L2 RZ
open StX (tStar pa_star)
section
variable {P : Program} {w : World} {K : PySem.W.Frag} {mg : Str → Option Value} {base : Heap}
theorem prime_pos : ∀ x ∈ primeTab ++ [107, 109], 0 < x := by decide
def taInts : List Nat → TA
  | [] => tNil
  | n :: ns => tCons (tC (.int (n : Int))) (taInts ns)
theorem ea_prime0 {σ : L2.St} {H : Hp} : ∀ ns : List Nat, EvA (taInts ns) σ H ((ns.map fun (k : Nat) => (k : Int)).map .int)
  | [] => ea_nil
  | n :: ns => ea_cons ev_int (ea_prime0 ns)
theorem ea_prime {σ : L2.St} {H : Hp} (ns : List Nat) : EvA (taInts ns) σ H ((ns.map fun (k : Nat) => (k : Int)).map .int) := ea_prime0 ns
abbrev s__law_primes : Stmt := topS 92
theorem sc__law_primes : FnScope ["_law_size", "_law_some", "_law_prime"] ["_law_size"] (defScope s__law_primes) := ⟨rfl, rfl, rfl, by decide +kernel, rfl, by decide +kernel, by decide +kernel⟩
theorem ok__law_primes {f : Addr} {fd : FuncData} (F : Fun K "_law_primes" "_law_primes" s__law_primes f fd) (T : Txt K mg)  : FnOk P w K mg base CX0 1 f fd ["_law_size"] sp__law_primes := by
  refine okL F sc__law_primes (by rintro _ _ ⟨n, hn, rfl, rfl⟩; rfl) fun cdv A outer s H vs Q E ds es hr hR S kk => ?_
  obtain ⟨n, hn, rfl, rfl⟩ := hR
  have hu := hu_of hr
  refine ⟨_, (pss_cons (ps_set (i := 1) sc__law_primes.nd rfl (Or.inl rfl) (pe_lst (pa_cons pe_int (pa_cons pe_int (pa_cons pe_int (pa_cons pe_int (pa_cons pe_int (pa_cons pe_int (pa_cons pe_int (pa_cons pe_int (pa_cons pe_int (pa_cons pe_int (pa_cons pe_int (pa_cons pe_int (pa_cons pe_int (pa_cons pe_int (pa_cons pe_int (pa_cons pe_int (pa_cons pe_int (pa_cons pe_int (pa_cons pe_int (pa_cons pe_int (pa_cons pe_int (pa_cons pe_int (pa_cons pe_int (pa_cons pe_int (pa_cons pe_int (pa_cons pe_int (pa_cons pe_int pa_nil)))))))))))))))))))))))))))))
    (pss_one (ps_ret (pe_lc (own := [("_law_prime", 2)]) rfl sc__law_primes.nd (k_pi_list K (pe_op op_cat (pv 1) (pe_lst (pa_cons pe_int (pa_cons pe_int pa_nil))))) (blkOk_by (by kernel_rfl)) (fun _ _ _ _ _ => (pg_name (i := 2) sc__law_primes.nd rfl (Or.inl rfl))) (fun _ _ _ _ _ => (pts_one (pt_cmpR op_eq (pe_op op_mod (pe_callTy call_int1 (by rfl) T.int (by decide +kernel) (pa_cons (pv 0) pa_nil)) (pv 2)) pe_int (nomark _)))) (fun _ _ _ _ _ => (pv 2)))))), ?_⟩
  have hp := primes_tab n (mem_drop1 hn.1 hn.2)
  refine sq (st_setN S (el_lst (ds := (primeTab.map fun (k : Nat) => (k : Int)).map .int) (ea_prime primeTab) (by decide)) fun t vs σ1 H1 ht e1 h1 r1 S1 => ?_)
  refine st_retL ((el_lc (xs := primeTab ++ [107, 109]) (enc := fun p => .int ((p : Nat) : Int)) (p := fun p => n % p == 0) (f := fun p => .int ((p : Nat) : Int)) S1 (wk_list (EvL.r ((el_cat (EvX.n (ev_ref S1 rfl) h1 r1) (EvL.n (el_lst (ea_cons ev_int (ea_cons ev_int ea_nil)) (by simp))) (by simp [primeTab])).to (by simp)))).kp (fun x _ => tg_name) (by simp [primeTab]) (fun x hx σ' H' e' S' => ?_) fun x hx _ σ' H' e' S' => ev_var S' rfl).to (by rw [hp, List.map_map]; rfl)) fun p us H2 hp2 e2 h2 r2 => kk p us H2 (fresh_back e1 hp2) (e1.trans e2) h2 r2
  have hx0 : 0 < x := prime_pos x hx
  exact (et_test (ev_eq (ev_mod (ev_intI (ev_var S' rfl)) (ev_var S' rfl) (by omega)) ev_int)).to (mod_b n x)
end
end SB
namespace SB
open PySem PySem.Spec PyProof.Rows L2 RZ
open StX (tStar pa_star)
section
variable {P : Program} {w : World} {K : PySem.W.Frag} {mg : Str → Option Value} {base : Heap}
abbrev s__law_is_number : Stmt := topS 100
theorem sc__law_is_number : FnScope ["_law_value"] ["_law_value"] (defScope s__law_is_number) := ⟨rfl, rfl, rfl, by decide +kernel, rfl, by decide +kernel, by decide +kernel⟩
theorem ok__law_is_number {f : Addr} {fd : FuncData} (F : Fun K "_law_is_number" "_law_is_number" s__law_is_number f fd) (T : Txt K mg)  : FnOk P w K mg base CX0 1 f fd ["_law_value"] sp__law_is_number := by
  refine okD F sc__law_is_number (by rintro _ _ ⟨i, rfl, rfl⟩; rfl) fun cdv A outer s H vs Q E ds d hr hR S kk => ?_
  obtain ⟨i, rfl, rfl⟩ := hR
  have hu := hu_of hr
  refine ⟨_, (pss_one (ps_ret (pe_and (pe_callB (k_call_isi K) (by rfl) T.isinstance (by decide +kernel) (pa_cons (pv 0) (pa_cons (pe_bltn (v := .ty "int") (u := .type "int") (by rfl) T.int (by decide +kernel) rfl) pa_nil))) (pe_and (pe_not (pe_callB (k_call_isi K) (by rfl) T.isinstance (by decide +kernel) (pa_cons (pv 0) (pa_cons (pe_bltn (v := .ty "bool") (u := .type "bool") (by rfl) T.bool (by decide +kernel) rfl) pa_nil)))) (pe_one (pe_cmpR op_ge (pv 0) pe_int (nomark _))))))), ?_⟩
  refine st_ret ((ev_and (b := true) (ev_isiI (b := true) (ev_var S rfl) (by decide +kernel)) fun _ => ev_and (b := true) ((ev_not (ev_isiI (b := false) (ev_var S rfl) (by decide +kernel))).to rfl) fun _ => ev_ge (ev_var S rfl) ev_int).to (by simp)) kk
end
end SB
namespace SB
open PySem PySem.Spec PyProof.Rows L2 RZ
open StX (tStar pa_star)
section
variable {P : Program} {w : World} {K : PySem.W.Frag} {mg : Str → Option Value} {base : Heap}
abbrev s__law_spread : Stmt := topS 94
theorem sc__law_spread : FnScope ["_law_some", "_law_many", "_law_found", "_law_k"] ["_law_some", "_law_many"] (defScope s__law_spread) := ⟨rfl, rfl, rfl, by decide +kernel, rfl, by decide +kernel, by decide +kernel⟩
theorem ok__law_spread {f : Addr} {fd : FuncData} (F : Fun K "_law_spread" "_law_spread" s__law_spread f fd) (T : Txt K mg)  : FnOk P w K mg base CX0 1 f fd ["_law_some", "_law_many"] (sp__law_spread K) := by
  refine okM F sc__law_spread (by rintro _ _ _ _ ⟨s, l, m, hn, hs, rfl, rfl, kk⟩; rfl) fun cdv A outer s H vs Q E as ds hr hR S => ?_
  obtain ⟨s, l, m, hn, hs, rfl, rfl, kk⟩ := hR
  have hu := hu_of hr
  refine ⟨_, (pss_cons (ps_set (i := 2) sc__law_spread.nd rfl (Or.inl rfl) (pe_op op_rep (pe_lst (pa_cons pe_int pa_nil)) (pe_op op_add (pe_op op_mul (pe_op op_sub (pe_callB (k_call_len_seq K) (by rfl) T.len PySem.boot_len (pa_cons (pv 0) pa_nil)) pe_int) (pv 1)) pe_int)))
    (pss_cons (ps_for PassesOwn.never rfl (pi_range1 (by rfl) T.range (pa_cons (pe_callB (k_call_len_seq K) (by rfl) T.len PySem.boot_len (pa_cons (pv 0) pa_nil)) pa_nil)) (pg_name (i := 3) sc__law_spread.nd rfl (Or.inl rfl)) 
      (pss_one (ps_asg (pe_ix (k_ix_list K) (pv 0) (pv 3) (fun _ _ => rfl)) (pg_sub (pv 2) (pe_op op_mul (pv 3) (pv 1)) set_list))))
    (pss_one (ps_ret (pv 2))))), ?_⟩
  have hm1 : (((l.length : Int) - 1) * (m : Int) + 1) = (((l.length - 1) * m + 1 : Nat) : Int) := by push_cast; rw [Int.ofNat_sub hn.2.2.1]; rfl
  refine sq (st_setN S ((el_rep1 (i := (((l.length - 1) * m + 1 : Nat) : Int)) (el_lst (ea_cons ev_int ea_nil) (by simp)) ((ev_add (ev_mul (ev_sub (ev_lenL (EvX.r (ev_ref S rfl) hs)) ev_int) (ev_var S rfl) (.inr (by omega))) ev_int).to (by rw [List.length_map, hm1])) (by omega)).to (es := (spreadN l m 0).map .int) (by rw [spreadN_zero, Int.toNat_natCast, List.map_replicate])) fun p vs σ1 H1 hp e1 h1 r1 S1 => ?_)
  have hv : vs = (spreadN l m 0).map V.int := DtA.ints r1
  subst hv
  have hle : ∀ k, k < l.length → k * m < (l.length - 1) * m + 1 := fun k hk => by
    have := Nat.mul_le_mul_right m (show k ≤ l.length - 1 by omega)
    omega
  have hll : l.length ≤ 501 := by
    have := Nat.mul_le_mul_left (l.length - 1) hn.1
    omega
  refine sq (st_for (xs := List.range l.length) (enc := fun k => .int ((k : Nat) : Int)) (wk_rng1 (n := (l.length : Int)) (ea_cons ((ev_lenL (EvX.r (ev_ref S1 rfl) (hs.same e1))).to (by rw [List.length_map])) ea_nil) (by omega) (rng_d0 l.length (by omega)))
    (fun H2 k σ' H' => Same H H' ∧ Tp H2 H' ∧ H' p = some (.lst ((spreadN l m k).map V.int)) ∧ Sl K σ' H' [.ref s, .dat (.int m), .ref p, .un]) (fun H2 e2 => ⟨e1.trans e2, Tp.refl _, e2 _ _ h1, S1.same e2⟩) (fun H2 k σ' H' _ h => h.2.1) ?_ ?_)
  · rintro H2 k k' σ' H' v H3 e2 hx ⟨e3, t3, h3, S3⟩ e4 rv
    obtain ⟨hk, hk'⟩ : k < l.length ∧ k' = k := by
      have := List.getElem?_eq_some_iff.mp hx
      simp at this
      exact ⟨this.1, this.2.symm⟩
    rw [hk'] at rv
    have S4 := (S3.same e4).setD 3 rv
    have h4 := e4 _ _ h3
    refine st_setIx (j := k * m) (d := .int (l.getD k 0)) (ev_ixL (k := k) (EvX.r (ev_ref S4 rfl) (hs.same (e3.trans e4))) (ev_var S4 rfl) (ixN_nat (by rw [List.length_map]; exact hk)) (by rw [List.getElem?_map, getD_of hk]; rfl)) (ev_ref S4 rfl) (ev_mul (ev_var S4 rfl) (ev_var S4 rfl) (.inr (by omega))) h4 ?_ fun w H5 e5 r5 => ?_
    · have : ((k : Int) * (m : Int)) = ((k * m : Nat) : Int) := by push_cast; rfl
      rw [this]
      exact ixN_nat (by rw [List.length_map, spreadN_len]; exact hle k hk)
    · rw [r5.int']
      have h5 := e5 _ _ h4
      refine ⟨Same.mut ((e3.trans e4).trans e5) hp, ((t3.trans (Same.tp e4)).trans (Same.tp e5)).trans ⟨tups_lst h5, fun b o u q => by
        rw [upd_ne]
        · exact q
        · intro z
          rw [z, h5] at q
          cases q⟩, ?_, ((S4.same e5).tups (tups_lst h5)).weak 3⟩
      rw [upd_same, ← spreadN_succ hn.1 hk, List.map_set]
  · rintro H2 σ' H' e2 ⟨e3, _, h3, S3⟩
    rw [List.length_range, spreadN_all hn.1 hn.2.2.1] at h3
    exact ⟨.ref p, S3.ref rfl, kk p H' hp e3 h3⟩
end
end SB
namespace SB
open PySem PySem.Spec PyProof.Rows L2 RZ
open StX (tStar pa_star)
section
variable {P : Program} {w : World} {K : PySem.W.Frag} {mg : Str → Option Value} {base : Heap}
abbrev s__law_divided : Stmt := topS 93
theorem sc__law_divided : FnScope ["_law_wide", "_law_narrow", "_law_rest_here", "_law_found", "_law_k", "_law_j"] ["_law_wide", "_law_narrow"] (defScope s__law_divided) := ⟨rfl, rfl, rfl, by decide +kernel, rfl, by decide +kernel, by decide +kernel⟩
theorem ok__law_divided {f : Addr} {fd : FuncData} (F : Fun K "_law_divided" "_law_divided" s__law_divided f fd) (T : Txt K mg)  : FnOk P w K mg base CX0 1 f fd ["_law_wide", "_law_narrow"] (sp__law_divided K) := by
  refine okM F sc__law_divided (by rintro _ _ _ _ ⟨s, t, one, dv, hn, hs, ht, rfl, rfl, kk⟩; rfl) fun cdv A outer s H vs Q E as ds hr hR S => ?_
  obtain ⟨s, t, one, dv, hn, hs, ht, rfl, rfl, kk⟩ := hR
  have hu := hu_of hr
  refine ⟨_, (pss_cons (ps_par (i := 2) (j := 3) rfl sc__law_divided.nd rfl rfl (by decide) rfl rfl (pa_cons (pe_callTy (k_call_list_of K) (by rfl) T.list (by decide +kernel) (pa_cons (pv 0) pa_nil)) (pa_cons (pe_op op_rep (pe_lst (pa_cons pe_int pa_nil)) (pe_op op_add (pe_op op_sub (pe_callB (k_call_len_seq K) (by rfl) T.len PySem.boot_len (pa_cons (pv 0) pa_nil)) (pe_callB (k_call_len_seq K) (by rfl) T.len PySem.boot_len (pa_cons (pv 1) pa_nil))) pe_int)) pa_nil)) (by rfl))
    (pss_cons (ps_for PassesOwn.never rfl (pi_range3 (by rfl) T.range (pa_cons (pe_op op_sub (pe_callB (k_call_len_seq K) (by rfl) T.len PySem.boot_len (pa_cons (pv 3) pa_nil)) pe_int) (pa_cons (pe_un un_neg pe_int) (pa_cons (pe_un un_neg pe_int) pa_nil)))) (pg_name (i := 4) sc__law_divided.nd rfl (Or.inl rfl)) 
      (pss_cons (ps_asg (pe_ix (k_ix_list K) (pv 2) (pe_op op_sub (pe_op op_add (pv 4) (pe_callB (k_call_len_seq K) (by rfl) T.len PySem.boot_len (pa_cons (pv 1) pa_nil))) pe_int) (fun _ _ => rfl)) (pg_sub (pv 3) (pv 4) set_list))
      (pss_one (ps_for PassesOwn.never rfl (pi_range1 (by rfl) T.range (pa_cons (pe_callB (k_call_len_seq K) (by rfl) T.len PySem.boot_len (pa_cons (pv 1) pa_nil)) pa_nil)) (pg_name (i := 5) sc__law_divided.nd rfl (Or.inl rfl)) 
        (pss_one (ps_asg (pe_op op_sub (pe_ix (k_ix_list K) (pv 2) (pe_op op_add (pv 4) (pv 5)) (fun _ _ => rfl)) (pe_op op_mul (pe_ix (k_ix_list K) (pv 3) (pv 4) (fun _ _ => rfl)) (pe_ix (k_ix_list K) (pv 1) (pv 5) (fun _ _ => rfl)))) (pg_sub (pv 2) (pe_op op_add (pv 4) (pv 5)) set_list)))))))
    (pss_one (ps_ret (pv 3))))), ?_⟩
  obtain ⟨N, hN⟩ : ∃ N, one.length + 1 - dv.length = N := ⟨_, rfl⟩
  refine sq (st_parLL S (el_list (EvX.r (ev_ref S rfl) hs)) ((el_rep1 (i := (N : Int)) (el_lst (ea_cons ev_int ea_nil) (by simp)) ((ev_add (ev_sub (ev_lenL (EvX.r (ev_ref S rfl) hs)) (ev_lenL (EvX.r (ev_ref S rfl) ht))) ev_int).to (by rw [List.length_map, List.length_map]; congr 1; omega)) (by omega)).to (es := (List.replicate N (0 : Int)).map .int) (by rw [Int.toNat_natCast, List.map_replicate])) fun pr vs1 pg vs2 σ2 H2 hpr hpg hne e2 h1 r1 h2 r2 S2 => ?_)
  have hv1 : vs1 = one.map V.int := DtA.ints r1
  have hv2 : vs2 = (List.replicate N (0 : Int)).map V.int := DtA.ints r2
  subst hv1 hv2
  dsimp only
  refine sq (st_for (xs := List.range N) (enc := fun i => .int ((N - 1 - i : Nat) : Int))
    ((wk_down (lo := (N : Int) - 1) (ea_cons ((ev_sub (ev_lenL (EvX.r (ev_ref S2 rfl) (RdL.ofI (SqL.of h2)))) ev_int).to (by simp)) (ea_cons (ev_neg (ev_int (i := 1))) (ea_cons (ev_neg (ev_int (i := 1))) ea_nil))) (by omega) (by omega)).to ?_)
    (fun H3 i σ' H' => Same H H' ∧ Tp H3 H' ∧ ∃ g r : List Int, g.length = N ∧ r.length = one.length ∧ divL dv (dv.length - 1) (N - i) g r = divL dv (dv.length - 1) N (List.replicate N 0) one ∧ H' pr = some (.lst (r.map V.int)) ∧ H' pg = some (.lst (g.map V.int)) ∧ Sl K σ' H' [.ref s, .ref t, .ref pr, .ref pg, .un, .un])
    (fun H3 e3 => ⟨e2.trans e3, Tp.refl _, List.replicate N 0, one, by simp, rfl, rfl, e3 _ _ h1, e3 _ _ h2, S2.same e3⟩) (fun H1 i σ' H' _ h => h.2.1) ?_ ?_)
  · rw [downD_eq]
    have : ((N : Int) - 1 + 1).toNat = N := by omega
    rw [this]
  · rintro H3 i i' σ' H' v H'' e3 hx ⟨e4, t4, g, r, hg, hrl, hdiv, h5, h6, S5⟩ e5 rv
    obtain ⟨hi, hi'⟩ : i < N ∧ i' = i := by
      have := List.getElem?_eq_some_iff.mp hx
      simp at this
      exact ⟨this.1, this.2.symm⟩
    rw [hi'] at rv
    obtain ⟨k, hk⟩ : ∃ k, N - 1 - i = k := ⟨_, rfl⟩
    have hK : N - i = k + 1 := by omega
    have hkl : k + dv.length ≤ one.length := by omega
    rw [hk] at rv
    rw [hK] at hdiv
    have S6 := (S5.same e5).setD 4 rv
    have h5' := e5 _ _ h5
    have h6' := e5 _ _ h6
    have ht6 : RdL K H'' t (dv.map .int) := ht.same (e4.trans e5)
    refine sq (st_setIx (j := k) (ev_ixL (k := k + (dv.length - 1)) (EvX.r (ev_ref S6 rfl) (RdL.ofI (SqL.of h5'))) (ev_sub (ev_add (ev_var S6 rfl) (ev_lenL (EvX.r (ev_ref S6 rfl) ht6))) ev_int) ?_ (d := .int (r.getD (k + (dv.length - 1)) 0)) ?_) (ev_ref S6 rfl) (ev_var S6 rfl) h6' (ixN_nat (by simp; omega)) fun w H7 e7 r7 => ?_)
    · have : (k : Int) + ((dv.map PyData.int).length : Int) - 1 = ((k + (dv.length - 1) : Nat) : Int) := by rw [List.length_map]; omega
      rw [this]
      exact ixN_nat (by simp; omega)
    · rw [List.getElem?_map, getD_of (by omega)]
      rfl
    · rw [r7.int']
      obtain ⟨q, hq⟩ : ∃ q, r.getD (k + (dv.length - 1)) 0 = q := ⟨_, rfl⟩
      rw [hq]
      obtain ⟨H8, hH8⟩ : ∃ H8, upd H7 pg (.lst ((g.map V.int).set k (.int q))) = H8 := ⟨_, rfl⟩
      have h6s : H8 pg = some (.lst ((g.set k q).map V.int)) := by rw [← hH8, upd_same, List.map_set]
      have h5s : H8 pr = some (.lst (r.map V.int)) := by rw [← hH8, upd_ne hne]; exact e7 _ _ h5'
      have e8 : Same H H8 := by rw [← hH8]; exact Same.mut ((e4.trans e5).trans e7) hpg
      have f8 : Tp H7 H8 := by
        rw [← hH8]
        exact ⟨tups_lst (e7 _ _ h6'), fun b o u q => by
          rw [upd_ne]
          · exact q
          · intro z
            rw [z, e7 _ _ h6'] at q
            cases q⟩
      have S8 := (S6.same e7).tups f8.tup
      rw [hH8]
      have ht8 : RdL K H8 t (dv.map .int) := ht.same e8
      refine st_for (xs := List.range dv.length) (enc := fun j => .int ((j : Nat) : Int)) (wk_rng1 (n := (dv.length : Int)) (ea_cons ((ev_lenL (EvX.r (ev_ref S8 rfl) ht8)).to (by rw [List.length_map])) ea_nil) (by omega) (rng_d0 dv.length (by omega)))
        (fun H9 j σ' H' => Same H H' ∧ Tp H3 H' ∧ Tp H9 H' ∧ H' pr = some (.lst ((subAt k q (dv.take j) r).map V.int)) ∧ H' pg = some (.lst ((g.set k q).map V.int)) ∧ Sl K σ' H' [.ref s, .ref t, .ref pr, .ref pg, .dat (.int k), .un])
        (fun H9 e9 => ⟨e8.trans e9, (((t4.trans (Same.tp e5)).trans (Same.tp e7)).trans f8).trans (Same.tp e9), Tp.refl _, by rw [List.take_zero, subAt_zero]; exact e9 _ _ h5s, e9 _ _ h6s, S8.same e9⟩) (fun H1 i σ' H' _ h => h.2.2.1) ?_ ?_
      · rintro H9 j j' σ9 H10 v' H11 e9 hxj ⟨e10, t10, t11, h10, h11, S10⟩ e11 rv'
        obtain ⟨hj, hj'⟩ : j < dv.length ∧ j' = j := by
          have := List.getElem?_eq_some_iff.mp hxj
          simp at this
          exact ⟨this.1, this.2.symm⟩
        rw [hj'] at rv'
        have S12 := (S10.same e11).setD 5 rv'
        have h10' := e11 _ _ h10
        have h11' := e11 _ _ h11
        have ht12 : RdL K H11 t (dv.map .int) := ht.same (e10.trans e11)
        have hnum := hn.2.2.2 (dv.getD j 0) (List.mem_of_getElem? (getD_of hj))
        have hsl : (subAt k q (dv.take j) r).length = one.length := by rw [subAt_len, hrl]
        refine st_setIx (j := k + j) (ev_sub (ev_ixL (k := k + j) (EvX.r (ev_ref S12 rfl) (RdL.ofI (SqL.of h10'))) (ev_add (ev_var S12 rfl) (ev_var S12 rfl)) (ixN_nat (by simp; omega)) (d := .int ((subAt k q (dv.take j) r).getD (k + j) 0)) ?_)
          (ev_mul (ev_ixL (k := k) (EvX.r (ev_ref S12 rfl) (RdL.ofI (SqL.of h11'))) (ev_var S12 rfl) (ixN_nat (by simp; omega)) (d := .int q) ?_) (ev_ixL (k := j) (EvX.r (ev_ref S12 rfl) ht12) (ev_var S12 rfl) (ixN_nat (by simp; omega)) (d := .int (dv.getD j 0)) (by rw [List.getElem?_map, getD_of hj]; rfl)) (.inr hnum))) (ev_ref S12 rfl) (ev_add (ev_var S12 rfl) (ev_var S12 rfl)) h10' (ixN_nat (by simp; omega)) fun w H13 e13 r13 => ?_
        · rw [List.getElem?_map, getD_of (by omega)]
          rfl
        · rw [List.getElem?_map, List.getElem?_set_self (by omega)]
          rfl
        · rw [r13.int']
          have h13 := e13 _ _ h10'
          have f13 : Tp H13 (upd H13 pr (.lst (((subAt k q (dv.take j) r).map V.int).set (k + j) (.int ((subAt k q (dv.take j) r).getD (k + j) 0 - q * dv.getD j 0))))) := ⟨tups_lst h13, fun b o u q => by
            rw [upd_ne]
            · exact q
            · intro z
              rw [z, h13] at q
              cases q⟩
          refine ⟨Same.mut ((e10.trans e11).trans e13) hpr, ((t10.trans (Same.tp e11)).trans (Same.tp e13)).trans f13, ((t11.trans (Same.tp e11)).trans (Same.tp e13)).trans f13, ?_, ?_, ((S12.same e13).tups f13.tup).weak 5⟩
          · rw [upd_same, ← subAt_step hj (by omega), List.map_set]
          · rw [upd_ne hne.symm]
            exact e13 _ _ h11'
      · rintro H9 σ9 H10 e9 ⟨e10, t10, _, h10, h11, S10⟩
        rw [List.length_range, List.take_length] at h10
        refine ⟨e10, t10, g.set k q, subAt k q dv r, by simp [hg], by rw [subAt_len, hrl], ?_, h10, h11, S10.weak 4⟩
        have : N - (i + 1) = k := by omega
        rw [this, ← hdiv, ← hq]
        rfl
  · rintro H3 σ' H' e3 ⟨e4, _, g, r, hg, hrl, hdiv, h5, h6, S5⟩
    rw [List.length_range, Nat.sub_self] at hdiv
    refine ⟨.ref pg, S5.ref rfl, kk pg H' hpg e4 ?_⟩
    rw [h6]
    unfold lquot
    rw [hN, ← hdiv]
    rfl
end
end SB
namespace SB
open PySem PySem.Spec PyProof.Rows L2 RZ
open StX (tStar pa_star)
section
variable {P : Program} {w : World} {K : PySem.W.Frag} {mg : Str → Option Value} {base : Heap}
theorem vbh_len (n : Nat) (rows : List Row) : (vbh n rows).length = n := by simp [vbh]
theorem vbh_nil (n : Nat) : List.replicate n (PyData.int 0) = (vbh n []).map .int := by
  unfold vbh
  rw [List.map_map, eq_comm, List.eq_replicate_iff]
  refine ⟨by simp, fun x hx => ?_⟩
  obtain ⟨b, _, rfl⟩ := List.mem_map.mp hx
  rfl
/-- m added at g, g + np, .. (k of them) -/
def vplus (n : Nat) (l : List Int) (np g : Nat) (m : Int) (k : Nat) : List Int := (List.range n).map fun b => l.getD b 0 + if b % np = g ∧ b / np < k then m else 0
theorem vplus_len (n : Nat) (l : List Int) (np g : Nat) (m : Int) (k : Nat) : (vplus n l np g m k).length = n := by simp [vplus]
theorem vplus_zero {n : Nat} {l : List Int} (hl : l.length = n) {np g : Nat} {m : Int} : vplus n l np g m 0 = l := by
  apply ext_getD (by rw [vplus_len, hl])
  intro i hi
  rw [vplus_len] at hi
  unfold vplus
  rw [List.getD_eq_getElem?_getD, List.getElem?_map, List.getElem?_range hi]
  show l.getD i 0 + (if i % np = g ∧ i / np < 0 then m else 0) = l.getD i 0
  rw [if_neg (fun z => absurd z.2 (Nat.not_lt_zero _)), Int.add_zero]
theorem vplus_get {n : Nat} {l : List Int} {np g : Nat} {m : Int} {k i : Nat} (hi : i < n) : (vplus n l np g m k).getD i 0 = l.getD i 0 + if i % np = g ∧ i / np < k then m else 0 := by
  unfold vplus
  rw [List.getD_eq_getElem?_getD, List.getElem?_map, List.getElem?_range hi]
  rfl
theorem vplus_succ {n : Nat} {l : List Int} (hl : l.length = n) {np g : Nat} (hg : g < np) {m : Int} {k : Nat} (hs : g + k * np < n) : (vplus n l np g m k).set (g + k * np) ((vplus n l np g m k).getD (g + k * np) 0 + m) = vplus n l np g m (k + 1) := by
  have hmod : (g + k * np) % np = g := by rw [Nat.add_mul_mod_self_right, Nat.mod_eq_of_lt hg]
  have hdiv : (g + k * np) / np = k := by rw [Nat.add_mul_div_right _ _ (by omega), Nat.div_eq_of_lt hg, Nat.zero_add]
  apply ext_getD (by rw [List.length_set, vplus_len, vplus_len])
  intro i hi
  rw [List.length_set, vplus_len] at hi
  rw [set_getD, vplus_len, vplus_get hs, vplus_get hi, vplus_get hi, hmod, hdiv]
  by_cases e : g + k * np = i
  · subst e
    rw [if_pos ⟨rfl, hi⟩, if_neg (fun z => absurd z.2 (Nat.lt_irrefl _)), hmod, hdiv, if_pos ⟨rfl, Nat.lt_succ_self _⟩]
    omega
  · rw [if_neg (fun z => e z.1)]
    by_cases h : i % np = g
    · have : i / np ≠ k := fun z => e (by rw [← h, ← z, Nat.mul_comm]; exact Nat.mod_add_div i np)
      by_cases q : i / np < k
      · rw [if_pos ⟨h, q⟩, if_pos ⟨h, by omega⟩]
      · rw [if_neg (fun z => q z.2), if_neg (fun z => by omega)]
    · rw [if_neg (fun z => h z.1), if_neg (fun z => h z.1)]
theorem vplus_all {n q np g : Nat} {m : Int} {rows : List Row} {r : Row} (hqn : q * np = n) (hg : g < np) (hnp : n / q = np) (e1 : r.1 = (q : Int)) (e2 : r.2.1 = (g : Int)) (e3 : r.2.2 = m) : vplus n (vbh n rows) np g m q = vbh n (rows ++ (some r).toList) := by
  apply ext_getD (by rw [vplus_len, vbh_len])
  intro i hi
  rw [vplus_len] at hi
  rw [vplus_get hi]
  have h1 : ∀ rows : List Row, (vbh n rows).getD i 0 = ((rows.filter fun r => decide ((i : Int) % ((n : Int) / r.1) = r.2.1)).map (·.2.2)).sum := fun rows => by
    unfold vbh
    rw [List.getD_eq_getElem?_getD, List.getElem?_map, List.getElem?_range hi]
    rfl
  rw [h1, h1, List.filter_append, List.map_append, List.sum_append]
  congr 1
  have hd : ((n : Int) / r.1) = (np : Int) := by rw [e1, ← hnp]; norm_cast
  have hlt : i / np < q := by
    rw [Nat.div_lt_iff_lt_mul (by omega), hqn]
    exact hi
  show _ = (([r].filter fun r => decide ((i : Int) % ((n : Int) / r.1) = r.2.1)).map (·.2.2)).sum
  rw [List.filter_cons, hd, e2]
  have hc : ((i : Int) % (np : Int) = (g : Int)) ↔ i % np = g := by norm_cast
  by_cases h : i % np = g
  · rw [if_pos ⟨h, hlt⟩, if_pos (decide_eq_true (hc.mpr h))]
    simp [e3]
  · rw [if_neg (fun z => h z.1), if_neg (by simpa using fun z => h (hc.mp z))]
    rfl
abbrev s__law_voice : Stmt := topS 99
theorem sc__law_voice : FnScope ["_law_size", "_law_rows", "_law_found", "_law_prime", "_law_first", "_law_many", "_law_k", "_law_spot"] ["_law_size", "_law_rows"] (defScope s__law_voice) := ⟨rfl, rfl, rfl, by decide +kernel, rfl, by decide +kernel, by decide +kernel⟩
theorem ok__law_voice {f : Addr} {fd : FuncData} (F : Fun K "_law_voice" "_law_voice" s__law_voice f fd) (T : Txt K mg)  : FnOk P w K mg base CX0 1 f fd ["_law_size", "_law_rows"] sp__law_voice := by
  refine okD F sc__law_voice (by rintro _ _ ⟨n, rows, hn, rfl, rfl⟩; rfl) fun cdv A outer s H vs Q E ds d hr hR S kk => ?_
  obtain ⟨n, rows, hn, rfl, rfl⟩ := hR
  have hu := hu_of hr
  refine ⟨_, (pss_cons (ps_set (i := 2) sc__law_voice.nd rfl (Or.inl rfl) (pe_op op_rep (pe_lst (pa_cons pe_int pa_nil)) (pv 0)))
    (pss_cons (ps_for PassesOwn.never rfl (k_pi_tup K (pv 1)) (k_pg_tup K 3 rfl (pgs_cons (pg_name (i := 3) sc__law_voice.nd rfl (Or.inl rfl)) (pgs_cons (pg_name (i := 4) sc__law_voice.nd rfl (Or.inl rfl)) (pgs_cons (pg_name (i := 5) sc__law_voice.nd rfl (Or.inl rfl)) pgs_nil)))) 
      (pss_one (ps_for PassesOwn.never rfl (pi_range1 (by rfl) T.range (pa_cons (pv 3) pa_nil)) (pg_name (i := 6) sc__law_voice.nd rfl (Or.inl rfl)) 
        (pss_cons (ps_set (i := 7) sc__law_voice.nd rfl (Or.inl rfl) (pe_op op_add (pv 4) (pe_op op_mul (pv 6) (pe_op op_fdiv (pv 0) (pv 3)))))
        (pss_one (ps_asg (pe_op op_add (pe_ix (k_ix_list K) (pv 2) (pv 7) (fun _ _ => rfl)) (pv 5)) (pg_sub (pv 2) (pv 7) set_list)))))))
    (pss_one (ps_ret (pe_callTy (k_call_tuple_of K) (by rfl) T.tuple (by decide +kernel) (pa_cons (pv 2) pa_nil)))))), ?_⟩
  refine sq (st_setN S ((el_rep1 (i := (n : Int)) (el_lst (ea_cons ev_int ea_nil) (by simp)) (ev_var S rfl) (by omega)).to (es := (vbh n []).map .int) (by rw [Int.toNat_natCast]; exact vbh_nil n)) fun p vs σ1 H1 hp e1 h1 r1 S1 => ?_)
  have hv : vs = (vbh n []).map V.int := DtA.ints r1
  subst hv
  refine sq (st_for (xs := rows) (enc := rD) (wk_tup (ev_var S1 rfl)) (fun H2 i σ' H' => Same H H' ∧ Tp H2 H' ∧ H' p = some (.lst ((vbh n (rows.take i)).map V.int)) ∧ Sl K σ' H' [.dat (.int n), .dat (.tuple (rows.map rD)), .ref p, .un, .un, .un, .un, .un])
    (fun H2 e2 => ⟨e1.trans e2, Tp.refl _, by simpa using e2 _ _ h1, S1.same e2⟩) (fun H2 i σ' H' _ h => h.2.1) ?_ ?_)
  · rintro H2 i r σ' H' v H3 e2 hx ⟨e3, t3, h3, S3⟩ e4 rv
    have hi := (List.getElem?_eq_some_iff.mp hx).1
    obtain ⟨q, g, hq, eq1, eg1, hg⟩ := polyB_of (hn.2.2.2 r (List.mem_of_getElem? hx))
    have hpr := mem_primes hq
    obtain ⟨np, hnp⟩ : ∃ np, n / q = np := ⟨_, rfl⟩
    rw [hnp] at hg
    have hqn : q * np = n := by rw [← hnp]; exact Nat.mul_div_cancel' (Nat.dvd_of_mod_eq_zero hpr.2.2.1)
    obtain ⟨m, hm⟩ : ∃ m, r.2.2 = m := ⟨_, rfl⟩
    have er : rD r = .tuple [.int (q : Int), .int (g : Int), .int m] := by
      rw [← eq1, ← eg1, ← hm]
      rfl
    rw [er] at rv
    refine tg_tup (ns := [3, 4, 5]) rfl rfl v σ' H3 _ _ (S3.same e4) rv fun σ5 S5 _ _ => ?_
    have h4 := e4 _ _ h3
    have hsz := vbh_len n (rows.take i)
    refine st_for (xs := List.range q) (enc := fun k => .int ((k : Nat) : Int)) (wk_rng1 (n := (q : Int)) (ea_cons (ev_var S5 rfl) ea_nil) (by omega) (rng_d0 q (by omega)))
      (fun H6 k σ' H' => Same H H' ∧ Tp H2 H' ∧ Tp H6 H' ∧ H' p = some (.lst ((vplus n (vbh n (rows.take i)) np g m k).map V.int)) ∧ Sl K σ' H' [.dat (.int n), .dat (.tuple (rows.map rD)), .ref p, .dat (.int q), .dat (.int g), .dat (.int m), .un, .un])
      (fun H6 e6 => ⟨(e3.trans e4).trans e6, (t3.trans (Same.tp e4)).trans (Same.tp e6), Tp.refl _, by rw [vplus_zero hsz]; exact e6 _ _ h4, S5.same e6⟩) (fun H6 k σ' H' _ h => h.2.2.1) ?_ ?_
    · rintro H6 k k' σ6 H7 v7 H8 e6 hxk ⟨e7, t7, t67, h7, S7⟩ e8 rv8
      obtain ⟨hk, hk'⟩ : k < q ∧ k' = k := by
        have := List.getElem?_eq_some_iff.mp hxk
        simp at this
        exact ⟨this.1, this.2.symm⟩
      rw [hk'] at rv8
      have S8 := (S7.same e8).setD 6 rv8
      have h8 := e8 _ _ h7
      have hsp : g + k * np < n := by
        have : (k + 1) * np ≤ q * np := Nat.mul_le_mul_right np hk
        rw [Nat.succ_mul] at this
        omega
      have hdiv : ((n : Int) / (q : Int)) = (np : Int) := by rw [← hnp]; norm_cast
      refine sq (st_set (d := .int ((g + k * np : Nat) : Int)) S8 ((ev_add (ev_var S8 rfl) (ev_mul (ev_var S8 rfl) (ev_div (ev_var S8 rfl) (ev_var S8 rfl) ⟨by omega, by omega⟩) (.inl (by omega)))).to (by rw [hdiv]; push_cast; rfl)) fun σ9 H9 e9 S9 => ?_)
      have h9 := e9 _ _ h8
      have hsz9 := vplus_len n (vbh n (rows.take i)) np g m k
      refine st_setIx (j := g + k * np) (d := .int ((vplus n (vbh n (rows.take i)) np g m k).getD (g + k * np) 0 + m)) (ev_add (ev_ixL (k := g + k * np) (EvX.r (ev_ref S9 rfl) (RdL.ofI (SqL.of h9))) (ev_var S9 rfl) (ixN_nat (by rw [List.length_map, hsz9]; exact hsp)) (by rw [List.getElem?_map, getD_of (by rw [hsz9]; exact hsp)]; rfl)) (ev_var S9 rfl)) (ev_ref S9 rfl) (ev_var S9 rfl) h9 (ixN_nat (by rw [List.length_map, hsz9]; exact hsp)) fun w H10 e10 r10 => ?_
      rw [r10.int']
      have h10 := e10 _ _ h9
      have f10 : Tp H10 (upd H10 p (.lst (((vplus n (vbh n (rows.take i)) np g m k).map V.int).set (g + k * np) (.int ((vplus n (vbh n (rows.take i)) np g m k).getD (g + k * np) 0 + m))))) := ⟨tups_lst h10, fun b o u z2 => by
        rw [upd_ne]
        · exact z2
        · intro z
          rw [z, h10] at z2
          cases z2⟩
      refine ⟨Same.mut (((e7.trans e8).trans e9).trans e10) hp, (((t7.trans (Same.tp e8)).trans (Same.tp e9)).trans (Same.tp e10)).trans f10, (((t67.trans (Same.tp e8)).trans (Same.tp e9)).trans (Same.tp e10)).trans f10, ?_, (((S9.same e10).tups f10.tup).weak 6).weak 7⟩
      rw [upd_same, ← vplus_succ hsz hg hsp, List.map_set]
    · rintro H6 σ6 H7 e6 ⟨e7, t7, _, h7, S7⟩
      rw [List.length_range] at h7
      refine ⟨e7, t7, ?_, ((S7.weak 3).weak 4).weak 5⟩
      rw [h7, List.take_add_one, hx]
      congr 3
      exact vplus_all hqn hg hnp eq1 eg1 hm
  · rintro H2 σ' H' e2 ⟨e3, _, h3, S3⟩
    rw [List.take_length] at h3
    exact st_ret (ev_tupleOf (EvX.r (ev_ref S3 (k := 2) rfl) (RdL.ofI (SqL.of h3)))) fun w H4 e4 r4 => kk w H4 (e3.trans e4) r4
end
end SB
namespace SB
open PySem PySem.Spec PyProof.Rows L2 RZ
open StX (tStar pa_star)
section
variable {P : Program} {w : World} {K : PySem.W.Frag} {mg : Str → Option Value} {base : Heap}
abbrev s_is_number : Stmt := topS 12
theorem sc_is_number : FnScope ["thing"] ["thing"] (defScope s_is_number) := ⟨rfl, rfl, rfl, by decide +kernel, rfl, by decide +kernel, by decide +kernel⟩
theorem ok_is_number {f : Addr} {fd : FuncData} (F : Fun K "is_number" "is_number" s_is_number f fd) (T : Txt K mg) (G_is_integer : Fn P w K mg base "is_integer" 1 ["thing"] sp_is_integer) : FnOk P w K mg base CX0 2 f fd ["thing"] sp_is_number := by
  refine okD F sc_is_number (by rintro _ _ ⟨i, rfl, rfl⟩; rfl) fun cdv A outer s H vs Q E ds d hr hR S kk => ?_
  obtain ⟨i, rfl, rfl⟩ := hR
  have hu := hu_of hr
  refine ⟨_, (pss_one (ps_ret (pe_and (pe_fn G_is_integer (hr.mono (by decide)) (by rfl) (pa_cons (pv 0) pa_nil)) (pe_one (pe_cmpR op_ge (pv 0) pe_int (nomark _)))))), ?_⟩
  exact st_ret (ev_and (ev_call (ea_cons (ev_var S rfl) ea_nil) ⟨i, rfl, rfl⟩) fun _ => ev_ge (ev_var S rfl) ev_int) kk
end
end SB
namespace SB
open PySem PySem.Spec PyProof.Rows L2 RZ
open StX (tStar pa_star)
section
variable {P : Program} {w : World} {K : PySem.W.Frag} {mg : Str → Option Value} {base : Heap}
abbrev s_is_size : Stmt := topS 13
theorem sc_is_size : FnScope ["thing"] ["thing"] (defScope s_is_size) := ⟨rfl, rfl, rfl, by decide +kernel, rfl, by decide +kernel, by decide +kernel⟩
theorem ok_is_size {f : Addr} {fd : FuncData} (F : Fun K "is_size" "is_size" s_is_size f fd) (T : Txt K mg) (G_is_integer : Fn P w K mg base "is_integer" 1 ["thing"] sp_is_integer) : FnOk P w K mg base CX0 2 f fd ["thing"] sp_is_size := by
  refine okD F sc_is_size (by rintro _ _ ⟨i, rfl, rfl⟩; rfl) fun cdv A outer s H vs Q E ds d hr hR S kk => ?_
  obtain ⟨i, rfl, rfl⟩ := hR
  have hu := hu_of hr
  refine ⟨_, (pss_one (ps_ret (pe_and (pe_fn G_is_integer (hr.mono (by decide)) (by rfl) (pa_cons (pv 0) pa_nil)) (pe_one (pe_cmpR op_ge (pv 0) pe_int (nomark _)))))), ?_⟩
  exact st_ret (ev_and (ev_call (ea_cons (ev_var S rfl) ea_nil) ⟨i, rfl, rfl⟩) fun _ => ev_ge (ev_var S rfl) ev_int) kk
end
end SB
namespace SB
open PySem PySem.Spec PyProof.Rows L2 RZ
open StX (tStar pa_star)
section
variable {P : Program} {w : World} {K : PySem.W.Frag} {mg : Str → Option Value} {base : Heap}
abbrev s_is_prime : Stmt := topS 18
theorem sc_is_prime : FnScope ["thing"] ["thing"] (defScope s_is_prime) := ⟨rfl, rfl, rfl, by decide +kernel, rfl, by decide +kernel, by decide +kernel⟩
theorem ok_is_prime {f : Addr} {fd : FuncData} (F : Fun K "is_prime" "is_prime" s_is_prime f fd) (T : Txt K mg) (G_least_divisor : Fn P w K mg base "least_divisor" 1 ["number"] sp_least_divisor) (G_is_integer : Fn P w K mg base "is_integer" 1 ["thing"] sp_is_integer) : FnOk P w K mg base CX0 2 f fd ["thing"] sp_is_prime := by
  refine okD F sc_is_prime (by rintro _ _ ⟨n, hn, rfl, rfl⟩; rfl) fun cdv A outer s H vs Q E ds d hr hR S kk => ?_
  obtain ⟨n, hn, rfl, rfl⟩ := hR
  have hu := hu_of hr
  obtain ⟨tk, hmost⟩ := T.most
  refine ⟨_, (pss_one (ps_ret (pe_and (pe_fn G_is_integer (hr.mono (by decide)) (by rfl) (pa_cons (pv 0) pa_nil)) (pe_and (pe_chain op_le op_le pe_int (pv 0) (pe_glob (v := .int 10000) rfl hmost ⟨_, rfl⟩)) (pe_one (pe_cmpR op_eq (pe_fn G_least_divisor (hr.mono (by decide)) (by rfl) (pa_cons (pv 0) pa_nil)) (pv 0) (nomark _))))))), ?_⟩
  refine st_ret (((ev_and (ev_call (ea_cons (ev_var S rfl) ea_nil) ⟨_, rfl, rfl⟩) fun _ => ev_and (ev_chain (c := true) (by simp; omega) ev_int (ev_var S rfl) (ev_ci (i := 10000)) (fun _ => by simp; omega)) fun _ => ev_eq (ev_call (ea_cons (ev_var S rfl) ea_nil) ⟨n, hn, rfl, rfl⟩) (ev_var S rfl))).to ?_) kk
  simp
  norm_cast
end
end SB
namespace SB
open PySem PySem.Spec PyProof.Rows L2 RZ
open StX (tStar pa_star)
section
variable {P : Program} {w : World} {K : PySem.W.Frag} {mg : Str → Option Value} {base : Heap}
abbrev s_parts_in : Stmt := topS 21
theorem sc_parts_in : FnScope ["number", "found", "rest", "prime", "part"] ["number"] (defScope s_parts_in) := ⟨rfl, rfl, rfl, by decide +kernel, rfl, by decide +kernel, by decide +kernel⟩
theorem ok_parts_in {f : Addr} {fd : FuncData} (F : Fun K "parts_in" "parts_in" s_parts_in f fd) (T : Txt K mg) (G_least_divisor : Fn P w K mg base "least_divisor" 1 ["number"] sp_least_divisor) : FnOk P w K mg base CX0 2 f fd ["number"] sp_parts_in := by
  refine okD F sc_parts_in (by rintro _ _ ⟨n, hn, rfl, rfl⟩; rfl) fun cdv A outer s H vs Q E ds d hr hR S kk => ?_
  obtain ⟨n, hn, rfl, rfl⟩ := hR
  have hu := hu_of hr
  refine ⟨_, (pss_cons (ps_par (i := 1) (j := 2) rfl sc_parts_in.nd rfl rfl (by decide) rfl rfl (pa_cons (pe_lst pa_nil) (pa_cons (pv 0) pa_nil)) (by rfl))
    (pss_cons (ps_while PassesOwn.never (pt_cmpR op_gt (pv 2) pe_int (nomark _)) 
      (pss_cons (ps_par (i := 3) (j := 4) rfl sc_parts_in.nd rfl rfl (by decide) rfl rfl (pa_cons (pe_fn G_least_divisor (hr.mono (by decide)) (by rfl) (pa_cons (pv 2) pa_nil)) (pa_cons pe_int pa_nil)) (by rfl))
      (pss_cons (ps_while PassesOwn.never (pt_cmpR op_eq (pe_op op_mod (pv 2) (pv 3)) pe_int (nomark _)) 
        (pss_one (ps_par (i := 4) (j := 2) rfl sc_parts_in.nd rfl rfl (by decide) rfl rfl (pa_cons (pe_op op_mul (pv 4) (pv 3)) (pa_cons (pe_op op_fdiv (pv 2) (pv 3)) pa_nil)) (by rfl))))
      (pss_one (ps_expr (pe_bm PySem.F.plainAttrs_list PySem.F.slot_list_append PySem.F.type_list_append mt_append (pv 1) (pa_cons (pv 4) pa_nil)))))))
    (pss_one (ps_ret (pe_callTy (k_call_tuple_of K) (by rfl) T.tuple (by decide +kernel) (pa_cons (pe_callB (k_cr_sortedI K) (by rfl) T.sorted (by decide +kernel) (pa_cons (pv 1) pa_nil)) pa_nil)))))), ?_⟩
  refine sq (st_parL1 S (el_lst ea_nil (by decide)) (ev_var S rfl) fun p vs0 σ1 H1 hp e1 h1 r1 S1 => ?_)
  cases r1
  refine sq (st_while (fun m σ' H' => ∃ (acc : List Nat) (r : Nat), partsM m acc r = partsM n [] n ∧ 1 ≤ r ∧ r ≤ m ∧ r < 111 ∧ acc.length + m ≤ n ∧ Same H H' ∧ H' p = some (.lst ((zs acc).map V.int)) ∧ Sl K σ' H' [.dat (.int n), .ref p, .dat (.int r), .un, .un]) n
    ⟨[], n, rfl, hn.1, Nat.le_refl _, hn.2, by simp, e1, h1, S1⟩ ?_)
  rintro m σ' H' ⟨acc, r, hpm, h1r, hrm, h111, hlen, e2, hpl, S2⟩
  refine ⟨_, et_test (ev_gt (ev_var S2 rfl) ev_int), fun hb H3 e3 => ?_, fun hb H3 e3 => ?_⟩
  · have hr1 : 1 < r := by simp only [decide_eq_true_eq] at hb; omega
    have lk := lp_ok r (mem_drop2 hr1 h111)
    refine sq (st_par (S2.same e3) (ea_cons (ev_call (ea_cons (ev_var (S2.same e3) rfl) ea_nil) ⟨r, ⟨hr1, h111⟩, rfl, rfl⟩) (ea_cons ev_int ea_nil)) fun σ4 H4 e4 S4 => ?_)
    refine sq (st_while (fun f σ' H' => ∃ (part r' : Nat), strip1 (lp r) f part r' = strip1 (lp r) r 1 r ∧ 1 ≤ r' ∧ r' ≤ f ∧ r' ≤ r ∧ Same H3 H' ∧ Sl K σ' H' [.dat (.int n), .ref p, .dat (.int r'), .dat (.int (lp r)), .dat (.int part)]) r
      ⟨1, r, rfl, h1r, Nat.le_refl _, Nat.le_refl _, e4, S4⟩ ?_)
    rintro f σ5 H5 ⟨part, r', hs, h1r', hf, hrr, e5, S5⟩
    refine ⟨_, et_test (ev_eq (ev_mod (ev_var S5 rfl) (ev_var S5 rfl) (by omega)) ev_int), fun hb5 H6 e6 => ?_, fun hb5 H6 e6 => ?_⟩
    · have hm : r' % lp r = 0 := by simp only [decide_eq_true_eq] at hb5; norm_cast at hb5
      obtain ⟨f, rfl⟩ : ∃ g, f = g + 1 := ⟨f - 1, by omega⟩
      have hlt : r' / lp r < r' := Nat.div_lt_self (by omega) (by omega)
      have hge : 1 ≤ r' / lp r := Nat.div_pos (Nat.le_of_dvd (by omega) (Nat.dvd_of_mod_eq_zero hm)) (by omega)
      exact st_par (S5.same e6) (ea_cons (ev_mul (ev_var (S5.same e6) rfl) (ev_var (S5.same e6) rfl) (.inr (by omega))) (ea_cons (ev_div (ev_var (S5.same e6) rfl) (ev_var (S5.same e6) rfl) ⟨by omega, by omega⟩) ea_nil)) fun σ7 H7 e7 S7 =>
        ⟨f, by omega, part * lp r, r' / lp r, by rw [← hs, strip1_step hm], hge, by omega, by omega, (e5.trans e6).trans e7, S7⟩
    · have hm : r' % lp r ≠ 0 := by simp only [decide_eq_false_iff_not] at hb5; norm_cast at hb5
      rw [strip1_end hm] at hs
      have hpl6 : H6 p = some (.lst ((zs acc).map V.int)) := e6 _ _ (e5 _ _ (e3 _ _ hpl))
      refine st_app (ev_ref (S5.same e6) rfl) hpl6 (ev_var (S5.same e6) rfl) (by simp; omega) fun v H7 e7 r7 => ?_
      rw [← hs] at lk
      obtain ⟨m, rfl⟩ : ∃ g, m = g + 1 := ⟨m - 1, by omega⟩
      refine ⟨m, by omega, acc ++ [part], r', ?_, lk.2.2.1, by have := lk.2.2.2; simp only at this; omega, by omega, by simp; omega, Same.mut (((e2.trans e3).trans (e5.trans e6)).trans e7) hp, ?_, ?_⟩
      · rw [← hpm, partsM_step hr1, ← hs]
      · rw [r7.int', upd_same]
        simp
      · exact (((S5.same e6).same e7).tups (tups_lst (e7 _ _ hpl6))).weak 3 |>.weak 4
  · have hr1 : ¬ 1 < r := by simp only [decide_eq_false_iff_not] at hb; omega
    rw [partsM_end hr1] at hpm
    refine st_ret (ev_tupleOf (EvL.r (el_sortedI (ms := zs (partsL n)) (EvX.r (ev_ref (S2.same e3) rfl) (RdL.ofI (SqL.of (e3 _ _ hpl)))) ?_ (zs_sorted (isort_sorted _))))) fun v H4 e4 r4 => kk v H4 ((e2.trans e3).trans e4) r4
    rw [hpm]
    exact zs_perm (isort_perm _)
end
end SB
namespace SB
open PySem PySem.Spec PyProof.Rows L2 RZ
open StX (tStar pa_star)
section
variable {P : Program} {w : World} {K : PySem.W.Frag} {mg : Str → Option Value} {base : Heap}
abbrev s_totient_in : Stmt := topS 24
theorem sc_totient_in : FnScope ["number", "one"] ["number"] (defScope s_totient_in) := ⟨rfl, rfl, rfl, by decide +kernel, rfl, by decide +kernel, by decide +kernel⟩
theorem ok_totient_in {f : Addr} {fd : FuncData} (F : Fun K "totient_in" "totient_in" s_totient_in f fd) (T : Txt K mg) (G_common_in : Fn P w K mg base "common_in" 1 ["one", "other"] sp_common_in) : FnOk P w K mg base CX0 2 f fd ["number"] sp_totient_in := by
  refine okD F sc_totient_in (by rintro _ _ ⟨n, hn, rfl, rfl⟩; rfl) fun cdv A outer s H vs Q E ds d hr hR S kk => ?_
  obtain ⟨n, hn, rfl, rfl⟩ := hR
  have hu := hu_of hr
  refine ⟨_, (pss_one (ps_ret (pe_callB (k_call_len_seq K) (by rfl) T.len PySem.boot_len (pa_cons (pe_lc (own := [("one", 1)]) rfl sc_totient_in.nd (pi_range2 (by rfl) T.range (pa_cons pe_int (pa_cons (pe_op op_add (pv 0) pe_int) pa_nil))) (blkOk_by (by kernel_rfl)) (fun _ _ _ _ _ => (pg_name (i := 1) sc_totient_in.nd rfl (Or.inl rfl))) (fun _ _ _ _ _ => (pts_one (pt_cmpR op_eq (pe_fn G_common_in (hr.mono (by decide)) (by rfl) (pa_cons (pv 1) (pa_cons (pv 0) pa_nil))) pe_int (nomark _)))) (fun _ _ _ _ _ => (pv 1))) pa_nil)))), ?_⟩
  refine st_ret ((ev_lenL (EvL.r (el_lc (xs := (List.range (n + 1)).drop 1) (enc := fun k => .int k) (p := fun k => Nat.gcd k n == 1) (f := fun k => .int k) S ((wk_rng2 (ea_cons ev_int (ea_cons (ev_add (ev_var S rfl) ev_int) ea_nil)) (by omega) (rng_d1 n (by omega))).same) (fun x _ => tg_name) (by simp; omega) ?_ ?_))).to (by simp [phi])) kk
  · intro x hx σ' H' e' S'
    have := of_drop1 hx
    exact (et_test (ev_eq (ev_call (ea_cons (ev_var S' rfl) (ea_cons (ev_var S' rfl) ea_nil)) ⟨x, n, by omega, rfl, rfl⟩) ev_int)).to (by rw [Bool.beq_eq_decide_eq]; norm_cast)
  · intro x hx _ σ' H' e' S'
    exact ev_var S' rfl
end
end SB
namespace SB
open PySem PySem.Spec PyProof.Rows L2 RZ
open StX (tStar pa_star)
section
variable {P : Program} {w : World} {K : PySem.W.Frag} {mg : Str → Option Value} {base : Heap}
abbrev s_poly_of : Stmt := topS 41
theorem sc_poly_of : FnScope ["voice"] ["voice"] (defScope s_poly_of) := ⟨rfl, rfl, rfl, by decide +kernel, rfl, by decide +kernel, by decide +kernel⟩
theorem ok_poly_of {f : Addr} {fd : FuncData} (F : Fun K "poly_of" "poly_of" s_poly_of f fd) (T : Txt K mg) (G_stripped : Fn P w K mg base "stripped" 1 ["numbers"] (sp_stripped K)) : FnOk P w K mg base CX0 2 f fd ["voice"] sp_poly_of := by
  refine okD F sc_poly_of (by rintro _ _ ⟨ns, hn, rfl, rfl⟩; rfl) fun cdv A outer s H vs Q E ds d hr hR S kk => ?_
  obtain ⟨ns, hn, rfl, rfl⟩ := hR
  have hu := hu_of hr
  refine ⟨_, (pss_one (ps_ret (pe_fn G_stripped (hr.mono (by decide)) (by rfl) (pa_cons (pv 0) pa_nil)))), ?_⟩
  exact st_ret (ev_strT (ev_var S rfl) hn) kk
end
end SB
namespace SB
open PySem PySem.Spec PyProof.Rows L2 RZ
open StX (tStar pa_star)
section
variable {P : Program} {w : World} {K : PySem.W.Frag} {mg : Str → Option Value} {base : Heap}
abbrev s_poly_parted : Stmt := topS 42
theorem sc_poly_parted : FnScope ["one", "divisor", "rest", "goes", "k", "j", "number"] ["one", "divisor"] (defScope s_poly_parted) := ⟨rfl, rfl, rfl, by decide +kernel, rfl, by decide +kernel, by decide +kernel⟩
theorem ok_poly_parted {f : Addr} {fd : FuncData} (F : Fun K "poly_parted" "poly_parted" s_poly_parted f fd) (T : Txt K mg) (G_stripped : Fn P w K mg base "stripped" 1 ["numbers"] (sp_stripped K)) : FnOk P w K mg base CX0 2 f fd ["one", "divisor"] sp_poly_parted := by
  refine okD F sc_poly_parted (by rintro _ _ ⟨one, dv, hn, rfl, rfl⟩; rfl) fun cdv A outer s H vs Q E ds d hr hR S kk => ?_
  obtain ⟨one, dv, hn, rfl, rfl⟩ := hR
  have hu := hu_of hr
  refine ⟨_, (pss_cons (ps_setLc (i := 2) (own := [("number", 6)]) rfl sc_poly_parted.nd rfl rfl (sw_true rfl rfl rfl (by decide +kernel)) (k_pi_tup K (pv 0)) (blkOk_by (by kernel_rfl)) (fun _ _ _ _ _ => (pg_name (i := 6) sc_poly_parted.nd rfl (Or.inl rfl))) (fun _ _ _ _ _ => pts_nil) (fun _ _ _ _ _ => (pv 6)))
    (pss_cons (ps_setLc (i := 3) (own := [("number", 6)]) rfl sc_poly_parted.nd rfl rfl (sw_true rfl rfl rfl (by decide +kernel)) (k_pi_tup K (pv 0)) (blkOk_by (by kernel_rfl)) (fun _ _ _ _ _ => (pg_name (i := 6) sc_poly_parted.nd rfl (Or.inl rfl))) (fun _ _ _ _ _ => pts_nil) (fun _ _ _ _ _ => pe_int))
    (pss_cons (ps_for PassesOwn.never rfl (pi_range3 (by rfl) T.range (pa_cons (pe_op op_sub (pe_callB (k_call_len_seq K) (by rfl) T.len PySem.boot_len (pa_cons (pv 0) pa_nil)) (pe_callB (k_call_len_seq K) (by rfl) T.len PySem.boot_len (pa_cons (pv 1) pa_nil))) (pa_cons (pe_un un_neg pe_int) (pa_cons (pe_un un_neg pe_int) pa_nil)))) (pg_name (i := 4) sc_poly_parted.nd rfl (Or.inl rfl)) 
      (pss_cons (ps_asg (pe_ix (k_ix_list K) (pv 2) (pe_op op_sub (pe_op op_add (pv 4) (pe_callB (k_call_len_seq K) (by rfl) T.len PySem.boot_len (pa_cons (pv 1) pa_nil))) pe_int) (fun _ _ => rfl)) (pg_sub (pv 3) (pv 4) set_list))
      (pss_one (ps_for PassesOwn.never rfl (k_pi_enumT K (by rfl) T.enumerate (pa_cons (pv 1) pa_nil)) (k_pg_tup K 2 rfl (pgs_cons (pg_name (i := 5) sc_poly_parted.nd rfl (Or.inl rfl)) (pgs_cons (pg_name (i := 6) sc_poly_parted.nd rfl (Or.inl rfl)) pgs_nil))) 
        (pss_one (ps_asg (pe_op op_sub (pe_ix (k_ix_list K) (pv 2) (pe_op op_add (pv 4) (pv 5)) (fun _ _ => rfl)) (pe_op op_mul (pe_ix (k_ix_list K) (pv 3) (pv 4) (fun _ _ => rfl)) (pv 6))) (pg_sub (pv 2) (pe_op op_add (pv 4) (pv 5)) set_list)))))))
    (pss_one (ps_ret (pe_tup (pa_cons (pe_fn G_stripped (hr.mono (by decide)) (by rfl) (pa_cons (pv 3) pa_nil)) (pa_cons (pe_fn G_stripped (hr.mono (by decide)) (by rfl) (pa_cons (pv 2) pa_nil)) pa_nil)))))))), ?_⟩
  refine sq (st_setN S ((el_lc0 (xs := one) (enc := .int) (f := .int) S (wk_tup (ev_var S rfl)).same (fun x _ => tg_name) (by omega) fun x _ σ' H' _ S' => ev_var S' rfl)) fun pr vs1 σ1 H1 hpr e1 h1 r1 S1 => ?_)
  refine sq (st_setN S1 ((el_lc0 (xs := one) (enc := .int) (f := fun _ => .int 0) S1 (wk_tup (ev_var S1 rfl)).same (fun x _ => tg_name) (by omega) fun x _ σ' H' _ S' => ev_int)) fun pg vs2 σ2 H2 hpg e2 h2 r2 S2 => ?_)
  have hv1 : vs1 = one.map V.int := DtA.ints r1
  have hv2 : vs2 = (one.map fun _ => (0 : Int)).map V.int := DtA.ints (ns := one.map fun _ => 0) (by rw [List.map_map]; exact r2)
  subst hv1 hv2
  have hpg0 : H pg = none := fresh_back e1 hpg
  have hne : pr ≠ pg := ne_of_none h1 hpg
  refine sq (st_for (xs := List.range (one.length + 1 - dv.length)) (enc := fun i => .int ((one.length + 1 - dv.length - 1 - i : Nat) : Int))
    ((wk_down (lo := (one.length : Int) - (dv.length : Int)) (ea_cons ((ev_sub (ev_lenT (ev_var S2 rfl)) (ev_lenT (ev_var S2 rfl))).to (by simp)) (ea_cons (ev_neg (ev_int (i := 1))) (ea_cons (ev_neg (ev_int (i := 1))) ea_nil))) (by omega) (by omega)).to ?_)
    (fun H3 i σ' H' => Same H H' ∧ Tp H3 H' ∧ ∃ g r : List Int, g.length = one.length ∧ r.length = one.length ∧ divL dv (dv.length - 1) (one.length + 1 - dv.length - i) g r = divL dv (dv.length - 1) (one.length + 1 - dv.length) (one.map fun _ => 0) one ∧ H' pr = some (.lst (r.map V.int)) ∧ H' pg = some (.lst (g.map V.int)) ∧ Sl K σ' H' [.dat (tI one), .dat (tI dv), .ref pr, .ref pg, .un, .un, .un])
    (fun H3 e3 => ⟨(e1.trans e2).trans e3, Tp.refl _, one.map fun _ => 0, one, by simp, rfl, rfl, e3 _ _ (e2 _ _ h1), e3 _ _ h2, S2.same e3⟩) (fun H1 i σ' H' _ h => h.2.1) ?_ ?_)
  · rw [downD_eq]
    have : ((one.length : Int) - (dv.length : Int) + 1).toNat = one.length + 1 - dv.length := by omega
    rw [this]
  · rintro H3 i i' σ' H' v H'' e3 hx ⟨e4, t4, g, r, hg, hrl, hdiv, h5, h6, S5⟩ e5 rv
    obtain ⟨hi, hi'⟩ : i < one.length + 1 - dv.length ∧ i' = i := by
      have := List.getElem?_eq_some_iff.mp hx
      simp at this
      exact ⟨this.1, this.2.symm⟩
    rw [hi'] at rv
    clear hi' hx
    obtain ⟨k, hk⟩ : ∃ k, one.length + 1 - dv.length - 1 - i = k := ⟨_, rfl⟩
    have hK : one.length + 1 - dv.length - i = k + 1 := by omega
    have hkl : k + dv.length ≤ one.length := by omega
    rw [hk] at rv
    rw [hK] at hdiv
    have S6 := (S5.same e5).setD 4 rv
    have h5' := e5 _ _ h5
    have h6' := e5 _ _ h6
    refine sq (st_setIx (j := k) (ev_ixL (k := k + (dv.length - 1)) (EvX.r (ev_ref S6 rfl) (RdL.ofI (SqL.of h5'))) (ev_sub (ev_add (ev_var S6 rfl) (ev_lenT (ev_var S6 rfl))) ev_int) ?_ (d := .int (r.getD (k + (dv.length - 1)) 0)) ?_) (ev_ref S6 rfl) (ev_var S6 rfl) h6' (ixN_nat (by simp; omega)) fun w H7 e7 r7 => ?_)
    · have : (k : Int) + ((dv.map PyData.int).length : Int) - 1 = ((k + (dv.length - 1) : Nat) : Int) := by rw [List.length_map]; omega
      rw [this]
      exact ixN_nat (by simp; omega)
    · rw [List.getElem?_map, getD_of (by omega)]
      rfl
    · rw [r7.int']
      generalize hq : r.getD (k + (dv.length - 1)) 0 = q at *
      have h6s : upd H7 pg (.lst ((g.map V.int).set k (.int q))) pg = some (.lst ((g.set k q).map V.int)) := by rw [upd_same, List.map_set]
      have h5s : upd H7 pg (.lst ((g.map V.int).set k (.int q))) pr = some (.lst (r.map V.int)) := by rw [upd_ne hne]; exact e7 _ _ h5'
      have e8 : Same H (upd H7 pg (.lst ((g.map V.int).set k (.int q)))) := Same.mut ((e4.trans e5).trans e7) hpg0
      have t8 : ∀ a xs, H7 a = some (.tup xs) → upd H7 pg (.lst ((g.map V.int).set k (.int q))) a = some (.tup xs) := tups_lst (e7 _ _ h6')
      have f8 : Tp H7 (upd H7 pg (.lst ((g.map V.int).set k (.int q)))) := ⟨t8, fun a o u h => by
        rw [upd_ne]
        · exact h
        · intro z
          rw [z, e7 _ _ h6'] at h
          cases h⟩
      have S8 := (S6.same e7).tups t8
      generalize upd H7 pg (.lst ((g.map V.int).set k (.int q))) = H8 at *
      refine st_for (xs := List.range dv.length) (enc := fun j => .tuple [.int j, .int (dv.getD j 0)]) ((wk_enT (ev_var S8 rfl)).to (enD_ints dv))
        (fun H9 j σ' H' => Same H H' ∧ Tp H3 H' ∧ Tp H9 H' ∧ H' pr = some (.lst ((subAt k q (dv.take j) r).map V.int)) ∧ H' pg = some (.lst ((g.set k q).map V.int)) ∧ Sl K σ' H' [.dat (tI one), .dat (tI dv), .ref pr, .ref pg, .dat (.int k), .un, .un])
        (fun H9 e9 => ⟨e8.trans e9, (((t4.trans (Same.tp e5)).trans (Same.tp e7)).trans f8).trans (Same.tp e9), Tp.refl _, by rw [List.take_zero, subAt_zero]; exact e9 _ _ h5s, e9 _ _ h6s, S8.same e9⟩) (fun H1 i σ' H' _ h => h.2.2.1) ?_ ?_
      · rintro H9 j j' σ9 H10 v' H11 e9 hxj ⟨e10, t10, t11, h10, h11, S10⟩ e11 rv'
        obtain ⟨hj, hj'⟩ : j < dv.length ∧ j' = j := by
          have := List.getElem?_eq_some_iff.mp hxj
          simp at this
          exact ⟨this.1, this.2.symm⟩
        rw [hj'] at rv'
        clear hj' hxj
        refine tg_tup (ns := [5, 6]) rfl rfl v' σ9 H11 _ _ (S10.same e11) rv' fun σ12 S12 _ _ => ?_
        have h10' := e11 _ _ h10
        have h11' := e11 _ _ h11
        have hnum := hn.2.2.2 (dv.getD j 0) (List.mem_of_getElem? (getD_of hj))
        have hsl : (subAt k q (dv.take j) r).length = one.length := by rw [subAt_len, hrl]
        refine st_setIx (j := k + j) (ev_sub (ev_ixL (k := k + j) (EvX.r (ev_ref S12 rfl) (RdL.ofI (SqL.of h10'))) (ev_add (ev_var S12 rfl) (ev_var S12 rfl)) (ixN_nat (by simp; omega)) (d := .int ((subAt k q (dv.take j) r).getD (k + j) 0)) ?_)
          (ev_mul (ev_ixL (k := k) (EvX.r (ev_ref S12 rfl) (RdL.ofI (SqL.of h11'))) (ev_var S12 rfl) (ixN_nat (by simp; omega)) (d := .int q) ?_) (ev_var S12 rfl) (.inr hnum))) (ev_ref S12 rfl) (ev_add (ev_var S12 rfl) (ev_var S12 rfl)) h10' (ixN_nat (by simp; omega)) fun w H13 e13 r13 => ?_
        · rw [List.getElem?_map, getD_of (by omega)]
          rfl
        · rw [List.getElem?_map, List.getElem?_set_self (by omega)]
          rfl
        · rw [r13.int']
          have t13 : ∀ a xs, H13 a = some (.tup xs) → upd H13 pr (.lst (((subAt k q (dv.take j) r).map V.int).set (k + j) (.int ((subAt k q (dv.take j) r).getD (k + j) 0 - q * dv.getD j 0)))) a = some (.tup xs) := tups_lst (e13 _ _ h10')
          have f13 : Tp H13 (upd H13 pr (.lst (((subAt k q (dv.take j) r).map V.int).set (k + j) (.int ((subAt k q (dv.take j) r).getD (k + j) 0 - q * dv.getD j 0))))) := ⟨t13, fun a o u h => by
            rw [upd_ne]
            · exact h
            · intro z
              rw [z, e13 _ _ h10'] at h
              cases h⟩
          refine ⟨Same.mut ((e10.trans e11).trans e13) hpr, ((t10.trans (Same.tp e11)).trans (Same.tp e13)).trans f13, ((t11.trans (Same.tp e11)).trans (Same.tp e13)).trans f13, ?_, ?_, ((((S12.same e13).tups t13)).weak 5).weak 6⟩
          · rw [upd_same, ← subAt_step hj (by omega), List.map_set]
          · rw [upd_ne hne.symm]
            exact e13 _ _ h11'
      · rintro H9 σ9 H10 e9 ⟨e10, t10, _, h10, h11, S10⟩
        rw [List.length_range, List.take_length] at h10
        refine ⟨e10, t10, g.set k q, subAt k q dv r, by simp [hg], by rw [subAt_len, hrl], ?_, h10, h11, S10.weak 4⟩
        have : one.length + 1 - dv.length - (i + 1) = k := by omega
        rw [this, ← hdiv, ← hq]
        rfl
  · rintro H3 σ' H' e3 ⟨e4, _, g, r, hg, hrl, hdiv, h5, h6, S5⟩
    rw [List.length_range, Nat.sub_self] at hdiv
    refine st_ret (ev_tup (ea_cons (ev_strL (EvX.r (ev_ref S5 rfl) (RdL.ofI (SqL.of h6))) (by omega)) (ea_cons (ev_strL (EvX.r (ev_ref S5 rfl) (RdL.ofI (SqL.of h5))) (by omega)) ea_nil)) (by simp)) fun v H4 e6 r6 => kk v H4 (e4.trans e6) ?_
    unfold pparted
    rw [← hdiv]
    exact r6
end
end SB
namespace SB
open PySem PySem.Spec PyProof.Rows L2 RZ
open StX (tStar pa_star)
section
variable {P : Program} {w : World} {K : PySem.W.Frag} {mg : Str → Option Value} {base : Heap}
abbrev s_settled : Stmt := topS 73
theorem sc_settled : FnScope ["table", "lows", "p", "q", "pairs", "found", "ahead", "here", "lap", "one", "late", "bound", "j"] ["table", "lows", "p", "q"] (defScope s_settled) := ⟨rfl, rfl, rfl, by decide +kernel, rfl, by decide +kernel, by decide +kernel⟩
theorem ok_settled {f : Addr} {fd : FuncData} (F : Fun K "settled" "settled" s_settled f fd) (T : Txt K mg) (G_bound_between : Fn P w K mg base "bound_between" 1 ["table", "lows", "q", "pair"] sp_bound_between) : FnOk P w K mg base CX0 2 f fd ["table", "lows", "p", "q"] sp_settled := by
  refine okM F sc_settled (by rintro _ _ _ _ ⟨t, l, C, L, p, q, r, g, lw, hn, rfl, rfl, hc, hl, kk⟩; rfl) fun cdv A outer s H vs Q E as ds hr hR S => ?_
  obtain ⟨t, l, C, L, p, q, r, g, lw, hn, rfl, rfl, hc, hl, kk⟩ := hR
  have hu := hu_of hr
  refine ⟨_, (pss_cons (ps_setLc2 (i := 4) (own := [("one", 9), ("late", 10)]) (vs1 := [10]) rfl sc_settled.nd rfl rfl (sw_true rfl rfl rfl (by decide +kernel)) (pi_range1 (by rfl) T.range (pa_cons (pv 2) pa_nil)) (blkOk_by (by kernel_rfl)) (by decide) (fun _ _ _ _ _ => (pg_name (i := 9) sc_settled.nd rfl (Or.inl rfl))) (fun _ _ _ _ _ => pts_nil) (fun _ _ _ _ _ => (pi_range1 (by rfl) T.range (pa_cons (pv 2) pa_nil))) (fun _ _ _ _ _ => (pg_name (i := 10) sc_settled.nd rfl (Or.inl rfl))) (fun _ _ _ _ _ => pts_nil) (fun _ _ _ _ _ => (pe_tup (pa_cons (pv 9) (pa_cons (pv 10) pa_nil)))))
    (pss_cons (ps_par (i := 5) (j := 6) rfl sc_settled.nd rfl rfl (by decide) rfl rfl (pa_cons (pe_op op_rep (pe_lst (pa_cons pe_int pa_nil)) (pv 2)) (pa_cons (pe_op op_rep (pe_lst (pa_cons (pe_tup (pa_cons pe_int (pa_cons pe_int pa_nil))) pa_nil)) (pv 2)) pa_nil)) (by rfl))
    (pss_cons (ps_set (i := 7) sc_settled.nd rfl (Or.inl rfl) pe_non)
    (pss_cons (ps_for PassesOwn.never rfl (pi_range1 (by rfl) T.range (pa_cons (pe_op op_add (pv 2) pe_int) pa_nil)) (pg_name (i := 8) sc_settled.nd rfl (Or.inl rfl)) 
      (pss_cons (ps_set (i := 7) sc_settled.nd rfl (Or.inl rfl) pe_non)
      (pss_one (ps_for PassesOwn.never rfl (k_pi_list K (pv 4)) (k_pg_tup K 2 rfl (pgs_cons (pg_name (i := 9) sc_settled.nd rfl (Or.inl rfl)) (pgs_cons (pg_name (i := 10) sc_settled.nd rfl (Or.inl rfl)) pgs_nil))) 
        (pss_cons (ps_asg (pe_fn G_bound_between (hr.mono (by decide)) (by rfl) (pa_cons (pv 0) (pa_cons (pv 1) (pa_cons (pv 3) (pa_cons (pe_tup (pa_cons (pv 9) (pa_cons (pv 10) pa_nil))) pa_nil))))) (k_pg_tup K 2 rfl (pgs_cons (pg_name (i := 11) sc_settled.nd rfl (Or.inl rfl)) (pgs_cons (pg_name (i := 12) sc_settled.nd rfl (Or.inl rfl)) pgs_nil))))
        (pss_one (ps_if (pt_cmpR op_gt (pe_ix (k_ix_list K) (pv 5) (pv 10) (fun _ _ => rfl)) (pe_op op_add (pe_ix (k_ix_list K) (pv 5) (pv 9) (fun _ _ => rfl)) (pv 11)) (nomark _)) 
          (pss_one ps_never)
          pss_nil)))))))
    (pss_one (ps_ret (pe_ifExp (pt_cmpR op_isN (pv 7) pe_non (nomark _)) (pe_tup (pa_cons (pv 5) (pa_cons (pe_tup pa_nil) pa_nil))) pe_never))))))), ?_⟩
  refine sq (st_setN S ((el_lc2 (xs := List.range p) (enc := fun i => .int ((i : Nat) : Int)) (ys := fun _ => List.range p) (enc1 := fun j => .int ((j : Nat) : Int)) (f := fun i j => kD ((i : Int), (j : Int))) S (wk_rng1 (ea_cons (ev_var S rfl) ea_nil) (by omega) (rng_d0 p (by omega))).same (fun x _ => tg_name) ?_ (fun i hi σ' H' e' S' => wk_rng1 (ea_cons (ev_var S' rfl) ea_nil) (by omega) (rng_d0 p (by omega))) (fun y => tg_name) fun i hi j hj σ' H' e' S' => ev_tup (ea_cons (ev_var S' rfl) (ea_cons (ev_var S' rfl) ea_nil)) (by simp))) fun lp vs σ1 H1 hlp e1 h1 r1 S1 => ?_)
  · have : ∀ l : List Nat, (l.flatMap fun (i : Nat) => (List.range p).map fun (j : Nat) => kD ((i : Int), (j : Int))).length = l.length * p := by
      intro l
      induction l with
      | nil => simp
      | cons x l ih => rw [List.flatMap_cons, List.length_append, ih, List.length_map, List.length_range, List.length_cons, Nat.succ_mul]; omega
    rw [this, List.length_range]
    have := Nat.mul_le_mul hn.2.1 hn.2.1
    omega
  refine sq (st_parLL S1 (el_rep1 (el_lst (ea_cons ev_int ea_nil) (by simp)) (ev_var S1 rfl) (by omega)) (el_rep1 (el_lst (ea_cons (ev_tup (ea_cons ev_int (ea_cons ev_int ea_nil)) (by simp)) ea_nil) (by simp)) (ev_var S1 rfl) (by omega)) fun ff vf fa va σ2 H2 hff hfa _ e2 h2 r2 _ _ S2 => ?_)
  have hvf : vf = (List.replicate p (0 : Int)).map V.int := DtA.ints (ns := List.replicate p 0) (by simpa using r2)
  have hvf2 : (List.replicate p (0 : Int)).map V.int = List.replicate p (V.int 0) := by simp
  dsimp only
  refine sq (st_set S2 ev_non fun σ3 H3 e3 S3 => ?_)
  have e13 := (e1.trans e2).trans e3
  have h3 : H3 lp = some (.lst vs) := e3 _ _ (e2 _ _ h1)
  have h3f : H3 ff = some (.lst ((List.replicate p (0 : Int)).map V.int)) := by rw [← hvf]; exact e3 _ _ h2
  have r3 := (r1.same e2).same e3
  have hf0 : ∀ i, i < p → (List.replicate p (0 : Int))[i]? = some 0 := fun i hi => by rw [List.getElem?_replicate, if_pos hi]
  refine sq (st_for (xs := List.range (p + 1)) (enc := fun i => .int ((i : Nat) : Int)) (wk_rng1 (ea_cons (ev_add (ev_var S3 rfl) ev_int) ea_nil) (by omega) (rng_d0 (p + 1) (by omega)))
    (fun H4 i σ' H' => Same H4 H' ∧ Sl K σ' H' [.ref t, .ref l, .dat (.int p), .dat (.int q), .ref lp, .ref ff, .ref fa, .dat .none, .un, .un, .un, .un, .un]) (fun H4 e4 => ⟨Same.refl _, S3.same e4⟩) (fun H4 i σ' H' _ h => Same.tp h.1) ?_ ?_)
  · rintro H4 i lap σ' H' v H5 e4 hx ⟨e5, S5⟩ e6 rv
    have S6 := (S5.same e6).setD 8 rv
    have b5 := (e4.trans e5).trans e6
    refine sq (st_set S6 ev_non fun σ7 H7 e7 S7 => ?_)
    have b7 := b5.trans e7
    refine st_for (xs := (List.range p).flatMap fun i => (List.range p).map fun j => (i, j)) (enc := fun x => kD ((x.1 : Int), (x.2 : Int))) ((wk_list (EvX.r (ev_ref S7 rfl) ⟨vs, SqL.of (b7 _ _ h3), r3.same b7⟩)).to ?_)
      (fun H8 i σ' H' => Same H8 H' ∧ Sl K σ' H' [.ref t, .ref l, .dat (.int p), .dat (.int q), .ref lp, .ref ff, .ref fa, .dat .none, .un, .un, .un, .un, .un]) (fun H8 e8 => ⟨Same.refl _, (S7.same e8).weak 8⟩) (fun H8 i σ' H' _ h => Same.kp h.1) ?_ ?_
    · rw [List.map_flatMap]
      congr 1
      funext i
      rw [List.map_map]
      rfl
    · rintro H8 i2 x σ' H' v2 H9 e8 hx2 ⟨e9, S9⟩ e10 rv2
      obtain ⟨a, ha, hab⟩ := List.mem_flatMap.mp (List.mem_of_getElem? hx2)
      obtain ⟨b, hb, rfl⟩ := List.mem_map.mp hab
      have ha := List.mem_range.mp ha
      have hb := List.mem_range.mp hb
      have b9 := b7.trans ((e8.trans e9).trans e10)
      refine tg_tup (ns := [9, 10]) rfl rfl v2 σ' H9 _ _ (S9.same e10) rv2 fun σ11 S11 _ _ => ?_
      refine sq (call_M (Q := fun x H' => _) (ex_cons (ev_ref S11 rfl) (ex_cons (ev_ref S11 rfl) (ex_nil (ea_cons (ev_var S11 rfl) (ea_cons (ev_tup (ea_cons (ev_var S11 rfl) (ea_cons (ev_var S11 rfl) ea_nil)) (by simp)) ea_nil))))) fun H12 e12 => ⟨t, l, C, L, p, q, r, a, b, g, lw, ⟨ha, hb, hn.2.2.1, hn.2.2.2.1, hn.2.2.2.2.1, hn.2.2.2.2.2.1, hn.2.2.2.2.2.2.1⟩, rfl, rfl, hc.same ((e13.trans b9).trans e12), hl.same ((e13.trans b9).trans e12), fun v H13 j hj e13' r13 => ?_⟩)
      refine tg_tup (ns := [11, 12]) rfl rfl v σ11 H13 _ _ (S11.same (e12.trans e13')) r13 fun σ14 S14 _ _ => ?_
      have hb0 := hn.2.2.2.2.2.2.2 a b j ha hb hj
      have b13 := (b9.trans e12).trans e13'
      have hF := (b13 _ _ h3f)
      refine st_if (b := false) ((et_test (ev_gt (ev_ixL (k := b) (EvX.r (ev_ref S14 rfl) (RdL.ofI (SqL.of hF))) (ev_var S14 rfl) (ixN_nat (by simp; omega)) (d := .int 0) (by rw [List.getElem?_map, hf0 b hb]; rfl)) (ev_add (ev_ixL (k := a) (EvX.r (ev_ref S14 rfl) (RdL.ofI (SqL.of hF))) (ev_var S14 rfl) (ixN_nat (by simp; omega)) (d := .int 0) (by rw [List.getElem?_map, hf0 a ha]; rfl)) (ev_var S14 rfl)))).to (by rw [decide_eq_false]; omega)) (fun z => nomatch z) fun _ H15 e15 => ⟨(((e9.trans e10).trans e12).trans e13').trans e15, ((((S14.same e15).weak 9).weak 10).weak 11).weak 12⟩
    · rintro H8 σ' H' e8 ⟨e9, S9⟩
      exact ⟨((e5.trans e6).trans e7).trans (e8.trans e9), S9⟩
  · rintro H4 σ' H' e4 ⟨e5, S5⟩
    have b5 := e4.trans e5
    dsimp only
    refine ret_if (et_isN (ev_var S5 (k := 7) rfl)) fun H6 e6 => ?_
    have b6 := b5.trans e6
    exact st_retXD (ev_ref (S5.same e6) rfl) (ev_tup ea_nil (by simp)) fun rr e H7 e7 h7 r7 => kk rr ff e H7 ((e13.trans b6).trans e7) (fresh_back e1 hff) h7 (by rw [(b6.trans e7) _ _ h3f, hvf2]) r7
end
end SB
namespace SB
open PySem PySem.Spec PyProof.Rows L2 RZ
open StX (tStar pa_star)
section
variable {P : Program} {w : World} {K : PySem.W.Frag} {mg : Str → Option Value} {base : Heap}
abbrev s__law_pick : Stmt := topS 91
theorem sc__law_pick : FnScope ["_law_feed_here", "_law_things"] ["_law_feed_here", "_law_things"] (defScope s__law_pick) := ⟨rfl, rfl, rfl, by decide +kernel, rfl, by decide +kernel, by decide +kernel⟩
theorem ok__law_pick {f : Addr} {fd : FuncData} (F : Fun K "_law_pick" "_law_pick" s__law_pick f fd) (T : Txt K mg) (G__law_draw : Fn P w K mg base "_law_draw" 1 ["_law_feed_here", "_law_many"] sp__law_draw) : FnOk P w K mg base CX0 2 f fd ["_law_feed_here", "_law_things"] (sp__law_pick K) := by
  refine okM F sc__law_pick (by rintro _ _ _ _ ⟨a, t, es, hn, hf, ht, rfl, rfl, kk⟩; rfl) fun cdv A outer s H vs Q E as ds hr hR S => ?_
  obtain ⟨a, t, es, hn, hf, ht, rfl, rfl, kk⟩ := hR
  have hu := hu_of hr
  refine ⟨_, (pss_one (ps_ret (pe_ix (k_ix_list K) (pv 1) (pe_fn G__law_draw (hr.mono (by decide)) (by rfl) (pa_cons (pv 0) (pa_cons (pe_callB (k_call_len_seq K) (by rfl) T.len PySem.boot_len (pa_cons (pv 1) pa_nil)) pa_nil))) (fun _ _ => rfl)))), ?_⟩
  have hlen : 0 < es.length := List.length_pos_iff.mpr hn.1
  refine st_retOpX (ev_ref S (k := 1) rfl) fun H1 e1 => call_M (ex_cons (ev_ref (S.same e1) rfl) (ex_nil (ea_cons (ev_lenL (EvX.r (ev_ref (S.same e1) rfl) (ht.same e1))) ea_nil))) fun H2 e2 => ⟨a, es.length, ⟨by omega, by omega⟩, hf.same (e1.trans e2), rfl, rfl, fun r H3 hr s3 f3 => ?_⟩
  have hkp : Kp K H H3 := (Same.kp (e1.trans e2)).trans ((hf.same (e1.trans e2)).kp s3)
  obtain ⟨xs, hx, rx⟩ := ht.kp hkp
  have hd : es[r]? = some es[r] := List.getElem?_eq_getElem hr
  obtain ⟨x, hx2, rx2⟩ := DtA.at' rx hd
  refine ⟨t, xs, (r : Int), x, rfl, rfl, hx, ?_, kk x es[r] H3 (List.getElem_mem hr) ((Same.sb (e1.trans e2)).trans s3) f3 rx2⟩
  unfold atI
  rw [ixN_nat (by rw [rx.len]; exact hr)]
  exact hx2
end
end SB
namespace SB
open PySem PySem.Spec PyProof.Rows L2 RZ
open StX (tStar pa_star)
section
variable {P : Program} {w : World} {K : PySem.W.Frag} {mg : Str → Option Value} {base : Heap}
abbrev s__law_is_pair : Stmt := topS 101
theorem sc__law_is_pair : FnScope ["_law_size", "_law_value"] ["_law_size", "_law_value"] (defScope s__law_is_pair) := ⟨rfl, rfl, rfl, by decide +kernel, rfl, by decide +kernel, by decide +kernel⟩
theorem ok__law_is_pair {f : Addr} {fd : FuncData} (F : Fun K "_law_is_pair" "_law_is_pair" s__law_is_pair f fd) (T : Txt K mg) (G__law_is_number : Fn P w K mg base "_law_is_number" 1 ["_law_value"] sp__law_is_number) (G__law_primes : Fn P w K mg base "_law_primes" 1 ["_law_size"] sp__law_primes) : FnOk P w K mg base CX0 2 f fd ["_law_size", "_law_value"] sp__law_is_pair := by
  refine okD F sc__law_is_pair (by rintro _ _ ⟨n, p, g, hn, rfl, rfl⟩; rfl) fun cdv A outer s H vs Q E ds d hr hR S kk => ?_
  obtain ⟨n, p, g, hn, rfl, rfl⟩ := hR
  have hu := hu_of hr
  refine ⟨_, (pss_cons (ps_if (PW.pt (pw_or (pt_not (pt_val (pe_callB (k_call_isi K) (by rfl) T.isinstance (by decide +kernel) (pa_cons (pv 1) (pa_cons (pe_bltn (v := .ty "tuple") (u := .type "tuple") (by rfl) T.tuple (by decide +kernel) rfl) pa_nil))))) (pw_or (pt_cmpR op_ne (pe_callB (k_call_len_seq K) (by rfl) T.len PySem.boot_len (pa_cons (pv 1) pa_nil)) pe_int (nomark _)) (pw_or (pt_not (pt_val (pe_fn G__law_is_number (hr.mono (by decide)) (by rfl) (pa_cons (pe_ix (k_ix_tup K) (pv 1) pe_int (fun _ _ => rfl)) pa_nil)))) (pw_or1 (pt_not (pt_val (pe_fn G__law_is_number (hr.mono (by decide)) (by rfl) (pa_cons (pe_ix (k_ix_tup K) (pv 1) pe_int (fun _ _ => rfl)) pa_nil))))))))) 
      (pss_one (ps_ret pe_bl))
      pss_nil)
    (pss_one (ps_ret (pe_and (pe_cmpR (k_op_in_seq K) (pe_ix (k_ix_tup K) (pv 1) pe_int (fun _ _ => rfl)) (pe_fn G__law_primes (hr.mono (by decide)) (by rfl) (pa_cons (pv 0) pa_nil)) (by rfl)) (pe_one (pe_cmpR op_lt (pe_ix (k_ix_tup K) (pv 1) pe_int (fun _ _ => rfl)) (pe_op op_fdiv (pv 0) (pe_ix (k_ix_tup K) (pv 1) pe_int (fun _ _ => rfl))) (nomark _))))))), ?_⟩
  have hp := mem_primes hn.2.2.1
  refine sq (st_if (b := false) ((et_or (b := false) ((et_not (et_B (ev_isiT (b := true) (ev_var S rfl) (by decide +kernel)))).to rfl) fun _ => et_or (b := false) ((et_test (ev_ne (ev_lenT (ev_var S rfl)) ev_int)).to (by simp)) fun _ => et_or (b := false) ((et_not (et_B (ev_call (ea_cons (ev_ixT (k := 0) (ev_var S rfl) ev_int rfl rfl) ea_nil) ⟨(p : Int), rfl, rfl⟩))).to (by rw [decide_eq_true (by omega)]; rfl)) fun _ => (et_not (et_B (ev_call (ea_cons (ev_ixT (k := 1) (ev_var S rfl) ev_int rfl rfl) ea_nil) ⟨(g : Int), rfl, rfl⟩))).to (c := false) (by rw [decide_eq_true (by omega)]; rfl)).to rfl) (fun z => nomatch z) fun _ H1 e1 => ?_)
  have S1 := S.same e1
  refine st_ret ((ev_and (b := true) (c := true) ((ev_inL (ns := zs (primesL n)) (ev_ixT (k := 0) (d := .int (p : Int)) (ev_var S1 rfl) ev_int rfl rfl) (EvL.r (el_call (ea_cons (ev_var S1 rfl) ea_nil) ⟨n, ⟨hn.1, hn.2.1⟩, rfl, rfl⟩))).to (by rw [any_zs_of hn.2.2.1])) fun _ => (ev_lt (ev_ixT (k := 1) (d := .int (g : Int)) (ev_var S1 rfl) ev_int rfl rfl) (ev_div (ev_var S1 rfl) (ev_ixT (k := 0) (d := .int (p : Int)) (ev_var S1 rfl) ev_int rfl rfl) ⟨by omega, by omega⟩)).to ?_).to rfl) fun w H2 e2 r2 => kk w H2 (e1.trans e2) r2
  have : ((n : Int) / (p : Int)) = ((n / p : Nat) : Int) := by norm_cast
  rw [this, decide_eq_true (by omega)]
end
end SB
namespace SB
open PySem PySem.Spec PyProof.Rows L2 RZ
open StX (tStar pa_star)
section
variable {P : Program} {w : World} {K : PySem.W.Frag} {mg : Str → Option Value} {base : Heap}
theorem spreadL_len (l : List Int) (m : Nat) : (spreadL l m).length = (l.length - 1) * m + 1 := by simp [spreadL]
abbrev s__law_top : Stmt := topS 95
theorem sc__law_top : FnScope ["_law_size", "_law_found", "_law_left", "_law_prime"] ["_law_size"] (defScope s__law_top) := ⟨rfl, rfl, rfl, by decide +kernel, rfl, by decide +kernel, by decide +kernel⟩
theorem ok__law_top {f : Addr} {fd : FuncData} (F : Fun K "_law_top" "_law_top" s__law_top f fd) (T : Txt K mg) (G__law_primes : Fn P w K mg base "_law_primes" 1 ["_law_size"] sp__law_primes) (G__law_divided : Fn P w K mg base "_law_divided" 1 ["_law_wide", "_law_narrow"] (sp__law_divided K)) (G__law_spread : Fn P w K mg base "_law_spread" 1 ["_law_some", "_law_many"] (sp__law_spread K)) : FnOk P w K mg base CX0 2 f fd ["_law_size"] sp__law_top := by
  refine okL F sc__law_top (by rintro _ _ ⟨n, hn, rfl, rfl⟩; rfl) fun cdv A outer s H vs Q E ds es hr hR S kk => ?_
  obtain ⟨n, hn, rfl, rfl⟩ := hR
  have hu := hu_of hr
  refine ⟨_, (pss_cons (ps_par (i := 1) (j := 2) rfl sc__law_top.nd rfl rfl (by decide) rfl rfl (pa_cons (pe_lst (pa_cons (pe_un un_neg pe_int) (pa_cons pe_int pa_nil))) (pa_cons (pv 0) pa_nil)) (by rfl))
    (pss_cons (ps_for PassesOwn.never rfl (k_pi_list K (pe_fn G__law_primes (hr.mono (by decide)) (by rfl) (pa_cons (pv 0) pa_nil))) (pg_name (i := 3) sc__law_top.nd rfl (Or.inl rfl)) 
      (pss_one (ps_par (i := 1) (j := 2) rfl sc__law_top.nd rfl rfl (by decide) rfl rfl (pa_cons (pe_fn G__law_divided (hr.mono (by decide)) (by rfl) (pa_cons (pe_fn G__law_spread (hr.mono (by decide)) (by rfl) (pa_cons (pv 1) (pa_cons (pv 3) pa_nil))) (pa_cons (pv 1) pa_nil))) (pa_cons (pe_op op_fdiv (pv 2) (pv 3)) pa_nil)) (by rfl))))
    (pss_one (ps_ret (pe_fn G__law_spread (hr.mono (by decide)) (by rfl) (pa_cons (pv 1) (pa_cons (pv 2) pa_nil))))))), ?_⟩
  have hb := size_lt n hn
  have hok := top_ok n hn
  refine sq (st_parL1 (e := .int (n : Int)) S (el_lst (ds := [.int (-1), .int 1]) (ea_cons (ev_neg (ev_int (i := 1))) (ea_cons ev_int ea_nil)) (by simp)) (ev_var S rfl) fun p0 vs0 σ1 H1 hp0 e1 h1 r1 S1 => ?_)
  have hv0 : vs0 = ([-1, 1] : List Int).map V.int := DtA.ints (ns := [-1, 1]) r1
  subst hv0
  obtain ⟨ps, hps⟩ : ∃ ps, primesL n = ps := ⟨_, rfl⟩
  rw [hps] at hok
  refine sq (st_for (xs := ps) (enc := fun p => .int ((p : Nat) : Int)) ((wk_list (EvL.r (el_call (ea_cons (ev_var S1 rfl) ea_nil) ⟨n, hb, rfl, rfl⟩))).to (by rw [hps, List.map_map]; rfl))
    (fun H2 i σ' H' => Same H H' ∧ ∃ (p : Addr) (f : List Int) (l : Nat), H p = none ∧ H' p = some (.lst (f.map V.int)) ∧ topOk (ps.drop i) f l = true ∧ topF (ps.drop i) f l = topF ps [-1, 1] n ∧ Same H2 H' ∧ Sl K σ' H' [.dat (.int n), .ref p, .dat (.int (l : Int)), .un])
    (fun H2 e2 => ⟨e1.trans e2, p0, [-1, 1], n, hp0, e2 _ _ h1, hok, rfl, Same.refl _, S1.same e2⟩) (fun H2 i σ' H' _ h => by
      obtain ⟨_, _, _, _, _, _, _, _, s, _⟩ := h
      exact Same.kp s) ?_ ?_)
  · rintro H2 i p σ' H' v H3 e2 hx ⟨e3, q, f, l, hq, h3, ok3, top3, s3, S3⟩ e4 rv
    have hi := (List.getElem?_eq_some_iff.mp hx).1
    have hd : ps.drop i = p :: ps.drop (i + 1) := by
      rw [List.drop_eq_getElem_cons hi, (List.getElem?_eq_some_iff.mp hx).2]
    rw [hd] at ok3 top3
    unfold topOk at ok3
    simp only [Bool.and_eq_true, decide_eq_true_eq, List.all_eq_true] at ok3
    obtain ⟨⟨⟨⟨⟨⟨o1, o2⟩, o3⟩, o4⟩, o5⟩, o6⟩, o7⟩ := ok3
    have S4 := (S3.same e4).setD 3 rv
    have h4 := e4 _ _ h3
    have rq : RdL K H3 q (f.map .int) := RdL.ofI (SqL.of h4)
    refine st_parL1 (ds := (lquot (spreadL f p) f).map .int) (e := .int ((l / p : Nat) : Int)) S4 ?_ ((ev_div (ev_var S4 rfl) (ev_var S4 rfl) ⟨by omega, by omega⟩).to (by norm_cast)) fun p5 vs5 σ5 H5 hp5 e5 h5 r5 S5 => ?_
    · refine el_callL (el_callM (ns := spreadL f p) (ex_cons (ev_ref S4 rfl) (ex_nil (ea_cons (ev_var S4 rfl) ea_nil))) fun H6 e6 Q6 q6 => ⟨q, f, p, ⟨o5, o6, o1, o3⟩, rq.same e6, rfl, rfl, q6⟩).r (ex_cons (ev_ref S4 rfl) (ex_nil ea_nil)) fun p6 H6 e6 r6 Q6 q6 => ⟨p6, q, spreadL f p, f, ⟨by rw [spreadL_len]; omega, o1, ?_, fun x hx => ?_⟩, r6, rq.same e6, rfl, rfl, q6⟩
      · rw [spreadL_len]
        have := Nat.mul_le_mul_left (f.length - 1) o5
        omega
      · have := o4 x hx
        omega
    · have hv5 : vs5 = (lquot (spreadL f p) f).map V.int := DtA.ints r5
      rw [hv5] at h5
      refine ⟨(e3.trans e4).trans e5, p5, lquot (spreadL f p) f, l / p, fresh_back (e3.trans e4) hp5, h5, o7, top3, (s3.trans e4).trans e5, S5.weak 3⟩
  · rintro H2 σ' H' e2 ⟨e3, q, f, l, hq, h3, ok3, top3, s3, S3⟩
    rw [List.drop_length] at ok3 top3
    unfold topOk at ok3
    simp only [Bool.and_eq_true, decide_eq_true_eq] at ok3
    obtain ⟨⟨⟨⟨o1, o2⟩, o3⟩, o4⟩, o5⟩ := ok3
    have hsl : spreadL f l = topL n := by
      unfold topL
      rw [hps, ← top3]
      rfl
    refine st_retL ((el_callM (ns := spreadL f l) (ex_cons (ev_ref S3 rfl) (ex_nil (ea_cons (ev_var S3 rfl) ea_nil))) fun H6 e6 Q6 q6 => ⟨q, f, l, ⟨o3, o4, o1, o5⟩, (RdL.ofI (SqL.of h3)).same e6, rfl, rfl, q6⟩).to (by rw [hsl])) fun p6 vs6 H6 hp6 e6 h6 r6 => kk p6 vs6 H6 (fresh_back e3 hp6) (e3.trans e6) h6 r6
end
end SB
namespace SB
open PySem PySem.Spec PyProof.Rows L2 RZ
open StX (tStar pa_star)
section
variable {P : Program} {w : World} {K : PySem.W.Frag} {mg : Str → Option Value} {base : Heap}
abbrev s__law_polygons : Stmt := topS 98
theorem sc__law_polygons : FnScope ["_law_size", "_law_found", "_law_prime", "_law_first"] ["_law_size"] (defScope s__law_polygons) := ⟨rfl, rfl, rfl, by decide +kernel, rfl, by decide +kernel, by decide +kernel⟩
theorem ok__law_polygons {f : Addr} {fd : FuncData} (F : Fun K "_law_polygons" "_law_polygons" s__law_polygons f fd) (T : Txt K mg) (G__law_primes : Fn P w K mg base "_law_primes" 1 ["_law_size"] sp__law_primes) : FnOk P w K mg base CX0 2 f fd ["_law_size"] sp__law_polygons := by
  refine okL F sc__law_polygons (by rintro _ _ ⟨n, hn, rfl, rfl⟩; rfl) fun cdv A outer s H vs Q E ds es hr hR S kk => ?_
  obtain ⟨n, hn, rfl, rfl⟩ := hR
  have hu := hu_of hr
  refine ⟨_, (pss_cons (ps_set (i := 1) sc__law_polygons.nd rfl (Or.inl rfl) (pe_lst pa_nil))
    (pss_cons (ps_for PassesOwn.never rfl (k_pi_list K (pe_fn G__law_primes (hr.mono (by decide)) (by rfl) (pa_cons (pv 0) pa_nil))) (pg_name (i := 2) sc__law_polygons.nd rfl (Or.inr rfl)) 
      (pss_one (ps_set (i := 1) sc__law_polygons.nd rfl (Or.inl rfl) (pe_op op_cat (pv 1) (pe_lc (own := [("_law_first", 3)]) rfl sc__law_polygons.nd (pi_range1 (by rfl) T.range (pa_cons (pe_op op_fdiv (pv 0) (pv 2)) pa_nil)) (blkOk_by (by kernel_rfl)) (fun _ _ _ _ _ => (pg_name (i := 3) sc__law_polygons.nd rfl (Or.inl rfl))) (fun _ _ _ _ _ => pts_nil) (fun _ _ _ _ _ => (pe_tup (pa_cons (pv 2) (pa_cons (pv 3) pa_nil)))))))))
    (pss_one (ps_ret (pv 1))))), ?_⟩
  refine sq (st_setN S (el_lst ea_nil (by simp)) fun p0 vs0 σ1 H1 hp0 e1 h1 r1 S1 => ?_)
  refine sq (st_for (xs := primesL n) (enc := fun p => .int ((p : Nat) : Int)) ((wk_list (EvL.r (el_call (ea_cons (ev_var S1 rfl) ea_nil) ⟨n, hn, rfl, rfl⟩))).to (by rw [List.map_map]; rfl))
    (fun H2 i σ' H' => Same H H' ∧ Same H2 H' ∧ ∃ p vs, H p = none ∧ H' p = some (.lst vs) ∧ DtA H' vs (((((primesL n).take i).flatMap fun p => (List.range (n / p)).map fun f => (p, f))).map fun x => kD ((x.1 : Int), (x.2 : Int))) ∧ Sl K σ' H' [.dat (.int n), .ref p, .un, .un])
    (fun H2 e2 => ⟨e1.trans e2, Same.refl _, p0, vs0, hp0, e2 _ _ h1, r1.same e2, S1.same e2⟩) (fun H2 i σ' H' _ h => Same.kp h.2.1) ?_ ?_)
  · rintro H2 i p σ' H' v H3 e2 hx ⟨e3, s3, q, vs, hq, h3, r3, S3⟩ e4 rv
    have hi := (List.getElem?_eq_some_iff.mp hx).1
    have hp := mem_primes (List.mem_of_getElem? hx)
    have S4 := (S3.same e4).setD 2 rv
    have etk : (primesL n).take (i + 1) = (primesL n).take i ++ [p] := by rw [List.take_add_one, hx]; rfl
    have hlen : ∀ l : List Nat, (∀ p ∈ l, 2 ≤ p) → (l.flatMap fun p => (List.range (n / p)).map fun f => (p, f)).length ≤ l.length * 111 := by
      intro l
      induction l with
      | nil => intro _; simp
      | cons x l ih =>
        intro h
        rw [List.flatMap_cons, List.length_append, List.length_map, List.length_range, List.length_cons]
        have := ih fun p hp => h p (List.mem_cons_of_mem _ hp)
        have := Nat.div_le_self n x
        omega
    have hl1 := hlen ((primesL n).take i) fun p hp => (mem_primes (List.mem_of_mem_take hp)).1
    have hl2 : ((primesL n).take i).length ≤ 3 := by
      rw [List.length_take]
      have := (primes_small n (mem_drop1 hn.1 hn.2)).1
      omega
    have hdv := Nat.div_le_self n p
    obtain ⟨np, hnp⟩ : ∃ np, n / p = np := ⟨_, rfl⟩
    rw [hnp] at hdv
    refine st_setN S4 ((el_cat (EvX.n (ev_ref S4 rfl) (e4 _ _ h3) (r3.same e4)) (EvL.n (el_lc0 (xs := List.range np) (enc := fun f => .int ((f : Nat) : Int)) (f := fun f => kD ((p : Int), (f : Int))) S4 (wk_rng1 (n := (np : Int)) (ea_cons ((ev_div (ev_var S4 rfl) (ev_var S4 rfl) ⟨by omega, by omega⟩).to (by rw [← hnp]; norm_cast)) ea_nil) (by omega) (rng_d0 np (by omega))).same (fun x _ => tg_name) (by simp; omega) fun f hf σ5 H5 e5 S5 => ev_tup (ea_cons (ev_var S5 rfl) (ea_cons (ev_var S5 rfl) ea_nil)) (by simp))) (by simp only [List.length_map, List.length_range]; omega)).to (es := (((((primesL n).take (i + 1)).flatMap fun p => (List.range (n / p)).map fun f => (p, f))).map fun x => kD ((x.1 : Int), (x.2 : Int)))) (by rw [etk, List.flatMap_append, List.map_append, List.flatMap_cons, List.flatMap_nil, List.append_nil, List.map_map, hnp]; rfl)) fun p5 vs5 σ5 H5 hp5 e5 h5 r5 S5 => ⟨(e3.trans e4).trans e5, (s3.trans e4).trans e5, p5, vs5, fresh_back (e3.trans e4) hp5, h5, r5, S5.weak 2⟩
  · rintro H2 σ' H' e2 ⟨e3, _, q, vs, hq, h3, r3, S3⟩
    rw [List.take_length] at r3
    exact ⟨.ref q, S3.ref rfl, kk q vs H' hq e3 h3 r3⟩
end
end SB
namespace SB
open PySem PySem.Spec PyProof.Rows L2 RZ
open StX (tStar pa_star)
section
variable {P : Program} {w : World} {K : PySem.W.Frag} {mg : Str → Option Value} {base : Heap}
abbrev s_is_index : Stmt := topS 14
theorem sc_is_index : FnScope ["thing", "many"] ["thing", "many"] (defScope s_is_index) := ⟨rfl, rfl, rfl, by decide +kernel, rfl, by decide +kernel, by decide +kernel⟩
theorem ok_is_index {f : Addr} {fd : FuncData} (F : Fun K "is_index" "is_index" s_is_index f fd) (T : Txt K mg) (G_is_number : Fn P w K mg base "is_number" 2 ["thing"] sp_is_number) : FnOk P w K mg base CX0 3 f fd ["thing", "many"] sp_is_index := by
  refine okD F sc_is_index (by rintro _ _ ⟨i, m, rfl, rfl⟩; rfl) fun cdv A outer s H vs Q E ds d hr hR S kk => ?_
  obtain ⟨i, m, rfl, rfl⟩ := hR
  have hu := hu_of hr
  refine ⟨_, (pss_one (ps_ret (pe_and (pe_fn G_is_number (hr.mono (by decide)) (by rfl) (pa_cons (pv 0) pa_nil)) (pe_one (pe_cmpR op_lt (pv 0) (pv 1) (nomark _)))))), ?_⟩
  exact st_ret (ev_and (ev_call (ea_cons (ev_var S rfl) ea_nil) ⟨i, rfl, rfl⟩) fun _ => ev_lt (ev_var S rfl) (ev_var S rfl)) kk
end
end SB
namespace SB
open PySem PySem.Spec PyProof.Rows L2 RZ
open StX (tStar pa_star)
section
variable {P : Program} {w : World} {K : PySem.W.Frag} {mg : Str → Option Value} {base : Heap}
abbrev s_primes_in : Stmt := topS 22
theorem sc_primes_in : FnScope ["number", "part"] ["number"] (defScope s_primes_in) := ⟨rfl, rfl, rfl, by decide +kernel, rfl, by decide +kernel, by decide +kernel⟩
theorem ok_primes_in {f : Addr} {fd : FuncData} (F : Fun K "primes_in" "primes_in" s_primes_in f fd) (T : Txt K mg) (G_parts_in : Fn P w K mg base "parts_in" 2 ["number"] sp_parts_in) (G_least_divisor : Fn P w K mg base "least_divisor" 1 ["number"] sp_least_divisor) : FnOk P w K mg base CX0 3 f fd ["number"] sp_primes_in := by
  refine okD F sc_primes_in (by rintro _ _ ⟨n, hn, rfl, rfl⟩; rfl) fun cdv A outer s H vs Q E ds d hr hR S kk => ?_
  obtain ⟨n, hn, rfl, rfl⟩ := hR
  have hu := hu_of hr
  refine ⟨_, (pss_one (ps_ret (pe_callTy (k_call_tuple_of K) (by rfl) T.tuple (by decide +kernel) (pa_cons (pe_callB (k_cr_sortedI K) (by rfl) T.sorted (by decide +kernel) (pa_cons (pe_lc (own := [("part", 1)]) rfl sc_primes_in.nd (k_pi_tup K (pe_fn G_parts_in (hr.mono (by decide)) (by rfl) (pa_cons (pv 0) pa_nil))) (blkOk_by (by kernel_rfl)) (fun _ _ _ _ _ => (pg_name (i := 1) sc_primes_in.nd rfl (Or.inl rfl))) (fun _ _ _ _ _ => pts_nil) (fun _ _ _ _ _ => (pe_fn G_least_divisor (hr.mono (by decide)) (by rfl) (pa_cons (pv 1) pa_nil)))) pa_nil)) pa_nil)))), ?_⟩
  have hk := parts_ok n (mem_drop1 hn.1 hn.2)
  have hc := ev_call (E := E0) (R := fun ds d => ∃ n : Nat, (1 ≤ n ∧ n < 111) ∧ ds = [.int n] ∧ d = tI (zs (partsL n))) (ea_cons (ev_var S (k := 0) rfl) ea_nil) ⟨n, hn, rfl, rfl⟩
  refine st_ret (ev_tupleOf (EvL.r (el_sortedI (ns := zs ((partsL n).map lp)) (ms := zs (primesL n)) (EvL.r ((el_lc0 (xs := partsL n) (enc := fun k => .int k) (f := fun k => .int (lp k)) S ((wk_tup hc).same.to (by simp)) (fun x _ => tg_name) ?_ ?_).to (by simp))) ?_ ?_))) kk
  · exact Nat.le_trans (parts_len n hn) (by decide)
  · intro x hx σ' H' e' S'
    have hx2 := List.all_eq_true.mp hk.2 x hx
    simp only [Bool.and_eq_true, decide_eq_true_eq] at hx2
    exact ev_call (ea_cons (ev_var S' rfl) ea_nil) ⟨x, hx2, rfl, rfl⟩
  · rw [← hk.1]
    exact zs_perm (isort_perm _)
  · rw [← hk.1]
    exact zs_sorted (isort_sorted _)
end
end SB
namespace SB
open PySem PySem.Spec PyProof.Rows L2 RZ
open StX (tStar pa_star)
section
variable {P : Program} {w : World} {K : PySem.W.Frag} {mg : Str → Option Value} {base : Heap}
abbrev s_primes_at : Stmt := topS 27
theorem sc_primes_at : FnScope ["size", "one"] ["size"] (defScope s_primes_at) := ⟨rfl, rfl, rfl, by decide +kernel, rfl, by decide +kernel, by decide +kernel⟩
theorem ok_primes_at {f : Addr} {fd : FuncData} (F : Fun K "primes_at" "primes_at" s_primes_at f fd) (T : Txt K mg) (G_is_prime : Fn P w K mg base "is_prime" 2 ["thing"] sp_is_prime) : FnOk P w K mg base CX0 3 f fd ["size"] sp_primes_at := by
  refine okD F sc_primes_at (by rintro _ _ ⟨n, hn, rfl, rfl⟩; rfl) fun cdv A outer s H vs Q E ds d hr hR S kk => ?_
  obtain ⟨n, hn, rfl, rfl⟩ := hR
  have hu := hu_of hr
  refine ⟨_, (pss_one (ps_ret (pe_callTy (k_call_tuple_of K) (by rfl) T.tuple (by decide +kernel) (pa_cons (pe_lc (own := [("one", 1)]) rfl sc_primes_at.nd (pi_range2 (by rfl) T.range (pa_cons pe_int (pa_cons (pe_op op_add (pv 0) pe_int) pa_nil))) (blkOk_by (by kernel_rfl)) (fun _ _ _ _ _ => (pg_name (i := 1) sc_primes_at.nd rfl (Or.inl rfl))) (fun _ _ _ _ _ => (pts_one (PW.pt (pw_and (pt_cmpR op_eq (pe_op op_mod (pv 0) (pv 1)) pe_int (nomark _)) (pw_and1 (pt_val (pe_fn G_is_prime (hr.mono (by decide)) (by rfl) (pa_cons (pv 1) pa_nil)))))))) (fun _ _ _ _ _ => (pv 1))) pa_nil)))), ?_⟩
  refine st_ret ((ev_tupleOf (EvL.r (el_lc (xs := (List.range (n + 1)).drop 2) (enc := fun k => .int k) (p := fun k => n % k == 0 && lp k == k) (f := fun k => .int k) S ((wk_rng2 (ea_cons ev_int (ea_cons (ev_add (ev_var S rfl) ev_int) ea_nil)) (by omega) (rng_d2 n (by omega))).same) (fun x _ => tg_name) (by simp; omega) ?_ ?_))).to (by simp [primesL])) kk
  · intro x hx σ' H' e' S'
    have := of_drop2 hx
    exact et_and ((et_test (ev_eq (ev_mod (ev_var S' rfl) (ev_var S' rfl) (by omega)) ev_int)).to (mod_b n x)) fun _ => et_B (ev_call (ea_cons (ev_var S' rfl) ea_nil) ⟨x, by omega, rfl, rfl⟩)
  · intro x hx _ σ' H' e' S'
    exact ev_var S' rfl
end
end SB
namespace SB
open PySem PySem.Spec PyProof.Rows L2 RZ
open StX (tStar pa_star)
section
variable {P : Program} {w : World} {K : PySem.W.Frag} {mg : Str → Option Value} {base : Heap}
abbrev s_cyclotomic_in : Stmt := topS 44
theorem sc_cyclotomic_in : FnScope ["number", "found", "one", "late", "early"] ["number"] (defScope s_cyclotomic_in) := ⟨rfl, rfl, rfl, by decide +kernel, rfl, by decide +kernel, by decide +kernel⟩
theorem ok_cyclotomic_in {f : Addr} {fd : FuncData} (F : Fun K "cyclotomic_in" "cyclotomic_in" s_cyclotomic_in f fd) (T : Txt K mg) (G_divisors_in : Fn P w K mg base "divisors_in" 1 ["number"] sp_divisors_in) (G_around : Fn P w K mg base "around" 1 ["number"] sp_around) (G_poly_parted : Fn P w K mg base "poly_parted" 2 ["one", "divisor"] sp_poly_parted) : FnOk P w K mg base CX0 3 f fd ["number"] sp_cyclotomic_in := by
  refine okD F sc_cyclotomic_in (by rintro _ _ ⟨n, hn, rfl, rfl⟩; rfl) fun cdv A outer s H vs Q E ds d hr hR S kk => ?_
  obtain ⟨n, hn, rfl, rfl⟩ := hR
  have hu := hu_of hr
  refine ⟨_, (pss_cons (ps_set (i := 1) sc_cyclotomic_in.nd rfl (Or.inl rfl) pe_dnewK)
    (pss_cons (ps_for PassesOwn.never rfl (k_pi_tup K (pe_fn G_divisors_in (hr.mono (by decide)) (by rfl) (pa_cons (pv 0) pa_nil))) (pg_name (i := 2) sc_cyclotomic_in.nd rfl (Or.inl rfl)) 
      (pss_cons (ps_set (i := 3) sc_cyclotomic_in.nd rfl (Or.inl rfl) (pe_fn G_around (hr.mono (by decide)) (by rfl) (pa_cons (pv 2) pa_nil)))
      (pss_cons (ps_lock (ps_for PassesOwn.never rfl (pi_keys (pv 1)) (pg_name (i := 4) sc_cyclotomic_in.nd rfl (Or.inl rfl)) 
        (pss_one (ps_if (pt_cmpR op_eq (pe_op op_mod (pv 2) (pv 4)) pe_int (nomark _)) 
          (pss_one (ps_set (i := 3) sc_cyclotomic_in.nd rfl (Or.inl rfl) (pe_ix (k_ix_tup K) (pe_fn G_poly_parted (hr.mono (by decide)) (by rfl) (pa_cons (pv 3) (pa_cons (pe_dget hu (pv 1) (pv 4) (fun _ _ => rfl)) pa_nil))) pe_int (fun _ _ => rfl))))
          pss_nil))))
      (pss_one (ps_dput hu (pv 1) (pv 2) (pv 3) rfl)))))
    (pss_one (ps_ret (pe_dget hu (pv 1) (pv 0) (fun _ _ => rfl)))))), ?_⟩
  have hb := sub_lt n hn
  obtain ⟨hnd, hdl, hdn⟩ := divs_last n hn
  have hcyc : ∀ i, i < (divsL n).length → (divsL n).getD i 1 ∈ subSizes := fun i hi => by
    have h1 := List.all_eq_true.mp (divs_take n hn) i (List.mem_range.mpr hi)
    simp only [Bool.and_eq_true, decide_eq_true_eq] at h1
    simpa using h1.1.2
  have hco : ∀ i, i < (divsL n).length → 1 ≤ (cyc ((divsL n).getD i 1)).length ∧ (cyc ((divsL n).getD i 1)).length ≤ 1000 ∧ ∀ x ∈ cyc ((divsL n).getD i 1), -(2 ^ 64) < x ∧ x < 2 ^ 64 := fun i hi => by
    have h1 := cyc_coef _ (hcyc i hi)
    unfold coefOk at h1
    simp only [Bool.and_eq_true, decide_eq_true_eq, List.all_eq_true] at h1
    refine ⟨h1.1.1, by omega, fun x hx => ?_⟩
    have := h1.2 x hx
    omega
  refine sq (st_newK S fun A σ1 H1 hA e1 h1 S1 => ?_)
  refine sq (st_for (xs := divsL n) (enc := fun e => .int ((e : Nat) : Int)) ((wk_tup (ev_call (ea_cons (ev_var S1 rfl) ea_nil) ⟨n, hb, rfl, rfl⟩)).to (by rw [List.map_map]; rfl))
    (fun H2 i σ' H' => Same H H' ∧ Sb A H2 H' ∧ Sl K σ' H' [.dat (.int n), .ref A, .un, .un, .un] ∧ ∃ kvs, H' A = some (.dK kvs) ∧ DkF H' kvs (((divsL n).take i).map fun e => (e, cyc e)))
    (fun H2 e2 => ⟨e1.trans e2, Sb.refl _, S1.same e2, [], e2 _ _ h1, .nil⟩) (fun H2 i σ' H' e h => h.2.1.tpo (e _ _ h1) (fun _ z => nomatch z) (fun _ _ z => nomatch z)) ?_ ?_)
  · rintro H2 i one σ' H' v H'' e2 hx ⟨e3, t3, S3, kvs, h3, F3⟩ e4 rv
    obtain ⟨hi, hone⟩ := List.getElem?_eq_some_iff.mp hx
    have hget : (divsL n).getD i 1 = one := by
      rw [List.getD_eq_getElem?_getD, hx]
      rfl
    have hsub := hcyc i hi
    rw [hget] at hsub
    have hlt := sub_lt one hsub
    have hat := cyc_at hn hi
    rw [hget] at hat
    have h4 := e4 _ _ h3
    have F4 := F3.same e4
    have S4 := (S3.same e4).setD 2 rv
    refine sq (st_set S4 (ev_call (ea_cons (ev_var S4 rfl) ea_nil) ⟨one, hlt, rfl, rfl⟩) fun σ5 H5 e5 S5 => ?_)
    have h5 := e5 _ _ h4
    have F5 := F4.same e5
    have hz : (((divsL n).take i).map fun e => (e, cyc e)).length = i := by
      rw [List.length_map, List.length_take]
      omega
    refine sq (st_lockG h5 True.intro fun od => ?_)
    have t6 : Tp H5 (upd H5 A (.frz od (.dK kvs))) := tups_dK' h5
    have S6 := S5.tups t6.tup
    have F6 := F5.tp t6.tup
    have h6 : upd H5 A (.frz od (.dK kvs)) A = some (.frz od (.dK kvs)) := upd_same
    refine st_for (xs := ((divsL n).take i).map fun e => (e, cyc e)) (enc := fun e => .int ((e.1 : Nat) : Int)) (wk_keysK (ev_ref S6 rfl) h6 F6)
      (fun H7 j σ' H' => Same H7 H' ∧ Sl K σ' H' [.dat (.int n), .ref A, .dat (.int one), .dat (tI (cycLate one ((((divsL n).take i).map fun e => (e, cyc e)).take j))), .un])
      (fun H7 e7 => ⟨Same.refl _, S6.same e7⟩) (fun H7 j σ' H' _ h => Same.tp h.1) ?_ ?_
    · rintro H7 j e σ7 H8 v8 H9 e7 hj ⟨e8, S8⟩ e9 r9
      have hj' : j < i := by
        have := (List.getElem?_eq_some_iff.mp hj).1
        omega
      have he : e = ((divsL n).getD j 1, cyc ((divsL n).getD j 1)) := by
        have hjl : j < (divsL n).length := by omega
        rw [List.getElem?_map, List.getElem?_take_of_lt hj', List.getElem?_eq_getElem hjl] at hj
        rw [List.getD_eq_getElem?_getD, List.getElem?_eq_getElem hjl]
        exact (Option.some.inj hj).symm
      have S9 := (S8.same e9).setD 4 r9
      have e59 := (e7.trans e8).trans e9
      have h9 := e59 _ _ h6
      have F9 := F6.same e59
      have hlook : (((divsL n).take i).map fun e => (e, cyc e)).lookup e.1 = some e.2 := by
        rw [he]
        refine lookup_fun (f := cyc) ?_
        have hjl : j < (divsL n).length := by omega
        rw [List.getD_eq_getElem?_getD, List.getElem?_eq_getElem hjl]
        exact List.mem_of_getElem? (i := j) (by rw [List.getElem?_take_of_lt hj', List.getElem?_eq_getElem hjl]; rfl)
      obtain ⟨w, hw, rw'⟩ := F9.val hlook
      have hsnoc := cycLate_snoc one ((((divsL n).take i).map fun e => (e, cyc e)).take j) e
      have ht : (((divsL n).take i).map fun e => (e, cyc e)).take (j + 1) = (((divsL n).take i).map fun e => (e, cyc e)).take j ++ [e] := by
        rw [List.take_add_one, hj]
        rfl
      have he1 : 0 < ((e.1 : Nat) : Int) := by
        rw [he]
        have := sub_lt _ (hcyc j (by omega))
        show (0 : Int) < (((divsL n).getD j 1 : Nat) : Int)
        omega
      have hc : decide (((one : Nat) : Int) % ((e.1 : Nat) : Int) = 0) = (one % e.1 == 0) := mod_b one e.1
      refine st_if (et_test (ev_eq (ev_mod (ev_var S9 rfl) (ev_var S9 rfl) he1) ev_int)) (fun ht1 H10 e10 => ?_) (fun hf1 H10 e10 => ?_)
      · rw [hc] at ht1
        have hcj := hco j (by omega)
        have S10 := S9.same e10
        refine st_set S10 (ev_ixT (k := 0) (ev_call (ea_cons (ev_var S10 rfl) (ea_cons (ev_dgetK (ev_ref S10 rfl) (.inr ⟨od, e10 _ _ h9⟩) (ev_var S10 rfl) kk_int hw (rw'.same e10)) ea_nil)) ⟨_, _, ⟨Nat.le_trans (cycLate_len one hlt.1 _) (by omega), ?_, ?_, ?_⟩, rfl, rfl⟩) ev_int rfl rfl) fun σ11 H11 e11 S11 => ⟨((e8.trans e9).trans e10).trans e11, ?_⟩
        · rw [he]; exact hcj.2.1
        · rw [he]; exact hcj.1
        · rw [he]; exact hcj.2.2
        · rw [ht, hsnoc, if_pos ht1]
          exact S11.weak 4
      · rw [hc] at hf1
        refine ⟨(e8.trans e9).trans e10, ?_⟩
        rw [ht, hsnoc, hf1, if_neg Bool.false_ne_true]
        exact (S9.same e10).weak 4
    · rintro H7 σ7 H8 e7 ⟨e8, S8⟩
      have e58 := e7.trans e8
      refine ⟨e58 _ _ h6, ?_⟩
      have h8 := e58 _ _ h6
      rw [List.take_length, hat] at S8
      have tu : ∀ b xs, H8 b = some (.tup xs) → upd H8 A (.dK kvs) b = some (.tup xs) := tups_upd h8 fun _ z => nomatch z
      have Su := S8.tups tu
      have Fu := (F6.same e58).tp tu
      have b8 : Sb A H2 (upd H8 A (.dK kvs)) := ((((t3.trans (Same.sb e4)).trans (Same.sb e5)).trans Sb.put).trans (Same.sb e58)).trans Sb.put
      have a8 : Same H (upd H8 A (.dK kvs)) := ((e3.trans e4).trans e5).trans (same_unlock h5 e58)
      have hu8 : upd H8 A (.dK kvs) A = some (.dK kvs) := upd_same
      refine st_dputK (ev_var Su rfl) (ev_ref Su rfl) (ev_var Su rfl) kk_int hu8 (by rw [Fu.len, hz]; omega) fun v H9 e9 r9 => ?_
      have h9 := e9 _ _ hu8
      have hnew : valV kvs (Sum.inl ((one : Nat) : Int)) = none := Fu.new fun e he => by
        obtain ⟨x, hx2, rfl⟩ := List.mem_map.mp he
        intro z
        have z : x = one := z
        subst z
        obtain ⟨j, hj, hjx⟩ := List.mem_iff_getElem.mp hx2
        rw [List.length_take] at hj
        rw [List.getElem_take] at hjx
        have := (List.getElem_inj hnd).mp (hjx.trans hone.symm)
        omega
      have t9 : ∀ b xs, H9 b = some (.tup xs) → upd H9 A (.dK (putK kvs (Sum.inl ((one : Nat) : Int)) v)) b = some (.tup xs) := tups_dK h9
      refine ⟨Same.mut (a8.trans e9) hA, (b8.trans (Same.sb e9)).trans Sb.put, (((Su.same e9).tups t9).weak 2).weak 3, _, upd_same, ?_⟩
      rw [putK_new v hnew]
      have hn2 : (divsL n).take (i + 1) = (divsL n).take i ++ [one] := by rw [List.take_add_one, hx]; rfl
      rw [hn2, List.map_append]
      exact ((Fu.same e9).snoc r9).tp (by rw [← putK_new v hnew]; exact t9)
  · rintro H2 σ' H' e2 ⟨e3, t3, S3, kvs, h3, F3⟩
    rw [List.take_length] at F3
    obtain ⟨w, hw, rw'⟩ := F3.val (lookup_fun (f := cyc) hdn)
    exact st_ret (ev_dgetK (ev_ref S3 rfl) (.inl h3) (ev_var S3 rfl) kk_int hw rw') fun v H4 e4 r4 => kk v H4 (e3.trans e4) r4
end
end SB
namespace SB
open PySem PySem.Spec PyProof.Rows L2 RZ
open StX (tStar pa_star)
section
variable {P : Program} {w : World} {K : PySem.W.Frag} {mg : Str → Option Value} {base : Heap}
abbrev s_folded : Stmt := topS 66
theorem sc_folded : FnScope ["voice", "size"] ["voice", "size"] (defScope s_folded) := ⟨rfl, rfl, rfl, by decide +kernel, rfl, by decide +kernel, by decide +kernel⟩
theorem ok_folded {f : Addr} {fd : FuncData} (F : Fun K "folded" "folded" s_folded f fd) (T : Txt K mg) (G_want : FnW P w K mg base "want" 1 ["holds", "word", "at"] sp_want) (G_is_size : Fn P w K mg base "is_size" 2 ["thing"] sp_is_size) (G_fold_to : Fn P w K mg base "fold_to" 1 ["voice", "size"] sp_fold_to) : FnOk P w K mg base CX0 3 f fd ["voice", "size"] sp_folded := by
  refine okD F sc_folded (by rintro _ _ ⟨v, k, q, hn, rfl, rfl⟩; rfl) fun cdv A outer s H vs Q E ds d hr hR S kk => ?_
  obtain ⟨v, k, q, hn, rfl, rfl⟩ := hR
  have hu := hu_of hr
  refine ⟨_, (pss_cons (ps_expr (pe_fnW G_want (hr.mono (by decide)) (by rfl) (pa_cons (pe_and (pe_fn G_is_size (hr.mono (by decide)) (by rfl) (pa_cons (pv 1) pa_nil)) (pe_one (pe_cmpR op_eq (pe_op op_mod (pe_callB (k_call_len_seq K) (by rfl) T.len PySem.boot_len (pa_cons (pv 0) pa_nil)) (pv 1)) pe_int (nomark _)))) (pa_cons pe_str pa_nil))))
    (pss_one (ps_ret (pe_fn G_fold_to (hr.mono (by decide)) (by rfl) (pa_cons (pv 0) (pa_cons (pv 1) pa_nil)))))), ?_⟩
  refine sq (st_drop (ev_call (ea_cons (ev_and (b := true) (c := true) ((ev_call (ea_cons (ev_var S rfl) ea_nil) ⟨(k : Int), rfl, rfl⟩).to (by rw [decide_eq_true (by omega : (1 : Int) ≤ (k : Int))])) fun _ => (ev_eq (ev_mod (ev_lenT (ev_var S rfl)) (ev_var S rfl) (by omega)) ev_int).to ?_) (ea_cons ev_str ea_nil)) ⟨_, rfl, rfl⟩) fun H1 e1 => ?_)
  · rw [List.length_map, hn.2.2.1, decide_eq_true]
    have : ((q * k : Nat) : Int) = (q : Int) * (k : Int) := by push_cast; rfl
    rw [this]
    exact Int.mul_emod_left _ _
  · exact st_ret (ev_call (ea_cons (ev_var (S.same e1) rfl) (ea_cons (ev_var (S.same e1) rfl) ea_nil)) ⟨v, k, q, hn, rfl, rfl⟩) fun w H2 e2 r2 => kk w H2 (e1.trans e2) r2
end
end SB
namespace SB
open PySem PySem.Spec PyProof.Rows L2 RZ
open StX (tStar pa_star)
section
variable {P : Program} {w : World} {K : PySem.W.Frag} {mg : Str → Option Value} {base : Heap}
abbrev s_want_size : Stmt := topS 64
theorem sc_want_size : FnScope ["thing"] ["thing"] (defScope s_want_size) := ⟨rfl, rfl, rfl, by decide +kernel, rfl, by decide +kernel, by decide +kernel⟩
theorem ok_want_size {f : Addr} {fd : FuncData} (F : Fun K "want_size" "want_size" s_want_size f fd) (T : Txt K mg) (G_want : FnW P w K mg base "want" 1 ["holds", "word", "at"] sp_want) (G_is_size : Fn P w K mg base "is_size" 2 ["thing"] sp_is_size) : FnOk P w K mg base CX0 3 f fd ["thing"] sp_want_size := by
  refine okD F sc_want_size (by rintro _ _ ⟨i, hn, rfl, rfl⟩; rfl) fun cdv A outer s H vs Q E ds d hr hR S kk => ?_
  obtain ⟨i, hn, rfl, rfl⟩ := hR
  have hu := hu_of hr
  refine ⟨_, (pss_one (ps_expr (pe_fnW G_want (hr.mono (by decide)) (by rfl) (pa_cons (pe_fn G_is_size (hr.mono (by decide)) (by rfl) (pa_cons (pv 0) pa_nil)) (pa_cons pe_str pa_nil))))), ?_⟩
  refine st_drop (ev_call (ea_cons ((ev_call (ea_cons (ev_var S rfl) ea_nil) ⟨i, rfl, rfl⟩).to (by rw [decide_eq_true hn])) (ea_cons ev_str ea_nil)) ⟨_, rfl, rfl⟩) fun H1 e1 => kk _ H1 e1 .non
end
end SB
namespace SB
open PySem PySem.Spec PyProof.Rows L2 RZ
open StX (tStar pa_star)
section
variable {P : Program} {w : World} {K : PySem.W.Frag} {mg : Str → Option Value} {base : Heap}
abbrev s_want_divisor : Stmt := topS 84
theorem sc_want_divisor : FnScope ["voice", "divisor"] ["voice", "divisor"] (defScope s_want_divisor) := ⟨rfl, rfl, rfl, by decide +kernel, rfl, by decide +kernel, by decide +kernel⟩
theorem ok_want_divisor {f : Addr} {fd : FuncData} (F : Fun K "want_divisor" "want_divisor" s_want_divisor f fd) (T : Txt K mg) (G_want : FnW P w K mg base "want" 1 ["holds", "word", "at"] sp_want) (G_is_size : Fn P w K mg base "is_size" 2 ["thing"] sp_is_size) : FnOk P w K mg base CX0 3 f fd ["voice", "divisor"] sp_want_divisor := by
  refine okD F sc_want_divisor (by rintro _ _ ⟨v, k, hn, rfl, rfl⟩; rfl) fun cdv A outer s H vs Q E ds d hr hR S kk => ?_
  obtain ⟨v, k, hn, rfl, rfl⟩ := hR
  have hu := hu_of hr
  refine ⟨_, (pss_one (ps_expr (pe_fnW G_want (hr.mono (by decide)) (by rfl) (pa_cons (pe_and (pe_fn G_is_size (hr.mono (by decide)) (by rfl) (pa_cons (pv 1) pa_nil)) (pe_one (pe_cmpR op_eq (pe_op op_mod (pe_callB (k_call_len_seq K) (by rfl) T.len PySem.boot_len (pa_cons (pv 0) pa_nil)) (pv 1)) pe_int (nomark _)))) (pa_cons pe_str pa_nil))))), ?_⟩
  refine st_drop (ev_call (ea_cons (ev_and (b := true) (c := true) ((ev_call (ea_cons (ev_var S rfl) ea_nil) ⟨(k : Int), rfl, rfl⟩).to (by rw [decide_eq_true (by omega : (1 : Int) ≤ (k : Int))])) fun _ => (ev_eq (ev_mod (ev_lenT (ev_var S rfl)) (ev_var S rfl) (by omega)) ev_int).to ?_) (ea_cons ev_str ea_nil)) ⟨_, rfl, rfl⟩) fun H1 e1 => kk _ H1 e1 .non
  rw [List.length_map, mod_b, hn.2]
  rfl
end
end SB
namespace SB
open PySem PySem.Spec PyProof.Rows L2 RZ
open StX (tStar pa_star)
section
variable {P : Program} {w : World} {K : PySem.W.Frag} {mg : Str → Option Value} {base : Heap}
abbrev s__law_rest : Stmt := topS 96
theorem sc__law_rest : FnScope ["_law_voice_here", "_law_rest_here", "_law_top_here", "_law_k", "_law_much", "_law_j", "_law_spot"] ["_law_voice_here"] (defScope s__law_rest) := ⟨rfl, rfl, rfl, by decide +kernel, rfl, by decide +kernel, by decide +kernel⟩
theorem ok__law_rest {f : Addr} {fd : FuncData} (F : Fun K "_law_rest" "_law_rest" s__law_rest f fd) (T : Txt K mg) (G__law_top : Fn P w K mg base "_law_top" 2 ["_law_size"] sp__law_top) : FnOk P w K mg base CX0 3 f fd ["_law_voice_here"] sp__law_rest := by
  refine okD F sc__law_rest (by rintro _ _ ⟨v, hn, rfl, rfl⟩; rfl) fun cdv A outer s H vs Q E ds d hr hR S kk => ?_
  obtain ⟨v, hn, rfl, rfl⟩ := hR
  have hu := hu_of hr
  refine ⟨_, (pss_cons (ps_par (i := 1) (j := 2) rfl sc__law_rest.nd rfl rfl (by decide) rfl rfl (pa_cons (pe_callTy (k_call_list_of K) (by rfl) T.list (by decide +kernel) (pa_cons (pv 0) pa_nil)) (pa_cons (pe_fn G__law_top (hr.mono (by decide)) (by rfl) (pa_cons (pe_callB (k_call_len_seq K) (by rfl) T.len PySem.boot_len (pa_cons (pv 0) pa_nil)) pa_nil)) pa_nil)) (by rfl))
    (pss_cons (ps_for PassesOwn.never rfl (pi_range3 (by rfl) T.range (pa_cons (pe_op op_sub (pe_callB (k_call_len_seq K) (by rfl) T.len PySem.boot_len (pa_cons (pv 1) pa_nil)) pe_int) (pa_cons (pe_op op_sub (pe_callB (k_call_len_seq K) (by rfl) T.len PySem.boot_len (pa_cons (pv 2) pa_nil)) pe_int) (pa_cons (pe_un un_neg pe_int) pa_nil)))) (pg_name (i := 3) sc__law_rest.nd rfl (Or.inl rfl)) 
      (pss_cons (ps_set (i := 4) sc__law_rest.nd rfl (Or.inl rfl) (pe_ix (k_ix_list K) (pv 1) (pv 3) (fun _ _ => rfl)))
      (pss_one (ps_if (pt_cmpR op_ne (pv 4) pe_int (nomark _)) 
        (pss_one (ps_for PassesOwn.never rfl (pi_range1 (by rfl) T.range (pa_cons (pe_callB (k_call_len_seq K) (by rfl) T.len PySem.boot_len (pa_cons (pv 2) pa_nil)) pa_nil)) (pg_name (i := 5) sc__law_rest.nd rfl (Or.inl rfl)) 
          (pss_cons (ps_set (i := 6) sc__law_rest.nd rfl (Or.inl rfl) (pe_op op_add (pe_op op_add (pe_op op_sub (pv 3) (pe_callB (k_call_len_seq K) (by rfl) T.len PySem.boot_len (pa_cons (pv 2) pa_nil))) pe_int) (pv 5)))
          (pss_one (ps_asg (pe_op op_sub (pe_ix (k_ix_list K) (pv 1) (pv 6) (fun _ _ => rfl)) (pe_op op_mul (pv 4) (pe_ix (k_ix_list K) (pv 2) (pv 5) (fun _ _ => rfl)))) (pg_sub (pv 1) (pv 6) set_list))))))
        pss_nil))))
    (pss_one (ps_ret (pe_callTy (k_call_tuple_of K) (by rfl) T.tuple (by decide +kernel) (pa_cons (pe_slice (k_sl_list K) (pv 1) po_none (po_some (pe_op op_sub (pe_callB (k_call_len_seq K) (by rfl) T.len PySem.boot_len (pa_cons (pv 2) pa_nil)) pe_int))) pa_nil)))))), ?_⟩
  have hb := size_lt _ hn
  have hco := cyc_fit (size_sub hn)
  obtain ⟨n, en⟩ : ∃ n, v.length = n := ⟨_, rfl⟩
  have htop := top_cyc _ hn
  rw [en] at hco htop
  obtain ⟨dv, edv⟩ : ∃ dv, cyc n = dv := ⟨_, rfl⟩
  rw [edv] at hco htop
  obtain ⟨N, hN⟩ : ∃ N, n + 1 - dv.length = N := ⟨_, rfl⟩
  refine sq (st_parLL S (el_listT (ev_var S rfl)) ((el_call (ea_cons ((ev_lenT (ev_var S rfl)).to (by rw [List.length_map])) ea_nil) ⟨v.length, hn, rfl, rfl⟩).to (es := dv.map .int) (by rw [en, htop])) fun pr vs1 pt vs2 σ2 H2 hpr hpt hne e2 h1 r1 h2 r2 S2 => ?_)
  have hv1 : vs1 = v.map V.int := DtA.ints r1
  have hv2 : vs2 = dv.map V.int := DtA.ints r2
  subst hv1 hv2
  dsimp only
  refine sq (st_for (xs := List.range N) (enc := fun i => .int ((n - 1 - i : Nat) : Int))
    ((wk_downTo (n := n) (m := dv.length) (ea_cons ((ev_sub (ev_lenL (EvX.r (ev_ref S2 rfl) (RdL.ofI (SqL.of h1)))) ev_int).to (by rw [List.length_map, en])) (ea_cons ((ev_sub (ev_lenL (EvX.r (ev_ref S2 rfl) (RdL.ofI (SqL.of h2)))) ev_int).to (by rw [List.length_map]; congr 1; omega)) (ea_cons (ev_neg (ev_int (i := 1))) ea_nil))) (by omega) (by omega) (by omega)).to (by rw [hN]))
    (fun H3 i σ' H' => Same H H' ∧ Tp H3 H' ∧ ∃ g r : List Int, r.length = n ∧ divL dv (dv.length - 1) (N - i) g r = divL dv (dv.length - 1) N (v.map fun _ => 0) v ∧ H' pr = some (.lst (r.map V.int)) ∧ H' pt = some (.lst (dv.map V.int)) ∧ Sl K σ' H' [.dat (tI v), .ref pr, .ref pt, .un, .un, .un, .un])
    (fun H3 e3 => ⟨e2.trans e3, Tp.refl _, v.map fun _ => 0, v, en, rfl, e3 _ _ h1, e3 _ _ h2, S2.same e3⟩) (fun H1 i σ' H' _ h => h.2.1) ?_ ?_)
  · rintro H3 i i' σ' H' v3 H'' e3 hx ⟨e4, t4, g, r, hrl, hdiv, h5, h6, S5⟩ e5 rv
    obtain ⟨hi, hi'⟩ : i < N ∧ i' = i := by
      have := List.getElem?_eq_some_iff.mp hx
      simp at this
      exact ⟨this.1, this.2.symm⟩
    rw [hi'] at rv
    obtain ⟨k, hk⟩ : ∃ k, N - 1 - i = k := ⟨_, rfl⟩
    have hK : N - i = k + 1 := by omega
    have hkn : n - 1 - i = k + (dv.length - 1) := by omega
    have hkl : k + dv.length ≤ n := by omega
    rw [hkn] at rv
    rw [hK] at hdiv
    have S6 := (S5.same e5).setD 3 rv
    have h5' := e5 _ _ h5
    have h6' := e5 _ _ h6
    obtain ⟨q, hq⟩ : ∃ q, r.getD (k + (dv.length - 1)) 0 = q := ⟨_, rfl⟩
    have hstep : divL dv (dv.length - 1) k (g.set k q) (subAt k q dv r) = divL dv (dv.length - 1) N (v.map fun _ => 0) v := by
      rw [← hdiv, ← hq]
      rfl
    refine sq (st_set (d := .int q) S6 (ev_ixL (k := k + (dv.length - 1)) (EvX.r (ev_ref S6 rfl) (RdL.ofI (SqL.of h5'))) (ev_var S6 rfl) (ixN_nat (by simp; omega)) (by rw [List.getElem?_map, getD_of (by omega), hq]; rfl)) fun σ7 H7 e7 S7 => ?_)
    have b7 := (e4.trans e5).trans e7
    have t7 := (t4.trans (Same.tp e5)).trans (Same.tp e7)
    refine st_if (et_test (ev_ne (ev_var S7 rfl) ev_int)) (fun hq1 H8 e8 => ?_) fun hq0 H8 e8 => ?_
    · have S8 := S7.same e8
      have h58 := (e7.trans e8) _ _ h5'
      have h68 := (e7.trans e8) _ _ h6'
      have b8 := b7.trans e8
      have t8 := t7.trans (Same.tp e8)
      refine st_for (xs := List.range dv.length) (enc := fun j => .int ((j : Nat) : Int)) (wk_rng1 (n := (dv.length : Int)) (ea_cons ((ev_lenL (EvX.r (ev_ref S8 rfl) (RdL.ofI (SqL.of h68)))).to (by rw [List.length_map])) ea_nil) (by omega) (rng_d0 dv.length (by omega)))
        (fun H9 j σ' H' => Same H H' ∧ Tp H3 H' ∧ Tp H9 H' ∧ H' pr = some (.lst ((subAt k q (dv.take j) r).map V.int)) ∧ H' pt = some (.lst (dv.map V.int)) ∧ Sl K σ' H' [.dat (tI v), .ref pr, .ref pt, .dat (.int ((k + (dv.length - 1) : Nat) : Int)), .dat (.int q), .un, .un])
        (fun H9 e9 => ⟨b8.trans e9, t8.trans (Same.tp e9), Tp.refl _, by rw [List.take_zero, subAt_zero]; exact e9 _ _ h58, e9 _ _ h68, S8.same e9⟩) (fun H1 i σ' H' _ h => h.2.2.1) ?_ ?_
      · rintro H9 j j' σ9 H10 v' H11 e9 hxj ⟨e10, t10, t11, h10, h11, S10⟩ e11 rv'
        obtain ⟨hj, hj'⟩ : j < dv.length ∧ j' = j := by
          have := List.getElem?_eq_some_iff.mp hxj
          simp at this
          exact ⟨this.1, this.2.symm⟩
        rw [hj'] at rv'
        have S12 := (S10.same e11).setD 5 rv'
        have h10' := e11 _ _ h10
        have h11' := e11 _ _ h11
        have hnum := hco.2.2 (dv.getD j 0) (List.mem_of_getElem? (getD_of hj))
        have hsl : (subAt k q (dv.take j) r).length = n := by rw [subAt_len, hrl]
        refine sq (st_set (d := .int ((k + j : Nat) : Int)) S12 ((ev_add (ev_add (ev_sub (ev_var S12 rfl) (ev_lenL (EvX.r (ev_ref S12 rfl) (RdL.ofI (SqL.of h11'))))) ev_int) (ev_var S12 rfl)).to (by rw [List.length_map]; congr 1; omega)) fun σ13 H13 e13 S13 => ?_)
        have h10s := e13 _ _ h10'
        have h11s := e13 _ _ h11'
        refine st_setIx (j := k + j) (ev_sub (ev_ixL (k := k + j) (EvX.r (ev_ref S13 rfl) (RdL.ofI (SqL.of h10s))) (ev_var S13 rfl) (ixN_nat (by simp; omega)) (d := .int ((subAt k q (dv.take j) r).getD (k + j) 0)) ?_)
          (ev_mul (ev_var S13 rfl) (ev_ixL (k := j) (EvX.r (ev_ref S13 rfl) (RdL.ofI (SqL.of h11s))) (ev_var S13 rfl) (ixN_nat (by simp; omega)) (d := .int (dv.getD j 0)) (by rw [List.getElem?_map, getD_of hj]; rfl)) (.inr hnum))) (ev_ref S13 rfl) (ev_var S13 rfl) h10s (ixN_nat (by simp; omega)) fun w H14 e14 r14 => ?_
        · rw [List.getElem?_map, getD_of (by omega)]
          rfl
        · rw [r14.int']
          have h14 := e14 _ _ h10s
          have f14 : Tp H14 (upd H14 pr (.lst (((subAt k q (dv.take j) r).map V.int).set (k + j) (.int ((subAt k q (dv.take j) r).getD (k + j) 0 - q * dv.getD j 0))))) := ⟨tups_lst h14, fun b o u z2 => by
            rw [upd_ne]
            · exact z2
            · intro z
              rw [z, h14] at z2
              cases z2⟩
          refine ⟨Same.mut (((e10.trans e11).trans e13).trans e14) hpr, (((t10.trans (Same.tp e11)).trans (Same.tp e13)).trans (Same.tp e14)).trans f14, (((t11.trans (Same.tp e11)).trans (Same.tp e13)).trans (Same.tp e14)).trans f14, ?_, ?_, (((S13.same e14).tups f14.tup).weak 5).weak 6⟩
          · rw [upd_same, ← subAt_step hj (by omega), List.map_set]
          · rw [upd_ne hne.symm]
            exact (e13.trans e14) _ _ h11'
      · rintro H9 σ9 H10 e9 ⟨e10, t10, _, h10, h11, S10⟩
        rw [List.length_range, List.take_length] at h10
        refine ⟨e10, t10, g.set k q, subAt k q dv r, by rw [subAt_len, hrl], ?_, h10, h11, (S10.weak 3).weak 4⟩
        have : N - (i + 1) = k := by omega
        rw [this, hstep]
    · have hq0 : q = 0 := by simpa using hq0
      refine ⟨b7.trans e8, t7.trans (Same.tp e8), g.set k q, r, hrl, ?_, (e7.trans e8) _ _ h5', (e7.trans e8) _ _ h6', ((S7.same e8).weak 3).weak 4⟩
      have : N - (i + 1) = k := by omega
      rw [this, ← hstep, hq0]
      congr 1
      apply ext_getD (by rw [subAt_len])
      intro x _
      rw [subAt_get]
      split
      · simp
      · rfl
  · rintro H3 σ' H' e3 ⟨e4, _, g, r, hrl, hdiv, h5, h6, S5⟩
    rw [List.length_range, Nat.sub_self] at hdiv
    have hm : ((dv.length : Int) - 1) = ((dv.length - 1 : Nat) : Int) := by omega
    by_cases hlen : dv.length - 1 ≤ n
    · refine st_ret ((ev_tupleOf (EvL.r ((el_slL (lo := none) (hi := some ((dv.length - 1 : Nat) : Int)) (EvX.r (ev_ref S5 rfl) (RdL.ofI (SqL.of h5))) eo_none (eo_some ((ev_sub (ev_lenL (EvX.r (ev_ref S5 rfl) (RdL.ofI (SqL.of h6)))) ev_int).to (by rw [List.length_map, hm])))).to (by rw [cut_map])))).to ?_) fun w H4 e6 r6 => kk w H4 (e4.trans e6) r6
      rw [cut_take _ _ (by rw [hrl]; exact hlen)]
      unfold lrest
      rw [en, edv, hN, ← hdiv]
      rfl
    · have h1 := (cyc_monic _ (size_sub hn)).1
      have h2 := phi_le v.length
      rw [en, edv] at h1
      rw [en] at h2
      omega
end
end SB
namespace SB
open PySem PySem.Spec PyProof.Rows L2 RZ
open StX (tStar pa_star)
section
variable {P : Program} {w : World} {K : PySem.W.Frag} {mg : Str → Option Value} {base : Heap}
theorem asc_at : ∀ {ks : List (Int × Int)} {k : Nat} {a b : Int × Int}, ascB ks = true → ks[k]? = some a → ks[k + 1]? = some b → ltK a b = true
  | [], _, _, _, _, h, _ => by simp at h
  | [_], _, _, _, _, _, h => by simp at h
  | x :: y :: ks, 0, a, b, h, h1, h2 => by
    simp at h1 h2
    subst h1 h2
    unfold ascB at h
    simp only [List.tail_cons, List.zipWith_cons_cons, List.all_cons, Bool.and_eq_true] at h
    exact h.1
  | x :: y :: ks, k + 1, a, b, h, h1, h2 => by
    refine asc_at (ks := y :: ks) (k := k) ?_ (by simpa using h1) (by simpa using h2)
    unfold ascB at h ⊢
    simp only [List.tail_cons, List.zipWith_cons_cons, List.all_cons, Bool.and_eq_true] at h
    exact h.2
theorem le_no {a b p q : Int} (h : ltK (p, q) (a, b) = true) : lexLe [a, b] [p, q] = false := by
  have h := ltK_iff.mp h
  unfold lexLe
  show Ob.lexAt _ _ _ 0 2 = false
  rw [Ob.lexAt_succ, Ob.lexAt_succ, Ob.lexAt_zero]
  show (if decide (a = p) = true then (if decide (b = q) = true then decide (2 ≤ 2) else decide (b ≤ q)) else decide (a ≤ p)) = false
  simp only at h
  by_cases e : a = p
  · rw [if_pos (decide_eq_true e)]
    by_cases f : b = q
    · omega
    · rw [if_neg (by simpa using f)]
      exact decide_eq_false (by omega)
  · rw [if_neg (by simpa using e)]
    exact decide_eq_false (by omega)
abbrev s__law_row_fault : Stmt := topS 102
theorem sc__law_row_fault : FnScope ["_law_size", "_law_value", "_law_least", "_law_k", "_law_row", "_law_many"] ["_law_size", "_law_value", "_law_least"] (defScope s__law_row_fault) := ⟨rfl, rfl, rfl, by decide +kernel, rfl, by decide +kernel, by decide +kernel⟩
theorem ok__law_row_fault {f : Addr} {fd : FuncData} (F : Fun K "_law_row_fault" "_law_row_fault" s__law_row_fault f fd) (T : Txt K mg) (G__law_is_pair : Fn P w K mg base "_law_is_pair" 2 ["_law_size", "_law_value"] sp__law_is_pair) : FnOk P w K mg base CX0 3 f fd ["_law_size", "_law_value", "_law_least"] sp__law_row_fault := by
  refine okD F sc__law_row_fault (by rintro _ _ ⟨n, rows, hn, rfl, rfl⟩; rfl) fun cdv A outer s H vs Q E ds d hr hR S kk => ?_
  obtain ⟨n, rows, hn, rfl, rfl⟩ := hR
  have hu := hu_of hr
  refine ⟨_, (pss_cons (ps_for PassesOwn.never rfl (pi_range1 (by rfl) T.range (pa_cons (pe_callB (k_call_len_seq K) (by rfl) T.len PySem.boot_len (pa_cons (pv 1) pa_nil)) pa_nil)) (pg_name (i := 3) sc__law_row_fault.nd rfl (Or.inl rfl)) 
      (pss_cons (ps_set (i := 4) sc__law_row_fault.nd rfl (Or.inl rfl) (pe_ix (k_ix_tup K) (pv 1) (pv 3) (fun _ _ => rfl)))
      (pss_cons (ps_if (PW.pt (pw_or (pt_not (pt_val (pe_callB (k_call_isi K) (by rfl) T.isinstance (by decide +kernel) (pa_cons (pv 4) (pa_cons (pe_bltn (v := .ty "tuple") (u := .type "tuple") (by rfl) T.tuple (by decide +kernel) rfl) pa_nil))))) (pw_or (pt_cmpR op_ne (pe_callB (k_call_len_seq K) (by rfl) T.len PySem.boot_len (pa_cons (pv 4) pa_nil)) pe_int (nomark _)) (pw_or1 (pt_not (pt_val (pe_fn G__law_is_pair (hr.mono (by decide)) (by rfl) (pa_cons (pv 0) (pa_cons (pe_slice (k_sl_tupA K) (pv 4) po_none (po_some pe_int)) pa_nil))))))))) 
        (pss_one (ps_ret (pv 3)))
        pss_nil)
      (pss_cons (ps_set (i := 5) sc__law_row_fault.nd rfl (Or.inl rfl) (pe_ix (k_ix_tup K) (pv 4) pe_int (fun _ _ => rfl)))
      (pss_cons (ps_if (PW.pt (pw_or (pt_val (pe_callB (k_call_isi K) (by rfl) T.isinstance (by decide +kernel) (pa_cons (pv 5) (pa_cons (pe_bltn (v := .ty "bool") (u := .type "bool") (by rfl) T.bool (by decide +kernel) rfl) pa_nil)))) (pw_or (pt_not (pt_val (pe_callB (k_call_isi K) (by rfl) T.isinstance (by decide +kernel) (pa_cons (pv 5) (pa_cons (pe_bltn (v := .ty "int") (u := .type "int") (by rfl) T.int (by decide +kernel) rfl) pa_nil))))) (pw_or (pt_cmpR op_eq (pv 5) pe_int (nomark _)) (pw_or1 (PW.pt (pw_and (pt_cmpR op_notN (pv 2) pe_non (nomark _)) (pw_and1 (pt_cmpR op_lt (pv 5) (pv 2) (nomark _)))))))))) 
        (pss_one (ps_ret (pv 3)))
        pss_nil)
      (pss_one (ps_if (PW.pt (pw_and (pt_cmpR op_gt (pv 3) pe_int (nomark _)) (pw_and1 (pt_cmpR (k_op_leT K hr.units0) (pe_slice (k_sl_tupA K) (pv 4) po_none (po_some pe_int)) (pe_slice (k_sl_tupA K) (pe_ix (k_ix_tup K) (pv 1) (pe_op op_sub (pv 3) pe_int) (fun _ _ => rfl)) po_none (po_some pe_int)) (nomark _))))) 
        (pss_one (ps_ret (pv 3)))
        pss_nil)))))))
    (pss_one (ps_ret pe_non))), ?_⟩
  have hb := hn.2.2.2
  unfold heapB at hb
  rw [Bool.and_eq_true] at hb
  have hall := List.all_eq_true.mp hb.1
  refine sq (st_for (xs := List.range rows.length) (enc := fun k => .int ((k : Nat) : Int)) (wk_rng1 (n := (rows.length : Int)) (ea_cons ((ev_lenT (ev_var S rfl)).to (by rw [List.length_map])) ea_nil) (by omega) (rng_d0 rows.length (by omega)))
    (fun H2 k σ' H' => Same H2 H' ∧ Sl K σ' H' [.dat (.int n), .dat (.tuple (rows.map rD)), .dat .none, .un, .un, .un]) (fun H2 e2 => ⟨Same.refl _, S.same e2⟩) (fun H2 k σ' H' _ h => Same.tp h.1) ?_ ?_)
  · rintro H2 k k' σ' H' v H3 e2 hx ⟨e3, S3⟩ e4 rv
    obtain ⟨hk, hk'⟩ : k < rows.length ∧ k' = k := by
      have := List.getElem?_eq_some_iff.mp hx
      simp at this
      exact ⟨this.1, this.2.symm⟩
    rw [hk'] at rv
    have S4 := (S3.same e4).setD 3 rv
    obtain ⟨r, hr⟩ : ∃ r, rows[k]? = some r := ⟨_, List.getElem?_eq_getElem hk⟩
    have hrb := hall r (List.mem_of_getElem? hr)
    unfold rowB at hrb
    rw [Bool.and_eq_true] at hrb
    obtain ⟨q, g, hq, eq1, eg1, hg⟩ := polyB_of hrb.1
    obtain ⟨m, hm⟩ : ∃ m, r.2.2 = m := ⟨_, rfl⟩
    have hm0 : decide (m = 0) = false := by rw [← hm]; simpa using hrb.2
    have er : rD r = .tuple [.int (q : Int), .int (g : Int), .int m] := by
      rw [← eq1, ← eg1, ← hm]
      rfl
    refine sq (st_set (d := .tuple [.int (q : Int), .int (g : Int), .int m]) S4 (ev_ixT (k := k) (ev_var S4 rfl) (ev_var S4 rfl) (ixN_nat (by rw [List.length_map]; exact hk)) (by rw [List.getElem?_map, hr, ← er]; rfl)) fun σ5 H5 e5 S5 => ?_)
    refine sq (st_if (b := false) ((et_or (b := false) ((et_not (et_B (ev_isiT (b := true) (ev_var S5 rfl) (by decide +kernel)))).to rfl) fun _ => et_or (b := false) ((et_test (ev_ne (ev_lenT (ev_var S5 rfl)) ev_int)).to (by simp)) fun _ => (et_not (et_B (ev_call (ea_cons (ev_var S5 rfl) (ea_cons (ev_slT (ds := [.int (q : Int), .int (g : Int), .int m]) (lo := none) (hi := some 2) (ev_var S5 rfl) eo_none (eo_some ev_int)) ea_nil)) ⟨n, q, g, ⟨hn.1, hn.2.1, hq, hg⟩, rfl, rfl⟩))).to (c := false) rfl).to rfl) (fun z => nomatch z) fun _ H6 e6 => ?_)
    have S6 := S5.same e6
    refine sq (st_set (d := .int m) S6 (ev_ixT (k := 2) (ev_var S6 rfl) ev_int rfl rfl) fun σ7 H7 e7 S7 => ?_)
    refine sq (st_if (b := false) ((et_or (b := false) (et_B (ev_isiI (b := false) (ev_var S7 rfl) (by decide +kernel))) fun _ => et_or (b := false) ((et_not (et_B (ev_isiI (b := true) (ev_var S7 rfl) (by decide +kernel)))).to rfl) fun _ => et_or (b := false) ((et_test (ev_eq (ev_var S7 rfl) ev_int)).to hm0) fun _ => et_and (b := false) (c := false) (et_notN (ev_var S7 rfl)) (fun z => nomatch z)).to rfl) (fun z => nomatch z) fun _ H8 e8 => ?_)
    have S8 := S7.same e8
    refine st_if (b := false) ((et_and (b := decide (0 < (k : Int))) (c := false) (et_test (ev_gt (ev_var S8 rfl) ev_int)) fun hk0 => ?_).to (by simp)) (fun z => nomatch z) fun _ H9 e9 => ?_
    · have hk0 : 0 < k := by simpa using hk0
      obtain ⟨r0, hr0⟩ : ∃ r, rows[k - 1]? = some r := ⟨_, List.getElem?_eq_getElem (by omega)⟩
      have hlt := asc_at hb.2 (k := k - 1) (a := keyR r0) (b := keyR r) (by rw [List.getElem?_map, hr0]; rfl) (by rw [show k - 1 + 1 = k by omega, List.getElem?_map, hr]; rfl)
      refine (et_test (ev_leT (ns := [(q : Int), (g : Int)]) (ms := [r0.1, r0.2.1]) (ev_slT (ds := [.int (q : Int), .int (g : Int), .int m]) (lo := none) (hi := some 2) (ev_var S8 rfl) eo_none (eo_some ev_int)) (ev_slT (ds := [.int r0.1, .int r0.2.1, .int r0.2.2]) (lo := none) (hi := some 2) (ev_ixT (k := k - 1) (ev_var S8 rfl) (ev_sub (ev_var S8 rfl) ev_int) ?_ ?_) eo_none (eo_some ev_int)))).to ?_
      · rw [show ((k : Int) - 1) = ((k - 1 : Nat) : Int) by omega]
        exact ixN_nat (by rw [List.length_map]; omega)
      · rw [List.getElem?_map, hr0]
        rfl
      · refine le_no ?_
        unfold keyR at hlt
        rw [eq1, eg1] at hlt
        exact hlt
    · exact ⟨e3.trans (((((e4.trans e5).trans e6).trans e7).trans e8).trans e9), (((S8.same e9).weak 3).weak 4).weak 5⟩
  · rintro H2 σ' H' e2 ⟨e3, S3⟩
    dsimp only
    exact st_ret ev_non fun w H4 e4 r4 => kk w H4 ((e2.trans e3).trans e4) r4
end
end SB
namespace SB
open PySem PySem.Spec PyProof.Rows L2 RZ
open StX (tStar pa_star)
section
variable {P : Program} {w : World} {K : PySem.W.Frag} {mg : Str → Option Value} {base : Heap}
theorem get_at2 {C : Cts} {x : Int × Int} (hx : x ∈ sortK (C.map (·.1))) : getT (cT C) [x.1, x.2] = some (getC C x) := by
  have h1 := (sortK_perm _).mem_iff.mp hx
  obtain ⟨v, hv⟩ := getT_some (C := cT C) (k := [x.1, x.2]) (by
    obtain ⟨e, he, rfl⟩ := List.mem_map.mp h1
    exact List.mem_map.mpr ⟨([e.1.1, e.1.2], e.2), List.mem_map.mpr ⟨e, he, rfl⟩, rfl⟩)
  rw [hv, ← cT_get, hv]
  rfl
theorem getC_mem : ∀ {C : Cts} {e : (Int × Int) × Int}, e ∈ C → ∃ e', e' ∈ C ∧ e'.1 = e.1 ∧ e'.2 = getC C e.1
  | c :: C, e, h => by
    by_cases q : c.1 = e.1
    · refine ⟨c, List.mem_cons_self, q, ?_⟩
      unfold getC
      rw [if_pos q]
    · rcases List.mem_cons.mp h with z | z
      · exact absurd (by rw [z]) q
      · obtain ⟨e', h1, h2, h3⟩ := getC_mem z
        refine ⟨e', List.mem_cons_of_mem _ h1, h2, ?_⟩
        unfold getC
        rw [if_neg q]
        exact h3
theorem mem_putC : ∀ {C : Cts} {k : Int × Int} {m : Int} {e : (Int × Int) × Int}, e ∈ putC C k m → e ∈ C ∨ e = (k, getC C k + m)
  | [], k, m, e, h => by
    unfold putC at h
    right
    rw [List.mem_singleton.mp h]
    show (k, m) = (k, 0 + m)
    rw [Int.zero_add]
  | c :: C, k, m, e, h => by
    unfold putC at h
    unfold getC
    by_cases q : c.1 = k
    · rw [if_pos q] at h ⊢
      rcases List.mem_cons.mp h with z | z
      · right; rw [z, q]
      · left; exact List.mem_cons_of_mem _ z
    · rw [if_neg q] at h ⊢
      rcases List.mem_cons.mp h with z | z
      · left; rw [z]; exact List.mem_cons_self
      · rcases mem_putC z with y | y
        · left; exact List.mem_cons_of_mem _ y
        · right; exact y
theorem setC_cT {C : Cts} (d : (C.map (·.1)).Nodup) {k : Int × Int} {v : Int} : putT (cT C) [k.1, k.2] v = cT (putC C k (v - getC C k)) := by
  rw [← cT_put C k _ d]
  congr 1
  omega
theorem polys_ok {n : Nat} (h1 : 1 ≤ n) (h2 : n < 111) : ∀ x ∈ polysL n, polyB n (x.1 : Int) (x.2 : Int) = true := fun x hx => by
  unfold polysL at hx
  obtain ⟨p, hp, hx⟩ := List.mem_flatMap.mp hx
  obtain ⟨f, hf, rfl⟩ := List.mem_map.mp hx
  exact polyB_mk hp (List.mem_range.mp hf)
theorem polys_len {n : Nat} (h1 : 1 ≤ n) (h2 : n < 111) : (polysL n).length ≤ 1000 := by
  have : ((List.range 111).drop 1).all (fun n => decide ((polysL n).length ≤ 1000)) = true := by decide +kernel
  exact of_decide_eq_true (List.all_eq_true.mp this n (mem_drop1 h1 h2))
theorem st_tupLC {K : PySem.W.Frag} {σ : L2.St} {H : Hp} {ρ : List Sd} {t1 t2 : TE} {ds : List PyData} {C : Tb} {D : Ends} {i j : Nat} (S : Sl K σ H ρ) (h1 : EvL t1 σ H ds) (h2 : EvC t2 σ H C) (k : ∀ l p σ' H1, H l = none → H p = none → Same H H1 → RdL K H1 l ds → H1 p = some (.dT (tbH C)) → Sl K σ' H1 ((ρ.set i (.ref l)).set j (.ref p)) → D.nx σ' H1) :
    tAsg (tTup (tCons t1 (tCons t2 tNil))) (gTup K 2 (gCons (gName i) (gCons (gName j) gNil))) D σ H := h1 H (Same.refl H) _ fun l vs H1 hl e1 hl1 r1 => h2 H1 e1 _ fun p H2 hp e2 hd => by
  refine ⟨by show 2 ≤ sizeLine; decide, fun q hq => ⟨q, _, rfl, SqT.of upd_same, rfl, _, _, rfl, _, _, rfl, rfl, ?_⟩⟩
  have e := (e1.trans e2).trans (Same.new (o := .tup [.ref l, .ref p]) hq)
  refine k l p _ _ hl (fresh_back e1 hp) e (RdL.same (e2.trans (Same.new hq)) ⟨vs, SqL.of hl1, r1⟩) ?_ (((S.same e).setR i l).setR j p)
  rw [upd_ne (ne_of_none hd hq)]
  exact hd
abbrev s__law_drawn_rows : Stmt := topS 104
theorem sc__law_drawn_rows : FnScope ["_law_feed_here", "_law_size", "_law_most", "_law_weights", "_law_pairs", "_law_found", "_law_lap", "_law_pair"] ["_law_feed_here", "_law_size", "_law_most", "_law_weights"] (defScope s__law_drawn_rows) := ⟨rfl, rfl, rfl, by decide +kernel, rfl, by decide +kernel, by decide +kernel⟩
theorem ok__law_drawn_rows {f : Addr} {fd : FuncData} (F : Fun K "_law_drawn_rows" "_law_drawn_rows" s__law_drawn_rows f fd) (T : Txt K mg) (G__law_polygons : Fn P w K mg base "_law_polygons" 2 ["_law_size"] sp__law_polygons) (G__law_draw : Fn P w K mg base "_law_draw" 1 ["_law_feed_here", "_law_many"] sp__law_draw) (G__law_pick : Fn P w K mg base "_law_pick" 2 ["_law_feed_here", "_law_things"] (sp__law_pick K)) : FnOk P w K mg base CX0 3 f fd ["_law_feed_here", "_law_size", "_law_most", "_law_weights"] (sp__law_drawn_rows K) := by
  refine F.ok sc__law_drawn_rows (fun vs H Q E h => ?_) (fun cdv A outer s H vs Q E hr h => ?_)
  · obtain ⟨a, t, n, ws, rfl, _⟩ := h
    rfl
  · obtain ⟨a, t, n, ws, rfl, hn, hf, ht, kk⟩ := h
    have hu := hu_of hr
    have S : Sl K (L2.start ["_law_feed_here", "_law_size", "_law_most", "_law_weights", "_law_pairs", "_law_found", "_law_lap", "_law_pair"] [.ref a, .int n, .int 8, .ref t]) H [.ref a, .dat (.int n), .dat (.int 8), .ref t, .un, .un, .un, .un] := Sl.start (N := ["_law_feed_here", "_law_size", "_law_most", "_law_weights", "_law_pairs", "_law_found", "_law_lap", "_law_pair"]) (xs := [.ref a, .dat (.int n), .dat (.int 8), .ref t]) rfl fun i v x h1 h2 => by
      match i with
      | 0 => cases h1; cases h2; rfl
      | 1 => cases h1; cases h2; exact ⟨_, rfl, .int _⟩
      | 2 => cases h1; cases h2; exact ⟨_, rfl, .int _⟩
      | 3 => cases h1; cases h2; rfl
      | i + 4 => cases h1
    refine ⟨_, (pss_cons (ps_asg (pe_tup (pa_cons (pe_fn G__law_polygons (hr.mono (by decide)) (by rfl) (pa_cons (pv 1) pa_nil)) (pa_cons pe_dnewT pa_nil))) (k_pg_tup K 2 rfl (pgs_cons (pg_name (i := 4) sc__law_drawn_rows.nd rfl (Or.inl rfl)) (pgs_cons (pg_name (i := 5) sc__law_drawn_rows.nd rfl (Or.inr rfl)) pgs_nil))))
    (pss_cons (ps_for PassesOwn.never rfl (pi_range1 (by rfl) T.range (pa_cons (pe_ifExp (pt_cmpR (k_op_neD K hr.units) (pv 4) (pe_lst pa_nil) (nomark _)) (pe_fn G__law_draw (hr.mono (by decide)) (by rfl) (pa_cons (pv 0) (pa_cons (pe_op op_add (pv 2) pe_int) pa_nil))) pe_int) pa_nil)) (pg_name (i := 6) sc__law_drawn_rows.nd rfl (Or.inl rfl)) 
      (pss_one (ps_dput hu (pv 5) (pe_fn G__law_pick (hr.mono (by decide)) (by rfl) (pa_cons (pv 0) (pa_cons (pv 4) pa_nil))) (pe_fn G__law_pick (hr.mono (by decide)) (by rfl) (pa_cons (pv 0) (pa_cons (pv 3) pa_nil))) rfl)))
    (pss_one (ps_ret (pe_callTy (k_call_tuple_of K) (by rfl) T.tuple (by decide +kernel) (pa_cons (pe_lc (own := [("_law_pair", 7)]) rfl sc__law_drawn_rows.nd (k_pi_list K (pe_callB (k_cr_sortedDT K) (by rfl) T.sorted (by decide +kernel) (pa_cons (pv 5) pa_nil))) (blkOk_by (by kernel_rfl)) (fun _ _ _ _ _ => (pg_name (i := 7) sc__law_drawn_rows.nd rfl (Or.inl rfl))) (fun _ _ _ _ _ => pts_nil) (fun _ _ _ _ _ => (pe_op (k_op_catA K) (pv 7) (pe_tup (pa_cons (pe_dget hu (pv 5) (pv 7) (fun _ _ => rfl)) pa_nil))))) pa_nil)))))), ?_⟩
    refine sq (st_tupLC (i := 4) (j := 5) S (el_call (ea_cons (ev_var S rfl) ea_nil) ⟨n, ⟨hn.1, hn.2.1⟩, rfl, rfl⟩) ec_new fun l p σ1 H1 hl hp e1 rl hd S1 => ?_)
    have hap : a ≠ p := fun z => by
      obtain ⟨_, _, _, _, _, hf, _⟩ := hf
      rw [z, hp] at hf
      cases hf
    have S1 : Sl K σ1 H1 [.ref a, .dat (.int n), .dat (.int 8), .ref t, .ref l, .ref p, .un, .un] := S1
    have hf1 := hf.same e1
    -- after the loop
    have fin : ∀ σ2 H2 (C : Cts), Sb a H H2 → FeedOk H2 a → H2 p = some (.dT (tbH (cT C))) → (C.map (·.1)).Nodup → C.length ≤ 8 → (∀ e ∈ C, polyB n e.1.1 e.1.2 = true ∧ e.2 ∈ ws) → Sl K σ2 H2 [.ref a, .dat (.int n), .dat (.int 8), .ref t, .ref l, .ref p, .un, .un] →
        tRet (tCB (fun xs H Q => ∃ p ys, xs = [.ref p] ∧ ((SqL K H p ys ∧ ∀ l, H l = none → Q (.ref l) (upd H l (.tup ys))) ∨ (SqT K H p ys ∧ Q (.ref p) H))) (tCons (tLc (iList K (tCB rSortedDT (tCons (tVar 5) tNil))) (gName 7) tYes (tOp (rCatA K) (tVar 7) (tTup (tCons (tDGet (tVar 5) (tVar 7)) tNil))) [7]) tNil)) { nx := fun _ H' => Q .non H', rt := Q } σ2 H2 := fun σ2 H2 C s2 f2 h2 d2 l2 g2 S2 => by
      have hc : RdT H2 p (cT C) := .inl h2
      refine st_ret (d := .tuple ((sortK (C.map (·.1))).map fun k => rD (k.1, k.2, getC C k))) (ev_tupleOf (EvL.r (el_lc0 (xs := sortK (C.map (·.1))) (enc := kD) (f := fun k => rD (k.1, k.2, getC C k)) S2 (wk_list (EvL.r (el_sortedDT (ev_ref S2 rfl) hc))).kp (fun x _ => tg_name) ?_ ?_))) fun v H3 e3 r3 => ?_
      · rw [(sortK_perm _).length_eq, List.length_map]
        omega
      · intro x hx σ' H' e' S'
        exact ev_catT (ds := [.int x.1, .int x.2]) (es := [.int (getC C x)]) (ev_var S' (k := 7) rfl) (ev_tup (ea_cons (ev_dget (ev_ref S' (k := 5) rfl) (hc.same e') (ev_var S' (k := 7) rfl) (get_at2 hx)) ea_nil) (by simp)) (by simp)
      · refine kk v ((sortK (C.map (·.1))).map fun k => (k.1, k.2, getC C k)) H3 (fun r hr => ?_) ?_ (s2.trans (Same.sb e3)) (f2.same e3) (by rw [List.map_map]; exact r3)
        · obtain ⟨k, hk, rfl⟩ := List.mem_map.mp hr
          have hk := (sortK_perm _).mem_iff.mp hk
          obtain ⟨e, he, rfl⟩ := List.mem_map.mp hk
          obtain ⟨e', he', h1, h2⟩ := getC_mem he
          refine ⟨?_, ?_⟩
          · exact (g2 e he).1
          · show getC C e.1 ∈ ws
            rw [← h2]
            exact (g2 e' he').2
        · rw [List.length_map, (sortK_perm _).length_eq, List.length_map]
          exact l2
    have loop : ∀ (r : Nat) H2, r ≤ 8 → polysL n ≠ [] ∨ r = 0 → Sb a H1 H2 → FeedOk H2 a → Sl K σ1 H2 [.ref a, .dat (.int n), .dat (.int 8), .ref t, .ref l, .ref p, .un, .un] → RdL K H2 l ((polysL n).map fun x => kD ((x.1 : Int), (x.2 : Int))) → RdL K H2 t (ws.map .int) → H2 p = some (.dT (tbH (cT []))) → ∀ D : Ends,
        (∀ σ3 H3 (C : Cts), Sb a H H3 → FeedOk H3 a → H3 p = some (.dT (tbH (cT C))) → (C.map (·.1)).Nodup → C.length ≤ 8 → (∀ e ∈ C, polyB n e.1.1 e.1.2 = true ∧ e.2 ∈ ws) → Sl K σ3 H3 [.ref a, .dat (.int n), .dat (.int 8), .ref t, .ref l, .ref p, .un, .un] → D.nx σ3 H3) →
        tFor (iRng1 (tCons (tC (.int (r : Int))) tNil)) (gName 6) (sDPut (tVar 5) (tCall (sp__law_pick K) [] E (tCons (tVar 0) (tCons (tVar 4) tNil))) (tCall (sp__law_pick K) [] E (tCons (tVar 0) (tCons (tVar 3) tNil)))) D σ1 H2 := fun r H2 hr hne s2 f2 S2 rl2 rt2 h2 D k => by
      refine st_for (xs := List.range r) (enc := fun k => .int ((k : Nat) : Int)) (wk_rng1 (n := (r : Int)) (ea_cons ev_int ea_nil) (by omega) (rng_d0 r (by omega)))
        (fun H3 i σ' H' => Sb a H H' ∧ Tp H3 H' ∧ FeedOk H' a ∧ RdL K H' l ((polysL n).map fun x => kD ((x.1 : Int), (x.2 : Int))) ∧ RdL K H' t (ws.map .int) ∧ Sl K σ' H' [.ref a, .dat (.int n), .dat (.int 8), .ref t, .ref l, .ref p, .un, .un] ∧ ∃ C : Cts, H' p = some (.dT (tbH (cT C))) ∧ (C.map (·.1)).Nodup ∧ C.length ≤ i ∧ ∀ e ∈ C, polyB n e.1.1 e.1.2 = true ∧ e.2 ∈ ws)
        (fun H3 e3 => ⟨((Same.sb e1).trans s2).trans (Same.sb e3), Tp.refl _, f2.same e3, rl2.same e3, rt2.same e3, S2.same e3, [], e3 _ _ h2, .nil, Nat.le_refl _, fun e he => nomatch he⟩) (fun H3 i σ' H' _ h => h.2.1) ?_ ?_
      · rintro H3 i i' σ' H' v H4 e3 hx ⟨s4, t4, f4, rl4, rt4, S4, C, h4, d4, l4, g4⟩ e5 rv
        have hi : i < r := by simpa using (List.getElem?_eq_some_iff.mp hx).1
        have hpl : polysL n ≠ [] := hne.resolve_right (by omega)
        have S5 := (S4.same e5).setD 6 rv
        have f5 := f4.same e5
        refine (call_M (as := [a, t]) (ds := []) (ex_cons (ev_ref S5 rfl) (ex_cons (ev_ref S5 rfl) (ex_nil ea_nil))) fun H6 e6 => ⟨a, t, ws.map .int, ⟨by simpa using hn.2.2.1, by rw [List.length_map]; exact hn.2.2.2⟩, f5.same e6, (rt4.same e5).same e6, rfl, rfl, fun v7 d7 H7 hd7 s7 f7 r7 => ?_⟩)
        have kp7 : Kp K H' H7 := (Same.kp (e5.trans e6)).trans ((f5.same e6).kp s7)
        have tp7 : Tp H' H7 := (Same.tp (e5.trans e6)).trans ((f5.same e6).tp s7)
        have S7 := (S5.same e6).kp ((f5.same e6).kp (K := K) s7)
        have h7 : H7 p = some (.dT (tbH (cT C))) := s7 _ _ (fun z => hap z.symm) (e6 _ _ (e5 _ _ h4))
        refine ev_ref S7 (k := 5) rfl H7 (Same.refl _) _ fun H8 e8 => ?_
        refine (call_M (as := [a, l]) (ds := []) (ex_cons (ev_ref (S7.same e8) rfl) (ex_cons (ev_ref (S7.same e8) rfl) (ex_nil ea_nil))) fun H9 e9 => ⟨a, l, _, ⟨by simpa using hpl, ?_⟩, f7.same (e8.trans e9), (rl4.kp kp7).same (e8.trans e9), rfl, rfl, fun v10 d10 H10 hd10 s10 f10 r10 => ?_⟩)
        · rw [List.length_map]
          exact polys_len hn.1 hn.2.1
        · obtain ⟨x, hx10, rfl⟩ := List.mem_map.mp hd10
          obtain ⟨w7, hw7, rfl⟩ := List.mem_map.mp hd7
          obtain ⟨q, rfl, hq⟩ := r10.tI
          have kp10 : Kp K H' H10 := kp7.trans ((Same.kp (e8.trans e9)).trans ((f7.same (e8.trans e9)).kp s10))
          have tp10 : Tp H' H10 := tp7.trans ((Same.tp (e8.trans e9)).trans ((f7.same (e8.trans e9)).tp s10))
          have h10 : H10 p = some (.dT (tbH (cT C))) := s10 _ _ (fun z => hap z.symm) ((e8.trans e9) _ _ h7)
          refine ⟨p, _, rfl, .inr ⟨_, kI [(x.1 : Int), (x.2 : Int)], q, h10, rfl, by rw [kI_kV]; exact hq, ?_, rfl⟩, ?_⟩
          · unfold tbH cT
            rw [List.length_map, List.length_map]
            exact Nat.lt_of_lt_of_le (show C.length < 100000 by omega) (by decide)
          · have es := setC_cT (k := ((x.1 : Int), (x.2 : Int))) (v := w7) d4
            dsimp only at es
            rw [r7.int', putK_tb, es]
            have fp : Tp H10 (upd H10 p (.dT (tbH (cT (putC C ((x.1 : Int), (x.2 : Int)) (w7 - getC C ((x.1 : Int), (x.2 : Int)))))))) := tp_lock h10
            have kpp : Kp K H10 (upd H10 p (.dT (tbH (cT (putC C ((x.1 : Int), (x.2 : Int)) (w7 - getC C ((x.1 : Int), (x.2 : Int)))))))) := Sb.kp Sb.put h10
            have f11 : FeedOk (upd H10 p (.dT (tbH (cT (putC C ((x.1 : Int), (x.2 : Int)) (w7 - getC C ((x.1 : Int), (x.2 : Int)))))))) a := by
              obtain ⟨fl, ns, i1, j1, c1, f⟩ := f10
              exact ⟨fl, ns, i1, j1, c1, by rw [upd_ne hap]; exact f.1, by rw [upd_ne (fun z => by have := f.2.1; rw [z, h10] at this; cases this)]; exact f.2.1, f.2.2⟩
            have S11 : Sl K (σ'.set 6 (some v)) (upd H10 p (.dT (tbH (cT (putC C ((x.1 : Int), (x.2 : Int)) (w7 - getC C ((x.1 : Int), (x.2 : Int)))))))) _ := (S7.same (e8.trans e9)).kp (((f7.same (e8.trans e9)).kp (K := K) s10).trans kpp)
            refine ⟨fun b u nb hb => ?_, (t4.trans tp10).trans fp, f11, rl4.kp (kp10.trans kpp), rt4.kp (kp10.trans kpp), S11.weak 6, _, upd_same, putC_nodup d4 _ _, Nat.le_trans (putC_len _ _ _) (by omega), fun e he => ?_⟩
            · rw [upd_ne (ne_of_none hb hp)]
              exact s10 b u nb ((e8.trans e9) b u (s7 b u nb ((e5.trans e6) b u (s4 b u nb hb))))
            · rcases mem_putC he with h | h
              · exact g4 e h
              · rw [h]
                refine ⟨polys_ok hn.1 hn.2.1 x hx10, ?_⟩
                show getC C _ + (w7 - getC C _) ∈ ws
                rw [show ∀ a b : Int, a + (b - a) = b from fun a b => by omega]
                exact hw7
      · rintro H3 σ' H' e3 ⟨s4, t4, f4, rl4, rt4, S4, C, h4, d4, l4, g4⟩
        exact k σ' H' C s4 f4 h4 d4 (by rw [List.length_range] at l4; omega) g4 S4
    have hd1 : H1 p = some (.dT (tbH (cT []))) := hd
    dsimp only
    refine sq (st_rngE ?_)
    refine et_test (ev_neNil (EvX.r (ev_ref S1 rfl) rl) ?_) H1 (Same.refl _) _ fun H2 e2 => ?_
    · have := shp_pairs ((polysL n).map fun x => ((x.1 : Int), (x.2 : Int)))
      rw [List.map_map] at this
      exact this
    by_cases hpl : polysL n = []
    · rw [hpl]
      refine (if_neg (by decide)).mpr ?_
      exact loop 0 H2 (by omega) (.inr rfl) (Same.sb e2) (hf1.same e2) (S1.same e2) (rl.same e2) ((ht.same e1).same e2) (e2 _ _ hd1) _ fin
    · rw [decide_eq_false (by simpa using hpl)]
      refine (if_pos rfl).mpr ?_
      refine call_M (as := [a]) (ds := [.int ((9 : Nat) : Int)]) (ex_cons (ev_ref (S1.same e2) rfl) (ex_nil (ea_cons ((ev_add (i := 8) (j := 1) (ev_var (S1.same e2) rfl) ev_int).to rfl) ea_nil))) fun H3 e3 => ⟨a, 9, ⟨by omega, by omega⟩, hf1.same (e2.trans e3), rfl, rfl, fun r H4 hr s4 f4 => ?_⟩
      have kp4 : Kp K H1 H4 := (Same.kp (e2.trans e3)).trans ((hf1.same (e2.trans e3)).kp s4)
      exact loop r H4 (by omega) (.inl hpl) ((Same.sb (e2.trans e3)).trans s4) f4 (S1.kp kp4) (rl.kp kp4) ((ht.same e1).kp kp4) (s4 _ _ (fun z => hap z.symm) ((e2.trans e3) _ _ hd1)) _ fin
end
end SB
namespace SB
open PySem PySem.Spec PyProof.Rows L2 RZ
open StX (tStar pa_star)
section
variable {P : Program} {w : World} {K : PySem.W.Frag} {mg : Str → Option Value} {base : Heap}
abbrev s_is_polygon_of : Stmt := topS 28
theorem sc_is_polygon_of : FnScope ["size", "prime", "first"] ["size", "prime", "first"] (defScope s_is_polygon_of) := ⟨rfl, rfl, rfl, by decide +kernel, rfl, by decide +kernel, by decide +kernel⟩
theorem ok_is_polygon_of {f : Addr} {fd : FuncData} (F : Fun K "is_polygon_of" "is_polygon_of" s_is_polygon_of f fd) (T : Txt K mg) (G_is_index : Fn P w K mg base "is_index" 3 ["thing", "many"] sp_is_index) (G_primes_at : Fn P w K mg base "primes_at" 3 ["size"] sp_primes_at) (G_is_integer : Fn P w K mg base "is_integer" 1 ["thing"] sp_is_integer) : FnOk P w K mg base CX0 4 f fd ["size", "prime", "first"] sp_is_polygon_of := by
  refine okD F sc_is_polygon_of (by rintro _ _ ⟨n, p, g, hn, rfl, rfl⟩; rfl) fun cdv A outer s H vs Q E ds d hr hR S kk => ?_
  obtain ⟨n, p, g, hn, rfl, rfl⟩ := hR
  have hu := hu_of hr
  refine ⟨_, (pss_one (ps_ret (pe_and (pe_fn G_is_integer (hr.mono (by decide)) (by rfl) (pa_cons (pv 1) pa_nil)) (pe_and (pe_cmpR (k_op_in_seq K) (pv 1) (pe_fn G_primes_at (hr.mono (by decide)) (by rfl) (pa_cons (pv 0) pa_nil)) (by rfl)) (pe_one (pe_fn G_is_index (hr.mono (by decide)) (by rfl) (pa_cons (pv 2) (pa_cons (pe_op op_fdiv (pv 0) (pv 1)) pa_nil)))))))), ?_⟩
  refine st_ret (ev_and (b := true) (ev_call (ea_cons (ev_var S rfl) ea_nil) ⟨p, rfl, rfl⟩) fun _ => ev_and (ev_inT (ev_var S rfl) (ev_call (ea_cons (ev_var S rfl) ea_nil) ⟨n, hn, rfl, rfl⟩)) fun hp => ?_) kk
  obtain ⟨q, hq, rfl⟩ := any_zs hp
  have := mem_primes hq
  exact ev_call (ea_cons (ev_var S rfl) (ea_cons (ev_div (ev_var S rfl) (ev_var S rfl) ⟨by omega, by omega⟩) ea_nil)) ⟨g, _, rfl, rfl⟩
end
end SB
namespace SB
open PySem PySem.Spec PyProof.Rows L2 RZ
open StX (tStar pa_star)
section
variable {P : Program} {w : World} {K : PySem.W.Frag} {mg : Str → Option Value} {base : Heap}
abbrev s_step_in : Stmt := topS 34
theorem sc_step_in : FnScope ["size", "prime"] ["size"] (defScope s_step_in) := ⟨rfl, rfl, rfl, by decide +kernel, rfl, by decide +kernel, by decide +kernel⟩
theorem ok_step_in {f : Addr} {fd : FuncData} (F : Fun K "step_in" "step_in" s_step_in f fd) (T : Txt K mg) (G_primes_in : Fn P w K mg base "primes_in" 3 ["number"] sp_primes_in) : FnOk P w K mg base CX0 4 f fd ["size"] sp_step_in := by
  refine okD F sc_step_in (by rintro _ _ ⟨n, hn, rfl, rfl⟩; rfl) fun cdv A outer s H vs Q E ds d hr hR S kk => ?_
  obtain ⟨n, hn, rfl, rfl⟩ := hR
  have hu := hu_of hr
  refine ⟨_, (pss_cons (ps_for PassesOwn.never rfl (k_pi_tup K (pe_fn G_primes_in (hr.mono (by decide)) (by rfl) (pa_cons (pv 0) pa_nil))) (pg_name (i := 1) sc_step_in.nd rfl (Or.inl rfl)) 
      (pss_one (ps_set (i := 0) sc_step_in.nd rfl (Or.inl rfl) (pe_op op_fdiv (pv 0) (pv 1)))))
    (pss_one (ps_ret (pv 0)))), ?_⟩
  have hc := ev_call (E := E0) (R := fun ds d => ∃ n : Nat, (1 ≤ n ∧ n < 111) ∧ ds = [.int n] ∧ d = tI (zs (primesL n))) (ea_cons (ev_var S (k := 0) rfl) ea_nil) ⟨n, hn, rfl, rfl⟩
  refine sq (st_for (xs := primesL n) (enc := fun p => .int p) ((wk_tup hc).to (by simp)) (fun H1 i σ' H' => Same H H' ∧ Tp H1 H' ∧ Sl K σ' H' [.dat (.int (((primesL n).take i).foldl (fun s p => s / p) n : Nat)), .un]) (fun H1 e1 => ⟨e1, Tp.refl _, S.same e1⟩) (fun H1 i σ' H' _ h => h.2.1) ?_ ?_)
  · rintro H1 i p σ' H' v H'' e1 hx ⟨e2, t2, S2⟩ e3 r
    have hp := mem_primes (List.mem_of_getElem? hx)
    have S3 := (S2.same e3).setD 1 r
    refine st_set S3 (ev_div (ev_var S3 rfl) (ev_var S3 rfl) ⟨by omega, by omega⟩) fun σ4 H4 e4 S4 => ⟨(e2.trans e3).trans e4, (t2.trans (Same.tp e3)).trans (Same.tp e4), ?_⟩
    have h5 : (primesL n).take (i + 1) = (primesL n).take i ++ [p] := by rw [List.take_add_one, hx]; rfl
    rw [h5, List.foldl_append]
    exact S4.weak 1
  · rintro H1 σ' H' e1 ⟨e2, _, S2⟩
    rw [List.take_length] at S2
    exact st_ret (ev_var S2 rfl) fun v H4 e4 r4 => kk v H4 (e2.trans e4) r4
end
end SB
namespace SB
open PySem PySem.Spec PyProof.Rows L2 RZ
open StX (tStar pa_star)
section
variable {P : Program} {w : World} {K : PySem.W.Frag} {mg : Str → Option Value} {base : Heap}
abbrev s_split_at : Stmt := topS 47
theorem sc_split_at : FnScope ["voice", "divisor", "factor", "rest"] ["voice", "divisor"] (defScope s_split_at) := ⟨rfl, rfl, rfl, by decide +kernel, rfl, by decide +kernel, by decide +kernel⟩
theorem ok_split_at {f : Addr} {fd : FuncData} (F : Fun K "split_at" "split_at" s_split_at f fd) (T : Txt K mg) (G_poly_parted : Fn P w K mg base "poly_parted" 2 ["one", "divisor"] sp_poly_parted) (G_poly_of : Fn P w K mg base "poly_of" 2 ["voice"] sp_poly_of) (G_cyclotomic_in : Fn P w K mg base "cyclotomic_in" 3 ["number"] sp_cyclotomic_in) (G_padded : Fn P w K mg base "padded" 1 ["numbers", "size"] sp_padded) (G_totient_in : Fn P w K mg base "totient_in" 2 ["number"] sp_totient_in) : FnOk P w K mg base CX0 4 f fd ["voice", "divisor"] sp_split_at := by
  refine okD F sc_split_at (by rintro _ _ ⟨v, k, hn, rfl, rfl⟩; rfl) fun cdv A outer s H vs Q E ds d hr hR S kk => ?_
  obtain ⟨v, k, hn, rfl, rfl⟩ := hR
  have hu := hu_of hr
  refine ⟨_, (pss_cons (ps_asg (pe_fn G_poly_parted (hr.mono (by decide)) (by rfl) (pa_cons (pe_fn G_poly_of (hr.mono (by decide)) (by rfl) (pa_cons (pv 0) pa_nil)) (pa_cons (pe_fn G_cyclotomic_in (hr.mono (by decide)) (by rfl) (pa_cons (pv 1) pa_nil)) pa_nil))) (k_pg_tup K 2 rfl (pgs_cons (pg_name (i := 2) sc_split_at.nd rfl (Or.inl rfl)) (pgs_cons (pg_name (i := 3) sc_split_at.nd rfl (Or.inl rfl)) pgs_nil))))
    (pss_one (ps_ret (pe_tup (pa_cons (pv 2) (pa_cons (pe_fn G_padded (hr.mono (by decide)) (by rfl) (pa_cons (pv 3) (pa_cons (pe_fn G_totient_in (hr.mono (by decide)) (by rfl) (pa_cons (pv 1) pa_nil)) pa_nil))) pa_nil)))))), ?_⟩
  have hf := cyc_fit hn.2
  have hb := sub_lt k hn.2
  have hp := phi_le k
  have hl := Nat.le_trans (stripL_len v) hn.1
  have hpl := pparted_len (stripL v) (cyc k)
  refine sq (st_asg S (ev_call (ea_cons (ev_call (ea_cons (ev_var S rfl) ea_nil) ⟨v, hn.1, rfl, rfl⟩) (ea_cons (ev_call (ea_cons (ev_var S rfl) ea_nil) ⟨k, hn.2, rfl, rfl⟩) ea_nil)) ⟨stripL v, cyc k, ⟨hl, hf.1, hf.2.1, hf.2.2⟩, rfl, rfl⟩) (tg_tup (ns := [2, 3]) rfl rfl) fun σ1 H1 e1 S1 => ?_)
  exact st_ret (ev_tup (ea_cons (ev_var S1 rfl) (ea_cons (ev_call (ea_cons (ev_var S1 rfl) (ea_cons (ev_call (ea_cons (ev_var S1 rfl) ea_nil) ⟨k, hb, rfl, rfl⟩) ea_nil)) ⟨_, phi k, ⟨Nat.le_trans hpl.2 hl, by omega⟩, rfl, rfl⟩) ea_nil)) (by simp)) fun v H2 e2 r2 => kk v H2 (e1.trans e2) r2
end
end SB
namespace SB
open PySem PySem.Spec PyProof.Rows L2 RZ
open StX (tStar pa_star)
section
variable {P : Program} {w : World} {K : PySem.W.Frag} {mg : Str → Option Value} {base : Heap}
abbrev s_put_one : Stmt := topS 68
theorem sc_put_one : FnScope ["counts", "voice", "coset"] ["counts", "voice", "coset"] (defScope s_put_one) := ⟨rfl, rfl, rfl, by decide +kernel, rfl, by decide +kernel, by decide +kernel⟩
theorem ok_put_one {f : Addr} {fd : FuncData} (F : Fun K "put_one" "put_one" s_put_one f fd) (T : Txt K mg) (G_put_polygon : Fn P w K mg base "put_polygon" 1 ["counts", "size", "prime", "beat", "many"] sp_put_polygon) (G_primes_in : Fn P w K mg base "primes_in" 3 ["number"] sp_primes_in) : FnOk P w K mg base CX0 4 f fd ["counts", "voice", "coset"] sp_put_one := by
  refine okM F sc_put_one (by rintro _ _ _ _ ⟨c, C, v, k, hn, rfl, rfl, hc, kk⟩; rfl) fun cdv A outer s H vs Q E as ds hr hR S => ?_
  obtain ⟨c, C, v, k, hn, rfl, rfl, hc, kk⟩ := hR
  have hu := hu_of hr
  refine ⟨_, (pss_one (ps_expr (pe_fn G_put_polygon (hr.mono (by decide)) (by rfl) (pa_cons (pv 0) (pa_cons (pe_callB (k_call_len_seq K) (by rfl) T.len PySem.boot_len (pa_cons (pv 1) pa_nil)) (pa_cons (pe_ix (k_ix_tup K) (pe_fn G_primes_in (hr.mono (by decide)) (by rfl) (pa_cons (pe_callB (k_call_len_seq K) (by rfl) T.len PySem.boot_len (pa_cons (pv 1) pa_nil)) pa_nil)) pe_int (fun _ _ => rfl)) (pa_cons (pv 2) (pa_cons (pe_ix (k_ix_tup K) (pv 1) (pv 2) (fun _ _ => rfl)) pa_nil)))))))), ?_⟩
  have hb := size_lt _ hn.1
  obtain ⟨p, hp⟩ : ∃ p, primesL v.length = [p] := by
    cases h : primesL v.length with
    | nil => rw [h] at hn; exact absurd hn.2.1 (by simp)
    | cons p l =>
      rw [h] at hn
      cases l with
      | nil => exact ⟨p, rfl⟩
      | cons => exact absurd hn.2.1 (by simp)
  have hpr := mem_primes (n := v.length) (p := p) (by rw [hp]; simp)
  have hnp : 1 ≤ v.length / p := Nat.div_pos hpr.2.1 (by omega)
  exact st_put1 (n := v.length) (p := p) (b := k) (m := v.getD k 0) S rfl (ea_cons ((ev_lenT (ev_var S rfl)).to (by rw [List.length_map])) (ea_cons (ev_ixT (k := 0) (ev_call (ea_cons ((ev_lenT (ev_var S rfl)).to (by rw [List.length_map])) ea_nil) ⟨v.length, hb, rfl, rfl⟩) ev_int (by rw [hp]; rfl) (by rw [hp]; rfl)) (ea_cons (ev_var S rfl) (ea_cons (ev_ixT (k := k) (ev_var S rfl) (ev_var S rfl) (ixN_nat (by rw [List.length_map]; exact hn.2.2.1)) (by rw [List.getElem?_map, getD_of hn.2.2.1]; rfl)) ea_nil)))) ⟨by omega, by omega, hnp, hb.2⟩ hc hn.2.2.2.1 hn.2.2.2.2 fun H1 C1 s1 h1 d1 l1 => kk H1 C1 s1 h1 d1 l1
end
end SB
namespace SB
open PySem PySem.Spec PyProof.Rows L2 RZ
open StX (tStar pa_star)
section
variable {P : Program} {w : World} {K : PySem.W.Frag} {mg : Str → Option Value} {base : Heap}
abbrev s__law_is_silent : Stmt := topS 97
theorem sc__law_is_silent : FnScope ["_law_voice_here", "_law_number"] ["_law_voice_here"] (defScope s__law_is_silent) := ⟨rfl, rfl, rfl, by decide +kernel, rfl, by decide +kernel, by decide +kernel⟩
theorem ok__law_is_silent {f : Addr} {fd : FuncData} (F : Fun K "_law_is_silent" "_law_is_silent" s__law_is_silent f fd) (T : Txt K mg) (G__law_rest : Fn P w K mg base "_law_rest" 3 ["_law_voice_here"] sp__law_rest) : FnOk P w K mg base CX0 4 f fd ["_law_voice_here"] sp__law_is_silent := by
  refine okD F sc__law_is_silent (by rintro _ _ ⟨v, hn, rfl, rfl⟩; rfl) fun cdv A outer s H vs Q E ds d hr hR S kk => ?_
  obtain ⟨v, hn, rfl, rfl⟩ := hR
  have hu := hu_of hr
  refine ⟨_, (pss_one (ps_ret (pe_cmpR (k_op_eqD K hr.units) (pe_lc (own := [("_law_number", 1)]) rfl sc__law_is_silent.nd (k_pi_tup K (pe_fn G__law_rest (hr.mono (by decide)) (by rfl) (pa_cons (pv 0) pa_nil))) (blkOk_by (by kernel_rfl)) (fun _ _ _ _ _ => (pg_name (i := 1) sc__law_is_silent.nd rfl (Or.inl rfl))) (fun _ _ _ _ _ => (pts_one (pt_cmpR op_ne (pv 1) pe_int (nomark _)))) (fun _ _ _ _ _ => (pv 1))) (pe_lst pa_nil) (nomark _)))), ?_⟩
  have hlen : (lrest v).length ≤ 1000 := by
    have h1 := (divL_len (cyc v.length) ((cyc v.length).length - 1) (v.length + 1 - (cyc v.length).length) (v.map fun _ => 0) v).2
    have := size_lt _ hn
    unfold lrest
    rw [List.length_take]
    omega
  refine st_ret ((ev_eqNil (ds := ((lrest v).filter fun x => !decide (x = 0)).map .int) (EvL.r (el_lc (xs := lrest v) (enc := .int) (p := fun x => !decide (x = 0)) (f := .int) S (wk_tup (ev_call (ea_cons (ev_var S rfl) ea_nil) ⟨v, hn, rfl, rfl⟩)).same (fun x _ => tg_name) (by omega) (fun x hx σ' H' e' S' => et_test (ev_ne (ev_var S' rfl) ev_int)) fun x hx _ σ' H' e' S' => ev_var S' rfl)) (shp_ints _)).to ?_) kk
  unfold lsilent
  congr 1
  rw [Bool.eq_iff_iff]
  simp [List.filter_eq_nil_iff]
end
end SB
namespace SB
open PySem PySem.Spec PyProof.Rows L2 RZ
open StX (tStar pa_star)
section
variable {P : Program} {w : World} {K : PySem.W.Frag} {mg : Str → Option Value} {base : Heap}
theorem ev_isN {σ : L2.St} {H : Hp} {ta : TE} (h : EvD ta σ H .none) : EvD (tOp (fun x y H Q => y = .non ∧ Q (.bl (decide (x = .non))) H) ta (tC .non)) σ H (.bool true) := fun H1 e Q q => h H1 e _ fun v H2 e2 r => by
  rw [r.non']
  exact ⟨rfl, q _ H2 e2 (.bl true)⟩
abbrev s__law_is_rows : Stmt := topS 103
theorem sc__law_is_rows : FnScope ["_law_size", "_law_value"] ["_law_size", "_law_value"] (defScope s__law_is_rows) := ⟨rfl, rfl, rfl, by decide +kernel, rfl, by decide +kernel, by decide +kernel⟩
theorem ok__law_is_rows {f : Addr} {fd : FuncData} (F : Fun K "_law_is_rows" "_law_is_rows" s__law_is_rows f fd) (T : Txt K mg) (G__law_row_fault : Fn P w K mg base "_law_row_fault" 3 ["_law_size", "_law_value", "_law_least"] sp__law_row_fault) : FnOk P w K mg base CX0 4 f fd ["_law_size", "_law_value"] sp__law_is_rows := by
  refine okD F sc__law_is_rows (by rintro _ _ ⟨n, rows, hn, rfl, rfl⟩; rfl) fun cdv A outer s H vs Q E ds d hr hR S kk => ?_
  obtain ⟨n, rows, hn, rfl, rfl⟩ := hR
  have hu := hu_of hr
  refine ⟨_, (pss_one (ps_ret (pe_and (pe_callB (k_call_isi K) (by rfl) T.isinstance (by decide +kernel) (pa_cons (pv 1) (pa_cons (pe_bltn (v := .ty "tuple") (u := .type "tuple") (by rfl) T.tuple (by decide +kernel) rfl) pa_nil))) (pe_one (pe_cmpR op_isN (pe_fn G__law_row_fault (hr.mono (by decide)) (by rfl) (pa_cons (pv 0) (pa_cons (pv 1) (pa_cons pe_non pa_nil)))) pe_non (nomark _)))))), ?_⟩
  exact st_ret ((ev_and (b := true) (c := true) (ev_isiT (b := true) (ev_var S rfl) (by decide +kernel)) fun _ => ev_isN (ev_call (ea_cons (ev_var S rfl) (ea_cons (ev_var S rfl) (ea_cons ev_non ea_nil))) ⟨n, rows, hn, rfl, rfl⟩)).to rfl) kk
end
end SB
namespace SB
open PySem PySem.Spec PyProof.Rows L2 RZ
open StX (tStar pa_star)
section
variable {P : Program} {w : World} {K : PySem.W.Frag} {mg : Str → Option Value} {base : Heap}
theorem st_parM {σ : L2.St} {H : Hp} {t1 t2 : TE} {e : PyData} {D : Ends} {i j : Nat} (h1 : EvD t1 σ H e) (h2 : ∀ v H1, Same H H1 → Dt H1 v e → t2 σ H1 (fun w H2 => ∃ v' w', [v, w] = [v', w'] ∧ D.nx ((σ.set i (some v')).set j (some w')) H2)) : tPar i j (tCons t1 (tCons t2 tNil)) D σ H :=
  h1 H (Same.refl H) _ fun v H1 e1 r1 => h2 v H1 e1 r1
theorem vbh_len' (n : Nat) (rows : List Row) : (vbh n rows).length = n := by simp [vbh]
theorem sum_bd {l : List Int} {b : Nat} (h : ∀ x ∈ l, -(b : Int) ≤ x ∧ x ≤ b) : -((l.length * b : Nat) : Int) ≤ l.sum ∧ l.sum ≤ ((l.length * b : Nat) : Int) := by
  induction l with
  | nil => simp
  | cons x l ih =>
    have h1 := h x List.mem_cons_self
    have h2 := ih fun y hy => h y (List.mem_cons_of_mem _ hy)
    rw [List.sum_cons, List.length_cons, Nat.succ_mul]
    push_cast at *
    omega
theorem vbh_bd {n : Nat} {rows : List Row} (h : ∀ r ∈ rows, -9 ≤ r.2.2 ∧ r.2.2 ≤ 9) (hl : rows.length ≤ 8) : ∀ x ∈ vbh n rows, -72 ≤ x ∧ x ≤ 72 := fun x hx => by
  unfold vbh at hx
  obtain ⟨b, _, rfl⟩ := List.mem_map.mp hx
  have h2 := sum_bd (b := 9) (l := (rows.filter fun r => decide ((b : Int) % ((n : Int) / r.1) = r.2.1)).map (·.2.2)) fun y hy => by
    obtain ⟨r, hr, rfl⟩ := List.mem_map.mp hy
    exact h r (List.mem_filter.mp hr).1
  have h3 := List.length_filter_le (fun r : Row => decide ((b : Int) % ((n : Int) / r.1) = r.2.1)) rows
  rw [List.length_map] at h2
  have h4 : (rows.filter fun r => decide ((b : Int) % ((n : Int) / r.1) = r.2.1)).length * 9 ≤ 72 := by omega
  omega
theorem feed_new2 {H : Hp} {a D : Addr} {ns : List Int} (h : FeedOk H a) (n : D ≠ a) : FeedOk (upd H D (.lst (ns.map V.int))) a := by
  obtain ⟨l, ms, i, j, c, f⟩ := h
  by_cases e : l = D
  · exact ⟨l, ns, i, j, c, by rw [upd_ne (Ne.symm n)]; exact f.1, by rw [e, upd_same], f.2.2⟩
  · exact ⟨l, ms, i, j, c, by rw [upd_ne (Ne.symm n)]; exact f.1, by rw [upd_ne e]; exact f.2.1, f.2.2⟩
theorem lc_drawn {K : PySem.W.Frag} {σ : L2.St} {H : Hp} {ρ : List Sd} {a : Addr} {n i : Nat} {wi : TI} {te : TE} {P : Int → Prop} {Q : VK} (S : Sl K σ H ρ) (f : FeedOk H a) (hw : Wk Tp wi σ H ((List.range n).map fun (k : Nat) => .int (k : Int))) (hn : n ≤ 100000)
    (he : ∀ σ' H' d, Sb a H H' → FeedOk H' a → Sl K σ' H' ((wipeS ρ [i]).set i (.dat d)) → ∀ Q : VK, (∀ x H2, P x → Sb a H' H2 → FeedOk H2 a → Q (.int x) H2) → te σ' H' Q)
    (k : ∀ p (ns : List Int) H', Sb a H H' → FeedOk H' a → H' p = some (.lst (ns.map V.int)) → ns.length = n → (∀ x ∈ ns, P x) → Q (.ref p) H') : tLc wi (gName i) tYes te [i] σ H Q := by
  refine hw H (Same.refl _) _ fun J H2 e2 wk D hD => ?_
  have f2 := f.same e2
  have hDa : D ≠ a := fun z => by
    obtain ⟨_, _, _, _, _, g, _⟩ := f2
    rw [← z, hD] at g
    cases g
  refine ⟨fun j m H' => m + j = n ∧ Sb a H2 H' ∧ FeedOk H' a ∧ ∃ ns : List Int, H' D = some (.lst (ns.map V.int)) ∧ ns.length = j ∧ ∀ x ∈ ns, P x, ⟨n, rfl, Same.sb (Same.new hD), f2.same (Same.new hD), [], upd_same, rfl, fun x hx => nomatch hx⟩, ?_⟩
  rintro j m H3 ⟨hm, s3, f3, ns, h3, l3, p3⟩
  obtain ⟨w1, w2⟩ := wk H3 (f2.tp s3)
  by_cases hj : j < n
  · obtain ⟨g1, g2⟩ := w1 j (.int (j : Int)) (by rw [List.getElem?_map, List.getElem?_range hj]; rfl)
    refine .inr ⟨g1, fun H' => Sb a H2 H' ∧ FeedOk H' a ∧ ∃ ns : List Int, H' D = some (.lst (ns.map V.int)) ∧ ns.length = j + 1 ∧ ∀ x ∈ ns, P x, fun H' h => ⟨m - 1, by omega, by omega, h⟩, fun x H4 hy => ?_⟩
    obtain ⟨e4, rx⟩ := g2 x H4 hy
    have S4 : Sl K (wipe σ [i]) H4 (wipeS ρ [i]) := ((S.wipe [i]).same e2).kp ((f2.kp s3).trans (Same.kp e4))
    refine tg_name (K := K) (n := i) x _ H4 _ _ S4 rx fun σ' S' l' h' => ⟨?_, ?_⟩
    · rw [wipe_eq l' (fun j hj => h' j fun q => hj q), wipe_wipe]
    · unfold tYes
      refine (if_pos rfl).mpr ?_
      refine he σ' H4 _ ((Same.sb e2).trans (s3.trans (Same.sb e4))) (f3.same e4) S' _ fun y H6 py s6 f6 => ?_
      refine ⟨ns.map V.int, s6 D _ hDa (e4 _ _ h3), ?_, fun b u nb hb => ?_, ?_, ns ++ [y], by rw [upd_same, List.map_append]; rfl, by rw [List.length_append, l3]; rfl, fun z hz => ?_⟩
      · rw [List.length_map]
        exact Nat.lt_of_lt_of_le (show ns.length < 100000 by omega) (by decide)
      · rw [upd_ne (ne_of_none hb hD)]
        exact s6 b u nb (e4 _ _ (s3 b u nb hb))
      · have := feed_new2 (ns := ns ++ [y]) f6 hDa
        rw [List.map_append] at this
        exact this
      · rcases List.mem_append.mp hz with h | h
        · exact p3 z h
        · rw [List.mem_singleton.mp h]; exact py
  · have hj' : j = n := by omega
    subst hj'
    exact .inl ⟨by simpa using w2, k D ns H3 ((Same.sb e2).trans s3) f3 h3 l3 p3⟩
abbrev s__law_drawn : Stmt := topS 106
theorem sc__law_drawn : FnScope ["_law_feed_here", "_law_size", "_law_rows", "_law_voice_here", "_law_way", "_law_k", "_law_weight"] ["_law_feed_here", "_law_size"] (defScope s__law_drawn) := ⟨rfl, rfl, rfl, by decide +kernel, rfl, by decide +kernel, by decide +kernel⟩
theorem ok__law_drawn {f : Addr} {fd : FuncData} (F : Fun K "_law_drawn" "_law_drawn" s__law_drawn f fd) (T : Txt K mg) (G__law_drawn_rows : Fn P w K mg base "_law_drawn_rows" 3 ["_law_feed_here", "_law_size", "_law_most", "_law_weights"] (sp__law_drawn_rows K)) (G__law_voice : Fn P w K mg base "_law_voice" 1 ["_law_size", "_law_rows"] sp__law_voice) (G__law_draw : Fn P w K mg base "_law_draw" 1 ["_law_feed_here", "_law_many"] sp__law_draw) (G__law_pick : Fn P w K mg base "_law_pick" 2 ["_law_feed_here", "_law_things"] (sp__law_pick K)) : FnOk P w K mg base CX0 4 f fd ["_law_feed_here", "_law_size"] sp__law_drawn := by
  refine okM F sc__law_drawn (by rintro _ _ _ _ ⟨a, n, hn, hf, rfl, rfl, kk⟩; rfl) fun cdv A outer s H vs Q E as ds hr hR S => ?_
  obtain ⟨a, n, hn, hf, rfl, rfl, kk⟩ := hR
  have hu := hu_of hr
  refine ⟨_, (pss_cons (ps_set (i := 2) sc__law_drawn.nd rfl (Or.inl rfl) (pe_fn G__law_drawn_rows (hr.mono (by decide)) (by rfl) (pa_cons (pv 0) (pa_cons (pv 1) (pa_cons pe_int (pa_cons (pe_lst (pa_cons pe_int (pa_cons pe_int (pa_cons pe_int (pa_cons pe_int (pa_cons (pe_un un_neg pe_int) (pa_cons (pe_un un_neg pe_int) (pa_cons (pe_un un_neg pe_int) (pa_cons pe_int pa_nil))))))))) pa_nil))))))
    (pss_cons (ps_par (i := 3) (j := 4) rfl sc__law_drawn.nd rfl rfl (by decide) rfl rfl (pa_cons (pe_fn G__law_voice (hr.mono (by decide)) (by rfl) (pa_cons (pv 1) (pa_cons (pv 2) pa_nil))) (pa_cons (pe_fn G__law_draw (hr.mono (by decide)) (by rfl) (pa_cons (pv 0) (pa_cons pe_int pa_nil))) pa_nil)) (by rfl))
    (pss_cons (ps_if (pt_cmpR op_eq (pv 4) pe_int (nomark _)) 
      (pss_cons (ps_set (i := 5) sc__law_drawn.nd rfl (Or.inl rfl) (pe_fn G__law_draw (hr.mono (by decide)) (by rfl) (pa_cons (pv 0) (pa_cons (pv 1) pa_nil))))
      (pss_cons (ps_set (i := 6) sc__law_drawn.nd rfl (Or.inl rfl) (pe_op op_add (pe_ix (k_ix_tup K) (pv 3) (pv 5) (fun _ _ => rfl)) (pe_fn G__law_pick (hr.mono (by decide)) (by rfl) (pa_cons (pv 0) (pa_cons (pe_lst (pa_cons pe_int (pa_cons (pe_un un_neg pe_int) (pa_cons pe_int (pa_cons pe_int pa_nil))))) pa_nil)))))
      (pss_one (ps_ret (pe_op (k_op_catA K) (pe_op (k_op_catA K) (pe_slice (k_sl_tupA K) (pv 3) po_none (po_some (pv 5))) (pe_tup (pa_cons (pv 6) pa_nil))) (pe_slice (k_sl_tupA K) (pv 3) (po_some (pe_op op_add (pv 5) pe_int)) po_none))))))
      pss_nil)
    (pss_cons (ps_if (PW.pt (pw_and (pt_cmpR op_eq (pv 4) pe_int (nomark _)) (pw_and1 (pt_cmpR op_lt (pv 1) pe_int (nomark _))))) 
      (pss_one (ps_ret (pe_callTy (k_call_tuple_of K) (by rfl) T.tuple (by decide +kernel) (pa_cons (pe_lc (own := [("_law_k", 5)]) rfl sc__law_drawn.nd (pi_range1 (by rfl) T.range (pa_cons (pv 1) pa_nil)) (blkOk_by (by kernel_rfl)) (fun _ _ _ _ _ => (pg_name (i := 5) sc__law_drawn.nd rfl (Or.inl rfl))) (fun _ _ _ _ _ => pts_nil) (fun _ _ _ _ _ => (pe_op op_sub (pe_fn G__law_draw (hr.mono (by decide)) (by rfl) (pa_cons (pv 0) (pa_cons pe_int pa_nil))) pe_int))) pa_nil))))
      pss_nil)
    (pss_one (ps_ret (pv 3))))))), ?_⟩
  have hnb := size_lt n hn
  have S : Sl K _ H [.ref a, .dat (.int (n : Int)), .un, .un, .un, .un, .un] := S
  refine sq (st_asgC S ?_)
  refine call_go (ta_cons (ev_ref S (k := 0) rfl H (Same.refl H) _ fun H1 e1 => ta_cons ?_))
  refine ev_var S (k := 1) rfl H1 e1 _ fun v2 H2 e2 r2 => ta_cons ?_
  refine ev_int H2 (e1.trans e2) _ fun v3 H3 e3 r3 => ta_cons ?_
  refine ((el_lst (ea_cons ev_int (ea_cons ev_int (ea_cons ev_int (ea_cons ev_int (ea_cons (ev_neg ev_int) (ea_cons (ev_neg ev_int) (ea_cons (ev_neg ev_int) (ea_cons ev_int ea_nil)))))))) (by simp)).to (es := ([1, 1, 2, 3, -1, -1, -2, 9] : List Int).map .int) rfl) H3 ((e1.trans e2).trans e3) _ fun p vs H4 hp e4 h4 r4 => ta_nil ?_
  refine ⟨a, p, n, [1, 1, 2, 3, -1, -1, -2, 9], by rw [r2.int', r3.int']; rfl, ⟨hnb.1, hnb.2, by decide, by decide⟩, hf.same (((e1.trans e2).trans e3).trans e4), ⟨vs, SqL.of h4, r4⟩, fun v rows H5 hrows hlen s5 f5 r5 => ?_⟩
  have e14 := ((e1.trans e2).trans e3).trans e4
  have b5 : Sb a H H5 := (Same.sb e14).trans s5
  have S5 : Sl K _ H5 [.ref a, .dat (.int (n : Int)), .dat (.tuple (rows.map rD)), .un, .un, .un, .un] := ((S.same e14).kp ((hf.same e14).kp s5)).setD 2 r5
  dsimp only
  refine sq (st_parM (ev_call (ea_cons (ev_var S5 rfl) (ea_cons (ev_var S5 rfl) ea_nil)) ⟨n, rows, ⟨hnb.1, hnb.2, by omega, fun r hr => (hrows r hr).1⟩, rfl, rfl⟩) fun v6 H6 e6 r6 => call_M (as := [a]) (ds := [.int ((6 : Nat) : Int)]) (ex_cons (ev_ref (S5.same e6) rfl) (ex_nil (ea_cons ev_int ea_nil))) fun H7 e7 => ⟨a, 6, ⟨by omega, by omega⟩, f5.same (e6.trans e7), rfl, rfl, fun r H8 hr s8 f8 => ⟨_, _, rfl, ?_⟩⟩)
  have e67 := e6.trans e7
  have kp8 : Kp K H5 H8 := (Same.kp e67).trans ((f5.same e67).kp s8)
  have b8 : Sb a H H8 := b5.trans ((Same.sb e67).trans s8)
  obtain ⟨vo, hvo⟩ : ∃ vo, vbh n rows = vo := ⟨_, rfl⟩
  rw [hvo] at r6
  have lvo : vo.length = n := by rw [← hvo, vbh_len']
  have bvo : ∀ x ∈ vo, -72 ≤ x ∧ x ≤ 72 := fun x hx => by
    rw [← hvo] at hx
    refine vbh_bd (fun r hr => ?_) hlen x hx
    have := (hrows r hr).2
    have h : ∀ w ∈ ([1, 1, 2, 3, -1, -1, -2, 9] : List Int), -9 ≤ w ∧ w ≤ 9 := by decide
    exact h _ this
  have S8 : Sl K _ H8 [.ref a, .dat (.int (n : Int)), .dat (.tuple (rows.map rD)), .dat (tI vo), .dat (.int (r : Int)), .un, .un] := ((S5.kp kp8).setD 3 (r6.kp ((Same.kp (K := K) e7).trans ((f5.same e67).kp s8)))).setD 4 (.int _)
  refine sq (st_if (et_test (ev_eq (ev_var S8 rfl) ev_int)) (fun _ H9 e9 => ?_) fun _ H9 e9 => ?_)
  · have S9 := S8.same e9
    have f9 := f8.same e9
    refine sq (st_asgC S9 (call_M (as := [a]) (ds := [.int (n : Int)]) (ex_cons (ev_ref S9 rfl) (ex_nil (ea_cons (ev_var S9 rfl) ea_nil))) fun H10 e10 => ⟨a, n, ⟨hnb.1, by omega⟩, f9.same e10, rfl, rfl, fun k H11 hk s11 f11 => ?_⟩))
    have S11 : Sl K _ H11 [.ref a, .dat (.int (n : Int)), .dat (.tuple (rows.map rD)), .dat (tI vo), .dat (.int (r : Int)), .dat (.int (k : Int)), .un] := ((S9.same e10).kp ((f9.same e10).kp s11)).setD 5 (.int _)
    have b11 : Sb a H H11 := b8.trans ((Same.sb (e9.trans e10)).trans s11)
    dsimp only
    refine sq (st_asgC S11 ?_)
    refine ev_ixT (k := k) (d := .int (vo.getD k 0)) (ev_var S11 (k := 3) rfl) (ev_var S11 (k := 5) rfl) (ixN_nat (by rw [List.length_map, lvo]; exact hk)) (by rw [List.getElem?_map, getD_of (by rw [lvo]; exact hk)]; rfl) H11 (Same.refl _) _ fun v12 H12 e12 r12 => ?_
    refine call_go (ta_cons (ev_ref S11 (k := 0) rfl H12 e12 _ fun H13 e13 => ta_cons ?_))
    refine ((el_lst (ea_cons ev_int (ea_cons (ev_neg ev_int) (ea_cons ev_int (ea_cons ev_int ea_nil)))) (by simp)).to (es := ([1, -1, 2, 300] : List Int).map .int) rfl) H13 (e12.trans e13) _ fun p2 vs2 H14 hp2 e14 h14 r14 => ta_nil ?_
    refine ⟨[a, p2], [], [], rfl, .nil, a, p2, _, ⟨by simp, by simp⟩, f11.same ((e12.trans e13).trans e14), ⟨vs2, SqL.of h14, r14⟩, rfl, rfl, fun v15 d15 H15 hd15 s15 f15 r15 => ?_⟩
    have e1214 := (e12.trans e13).trans e14
    obtain ⟨x15, hx15, rfl⟩ := List.mem_map.mp hd15
    have hx15 : -300 ≤ x15 ∧ x15 ≤ 300 := (by decide : ∀ w ∈ ([1, -1, 2, 300] : List Int), -300 ≤ w ∧ w ≤ 300) _ hx15
    rw [r15.int', r12.int']
    refine ⟨_, _, rfl, rfl, ?_⟩
    obtain ⟨z, hz⟩ : ∃ z, vo.getD k 0 + x15 = z := ⟨_, rfl⟩
    dsimp only
    rw [hz]
    have hzb : -1000 ≤ z ∧ z ≤ 1000 := by
      have : vo.getD k 0 ∈ vo := by
        rw [List.getD_eq_getElem?_getD, List.getElem?_eq_getElem (by rw [lvo]; exact hk)]
        exact List.getElem_mem _
      have := bvo _ this
      omega
    have S15 : Sl K _ H15 [.ref a, .dat (.int (n : Int)), .dat (.tuple (rows.map rD)), .dat (tI vo), .dat (.int (r : Int)), .dat (.int (k : Int)), .dat (.int z)] := ((S11.same e1214).kp ((f11.same e1214).kp s15)).setD 6 (.int _)
    refine st_ret (ev_catT (ev_catT (ev_slT (lo := none) (hi := some (k : Int)) (ev_var S15 rfl) eo_none (eo_some (ev_var S15 rfl))) (ev_tup (ea_cons (ev_var S15 rfl) ea_nil) (by simp)) ?_) (ev_slT (lo := some ((k + 1 : Nat) : Int)) (hi := none) (ev_var S15 rfl) (eo_some ((ev_add (ev_var S15 rfl) ev_int).to (by push_cast; rfl))) eo_none) ?_) fun w H16 e16 r16 => kk w (vo.take k ++ [z] ++ vo.drop (k + 1)) H16 ?_ (fun x hx => ?_) (b11.trans ((Same.sb e1214).trans (s15.trans (Same.sb e16)))) (f15.same e16) ?_
    · rw [cut_map, cut_take _ _ (by rw [lvo]; omega)]
      simp
      omega
    · rw [cut_map, cut_map, cut_take _ _ (by rw [lvo]; omega), cut_drop _ _ (by rw [lvo]; omega)]
      simp
      omega
    · simp
      omega
    · have hx : x ∈ vo ∨ x = z := by
        simp only [List.mem_append, List.mem_singleton] at hx
        rcases hx with (h | h) | h
        · exact .inl (List.mem_of_mem_take h)
        · exact .inr h
        · exact .inl (List.mem_of_mem_drop h)
      rcases hx with h | h
      · have := bvo x h
        omega
      · rw [h]; exact hzb
    · rw [cut_map, cut_map, cut_take _ _ (by rw [lvo]; omega), cut_drop _ _ (by rw [lvo]; omega)] at r16
      unfold tI
      rw [List.map_append, List.map_append]
      exact r16
  · have S9 := S8.same e9
    have f9 := f8.same e9
    refine sq (st_if (et_and (et_test (ev_eq (ev_var S9 rfl) ev_int)) fun _ => et_test (ev_lt (ev_var S9 rfl) ev_int)) (fun _ H10 e10 => ?_) fun _ H10 e10 => ?_)
    · have S10 := S9.same e10
      have f10 := f9.same e10
      refine ret_cb (ta_cons (lc_drawn (K := K) (P := fun x => -2 ≤ x ∧ x ≤ 2) S10 f10 (wk_rng1 (n := (n : Int)) (ea_cons (ev_var S10 (k := 1) rfl) ea_nil) (by omega) (rng_d0 n (by omega))) (by omega) (fun σ' H' d s' f' S' Q' k' => ?_) fun p ns H' s' f' h' l' p' => ta_nil ?_))
      · refine call_M (as := [a]) (ds := [.int ((5 : Nat) : Int)]) (ex_cons (ev_ref S' (k := 0) rfl) (ex_nil (ea_cons ev_int ea_nil))) fun H11 e11 => ⟨a, 5, ⟨by omega, by omega⟩, f'.same e11, rfl, rfl, fun r2 H12 hr2 s12 f12 => ?_⟩
        exact ⟨_, _, rfl, rfl, k' ((r2 : Int) - 2) H12 (by omega) ((Same.sb e11).trans s12) f12⟩
      · refine ⟨p, _, rfl, .inl ⟨SqL.of h', fun q hq => ?_⟩⟩
        exact kk _ ns _ l' (fun x hx => by have := p' x hx; omega) (b8.trans ((Same.sb (e9.trans e10)).trans (s'.trans (Same.sb (Same.new hq))))) (f'.same (Same.new hq)) (Dt.ofI upd_same)
    · have S10 := S9.same e10
      exact st_ret (ev_var S10 rfl) fun w H11 e11 r11 => kk w vo H11 lvo (fun x hx => by have := bvo x hx; omega) (b8.trans (Same.sb ((e9.trans e10).trans e11))) (f9.same (e10.trans e11)) r11
end
end SB
namespace SB
open PySem PySem.Spec PyProof.Rows L2 RZ
open StX (tStar pa_star)
section
variable {P : Program} {w : World} {K : PySem.W.Frag} {mg : Str → Option Value} {base : Heap}
abbrev s_is_heap_row : Stmt := topS 29
theorem sc_is_heap_row : FnScope ["size", "thing"] ["size", "thing"] (defScope s_is_heap_row) := ⟨rfl, rfl, rfl, by decide +kernel, rfl, by decide +kernel, by decide +kernel⟩
theorem ok_is_heap_row {f : Addr} {fd : FuncData} (F : Fun K "is_heap_row" "is_heap_row" s_is_heap_row f fd) (T : Txt K mg) (G_is_polygon_of : Fn P w K mg base "is_polygon_of" 4 ["size", "prime", "first"] sp_is_polygon_of) (G_is_tuple_of : Fn P w K mg base "is_tuple_of" 1 ["thing", "many"] sp_is_tuple_of) (G_is_integer : Fn P w K mg base "is_integer" 1 ["thing"] sp_is_integer) : FnOk P w K mg base CX0 5 f fd ["size", "thing"] sp_is_heap_row := by
  refine okD F sc_is_heap_row (by rintro _ _ ⟨n, r, hn, rfl, rfl⟩; rfl) fun cdv A outer s H vs Q E ds d hr hR S kk => ?_
  obtain ⟨n, r, hn, rfl, rfl⟩ := hR
  have hu := hu_of hr
  refine ⟨_, (pss_cons (ps_if (PW.pt (pw_or (pt_not (pt_val (pe_fn G_is_tuple_of (hr.mono (by decide)) (by rfl) (pa_cons (pv 1) (pa_cons pe_int pa_nil))))) (pw_or1 (pt_not (pt_val (pe_fn G_is_polygon_of (hr.mono (by decide)) (by rfl) (pa_cons (pv 0) (pa_cons (pe_ix (k_ix_tup K) (pv 1) pe_int (fun _ _ => rfl)) (pa_cons (pe_ix (k_ix_tup K) (pv 1) pe_int (fun _ _ => rfl)) pa_nil))))))))) 
      (pss_one (ps_ret pe_bl))
      pss_nil)
    (pss_one (ps_ret (pe_and (pe_fn G_is_integer (hr.mono (by decide)) (by rfl) (pa_cons (pe_ix (k_ix_tup K) (pv 1) pe_int (fun _ _ => rfl)) pa_nil)) (pe_one (pe_cmpR op_ne (pe_ix (k_ix_tup K) (pv 1) pe_int (fun _ _ => rfl)) pe_int (nomark _))))))), ?_⟩
  refine sq (st_if (et_or (b := false) ((et_not (et_B (ev_call (ea_cons (ev_var S rfl) (ea_cons ev_int ea_nil)) ⟨_, 3, rfl, rfl⟩))).to (by simp)) fun _ => et_not (et_B (ev_call (ea_cons (ev_var S rfl) (ea_cons (ev_ixT (k := 0) (ev_var S rfl) ev_int rfl rfl) (ea_cons (ev_ixT (k := 1) (ev_var S rfl) ev_int rfl rfl) ea_nil))) ⟨n, r.1, r.2.1, hn, rfl, rfl⟩))) (fun hb H1 e1 => ?_) fun hb H1 e1 => ?_)
  · refine st_ret (ev_bl (b := false)) fun v H2 e2 r2 => kk v H2 (e1.trans e2) ?_
    have : polyB n r.1 r.2.1 = false := by simpa using hb
    unfold rowB
    rw [this]
    exact r2
  · have hp : polyB n r.1 r.2.1 = true := by simpa using hb
    refine st_ret (ev_and (b := true) (ev_call (ea_cons (ev_ixT (k := 2) (ev_var (S.same e1) rfl) ev_int rfl rfl) ea_nil) ⟨r.2.2, rfl, rfl⟩) fun _ => ev_ne (ev_ixT (k := 2) (ev_var (S.same e1) rfl) ev_int rfl rfl) ev_int) fun v H2 e2 r2 => kk v H2 (e1.trans e2) ?_
    unfold rowB
    rw [hp]
    exact r2
end
end SB
namespace SB
open PySem PySem.Spec PyProof.Rows L2 RZ
open StX (tStar pa_star)
section
variable {P : Program} {w : World} {K : PySem.W.Frag} {mg : Str → Option Value} {base : Heap}
abbrev s_beat_with : Stmt := topS 36
theorem sc_beat_with : FnScope ["size", "coset", "rests"] ["size", "coset", "rests"] (defScope s_beat_with) := ⟨rfl, rfl, rfl, by decide +kernel, rfl, by decide +kernel, by decide +kernel⟩
theorem ok_beat_with {f : Addr} {fd : FuncData} (F : Fun K "beat_with" "beat_with" s_beat_with f fd) (T : Txt K mg) (G_step_in : Fn P w K mg base "step_in" 4 ["size"] sp_step_in) (G_number_with : Fn P w K mg base "number_with" 1 ["primes", "rests"] sp_number_with) (G_primes_in : Fn P w K mg base "primes_in" 3 ["number"] sp_primes_in) : FnOk P w K mg base CX0 5 f fd ["size", "coset", "rests"] sp_beat_with := by
  refine okD F sc_beat_with (by rintro _ _ ⟨n, c, rs, hn, rfl, rfl⟩; rfl) fun cdv A outer s H vs Q E ds d hr hR S kk => ?_
  obtain ⟨n, c, rs, hn, rfl, rfl⟩ := hR
  have hu := hu_of hr
  refine ⟨_, (pss_one (ps_ret (pe_op op_add (pv 1) (pe_op op_mul (pe_fn G_step_in (hr.mono (by decide)) (by rfl) (pa_cons (pv 0) pa_nil)) (pe_fn G_number_with (hr.mono (by decide)) (by rfl) (pa_cons (pe_fn G_primes_in (hr.mono (by decide)) (by rfl) (pa_cons (pv 0) pa_nil)) (pa_cons (pv 2) pa_nil))))))), ?_⟩
  have hst := (primes_small n (mem_drop1 hn.1 hn.2.1)).2
  refine st_ret ((ev_add (ev_var S rfl) (ev_mul (ev_call (ea_cons (ev_var S rfl) ea_nil) ⟨n, ⟨hn.1, hn.2.1⟩, rfl, rfl⟩) (ev_call (ea_cons (ev_call (ea_cons (ev_var S rfl) ea_nil) ⟨n, ⟨hn.1, hn.2.1⟩, rfl, rfl⟩) (ea_cons (ev_var S rfl) ea_nil)) ⟨_, rs, hn.2.2, rfl, rfl⟩) (.inl (by omega)))).to ?_) kk
  unfold beatL
  push_cast
  rfl
end
end SB
namespace SB
open PySem PySem.Spec PyProof.Rows L2 RZ
open StX (tStar pa_star)
section
variable {P : Program} {w : World} {K : PySem.W.Frag} {mg : Str → Option Value} {base : Heap}
abbrev s_rest_in : Stmt := topS 48
theorem sc_rest_in : FnScope ["voice", "divisor"] ["voice", "divisor"] (defScope s_rest_in) := ⟨rfl, rfl, rfl, by decide +kernel, rfl, by decide +kernel, by decide +kernel⟩
theorem ok_rest_in {f : Addr} {fd : FuncData} (F : Fun K "rest_in" "rest_in" s_rest_in f fd) (T : Txt K mg) (G_split_at : Fn P w K mg base "split_at" 4 ["voice", "divisor"] sp_split_at) : FnOk P w K mg base CX0 5 f fd ["voice", "divisor"] sp_rest_in := by
  refine okD F sc_rest_in (by rintro _ _ ⟨v, k, hn, rfl, rfl⟩; rfl) fun cdv A outer s H vs Q E ds d hr hR S kk => ?_
  obtain ⟨v, k, hn, rfl, rfl⟩ := hR
  have hu := hu_of hr
  refine ⟨_, (pss_one (ps_ret (pe_ix (k_ix_tup K) (pe_fn G_split_at (hr.mono (by decide)) (by rfl) (pa_cons (pv 0) (pa_cons (pv 1) pa_nil))) pe_int (fun _ _ => rfl)))), ?_⟩
  exact st_ret (ev_ixT (k := 1) (ev_call (ea_cons (ev_var S rfl) (ea_cons (ev_var S rfl) ea_nil)) ⟨v, k, hn, rfl, rfl⟩) ev_int rfl rfl) kk
end
end SB
namespace SB
open PySem PySem.Spec PyProof.Rows L2 RZ
open StX (tStar pa_star)
section
variable {P : Program} {w : World} {K : PySem.W.Frag} {mg : Str → Option Value} {base : Heap}
abbrev s_polygon : Stmt := topS 81
theorem sc_polygon : FnScope ["size", "prime", "first"] ["size", "prime", "first"] (defScope s_polygon) := ⟨rfl, rfl, rfl, by decide +kernel, rfl, by decide +kernel, by decide +kernel⟩
theorem ok_polygon {f : Addr} {fd : FuncData} (F : Fun K "polygon" "polygon" s_polygon f fd) (T : Txt K mg) (G_want_size : Fn P w K mg base "want_size" 3 ["thing"] sp_want_size) (G_want : FnW P w K mg base "want" 1 ["holds", "word", "at"] sp_want) (G_primes_in : Fn P w K mg base "primes_in" 3 ["number"] sp_primes_in) (G_is_integer : Fn P w K mg base "is_integer" 1 ["thing"] sp_is_integer) (G_is_polygon_of : Fn P w K mg base "is_polygon_of" 4 ["size", "prime", "first"] sp_is_polygon_of) (G_voice_by : Fn P w K mg base "voice_by" 1 ["size", "beats"] (sp_voice_by K)) (G_polygon_beats : Fn P w K mg base "polygon_beats" 1 ["size", "prime", "first"] sp_polygon_beats) : FnOk P w K mg base CX0 5 f fd ["size", "prime", "first"] sp_polygon := by
  refine okD F sc_polygon (by rintro _ _ ⟨n, p, g, hn, rfl, rfl⟩; rfl) fun cdv A outer s H vs Q E ds d hr hR S kk => ?_
  obtain ⟨n, p, g, hn, rfl, rfl⟩ := hR
  have hu := hu_of hr
  refine ⟨_, (pss_cons (ps_expr (pe_fn G_want_size (hr.mono (by decide)) (by rfl) (pa_cons (pv 0) pa_nil)))
    (pss_cons (ps_expr (pe_fnW G_want (hr.mono (by decide)) (by rfl) (pa_cons (pe_and (pe_fn G_is_integer (hr.mono (by decide)) (by rfl) (pa_cons (pv 1) pa_nil)) (pe_one (pe_cmpR (k_op_in_seq K) (pv 1) (pe_fn G_primes_in (hr.mono (by decide)) (by rfl) (pa_cons (pv 0) pa_nil)) (by rfl)))) (pa_cons pe_str pa_nil))))
    (pss_cons (ps_expr (pe_fnW G_want (hr.mono (by decide)) (by rfl) (pa_cons (pe_fn G_is_polygon_of (hr.mono (by decide)) (by rfl) (pa_cons (pv 0) (pa_cons (pv 1) (pa_cons (pv 2) pa_nil)))) (pa_cons pe_str pa_nil))))
    (pss_one (ps_ret (pe_fn G_voice_by (hr.mono (by decide)) (by rfl) (pa_cons (pv 0) (pa_cons (pe_fn G_polygon_beats (hr.mono (by decide)) (by rfl) (pa_cons (pv 0) (pa_cons (pv 1) (pa_cons (pv 2) pa_nil)))) pa_nil)))))))), ?_⟩
  have hp := mem_primes hn.2.2.1
  have hnb : 1 ≤ n ∧ n < 111 := ⟨hn.1, hn.2.1⟩
  refine sq (st_drop (ev_call (ea_cons (ev_var S rfl) ea_nil) ⟨(n : Int), by omega, rfl, rfl⟩) fun H1 e1 => ?_)
  have S1 := S.same e1
  refine sq (st_drop (ev_call (ea_cons ((ev_and (b := true) (ev_call (ea_cons (ev_var S1 rfl) ea_nil) ⟨(p : Int), rfl, rfl⟩) fun _ => ev_inT (ns := zs (primesL n)) (ev_var S1 rfl) (ev_call (ea_cons (ev_var S1 rfl) ea_nil) ⟨n, hnb, rfl, rfl⟩)).to (by rw [any_zs_of hn.2.2.1]; rfl)) (ea_cons ev_str ea_nil)) ⟨_, rfl, rfl⟩) fun H2 e2 => ?_)
  have S2 := S1.same e2
  refine sq (st_drop (ev_call (ea_cons ((ev_call (ea_cons (ev_var S2 rfl) (ea_cons (ev_var S2 rfl) (ea_cons (ev_var S2 rfl) ea_nil))) ⟨n, p, g, hnb, rfl, rfl⟩).to (by rw [polyB_mk hn.2.2.1 hn.2.2.2])) (ea_cons ev_str ea_nil)) ⟨_, rfl, rfl⟩) fun H3 e3 => ?_)
  have S3 := S2.same e3
  refine st_ret (ev_voiceBy (ev_var S3 rfl) (el_call (ea_cons (ev_var S3 rfl) (ea_cons (ev_var S3 rfl) (ea_cons (ev_var S3 rfl) ea_nil))) ⟨n, p, g, ⟨by omega, by omega, hn.2.1⟩, rfl, rfl⟩) (ns := polyBeats n p g) (by unfold polyBeats; rw [List.map_map]; rfl) hn.2.1) fun w H4 e4 r4 => kk w H4 (((e1.trans e2).trans e3).trans e4) r4
end
end SB
namespace SB
open PySem PySem.Spec PyProof.Rows L2 RZ
open StX (tStar pa_star)
section
variable {P : Program} {w : World} {K : PySem.W.Frag} {mg : Str → Option Value} {base : Heap}
abbrev s_is_heap_of : Stmt := topS 30
theorem sc_is_heap_of : FnScope ["size", "thing", "one"] ["size", "thing"] (defScope s_is_heap_of) := ⟨rfl, rfl, rfl, by decide +kernel, rfl, by decide +kernel, by decide +kernel⟩
theorem ok_is_heap_of {f : Addr} {fd : FuncData} (F : Fun K "is_heap_of" "is_heap_of" s_is_heap_of f fd) (T : Txt K mg) (G_is_heap_row : Fn P w K mg base "is_heap_row" 5 ["size", "thing"] sp_is_heap_row) (G_are_ascending : Fn P w K mg base "are_ascending" 1 ["things"] (sp_are_ascending K)) : FnOk P w K mg base CX0 6 f fd ["size", "thing"] sp_is_heap_of := by
  refine okD F sc_is_heap_of (by rintro _ _ ⟨n, rows, hn, rfl, rfl⟩; rfl) fun cdv A outer s H vs Q E ds d hr hR S kk => ?_
  obtain ⟨n, rows, hn, rfl, rfl⟩ := hR
  have hu := hu_of hr
  refine ⟨_, (pss_cons (ps_if (PW.pt (pw_or (pt_not (pt_val (pe_callB (k_call_isi K) (by rfl) T.isinstance (by decide +kernel) (pa_cons (pv 1) (pa_cons (pe_bltn (v := .ty "tuple") (u := .type "tuple") (by rfl) T.tuple (by decide +kernel) rfl) pa_nil))))) (pw_or1 (pt_not (pt_val (pe_callB (k_cr_all K rfl) (by rfl) T.all (by decide +kernel) (pa_cons (pe_lc (own := [("one", 2)]) rfl sc_is_heap_of.nd (k_pi_tup K (pv 1)) (blkOk_by (by kernel_rfl)) (fun _ _ _ _ _ => (pg_name (i := 2) sc_is_heap_of.nd rfl (Or.inl rfl))) (fun _ _ _ _ _ => pts_nil) (fun _ _ _ _ _ => (pe_fn G_is_heap_row (hr.mono (by decide)) (by rfl) (pa_cons (pv 0) (pa_cons (pv 2) pa_nil))))) pa_nil))))))) 
      (pss_one (ps_ret pe_bl))
      pss_nil)
    (pss_one (ps_ret (pe_fn G_are_ascending (hr.mono (by decide)) (by rfl) (pa_cons (pe_lc (own := [("one", 2)]) rfl sc_is_heap_of.nd (k_pi_tup K (pv 1)) (blkOk_by (by kernel_rfl)) (fun _ _ _ _ _ => (pg_name (i := 2) sc_is_heap_of.nd rfl (Or.inl rfl))) (fun _ _ _ _ _ => pts_nil) (fun _ _ _ _ _ => (pe_slice (k_sl_tupA K) (pv 2) po_none (po_some pe_int)))) pa_nil))))), ?_⟩
  refine sq (st_if (et_or (b := false) ((et_not (et_B (ev_isiT (b := true) (ev_var S rfl) (by decide +kernel)))).to rfl) fun _ => et_not (et_B ((ev_all (bs := rows.map (rowB n)) (EvL.r ((el_lc0 (xs := rows) (enc := rD) (f := fun r => .bool (rowB n r)) S (wk_tup (ev_var S rfl)).same (fun x _ => tg_name) (by omega) ?_).to (by simp)))).to (e := .bool (rows.all (rowB n))) ?_))) (fun hb H1 e1 => ?_) fun hb H1 e1 => ?_)
  · intro r hr' σ2 H2 e2 S2
    exact ev_call (ea_cons (ev_var S2 rfl) (ea_cons (ev_var S2 rfl) ea_nil)) ⟨n, r, ⟨hn.1, hn.2.1⟩, rfl, rfl⟩
  · rw [List.all_map]; rfl
  · refine st_ret (ev_bl (b := false)) fun v H2 e2 r2 => kk v H2 (e1.trans e2) ?_
    have : rows.all (rowB n) = false := by simpa using hb
    unfold heapB
    rw [this]
    exact r2
  · have hp : rows.all (rowB n) = true := by simpa using hb
    have S1 := S.same e1
    refine st_ret (d := .bool (heapB n rows)) (ev_callA (el_lc0 (xs := rows) (enc := rD) (f := fun r => kD (keyR r)) S1 (wk_tup (ev_var S1 rfl)).same (fun x _ => tg_name) (by omega) ?_) fun p vs H2 h2 r2 H3 e3 Q2 k2 => ?_) fun v H2 e2 r2 => kk v H2 (e1.trans e2) r2
    · intro r hr' σ2 H2 e2 S2
      exact ev_slT (ds := [.int r.1, .int r.2.1, .int r.2.2]) (lo := none) (hi := some 2) (ev_var S2 (k := 2) rfl) eo_none (eo_some ev_int)
    · refine ⟨p, rows.map keyR, rfl, (RdL.same e3 ⟨vs, SqL.of h2, ?_⟩), by simp; omega, fun H4 e4 => ?_⟩
      · rw [List.map_map]; exact r2
      · have := k2 (.bl (heapB n rows)) H4 e4 (.bl _)
        unfold heapB at this
        rw [hp] at this
        exact this
end
end SB
namespace SB
open PySem PySem.Spec PyProof.Rows L2 RZ
open StX (tStar pa_star)
section
variable {P : Program} {w : World} {K : PySem.W.Frag} {mg : Str → Option Value} {base : Heap}
theorem rest_len {v : List Int} {k : Nat} (h1 : v.length ≤ 1000) (h2 : k ∈ subSizes) : (restL v k).length ≤ 2000 := by
  have hb := sub_lt k h2
  have hp := phi_le k
  have := Nat.le_trans (pparted_len (stripL v) (cyc k)).2 (stripL_len v)
  show (padTo (pparted (stripL v) (cyc k)).2 (phi k)).length ≤ 2000
  unfold padTo
  rw [List.length_append, List.length_replicate]
  omega
abbrev s_is_silent_in : Stmt := topS 49
theorem sc_is_silent_in : FnScope ["voice", "divisor", "number"] ["voice", "divisor"] (defScope s_is_silent_in) := ⟨rfl, rfl, rfl, by decide +kernel, rfl, by decide +kernel, by decide +kernel⟩
theorem ok_is_silent_in {f : Addr} {fd : FuncData} (F : Fun K "is_silent_in" "is_silent_in" s_is_silent_in f fd) (T : Txt K mg) (G_rest_in : Fn P w K mg base "rest_in" 5 ["voice", "divisor"] sp_rest_in) : FnOk P w K mg base CX0 6 f fd ["voice", "divisor"] sp_is_silent_in := by
  refine okD F sc_is_silent_in (by rintro _ _ ⟨v, k, hn, rfl, rfl⟩; rfl) fun cdv A outer s H vs Q E ds d hr hR S kk => ?_
  obtain ⟨v, k, hn, rfl, rfl⟩ := hR
  have hu := hu_of hr
  refine ⟨_, (pss_one (ps_ret (pe_callB (k_cr_all K rfl) (by rfl) T.all (by decide +kernel) (pa_cons (pe_lc (own := [("number", 2)]) rfl sc_is_silent_in.nd (k_pi_tup K (pe_fn G_rest_in (hr.mono (by decide)) (by rfl) (pa_cons (pv 0) (pa_cons (pv 1) pa_nil)))) (blkOk_by (by kernel_rfl)) (fun _ _ _ _ _ => (pg_name (i := 2) sc_is_silent_in.nd rfl (Or.inl rfl))) (fun _ _ _ _ _ => pts_nil) (fun _ _ _ _ _ => (pe_cmpR op_eq (pv 2) pe_int (nomark _)))) pa_nil)))), ?_⟩
  refine st_ret ((ev_all (bs := (restL v k).map fun x => decide (x = 0)) (EvL.r ((el_lc0 (xs := restL v k) (enc := .int) (f := fun x => .bool (decide (x = 0))) S (wk_tup (ev_call (ea_cons (ev_var S rfl) (ea_cons (ev_var S rfl) ea_nil)) ⟨v, k, hn, rfl, rfl⟩)).same (fun x _ => tg_name) ?_ fun x _ σ' H' _ S' => ev_eq (ev_var S' rfl) ev_int).to (by rw [List.map_map]; rfl)))).to ?_) kk
  · have := rest_len hn.1 hn.2
    omega
  · unfold silentB
    rw [List.all_map]
    rfl
end
end SB
namespace SB
open PySem PySem.Spec PyProof.Rows L2 RZ
open StX (tStar pa_star)
section
variable {P : Program} {w : World} {K : PySem.W.Frag} {mg : Str → Option Value} {base : Heap}
abbrev s_table_at : Stmt := topS 38
theorem sc_table_at : FnScope ["voice", "coset", "size", "rests"] ["voice", "coset"] (defScope s_table_at) := ⟨rfl, rfl, rfl, by decide +kernel, rfl, by decide +kernel, by decide +kernel⟩
theorem ok_table_at {f : Addr} {fd : FuncData} (F : Fun K "table_at" "table_at" s_table_at f fd) (T : Txt K mg) (G_all_rests : Fn P w K mg base "all_rests" 1 ["primes"] sp_all_rests) (G_primes_in : Fn P w K mg base "primes_in" 3 ["number"] sp_primes_in) (G_beat_with : Fn P w K mg base "beat_with" 5 ["size", "coset", "rests"] sp_beat_with) : FnOk P w K mg base CX0 6 f fd ["voice", "coset"] sp_table_at := by
  refine okM F sc_table_at (by rintro _ _ _ _ ⟨v, c, hn, rfl, rfl, kk⟩; rfl) fun cdv A outer s H vs Q E as ds hr hR S => ?_
  obtain ⟨v, c, hn, rfl, rfl, kk⟩ := hR
  have hu := hu_of hr
  refine ⟨_, (pss_cons (ps_set (i := 2) sc_table_at.nd rfl (Or.inr rfl) (pe_callB (k_call_len_seq K) (by rfl) T.len PySem.boot_len (pa_cons (pv 0) pa_nil)))
    (pss_one (ps_ret (pe_dcT (own := [("rests", 3)]) rfl sc_table_at.nd hu (k_pi_list K (pe_fn G_all_rests (hr.mono (by decide)) (by rfl) (pa_cons (pe_fn G_primes_in (hr.mono (by decide)) (by rfl) (pa_cons (pv 2) pa_nil)) pa_nil))) (blkOk_by (by kernel_rfl)) (fun _ _ _ _ _ => (pg_name (i := 3) sc_table_at.nd rfl (Or.inl rfl))) (fun _ _ _ _ _ => pts_nil) (fun _ _ _ _ _ => (pv 3)) (fun _ _ _ _ _ => (pe_ix (k_ix_tup K) (pv 0) (pe_fn G_beat_with (hr.mono (by decide)) (by rfl) (pa_cons (pv 2) (pa_cons (pv 1) (pa_cons (pv 3) pa_nil)))) (fun _ _ => rfl))))))), ?_⟩
  have hb := size_lt _ hn.1
  refine sq (st_set S ((ev_lenT (ev_var S rfl)).to (by rw [List.length_map])) fun σ1 H1 e1 S1 => ?_)
  refine st_retC (ec_dc (xs := allR (primesL v.length)) (enc := fun rs => tI (zs rs)) (kf := fun rs => zs rs) (vf := fun rs => v.getD (beatL v.length c rs) 0) S1 (wk_bothK (wk_list (EvL.r (el_call (ea_cons (ev_call (ea_cons (ev_var S1 rfl) ea_nil) ⟨v.length, hb, rfl, rfl⟩) ea_nil) ⟨primesL v.length, allR_fits hn.1, rfl, rfl⟩)))) (fun x _ => tg_name) ?_ (zs_nodup (allR_nodup _ hn.1)) rfl (fun x _ σ' H' _ S' => ev_var S' rfl) fun x hx σ' H' _ S' => ?_) fun p H2 hp e2 h2 => kk p H2 (fresh_back e1 hp) (e1.trans e2) h2
  · have := allR_len200 hn.1
    omega
  · have hc := crt_all hn.1 hn.2 hx
    refine ev_ixT (k := beatL v.length c x) (ev_var S' rfl) (ev_call (ea_cons (ev_var S' rfl) (ea_cons (ev_var S' rfl) (ea_cons (ev_var S' rfl) ea_nil))) ⟨v.length, c, x, ⟨hb.1, hb.2, hc.1⟩, rfl, rfl⟩) (ixN_nat (by rw [List.length_map]; exact hc.2)) ?_
    rw [List.getElem?_map, getD_of hc.2]
    rfl
end
end SB
namespace SB
open PySem PySem.Spec PyProof.Rows L2 RZ
open StX (tStar pa_star)
section
variable {P : Program} {w : World} {K : PySem.W.Frag} {mg : Str → Option Value} {base : Heap}
abbrev s_rest_at : Stmt := topS 87
theorem sc_rest_at : FnScope ["voice", "divisor"] ["voice", "divisor"] (defScope s_rest_at) := ⟨rfl, rfl, rfl, by decide +kernel, rfl, by decide +kernel, by decide +kernel⟩
theorem ok_rest_at {f : Addr} {fd : FuncData} (F : Fun K "rest_at" "rest_at" s_rest_at f fd) (T : Txt K mg) (G_want_divisor : Fn P w K mg base "want_divisor" 3 ["voice", "divisor"] sp_want_divisor) (G_rest_in : Fn P w K mg base "rest_in" 5 ["voice", "divisor"] sp_rest_in) : FnOk P w K mg base CX0 6 f fd ["voice", "divisor"] sp_rest_at := by
  refine okD F sc_rest_at (by rintro _ _ ⟨v, k, hn, rfl, rfl⟩; rfl) fun cdv A outer s H vs Q E ds d hr hR S kk => ?_
  obtain ⟨v, k, hn, rfl, rfl⟩ := hR
  have hu := hu_of hr
  refine ⟨_, (pss_cons (ps_expr (pe_fn G_want_divisor (hr.mono (by decide)) (by rfl) (pa_cons (pv 0) (pa_cons (pv 1) pa_nil))))
    (pss_one (ps_ret (pe_fn G_rest_in (hr.mono (by decide)) (by rfl) (pa_cons (pv 0) (pa_cons (pv 1) pa_nil)))))), ?_⟩
  refine sq (st_drop (ev_call (ea_cons (ev_var S rfl) (ea_cons (ev_var S rfl) ea_nil)) ⟨v, k, hn.2.2, rfl, rfl⟩) fun H1 e1 => ?_)
  exact st_ret (ev_call (ea_cons (ev_var (S.same e1) rfl) (ea_cons (ev_var (S.same e1) rfl) ea_nil)) ⟨v, k, ⟨hn.1, hn.2.1⟩, rfl, rfl⟩) fun w H2 e2 r2 => kk w H2 (e1.trans e2) r2
end
end SB
namespace SB
open PySem PySem.Spec PyProof.Rows L2 RZ
open StX (tStar pa_star)
section
variable {P : Program} {w : World} {K : PySem.W.Frag} {mg : Str → Option Value} {base : Heap}
theorem rest_len2 {v : List Int} {k : Nat} (h1 : v.length ≤ 1000) (h2 : k ∈ subSizes) : (restL v k).length ≤ 2000 := by
  have hb := sub_lt k h2
  have hp := phi_le k
  have := Nat.le_trans (pparted_len (stripL v) (cyc k)).2 (stripL_len v)
  show (padTo (pparted (stripL v) (cyc k)).2 (phi k)).length ≤ 2000
  unfold padTo
  rw [List.length_append, List.length_replicate]
  omega
theorem silent_any (v : List Int) (d : Nat) : silentB v d = !(((restL v d).map fun x => !decide (x = 0)).any id) := by
  unfold silentB
  induction restL v d with
  | nil => rfl
  | cons x l ih =>
    rw [List.all_cons, List.map_cons, List.any_cons, ih]
    simp [Bool.not_or]
abbrev s_want_silent : Stmt := topS 52
theorem sc_want_silent : FnScope ["voice", "rest", "number"] ["voice"] (defScope s_want_silent) := ⟨rfl, rfl, rfl, by decide +kernel, rfl, by decide +kernel, by decide +kernel⟩
theorem ok_want_silent {f : Addr} {fd : FuncData} {C : Addr} (F : Fun K "want_silent" "want_silent" s_want_silent f fd) (T : Txt K mg) (U : Uns P w K mg base C) (G_rest_in : Fn P w K mg base "rest_in" 5 ["voice", "divisor"] sp_rest_in) : FnOk P w K mg base (L2.CX P w) 6 f fd ["voice"] (sp_want_silent C) := by
  refine F.okX sc_want_silent (fun vs H Q E h => ?_) (fun cdv A outer s H vs Q E hr h => ?_)
  · obtain ⟨w0, v, rfl, _⟩ := h
    rfl
  · obtain ⟨w0, v, rfl, hw, hn, k1, k2⟩ := h
    have hu := hu_of hr
    have S : Sl K (L2.start ["voice", "rest", "number"] [w0]) H [.dat (tI v), .un, .un] := Sl.startD (K := K) (N := ["voice", "rest", "number"]) (.cons hw .nil)
    refine ⟨_, (pss_cons (ps_set (i := 1) sc_want_silent.nd rfl (Or.inl rfl) (pe_fn G_rest_in (hr.mono (by decide)) (by rfl) (pa_cons (pv 0) (pa_cons (pe_callB (k_call_len_seq K) (by rfl) T.len PySem.boot_len (pa_cons (pv 0) pa_nil)) pa_nil))))
    (pss_one (ps_if (pt_val (pe_callB (k_cr_any K rfl) (by rfl) T.any (by decide +kernel) (pa_cons (pe_lc (own := [("number", 2)]) rfl sc_want_silent.nd (k_pi_tup K (pv 1)) (blkOk_by (by kernel_rfl)) (fun _ _ _ _ _ => (pg_name (i := 2) sc_want_silent.nd rfl (Or.inl rfl))) (fun _ _ _ _ _ => pts_nil) (fun _ _ _ _ _ => (pe_cmpR op_ne (pv 2) pe_int (nomark _)))) pa_nil))) 
      (pss_one (ps_raise rfl (takes_of rfl rfl rfl rfl) (pmk_un U (hr.mono (by decide)) (by rfl) (pa_cons (pv 1) pa_nil))))
      pss_nil))), ?_⟩
    refine sq (st_set S (ev_call (ea_cons (ev_var S rfl) (ea_cons ((ev_lenT (ev_var S rfl)).to (by rw [List.length_map])) ea_nil)) ⟨v, v.length, ⟨Nat.le_of_lt (Nat.lt_of_lt_of_le (sub_lt _ hn).2 (by decide)), hn⟩, rfl, rfl⟩) fun σ1 H1 e1 S1 => ?_)
    dsimp only
    refine st_if (b := ((restL v v.length).map fun x => !decide (x = 0)).any id) ?_ (fun hb H2 e2 => ?_) fun hb H2 e2 => ?_
    · refine et_B (ev_any (EvL.r ((el_lc0 (xs := restL v v.length) (enc := fun x => .int x) (f := fun x => .bool (!decide (x = 0))) S1 (wk_tup (ev_var S1 (k := 1) rfl)).same (fun x _ => tg_name) (by have := rest_len2 (Nat.le_of_lt (Nat.lt_of_lt_of_le (sub_lt _ hn).2 (by decide))) hn; omega) fun x hx σ' H' e' S' => ev_ne (ev_var S' rfl) ev_int).to (by rw [List.map_map]; rfl))))
    · exact mk_un (ev_var (S1.same e2) rfl) fun dd x H' e' h' r' => k2 (by rw [silent_any, hb]; rfl) dd x H' ((e1.trans e2).trans e') h' r'
    · exact k1 (by rw [silent_any, hb]; rfl) H2 (e1.trans e2)
end
end SB
namespace SB
open PySem PySem.Spec PyProof.Rows L2 RZ
open StX (tStar pa_star)
section
variable {P : Program} {w : World} {K : PySem.W.Frag} {mg : Str → Option Value} {base : Heap}
abbrev s_silences_in : Stmt := topS 50
theorem sc_silences_in : FnScope ["voice", "divisor"] ["voice"] (defScope s_silences_in) := ⟨rfl, rfl, rfl, by decide +kernel, rfl, by decide +kernel, by decide +kernel⟩
theorem ok_silences_in {f : Addr} {fd : FuncData} (F : Fun K "silences_in" "silences_in" s_silences_in f fd) (T : Txt K mg) (G_divisors_in : Fn P w K mg base "divisors_in" 1 ["number"] sp_divisors_in) (G_is_silent_in : Fn P w K mg base "is_silent_in" 6 ["voice", "divisor"] sp_is_silent_in) : FnOk P w K mg base CX0 7 f fd ["voice"] sp_silences_in := by
  refine okD F sc_silences_in (by rintro _ _ ⟨v, hn, rfl, rfl⟩; rfl) fun cdv A outer s H vs Q E ds d hr hR S kk => ?_
  obtain ⟨v, hn, rfl, rfl⟩ := hR
  have hu := hu_of hr
  refine ⟨_, (pss_one (ps_ret (pe_callTy (k_call_tuple_of K) (by rfl) T.tuple (by decide +kernel) (pa_cons (pe_lc (own := [("divisor", 1)]) rfl sc_silences_in.nd (k_pi_tup K (pe_fn G_divisors_in (hr.mono (by decide)) (by rfl) (pa_cons (pe_callB (k_call_len_seq K) (by rfl) T.len PySem.boot_len (pa_cons (pv 0) pa_nil)) pa_nil))) (blkOk_by (by kernel_rfl)) (fun _ _ _ _ _ => (pg_name (i := 1) sc_silences_in.nd rfl (Or.inl rfl))) (fun _ _ _ _ _ => (pts_one (pt_val (pe_fn G_is_silent_in (hr.mono (by decide)) (by rfl) (pa_cons (pv 0) (pa_cons (pv 1) pa_nil)))))) (fun _ _ _ _ _ => (pv 1))) pa_nil)))), ?_⟩
  have hb := sub_lt _ hn
  refine st_ret ((ev_tupleOf (EvL.r (el_lc (xs := divsL v.length) (enc := fun k => .int ((k : Nat) : Int)) (p := silentB v) (f := fun k => .int ((k : Nat) : Int)) S (wk_tup (ev_call (ea_cons ((ev_lenT (ev_var S rfl)).to (by rw [List.length_map])) ea_nil) ⟨v.length, hb, rfl, rfl⟩) |>.to (by rw [List.map_map]; rfl)).same (fun x _ => tg_name) ?_ ?_ fun x _ _ σ' H' _ S' => ev_var S' rfl))).to ?_) kk
  · have := (divs_last _ hn).2.1
    omega
  · intro x hx σ' H' e' S'
    exact et_B (ev_call (ea_cons (ev_var S' rfl) (ea_cons (ev_var S' rfl) ea_nil)) ⟨v, x, ⟨by omega, sub_divs _ hn x hx⟩, rfl, rfl⟩)
  · unfold silencesL tI
    rw [List.map_map]
    rfl
end
end SB
namespace SB
open PySem PySem.Spec PyProof.Rows L2 RZ
open StX (tStar pa_star)
section
variable {P : Program} {w : World} {K : PySem.W.Frag} {mg : Str → Option Value} {base : Heap}
abbrev s_put_signed : Stmt := topS 55
theorem sc_put_signed : FnScope ["counts", "voice", "coset", "size", "table", "primes", "k", "prime", "choices", "rests", "signs", "many", "one", "choice", "sign", "held"] ["counts", "voice", "coset"] (defScope s_put_signed) := ⟨rfl, rfl, rfl, by decide +kernel, rfl, by decide +kernel, by decide +kernel⟩
theorem ok_put_signed {f : Addr} {fd : FuncData} (F : Fun K "put_signed" "put_signed" s_put_signed f fd) (T : Txt K mg) (G_table_at : Fn P w K mg base "table_at" 6 ["voice", "coset"] sp_table_at) (G_primes_in : Fn P w K mg base "primes_in" 3 ["number"] sp_primes_in) (G_choices_from : Fn P w K mg base "choices_from" 1 ["many", "k"] sp_choices_from) (G_rests_held : Fn P w K mg base "rests_held" 1 ["rests", "choice"] sp_rests_held) (G_put_polygon : Fn P w K mg base "put_polygon" 1 ["counts", "size", "prime", "beat", "many"] sp_put_polygon) (G_beat_with : Fn P w K mg base "beat_with" 5 ["size", "coset", "rests"] sp_beat_with) : FnOk P w K mg base CX0 7 f fd ["counts", "voice", "coset"] sp_put_signed := by
  refine okM F sc_put_signed (by rintro _ _ _ _ ⟨c, C, v, co, hn, rfl, rfl, hc, kk⟩; rfl) fun cdv A outer s H vs Q E as ds hr hR S => ?_
  obtain ⟨c, C, v, co, hn, rfl, rfl, hc, kk⟩ := hR
  have hu := hu_of hr
  refine ⟨_, (pss_cons (ps_asg (pe_tup (pa_cons (pe_callB (k_call_len_seq K) (by rfl) T.len PySem.boot_len (pa_cons (pv 1) pa_nil)) (pa_cons (pe_fn G_table_at (hr.mono (by decide)) (by rfl) (pa_cons (pv 1) (pa_cons (pv 2) pa_nil))) pa_nil))) (k_pg_tup K 2 rfl (pgs_cons (pg_name (i := 3) sc_put_signed.nd rfl (Or.inl rfl)) (pgs_cons (pg_name (i := 4) sc_put_signed.nd rfl (Or.inr rfl)) pgs_nil))))
    (pss_cons (ps_set (i := 5) sc_put_signed.nd rfl (Or.inl rfl) (pe_fn G_primes_in (hr.mono (by decide)) (by rfl) (pa_cons (pv 3) pa_nil)))
    (pss_one (ps_for PassesOwn.never rfl (k_pi_enumT K (by rfl) T.enumerate (pa_cons (pv 5) pa_nil)) (k_pg_tup K 2 rfl (pgs_cons (pg_name (i := 6) sc_put_signed.nd rfl (Or.inr rfl)) (pgs_cons (pg_name (i := 7) sc_put_signed.nd rfl (Or.inl rfl)) pgs_nil))) 
      (pss_cons (ps_set (i := 8) sc_put_signed.nd rfl (Or.inl rfl) (pe_fn G_choices_from (hr.mono (by decide)) (by rfl) (pa_cons (pe_callB (k_call_len_seq K) (by rfl) T.len PySem.boot_len (pa_cons (pv 5) pa_nil)) (pa_cons (pv 6) pa_nil))))
      (pss_one (ps_lock (ps_for PassesOwn.never rfl (k_pi_list K (pe_lc (own := [("one", 12)]) rfl sc_put_signed.nd (pi_keys (pv 4)) (blkOk_by (by kernel_rfl)) (fun _ _ _ _ _ => (pg_name (i := 12) sc_put_signed.nd rfl (Or.inl rfl))) (fun _ _ _ _ _ => (pts_one (pt_cmpR op_eq (pe_ix (k_ix_tup K) (pv 12) (pv 6) (fun _ _ => rfl)) pe_int (nomark _)))) (fun _ _ _ _ _ => (pv 12)))) (pg_name (i := 9) sc_put_signed.nd rfl (Or.inr rfl)) 
        (pss_cons (ps_setLc (i := 10) (own := [("choice", 13)]) rfl sc_put_signed.nd rfl rfl (sw_true rfl rfl rfl (by decide +kernel)) (k_pi_list K (pv 8)) (blkOk_by (by kernel_rfl)) (fun _ _ _ _ _ => (pg_name (i := 13) sc_put_signed.nd rfl (Or.inl rfl))) (fun _ _ _ _ _ => pts_nil) (fun _ _ _ _ _ => (pe_tup (pa_cons (pe_ifExp (pt_cmpR op_eq (pe_op op_mod (pe_callB (k_cr_sumB K rfl) (by rfl) T.sum (by decide +kernel) (pa_cons (pv 13) pa_nil)) pe_int) pe_int (nomark _)) pe_int (pe_un un_neg pe_int)) (pa_cons (pe_fn G_rests_held (hr.mono (by decide)) (by rfl) (pa_cons (pv 9) (pa_cons (pv 13) pa_nil))) pa_nil)))))
        (pss_cons (ps_set (i := 11) sc_put_signed.nd rfl (Or.inl rfl) (pe_callB (k_cr_sum K rfl) (by rfl) T.sum (by decide +kernel) (pa_cons (pe_lc (own := [("sign", 14), ("held", 15)]) rfl sc_put_signed.nd (k_pi_list K (pv 10)) (blkOk_by (by kernel_rfl)) (fun _ _ _ _ _ => (k_pg_tup K 2 rfl (pgs_cons (pg_name (i := 14) sc_put_signed.nd rfl (Or.inl rfl)) (pgs_cons (pg_name (i := 15) sc_put_signed.nd rfl (Or.inl rfl)) pgs_nil)))) (fun _ _ _ _ _ => pts_nil) (fun _ _ _ _ _ => (pe_op op_mul (pv 14) (pe_dget hu (pv 4) (pv 15) (fun _ _ => rfl))))) pa_nil)))
        (pss_one (ps_expr (pe_fn G_put_polygon (hr.mono (by decide)) (by rfl) (pa_cons (pv 0) (pa_cons (pv 3) (pa_cons (pv 7) (pa_cons (pe_fn G_beat_with (hr.mono (by decide)) (by rfl) (pa_cons (pv 3) (pa_cons (pv 2) (pa_cons (pv 9) pa_nil)))) (pa_cons (pv 11) pa_nil)))))))))))))))))), ?_⟩
  have hb := size_lt _ hn.1
  have hps := primes_small v.length (mem_drop1 hb.1 hb.2)
  obtain ⟨n, en⟩ : ∃ n, v.length = n := ⟨_, rfl⟩
  rw [en] at hn hb hps
  obtain ⟨ps, eps⟩ : ∃ ps, primesL n = ps := ⟨_, rfl⟩
  refine sq (st_tup2C (C := tabL v co) S ((ev_lenT (ev_var S rfl)).to (by rw [List.length_map])) (ec_callM (ea_cons (ev_var S rfl) (ea_cons (ev_var S rfl) ea_nil)) fun H1 e1 Q1 q1 => ⟨v, co, ⟨by rw [en]; exact hn.1, by rw [en]; exact hn.2.1⟩, rfl, rfl, q1⟩) fun T1 σ1 H1 hT e1 h1 S1 => ?_)
  rw [en] at S1
  refine sq (st_set S1 (ev_call (ea_cons (ev_var S1 rfl) ea_nil) ⟨n, hb, rfl, rfl⟩) fun σ2 H2 e2 S2 => ?_)
  rw [eps] at S2 hps
  have hTc : T1 ≠ c := ne_of_none hc hT |>.symm
  have hall : ∀ l, putAll C (putsC n v co) = l → True := fun _ _ => True.intro
  have e12 := e1.trans e2
  have hpl : ps.length ≤ 3 := hps.1
  refine st_for (xs := List.range ps.length) (enc := fun (j : Nat) => PyData.tuple [.int (j : Int), .int ((ps.getD j 0 : Nat) : Int)]) ((wk_enT (ev_var S2 rfl)).to ((enD_ints _).trans ?_))
    (fun H3 i σ' H' => Sb c H H' ∧ Sb c H3 H' ∧ H' T1 = some (.dT (tbH (tabL v co))) ∧ H' c = some (.dT (tbH (cT (putAll C ((ps.zipIdx.take i).flatMap (putsAt n v co)))))) ∧ Sl K σ' H' [.ref c, .dat (tI v), .dat (.int co), .dat (.int n), .ref T1, .dat (tI (zs ps)), .un, .un, .un, .un, .un, .un, .un, .un, .un, .un])
    (fun H3 e3 => ⟨Same.sb (e12.trans e3), Sb.refl _, e3 _ _ (e2 _ _ h1), by simpa [putAll] using e3 _ _ (e12 _ _ hc), S2.same e3⟩) (fun H3 i σ' H' e3 h => h.2.1.tp (e3 _ _ (e12 _ _ hc))) ?_ ?_
  · rw [List.length_map]
    apply List.map_congr_left
    intro j hj
    have hj := List.mem_range.mp hj
    congr 2
    rw [List.getD_eq_getElem?_getD, List.getElem?_map, List.getElem?_eq_getElem hj, List.getD_eq_getElem?_getD, List.getElem?_eq_getElem hj]
    rfl
  · rintro H3 i i' σ' H' v3 H4 e3 hx ⟨s3, s33, hT3, hc3, S3⟩ e4 rv
    obtain ⟨hi, hi'⟩ : i < ps.length ∧ i' = i := by
      have := List.getElem?_eq_some_iff.mp hx
      simp at this
      exact ⟨this.1, this.2.symm⟩
    rw [hi'] at rv
    clear hi' hx
    obtain ⟨p, hp⟩ : ∃ p, ps.getD i 0 = p := ⟨_, rfl⟩
    have hpi : ps[i]? = some p := by rw [← hp, List.getD_eq_getElem?_getD, List.getElem?_eq_getElem hi]; rfl
    have hpm : p ∈ primesL n := by rw [eps]; exact List.mem_of_getElem? hpi
    have hpr := mem_primes hpm
    have hnp : 1 ≤ n / p := Nat.div_pos hpr.2.1 (by omega)
    have etk : ps.zipIdx.take (i + 1) = ps.zipIdx.take i ++ [(p, i)] := by
      rw [List.take_add_one, List.getElem?_zipIdx, hpi]
      simp
    rw [hp] at rv
    refine tg_tup (ns := [6, 7]) rfl rfl v3 σ' H4 _ _ (S3.same e4) rv fun σ4 S4 _ _ => ?_
    have hT4 := e4 _ _ hT3
    have hc4 := e4 _ _ hc3
    refine sq (st_setN S4 (el_call (ea_cons ((ev_lenT (ev_var S4 rfl)).to (by rw [List.length_map, List.length_map])) (ea_cons (ev_var S4 rfl) ea_nil)) ⟨ps.length, i, ⟨hi, hpl⟩, rfl, rfl⟩) fun L5 vs5 σ5 H5 hL5 e5 h5 r5 S5 => ?_)
    have hT5 := e5 _ _ hT4
    have hc5 := e5 _ _ hc4
    refine st_lockG hT5 True.intro fun od => ?_
    obtain ⟨HL, eHL⟩ : ∃ HL, upd H5 T1 (.frz od (.dT (tbH (tabL v co)))) = HL := ⟨_, rfl⟩
    have tL : Tp H5 HL := by rw [← eHL]; exact tups_dT' hT5
    have SL := S5.tups tL.tup
    have hTL : HL T1 = some (.frz od (.dT (tbH (tabL v co)))) := by rw [← eHL]; exact upd_same
    have oL : ∀ b u, b ≠ T1 → H5 b = some u → HL b = some u := fun b u nb h => by rw [← eHL, upd_ne nb]; exact h
    have hcL := oL _ _ hTc.symm hc5
    have hLT : L5 ≠ T1 := fun z => by rw [z, hT4] at hL5; cases hL5
    have hLc : L5 ≠ c := fun z => by rw [z, hc4] at hL5; cases hL5
    have h5L := oL _ _ hLT h5
    have r5L := r5.tp tL
    rw [eHL]
    obtain ⟨C0, eC0⟩ : ∃ C0, putAll C ((ps.zipIdx.take i).flatMap (putsAt n v co)) = C0 := ⟨_, rfl⟩
    rw [eC0] at hc3 hc4 hc5 hcL
    have hC0n : (C0.map (·.1)).Nodup := by rw [← eC0]; exact putAll_nodup _ hn.2.2.2
    have hlen : ∀ j, (putAll C0 ((putsAt n v co (p, i)).take j)).length < 90000 := fun j => by
      have h1 := putAll_len ((putsAt n v co (p, i)).take j) C0
      have h2 := putAll_len ((ps.zipIdx.take i).flatMap (putsAt n v co)) C
      rw [eC0] at h2
      have h3 : ((ps.zipIdx.take (i + 1)).flatMap (putsAt n v co)).length ≤ (putsC n v co).length := by
        unfold putsC
        rw [eps]
        have := List.take_append_drop (i + 1) ps.zipIdx
        conv => rhs; rw [← this, List.flatMap_append, List.length_append]
        omega
      rw [etk, List.flatMap_append, List.length_append] at h3
      have h4 : ([(p, i)].flatMap (putsAt n v co)).length = (putsAt n v co (p, i)).length := by simp
      have h5 : ((putsAt n v co (p, i)).take j).length ≤ (putsAt n v co (p, i)).length := by rw [List.length_take]; omega
      have := hn.2.2.1
      omega
    refine st_for (xs := (allR ps).filter fun rs => rs.getD i 0 == 0) (enc := fun rs => tI (zs rs)) (wk_list (EvL.r (el_lc (xs := allR ps) (enc := fun rs => tI (zs rs)) (p := fun rs => rs.getD i 0 == 0) (f := fun rs => tI (zs rs)) SL ((wk_keysT (ev_ref SL rfl) hTL).to ?_).same (fun x _ => tg_name) ?_ (fun x hx σ6 H6 e6 S6 => ?_) (fun x hx _ σ6 H6 e6 S6 => ev_var S6 rfl))))
      (fun HJ j σ' H' => Sb c HJ H' ∧ H' c = some (.dT (tbH (cT (putAll C0 ((putsAt n v co (p, i)).take j))))) ∧ Sl K σ' H' [.ref c, .dat (tI v), .dat (.int co), .dat (.int n), .ref T1, .dat (tI (zs ps)), .dat (.int i), .dat (.int p), .ref L5, .un, .un, .un, .un, .un, .un, .un])
      (fun HJ eJ => ⟨Sb.refl _, by simpa [putAll] using eJ _ _ hcL, SL.same eJ⟩) (fun HJ j σ' H' eJ h => h.1.kp (eJ _ _ hcL)) ?_ ?_
    · unfold tabL
      rw [List.map_map, en, eps]
      rfl
    · have := allR_len200 hn.1
      rw [eps] at this
      omega
    · have hlx : i < x.length := by rw [allR_len hx]; exact hi
      refine (et_test (ev_eq (ev_ixT (k := i) (ev_var S6 rfl) (ev_var S6 rfl) (ixN_nat (by rw [List.length_map, List.length_map]; exact hlx)) (d := .int ((x.getD i 0 : Nat) : Int)) ?_) ev_int)).to ?_
      · rw [List.getElem?_map, List.getElem?_map, List.getElem?_eq_getElem hlx, List.getD_eq_getElem?_getD, List.getElem?_eq_getElem hlx]
        rfl
      · rw [Bool.beq_eq_decide_eq]
        norm_cast
    · rintro HJ j rs σ' HA v6 HB eJ hrs ⟨sA, hcA, SA⟩ eB rB
      have hrm : rs ∈ allR ps := (List.mem_filter.mp (List.mem_of_getElem? hrs)).1
      have hrc := crt_all hn.1 hn.2.1 (by rw [eps]; exact hrm)
      have SB' := (SA.same eB).setD 9 rB
      have sJ : ∀ b u, b ≠ c → HL b = some u → HB b = some u := fun b u nb h => eB _ _ (sA b u nb (eJ _ _ h))
      have hTB := sJ _ _ hTc hTL
      have hLB := sJ _ _ hLc h5L
      have rLB : DtA HB vs5 ((chL ps.length i).map fun ch => .tuple (ch.map .bool)) := by
        have kp : Kp K HL HB := (Same.kp eJ).trans ((sA.kp (eJ _ _ hcL)).trans (Same.kp eB))
        exact r5L.kp kp
      have hcB := eB _ _ hcA
      have hchl : (chL ps.length i).length ≤ 8 := by
        unfold chL
        rw [chN_len]
        have h2 : 2 ^ (ps.length - i - 1) ≤ 2 ^ 3 := Nat.pow_le_pow_right (by omega) (by omega)
        simp
        omega
      refine sq (st_setN SB' (el_lc0 (xs := chL ps.length i) (enc := fun ch => .tuple (ch.map .bool)) (f := fun ch => .tuple [.int (sgn ch), tI (zs (heldL rs ch))]) SB' (wk_list (EvX.r (ev_ref SB' rfl) ⟨vs5, SqL.of hLB, rLB⟩)).kp (fun x _ => tg_name) (by omega) fun ch hch σ7 H7 e7 S7 => ?_) fun L7 vs7 σ7 H7 hL7 e7 h7 r7 S7 => ?_)
      · have hcl := chL_len hi hch
        refine ev_tup (ea_cons (ev_if (et_test (ev_eq (ev_mod (ev_sumB (ev_var S7 rfl) (by omega)) ev_int (by omega)) ev_int)) (fun h => ?_) (fun h => ?_)) (ea_cons (ev_call (ea_cons (ev_var S7 rfl) (ea_cons (ev_var S7 rfl) ea_nil)) ⟨rs, ch, ⟨by rw [allR_len hrm, hcl], by rw [allR_len hrm]; exact hpl⟩, rfl, rfl⟩) ea_nil)) (by simp)
        · have : sgn ch = 1 := by unfold sgn; rw [if_pos (of_decide_eq_true h)]
          rw [this]
          exact ev_int
        · have : sgn ch = -1 := by unfold sgn; rw [if_neg (of_decide_eq_false h)]
          rw [this]
          exact ev_neg ev_int
      · have hT7 := e7 _ _ hTB
        have hc7 := e7 _ _ hcB
        refine sq (st_set (d := .int (manyL n v co i rs)) S7 ((ev_sum (EvL.r ((el_lc0 (xs := chL ps.length i) (enc := fun ch => .tuple [.int (sgn ch), tI (zs (heldL rs ch))]) (f := fun ch => .int (sgn ch * v.getD (beatL n co (heldL rs ch)) 0)) S7 (wk_list (EvX.r (ev_ref S7 rfl) ⟨vs7, SqL.of h7, r7⟩)).kp (fun x _ => tg_tup (ns := [14, 15]) rfl rfl) (by omega) fun ch hch σ8 H8 e8 S8 => ?_).to (by rw [List.map_map]; rfl)))).to (by unfold manyL; rw [eps])) fun σ8 H8 e8 S8 => ?_)
        · have hcl := chL_len hi hch
          have hm := inR_held (mem_allR.mp hrm) hcl
          have hg := getT_of (fun rs => zs rs) (fun rs => v.getD (beatL n co rs) 0) (xs := allR ps) (x := heldL rs ch) (by have := zs_nodup (allR_nodup _ hn.1); rw [eps] at this; exact this) (mem_allR.mpr hm)
          refine ev_mul (ev_var S8 rfl) (ev_dget (C := tabL v co) (ev_ref S8 rfl) (.inr ⟨od, e8 _ _ hT7⟩) (ev_var S8 rfl) ?_) (.inl ?_)
          · unfold tabL
            rw [en, eps]
            exact hg
          · unfold sgn
            split <;> omega
        · have hc8 := e8 _ _ hc7
          refine st_dropM (ex_cons (ev_ref S8 rfl) (ex_nil (ea_cons (ev_var S8 rfl) (ea_cons (ev_var S8 rfl) (ea_cons (ev_call (ea_cons (ev_var S8 rfl) (ea_cons (ev_var S8 rfl) (ea_cons (ev_var S8 rfl) ea_nil))) ⟨n, co, rs, ⟨hb.1, hb.2, hrc.1⟩, rfl, rfl⟩) (ea_cons (ev_var S8 rfl) ea_nil)))))) fun H9 e9 => ⟨c, _, n, p, beatL n co rs, manyL n v co i rs, ⟨by omega, by omega, hnp, hb.2, hlen j, putAll_nodup _ hC0n⟩, rfl, rfl, e9 _ _ hc8, fun H10 s10 h10 => ?_⟩
          have sB10 : Sb c HA H10 := (((Same.sb eB).trans (Same.sb e7)).trans (Same.sb e8)).trans ((Same.sb e9).trans s10)
          refine ⟨sA.trans sB10, ?_, ((((S8.same e9).kp (s10.kp (e9 _ _ hc8))).weak 9).weak 10).weak 11⟩
          rw [h10]
          have hj : (putsAt n v co (p, i)).take (j + 1) = (putsAt n v co (p, i)).take j ++ [(((p : Int), ((beatL n co rs % (n / p) : Nat) : Int)), manyL n v co i rs)] := by
            rw [List.take_add_one]
            congr 1
            unfold putsAt
            rw [eps, List.getElem?_map, hrs]
            rfl
          rw [hj, putAll_append]
          rfl
    · rintro HJ σ' HA eJ ⟨sA, hcA, SA⟩
      have hTA := sA _ _ hTc (eJ _ _ hTL)
      refine ⟨hTA, ?_⟩
      have hlenf : ((allR ps).filter fun rs => rs.getD i 0 == 0).length = (putsAt n v co (p, i)).length := by unfold putsAt; rw [List.length_map, eps]
      rw [hlenf, List.take_length] at hcA
      have s5 : Sb c H5 (upd HA T1 (.dT (tbH (tabL v co)))) := sb_unlock (f := .frz od (.dT (tbH (tabL v co)))) hT5 hTc (by rw [eHL]; exact (Same.sb eJ).trans sA)
      have s34 : Sb c H' (upd HA T1 (.dT (tbH (tabL v co)))) := ((Same.sb e4).trans (Same.sb e5)).trans s5
      refine ⟨s3.trans s34, s33.trans s34, upd_same, ?_, ?_⟩
      · rw [upd_ne hTc.symm, hcA, etk, List.flatMap_append, putAll_append, eC0]
        simp
      · exact ((SA.tups (tups_upd hTA fun _ z => nomatch z)).weak 6).weak 7 |>.weak 8
  · rintro H3 σ' H' e3 ⟨s3, _, _, hc3, _⟩
    rw [List.length_range] at hc3
    have ht : ps.zipIdx.take ps.length = ps.zipIdx := by
      conv => lhs; rw [show ps.length = ps.zipIdx.length by simp]
      exact List.take_length
    rw [ht] at hc3
    refine kk H' s3 ?_
    rw [en]
    unfold putsC
    rw [eps]
    exact hc3
end
end SB
namespace SB
open PySem PySem.Spec PyProof.Rows L2 RZ
open StX (tStar pa_star)
section
variable {P : Program} {w : World} {K : PySem.W.Frag} {mg : Str → Option Value} {base : Heap}
abbrev s_put_two : Stmt := topS 70
theorem sc_put_two : FnScope ["counts", "voice", "coset", "size", "p", "q", "firsts", "seconds", "i", "many", "j"] ["counts", "voice", "coset"] (defScope s_put_two) := ⟨rfl, rfl, rfl, by decide +kernel, rfl, by decide +kernel, by decide +kernel⟩
theorem ok_put_two {f : Addr} {fd : FuncData} (F : Fun K "put_two" "put_two" s_put_two f fd) (T : Txt K mg) (G_primes_in : Fn P w K mg base "primes_in" 3 ["number"] sp_primes_in) (G_parted : Fn P w K mg base "parted" 1 ["table", "p", "q"] sp_parted) (G_table_at : Fn P w K mg base "table_at" 6 ["voice", "coset"] sp_table_at) (G_put_polygon : Fn P w K mg base "put_polygon" 1 ["counts", "size", "prime", "beat", "many"] sp_put_polygon) (G_beat_with : Fn P w K mg base "beat_with" 5 ["size", "coset", "rests"] sp_beat_with) : FnOk P w K mg base CX0 7 f fd ["counts", "voice", "coset"] sp_put_two := by
  refine okM F sc_put_two (by rintro _ _ _ _ ⟨c, C, v, k, hn, rfl, rfl, hc, kk⟩; rfl) fun cdv A outer s H vs Q E as ds hr hR S => ?_
  obtain ⟨c, C, v, k, hn, rfl, rfl, hc, kk⟩ := hR
  have hu := hu_of hr
  refine ⟨_, (pss_cons (ps_asg (pe_tup (pa_cons (pe_callB (k_call_len_seq K) (by rfl) T.len PySem.boot_len (pa_cons (pv 1) pa_nil)) (pa_cons (pe_fn G_primes_in (hr.mono (by decide)) (by rfl) (pa_cons (pe_callB (k_call_len_seq K) (by rfl) T.len PySem.boot_len (pa_cons (pv 1) pa_nil)) pa_nil)) pa_nil))) (k_pg_tup K 2 rfl (pgs_cons (pg_name (i := 3) sc_put_two.nd rfl (Or.inl rfl)) (pgs_cons (k_pg_tup K 2 rfl (pgs_cons (pg_name (i := 4) sc_put_two.nd rfl (Or.inl rfl)) (pgs_cons (pg_name (i := 5) sc_put_two.nd rfl (Or.inl rfl)) pgs_nil))) pgs_nil))))
    (pss_cons (ps_asg (pe_fn G_parted (hr.mono (by decide)) (by rfl) (pa_cons (pe_fn G_table_at (hr.mono (by decide)) (by rfl) (pa_cons (pv 1) (pa_cons (pv 2) pa_nil))) (pa_cons (pv 4) (pa_cons (pv 5) pa_nil)))) (k_pg_tup K 2 rfl (pgs_cons (pg_name (i := 6) sc_put_two.nd rfl (Or.inl rfl)) (pgs_cons (pg_name (i := 7) sc_put_two.nd rfl (Or.inl rfl)) pgs_nil))))
    (pss_cons (ps_for PassesOwn.never rfl (k_pi_enum K (by rfl) T.enumerate (pa_cons (pv 6) pa_nil)) (k_pg_tup K 2 rfl (pgs_cons (pg_name (i := 8) sc_put_two.nd rfl (Or.inl rfl)) (pgs_cons (pg_name (i := 9) sc_put_two.nd rfl (Or.inl rfl)) pgs_nil))) 
      (pss_one (ps_expr (pe_fn G_put_polygon (hr.mono (by decide)) (by rfl) (pa_cons (pv 0) (pa_cons (pv 3) (pa_cons (pv 5) (pa_cons (pe_fn G_beat_with (hr.mono (by decide)) (by rfl) (pa_cons (pv 3) (pa_cons (pv 2) (pa_cons (pe_tup (pa_cons (pv 8) (pa_cons pe_int pa_nil))) pa_nil)))) (pa_cons (pv 9) pa_nil)))))))))
    (pss_one (ps_for PassesOwn.never rfl (k_pi_enum K (by rfl) T.enumerate (pa_cons (pv 7) pa_nil)) (k_pg_tup K 2 rfl (pgs_cons (pg_name (i := 10) sc_put_two.nd rfl (Or.inl rfl)) (pgs_cons (pg_name (i := 9) sc_put_two.nd rfl (Or.inl rfl)) pgs_nil))) 
      (pss_one (ps_expr (pe_fn G_put_polygon (hr.mono (by decide)) (by rfl) (pa_cons (pv 0) (pa_cons (pv 3) (pa_cons (pv 4) (pa_cons (pe_fn G_beat_with (hr.mono (by decide)) (by rfl) (pa_cons (pv 3) (pa_cons (pv 2) (pa_cons (pe_tup (pa_cons pe_int (pa_cons (pv 10) pa_nil))) pa_nil)))) (pa_cons (pv 9) pa_nil))))))))))))), ?_⟩
  have hb := size_lt _ hn.1
  obtain ⟨n, en⟩ : ∃ n, v.length = n := ⟨_, rfl⟩
  have hv := hn
  rw [en] at hn hb
  obtain ⟨p, q, hpq⟩ : ∃ p q, primesL n = [p, q] := by
    cases h : primesL n with
    | nil => rw [h] at hn; exact absurd hn.2.1 (by simp)
    | cons p l =>
      rw [h] at hn
      cases l with
      | nil => exact absurd hn.2.1 (by simp)
      | cons q l =>
        cases l with
        | nil => exact ⟨p, q, rfl⟩
        | cons => exact absurd hn.2.1 (by simp)
  have hp := mem_primes (n := n) (p := p) (by rw [hpq]; simp)
  have hq := mem_primes (n := n) (p := q) (by rw [hpq]; simp)
  have hnp : 1 ≤ n / p := Nat.div_pos hp.2.1 (by omega)
  have hnq : 1 ≤ n / q := Nat.div_pos hq.2.1 (by omega)
  refine sq (st_asg (d := .tuple [.int (n : Int), tI (zs [p, q])]) S ((ev_tup (ea_cons ((ev_lenT (ev_var S rfl)).to (by rw [List.length_map, en])) (ea_cons (ev_call (ea_cons ((ev_lenT (ev_var S rfl)).to (by rw [List.length_map, en])) ea_nil) ⟨n, hb, rfl, rfl⟩) ea_nil)) (by simp)).to (by rw [hpq])) (tg_two tg_name (tg_tup (ns := [4, 5]) rfl rfl)) fun σ1 H1 e1 S1 => ?_)
  have S1 : Sl K σ1 H1 [.ref c, .dat (tI v), .dat (.int k), .dat (.int n), .dat (.int p), .dat (.int q), .un, .un, .un, .un, .un] := S1
  have cell : ∀ i j, i < p → j < q → [i, j] ∈ allR (primesL n) := fun i j hi hj => by
    rw [hpq]
    exact mem_allR.mpr ⟨hi, hj, True.intro⟩
  have hT : Has2 (tabL v k) p q (fun i j => v.getD (beatL n k [i, j]) 0) := fun i j hi hj => by
    have h1 := getT_of (fun rs => zs rs) (fun rs => v.getD (beatL n k rs) 0) (xs := allR (primesL n)) (x := [i, j]) (zs_nodup (allR_nodup _ hn.1)) (cell i j hi hj)
    unfold tabL
    rw [en]
    exact h1
  refine sq (call_MC (T := tabL v k) (Q := fun x H' => _) (ec_callM (ea_cons (ev_var S1 rfl) (ea_cons (ev_var S1 rfl) ea_nil)) fun H2 e2 Q2 q2 => ⟨v, k, ⟨hv.1, hv.2.2.1⟩, rfl, rfl, q2⟩) (fun H2 e2 => ea_cons (ev_var (S1.same e2) rfl) (ea_cons (ev_var (S1.same e2) rfl) ea_nil)) fun t H2 ht e2 h2 => ⟨t, _, p, q, _, ⟨by omega, by omega, by omega, by omega, hT⟩, rfl, rfl, RdT.of h2, fun r l1 l2 fs ss H3 hf hs hl1 hl2 e3 h3r h3a h3b => ?_⟩)
  refine st_unLL (S1.same (e2.trans e3)) h3r fun σ3 S3 => ?_
  have S3 : Sl K σ3 H3 [.ref c, .dat (tI v), .dat (.int k), .dat (.int n), .dat (.int p), .dat (.int q), .ref l1, .ref l2, .un, .un, .un] := S3
  have c3 := e3 _ _ (e2 _ _ (e1 _ _ hc))
  have n1 : l1 ≠ c := (ne_of_none (e2 _ _ (e1 _ _ hc)) hl1).symm
  have n2 : l2 ≠ c := (ne_of_none (e2 _ _ (e1 _ _ hc)) hl2).symm
  refine sq (st_forPut (c := c) (C := C) (xs := List.range p) (enc := fun i => PyData.tuple [.int ((i : Nat) : Int), .int (fs.getD i 0)]) (wk_bothK ((wk_enL (EvX.r (ev_ref S3 rfl) (RdL.ofI (SqL.of h3a)))).to (by rw [enD_ints, hf]))) S3 c3 hn.2.2.2.2 (by simp; omega) (fun x => tg_tup (ns := [8, 9]) rfl rfl) (fun x σ' H' S' => (S'.weak 8).weak 9) (fun i hi σ' H' C' s' h' d' l' S' D' k' => ?_) fun σ4 H4 C4 s4 h4 d4 l4 S4 => ?_)
  · have hi := List.mem_range.mp hi
    have hcr := (crt_all hn.1 hn.2.2.1 (cell i 0 hi (by omega))).1
    exact st_put1 (n := n) (p := q) (b := beatL n k [i, 0]) (m := fs.getD i 0) S' rfl (ea_cons (ev_var S' rfl) (ea_cons (ev_var S' rfl) (ea_cons (ev_call (ea_cons (ev_var S' rfl) (ea_cons (ev_var S' rfl) (ea_cons (ev_tup (ea_cons (ev_var S' rfl) (ea_cons ev_int ea_nil)) (by simp)) ea_nil))) ⟨n, k, [i, 0], ⟨hb.1, hb.2, hcr⟩, rfl, rfl⟩) (ea_cons (ev_var S' rfl) ea_nil)))) ⟨by omega, by omega, hnq, hb.2⟩ h' l' d' k'
  · have h4b := s4 _ _ n2 h3b
    refine st_forPut (c := c) (C := C4) (xs := List.range q) (enc := fun j => PyData.tuple [.int ((j : Nat) : Int), .int (ss.getD j 0)]) (wk_bothK ((wk_enL (EvX.r (ev_ref S4 rfl) (RdL.ofI (SqL.of h4b)))).to (by rw [enD_ints, hs]))) S4 h4 d4 (by simp at l4 ⊢; omega) (fun x => tg_tup (ns := [10, 9]) rfl rfl) (fun x σ' H' S' => (S'.weak 10).weak 9) (fun j hj σ' H' C' s' h' d' l' S' D' k' => ?_) fun σ5 H5 C5 s5 h5 d5 l5 S5 => ?_
    · have hj := List.mem_range.mp hj
      have hcr := (crt_all hn.1 hn.2.2.1 (cell 0 j (by omega) hj)).1
      exact st_put1 (n := n) (p := p) (b := beatL n k [0, j]) (m := ss.getD j 0) S' rfl (ea_cons (ev_var S' rfl) (ea_cons (ev_var S' rfl) (ea_cons (ev_call (ea_cons (ev_var S' rfl) (ea_cons (ev_var S' rfl) (ea_cons (ev_tup (ea_cons ev_int (ea_cons (ev_var S' rfl) ea_nil)) (by simp)) ea_nil))) ⟨n, k, [0, j], ⟨hb.1, hb.2, hcr⟩, rfl, rfl⟩) (ea_cons (ev_var S' rfl) ea_nil)))) ⟨by omega, by omega, hnp, hb.2⟩ h' l' d' k'
    · refine kk H5 C5 ((Same.sb ((e1.trans e2).trans e3)).trans (s4.trans s5)) h5 d5 ?_
      simp at l4 l5
      omega
end
end SB
namespace SB
open PySem PySem.Spec PyProof.Rows L2 RZ
open StX (tStar pa_star)
section
variable {P : Program} {w : World} {K : PySem.W.Frag} {mg : Str → Option Value} {base : Heap}
theorem allR3_len (p q r : Nat) : (allR [p, q, r]).length = p * q * r := by
  have g : ∀ (l : List (List Nat)) (p : Nat), (grow l p).length = l.length * p := by
    intro l p
    unfold grow
    induction l with
    | nil => simp
    | cons x l ih => rw [List.flatMap_cons, List.length_append, ih, List.length_map, List.length_range, List.length_cons, Nat.succ_mul]; omega
  unfold allR
  rw [List.foldl_cons, List.foldl_cons, List.foldl_cons, List.foldl_nil, g, g, g]
  simp
theorem flat_len {α : Type} (p q : Nat) (f : Nat → Nat → α) : ((List.range p).flatMap fun i => (List.range q).map fun j => f i j).length = p * q := by
  have : ∀ l : List Nat, (l.flatMap fun i => (List.range q).map fun j => f i j).length = l.length * q := by
    intro l
    induction l with
    | nil => simp
    | cons x l ih => rw [List.flatMap_cons, List.length_append, ih, List.length_map, List.length_range, List.length_cons, Nat.succ_mul]; omega
  rw [this, List.length_range]
abbrev s_put_three : Stmt := topS 75
theorem sc_put_three : FnScope ["counts", "voice", "coset", "size", "table", "primes", "p", "q", "r", "lows", "firsts", "walk", "seconds", "rows", "i", "j", "k", "left", "ones", "others", "many"] ["counts", "voice", "coset"] (defScope s_put_three) := ⟨rfl, rfl, rfl, by decide +kernel, rfl, by decide +kernel, by decide +kernel⟩
theorem ok_put_three {f : Addr} {fd : FuncData} (F : Fun K "put_three" "put_three" s_put_three f fd) (T : Txt K mg) (G_table_at : Fn P w K mg base "table_at" 6 ["voice", "coset"] sp_table_at) (G_primes_in : Fn P w K mg base "primes_in" 3 ["number"] sp_primes_in) (G_lows_of : Fn P w K mg base "lows_of" 1 ["table", "primes"] sp_lows_of) (G_settled : Fn P w K mg base "settled" 2 ["table", "lows", "p", "q"] sp_settled) (G_put_polygon : Fn P w K mg base "put_polygon" 1 ["counts", "size", "prime", "beat", "many"] sp_put_polygon) (G_beat_with : Fn P w K mg base "beat_with" 5 ["size", "coset", "rests"] sp_beat_with) (G_parted : Fn P w K mg base "parted" 1 ["table", "p", "q"] sp_parted) : FnOk P w K mg base CX0 7 f fd ["counts", "voice", "coset"] sp_put_three := by
  refine okM F sc_put_three (by rintro _ _ _ _ ⟨c, C, v, k, hn, rfl, rfl, hc, kk⟩; rfl) fun cdv A outer s H vs Q E as ds hr hR S => ?_
  obtain ⟨c, C, v, k, hn, rfl, rfl, hc, kk⟩ := hR
  have hu := hu_of hr
  refine ⟨_, (pss_cons (ps_asg (pe_tup (pa_cons (pe_callB (k_call_len_seq K) (by rfl) T.len PySem.boot_len (pa_cons (pv 1) pa_nil)) (pa_cons (pe_fn G_table_at (hr.mono (by decide)) (by rfl) (pa_cons (pv 1) (pa_cons (pv 2) pa_nil))) pa_nil))) (k_pg_tup K 2 rfl (pgs_cons (pg_name (i := 3) sc_put_three.nd rfl (Or.inl rfl)) (pgs_cons (pg_name (i := 4) sc_put_three.nd rfl (Or.inr rfl)) pgs_nil))))
    (pss_cons (ps_set (i := 5) sc_put_three.nd rfl (Or.inl rfl) (pe_fn G_primes_in (hr.mono (by decide)) (by rfl) (pa_cons (pv 3) pa_nil)))
    (pss_cons (ps_asg (pv 5) (k_pg_tup K 3 rfl (pgs_cons (pg_name (i := 6) sc_put_three.nd rfl (Or.inr rfl)) (pgs_cons (pg_name (i := 7) sc_put_three.nd rfl (Or.inr rfl)) (pgs_cons (pg_name (i := 8) sc_put_three.nd rfl (Or.inl rfl)) pgs_nil)))))
    (pss_cons (ps_set (i := 9) sc_put_three.nd rfl (Or.inl rfl) (pe_fn G_lows_of (hr.mono (by decide)) (by rfl) (pa_cons (pv 4) (pa_cons (pv 5) pa_nil))))
    (pss_cons (ps_asg (pe_fn G_settled (hr.mono (by decide)) (by rfl) (pa_cons (pv 4) (pa_cons (pv 9) (pa_cons (pv 6) (pa_cons (pv 7) pa_nil))))) (k_pg_tup K 2 rfl (pgs_cons (pg_name (i := 10) sc_put_three.nd rfl (Or.inr rfl)) (pgs_cons (pg_name (i := 11) sc_put_three.nd rfl (Or.inl rfl)) pgs_nil))))
    (pss_cons (ps_if (pt_cmpR op_isN (pv 10) pe_non (nomark _)) 
      (pss_one (ps_ret (pv 11)))
      pss_nil)
    (pss_cons (ps_set (i := 12) sc_put_three.nd rfl (Or.inr rfl) (pe_lc (own := [("j", 15)]) rfl sc_put_three.nd (pi_range1 (by rfl) T.range (pa_cons (pv 7) pa_nil)) (blkOk_by (by kernel_rfl)) (fun _ _ _ _ _ => (pg_name (i := 15) sc_put_three.nd rfl (Or.inr rfl))) (fun _ _ _ _ _ => pts_nil) (fun _ _ _ _ _ => (pe_callB (k_cr_max K rfl) (by rfl) T.max (by decide +kernel) (pa_cons (pe_lc (own := [("i", 14)]) rfl sc_put_three.nd (pi_range1 (by rfl) T.range (pa_cons (pv 6) pa_nil)) (blkOk_by (by kernel_rfl)) (fun _ _ _ _ _ => (pg_name (i := 14) sc_put_three.nd rfl (Or.inl rfl))) (fun _ _ _ _ _ => pts_nil) (fun _ _ _ _ _ => (pe_op op_sub (pe_op op_sub pe_int (pe_dget hu (pv 4) (pe_tup (pa_cons (pv 14) (pa_cons (pv 15) (pa_cons pe_int pa_nil)))) (fun _ _ => rfl))) (pe_ix (k_ix_list K) (pv 10) (pv 14) (fun _ _ => rfl))))) pa_nil)))))
    (pss_cons (ps_set (i := 13) sc_put_three.nd rfl (Or.inr rfl) (pe_dcT2 (own := [("i", 14), ("j", 15)]) (vs1 := [15]) rfl sc_put_three.nd hu (pi_range1 (by rfl) T.range (pa_cons (pv 6) pa_nil)) (blkOk_by (by kernel_rfl)) (by decide) (fun _ _ _ _ _ => (pg_name (i := 14) sc_put_three.nd rfl (Or.inl rfl))) (fun _ _ _ _ _ => (pi_range1 (by rfl) T.range (pa_cons (pv 7) pa_nil))) (fun _ _ _ _ _ => (pg_name (i := 15) sc_put_three.nd rfl (Or.inl rfl))) (fun _ _ _ _ _ => (pe_tup (pa_cons (pv 14) (pa_cons (pv 15) pa_nil)))) (fun _ _ _ _ _ => (pe_op op_add (pe_op op_add (pe_dget hu (pv 4) (pe_tup (pa_cons (pv 14) (pa_cons (pv 15) (pa_cons pe_int pa_nil)))) (fun _ _ => rfl)) (pe_ix (k_ix_list K) (pv 10) (pv 14) (fun _ _ => rfl))) (pe_ix (k_ix_list K) (pv 12) (pv 15) (fun _ _ => rfl))))))
    (pss_cons (ps_lock (ps_for PassesOwn.never rfl (pi_keys (pv 13)) (k_pg_tup K 2 rfl (pgs_cons (pg_name (i := 14) sc_put_three.nd rfl (Or.inl rfl)) (pgs_cons (pg_name (i := 15) sc_put_three.nd rfl (Or.inl rfl)) pgs_nil))) 
      (pss_one (ps_expr (pe_fn G_put_polygon (hr.mono (by decide)) (by rfl) (pa_cons (pv 0) (pa_cons (pv 3) (pa_cons (pv 8) (pa_cons (pe_fn G_beat_with (hr.mono (by decide)) (by rfl) (pa_cons (pv 3) (pa_cons (pv 2) (pa_cons (pe_tup (pa_cons (pv 14) (pa_cons (pv 15) (pa_cons pe_int pa_nil)))) pa_nil)))) (pa_cons (pe_dget hu (pv 13) (pe_tup (pa_cons (pv 14) (pa_cons (pv 15) pa_nil))) (fun _ _ => rfl)) pa_nil))))))))))
    (pss_cons (ps_for PassesOwn.never rfl (pi_range1 (by rfl) T.range (pa_cons (pv 8) pa_nil)) (pg_name (i := 16) sc_put_three.nd rfl (Or.inr rfl)) 
      (pss_cons (ps_lock (ps_setDc (i := 17) (own := [("i", 14), ("j", 15)]) rfl sc_put_three.nd rfl rfl (sw_dict rfl rfl rfl (by decide +kernel)) hu (pi_keys (pv 13)) (blkOk_by (by kernel_rfl)) (fun _ _ _ _ _ => (k_pg_tup K 2 rfl (pgs_cons (pg_name (i := 14) sc_put_three.nd rfl (Or.inl rfl)) (pgs_cons (pg_name (i := 15) sc_put_three.nd rfl (Or.inl rfl)) pgs_nil)))) (fun _ _ _ _ _ => pts_nil) (fun _ _ _ _ _ => (pe_tup (pa_cons (pv 14) (pa_cons (pv 15) pa_nil)))) (fun _ _ _ _ _ => (pe_op op_sub (pe_dget hu (pv 4) (pe_tup (pa_cons (pv 14) (pa_cons (pv 15) (pa_cons (pv 16) pa_nil)))) (fun _ _ => rfl)) (pe_dget hu (pv 13) (pe_tup (pa_cons (pv 14) (pa_cons (pv 15) pa_nil))) (fun _ _ => rfl))))))
      (pss_cons (ps_asg (pe_fn G_parted (hr.mono (by decide)) (by rfl) (pa_cons (pv 17) (pa_cons (pv 6) (pa_cons (pv 7) pa_nil)))) (k_pg_tup K 2 rfl (pgs_cons (pg_name (i := 18) sc_put_three.nd rfl (Or.inl rfl)) (pgs_cons (pg_name (i := 19) sc_put_three.nd rfl (Or.inl rfl)) pgs_nil))))
      (pss_cons (ps_for PassesOwn.never rfl (k_pi_enum K (by rfl) T.enumerate (pa_cons (pv 18) pa_nil)) (k_pg_tup K 2 rfl (pgs_cons (pg_name (i := 14) sc_put_three.nd rfl (Or.inl rfl)) (pgs_cons (pg_name (i := 20) sc_put_three.nd rfl (Or.inl rfl)) pgs_nil))) 
        (pss_one (ps_expr (pe_fn G_put_polygon (hr.mono (by decide)) (by rfl) (pa_cons (pv 0) (pa_cons (pv 3) (pa_cons (pv 7) (pa_cons (pe_fn G_beat_with (hr.mono (by decide)) (by rfl) (pa_cons (pv 3) (pa_cons (pv 2) (pa_cons (pe_tup (pa_cons (pv 14) (pa_cons pe_int (pa_cons (pv 16) pa_nil)))) pa_nil)))) (pa_cons (pv 20) pa_nil)))))))))
      (pss_one (ps_for PassesOwn.never rfl (k_pi_enum K (by rfl) T.enumerate (pa_cons (pv 19) pa_nil)) (k_pg_tup K 2 rfl (pgs_cons (pg_name (i := 15) sc_put_three.nd rfl (Or.inl rfl)) (pgs_cons (pg_name (i := 20) sc_put_three.nd rfl (Or.inl rfl)) pgs_nil))) 
        (pss_one (ps_expr (pe_fn G_put_polygon (hr.mono (by decide)) (by rfl) (pa_cons (pv 0) (pa_cons (pv 3) (pa_cons (pv 6) (pa_cons (pe_fn G_beat_with (hr.mono (by decide)) (by rfl) (pa_cons (pv 3) (pa_cons (pv 2) (pa_cons (pe_tup (pa_cons pe_int (pa_cons (pv 15) (pa_cons (pv 16) pa_nil)))) pa_nil)))) (pa_cons (pv 20) pa_nil))))))))))))))
    (pss_one (ps_ret pe_non)))))))))))), ?_⟩
  have hb := size_lt _ hn.1
  obtain ⟨n, en⟩ : ∃ n, v.length = n := ⟨_, rfl⟩
  have hv := hn
  rw [en] at hn hb
  obtain ⟨p, q, r, hpq⟩ : ∃ p q r, primesL n = [p, q, r] := by
    cases h : primesL n with
    | nil => rw [h] at hn; exact absurd hn.2.1 (by simp)
    | cons p l =>
      rw [h] at hn
      cases l with
      | nil => exact absurd hn.2.1 (by simp)
      | cons q l =>
        cases l with
        | nil => exact absurd hn.2.1 (by simp)
        | cons r l =>
          cases l with
          | nil => exact ⟨p, q, r, rfl⟩
          | cons => exact absurd hn.2.1 (by simp)
  have hp := mem_primes (n := n) (p := p) (by rw [hpq]; simp)
  have hq := mem_primes (n := n) (p := q) (by rw [hpq]; simp)
  have hr3 := mem_primes (n := n) (p := r) (by rw [hpq]; simp)
  have hnp : 1 ≤ n / p := Nat.div_pos hp.2.1 (by omega)
  have hnq : 1 ≤ n / q := Nat.div_pos hq.2.1 (by omega)
  have hnr : 1 ≤ n / r := Nat.div_pos hr3.2.1 (by omega)
  have hmul : p * q * r ≤ 200 := by
    have := allR_len200 hn.1
    rw [hpq, allR3_len] at this
    exact this
  have hpq2 : p * q ≤ 200 := Nat.le_trans (Nat.le_mul_of_pos_right _ (by omega)) hmul
  obtain ⟨M, hM0, hM⟩ := hn.2.2.2.2.2
  have cell : ∀ i j k, i < p → j < q → k < r → [i, j, k] ∈ allR (primesL n) := fun i j k hi hj hk => by
    rw [hpq]
    exact mem_allR.mpr ⟨hi, hj, hk, True.intro⟩
  obtain ⟨g, hg⟩ : ∃ g : Nat → Nat → Nat → Int, g = fun i j l => v.getD (beatL n k [i, j, l]) 0 := ⟨_, rfl⟩
  have hT : Has3 (tabL v k) p q r g := fun i j l hi hj hl => by
    have h1 := getT_of (fun rs => zs rs) (fun rs => v.getD (beatL n k rs) 0) (xs := allR (primesL n)) (x := [i, j, l]) (zs_nodup (allR_nodup _ hn.1)) (cell i j l hi hj hl)
    unfold tabL
    rw [en, hg]
    exact h1
  have hgM : ∀ i j l, i < p → j < q → l < r → 3 * M ≤ g i j l ∧ g i j l ≤ 5 * M := fun i j l hi hj hl => by
    have h2 := (crt_all hn.1 hn.2.2.1 (cell i j l hi hj hl)).2
    rw [hg]
    show 3 * M ≤ v.getD (beatL n k [i, j, l]) 0 ∧ v.getD (beatL n k [i, j, l]) 0 ≤ 5 * M
    rw [List.getD_eq_getElem?_getD, List.getElem?_eq_getElem (by rw [en]; exact h2)]
    exact hM _ (List.getElem_mem _)
  have crk : ∀ i j l, i < p → j < q → l < r → crtOk (primesL n) [i, j, l] 0 1 = true := fun i j l hi hj hl => (crt_all hn.1 hn.2.2.1 (cell i j l hi hj hl)).1
  refine sq (st_tup2C (C := tabL v k) S ((ev_lenT (ev_var S rfl)).to (by rw [List.length_map])) (ec_callM (ea_cons (ev_var S rfl) (ea_cons (ev_var S rfl) ea_nil)) fun H1 e1 Q1 q1 => ⟨v, k, ⟨hv.1, hv.2.2.1⟩, rfl, rfl, q1⟩) fun T1 σ1 H1 hT1 e1 h1 S1 => ?_)
  rw [en] at S1
  refine sq (st_set S1 ((ev_call (ea_cons (ev_var S1 rfl) ea_nil) ⟨n, hb, rfl, rfl⟩).to (by rw [hpq])) fun σ2 H2 e2 S2 => ?_)
  refine sq (st_asg (d := tI (zs [p, q, r])) S2 (ev_var S2 rfl) (tg_tup (ns := [6, 7, 8]) rfl rfl) fun σ3 H3 e3 S3 => ?_)
  have S3 : Sl K σ3 H3 [.ref c, .dat (tI v), .dat (.int k), .dat (.int n), .ref T1, .dat (tI (zs [p, q, r])), .dat (.int p), .dat (.int q), .dat (.int r), .un, .un, .un, .un, .un, .un, .un, .un, .un, .un, .un, .un] := S3
  have t3 := (e2.trans e3) _ _ h1
  obtain ⟨lw, hlw⟩ : ∃ lw : Nat → Nat → Int, lw = fun i j => minL ((List.range r).map fun l => g i j l) := ⟨_, rfl⟩
  refine sq (st_asgC S3 (call_M (ex_cons (ev_ref S3 rfl) (ex_nil (ea_cons (ev_var S3 rfl) ea_nil))) fun H4 e4 => ⟨T1, _, p, q, r, g, ⟨by omega, by omega, by omega, by omega, by omega, hT⟩, rfl, rfl, RdT.of (e4 _ _ t3), fun l L H5 hL hl e5 h5 => ?_⟩))
  rw [← hlw] at hL
  have e45 := e4.trans e5
  have S5 : Sl K (σ3.set 9 (some (.ref l))) H5 [.ref c, .dat (tI v), .dat (.int k), .dat (.int n), .ref T1, .dat (tI (zs [p, q, r])), .dat (.int p), .dat (.int q), .dat (.int r), .ref l, .un, .un, .un, .un, .un, .un, .un, .un, .un, .un, .un] := (S3.same e45).setR 9 l
  have t5 := e45 _ _ t3
  refine sq (st_asgX (call_M (ex_cons (ev_ref S5 rfl) (ex_cons (ev_ref S5 rfl) (ex_nil (ea_cons (ev_var S5 rfl) (ea_cons (ev_var S5 rfl) ea_nil))))) fun H6 e6 => ⟨T1, l, _, L, p, q, r, g, lw, ⟨by omega, by omega, by omega, by omega, by omega, hT, hL, fun a b j ha hb' hj => ?_⟩, rfl, rfl, RdT.of (e6 _ _ t5), RdT.of (e6 _ _ h5), fun rr ff e H7 e7 hff h7 h7f r7 => ?_⟩))
  · have h8 := hgM a j 0 ha hj (by omega)
    have h9 := hgM b j 0 hb' hj (by omega)
    have h10 : 3 * M ≤ lw b j := by
      rw [hlw]
      have hne : ((List.range r).map fun l => g b j l) ≠ [] := fun z => by
        have := congrArg List.length z
        simp at this
        omega
      obtain ⟨x, hx, hx2⟩ := List.mem_map.mp (minL_spec hne).1
      show 3 * M ≤ minL ((List.range r).map fun l => g b j l)
      rw [← hx2]
      exact (hgM b j x hb' hj (List.mem_range.mp hx)).1
    omega
  have e67 := e6.trans e7
  refine st_unLD (S5.same e67) h7 r7 fun σ8 S8 => ?_
  have S8 : Sl K σ8 H7 [.ref c, .dat (tI v), .dat (.int k), .dat (.int n), .ref T1, .dat (tI (zs [p, q, r])), .dat (.int p), .dat (.int q), .dat (.int r), .ref l, .ref ff, .dat (.tuple []), .un, .un, .un, .un, .un, .un, .un, .un, .un] := S8
  have t7 := e67 _ _ t5
  have e07 : Same H H7 := (((e1.trans e2).trans e3).trans e45).trans e67
  have ffr : ∀ {H' : Hp}, Same H7 H' → RdL K H' ff (List.replicate p (.int 0)) := fun {H'} e => ⟨_, SqL.of (e _ _ h7f), by
    have := DtA.ofInts (H := H') (List.replicate p 0)
    rw [List.map_replicate, List.map_replicate] at this
    exact this⟩
  refine sq (st_if (b := false) (et_isNX (ev_ref S8 (k := 10) rfl)) (fun z => nomatch z) fun _ H9 e9 => ?_)
  have S9 := S8.same e9
  obtain ⟨sc, hsc⟩ : ∃ sc : Nat → Int, sc = fun j => maxL ((List.range p).map fun i => 0 - g i j 0 - 0) := ⟨_, rfl⟩
  refine sq (st_setN S9 (el_lc0 (xs := List.range q) (enc := fun j => .int ((j : Nat) : Int)) (f := fun j => .int (sc j)) S9 (wk_rng1 (n := (q : Int)) (ea_cons (ev_var S9 rfl) ea_nil) (by omega) (rng_d0 q (by omega))).same (fun x _ => tg_name) (by simp; omega) fun j hj σ' H' e' S' => ?_) fun sl svs σ10 H10 hsl e10 h10 r10 S10 => ?_)
  · rw [hsc]
    refine ev_maxL (ns := (List.range p).map fun i => 0 - g i j 0 - 0) (EvL.r ((el_lc0 (xs := List.range p) (enc := fun i => .int ((i : Nat) : Int)) (f := fun i => .int (0 - g i j 0 - 0)) S' (wk_rng1 (n := (p : Int)) (ea_cons (ev_var S' rfl) ea_nil) (by omega) (rng_d0 p (by omega))).same (fun x _ => tg_name) (by simp; omega) fun i hi σ2 H2 e2 S2 => ?_).to (by rw [List.map_map]; rfl))) (fun z => ?_)
    · have hi := List.mem_range.mp hi
      have hj := List.mem_range.mp hj
      have ee := (e9.trans e').trans e2
      exact ev_sub (ev_sub ev_int (ev_dget (k := [(i : Int), (j : Int), 0]) (ev_ref S2 rfl) (RdT.of (ee _ _ t7)) (ev_tup (ea_cons (ev_var S2 rfl) (ea_cons (ev_var S2 rfl) (ea_cons ev_int ea_nil))) (by simp)) (hT i j 0 hi hj (by omega)))) (ev_ixL (k := i) (EvX.r (ev_ref S2 rfl) (ffr ee)) (ev_var S2 rfl) (ixN_nat (by simp; omega)) (d := .int 0) (by rw [List.getElem?_replicate, if_pos hi]))
    · have := congrArg List.length z
      simp at this
      omega
  have e910 := e9.trans e10
  have slr : ∀ {H' : Hp}, Same H10 H' → RdL K H' sl ((List.range q).map fun j => .int (sc j)) := fun e => ⟨_, SqL.of (e _ _ h10), r10.same e⟩
  obtain ⟨rv, hrv⟩ : ∃ rv : Nat → Nat → Int, rv = fun i j => g i j 0 + 0 + sc j := ⟨_, rfl⟩
  refine sq (st_setC S10 (ec_dc2 (xs := List.range p) (enc := fun i => .int ((i : Nat) : Int)) (ys := List.range q) (enc1 := fun j => .int ((j : Nat) : Int)) (kf := fun i j => [(i : Int), (j : Int)]) (vf := rv) S10 (wk_rng1 (n := (p : Int)) (ea_cons (ev_var S10 rfl) ea_nil) (by omega) (rng_d0 p (by omega))) (fun x _ => tg_name) ?_ (keys_nodup p q) (fun x _ => rfl) (fun i hi σ' H' e' S' => wk_rng1 (n := (q : Int)) (ea_cons (ev_var S' rfl) ea_nil) (by omega) (rng_d0 q (by omega))) (fun y _ => tg_name) (fun i hi j hj σ' H' e' S' => ev_tup (ea_cons (ev_var S' rfl) (ea_cons (ev_var S' rfl) ea_nil)) (by simp)) fun i hi j hj σ' H' e' S' => ?_) fun R1 σ11 H11 hR1 e11 h11 S11 => ?_)
  · rw [flat_len]
    omega
  · have hi := List.mem_range.mp hi
    have hj := List.mem_range.mp hj
    rw [hrv]
    exact ev_add (ev_add (ev_dget (k := [(i : Int), (j : Int), 0]) (ev_ref S' rfl) (RdT.of ((e910.trans e') _ _ t7)) (ev_tup (ea_cons (ev_var S' rfl) (ea_cons (ev_var S' rfl) (ea_cons ev_int ea_nil))) (by simp)) (hT i j 0 hi hj (by omega))) (ev_ixL (k := i) (EvX.r (ev_ref S' rfl) (ffr (e910.trans e'))) (ev_var S' rfl) (ixN_nat (by simp; omega)) (d := .int 0) (by rw [List.getElem?_replicate, if_pos hi]))) (ev_ixL (k := j) (EvX.r (ev_ref S' rfl) (slr e')) (ev_var S' rfl) (ixN_nat (by simp; omega)) (d := .int (sc j)) (by rw [List.getElem?_map, List.getElem?_range hj]; rfl))
  have hR : Has2 ((List.range p).flatMap fun (i : Nat) => (List.range q).map fun (j : Nat) => ([(i : Int), (j : Int)], rv i j)) p q rv := has2_of p q rv
  obtain ⟨RT, hRT⟩ : ∃ RT : Tb, ((List.range p).flatMap fun (i : Nat) => (List.range q).map fun (j : Nat) => ([(i : Int), (j : Int)], rv i j)) = RT := ⟨_, rfl⟩
  have hkeys : RT.map (fun e => tI e.1) = ((List.range p).flatMap fun (i : Nat) => (List.range q).map fun (j : Nat) => (i, j)).map fun x => kD ((x.1 : Int), (x.2 : Int)) := by
    rw [← hRT, List.map_flatMap, List.map_flatMap]
    congr 1
    funext i
    rw [List.map_map, List.map_map]
    rfl
  rw [hRT] at h11 hR
  have S11 : Sl K σ11 H11 [.ref c, .dat (tI v), .dat (.int k), .dat (.int n), .ref T1, .dat (tI (zs [p, q, r])), .dat (.int p), .dat (.int q), .dat (.int r), .ref l, .ref ff, .dat (.tuple []), .ref sl, .ref R1, .un, .un, .un, .un, .un, .un, .un] := S11
  have e011 := (e07.trans e910).trans e11
  have c11 := e011 _ _ hc
  have t11 := (e910.trans e11) _ _ t7
  have nRc : R1 ≠ c := (ne_of_none ((e07.trans e910) _ _ hc) hR1).symm
  have nTc : T1 ≠ c := (ne_of_none hc hT1).symm
  have nRT : R1 ≠ T1 := (ne_of_none (e910 _ _ t7) hR1).symm
  refine sq (st_lockG h11 True.intro fun od => ?_)
  obtain ⟨HL, eHL⟩ : ∃ HL, upd H11 R1 (.frz od (.dT (tbH RT))) = HL := ⟨_, rfl⟩
  have tL : Tp H11 HL := by rw [← eHL]; exact tups_dT' h11
  have SL := S11.tups tL.tup
  have hRL : HL R1 = some (.frz od (.dT (tbH RT))) := by rw [← eHL]; exact upd_same
  have oL : ∀ b u, b ≠ R1 → H11 b = some u → HL b = some u := fun b u nb h => by rw [← eHL, upd_ne nb]; exact h
  have cL := oL _ _ nRc.symm c11
  rw [eHL]
  have xlen : ((List.range p).flatMap fun (i : Nat) => (List.range q).map fun (j : Nat) => (i, j)).length ≤ 200 := by rw [flat_len]; exact hpq2
  refine st_forPut (c := c) (C := C) (xs := (List.range p).flatMap fun (i : Nat) => (List.range q).map fun (j : Nat) => (i, j)) (enc := fun x => kD ((x.1 : Int), (x.2 : Int))) (wk_both ((wk_keysT (ev_ref SL rfl) hRL).to hkeys)) SL cL hn.2.2.2.2.1 (by omega) (fun x => tg_tup (ns := [14, 15]) rfl rfl) (fun x σ' H' S' => (S'.weak 14).weak 15) (fun x hx σ' H' C' s' h' d' l' S' D' k' => ?_) fun σ12 H12 C12 s12 h12 d12 l12 S12 => ?_
  · obtain ⟨i, hi, hij⟩ := List.mem_flatMap.mp hx
    obtain ⟨j, hj, rfl⟩ := List.mem_map.mp hij
    have hi := List.mem_range.mp hi
    have hj := List.mem_range.mp hj
    exact st_put1 (n := n) (p := r) (b := beatL n k [i, j, 0]) (m := rv i j) S' rfl (ea_cons (ev_var S' rfl) (ea_cons (ev_var S' rfl) (ea_cons (ev_call (ea_cons (ev_var S' rfl) (ea_cons (ev_var S' rfl) (ea_cons (ev_tup (ea_cons (ev_var S' rfl) (ea_cons (ev_var S' rfl) (ea_cons ev_int ea_nil))) (by simp)) ea_nil))) ⟨n, k, [i, j, 0], ⟨hb.1, hb.2, crk i j 0 hi hj (by omega)⟩, rfl, rfl⟩) (ea_cons (ev_dget (ev_ref S' rfl) (.inr ⟨od, s' _ _ nRc hRL⟩) (ev_tup (ea_cons (ev_var S' rfl) (ea_cons (ev_var S' rfl) ea_nil)) (by simp)) (hR i j hi hj)) ea_nil)))) ⟨by omega, by omega, hnr, hb.2⟩ h' l' d' k'
  · have f12 := s12 _ _ nRc hRL
    refine ⟨f12, ?_⟩
    obtain ⟨HU, eHU⟩ : ∃ HU, upd H12 R1 (.dT (tbH RT)) = HU := ⟨_, rfl⟩
    have sU : Sb c H11 HU := by
      rw [← eHU]
      exact sb_unlock (f := .frz od (.dT (tbH RT))) h11 nRc (by rw [eHL]; exact s12)
    have SU : Sl K σ12 HU [.ref c, .dat (tI v), .dat (.int k), .dat (.int n), .ref T1, .dat (tI (zs [p, q, r])), .dat (.int p), .dat (.int q), .dat (.int r), .ref l, .ref ff, .dat (.tuple []), .ref sl, .ref R1, .un, .un, .un, .un, .un, .un, .un] := by
      rw [← eHU]
      exact S12.tups (tups_upd f12 fun _ z => nomatch z)
    have hcU : HU c = some (.dT (tbH (cT C12))) := by rw [← eHU, upd_ne nRc.symm]; exact h12
    have hRU : HU R1 = some (.dT (tbH RT)) := by rw [← eHU]; exact upd_same
    have hTU := sU _ _ nTc t11
    have lenr : r * p + r * q ≤ 400 := by
      have h1 : r * p ≤ 200 := by
        refine Nat.le_trans ?_ hmul
        have : p * 1 * r ≤ p * q * r := Nat.mul_le_mul_right r (Nat.mul_le_mul_left p (by omega))
        rw [Nat.mul_one] at this
        rw [Nat.mul_comm r p]
        exact this
      have h2 : r * q ≤ 200 := by
        refine Nat.le_trans ?_ hmul
        have : 1 * q * r ≤ p * q * r := Nat.mul_le_mul_right r (Nat.mul_le_mul_right q (by omega))
        rw [Nat.one_mul] at this
        rw [Nat.mul_comm r q]
        exact this
      omega
    rw [eHU]
    refine sq (st_for (xs := List.range r) (enc := fun i => .int ((i : Nat) : Int)) (wk_rng1 (n := (r : Int)) (ea_cons (ev_var SU rfl) ea_nil) (by omega) (rng_d0 r (by omega)))
      (fun H3 i σ' H' => Sb c H3 H' ∧ (∃ C', H' c = some (.dT (tbH (cT C'))) ∧ (C'.map (·.1)).Nodup ∧ C'.length ≤ C12.length + i * (p + q)) ∧ Sl K σ' H' [.ref c, .dat (tI v), .dat (.int k), .dat (.int n), .ref T1, .dat (tI (zs [p, q, r])), .dat (.int p), .dat (.int q), .dat (.int r), .ref l, .ref ff, .dat (.tuple []), .ref sl, .ref R1, .un, .un, .un, .un, .un, .un, .un])
      (fun H3 e3 => ⟨Sb.refl _, ⟨C12, e3 _ _ hcU, d12, by omega⟩, SU.same e3⟩) (fun H3 i σ' H' e3 h => h.1.tp (e3 _ _ hcU)) ?_ ?_)
    · rintro H3 kk3 k3' σ' H' v3 H4 e3 hx ⟨s3, ⟨C3, hc3, d3, l3⟩, S3⟩ e4 rv4
      obtain ⟨hk3, hk3'⟩ : kk3 < r ∧ k3' = kk3 := by
        have := List.getElem?_eq_some_iff.mp hx
        simp at this
        exact ⟨this.1, this.2.symm⟩
      rw [hk3'] at rv4
      have S4 := (S3.same e4).setD 16 rv4
      have sU4 : ∀ b u, b ≠ c → HU b = some u → H4 b = some u := fun b u nb h => e4 _ _ (s3 _ _ nb (e3 _ _ h))
      have hT4 := sU4 _ _ nTc hTU
      have hR4 := sU4 _ _ nRc hRU
      have hc4 := e4 _ _ hc3
      refine sq (st_lockG hR4 True.intro fun od2 => ?_)
      obtain ⟨HM, eHM⟩ : ∃ HM, upd H4 R1 (.frz od2 (.dT (tbH RT))) = HM := ⟨_, rfl⟩
      have tM : Tp H4 HM := by rw [← eHM]; exact tups_dT' hR4
      have SM := S4.tups tM.tup
      have hRM : HM R1 = some (.frz od2 (.dT (tbH RT))) := by rw [← eHM]; exact upd_same
      have oM : ∀ b u, b ≠ R1 → H4 b = some u → HM b = some u := fun b u nb h => by rw [← eHM, upd_ne nb]; exact h
      have hTM := oM _ _ nRT.symm hT4
      rw [eHM]
      refine st_setC SM (ec_dc (xs := (List.range p).flatMap fun (i : Nat) => (List.range q).map fun (j : Nat) => (i, j)) (enc := fun x => kD ((x.1 : Int), (x.2 : Int))) (kf := fun x => [(x.1 : Int), (x.2 : Int)]) (vf := fun x => g x.1 x.2 kk3 - rv x.1 x.2) SM (((wk_keysT (ev_ref SM rfl) hRM).to hkeys).weak fun _ _ e => e.1) (fun x _ => tg_tup (ns := [14, 15]) rfl rfl) (by omega) ?_ rfl (fun x hx σ2 H2 e2 S2 => ev_tup (ea_cons (ev_var S2 rfl) (ea_cons (ev_var S2 rfl) ea_nil)) (by simp)) fun x hx σ2 H2 e2 S2 => ?_) fun left σ5 H5 hleft e5 h5 S5 => ?_
      · have := keys_nodup p q
        rw [List.map_flatMap]
        simpa [List.map_map, Function.comp_def] using this
      · obtain ⟨i, hi, hij⟩ := List.mem_flatMap.mp hx
        obtain ⟨j, hj, rfl⟩ := List.mem_map.mp hij
        have hi := List.mem_range.mp hi
        have hj := List.mem_range.mp hj
        exact ev_sub (ev_dget (k := [(i : Int), (j : Int), (kk3 : Int)]) (ev_ref S2 rfl) (RdT.of (e2 _ _ hTM)) (ev_tup (ea_cons (ev_var S2 rfl) (ea_cons (ev_var S2 rfl) (ea_cons (ev_var S2 rfl) ea_nil))) (by simp)) (hT i j kk3 hi hj hk3)) (ev_dget (k := [(i : Int), (j : Int)]) (ev_ref S2 rfl) (.inr ⟨od2, e2 _ _ hRM⟩) (ev_tup (ea_cons (ev_var S2 rfl) (ea_cons (ev_var S2 rfl) ea_nil)) (by simp)) (hR i j hi hj))
      · have f5 := e5 _ _ hRM
        refine ⟨f5, ?_⟩
        obtain ⟨H6, eH6⟩ : ∃ H6, upd H5 R1 (.dT (tbH RT)) = H6 := ⟨_, rfl⟩
        have a46 : Same H4 H6 := by
          rw [← eH6]
          exact same_unlock (f := .frz od2 (.dT (tbH RT))) hR4 (by rw [eHM]; exact e5)
        have nl : left ≠ R1 := fun z => by rw [z, hRM] at hleft; cases hleft
        have S6 : Sl K σ5 H6 [.ref c, .dat (tI v), .dat (.int k), .dat (.int n), .ref T1, .dat (tI (zs [p, q, r])), .dat (.int p), .dat (.int q), .dat (.int r), .ref l, .ref ff, .dat (.tuple []), .ref sl, .ref R1, .un, .un, .dat (.int kk3), .ref left, .un, .un, .un] := by
          rw [← eH6]
          exact S5.tups (tups_upd f5 fun _ z => nomatch z)
        have hl6 : H6 left = some (.dT (tbH (((List.range p).flatMap fun (i : Nat) => (List.range q).map fun (j : Nat) => (i, j)).map fun x => ([(x.1 : Int), (x.2 : Int)], g x.1 x.2 kk3 - rv x.1 x.2)))) := by
          rw [← eH6, upd_ne nl]
          exact h5
        have hL2 : Has2 (((List.range p).flatMap fun (i : Nat) => (List.range q).map fun (j : Nat) => (i, j)).map fun x => ([(x.1 : Int), (x.2 : Int)], g x.1 x.2 kk3 - rv x.1 x.2)) p q (fun i j => g i j kk3 - rv i j) := by
          have := has2_of p q (fun i j => g i j kk3 - rv i j)
          rw [List.map_flatMap]
          simpa [List.map_map, Function.comp_def] using this
        have hc6 := a46 _ _ hc4
        rw [eH6]
        refine sq (st_asgX (call_M (ex_cons (ev_ref S6 rfl) (ex_nil (ea_cons (ev_var S6 rfl) (ea_cons (ev_var S6 rfl) ea_nil)))) fun H7 e7 => ⟨left, _, p, q, _, ⟨by omega, by omega, by omega, by omega, hL2⟩, rfl, rfl, RdT.of (e7 _ _ hl6), fun rr l1 l2 fs ss H8 hfs hss hl1 hl2 e8 h8r h8a h8b => ?_⟩))
        have e78 := e7.trans e8
        refine st_unLL (S6.same e78) h8r fun σ8 S8 => ?_
        have S8 : Sl K σ8 H8 [.ref c, .dat (tI v), .dat (.int k), .dat (.int n), .ref T1, .dat (tI (zs [p, q, r])), .dat (.int p), .dat (.int q), .dat (.int r), .ref l, .ref ff, .dat (.tuple []), .ref sl, .ref R1, .un, .un, .dat (.int kk3), .ref left, .ref l1, .ref l2, .un] := S8
        have hc8 := e78 _ _ hc6
        have n2 : l2 ≠ c := (ne_of_none (e7 _ _ hc6) hl2).symm
        have bound : C3.length + p + q < 90000 := by
          have h1 : kk3 * (p + q) + (p + q) ≤ r * (p + q) := by
            rw [← Nat.succ_mul]
            exact Nat.mul_le_mul_right _ hk3
          rw [Nat.mul_add r p q] at h1
          omega
        refine sq (st_forPut (c := c) (C := C3) (xs := List.range p) (enc := fun i => PyData.tuple [.int ((i : Nat) : Int), .int (fs.getD i 0)]) (wk_bothK ((wk_enL (EvX.r (ev_ref S8 rfl) (RdL.ofI (SqL.of h8a)))).to (by rw [enD_ints, hfs]))) S8 hc8 d3 (by rw [List.length_range]; omega) (fun x => tg_tup (ns := [14, 20]) rfl rfl) (fun x σ' H' S' => (S'.weak 14).weak 20) (fun i hi σ' H' C' s' h' d' l' S' D' k' => ?_) fun σ9 H9 C9 s9 h9 d9 l9 S9 => ?_)
        · have hi := List.mem_range.mp hi
          exact st_put1 (n := n) (p := q) (b := beatL n k [i, 0, kk3]) (m := fs.getD i 0) S' rfl (ea_cons (ev_var S' rfl) (ea_cons (ev_var S' rfl) (ea_cons (ev_call (ea_cons (ev_var S' rfl) (ea_cons (ev_var S' rfl) (ea_cons (ev_tup (ea_cons (ev_var S' rfl) (ea_cons ev_int (ea_cons (ev_var S' rfl) ea_nil))) (by simp)) ea_nil))) ⟨n, k, [i, 0, kk3], ⟨hb.1, hb.2, crk i 0 kk3 hi (by omega) hk3⟩, rfl, rfl⟩) (ea_cons (ev_var S' rfl) ea_nil)))) ⟨by omega, by omega, hnq, hb.2⟩ h' l' d' k'
        · have h9b := s9 _ _ n2 h8b
          rw [List.length_range] at l9
          refine st_forPut (c := c) (C := C9) (xs := List.range q) (enc := fun j => PyData.tuple [.int ((j : Nat) : Int), .int (ss.getD j 0)]) (wk_bothK ((wk_enL (EvX.r (ev_ref S9 rfl) (RdL.ofI (SqL.of h9b)))).to (by rw [enD_ints, hss]))) S9 h9 d9 (by rw [List.length_range]; omega) (fun x => tg_tup (ns := [15, 20]) rfl rfl) (fun x σ' H' S' => (S'.weak 15).weak 20) (fun j hj σ' H' C' s' h' d' l' S' D' k' => ?_) fun σ10 H10 C10 s10 h10 d10 l10 S10 => ?_
          · have hj := List.mem_range.mp hj
            exact st_put1 (n := n) (p := p) (b := beatL n k [0, j, kk3]) (m := ss.getD j 0) S' rfl (ea_cons (ev_var S' rfl) (ea_cons (ev_var S' rfl) (ea_cons (ev_call (ea_cons (ev_var S' rfl) (ea_cons (ev_var S' rfl) (ea_cons (ev_tup (ea_cons ev_int (ea_cons (ev_var S' rfl) (ea_cons (ev_var S' rfl) ea_nil))) (by simp)) ea_nil))) ⟨n, k, [0, j, kk3], ⟨hb.1, hb.2, crk 0 j kk3 (by omega) hj hk3⟩, rfl, rfl⟩) (ea_cons (ev_var S' rfl) ea_nil)))) ⟨by omega, by omega, hnp, hb.2⟩ h' l' d' k'
          · rw [List.length_range] at l10
            refine ⟨s3.trans ((Same.sb ((e4.trans a46).trans e78)).trans (s9.trans s10)), ⟨C10, h10, d10, ?_⟩, (((S10.weak 16).weak 17).weak 18).weak 19⟩
            rw [Nat.succ_mul]
            omega
    · rintro H3 σ' H' e3 ⟨s3, ⟨C3, hc3, d3, l3⟩, S3⟩
      rw [List.length_range, Nat.mul_add] at l3
      dsimp only
      refine st_ret ev_non fun w H4 e4 r4 => ?_
      rw [r4.non']
      exact kk H4 C3 ((Same.sb e011).trans (sU.trans ((Same.sb e3).trans (s3.trans (Same.sb e4))))) (e4 _ _ hc3) d3 (by omega)
end
end SB
namespace SB
open PySem PySem.Spec PyProof.Rows L2 RZ
open StX (tStar pa_star)
section
variable {P : Program} {w : World} {K : PySem.W.Frag} {mg : Str → Option Value} {base : Heap}
abbrev s_is_silent : Stmt := topS 86
theorem sc_is_silent : FnScope ["voice", "divisor"] ["voice", "divisor"] (defScope s_is_silent) := ⟨rfl, rfl, rfl, by decide +kernel, rfl, by decide +kernel, by decide +kernel⟩
theorem ok_is_silent {f : Addr} {fd : FuncData} (F : Fun K "is_silent" "is_silent" s_is_silent f fd) (T : Txt K mg) (G_want_divisor : Fn P w K mg base "want_divisor" 3 ["voice", "divisor"] sp_want_divisor) (G_is_silent_in : Fn P w K mg base "is_silent_in" 6 ["voice", "divisor"] sp_is_silent_in) : FnOk P w K mg base CX0 7 f fd ["voice", "divisor"] sp_is_silent := by
  refine okD F sc_is_silent (by rintro _ _ ⟨v, k, hn, rfl, rfl⟩; rfl) fun cdv A outer s H vs Q E ds d hr hR S kk => ?_
  obtain ⟨v, k, hn, rfl, rfl⟩ := hR
  have hu := hu_of hr
  refine ⟨_, (pss_cons (ps_expr (pe_fn G_want_divisor (hr.mono (by decide)) (by rfl) (pa_cons (pv 0) (pa_cons (pv 1) pa_nil))))
    (pss_one (ps_ret (pe_fn G_is_silent_in (hr.mono (by decide)) (by rfl) (pa_cons (pv 0) (pa_cons (pv 1) pa_nil)))))), ?_⟩
  refine sq (st_drop (ev_call (ea_cons (ev_var S rfl) (ea_cons (ev_var S rfl) ea_nil)) ⟨v, k, hn.2.2, rfl, rfl⟩) fun H1 e1 => ?_)
  exact st_ret (ev_call (ea_cons (ev_var (S.same e1) rfl) (ea_cons (ev_var (S.same e1) rfl) ea_nil)) ⟨v, k, ⟨hn.1, hn.2.1⟩, rfl, rfl⟩) fun w H2 e2 r2 => kk w H2 (e1.trans e2) r2
end
end SB
namespace SB
open PySem PySem.Spec PyProof.Rows L2 RZ
open StX (tStar pa_star)
section
variable {P : Program} {w : World} {K : PySem.W.Frag} {mg : Str → Option Value} {base : Heap}
abbrev s_heap_voice : Stmt := topS 82
theorem sc_heap_voice : FnScope ["size", "rows"] ["size", "rows"] (defScope s_heap_voice) := ⟨rfl, rfl, rfl, by decide +kernel, rfl, by decide +kernel, by decide +kernel⟩
theorem ok_heap_voice {f : Addr} {fd : FuncData} (F : Fun K "heap_voice" "heap_voice" s_heap_voice f fd) (T : Txt K mg) (G_want_size : Fn P w K mg base "want_size" 3 ["thing"] sp_want_size) (G_want : FnW P w K mg base "want" 1 ["holds", "word", "at"] sp_want) (G_is_heap_of : Fn P w K mg base "is_heap_of" 6 ["size", "thing"] sp_is_heap_of) (G_voice_by_heap : Fn P w K mg base "voice_by_heap" 1 ["size", "heap"] sp_voice_by_heap) : FnOk P w K mg base CX0 7 f fd ["size", "rows"] sp_heap_voice := by
  refine okD F sc_heap_voice (by rintro _ _ ⟨n, rows, hn, rfl, rfl⟩; rfl) fun cdv A outer s H vs Q E ds d hr hR S kk => ?_
  obtain ⟨n, rows, hn, rfl, rfl⟩ := hR
  have hu := hu_of hr
  refine ⟨_, (pss_cons (ps_expr (pe_fn G_want_size (hr.mono (by decide)) (by rfl) (pa_cons (pv 0) pa_nil)))
    (pss_cons (ps_expr (pe_fnW G_want (hr.mono (by decide)) (by rfl) (pa_cons (pe_fn G_is_heap_of (hr.mono (by decide)) (by rfl) (pa_cons (pv 0) (pa_cons (pv 1) pa_nil))) (pa_cons pe_str pa_nil))))
    (pss_one (ps_ret (pe_fn G_voice_by_heap (hr.mono (by decide)) (by rfl) (pa_cons (pv 0) (pa_cons (pv 1) pa_nil))))))), ?_⟩
  have hrows : rows.all (rowB n) = true := by
    have := hn.2.2.2
    unfold heapB at this
    simp only [Bool.and_eq_true] at this
    exact this.1
  refine sq (st_drop (ev_call (ea_cons (ev_var S rfl) ea_nil) ⟨(n : Int), by omega, rfl, rfl⟩) fun H1 e1 => ?_)
  refine sq (st_drop (ev_call (ea_cons ((ev_call (ea_cons (ev_var (S.same e1) rfl) (ea_cons (ev_var (S.same e1) rfl) ea_nil)) ⟨n, rows, ⟨hn.1, hn.2.1, hn.2.2.1⟩, rfl, rfl⟩).to (by rw [hn.2.2.2])) (ea_cons ev_str ea_nil)) ⟨_, rfl, rfl⟩) fun H2 e2 => ?_)
  exact st_ret (ev_call (ea_cons (ev_var (S.same (e1.trans e2)) rfl) (ea_cons (ev_var (S.same (e1.trans e2)) rfl) ea_nil)) ⟨n, rows, ⟨hn.1, hn.2.1, hn.2.2.1, hrows⟩, rfl, rfl⟩) fun w H3 e3 r3 => kk w H3 ((e1.trans e2).trans e3) r3
end
end SB
namespace SB
open PySem PySem.Spec PyProof.Rows L2 RZ
open StX (tStar pa_star)
section
variable {P : Program} {w : World} {K : PySem.W.Frag} {mg : Str → Option Value} {base : Heap}
theorem puts_len {n : Nat} (hn : n ∈ sizes) (v : List Int) (c : Nat) : (putsC n v c).length ≤ 700 := by
  have h1 := allR_len200 hn
  have h2 := allR_fits hn
  have key : ∀ l : List (Nat × Nat), (l.flatMap (putsAt n v c)).length ≤ l.length * 200 := by
    intro l
    induction l with
    | nil => simp
    | cons x l ih =>
      rw [List.flatMap_cons, List.length_append, List.length_cons]
      have : (putsAt n v c x).length ≤ 200 := by
        unfold putsAt
        rw [List.length_map]
        exact Nat.le_trans (List.length_filter_le _ _) h1
      omega
  have := key (primesL n).zipIdx
  rw [List.length_zipIdx] at this
  unfold putsC
  omega
theorem puts_all (n : Nat) (hn : n ∈ sizes) (v : List Int) : ∀ j, ((List.range j).flatMap (putsC n v)).length ≤ j * 700
  | 0 => by simp
  | j + 1 => by
    rw [List.range_succ, List.flatMap_append, List.length_append, List.flatMap_cons, List.flatMap_nil, List.append_nil]
    have := puts_len hn v j
    have := puts_all n hn v j
    omega
abbrev s_signed_by : Stmt := topS 56
theorem sc_signed_by : FnScope ["voice", "counts", "coset"] ["voice"] (defScope s_signed_by) := ⟨rfl, rfl, rfl, by decide +kernel, rfl, by decide +kernel, by decide +kernel⟩
theorem ok_signed_by {f : Addr} {fd : FuncData} (F : Fun K "signed_by" "signed_by" s_signed_by f fd) (T : Txt K mg) (G_step_in : Fn P w K mg base "step_in" 4 ["size"] sp_step_in) (G_put_signed : Fn P w K mg base "put_signed" 7 ["counts", "voice", "coset"] sp_put_signed) (G_heap_by : Fn P w K mg base "heap_by" 1 ["counts"] sp_heap_by) : FnOk P w K mg base CX0 8 f fd ["voice"] sp_signed_by := by
  refine okD F sc_signed_by (by rintro _ _ ⟨v, hn, rfl, rfl⟩; rfl) fun cdv A outer s H vs Q E ds d hr hR S kk => ?_
  obtain ⟨v, hn, rfl, rfl⟩ := hR
  have hu := hu_of hr
  refine ⟨_, (pss_cons (ps_set (i := 1) sc_signed_by.nd rfl (Or.inl rfl) pe_dnewT)
    (pss_cons (ps_for PassesOwn.never rfl (pi_range1 (by rfl) T.range (pa_cons (pe_ifExp (pt_cmpR op_gt (pe_callB (k_call_len_seq K) (by rfl) T.len PySem.boot_len (pa_cons (pv 0) pa_nil)) pe_int (nomark _)) (pe_fn G_step_in (hr.mono (by decide)) (by rfl) (pa_cons (pe_callB (k_call_len_seq K) (by rfl) T.len PySem.boot_len (pa_cons (pv 0) pa_nil)) pa_nil)) pe_int) pa_nil)) (pg_name (i := 2) sc_signed_by.nd rfl (Or.inl rfl)) 
      (pss_one (ps_expr (pe_fn G_put_signed (hr.mono (by decide)) (by rfl) (pa_cons (pv 1) (pa_cons (pv 0) (pa_cons (pv 2) pa_nil)))))))
    (pss_one (ps_ret (pe_fn G_heap_by (hr.mono (by decide)) (by rfl) (pa_cons (pv 1) pa_nil)))))), ?_⟩
  have hb := size_lt _ hn
  have hps := primes_small v.length (mem_drop1 hb.1 hb.2)
  have hcl := puts_len hn v
  obtain ⟨n, en⟩ : ∃ n, v.length = n := ⟨_, rfl⟩
  refine sq (st_setC S ec_new fun A σ1 H1 hA e1 h1 S1 => ?_)
  refine sq (st_for (xs := List.range (if 1 < n then stepL n else 0)) (enc := fun j => .int ((j : Nat) : Int)) (wk_rng1 (n := ((if 1 < n then stepL n else 0 : Nat) : Int)) (ea_cons (ev_if (b := decide (1 < n)) ((et_test (ev_gt (ev_lenT (ev_var S1 rfl)) ev_int)).to (by rw [List.length_map, en]; norm_cast)) (fun h => ?_) (fun h => ?_)) ea_nil) (by rw [← en]; split <;> omega) (rng_d0 _ (by omega)))
    (fun H2 i σ' H' => Same H H' ∧ Sb A H2 H' ∧ H' A = some (.dT (tbH (cT (putAll [] ((List.range i).flatMap (putsC n v)))))) ∧ Sl K σ' H' [.dat (tI v), .ref A, .un])
    (fun H2 e2 => ⟨e1.trans e2, Sb.refl _, by simpa [putAll, cT] using e2 _ _ h1, S1.same e2⟩) (fun H2 i σ' H' e h => h.2.1.tp (C := []) (by simpa using e _ _ h1)) ?_ ?_)
  · have h := of_decide_eq_true h
    rw [if_pos h]
    exact (ev_call (ea_cons ((ev_lenT (ev_var S1 rfl)).to (by rw [List.length_map])) ea_nil) ⟨v.length, hb, rfl, rfl⟩).to (by rw [en])
  · have h := of_decide_eq_false h
    rw [if_neg h]
    exact ev_int
  · rintro H2 i i' σ' H' v2 H3 e2 hx ⟨e3, b3, h3, S3⟩ e4 rv
    obtain ⟨hi, hi'⟩ : i < (if 1 < n then stepL n else 0) ∧ i' = i := by
      have := List.getElem?_eq_some_iff.mp hx
      simp at this
      exact ⟨by simpa using this.1, this.2.symm⟩
    rw [hi'] at rv
    have hst : i < stepL n := by
      split at hi
      · exact hi
      · omega
    have S4 := (S3.same e4).setD 2 rv
    refine st_dropM (ex_cons (ev_ref S4 rfl) (ex_nil (ea_cons (ev_var S4 rfl) (ea_cons (ev_var S4 rfl) ea_nil)))) fun H5 e5 => ⟨A, _, v, i, ⟨by rw [en]; rw [en] at hn; exact hn, by rw [en]; exact hst, ?_, putAll_nodup _ (C := []) .nil⟩, rfl, rfl, e5 _ _ (e4 _ _ h3), fun H6 s6 h6 => ?_⟩
    · rw [en]
      have h7 := putAll_len ((List.range i).flatMap (putsC n v)) []
      have h8 := puts_all (v.length) hn v
      rw [en] at h8
      have h9 := h8 i
      have h10 := hcl i
      rw [en] at h10 hb hps
      rw [List.length_nil, Nat.zero_add] at h7
      omega
    · have s36 : Sb A H' H6 := (Same.sb (e4.trans e5)).trans s6
      refine ⟨Sb.same e3 hA s36, b3.trans s36, ?_, ((S4.same e5).kp (s6.kp (e5 _ _ (e4 _ _ h3)))).weak 2⟩
      rw [h6, List.range_succ, List.flatMap_append, putAll_append, en]
      simp
  · rintro H2 σ' H' e2 ⟨e3, _, h3, S3⟩
    rw [List.length_range] at h3
    refine st_ret (ev_callM (ex_cons (ev_ref S3 rfl) (ex_nil ea_nil)) fun H4 e4 Q4 q4 => ⟨A, _, ?_, rfl, rfl, RdT.of (e4 _ _ h3), q4⟩) fun w H4 e4 r4 => kk w H4 (e3.trans e4) ?_
    · rw [en]
      exact r4
    · have h7 := putAll_len ((List.range (if 1 < n then stepL n else 0)).flatMap (putsC n v)) []
      have h8 := puts_all (v.length) hn v
      rw [en] at h8
      have h9 := h8 (if 1 < n then stepL n else 0)
      have h10 : (if 1 < n then stepL n else 0) ≤ 110 := by
        rw [← en]
        split <;> omega
      rw [List.length_nil, Nat.zero_add] at h7
      omega
end
end SB
namespace SB
open PySem PySem.Spec PyProof.Rows L2 RZ
open StX (tStar pa_star)
section
variable {P : Program} {w : World} {K : PySem.W.Frag} {mg : Str → Option Value} {base : Heap}
abbrev s_plain_by : Stmt := topS 76
theorem sc_plain_by : FnScope ["voice", "counts", "primes", "coset", "walk"] ["voice"] (defScope s_plain_by) := ⟨rfl, rfl, rfl, by decide +kernel, rfl, by decide +kernel, by decide +kernel⟩
theorem ok_plain_by {f : Addr} {fd : FuncData} (F : Fun K "plain_by" "plain_by" s_plain_by f fd) (T : Txt K mg) (G_primes_in : Fn P w K mg base "primes_in" 3 ["number"] sp_primes_in) (G_step_in : Fn P w K mg base "step_in" 4 ["size"] sp_step_in) (G_put_one : Fn P w K mg base "put_one" 4 ["counts", "voice", "coset"] sp_put_one) (G_put_two : Fn P w K mg base "put_two" 7 ["counts", "voice", "coset"] sp_put_two) (G_put_three : Fn P w K mg base "put_three" 7 ["counts", "voice", "coset"] sp_put_three) (G_heap_by : Fn P w K mg base "heap_by" 1 ["counts"] sp_heap_by) : FnOk P w K mg base CX0 8 f fd ["voice"] sp_plain_by := by
  refine okM F sc_plain_by (by rintro _ _ _ _ ⟨v, hn, rfl, rfl, kk⟩; rfl) fun cdv A outer s H vs Q E as ds hr hR S => ?_
  obtain ⟨v, hn, rfl, rfl, kk⟩ := hR
  have hu := hu_of hr
  refine ⟨_, (pss_cons (ps_set (i := 1) sc_plain_by.nd rfl (Or.inl rfl) pe_dnewT)
    (pss_cons (ps_set (i := 2) sc_plain_by.nd rfl (Or.inl rfl) (pe_fn G_primes_in (hr.mono (by decide)) (by rfl) (pa_cons (pe_callB (k_call_len_seq K) (by rfl) T.len PySem.boot_len (pa_cons (pv 0) pa_nil)) pa_nil)))
    (pss_cons (ps_if (pt_cmpR op_eq (pe_callB (k_call_len_seq K) (by rfl) T.len PySem.boot_len (pa_cons (pv 2) pa_nil)) pe_int (nomark _)) 
      (pss_one (ps_ret (pe_tup (pa_cons (pe_tup pa_nil) (pa_cons pe_non pa_nil)))))
      pss_nil)
    (pss_cons (ps_for PassesOwn.never rfl (pi_range1 (by rfl) T.range (pa_cons (pe_fn G_step_in (hr.mono (by decide)) (by rfl) (pa_cons (pe_callB (k_call_len_seq K) (by rfl) T.len PySem.boot_len (pa_cons (pv 0) pa_nil)) pa_nil)) pa_nil)) (pg_name (i := 3) sc_plain_by.nd rfl (Or.inl rfl)) 
      (pss_one (ps_if (pt_cmpR op_eq (pe_callB (k_call_len_seq K) (by rfl) T.len PySem.boot_len (pa_cons (pv 2) pa_nil)) pe_int (nomark _)) 
        (pss_one (ps_expr (pe_fn G_put_one (hr.mono (by decide)) (by rfl) (pa_cons (pv 1) (pa_cons (pv 0) (pa_cons (pv 3) pa_nil))))))
        (pss_one (ps_if (pt_cmpR op_eq (pe_callB (k_call_len_seq K) (by rfl) T.len PySem.boot_len (pa_cons (pv 2) pa_nil)) pe_int (nomark _)) 
          (pss_one (ps_expr (pe_fn G_put_two (hr.mono (by decide)) (by rfl) (pa_cons (pv 1) (pa_cons (pv 0) (pa_cons (pv 3) pa_nil))))))
          (pss_cons (ps_set (i := 4) sc_plain_by.nd rfl (Or.inl rfl) (pe_fn G_put_three (hr.mono (by decide)) (by rfl) (pa_cons (pv 1) (pa_cons (pv 0) (pa_cons (pv 3) pa_nil)))))
          (pss_one (ps_if (pt_cmpR op_notN (pv 4) pe_non (nomark _)) 
            (pss_one (ps_ret (pe_tup (pa_cons pe_non (pa_cons (pe_tup (pa_cons (pv 3) (pa_cons (pv 4) pa_nil))) pa_nil)))))
            pss_nil))))))))
    (pss_one (ps_ret (pe_tup (pa_cons (pe_fn G_heap_by (hr.mono (by decide)) (by rfl) (pa_cons (pv 1) pa_nil)) (pa_cons pe_non pa_nil))))))))), ?_⟩
  have hb := size_lt _ hn.1
  have hps := primes_small v.length (mem_drop1 hb.1 hb.2)
  obtain ⟨n, en⟩ : ∃ n, v.length = n := ⟨_, rfl⟩
  have hv := hn
  rw [en] at hn hb hps
  refine sq (st_setC S ec_new fun A σ1 H1 hA e1 h1 S1 => ?_)
  refine sq (st_set S1 (ev_call (ea_cons ((ev_lenT (ev_var S1 rfl)).to (by rw [List.length_map, en])) ea_nil) ⟨n, hb, rfl, rfl⟩) fun σ2 H2 e2 S2 => ?_)
  have S2 : Sl K σ2 H2 [.dat (tI v), .ref A, .dat (tI (zs (primesL n))), .un, .un] := S2
  have lenEv : ∀ {σ' : L2.St} {H' : Hp} {ρ : List Sd}, Sl K σ' H' ρ → ρ[2]? = some (.dat (tI (zs (primesL n)))) → EvD (tCB (fun xs H Q => ∃ p ys, xs = [.ref p] ∧ (SqL K H p ys ∨ SqT K H p ys) ∧ Q (.int ys.length) H) (tCons (tVar 2) tNil)) σ' H' (.int ((primesL n).length : Int)) := fun S' h => (ev_lenT (ev_var S' h)).to (by rw [List.length_map, List.length_map])
  refine sq (st_if (et_test (ev_eq (lenEv S2 rfl) ev_int)) (fun _ H3 e3 => ?_) fun hne H3 e3 => ?_)
  · refine st_ret (ev_tup (ea_cons (ev_tup ea_nil (by simp)) (ea_cons ev_non ea_nil)) (by simp)) fun w H4 e4 r4 => kk w [] H4 (((e1.trans e2).trans e3).trans e4) r4
  · have hA3 := e3 _ _ (e2 _ _ h1)
    have S3 := S2.same e3
    have hst := hps.2.1
    refine sq (st_for (xs := List.range (stepL n)) (enc := fun i => .int ((i : Nat) : Int)) (wk_rng1 (n := (stepL n : Int)) (ea_cons (ev_call (ea_cons ((ev_lenT (ev_var S3 rfl)).to (by rw [List.length_map, en])) ea_nil) ⟨n, hb, rfl, rfl⟩) ea_nil) (by omega) (rng_d0 (stepL n) (by omega)))
      (fun H4 i σ' H' => Sb A H4 H' ∧ (∃ C', H' A = some (.dT (tbH (cT C'))) ∧ (C'.map (·.1)).Nodup ∧ C'.length ≤ i * 700) ∧ Sl K σ' H' [.dat (tI v), .ref A, .dat (tI (zs (primesL n))), .un, .un])
      (fun H4 e4 => ⟨Sb.refl _, ⟨[], e4 _ _ hA3, .nil, by simp⟩, S3.same e4⟩) (fun H4 i σ' H' e4 h => h.1.tp (C := cT []) (e4 _ _ hA3)) ?_ ?_)
    · rintro H4 i i' σ' H' v4 H5 e4 hx ⟨s4, ⟨C4, hc4, d4, l4⟩, S4⟩ e5 rv5
      obtain ⟨hi, hi'⟩ : i < stepL n ∧ i' = i := by
        have := List.getElem?_eq_some_iff.mp hx
        simp at this
        exact ⟨this.1, this.2.symm⟩
      rw [hi'] at rv5
      have S5 := (S4.same e5).setD 3 rv5
      have hc5 := e5 _ _ hc4
      have hin : i < n := by omega
      have hl5 : C4.length + 700 < 90000 := by omega
      have done : ∀ {H6 : Hp} {C6 : Cts} (m : Nat), m ≤ 700 → Sb A H5 H6 → (C6.map (·.1)).Nodup → C6.length ≤ C4.length + m → C6.length ≤ (i + 1) * 700 := fun m hm _ _ h => by
        rw [Nat.succ_mul]
        omega
      refine st_if (et_test (ev_eq (lenEv S5 rfl) ev_int)) (fun h1' H6 e6 => ?_) fun h1' H6 e6 => ?_
      · have h1' : (primesL n).length = 1 := by have := of_decide_eq_true h1'; omega
        have S6 := S5.same e6
        refine st_dropM (ex_cons (ev_ref S6 rfl) (ex_nil (ea_cons (ev_var S6 rfl) (ea_cons (ev_var S6 rfl) ea_nil)))) fun H7 e7 => ⟨A, C4, v, i, ⟨hv.1, by rw [en]; exact h1', by rw [en]; exact hin, by omega, d4⟩, rfl, rfl, (e6.trans e7) _ _ hc5, fun H8 C8 s8 h8 d8 l8 => ?_⟩
        exact ⟨s4.trans ((Same.sb ((e5.trans e6).trans e7)).trans s8), ⟨C8, h8, d8, by rw [Nat.succ_mul]; omega⟩, ((S6.same e7).kp (s8.kp ((e6.trans e7) _ _ hc5))).weak 3⟩
      · have h1' : ¬ (primesL n).length = 1 := by have := of_decide_eq_false h1'; omega
        have S6 := S5.same e6
        refine st_if (et_test (ev_eq (lenEv S6 rfl) ev_int)) (fun h2' H7 e7 => ?_) fun h2' H7 e7 => ?_
        · have h2' : (primesL n).length = 2 := by have := of_decide_eq_true h2'; omega
          have S7 := S6.same e7
          refine st_dropM (ex_cons (ev_ref S7 rfl) (ex_nil (ea_cons (ev_var S7 rfl) (ea_cons (ev_var S7 rfl) ea_nil)))) fun H8 e8 => ⟨A, C4, v, i, ⟨hv.1, by rw [en]; exact h2', by rw [en]; exact hi, by omega, d4⟩, rfl, rfl, ((e6.trans e7).trans e8) _ _ hc5, fun H9 C9 s9 h9 d9 l9 => ?_⟩
          exact ⟨s4.trans ((Same.sb (((e5.trans e6).trans e7).trans e8)).trans s9), ⟨C9, h9, d9, by rw [Nat.succ_mul]; omega⟩, ((S7.same e8).kp (s9.kp (((e6.trans e7).trans e8) _ _ hc5))).weak 3⟩
        · have h2' : ¬ (primesL n).length = 2 := by have := of_decide_eq_false h2'; omega
          have h0' : ¬ (primesL n).length = 0 := by have := of_decide_eq_false hne; omega
          have h3' : (primesL n).length = 3 := by have := hps.1; omega
          have S7 := S6.same e7
          refine sq (st_asgC S7 (call_M (ex_cons (ev_ref S7 rfl) (ex_nil (ea_cons (ev_var S7 rfl) (ea_cons (ev_var S7 rfl) ea_nil)))) fun H8 e8 => ⟨A, C4, v, i, ⟨hv.1, by rw [en]; exact h3', by rw [en]; exact hi, by omega, d4, hv.2⟩, rfl, rfl, ((e6.trans e7).trans e8) _ _ hc5, fun H9 C9 s9 h9 d9 l9 => ?_⟩))
          have S9 := ((S7.same e8).kp (s9.kp (((e6.trans e7).trans e8) _ _ hc5))).setD 4 (Dt.non (H := H9))
          refine st_if (b := false) (et_notN (ev_var S9 (k := 4) rfl)) (fun z => nomatch z) fun _ H10 e10 => ?_
          exact ⟨s4.trans ((Same.sb (((e5.trans e6).trans e7).trans e8)).trans (s9.trans (Same.sb e10))), ⟨C9, e10 _ _ h9, d9, by rw [Nat.succ_mul]; omega⟩, ((S9.same e10).weak 3).weak 4⟩
    · rintro H4 σ' H' e4 ⟨s4, ⟨C4, hc4, d4, l4⟩, S4⟩
      rw [List.length_range] at l4
      dsimp only
      have sH : Same H H' := Sb.same (((e1.trans e2).trans e3).trans e4) hA s4
      refine st_ret (ev_tup (ea_cons (ev_callM (ex_cons (ev_ref S4 (k := 1) rfl) (ex_nil ea_nil)) fun H5 e5 Q5 q5 => ⟨A, C4, by omega, rfl, rfl, RdT.of (e5 _ _ hc4), q5⟩) (ea_cons ev_non ea_nil)) (by simp)) fun w H5 e5 r5 => kk w _ H5 (sH.trans e5) r5
end
end SB
namespace SB
open PySem PySem.Spec PyProof.Rows L2 RZ
open StX (tStar pa_star)
section
variable {P : Program} {w : World} {K : PySem.W.Frag} {mg : Str → Option Value} {base : Heap}
abbrev s_silences_of : Stmt := topS 85
theorem sc_silences_of : FnScope ["voice"] ["voice"] (defScope s_silences_of) := ⟨rfl, rfl, rfl, by decide +kernel, rfl, by decide +kernel, by decide +kernel⟩
theorem ok_silences_of {f : Addr} {fd : FuncData} (F : Fun K "silences_of" "silences_of" s_silences_of f fd) (T : Txt K mg) (G_silences_in : Fn P w K mg base "silences_in" 7 ["voice"] sp_silences_in) : FnOk P w K mg base CX0 8 f fd ["voice"] sp_silences_of := by
  refine okD F sc_silences_of (by rintro _ _ ⟨v, hn, rfl, rfl⟩; rfl) fun cdv A outer s H vs Q E ds d hr hR S kk => ?_
  obtain ⟨v, hn, rfl, rfl⟩ := hR
  have hu := hu_of hr
  refine ⟨_, (pss_one (ps_ret (pe_fn G_silences_in (hr.mono (by decide)) (by rfl) (pa_cons (pv 0) pa_nil)))), ?_⟩
  exact st_ret (ev_call (ea_cons (ev_var S rfl) ea_nil) ⟨v, hn, rfl, rfl⟩) kk
end
end SB
namespace SB
open PySem PySem.Spec PyProof.Rows L2 RZ
open StX (tStar pa_star)
section
variable {P : Program} {w : World} {K : PySem.W.Frag} {mg : Str → Option Value} {base : Heap}
abbrev s_is_heap : Stmt := topS 79
theorem sc_is_heap : FnScope ["voice"] ["voice"] (defScope s_is_heap) := ⟨rfl, rfl, rfl, by decide +kernel, rfl, by decide +kernel, by decide +kernel⟩
theorem ok_is_heap {f : Addr} {fd : FuncData} (F : Fun K "is_heap" "is_heap" s_is_heap f fd) (T : Txt K mg) (G_is_silent_in : Fn P w K mg base "is_silent_in" 6 ["voice", "divisor"] sp_is_silent_in) (G_is_low : Fn P w K mg base "is_low" 1 ["voice"] sp_is_low) (G_plain_by : Fn P w K mg base "plain_by" 8 ["voice"] sp_plain_by) : FnOk P w K mg base CX0 9 f fd ["voice"] sp_is_heap := by
  refine okD F sc_is_heap (by rintro _ _ ⟨v, hn, rfl, rfl⟩; rfl) fun cdv A outer s H vs Q E ds d hr hR S kk => ?_
  obtain ⟨v, hn, rfl, rfl⟩ := hR
  have hu := hu_of hr
  refine ⟨_, (pss_cons (ps_if (PW.pt (pw_or (pt_val (pe_fn G_is_low (hr.mono (by decide)) (by rfl) (pa_cons (pv 0) pa_nil))) (pw_or1 (pt_not (pt_val (pe_fn G_is_silent_in (hr.mono (by decide)) (by rfl) (pa_cons (pv 0) (pa_cons (pe_callB (k_call_len_seq K) (by rfl) T.len PySem.boot_len (pa_cons (pv 0) pa_nil)) pa_nil)))))))) 
      (pss_one (ps_ret pe_bl))
      pss_nil)
    (pss_one (ps_ret (pe_cmpR op_notN (pe_ix (k_ix_tup K) (pe_fn G_plain_by (hr.mono (by decide)) (by rfl) (pa_cons (pv 0) pa_nil)) pe_int (fun _ _ => rfl)) pe_non (nomark _))))), ?_⟩
  have hb := size_lt _ hn.1
  refine sq (st_if (b := false) ((et_or (et_B (ev_call (ea_cons (ev_var S rfl) ea_nil) ⟨v, by omega, rfl, rfl⟩)) fun _ => et_not (et_B (ev_call (ea_cons (ev_var S rfl) (ea_cons ((ev_lenT (ev_var S rfl)).to (by rw [List.length_map])) ea_nil)) ⟨v, v.length, ⟨by omega, size_sub hn.1⟩, rfl, rfl⟩))).to (by rw [hn.2.1, hn.2.2.1]; rfl)) (fun z => nomatch z) fun _ H1 e1 => ?_)
  have S1 := S.same e1
  refine call_M (ex_nil (ea_cons (ev_var S1 rfl) ea_nil)) fun H3 e3 => ⟨v, ⟨hn.1, hn.2.2.2⟩, rfl, rfl, fun w rows H4 e4 r4 => ?_⟩
  obtain ⟨p, xs, rfl, hp, rs⟩ := r4.tup'
  cases rs with
  | cons r1 rs =>
    obtain ⟨p1, xs1, rfl, _, _⟩ := r1.tup'
    exact ⟨p, _, 0, .ref p1, rfl, rfl, SqT.of hp, atI_zero, rfl, kk (.bl true) H4 ((e1.trans e3).trans e4) (.bl true)⟩
end
end SB
namespace SB
open PySem PySem.Spec PyProof.Rows L2 RZ
open StX (tStar pa_star)
section
variable {P : Program} {w : World} {K : PySem.W.Frag} {mg : Str → Option Value} {base : Heap}
abbrev s_signed_heap : Stmt := topS 57
theorem sc_signed_heap : FnScope ["voice"] ["voice"] (defScope s_signed_heap) := ⟨rfl, rfl, rfl, by decide +kernel, rfl, by decide +kernel, by decide +kernel⟩
theorem ok_signed_heap {f : Addr} {fd : FuncData} {C : Addr} (F : Fun K "signed_heap" "signed_heap" s_signed_heap f fd) (T : Txt K mg) (U : Uns P w K mg base C) (G_want_silent : FnX P w K mg base "want_silent" 6 ["voice"] (sp_want_silent C)) (G_signed_by : Fn P w K mg base "signed_by" 8 ["voice"] sp_signed_by) : FnOk P w K mg base (L2.CX P w) 9 f fd ["voice"] (sp_signed_heap C) := by
  refine F.okX sc_signed_heap (fun vs H Q E h => ?_) (fun cdv A outer s H vs Q E hr h => ?_)
  · obtain ⟨w0, v, rfl, _⟩ := h
    rfl
  · obtain ⟨w0, v, rfl, hw, hn, k1, k2⟩ := h
    have hu := hu_of hr
    have S : Sl K (L2.start ["voice"] [w0]) H [.dat (tI v)] := Sl.startD (K := K) (N := ["voice"]) (.cons hw .nil)
    refine ⟨_, (pss_cons (ps_expr (pe_fnX G_want_silent (takes_of rfl rfl rfl rfl) (fun _ _ _ _ h => h) (hr.mono (by decide)) (by rfl) (pa_cons (pv 0) pa_nil)))
    (pss_one (ps_ret (pe_fn G_signed_by (hr.mono (by decide)) (by rfl) (pa_cons (pv 0) pa_nil))))), ?_⟩
    refine sq (st_dropQ (call_go (ta_cons (ev_var S rfl H (Same.refl H) _ fun x1 H1 e1 r1 => ta_nil ⟨x1, v, rfl, r1, size_sub hn, fun hs H2 e2 => ?_, fun hs d x H2 e2 h2 r2 => k2 hs d x H2 (e1.trans e2) h2 r2⟩))))
    exact st_ret (ev_call (ea_cons (ev_var (S.same (e1.trans e2)) rfl) ea_nil) ⟨v, hn, rfl, rfl⟩) fun w H3 e3 r3 => k1 hs w H3 ((e1.trans e2).trans e3) r3
end
end SB
namespace SB
/-! ### division, over functions -/
abbrev NFn := Nat → Int
/-- `c` moved up by k -/
def shf (c : NFn) (k i : Nat) : Int := if k ≤ i then c (i - k) else 0
def Dv (c : NFn) (m : Nat) : Nat → NFn → NFn
  | 0, r => r
  | k + 1, r => Dv c m k fun i => r i - r (k + m) * shf c k i
abbrev gf (l : List Int) : NFn := fun i => l.getD i 0
theorem gf_out {l : List Int} {i : Nat} (h : l.length ≤ i) : gf l i = 0 := by
  show l.getD i 0 = 0
  rw [List.getD_eq_getElem?_getD, List.getElem?_eq_none h]
  rfl
theorem divL_Dv (d : List Int) (m : Nat) (hd : d.length = m + 1) : ∀ (k : Nat) (g r : List Int), (k = 0 ∨ k + m ≤ r.length) →
    gf (divL d m k g r).2 = Dv (gf d) m k (gf r)
  | 0, _, _, _ => rfl
  | k + 1, g, r, h => by
    have hk : k + 1 + m ≤ r.length := by omega
    show gf (divL d m k (g.set k (r.getD (k + m) 0)) (subAt k (r.getD (k + m) 0) d r)).2 = Dv (gf d) m k fun i => gf r i - gf r (k + m) * shf (gf d) k i
    rw [divL_Dv d m hd k _ _ (.inr (by rw [subAt_len]; omega))]
    congr 1
    funext i
    show (subAt k (r.getD (k + m) 0) d r).getD i 0 = _
    rw [subAt_get]
    unfold shf
    by_cases h1 : k ≤ i
    · rw [if_pos h1]
      by_cases h2 : i < r.length
      · rw [if_pos ⟨h2, h1⟩]
      · rw [if_neg (fun z => h2 z.1)]
        have e : gf d (i - k) = 0 := gf_out (by omega)
        rw [e]
        simp
    · rw [if_neg h1, if_neg (fun z => h1 z.2)]
      simp
theorem Dv_add (c : NFn) (m : Nat) : ∀ (k : Nat) (r s : NFn), Dv c m k (fun i => r i + s i) = fun i => Dv c m k r i + Dv c m k s i
  | 0, _, _ => rfl
  | k + 1, r, s => by
    show Dv c m k (fun i => (r i + s i) - (r (k + m) + s (k + m)) * shf c k i) = fun i => Dv c m k (fun i => r i - r (k + m) * shf c k i) i + Dv c m k (fun i => s i - s (k + m) * shf c k i) i
    rw [← Dv_add c m k]
    congr 1
    funext i
    rw [Int.add_mul]
    omega
theorem Dv_mul (c : NFn) (m : Nat) (a : Int) : ∀ (k : Nat) (r : NFn), Dv c m k (fun i => a * r i) = fun i => a * Dv c m k r i
  | 0, _ => rfl
  | k + 1, r => by
    show Dv c m k (fun i => a * r i - a * r (k + m) * shf c k i) = fun i => a * Dv c m k (fun i => r i - r (k + m) * shf c k i) i
    rw [← Dv_mul c m a k]
    congr 1
    funext i
    rw [Int.mul_sub, Int.mul_assoc]
theorem Dv_zero (c : NFn) (m k : Nat) : Dv c m k (fun _ => 0) = fun _ => 0 := by
  have := Dv_mul c m 0 k (fun _ => 0)
  simpa using this
/-- what stands above doesn't ask for more steps -/
theorem Dv_more (c : NFn) (m k : Nat) (r : NFn) (h : ∀ i, k + m ≤ i → r i = 0) : ∀ j, Dv c m (k + j) r = Dv c m k r
  | 0 => rfl
  | j + 1 => by
    show Dv c m (k + j) (fun i => r i - r (k + j + m) * shf c (k + j) i) = _
    rw [h (k + j + m) (by omega)]
    simp only [Int.zero_mul, Int.sub_zero]
    exact Dv_more c m k r h j
theorem Dv_eq {c : NFn} {m k k' : Nat} {r : NFn} (h : ∀ i, k + m ≤ i → r i = 0) (hk : k ≤ k') : Dv c m k' r = Dv c m k r := by
  obtain ⟨j, rfl⟩ := Nat.exists_eq_add_of_le hk
  exact Dv_more c m k r h j
/-- the rest is short -/
theorem Dv_short (c : NFn) (m : Nat) (hm : c m = 1) (hc : ∀ j, m < j → c j = 0) : ∀ (k : Nat) (r : NFn), (∀ i, k + m ≤ i → r i = 0) → ∀ i, m ≤ i → Dv c m k r i = 0
  | 0, r, h, i, hi => h i (by omega)
  | k + 1, r, h, i, hi => by
    refine Dv_short c m hm hc k _ (fun i hi => ?_) i hi
    unfold shf
    rw [if_pos (by omega)]
    by_cases e : i = k + m
    · subst e
      have : k + m - k = m := by omega
      rw [this, hm]
      omega
    · rw [h i (by omega), hc (i - k) (by omega)]
      simp
/-- every weighing that kills the divisor's shifts weighs the rest as it weighs the whole -/
def wsum (l : List (Int × Nat)) (r : NFn) : Int := (l.map fun e => e.1 * r e.2).sum
theorem wsum_sub (l : List (Int × Nat)) (r : NFn) (g : Int) (s : NFn) : wsum l (fun i => r i - g * s i) = wsum l r - g * wsum l s := by
  unfold wsum
  induction l with
  | nil => simp
  | cons e l ih =>
    simp only [List.map_cons, List.sum_cons]
    rw [ih, Int.mul_sub, Int.mul_add, ← Int.mul_assoc, Int.mul_comm e.1 g, Int.mul_assoc]
    omega
theorem Dv_weigh (c : NFn) (m : Nat) (l : List (Int × Nat)) : ∀ (k : Nat) (r : NFn), (∀ j, j < k → wsum l (shf c j) = 0) → wsum l (Dv c m k r) = wsum l r
  | 0, _, _ => rfl
  | k + 1, r, h => by
    show wsum l (Dv c m k fun i => r i - r (k + m) * shf c k i) = _
    rw [Dv_weigh c m l k _ (fun j hj => h j (by omega)), wsum_sub, h k (by omega)]
    simp
theorem Dv_bound (c : NFn) (m : Nat) (hc : ∀ j, (c j).natAbs ≤ 2) : ∀ (k : Nat) (r : NFn) (B : Nat), (∀ i, (r i).natAbs ≤ B) → ∀ i, (Dv c m k r i).natAbs ≤ 3 ^ k * B
  | 0, r, B, h, i => by rw [Nat.pow_zero, Nat.one_mul]; exact h i
  | k + 1, r, B, h, i => by
    have := Dv_bound c m hc k (fun i => r i - r (k + m) * shf c k i) (3 * B) (fun i => by
      have h1 := h i
      have h2 := h (k + m)
      have h3 : (shf c k i).natAbs ≤ 2 := by unfold shf; split; exact hc _; simp
      have h4 : (r (k + m) * shf c k i).natAbs ≤ B * 2 := by rw [Int.natAbs_mul]; exact Nat.mul_le_mul h2 h3
      have h5 : (r i - r (k + m) * shf c k i).natAbs ≤ (r i).natAbs + (r (k + m) * shf c k i).natAbs := Int.natAbs_sub_le _ _
      omega) i
    rw [Nat.pow_succ, Nat.mul_assoc]
    exact this
/-! ### the cyclotomic ones -/
theorem cyc_fact {n : Nat} (h : n ∈ subSizes) : (cyc n).length = phi n + 1 ∧ gf (cyc n) (phi n) = 1 ∧ (∀ j, phi n < j → gf (cyc n) j = 0) ∧ phi n ≤ n := by
  have h1 := cyc_monic n h
  exact ⟨h1.1, h1.2, fun j hj => gf_out (by omega), phi_le n⟩
def cRem (n : Nat) (r : NFn) (k : Nat) : NFn := Dv (gf (cyc n)) (phi n) k r
theorem stripN_zero (l : List Int) : ∀ n i, stripN l n ≤ i → i < n → l.getD i 0 = 0
  | 0, i, _, h => absurd h (Nat.not_lt_zero _)
  | n + 1, i, h1, h2 => by
    unfold stripN at h1
    split at h1
    · rename_i e
      by_cases q : i = n
      · rw [q, e]
      · exact stripN_zero l n i h1 (by omega)
    · omega
theorem strip_gf (l : List Int) : gf (stripL l) = gf l := by
  funext i
  unfold stripL gf
  rw [List.getD_eq_getElem?_getD, List.getElem?_take, List.getD_eq_getElem?_getD]
  split
  · rfl
  · rename_i h
    by_cases q : i < l.length
    · have := stripN_zero l l.length i (by omega) q
      rw [List.getD_eq_getElem?_getD] at this
      rw [this]
      rfl
    · rw [List.getElem?_eq_none (by omega)]
theorem pad_gf (l : List Int) (n : Nat) : gf (padTo l n) = gf l := by
  funext i
  unfold padTo gf
  rw [List.getD_eq_getElem?_getD, List.getElem?_append, List.getD_eq_getElem?_getD]
  split
  · rfl
  · rename_i h
    rw [List.getElem?_eq_none (by omega : l.length ≤ i), List.getElem?_replicate]
    split <;> rfl
theorem strip_short (l : List Int) (m : Nat) (h : ∀ i, m ≤ i → l.getD i 0 = 0) : (stripL l).length ≤ m := by
  have key : ∀ n, stripN l n ≤ m := by
    intro n
    induction n with
    | zero => exact Nat.zero_le _
    | succ n ih =>
      unfold stripN
      split
      · exact ih
      · rename_i e
        exact Nat.lt_of_not_le fun z => e (h n z)
  unfold stripL
  rw [List.length_take]
  exact Nat.le_trans (Nat.min_le_left _ _) (key _)
/-- the rest by a divisor, over functions -/
theorem rest_gf {d : Nat} (hd : d ∈ subSizes) (v : List Int) (K : Nat) (hK : v.length ≤ K + phi d) : gf (restL v d) = cRem d (gf v) K ∧ (restL v d).length = phi d := by
  obtain ⟨c1, c2, c3, c4⟩ := cyc_fact hd
  have e1 : gf (pparted (stripL v) (cyc d)).2 = cRem d (gf v) K := by
    unfold pparted
    show gf (stripL _) = _
    rw [strip_gf, c1]
    show gf (divL (cyc d) (phi d) _ _ _).2 = _
    rw [divL_Dv (cyc d) (phi d) c1 _ _ _ (by omega), strip_gf]
    unfold cRem
    have hz : ∀ i, (stripL v).length + 1 - (phi d + 1) + phi d ≤ i → gf v i = 0 := fun i hi => by
      rw [← strip_gf]
      exact gf_out (by omega)
    refine (Dv_eq hz ?_).symm
    have := stripL_len v
    omega
  have hs : ∀ i, phi d ≤ i → gf (pparted (stripL v) (cyc d)).2 i = 0 := fun i hi => by
    rw [e1]
    exact Dv_short _ _ c2 c3 K _ (fun i hi => gf_out (by omega)) i hi
  have e2 : (pparted (stripL v) (cyc d)).2.length ≤ phi d := by
    unfold pparted
    refine strip_short _ _ fun i hi => ?_
    have := hs i hi
    unfold pparted at this
    have q : gf (stripL (divL (cyc d) ((cyc d).length - 1) ((stripL v).length + 1 - (cyc d).length) ((stripL v).map fun _ => 0) (stripL v)).2) i = 0 := this
    rw [strip_gf] at q
    exact q
  refine ⟨?_, ?_⟩
  · show gf (padTo _ _) = _
    rw [pad_gf]
    exact e1
  · show (padTo _ _).length = _
    unfold padTo
    rw [List.length_append, List.length_replicate]
    omega
theorem lrest_gf {v : List Int} (hn : v.length ∈ sizes) : gf (lrest v) = cRem v.length (gf v) (v.length - phi v.length) ∧ (lrest v).length = phi v.length := by
  obtain ⟨c1, c2, c3, c4⟩ := cyc_fact (size_sub hn)
  have e1 : gf (divL (cyc v.length) (phi v.length) (v.length + 1 - (phi v.length + 1)) (v.map fun _ => 0) v).2 = cRem v.length (gf v) (v.length - phi v.length) := by
    rw [divL_Dv _ _ c1 _ _ _ (by omega)]
    unfold cRem
    congr 1
    omega
  have hl := (divL_len (cyc v.length) (phi v.length) (v.length + 1 - (phi v.length + 1)) (v.map fun _ => 0) v).2
  unfold lrest
  rw [c1, Nat.add_sub_cancel]
  refine ⟨?_, ?_⟩
  · funext i
    show ((divL (cyc v.length) (phi v.length) (v.length + 1 - (phi v.length + 1)) (v.map fun _ => 0) v).2.take (phi v.length)).getD i 0 = _
    rw [List.getD_eq_getElem?_getD, List.getElem?_take, ← e1]
    split
    · show _ = List.getD _ i 0
      rw [List.getD_eq_getElem?_getD]
    · rename_i h
      rw [e1]
      unfold cRem
      rw [Dv_short _ _ c2 c3 _ _ (fun i hi => gf_out (by omega)) i (by omega)]
      rfl
  · show (List.take (phi v.length) _).length = _
    rw [List.length_take, hl]
    omega
theorem rest_lrest {n : Nat} (hn : n ∈ sizes) {v : List Int} (hv : v.length = n) : restL v n = lrest v := by
  subst hv
  have h1 := rest_gf (size_sub hn) v (v.length - phi v.length) (by omega)
  have h2 := lrest_gf hn
  refine ext_getD (by rw [h1.2, h2.2]) fun i _ => ?_
  have : gf (restL v v.length) i = gf (lrest v) i := by rw [h1.1, h2.1]
  exact this
theorem lrest_len {n : Nat} (hn : n ∈ sizes) {v : List Int} (hv : v.length = n) : (lrest v).length ≤ 110 := by
  subst hv
  rw [(lrest_gf hn).2]
  have := phi_le v.length
  have := size_lt _ hn
  omega
theorem cyc_two : ∀ n ∈ sizes, (cyc n).all (fun x => decide (x.natAbs ≤ 2)) = true := by decide +kernel
theorem gf_all {l : List Int} {P : Int → Prop} (h : ∀ x ∈ l, P x) (h0 : P 0) (i : Nat) : P (gf l i) := by
  show P (l.getD i 0)
  rw [List.getD_eq_getElem?_getD]
  by_cases q : i < l.length
  · rw [List.getElem?_eq_getElem q]
    exact h _ (List.getElem_mem q)
  · rw [List.getElem?_eq_none (by omega)]
    exact h0
theorem all_gf {l : List Int} {P : Int → Prop} (h : ∀ i, P (gf l i)) : ∀ x ∈ l, P x := by
  intro x hx
  obtain ⟨i, hi, rfl⟩ := List.mem_iff_getElem.mp hx
  have := h i
  simpa [gf, List.getD_eq_getElem?_getD, hi] using this
theorem rest_bound {n : Nat} (hn : n ∈ sizes) {v : List Int} (hv : v.length = n) (hb : ∀ x ∈ v, -100000 ≤ x ∧ x ≤ 100000) : ∀ x ∈ lrest v, x.natAbs < 2 ^ 300 := by
  subst hv
  refine all_gf (P := fun x => x.natAbs < 2 ^ 300) fun i => ?_
  rw [(lrest_gf hn).1]
  unfold cRem
  have h1 := Dv_bound (gf (cyc v.length)) (phi v.length) (gf_all (P := fun x => x.natAbs ≤ 2) (by simpa using cyc_two _ hn) (by decide)) (v.length - phi v.length) (gf v) 100000
    (gf_all (P := fun x => x.natAbs ≤ 100000) (fun x hx => by have := hb x hx; omega) (by decide)) i
  have h2 := size_lt _ hn
  have h3 : 3 ^ (v.length - phi v.length) ≤ 3 ^ 110 := Nat.pow_le_pow_right (by decide) (by omega)
  have h4 : 3 ^ (v.length - phi v.length) * 100000 ≤ 3 ^ 110 * 100000 := Nat.mul_le_mul_right _ h3
  have h5 : 3 ^ 110 * 100000 < 2 ^ 200 := by decide
  have h6 : (2 : Nat) ^ 200 ≤ 2 ^ 300 := Nat.pow_le_pow_right (by decide) (by decide)
  exact Nat.lt_of_le_of_lt h1 (Nat.lt_of_le_of_lt h4 (Nat.lt_of_lt_of_le h5 h6))
theorem all_zero {l : List Int} : (l.all fun x => decide (x = 0)) = true ↔ gf l = fun _ => 0 := by
  constructor
  · intro h
    funext i
    exact gf_all (P := fun x => x = 0) (by simpa using h) rfl i
  · intro h
    rw [List.all_eq_true]
    intro x hx
    have := all_gf (P := fun x => x = 0) (fun i => congrFun h i) x hx
    simpa using this
theorem silent_iff {d : Nat} (hd : d ∈ subSizes) (v : List Int) (K : Nat) (hK : v.length ≤ K + phi d) : silentB v d = true ↔ cRem d (gf v) K = fun _ => 0 := by
  unfold silentB
  rw [all_zero, (rest_gf hd v K hK).1]
theorem lsilent_iff {v : List Int} (hn : v.length ∈ sizes) : lsilent v = true ↔ cRem v.length (gf v) (v.length - phi v.length) = fun _ => 0 := by
  unfold lsilent
  rw [all_zero, (lrest_gf hn).1]
end SB
namespace SB
/-! ### folds -/
def dl (j : Nat) : NFn := fun i => if i = j then 1 else 0
def unitL (N j : Nat) : List Int := (List.range N).map fun i => if i = j then 1 else 0
theorem unit_gf {N j : Nat} (h : j < N) : gf (unitL N j) = dl j := by
  funext i
  unfold unitL dl
  show List.getD _ i 0 = _
  rw [List.getD_eq_getElem?_getD, List.getElem?_map]
  by_cases q : i < N
  · rw [List.getElem?_range q]
    rfl
  · rw [List.getElem?_eq_none (by simp; omega), if_neg (by omega)]
    rfl
theorem unit_len (N j : Nat) : (unitL N j).length = N := by simp [unitL]
def lowSizes : List Nat := [1, 2, 3, 4, 5, 6, 8, 9, 10, 12, 15, 18, 20, 24, 30, 36]
theorem low_div : ∀ n ∈ sizes, n ≤ 36 → ∀ k ∈ (List.range (n + 1)).drop 1, n % k = 0 → k ∈ lowSizes ∧ k ∈ sizes ∧ k ∈ subSizes := by decide +kernel
theorem around_rem : ∀ k ∈ lowSizes, ((divL (cyc k) (phi k) (k + 1 - phi k) [] (aroundL k)).2).all (fun x => decide (x = 0)) = true := by decide +kernel
theorem low_phi : ∀ k ∈ lowSizes, 1 ≤ k ∧ k ≤ 36 ∧ phi k ≤ k ∧ k ∈ subSizes := by decide +kernel
theorem Dv_shift (c : NFn) (m t : Nat) : ∀ (K : Nat) (r : NFn), Dv c m (K + t) (shf r t) = Dv c m t (shf (Dv c m K r) t)
  | 0, r => by rw [Nat.zero_add]; rfl
  | K + 1, r => by
    have e : K + 1 + t = K + t + 1 := by omega
    rw [e]
    show Dv c m (K + t) (fun i => shf r t i - shf r t (K + t + m) * shf c (K + t) i) = Dv c m t (shf (Dv c m K fun i => r i - r (K + m) * shf c K i) t)
    rw [← Dv_shift c m t K]
    congr 1
    funext i
    unfold shf
    have q : K + t + m - t = K + m := by omega
    rw [if_pos (by omega : t ≤ K + t + m), q]
    by_cases h : t ≤ i
    · rw [if_pos h, if_pos h]
      dsimp only
      by_cases h2 : K ≤ i - t
      · rw [if_pos h2, if_pos (by omega)]
        have : i - t - K = i - (K + t) := by omega
        rw [this]
      · rw [if_neg h2, if_neg (by omega)]
    · rw [if_neg h, if_neg h, if_neg (by omega)]
      simp
theorem gf_around {k : Nat} (hk : 1 ≤ k) : gf (aroundL k) = fun i => dl k i + -1 * dl 0 i := by
  funext i
  unfold aroundL dl
  match i with
  | 0 => rw [if_neg (by omega), if_pos rfl]; rfl
  | i + 1 =>
    rw [if_neg (by omega : ¬ i + 1 = 0)]
    show List.getD _ i 0 = _
    rw [List.getD_eq_getElem?_getD, List.getElem?_append, List.length_replicate, List.getElem?_replicate]
    by_cases h : i < k - 1
    · rw [if_pos h, if_pos h, if_neg (by omega)]
      rfl
    · rw [if_neg h]
      by_cases q : i = k - 1
      · subst q
        have e : k - 1 - (k - 1) = 0 := by omega
        rw [e, if_pos (by omega)]
        rfl
      · rw [if_neg (by omega), List.getElem?_eq_none (by simp; omega)]
        rfl
theorem dl_step {k : Nat} (hk : k ∈ lowSizes) {j : Nat} (h1 : k ≤ j) (h2 : j < 36) : cRem k (dl j) (36 - phi k) = cRem k (dl (j - k)) (36 - phi k) := by
  obtain ⟨p1, p2, p3, p4⟩ := low_phi k hk
  have c1 := (cyc_fact p4).1
  have z : Dv (gf (cyc k)) (phi k) (k + 1 - phi k) (fun i => dl k i + -1 * dl 0 i) = fun _ => 0 := by
    rw [← gf_around p1, ← divL_Dv _ _ c1 _ [] _ (.inr (by rw [aroundL_len p1]; omega))]
    exact all_zero.mp (around_rem k hk)
  have y := Dv_shift (gf (cyc k)) (phi k) (j - k) (k + 1 - phi k) (fun i => dl k i + -1 * dl 0 i)
  rw [z] at y
  have x : shf (fun _ => 0) (j - k) = fun _ => 0 := by
    funext i
    unfold shf
    split <;> rfl
  rw [x, Dv_zero] at y
  have w : shf (fun i => dl k i + -1 * dl 0 i) (j - k) = fun i => dl j i + -1 * dl (j - k) i := by
    funext i
    unfold shf dl
    by_cases q : j - k ≤ i
    · rw [if_pos q]
      have e1 : (i - (j - k) = k) = (i = j) := propext ⟨fun _ => by omega, fun _ => by omega⟩
      have e2 : (i - (j - k) = 0) = (i = j - k) := propext ⟨fun _ => by omega, fun _ => by omega⟩
      simp only [e1, e2]
    · rw [if_neg q, if_neg (by omega), if_neg (by omega)]
      rfl
  rw [w] at y
  have sup : ∀ i, k + 1 - phi k + (j - k) + phi k ≤ i → dl j i + -1 * dl (j - k) i = 0 := fun i hi => by
    unfold dl
    rw [if_neg (by omega), if_neg (by omega)]
    rfl
  have u := Dv_eq (c := gf (cyc k)) (m := phi k) sup (by omega : k + 1 - phi k + (j - k) ≤ 36 - phi k)
  rw [y] at u
  have t := Dv_add (gf (cyc k)) (phi k) (36 - phi k) (dl j) (fun i => -1 * dl (j - k) i)
  rw [u, Dv_mul] at t
  funext i
  have := congrFun t i
  unfold cRem
  simp only at this
  omega
theorem dl_mod {k : Nat} (hk : k ∈ lowSizes) : ∀ (t j : Nat), t * k + j < 36 → cRem k (dl (t * k + j)) (36 - phi k) = cRem k (dl j) (36 - phi k)
  | 0, j, _ => by rw [Nat.zero_mul, Nat.zero_add]
  | t + 1, j, h => by
    rw [Nat.succ_mul] at h ⊢
    rw [dl_step hk (by omega) h]
    have : t * k + k + j - k = t * k + j := by omega
    rw [this]
    exact dl_mod hk t j (by omega)
theorem dl_mod' {k : Nat} (hk : k ∈ lowSizes) {j : Nat} (h : j < 36) : cRem k (dl j) (36 - phi k) = cRem k (dl (j % k)) (36 - phi k) := by
  have e : j / k * k + j % k = j := by rw [Nat.mul_comm]; exact Nat.div_add_mod j k
  have := dl_mod hk (j / k) (j % k) (by omega)
  rw [e] at this
  exact this
def comb (l : List (Int × Nat)) : NFn := fun i => (l.map fun e => e.1 * dl e.2 i).sum
theorem comb_rem (c : NFn) (m K : Nat) : ∀ l : List (Int × Nat), Dv c m K (comb l) = fun i => (l.map fun e => e.1 * Dv c m K (dl e.2) i).sum
  | [] => Dv_zero c m K
  | e :: l => by
    have h1 : comb (e :: l) = fun i => (fun i => e.1 * dl e.2 i) i + comb l i := by
      funext i
      unfold comb
      rw [List.map_cons, List.sum_cons]
    rw [h1, Dv_add, Dv_mul, comb_rem c m K l]
    funext i
    rw [List.map_cons, List.sum_cons]
theorem sum_dl (f : NFn) (i : Nat) : ∀ n, ((List.range n).map fun j => f j * dl j i).sum = if i < n then f i else 0
  | 0 => by simp
  | n + 1 => by
    rw [List.range_succ, List.map_append, List.sum_append, sum_dl f i n]
    simp only [List.map_cons, List.map_nil, List.sum_cons, List.sum_nil, Int.add_zero, dl]
    by_cases e : i = n
    · subst e
      rw [if_neg (Nat.lt_irrefl _), if_pos rfl, if_pos (by omega)]
      omega
    · rw [if_neg e]
      by_cases q : i < n
      · rw [if_pos q, if_pos (by omega)]; omega
      · rw [if_neg q, if_neg (by omega)]; omega
theorem gf_comb (v : List Int) : gf v = comb ((List.range v.length).map fun j => (gf v j, j)) := by
  funext i
  unfold comb
  rw [List.map_map]
  show gf v i = ((List.range v.length).map fun j => gf v j * dl j i).sum
  rw [sum_dl]
  split
  · rfl
  · exact gf_out (by omega)
theorem sum_mod (f : NFn) (k : Nat) (i : Nat) (hi : i < k) : ∀ t, ((List.range (t * k)).map fun j => f j * dl (j % k) i).sum = ((List.range t).map fun s => f (i + s * k)).sum
  | 0 => by simp
  | t + 1 => by
    rw [Nat.succ_mul, List.range_add, List.map_append, List.sum_append, sum_mod f k i hi t, List.range_succ, List.map_append, List.sum_append]
    congr 1
    rw [List.map_map]
    have : (List.range k).map ((fun j => f j * dl (j % k) i) ∘ fun x => t * k + x) = (List.range k).map fun j => (fun j => f (t * k + j)) j * dl j i := by
      apply List.map_congr_left
      intro x hx
      have hx := List.mem_range.mp hx
      have e : (t * k + x) % k = x := by rw [Nat.mul_comm, Nat.mul_add_mod, Nat.mod_eq_of_lt hx]
      show f (t * k + x) * dl ((t * k + x) % k) i = f (t * k + x) * dl x i
      rw [e]
    rw [this, sum_dl, if_pos hi]
    simp [Nat.add_comm]
theorem gf_fold {v : List Int} {k : Nat} (hk : 1 ≤ k) (hd : v.length % k = 0) : gf (foldL v k) = comb ((List.range v.length).map fun j => (gf v j, j % k)) := by
  funext i
  unfold comb
  rw [List.map_map]
  show gf (foldL v k) i = ((List.range v.length).map fun j => gf v j * dl (j % k) i).sum
  have e : v.length = v.length / k * k := (Nat.div_mul_cancel (Nat.dvd_of_mod_eq_zero hd)).symm
  by_cases hi : i < k
  · rw [e, sum_mod _ _ _ hi]
    unfold foldL
    show List.getD _ i 0 = _
    rw [List.getD_eq_getElem?_getD, List.getElem?_map, List.getElem?_range hi]
    rfl
  · rw [gf_out (by simp [foldL]; omega)]
    symm
    have : (List.range v.length).map (fun j => gf v j * dl (j % k) i) = (List.range v.length).map fun _ => 0 := by
      apply List.map_congr_left
      intro j _
      have := Nat.mod_lt j (by omega : k > 0)
      unfold dl
      rw [if_neg (by omega), Int.mul_zero]
    rw [this, List.map_const', List.sum_replicate_int]
    simp
theorem lsilent_silentB {v : List Int} (hn : v.length ∈ sizes) : lsilent v = silentB v v.length := by
  unfold lsilent silentB
  rw [rest_lrest hn rfl]
theorem fold_silent {n k : Nat} (hn : n ∈ sizes) (h36 : n ≤ 36) {v : List Int} (hv : v.length = n) (hk : 1 ≤ k ∧ k ≤ n) (hd : n % k = 0) : k ∈ sizes ∧ silentB v k = lsilent (foldL v k) := by
  subst hv
  obtain ⟨k1, k2, k3⟩ := low_div _ hn h36 k (mem_drop1 hk.1 (by omega)) hd
  refine ⟨k2, ?_⟩
  have hl : (foldL v k).length = k := by simp [foldL]
  have hc := low_phi k k1
  rw [lsilent_silentB (by rw [hl]; exact k2), hl]
  have e : cRem k (gf v) (36 - phi k) = cRem k (gf (foldL v k)) (36 - phi k) := by
    rw [gf_comb v, gf_fold hk.1 hd]
    unfold cRem
    rw [comb_rem, comb_rem]
    funext i
    rw [List.map_map, List.map_map]
    congr 1
    apply List.map_congr_left
    intro j hj
    have hj := List.mem_range.mp hj
    show gf v j * Dv _ _ _ (dl j) i = gf v j * Dv _ _ _ (dl (j % k)) i
    have := congrFun (dl_mod' k1 (by omega : j < 36)) i
    unfold cRem at this
    rw [this]
  have h1 := silent_iff k3 v (36 - phi k) (by omega)
  have h2 := silent_iff k3 (foldL v k) (36 - phi k) (by omega)
  rw [e] at h1
  exact Bool.eq_iff_iff.mpr (h1.trans h2.symm)
/-! ### a shifted voice -/
theorem ones_silent : ∀ n ∈ sizes, 1 < n → lsilent (List.replicate n 1) = true := by decide +kernel
theorem late_silent {v : List Int} (hn : v.length ∈ sizes) (h1 : 1 < v.length) (hs : lsilent v = true) (c : Int) : lsilent (v.map fun x => x + c) = true := by
  have hl : (v.map fun x => x + c).length = v.length := List.length_map _
  have h2 := ones_silent _ hn h1
  have h3 := (lsilent_iff (v := List.replicate v.length 1) (by rw [List.length_replicate]; exact hn)).mp h2
  rw [List.length_replicate] at h3
  refine (lsilent_iff (by rw [hl]; exact hn)).mpr ?_
  rw [hl]
  have e : gf (v.map fun x => x + c) = fun i => gf v i + (fun i => c * gf (List.replicate v.length 1) i) i := by
    funext i
    show List.getD _ i 0 = List.getD _ i 0 + c * List.getD _ i 0
    rw [List.getD_eq_getElem?_getD, List.getD_eq_getElem?_getD, List.getD_eq_getElem?_getD, List.getElem?_map, List.getElem?_replicate]
    by_cases q : i < v.length
    · rw [List.getElem?_eq_getElem q, if_pos q]
      simp
    · rw [List.getElem?_eq_none (by omega), if_neg q]
      simp
  rw [e]
  unfold cRem at h3 ⊢
  rw [Dv_add, Dv_mul, h3]
  have h4 := (lsilent_iff hn).mp hs
  unfold cRem at h4
  rw [h4]
  funext i
  simp
end SB
namespace SB
/-! ### the silences of a polygon -/
def polyRow (n p f : Nat) : List Int := (List.range n).map fun (b : Nat) => if ((List.range p).map fun (t : Nat) => ((f + t * (n / p) : Nat) : Int)).any (· == ((b : Nat) : Int)) then (1 : Int) else 0
theorem row_silent : ∀ n ∈ lowSizes, ((List.range (n + 1)).drop 1).all (fun k => n % k != 0 || (decide (k ∈ lowSizes) && (primesL n).all fun p => (n / p) % k == 0 || (divL (cyc k) (phi k) (n - phi k) [] (polyRow n p 0)).2.all fun x => decide (x = 0))) = true := by decide +kernel
theorem unit_loud : ∀ k ∈ lowSizes, (List.range k).all (fun j => !((divL (cyc k) (phi k) (k - phi k) [] (unitL k j)).2.all fun x => decide (x = 0))) = true := by decide +kernel
theorem low_of : ∀ n ∈ sizes, n ≤ 36 → n ∈ lowSizes := by decide
def hasT (p f q i : Nat) : Bool := (List.range p).any fun t => f + t * q == i
theorem row_gf {n p f : Nat} (i : Nat) : gf (polyRow n p f) i = if i < n ∧ hasT p f (n / p) i = true then 1 else 0 := by
  unfold polyRow
  show List.getD _ i 0 = _
  rw [List.getD_eq_getElem?_getD, List.getElem?_map]
  by_cases h : i < n
  · rw [List.getElem?_range h]
    show (if _ then (1 : Int) else 0) = _
    have e : (((List.range p).map fun (t : Nat) => ((f + t * (n / p) : Nat) : Int)).any (· == ((i : Nat) : Int))) = hasT p f (n / p) i := by
      unfold hasT
      rw [List.any_map]
      congr 1
      funext t
      show (((f + t * (n / p) : Nat) : Int) == ((i : Nat) : Int)) = _
      rw [Bool.beq_eq_decide_eq, Bool.beq_eq_decide_eq]
      norm_cast
    rw [e]
    by_cases q : hasT p f (n / p) i = true
    · rw [if_pos q, if_pos ⟨h, q⟩]
    · rw [if_neg q, if_neg (fun z => q z.2)]
  · rw [List.getElem?_eq_none (by simp; omega), if_neg (fun z => h z.1)]
    rfl
theorem row_len (n p f : Nat) : (polyRow n p f).length = n := by simp [polyRow]
theorem hasT_iff {p f q i : Nat} : hasT p f q i = true ↔ ∃ t, t < p ∧ f + t * q = i := by
  unfold hasT
  rw [List.any_eq_true]
  constructor
  · intro ⟨t, h1, h2⟩
    exact ⟨t, List.mem_range.mp h1, by simpa using h2⟩
  · intro ⟨t, h1, h2⟩
    exact ⟨t, List.mem_range.mpr h1, by simpa using h2⟩
theorem spot_lt {n p f t : Nat} (hp : n % p = 0) (hf : f < n / p) (ht : t < p) : f + t * (n / p) < n := by
  have h1 : (t + 1) * (n / p) ≤ p * (n / p) := Nat.mul_le_mul_right _ ht
  rw [Nat.mul_div_cancel' (Nat.dvd_of_mod_eq_zero hp), Nat.succ_mul] at h1
  omega
theorem row_shift {n p f : Nat} (hp : n % p = 0) (hf : f < n / p) : gf (polyRow n p f) = shf (gf (polyRow n p 0)) f := by
  funext i
  unfold shf
  rw [row_gf, row_gf]
  by_cases h : f ≤ i
  · rw [if_pos h]
    have e : (i < n ∧ hasT p f (n / p) i = true) = (i - f < n ∧ hasT p 0 (n / p) (i - f) = true) := by
      apply propext
      rw [hasT_iff, hasT_iff]
      constructor
      · intro ⟨h1, t, h2, h3⟩
        exact ⟨by omega, t, h2, by omega⟩
      · intro ⟨h1, t, h2, h3⟩
        have := spot_lt hp hf h2
        exact ⟨by omega, t, h2, by omega⟩
    simp only [e]
  · rw [if_neg h, if_neg]
    intro ⟨_, z⟩
    obtain ⟨t, _, e⟩ := hasT_iff.mp z
    omega
theorem row_comb {n p f : Nat} (hp : n % p = 0) (hf : f < n / p) : gf (polyRow n p f) = comb ((List.range p).map fun t => (1, f + t * (n / p))) := by
  have key : ∀ (i m : Nat), ((List.range m).map fun t => 1 * dl (f + t * (n / p)) i).sum = if hasT m f (n / p) i = true then 1 else 0 := by
    intro i m
    induction m with
    | zero => rfl
    | succ m ih =>
      rw [List.range_succ, List.map_append, List.sum_append, ih]
      have hs : hasT (m + 1) f (n / p) i = (hasT m f (n / p) i || (f + m * (n / p) == i)) := by
        unfold hasT
        rw [List.range_succ, List.any_append]
        simp
      rw [hs]
      show _ + (1 * dl _ i + 0) = _
      by_cases e : i = f + m * (n / p)
      · have q : ¬ hasT m f (n / p) i = true := fun z => by
          obtain ⟨t, ht, e2⟩ := hasT_iff.mp z
          have : t * (n / p) < m * (n / p) := Nat.mul_lt_mul_of_pos_right ht (by omega)
          omega
        unfold dl
        rw [if_neg q, if_pos e, if_pos (by rw [e]; simp)]
        rfl
      · have q : (f + m * (n / p) == i) = false := by simp; omega
        unfold dl
        rw [if_neg e, q, Bool.or_false]
        simp
  funext i
  rw [row_gf]
  unfold comb
  rw [List.map_map]
  show _ = ((List.range p).map fun t => 1 * dl (f + t * (n / p)) i).sum
  rw [key]
  by_cases h : hasT p f (n / p) i = true
  · obtain ⟨t, ht, e⟩ := hasT_iff.mp h
    have := spot_lt hp hf ht
    rw [if_pos ⟨by omega, h⟩, if_pos h]
  · rw [if_neg (fun z => h z.2), if_neg h]
theorem poly_silences {n p f : Nat} (hn : n ∈ sizes) (h36 : n ≤ 36) (hp : p ∈ primesL n) (hf : f < n / p) : silencesL ((List.range n).map fun (b : Nat) => if ((List.range p).map fun (t : Nat) => ((f + t * (n / p) : Nat) : Int)).any (· == ((b : Nat) : Int)) then (1 : Int) else 0) = (((List.range (n + 1)).drop 1).filter fun k => n % k == 0).filter fun k => !((n / p) % k == 0) := by
  show silencesL (polyRow n p f) = _
  obtain ⟨p1, p2, p3, _⟩ := mem_primes hp
  have hl := low_of n hn h36
  unfold silencesL
  rw [row_len]
  show (divsL n).filter _ = (divsL n).filter _
  apply List.filter_congr
  intro k hk
  unfold divsL at hk
  obtain ⟨k1, k2⟩ := List.mem_filter.mp hk
  have k3 := of_drop1 k1
  have k2 : n % k = 0 := by simpa using k2
  have h1 := List.all_eq_true.mp (row_silent n hl) k k1
  rw [Bool.or_eq_true, Bool.and_eq_true, decide_eq_true_eq] at h1
  rcases h1 with h1 | ⟨h1, h2⟩
  · simp [k2] at h1
  have h2 := List.all_eq_true.mp h2 p hp
  obtain ⟨q1, q2, q3, q4⟩ := low_phi k h1
  have c1 := (cyc_fact q4).1
  by_cases hd : (n / p) % k = 0
  · have e1 : (!((n / p) % k == 0)) = false := by simp [hd]
    rw [e1, Bool.eq_false_iff]
    intro hs
    have hs := (silent_iff q4 _ (36 - phi k) (by rw [row_len]; omega)).mp hs
    rw [row_comb p3 hf] at hs
    unfold cRem at hs
    rw [comb_rem] at hs
    have hz : Dv (gf (cyc k)) (phi k) (36 - phi k) (dl (f % k)) = fun _ => 0 := by
      funext i
      have h3 := congrFun hs i
      rw [List.map_map] at h3
      have h4 : (List.range p).map ((fun e : Int × Nat => e.1 * Dv (gf (cyc k)) (phi k) (36 - phi k) (dl e.2) i) ∘ fun t => ((1 : Int), f + t * (n / p))) = (List.range p).map fun _ => Dv (gf (cyc k)) (phi k) (36 - phi k) (dl (f % k)) i := by
        apply List.map_congr_left
        intro t ht
        have ht := List.mem_range.mp ht
        have h5 := spot_lt p3 hf ht
        have h6 := congrFun (dl_mod' h1 (by omega : f + t * (n / p) < 36)) i
        have h7 : (f + t * (n / p)) % k = f % k := by
          rw [Nat.add_mod, Nat.mul_mod, hd, Nat.mul_zero, Nat.zero_mod, Nat.add_zero, Nat.mod_mod]
        rw [h7] at h6
        unfold cRem at h6
        show 1 * Dv _ _ _ (dl (f + t * (n / p))) i = _
        rw [h6, Int.one_mul]
      rw [h4, List.map_const', List.sum_replicate_int, List.length_range] at h3
      rcases Int.mul_eq_zero.mp h3 with h8 | h8
      · omega
      · exact h8
    have h9 := List.all_eq_true.mp (unit_loud k h1) (f % k) (List.mem_range.mpr (Nat.mod_lt _ (by omega)))
    rw [Bool.not_eq_true', Bool.eq_false_iff] at h9
    apply h9
    rw [all_zero, divL_Dv _ _ c1 _ _ _ (.inr (by rw [unit_len]; omega)), unit_gf (Nat.mod_lt _ (by omega)), ← hz]
    refine (Dv_eq (fun i hi => ?_) (by omega)).symm
    unfold dl
    have := Nat.mod_lt f (by omega : k > 0)
    rw [if_neg (by omega)]
  · have e1 : (!((n / p) % k == 0)) = true := by simp [hd]
    rw [e1]
    rw [Bool.or_eq_true] at h2
    rcases h2 with h2 | h2
    · simp [hd] at h2
    refine (silent_iff q4 _ (n - phi k + f) (by rw [row_len]; omega)).mpr ?_
    rw [all_zero, divL_Dv _ _ c1 _ _ _ (.inr (by rw [row_len]; omega))] at h2
    unfold cRem
    rw [row_shift p3 hf, Dv_shift, h2]
    have x : shf (fun _ => 0) f = fun _ => 0 := by
      funext i
      unfold shf
      split <;> rfl
    rw [x, Dv_zero]
end SB
namespace SB
/-! ### the heap of any sign -/
def onB (n b : Nat) (k : Int × Int) : Bool := decide ((b : Int) % ((n : Int) / k.1) = k.2)
/-- the puts of one size: key and weighing -/
def wAt (n c : Nat) (pk : Nat × Nat) : List ((Int × Int) × List (Int × Nat)) :=
  ((allR (primesL n)).filter fun rs => rs.getD pk.2 0 == 0).map fun rs => (((pk.1 : Int), ((beatL n c rs % (n / pk.1) : Nat) : Int)), (chL (primesL n).length pk.2).map fun ch => (sgn ch, beatL n c (heldL rs ch)))
def wAll (n : Nat) : List ((Int × Int) × List (Int × Nat)) := (List.range (if 1 < n then stepL n else 0)).flatMap fun c => ((primesL n).zipIdx).flatMap (wAt n c)
theorem puts_w (n : Nat) (v : List Int) : (List.range (if 1 < n then stepL n else 0)).flatMap (putsC n v) = (wAll n).map fun e => (e.1, wsum e.2 (gf v)) := by
  unfold wAll
  rw [List.map_flatMap]
  congr 1
  funext c
  unfold putsC
  rw [List.map_flatMap]
  congr 1
  funext pk
  unfold putsAt wAt
  rw [List.map_map]
  congr 1
  funext rs
  show (_, manyL n v c pk.2 rs) = (_, wsum _ _)
  congr 1
  unfold manyL wsum
  rw [List.map_map]
  rfl
/-! ### sums over a dict of counts -/
def kSum (S : Int × Int → Bool) (l : List ((Int × Int) × Int)) : Int := ((l.filter fun e => S e.1).map (·.2)).sum
theorem kSum_cons (S : Int × Int → Bool) (e : (Int × Int) × Int) (l) : kSum S (e :: l) = (if S e.1 = true then e.2 else 0) + kSum S l := by
  unfold kSum
  rw [List.filter_cons]
  split
  · rw [List.map_cons, List.sum_cons]
  · omega
theorem kSum_put (S : Int × Int → Bool) (k : Int × Int) (m : Int) : ∀ C : Cts, kSum S (putC C k m) = kSum S C + if S k = true then m else 0
  | [] => by
    show kSum S [(k, m)] = _
    rw [kSum_cons]
    show (if S k = true then m else 0) + 0 = 0 + (if S k = true then m else 0)
    rw [Int.add_zero, Int.zero_add]
  | e :: r => by
    unfold putC
    split
    · rename_i h
      rw [kSum_cons, kSum_cons]
      subst h
      show (if S e.1 = true then e.2 + m else 0) + _ = _
      split <;> omega
    · rw [kSum_cons, kSum_cons, kSum_put S k m r]
      omega
theorem kSum_all (S : Int × Int → Bool) : ∀ (l : List ((Int × Int) × Int)) (C : Cts), kSum S (putAll C l) = kSum S C + kSum S l
  | [], C => by show kSum S C = kSum S C + 0; omega
  | e :: l, C => by
    show kSum S (putAll (putC C e.1 e.2) l) = _
    rw [kSum_all S l, kSum_put, kSum_cons]
    omega
theorem putC_keys9 (k : Int × Int) (m : Int) : ∀ C : Cts, (putC C k m).map (·.1) = if k ∈ C.map (·.1) then C.map (·.1) else C.map (·.1) ++ [k]
  | [] => rfl
  | e :: r => by
    unfold putC
    by_cases h : e.1 = k
    · rw [if_pos h, if_pos (by rw [List.map_cons, h]; exact List.mem_cons_self)]
      rfl
    · rw [if_neg h, List.map_cons, putC_keys9 k m r, List.map_cons]
      by_cases q : k ∈ r.map (·.1)
      · rw [if_pos q, if_pos (List.mem_cons_of_mem _ q)]
      · rw [if_neg q, if_neg (fun z => (List.mem_cons.mp z).elim (fun y => h y.symm) q)]
        rfl
theorem putAll_keys : ∀ (l : List ((Int × Int) × Int)) (C : Cts), (C.map (·.1)).Nodup → ((putAll C l).map (·.1)).Nodup ∧ (∀ k ∈ (putAll C l).map (·.1), k ∈ C.map (·.1) ∨ k ∈ l.map (·.1)) ∧ (putAll C l).length ≤ C.length + l.length
  | [], C, h => ⟨h, fun k hk => .inl hk, Nat.le_refl _⟩
  | e :: l, C, h => by
    have hk := putC_keys9 e.1 e.2 C
    have h1 : ((putC C e.1 e.2).map (·.1)).Nodup ∧ (∀ k ∈ (putC C e.1 e.2).map (·.1), k ∈ C.map (·.1) ∨ k = e.1) ∧ (putC C e.1 e.2).length ≤ C.length + 1 := by
      have hl : (putC C e.1 e.2).length = ((putC C e.1 e.2).map (·.1)).length := (List.length_map _).symm
      rw [hl, hk]
      split
      · exact ⟨h, fun k hk => .inl hk, by rw [List.length_map]; omega⟩
      · rename_i q
        refine ⟨List.nodup_append.mpr ⟨h, by simp, fun a ha b hb => ?_⟩, fun k hk => ?_, by simp⟩
        · rw [List.mem_singleton.mp hb]
          intro z
          exact q (z ▸ ha)
        · rcases List.mem_append.mp hk with z | z
          · exact .inl z
          · exact .inr (List.mem_singleton.mp z)
    obtain ⟨a1, a2, a3⟩ := putAll_keys l (putC C e.1 e.2) h1.1
    refine ⟨a1, fun k hk => ?_, ?_⟩
    · rcases a2 k hk with z | z
      · rcases h1.2.1 k z with y | y
        · exact .inl y
        · exact .inr (by rw [y]; exact List.mem_cons_self)
      · exact .inr (List.mem_cons_of_mem _ z)
    · have := h1.2.2
      show (putAll (putC C e.1 e.2) l).length ≤ _
      rw [List.length_cons]
      omega
theorem insK_perm9 (x : Int × Int) : ∀ l, (insK x l).Perm (x :: l)
  | [] => .refl _
  | y :: ys => by
    unfold insK
    split
    · exact .refl _
    · exact ((insK_perm9 x ys).cons y).trans (.swap x y ys)
theorem sortK_perm9 : ∀ l, (sortK l).Perm l
  | [] => .refl _
  | x :: xs => (insK_perm9 x _).trans ((sortK_perm9 xs).cons x)
theorem ltK_iff9 {a b : Int × Int} : ltK a b = true ↔ a.1 < b.1 ∨ (a.1 = b.1 ∧ a.2 < b.2) := by
  unfold ltK
  split
  · rename_i h
    rw [decide_eq_true_eq]
    omega
  · rename_i h
    rw [decide_eq_true_eq]
    omega
theorem ltK_trans {a b c : Int × Int} (h1 : ltK a b = true) (h2 : ltK b c = true) : ltK a c = true := by
  rw [ltK_iff9] at *
  omega
theorem ltK_not {a b : Int × Int} (h : ¬ ltK a b = true) (hn : a ≠ b) : ltK b a = true := by
  rw [ltK_iff9] at *
  have : ¬ (a.1 = b.1 ∧ a.2 = b.2) := fun ⟨x, y⟩ => hn (Prod.ext x y)
  omega
theorem insK_sorted9 (x : Int × Int) : ∀ l, l.Pairwise (fun a b => ltK a b = true) → x ∉ l → (insK x l).Pairwise (fun a b => ltK a b = true)
  | [], _, _ => by simp [insK]
  | y :: ys, h, hx => by
    unfold insK
    have hxy : x ≠ y := fun z => hx (z ▸ List.mem_cons_self)
    split
    · rename_i hl
      refine .cons (fun z hz => ?_) h
      rcases List.mem_cons.mp hz with e | e
      · rw [e]; exact hl
      · exact ltK_trans hl (List.rel_of_pairwise_cons h e)
    · rename_i hl
      refine .cons (fun z hz => ?_) (insK_sorted9 x ys h.of_cons fun z => hx (List.mem_cons_of_mem _ z))
      rcases List.mem_cons.mp ((insK_perm9 x ys).mem_iff.mp hz) with e | e
      · rw [e]; exact ltK_not hl hxy
      · exact List.rel_of_pairwise_cons h e
theorem sortK_sorted9 : ∀ l, l.Nodup → (sortK l).Pairwise (fun a b => ltK a b = true)
  | [], _ => .nil
  | x :: xs, h => by
    have h1 := List.nodup_cons.mp h
    exact insK_sorted9 x _ (sortK_sorted9 xs h1.2) fun z => h1.1 ((sortK_perm9 xs).mem_iff.mp z)
theorem asc_of : ∀ l : List (Int × Int), l.Pairwise (fun a b => ltK a b = true) → ascB l = true
  | [], _ => rfl
  | [_], _ => rfl
  | a :: b :: l, h => by
    have ih := asc_of (b :: l) h.of_cons
    unfold ascB at ih ⊢
    rw [List.tail_cons] at ih ⊢
    rw [List.zipWith_cons_cons, List.all_cons, ih]
    have := List.rel_of_pairwise_cons h List.mem_cons_self
    simp [this]
theorem getC_uniq : ∀ (C : Cts), (C.map (·.1)).Nodup → ∀ e ∈ C, getC C e.1 = e.2
  | [], _, _, h => absurd h (by simp)
  | d :: r, hn, e, h => by
    rw [List.map_cons] at hn
    have hn := List.nodup_cons.mp hn
    unfold getC
    rcases List.mem_cons.mp h with q | q
    · rw [q, if_pos rfl]
    · rw [if_neg (fun z => hn.1 (List.mem_map.mpr ⟨e, q, z.symm⟩))]
      exact getC_uniq r hn.2 e q
/-- the sum over the heap's rows is the sum over the counts -/
theorem heapL_sum (C : Cts) (hn : (C.map (·.1)).Nodup) (g : Int × Int → Int) : ((heapL C).map fun r => g (r.1, r.2.1) * r.2.2).sum = (C.map fun e => g e.1 * e.2).sum := by
  unfold heapL
  rw [List.map_map]
  have h1 : ∀ l : List (Int × Int), ((l.filter fun k => !decide (getC C k = 0)).map ((fun r : Row => g (r.1, r.2.1) * r.2.2) ∘ fun k => (k.1, k.2, getC C k))).sum = (l.map fun k => g k * getC C k).sum := by
    intro l
    induction l with
    | nil => rfl
    | cons k l ih =>
      rw [List.filter_cons]
      by_cases h : getC C k = 0
      · rw [if_neg (by simp [h]), ih, List.map_cons, List.sum_cons, h]
        omega
      · rw [if_pos (by simp [h]), List.map_cons, List.sum_cons, ih, List.map_cons, List.sum_cons]
        rfl
  rw [h1]
  have h2 : ((sortK (C.map (·.1))).map fun k => g k * getC C k).Perm ((C.map (·.1)).map fun k => g k * getC C k) := (sortK_perm9 _).map _
  have h3 : ∀ {a b : List Int}, a.Perm b → a.sum = b.sum := by
    intro a b h
    induction h with
    | nil => rfl
    | cons x _ ih => simp [ih]
    | swap x y l => simp only [List.sum_cons]; omega
    | trans _ _ ih1 ih2 => exact ih1.trans ih2
  rw [h3 h2, List.map_map]
  congr 1
  apply List.map_congr_left
  intro e he
  show g e.1 * getC C e.1 = g e.1 * e.2
  rw [getC_uniq C hn e he]
end SB
namespace SB
def chOdd (ch : List Bool) : Bool := Nat.beq ((ch.filter id).length % 2) 1
def wAtN (n c : Nat) (pk : Nat × Nat) : List ((Nat × Nat) × List (Bool × Nat)) :=
  ((allR (primesL n)).filter fun rs => rs.getD pk.2 0 == 0).map fun rs => ((pk.1, beatL n c rs % (n / pk.1)), (chL (primesL n).length pk.2).map fun ch => (chOdd ch, beatL n c (heldL rs ch)))
def wAllN (n : Nat) : List ((Nat × Nat) × List (Bool × Nat)) := (List.range (if 1 < n then stepL n else 0)).flatMap fun c => ((primesL n).zipIdx).flatMap (wAtN n c)
def lbN (n b : Nat) : List (Bool × Nat) := ((wAllN n).filter fun e => Nat.beq (b % (n / e.1.1)) e.1.2).flatMap (·.2)
def rowTab (n : Nat) : List (List Nat) := (List.range n).map fun p => (List.range (n - phi n)).map fun j => (shf (gf (cyc n)) j p + 2).toNat
def rowSum (W : Nat) (T : List (List Nat)) (l : List (Bool × Nat)) (s : Bool) : List Nat := l.foldr (fun e acc => if e.1 = s then List.zipWith Nat.add (T.getD e.2 []) acc else acc) (List.replicate W 0)
def sameL : List Nat → List Nat → Bool
  | [], [] => true
  | x :: xs, y :: ys => Nat.beq x y && sameL xs ys
  | _, _ => false
def killB (n b : Nat) (l : List (Bool × Nat)) : Bool := l.all (fun e => Nat.blt e.2 n) && Nat.beq ((l.filter (·.1)).length) ((l.filter (!·.1)).length + 1) && sameL (rowSum (n - phi n) (rowTab n) l true) (rowSum (n - phi n) (rowTab n) ((false, b) :: l) false)
theorem heap_kills : ∀ n ∈ sizes, 1 < n → (List.range n).all (fun b => killB n b (lbN n b)) = true := by decide +kernel
theorem keys_few : ∀ n ∈ sizes, Nat.ble (wAllN n).length 1000 = true := by decide +kernel
theorem beats_on : ∀ n ∈ sizes, (polysL n).all (fun e => Nat.beq ((List.range n).filter fun b => Nat.beq (b % (n / e.1)) e.2).length e.1) = true := by decide +kernel
end SB
namespace SB
def sg (b : Bool) : Int := if b then 1 else -1
theorem sgn_sg (ch : List Bool) : sgn ch = sg (chOdd ch) := by
  unfold sgn sg chOdd
  have e : (((ch.filter id).length : Int) % 2 = 1) = (Nat.beq ((ch.filter id).length % 2) 1 = true) := by
    rw [Nat.beq_eq]
    apply propext
    omega
  simp only [e]
def liftE (e : (Nat × Nat) × List (Bool × Nat)) : (Int × Int) × List (Int × Nat) := (((e.1.1 : Int), (e.1.2 : Int)), e.2.map fun t => (sg t.1, t.2))
theorem wAll_lift (n : Nat) : wAll n = (wAllN n).map liftE := by
  unfold wAll wAllN
  rw [List.map_flatMap]
  congr 1
  funext c
  rw [List.map_flatMap]
  congr 1
  funext pk
  unfold wAt wAtN
  rw [List.map_map]
  congr 1
  funext rs
  show (_, _) = liftE (_, _)
  unfold liftE
  rw [List.map_map]
  congr 2
  funext ch
  show (sgn ch, _) = (sg (chOdd ch), _)
  rw [sgn_sg]
theorem same_eq : ∀ {a b : List Nat}, sameL a b = true → a = b
  | [], [], _ => rfl
  | x :: xs, y :: ys, h => by
    unfold sameL at h
    rw [Bool.and_eq_true, Nat.beq_eq] at h
    rw [h.1, same_eq h.2]
  | [], _ :: _, h => by simp [sameL] at h
  | _ :: _, [], h => by simp [sameL] at h
/-- one side of the check -/
def side (f : Nat → Nat) (l : List (Bool × Nat)) (s : Bool) : Nat := (l.map fun e => if e.1 = s then f e.2 else 0).sum
theorem rowSum_eq (n W : Nat) (g : Nat → Nat → Nat) (s : Bool) : ∀ l : List (Bool × Nat), (∀ e ∈ l, e.2 < n) →
    rowSum W ((List.range n).map fun p => (List.range W).map fun j => g j p) l s = (List.range W).map fun j => side (g j) l s
  | [], _ => by
    show List.replicate W 0 = _
    apply List.ext_getElem
    · simp
    · intro i h1 h2
      simp [side]
  | e :: l, h => by
    have ih := rowSum_eq n W g s l fun x hx => h x (List.mem_cons_of_mem _ hx)
    unfold rowSum at ih ⊢
    rw [List.foldr_cons, ih]
    have hside : ∀ j, side (g j) (e :: l) s = (if e.1 = s then g j e.2 else 0) + side (g j) l s := fun j => by
      unfold side
      rw [List.map_cons, List.sum_cons]
    by_cases q : e.1 = s
    · rw [if_pos q]
      have hT : ((List.range n).map fun p => (List.range W).map fun j => g j p).getD e.2 [] = (List.range W).map fun j => g j e.2 := by
        rw [List.getD_eq_getElem?_getD, List.getElem?_map, List.getElem?_range (h e List.mem_cons_self)]
        rfl
      rw [hT, List.zipWith_map, List.zipWith_self]
      apply List.map_congr_left
      intro j _
      rw [hside, if_pos q]
      rfl
    · rw [if_neg q]
      apply List.map_congr_left
      intro j _
      rw [hside, if_neg q, Nat.zero_add]
theorem side_cast (c : Nat → Int) (hc : ∀ p, -2 ≤ c p) (s : Bool) : ∀ l : List (Bool × Nat), ((side (fun p => (c p + 2).toNat) l s : Nat) : Int) = (l.map fun e => if e.1 = s then c e.2 else 0).sum + 2 * ((l.filter fun e => decide (e.1 = s)).length : Int)
  | [] => rfl
  | e :: l => by
    have ih := side_cast c hc s l
    unfold side at ih ⊢
    rw [List.map_cons, List.sum_cons, List.map_cons, List.sum_cons, List.filter_cons, Int.natCast_add, ih]
    have := hc e.2
    by_cases q : e.1 = s
    · rw [if_pos q, if_pos q, if_pos (by simpa using q), List.length_cons]
      dsimp only
      omega
    · rw [if_neg q, if_neg q, if_neg (by simpa using q)]
      omega
theorem wsum_sides (c : Nat → Int) : ∀ l : List (Bool × Nat), wsum (l.map fun t => (sg t.1, t.2)) c = (l.map fun e => if e.1 = true then c e.2 else 0).sum - (l.map fun e => if e.1 = false then c e.2 else 0).sum
  | [] => rfl
  | (true, p) :: l => by
    have ih := wsum_sides c l
    unfold wsum at ih ⊢
    simp only [List.map_cons, List.sum_cons]
    rw [ih]
    show 1 * c p + _ = c p + _ - (0 + _)
    omega
  | (false, p) :: l => by
    have ih := wsum_sides c l
    unfold wsum at ih ⊢
    simp only [List.map_cons, List.sum_cons]
    rw [ih]
    show -1 * c p + _ = 0 + _ - (c p + _)
    omega
theorem kill_wsum {n b : Nat} (hn : n ∈ sizes) (hb : b < n) {l : List (Bool × Nat)} (h : killB n b l = true) {j : Nat} (hj : j < n - phi n) : wsum (l.map fun t => (sg t.1, t.2)) (shf (gf (cyc n)) j) = shf (gf (cyc n)) j b := by
  unfold killB at h
  rw [Bool.and_eq_true, Bool.and_eq_true, Nat.beq_eq] at h
  obtain ⟨⟨h1, h2⟩, h3⟩ := h
  have h1 : ∀ e ∈ l, e.2 < n := fun e he => by
    have := List.all_eq_true.mp h1 e he
    simpa [Nat.blt_eq] using this
  have h3 := same_eq h3
  unfold rowTab at h3
  rw [rowSum_eq n _ (fun j p => (shf (gf (cyc n)) j p + 2).toNat) true l h1, rowSum_eq n _ (fun j p => (shf (gf (cyc n)) j p + 2).toNat) false ((false, b) :: l) (by
    intro e he
    rcases List.mem_cons.mp he with z | z
    · rw [z]; exact hb
    · exact h1 e z)] at h3
  have h4 : side (fun p => (shf (gf (cyc n)) j p + 2).toNat) l true = side (fun p => (shf (gf (cyc n)) j p + 2).toNat) ((false, b) :: l) false := by
    have := congrArg (fun L : List Nat => L[j]?) h3
    simpa [hj] using this
  have hc : ∀ p, -2 ≤ shf (gf (cyc n)) j p := fun p => by
    unfold shf
    split
    · exact gf_all (P := fun x => -2 ≤ x) (fun x hx => by
        have := List.all_eq_true.mp (cyc_two n hn) x hx
        have := of_decide_eq_true this
        omega) (by decide) _
    · decide
  have h5 := congrArg (fun x : Nat => (x : Int)) h4
  rw [side_cast _ hc, side_cast _ hc] at h5
  rw [wsum_sides]
  rw [List.map_cons, List.sum_cons, List.filter_cons] at h5
  simp only [if_true, decide_true, List.length_cons] at h5
  have e1 : (l.filter fun e => decide (e.1 = true)) = l.filter (·.1) := by
    apply List.filter_congr
    intro e _
    cases e.1 <;> rfl
  have e2 : (l.filter fun e => decide (e.1 = false)) = l.filter (!·.1) := by
    apply List.filter_congr
    intro e _
    cases e.1 <;> rfl
  rw [e1, e2] at h5
  omega
end SB
namespace SB
theorem lb_lift (n b : Nat) : ((wAll n).filter fun e => onB n b e.1).flatMap (·.2) = (lbN n b).map fun t => (sg t.1, t.2) := by
  rw [wAll_lift, List.filter_map]
  have e : ((fun e : (Int × Int) × List (Int × Nat) => onB n b e.1) ∘ liftE) = fun e => Nat.beq (b % (n / e.1.1)) e.1.2 := by
    funext e
    show decide ((b : Int) % ((n : Int) / (e.1.1 : Int)) = (e.1.2 : Int)) = _
    rw [Bool.eq_iff_iff, decide_eq_true_eq, Nat.beq_eq]
    norm_cast
  rw [e]
  unfold lbN
  rw [List.flatMap_map, List.map_flatMap]
  rfl
theorem wsum_append (a b : List (Int × Nat)) (r : NFn) : wsum (a ++ b) r = wsum a r + wsum b r := by
  unfold wsum
  rw [List.map_append, List.sum_append]
theorem kSum_w (S : Int × Int → Bool) (r : NFn) : ∀ l : List ((Int × Int) × List (Int × Nat)), kSum S (l.map fun e => (e.1, wsum e.2 r)) = wsum ((l.filter fun e => S e.1).flatMap (·.2)) r
  | [] => rfl
  | e :: l => by
    rw [List.map_cons, kSum_cons, kSum_w S r l, List.filter_cons]
    dsimp only
    by_cases h : S e.1 = true
    · rw [if_pos h, if_pos h, List.flatMap_cons, wsum_append]
    · rw [if_neg h, if_neg h, Int.zero_add]
/-- the heap's identity at every beat -/
theorem beat_of {n b : Nat} (hn : n ∈ sizes) (h1 : 1 < n) (hb : b < n) {v : List Int} (hv : v.length = n) (hs : silentB v n = true) : wsum ((lbN n b).map fun t => (sg t.1, t.2)) (gf v) = gf v b := by
  have hk := List.all_eq_true.mp (heap_kills n hn h1) b (List.mem_range.mpr hb)
  have hz := (silent_iff (size_sub hn) v (n - phi n) (by omega)).mp hs
  have key := Dv_weigh (gf (cyc n)) (phi n) ((lbN n b).map (fun t => (sg t.1, t.2)) ++ [(-1, b)]) (n - phi n) (gf v) fun j hj => by
    rw [wsum_append, kill_wsum hn hb hk hj]
    show _ + (-1 * shf (gf (cyc n)) j b + 0) = 0
    omega
  unfold cRem at hz
  rw [hz] at key
  have h0 : ∀ l : List (Int × Nat), wsum l (fun _ => 0) = 0 := by
    intro l
    unfold wsum
    induction l with
    | nil => rfl
    | cons e l ih => rw [List.map_cons, List.sum_cons, ih]; simp
  rw [h0, wsum_append] at key
  have : wsum [(-1, b)] (gf v) = -1 * gf v b + 0 := rfl
  omega
def cts (n : Nat) (v : List Int) : Cts := signedC n v
theorem cts_sum (n : Nat) (v : List Int) (S : Int × Int → Bool) : kSum S (signedC n v) = wsum (((wAll n).filter fun e => S e.1).flatMap (·.2)) (gf v) := by
  unfold signedC
  rw [kSum_all, puts_w, kSum_w]
  show 0 + _ = _
  omega
theorem cts_keys (n : Nat) (v : List Int) : ((signedC n v).map (·.1)).Nodup ∧ (∀ k ∈ (signedC n v).map (·.1), k ∈ (wAll n).map (·.1)) ∧ (signedC n v).length ≤ (wAll n).length := by
  unfold signedC
  rw [puts_w]
  obtain ⟨h1, h2, h3⟩ := putAll_keys ((wAll n).map fun e => (e.1, wsum e.2 (gf v))) [] .nil
  refine ⟨h1, fun k hk => ?_, ?_⟩
  · rcases h2 k hk with z | z
    · exact absurd z (by simp)
    · rw [List.map_map] at z
      exact z
  · rw [List.length_map] at h3
    simpa using h3
theorem key_poly {n : Nat} (hn : n ∈ sizes) {k : Int × Int} (h : k ∈ (wAll n).map (·.1)) : polyB n k.1 k.2 = true := by
  obtain ⟨e, he, rfl⟩ := List.mem_map.mp h
  unfold wAll at he
  obtain ⟨c, _, he⟩ := List.mem_flatMap.mp he
  obtain ⟨pk, hpk, he⟩ := List.mem_flatMap.mp he
  unfold wAt at he
  obtain ⟨rs, _, rfl⟩ := List.mem_map.mp he
  have hp : pk.1 ∈ primesL n := by
    have := List.mem_map_of_mem (f := Prod.fst) hpk
    rwa [List.zipIdx_map_fst] at this
  obtain ⟨p1, p2, p3, _⟩ := mem_primes hp
  have hq : 0 < n / pk.1 := Nat.div_pos p2 (by omega)
  exact polyB_mk hp (Nat.mod_lt _ hq)
theorem heapL_key {C : Cts} {r : Row} (h : r ∈ heapL C) : (r.1, r.2.1) ∈ C.map (·.1) ∧ r.2.2 ≠ 0 := by
  unfold heapL at h
  obtain ⟨k, hk, rfl⟩ := List.mem_map.mp h
  obtain ⟨h1, h2⟩ := List.mem_filter.mp hk
  refine ⟨(sortK_perm9 _).mem_iff.mp h1, ?_⟩
  simpa using h2
theorem heapL_asc {C : Cts} (h : (C.map (·.1)).Nodup) : ascB ((heapL C).map keyR) = true := by
  apply asc_of
  unfold heapL
  rw [List.map_map]
  have : (keyR ∘ fun k : Int × Int => (k.1, k.2, getC C k)) = id := rfl
  rw [this, List.map_id]
  exact (sortK_sorted9 _ h).sublist List.filter_sublist
theorem heapL_len (C : Cts) : (heapL C).length ≤ C.length := by
  unfold heapL
  rw [List.length_map]
  refine Nat.le_trans (List.length_filter_le _ _) ?_
  rw [(sortK_perm9 _).length_eq, List.length_map]
  exact Nat.le_refl _
theorem kSum_g (S : Int × Int → Bool) : ∀ l : List ((Int × Int) × Int), kSum S l = (l.map fun e => (if S e.1 = true then 1 else 0) * e.2).sum
  | [] => rfl
  | e :: l => by
    rw [kSum_cons, kSum_g S l, List.map_cons, List.sum_cons]
    split <;> simp
theorem rows_at (S : Int × Int → Bool) : ∀ l : List Row, ((l.filter fun r => S (r.1, r.2.1)).map (·.2.2)).sum = (l.map fun r => (if S (r.1, r.2.1) = true then 1 else 0) * r.2.2).sum
  | [] => rfl
  | r :: l => by
    rw [List.filter_cons, List.map_cons, List.sum_cons, ← rows_at S l]
    split
    · simp
    · simp
theorem sum_swap {α : Type} (f : Nat → α → Int) (n : Nat) : ∀ l : List α, ((List.range n).map fun b => (l.map fun r => f b r).sum).sum = (l.map fun r => ((List.range n).map fun b => f b r).sum).sum
  | [] => by
    show ((List.range n).map fun _ => (0 : Int)).sum = 0
    rw [List.map_const', List.sum_replicate_int]
    simp
  | r :: l => by
    rw [List.map_cons, List.sum_cons, ← sum_swap f n l]
    have : ∀ L : List Nat, (L.map fun b => ((r :: l).map fun r => f b r).sum).sum = (L.map fun b => f b r).sum + (L.map fun b => (l.map fun r => f b r).sum).sum := by
      intro L
      induction L with
      | nil => rfl
      | cons b L ih =>
        simp only [List.map_cons, List.sum_cons] at ih ⊢
        omega
    exact this _
theorem ind_sum (m : Int) (P : Nat → Bool) : ∀ L : List Nat, (L.map fun b => (if P b = true then 1 else 0) * m).sum = ((L.filter P).length : Int) * m
  | [] => by simp
  | b :: L => by
    rw [List.map_cons, List.sum_cons, ind_sum m P L, List.filter_cons]
    split
    · rw [List.length_cons, Int.natCast_add, Int.add_mul]
      simp
      omega
    · simp
theorem heap_of_silent {n : Nat} (hn : n ∈ sizes) {v : List Int} (hv : v.length = n) (hs : silentB v n = true) :
    heapB n (signedL n v) = true ∧ (signedL n v).length ≤ 1000 ∧ vbh n (signedL n v) = v ∧ ((signedL n v).map fun r => r.1 * r.2.2).sum = v.sum := by
  obtain ⟨k1, k2, k3⟩ := cts_keys n v
  have hB : ∀ r ∈ signedL n v, rowB n r = true := fun r hr => by
    obtain ⟨h1, h2⟩ := heapL_key hr
    have := key_poly hn (k2 _ h1)
    unfold rowB
    rw [this]
    simp [h2]
  have hheap : heapB n (signedL n v) = true := by
    unfold heapB
    rw [Bool.and_eq_true]
    exact ⟨List.all_eq_true.mpr hB, heapL_asc k1⟩
  have hlen : (signedL n v).length ≤ 1000 := by
    have h1 := heapL_len (signedC n v)
    have h2 := keys_few n hn
    rw [Nat.ble_eq] at h2
    rw [wAll_lift, List.length_map] at k3
    show (heapL (signedC n v)).length ≤ 1000
    omega
  have hv2 : vbh n (signedL n v) = v := by
    by_cases h1 : 1 < n
    · refine ext_getD (by rw [hv]; simp [vbh]) fun b hb => ?_
      have hb : b < n := by simpa [vbh] using hb
      have e1 : gf (vbh n (signedL n v)) b = (((signedL n v).filter fun r => onB n b (r.1, r.2.1)).map (·.2.2)).sum := by
        unfold vbh
        show List.getD _ b 0 = _
        rw [List.getD_eq_getElem?_getD, List.getElem?_map, List.getElem?_range hb]
        rfl
      show gf (vbh n (signedL n v)) b = gf v b
      rw [e1, rows_at]
      show ((heapL (signedC n v)).map fun r => (fun k => if onB n b k = true then 1 else 0) (r.1, r.2.1) * r.2.2).sum = _
      rw [heapL_sum _ k1 fun k => if onB n b k = true then 1 else 0, ← kSum_g, cts_sum, lb_lift, beat_of hn h1 hb hv hs]
    · have e : n = 1 := by have := size_lt n hn; omega
      subst e
      match v, hv with
      | [x], _ =>
        have h2 := (silent_iff (size_sub hn) [x] 0 (by show 1 ≤ 0 + phi 1; decide)).mp hs
        have h3 : gf [x] 0 = 0 := congrFun h2 0
        have : x = 0 := h3
        subst this
        rfl
  refine ⟨hheap, hlen, hv2, ?_⟩
  have h2 : v.sum = ((List.range n).map fun b => ((signedL n v).map fun r => (if onB n b (r.1, r.2.1) = true then 1 else 0) * r.2.2).sum).sum := by
    conv => lhs; rw [← hv2]
    unfold vbh
    congr 1
    apply List.map_congr_left
    intro b _
    exact rows_at (onB n b) (signedL n v)
  rw [h2, sum_swap]
  congr 1
  apply List.map_congr_left
  intro r hr
  rw [ind_sum]
  have h3 := hB r hr
  unfold rowB at h3
  rw [Bool.and_eq_true] at h3
  obtain ⟨q, g, hq, e1, e2, hg⟩ := polyB_of h3.1
  have h4 := List.all_eq_true.mp (beats_on n hn) (q, g) (by
    unfold polysL
    rw [List.mem_flatMap]
    exact ⟨q, hq, List.mem_map.mpr ⟨g, List.mem_range.mpr hg, rfl⟩⟩)
  rw [Nat.beq_eq] at h4
  have e : ((List.range n).filter fun b => onB n b (r.1, r.2.1)) = (List.range n).filter fun b => Nat.beq (b % (n / q)) g := by
    apply List.filter_congr
    intro b _
    unfold onB
    rw [e1, e2]
    show decide ((b : Int) % ((n : Int) / (q : Int)) = (g : Int)) = _
    rw [Bool.eq_iff_iff, decide_eq_true_eq, Nat.beq_eq]
    norm_cast
  rw [e, h4, e1]
end SB
/-! all the plain laws -/
namespace SB
open PySem PySem.Spec PyProof.Rows L2 RZ
open StX (tStar pa_star)
open LamX
section
variable {P : Program} {w : World} {K : PySem.W.Frag} {mg : Str → Option Value} {base : Heap}
abbrev s__law_voice_right : Stmt := topS 107
theorem sc__law_voice_right : FnScope ["_law_voice_here", "_law_size", "_law_rest_here", "_law_told", "_law_number", "_law_row"] ["_law_voice_here"] (defScope s__law_voice_right) := ⟨rfl, rfl, rfl, by decide +kernel, rfl, by decide +kernel, by decide +kernel⟩
theorem ok__law_voice_right {f c Pt C : Addr} {fd : FuncData} {TT : List (Addr × Str)} (F : FunC K "_law_voice_right" s__law_voice_right c f fd) (T : Txt K mg) (Hf : HdF K mg C) (TB : TabB base mg c Pt) (hmT : (Pt, (envOfC "_law_voice_right" (defScope s__law_voice_right) 0 f (.ref c)).qual ++ "<lambda>") ∈ TT) (hqu : ∀ p ∈ TT, p.1 = Pt → p.2 = (envOfC "_law_voice_right" (defScope s__law_voice_right) 0 f (.ref c)).qual ++ "<lambda>") (G__law_rest : Fn P w K mg base "_law_rest" 3 ["_law_voice_here"] sp__law_rest) (G_signed_heap : FnX P w K mg base "signed_heap" 9 ["voice"] (sp_signed_heap C)) (G__law_is_rows : Fn P w K mg base "_law_is_rows" 4 ["_law_size", "_law_value"] sp__law_is_rows) (G__law_voice : Fn P w K mg base "_law_voice" 1 ["_law_size", "_law_rows"] sp__law_voice) (G_heap_voice : Fn P w K mg base "heap_voice" 7 ["size", "rows"] sp_heap_voice) : FnOkG P w K mg base CX0 13 f fd ["_law_voice_here"] (sp__law_voice_right K TT) := by
  refine F.okG sc__law_voice_right (fun vs H Q E h => ?_) (fun A outer s H vs Q E hgu hr h => ?_)
  · obtain ⟨w0, v, rfl, _⟩ := h
    rfl
  · obtain ⟨w0, v, rfl, hw, hn, hT, kk⟩ := h
    have hu := hu_of hr
    have S : Sl K (L2.start ["_law_voice_here", "_law_size", "_law_rest_here", "_law_told", "_law_number", "_law_row"] [w0]) H [.dat (tI v), .un, .un, .un, .un, .un] := Sl.startD (K := K) (N := ["_law_voice_here", "_law_size", "_law_rest_here", "_law_told", "_law_number", "_law_row"]) (.cons hw .nil)
    refine ⟨_, (pss_cons (ps_par (i := 1) (j := 2) rfl sc__law_voice_right.nd rfl rfl (by decide) rfl rfl (pa_cons (pe_callB (k_call_len_seq K) (by rfl) T.len PySem.boot_len (pa_cons (pv 0) pa_nil)) (pa_cons (pe_fn G__law_rest (hr.mono (by decide)) (by rfl) (pa_cons (pv 0) pa_nil)) pa_nil)) (by rfl))
    (pss_cons (ps_set (i := 3) sc__law_voice_right.nd rfl (Or.inl rfl) (pe_heard (i := 0) T Hf G_signed_heap TB (by rfl) hmT hqu (hr.mono (by decide)) (by rfl) (lamS_by (sc := defScope s__law_voice_right) (by decide +kernel)) rfl (fun _ _ _ _ _ => rfl) (by decide +kernel) (by rfl) (by decide +kernel) (by decide) (by decide)))
    (pss_cons (ps_if (pt_cmpR (k_op_neD K hr.units) (pe_lc (own := [("_law_number", 4)]) rfl sc__law_voice_right.nd (k_pi_tup K (pv 2)) (blkOk_by (by kernel_rfl)) (fun _ _ _ _ _ => (pg_name (i := 4) sc__law_voice_right.nd rfl (Or.inl rfl))) (fun _ _ _ _ _ => (pts_one (pt_cmpR op_ne (pv 4) pe_int (nomark _)))) (fun _ _ _ _ _ => (pv 4))) (pe_lst pa_nil) (nomark _)) 
      (pss_one (ps_ret (pe_cmpR op_eq (pe_callB (cr_repr hgu hr.units) (by rfl) T.repr (by decide +kernel) (pa_cons (pv 3) pa_nil)) (pe_callB (cr_repr hgu hr.units) (by rfl) T.repr (by decide +kernel) (pa_cons (pe_tup (pa_cons pe_str (pa_cons (pv 2) pa_nil))) pa_nil)) (nomark _))))
      pss_nil)
    (pss_cons (ps_if (PW.pt (pw_or (pt_cmpR op_ne (pe_ix (k_ix_tup K) (pv 3) pe_int (fun _ _ => rfl)) pe_str (nomark _)) (pw_or1 (pt_not (pt_val (pe_fn G__law_is_rows (hr.mono (by decide)) (by rfl) (pa_cons (pv 1) (pa_cons (pe_ix (k_ix_tup K) (pv 3) pe_int (fun _ _ => rfl)) pa_nil)))))))) 
      (pss_one (ps_ret pe_bl))
      pss_nil)
    (pss_cons (ps_if (pt_cmpR (k_op_neD K hr.units) (pe_fn G__law_voice (hr.mono (by decide)) (by rfl) (pa_cons (pv 1) (pa_cons (pe_ix (k_ix_tup K) (pv 3) pe_int (fun _ _ => rfl)) pa_nil))) (pv 0) (nomark _)) 
      (pss_one (ps_ret pe_bl))
      pss_nil)
    (pss_cons (ps_if (pt_cmpR op_ne (pe_callB (k_cr_sum K rfl) (by rfl) T.sum (by decide +kernel) (pa_cons (pe_lc (own := [("_law_row", 5)]) rfl sc__law_voice_right.nd (k_pi_tup K (pe_ix (k_ix_tup K) (pv 3) pe_int (fun _ _ => rfl))) (blkOk_by (by kernel_rfl)) (fun _ _ _ _ _ => (pg_name (i := 5) sc__law_voice_right.nd rfl (Or.inl rfl))) (fun _ _ _ _ _ => pts_nil) (fun _ _ _ _ _ => (pe_op op_mul (pe_ix (k_ix_tup K) (pv 5) pe_int (fun _ _ => rfl)) (pe_ix (k_ix_tup K) (pv 5) pe_int (fun _ _ => rfl))))) pa_nil)) (pe_callB (k_cr_sumT K rfl) (by rfl) T.sum (by decide +kernel) (pa_cons (pv 0) pa_nil)) (nomark _)) 
      (pss_one (ps_ret pe_bl))
      pss_nil)
    (pss_one (ps_ret (pe_cmpR (k_op_eqD K hr.units) (pe_fn G_heap_voice (hr.mono (by decide)) (by rfl) (pa_cons (pv 1) (pa_cons (pe_ix (k_ix_tup K) (pv 3) pe_int (fun _ _ => rfl)) pa_nil))) (pv 0) (nomark _)))))))))), ?_⟩
    have hnb := size_lt _ hn.1
    refine sq (st_par S (ea_cons ((ev_lenT (ev_var S rfl)).to (e := .int (v.length : Int)) (by rw [List.length_map])) (ea_cons (ev_call (ea_cons (ev_var S rfl) ea_nil) ⟨v, hn.1, rfl, rfl⟩) ea_nil)) fun σ1 H1 e1 S1 => ?_)
    have hT1 : Tabs TT H1 := hT.ext e1
    have hrl : restL v v.length = lrest v := rest_lrest hn.1 rfl
    have hll := lrest_len hn.1 (v := v) rfl
    have hlb : ∀ x ∈ lrest v, x.natAbs.log2 < 1920 := fun x hx => log2_of (rest_bound hn.1 rfl hn.2 x hx) (by decide)
    have hz : ∀ b, silentB v v.length = b → (!decide (((lrest v).filter fun x => !decide (x = 0)).map PyData.int = [])) = !b := fun b hb => by
      rw [← hb]
      unfold silentB
      rw [hrl]
      induction lrest v with
      | nil => rfl
      | cons x l ih =>
        rw [List.filter_cons, List.all_cons]
        by_cases h0 : x = 0
        · rw [decide_eq_true h0]
          exact ih
        · rw [decide_eq_false h0]
          rfl
    by_cases hs : silentB v v.length = true
    · obtain ⟨m1, m2, m3, m4⟩ := heap_of_silent hn.1 rfl hs
      obtain ⟨rows, hrows⟩ : ∃ rows, signedL v.length v = rows := ⟨_, rfl⟩
      rw [hrows] at m1 m2 m3 m4
      have mrow : ∀ r ∈ rows, polyB v.length r.1 r.2.1 = true := fun r hr => by
        unfold heapB rowB at m1
        simp only [Bool.and_eq_true, List.all_eq_true] at m1
        exact (m1.1 r hr).1
      refine sq (st_asgC S1 (heard_got S1 rfl hT1 hn.1 hs fun r x H2 e2 t2 h2 r2 => ?_))
      rw [hrows] at r2
      have rt : Dt H2 (.ref r) (.tuple [.str "got", .tuple (rows.map rD)]) := .tup h2 (.cons (.str _) (.cons r2 .nil))
      have S2 : Sl K _ H2 [.dat (tI v), .dat (.int (v.length : Int)), .dat (tI (lrest v)), .dat (.tuple [.str "got", .tuple (rows.map rD)]), .un, .un] := (S1.kp (extN_kp e2)).setD 3 rt
      dsimp only
      refine sq (st_if (b := false) ((et_test (ev_neNil (EvL.r (el_lc (xs := lrest v) (enc := fun x => .int x) (p := fun x => !decide (x = 0)) (f := fun x => .int x) S2 (wk_tup (ev_var S2 (k := 2) rfl)).same (fun x _ => tg_name) (by omega) (fun x hx σ' H' e' S' => et_test (ev_ne (ev_var S' rfl) ev_int)) fun x hx _ σ' H' e' S' => ev_var S' rfl)) (shp_ints _))).to (hz true hs)) (fun z => nomatch z) fun _ H3 e3 => ?_)
      have S3 := S2.same e3
      have g1 : ∀ {σ' H'}, Sl K σ' H' [.dat (tI v), .dat (.int (v.length : Int)), .dat (tI (lrest v)), .dat (.tuple [.str "got", .tuple (rows.map rD)]), .un, .un] → EvD (tOp (rIxT K) (tVar 3) (tC (.int 1))) σ' H' (.tuple (rows.map rD)) := fun S' => ev_ixT (k := 1) (ev_var S' rfl) ev_int rfl rfl
      refine sq (st_if (b := false) ((et_or (b := false) (c := false) ((et_test (ev_neS (ev_ixT (k := 0) (d := .str "got") (ev_var S3 (k := 3) rfl) ev_int rfl rfl) ev_str)).to (by decide)) fun _ => (et_not (et_B (ev_call (ea_cons (ev_var S3 rfl) (ea_cons (g1 S3) ea_nil)) ⟨v.length, rows, ⟨hnb.1, hnb.2, m2, m1⟩, rfl, rfl⟩))).to rfl).to rfl) (fun z => nomatch z) fun _ H4 e4 => ?_)
      have S4 := S3.same e4
      refine sq (st_if (b := false) ((et_test (ev_neD (ev_call (ea_cons (ev_var S4 rfl) (ea_cons (g1 S4) ea_nil)) ⟨v.length, rows, ⟨hnb.1, hnb.2, m2, mrow⟩, rfl, rfl⟩) (ev_var S4 (k := 0) rfl) (shp_tI _) (shp_tI _))).to (by rw [m3, eqv_tI]; rfl)) (fun z => nomatch z) fun _ H5 e5 => ?_)
      have S5 := S4.same e5
      refine sq (st_if (b := false) ((et_test (ev_ne (ev_sum (ns := rows.map fun r => r.1 * r.2.2) (EvL.r ((el_lc0 (xs := rows) (enc := rD) (f := fun r => .int (r.1 * r.2.2)) S5 (wk_tup (g1 S5)).same (fun x _ => tg_name) (by omega) ?_).to (by rw [List.map_map]; rfl)))) (ev_sumT (ev_var S5 (k := 0) rfl)))).to (by rw [m4]; simp)) (fun z => nomatch z) fun _ H6 e6 => ?_)
      · intro r hr σ' H' e' S'
        obtain ⟨q, g, hq, eq1, eg1, hg⟩ := polyB_of (mrow r hr)
        have hpr := mem_primes hq
        exact ev_mul (ev_ixT (k := 0) (ds := [.int r.1, .int r.2.1, .int r.2.2]) (ev_var S' (k := 5) rfl) ev_int rfl rfl) (ev_ixT (k := 2) (ds := [.int r.1, .int r.2.1, .int r.2.2]) (ev_var S' (k := 5) rfl) ev_int rfl rfl) (.inl (by omega))
      · have S6 := S5.same e6
        refine st_ret (ev_eqD (ev_call (ea_cons (ev_var S6 rfl) (ea_cons (g1 S6) ea_nil)) ⟨v.length, rows, ⟨hnb.1, hnb.2, m2, m1⟩, rfl, rfl⟩) (ev_var S6 (k := 0) rfl) (shp_tI _) (shp_tI _)) fun w H7 e7 r7 => ?_
        rw [r7.bl', m3, eqv_tI]
        have e37 := (((e3.trans e4).trans e5).trans e6).trans e7
        exact kk H7 ((ExtN.of e1).trans (e2.trans (ExtN.of e37))) (t2.ext e37)
    · have hs : silentB v v.length = false := by simpa using hs
      refine sq (st_asgC S1 (heard_rest S1 rfl hT1 hn.1 hs fun r x H2 e2 t2 h2 r2 => ?_))
      rw [hrl] at r2
      have rt : Dt H2 (.ref r) (.tuple [.str "rest", tI (lrest v)]) := .tup h2 (.cons (.str _) (.cons r2 .nil))
      have S2 : Sl K _ H2 [.dat (tI v), .dat (.int (v.length : Int)), .dat (tI (lrest v)), .dat (.tuple [.str "rest", tI (lrest v)]), .un, .un] := (S1.kp (extN_kp e2)).setD 3 rt
      dsimp only
      refine sq (st_if (b := true) ((et_test (ev_neNil (EvL.r (el_lc (xs := lrest v) (enc := fun x => .int x) (p := fun x => !decide (x = 0)) (f := fun x => .int x) S2 (wk_tup (ev_var S2 (k := 2) rfl)).same (fun x _ => tg_name) (by omega) (fun x hx σ' H' e' S' => et_test (ev_ne (ev_var S' rfl) ev_int)) fun x hx _ σ' H' e' S' => ev_var S' rfl)) (shp_ints _))).to (hz false hs)) (fun _ H3 e3 => ?_) fun z => nomatch z)
      · have S3 := S2.same e3
        refine st_ret (ev_eqS (ev_repr (ev_var S3 (k := 3) rfl) (.inr ⟨_, rfl⟩) ?_) (ev_repr (ev_tup (ea_cons ev_str (ea_cons (ev_var S3 (k := 2) rfl) ea_nil)) (by simp)) (.inr ⟨_, rfl⟩) ?_)) fun w H4 e4 r4 => ?_
        · exact shw_two (small_str _ (by decide +kernel)) (by omega) hlb
        · exact shw_two (small_str _ (by decide +kernel)) (by omega) hlb
        · rw [r4.bl', decide_eq_true rfl]
          exact kk H4 ((ExtN.of e1).trans (e2.trans (ExtN.of (e3.trans e4)))) (t2.ext (e3.trans e4))
end
end SB
namespace SB
open PySem PySem.Spec PyProof.Rows L2 RZ
open StX (tStar pa_star)
open LamX
section
variable {P : Program} {w : World} {K : PySem.W.Frag} {mg : Str → Option Value} {base : Heap}
theorem st_ifH {K : PySem.W.Frag} {L tb : TE} {tu tw : TS} {D : Ends} {σ : L2.St} {H : Hp} (h : L σ H (fun t H1 => tIfS (tTest (tOp rNe (tCB (rRepr K) (tCons (tOp (rIxT K) (tC t) (tC (.int 0))) tNil)) tb)) tu tw D σ H1)) :
    tIfS (tTest (tOp rNe (tCB (rRepr K) (tCons (tOp (rIxT K) L (tC (.int 0))) tNil)) tb)) tu tw D σ H := h
theorem st_ifHS {K : PySem.W.Frag} {L tb : TE} {tu tw tr : TS} {D : Ends} {σ : L2.St} {H : Hp} (h : L σ H (fun t H1 => tIfS (tTest (tOp rNe (tCB (rRepr K) (tCons (tOp (rIxT K) (tC t) (tC (.int 0))) tNil)) tb)) tu tw { D with nx := tr D } σ H1)) :
    tSeq (tIfS (tTest (tOp rNe (tCB (rRepr K) (tCons (tOp (rIxT K) L (tC (.int 0))) tNil)) tb)) tu tw) tr D σ H := h
theorem ev_cD {σ : L2.St} {H : Hp} {v : V} {d : PyData} (r : Dt H v d) : EvD (tC v) σ H d := fun H1 e Q q => q v H1 (Same.refl H1) (r.same e)
theorem heard_any {K : PySem.W.Frag} {σ : L2.St} {H : Hp} {ρ : List Sd} {C : Addr} {T : List (Addr × Str)} {i : Nat} {v : List Int} {Q : VK} (S : Sl K σ H ρ) (hi : ρ[i]? = some (.dat (tI v))) (hT : Tabs T H) (hn : v.length ∈ sizes)
    (k : ∀ r x d H', ExtN H H' → Tabs T H' → H' r = some (.tup [.str (if silentB v v.length = true then ("got" : Str) else "rest"), x]) → Dt H' x d → Q (.ref r) H') : tLam T (TTheard C) (fun E => tCall (sp_signed_heap C) [] E (tCons (tVar i) tNil)) σ H Q := by
  cases hs : silentB v v.length with
  | true => exact heard_got S hi hT hn hs fun r x H' e t h rr => k r x _ H' e t (by rw [hs]; exact h) rr
  | false => exact heard_rest S hi hT hn hs fun r x H' e t h rr => k r x _ H' e t (by rw [hs]; exact h) rr
theorem polys_len' {n : Nat} (h1 : 1 ≤ n) (h2 : n < 111) : (polysL n).length ≤ 1000 := by
  have : ((List.range 111).drop 1).all (fun n => decide ((polysL n).length ≤ 1000)) = true := by decide +kernel
  exact of_decide_eq_true (List.all_eq_true.mp this n (mem_drop1 h1 h2))
abbrev s__law_with_silences : Stmt := topS 108
theorem sc__law_with_silences : FnScope ["_law_feed_here", "_law_voice_here", "_law_size", "_law_silent", "_law_divisors", "_law_part", "_law_late", "_law_pairs", "_law_prime", "_law_first", "_law_due", "_law_k"] ["_law_feed_here", "_law_voice_here"] (defScope s__law_with_silences) := ⟨rfl, rfl, rfl, by decide +kernel, rfl, by decide +kernel, by decide +kernel⟩
theorem ok__law_with_silences {f c Pt C : Addr} {fd : FuncData} {TT : List (Addr × Str)} (F : FunC K "_law_with_silences" s__law_with_silences c f fd) (T : Txt K mg) (Hf : HdF K mg C) (TB : TabB base mg c Pt) (hmT : (Pt, (envOfC "_law_with_silences" (defScope s__law_with_silences) 0 f (.ref c)).qual ++ "<lambda>") ∈ TT) (hqu : ∀ p ∈ TT, p.1 = Pt → p.2 = (envOfC "_law_with_silences" (defScope s__law_with_silences) 0 f (.ref c)).qual ++ "<lambda>") (G__law_is_silent : Fn P w K mg base "_law_is_silent" 4 ["_law_voice_here"] sp__law_is_silent) (G_is_silent : Fn P w K mg base "is_silent" 7 ["voice", "divisor"] sp_is_silent) (G_rest_at : Fn P w K mg base "rest_at" 6 ["voice", "divisor"] sp_rest_at) (G__law_rest : Fn P w K mg base "_law_rest" 3 ["_law_voice_here"] sp__law_rest) (G__law_pick : Fn P w K mg base "_law_pick" 2 ["_law_feed_here", "_law_things"] (sp__law_pick K)) (G_folded : Fn P w K mg base "folded" 3 ["voice", "size"] sp_folded) (G_signed_heap : FnX P w K mg base "signed_heap" 9 ["voice"] (sp_signed_heap C)) (G__law_polygons : Fn P w K mg base "_law_polygons" 2 ["_law_size"] sp__law_polygons) (G_silences_of : Fn P w K mg base "silences_of" 8 ["voice"] sp_silences_of) (G_polygon : Fn P w K mg base "polygon" 5 ["size", "prime", "first"] sp_polygon) : FnOkG P w K mg base CX0 13 f fd ["_law_feed_here", "_law_voice_here"] (sp__law_with_silences K TT) := by
  refine F.okG sc__law_with_silences (fun vs H Q E h => ?_) (fun A outer s H vs Q E hgu hr h => ?_)
  · obtain ⟨a, w0, v, rfl, _⟩ := h
    rfl
  · obtain ⟨a, w0, v, rfl, hf, hw, hn, hT, kk⟩ := h
    have hu := hu_of hr
    have S : Sl K (L2.start ["_law_feed_here", "_law_voice_here", "_law_size", "_law_silent", "_law_divisors", "_law_part", "_law_late", "_law_pairs", "_law_prime", "_law_first", "_law_due", "_law_k"] [.ref a, w0]) H [.ref a, .dat (tI v), .un, .un, .un, .un, .un, .un, .un, .un, .un, .un] := Sl.start (N := ["_law_feed_here", "_law_voice_here", "_law_size", "_law_silent", "_law_divisors", "_law_part", "_law_late", "_law_pairs", "_law_prime", "_law_first", "_law_due", "_law_k"]) (xs := [.ref a, .dat (tI v)]) rfl fun i v x h1 h2 => by
      match i with
      | 0 => cases h1; cases h2; rfl
      | 1 => cases h1; cases h2; exact ⟨_, rfl, hw⟩
      | i + 2 => cases h1
    refine ⟨_, (pss_cons (ps_asg (pe_tup (pa_cons (pe_callB (k_call_len_seq K) (by rfl) T.len PySem.boot_len (pa_cons (pv 1) pa_nil)) (pa_cons (pe_fn G__law_is_silent (hr.mono (by decide)) (by rfl) (pa_cons (pv 1) pa_nil)) pa_nil))) (k_pg_tup K 2 rfl (pgs_cons (pg_name (i := 2) sc__law_with_silences.nd rfl (Or.inr rfl)) (pgs_cons (pg_name (i := 3) sc__law_with_silences.nd rfl (Or.inl rfl)) pgs_nil))))
    (pss_cons (ps_if (pt_cmpR op_ne (pe_callB (cr_repr hgu hr.units) (by rfl) T.repr (by decide +kernel) (pa_cons (pe_tup (pa_cons (pe_fn G_is_silent (hr.mono (by decide)) (by rfl) (pa_cons (pv 1) (pa_cons (pv 2) pa_nil))) (pa_cons (pe_fn G_rest_at (hr.mono (by decide)) (by rfl) (pa_cons (pv 1) (pa_cons (pv 2) pa_nil))) pa_nil))) pa_nil)) (pe_callB (cr_repr hgu hr.units) (by rfl) T.repr (by decide +kernel) (pa_cons (pe_tup (pa_cons (pv 3) (pa_cons (pe_fn G__law_rest (hr.mono (by decide)) (by rfl) (pa_cons (pv 1) pa_nil)) pa_nil))) pa_nil)) (nomark _)) 
      (pss_one (ps_ret pe_bl))
      pss_nil)
    (pss_cons (ps_setLc (i := 4) (own := [("_law_k", 11)]) rfl sc__law_with_silences.nd rfl rfl (sw_true rfl rfl rfl (by decide +kernel)) (pi_range2 (by rfl) T.range (pa_cons pe_int (pa_cons (pe_op op_add (pv 2) pe_int) pa_nil))) (blkOk_by (by kernel_rfl)) (fun _ _ _ _ _ => (pg_name (i := 11) sc__law_with_silences.nd rfl (Or.inl rfl))) (fun _ _ _ _ _ => (pts_one (pt_cmpR op_eq (pe_op op_mod (pe_callTy call_int1 (by rfl) T.int (by decide +kernel) (pa_cons (pv 2) pa_nil)) (pv 11)) pe_int (nomark _)))) (fun _ _ _ _ _ => (pv 11)))
    (pss_cons (ps_set (i := 5) sc__law_with_silences.nd rfl (Or.inr rfl) (pe_fn G__law_pick (hr.mono (by decide)) (by rfl) (pa_cons (pv 0) (pa_cons (pv 4) pa_nil))))
    (pss_cons (ps_set (i := 6) sc__law_with_silences.nd rfl (Or.inr rfl) (pe_callTy (k_call_tuple_of K) (by rfl) T.tuple (by decide +kernel) (pa_cons (pe_lc (own := [("_law_k", 11)]) rfl sc__law_with_silences.nd (pi_range1 (by rfl) T.range (pa_cons (pv 5) pa_nil)) (blkOk_by (by kernel_rfl)) (fun _ _ _ _ _ => (pg_name (i := 11) sc__law_with_silences.nd rfl (Or.inl rfl))) (fun _ _ _ _ _ => pts_nil) (fun _ _ _ _ _ => (pe_callB (k_cr_sumT K rfl) (by rfl) T.sum (by decide +kernel) (pa_cons (k_pe_stepT K (pv 1) (pv 11) (pv 5)) pa_nil)))) pa_nil)))
    (pss_cons (ps_if (PW.pt (pw_or (pt_cmpR (k_op_neD K hr.units) (pe_fn G_folded (hr.mono (by decide)) (by rfl) (pa_cons (pv 1) (pa_cons (pv 5) pa_nil))) (pv 6) (nomark _)) (pw_or1 (pt_cmpR op_ne (pe_fn G_is_silent (hr.mono (by decide)) (by rfl) (pa_cons (pv 1) (pa_cons (pv 5) pa_nil))) (pe_fn G__law_is_silent (hr.mono (by decide)) (by rfl) (pa_cons (pv 6) pa_nil)) (nomark _))))) 
      (pss_one (ps_ret pe_bl))
      pss_nil)
    (pss_cons (ps_if (pt_cmpR op_ne (pe_callB (cr_repr hgu hr.units) (by rfl) T.repr (by decide +kernel) (pa_cons (pe_ix (k_ix_tup K) (pe_heard (i := 6) T Hf G_signed_heap TB (by rfl) hmT hqu (hr.mono (by decide)) (by rfl) (lamS_by (sc := defScope s__law_with_silences) (by decide +kernel)) rfl (fun _ _ _ _ _ => rfl) (by decide +kernel) (by rfl) (by decide +kernel) (by decide) (by decide)) pe_int (fun _ _ => rfl)) pa_nil)) (pe_callB (cr_repr hgu hr.units) (by rfl) T.repr (by decide +kernel) (pa_cons (pe_ifExp (pt_val (pe_fn G__law_is_silent (hr.mono (by decide)) (by rfl) (pa_cons (pv 6) pa_nil))) pe_str pe_str) pa_nil)) (nomark _)) 
      (pss_one (ps_ret pe_bl))
      pss_nil)
    (pss_cons (ps_set (i := 7) sc__law_with_silences.nd rfl (Or.inl rfl) (pe_fn G__law_polygons (hr.mono (by decide)) (by rfl) (pa_cons (pv 2) pa_nil)))
    (pss_cons (ps_if (pt_cmpR (k_op_eqD K hr.units) (pv 7) (pe_lst pa_nil) (nomark _)) 
      (pss_one (ps_ret pe_bl))
      pss_nil)
    (pss_cons (ps_asg (pe_fn G__law_pick (hr.mono (by decide)) (by rfl) (pa_cons (pv 0) (pa_cons (pv 7) pa_nil))) (k_pg_tup K 2 rfl (pgs_cons (pg_name (i := 8) sc__law_with_silences.nd rfl (Or.inr rfl)) (pgs_cons (pg_name (i := 9) sc__law_with_silences.nd rfl (Or.inl rfl)) pgs_nil))))
    (pss_cons (ps_set (i := 10) sc__law_with_silences.nd rfl (Or.inl rfl) (pe_callTy (k_call_tuple_of K) (by rfl) T.tuple (by decide +kernel) (pa_cons (pe_lc (own := [("_law_k", 11)]) rfl sc__law_with_silences.nd (k_pi_list K (pv 4)) (blkOk_by (by kernel_rfl)) (fun _ _ _ _ _ => (pg_name (i := 11) sc__law_with_silences.nd rfl (Or.inl rfl))) (fun _ _ _ _ _ => (pts_one (pt_cmpR op_ne (pe_op op_mod (pe_callTy call_int1 (by rfl) T.int (by decide +kernel) (pa_cons (pe_op op_fdiv (pv 2) (pv 8)) pa_nil)) (pv 11)) pe_int (nomark _)))) (fun _ _ _ _ _ => (pv 11))) pa_nil)))
    (pss_one (ps_ret (pe_cmpR op_eq (pe_callB (cr_repr hgu hr.units) (by rfl) T.repr (by decide +kernel) (pa_cons (pe_fn G_silences_of (hr.mono (by decide)) (by rfl) (pa_cons (pe_fn G_polygon (hr.mono (by decide)) (by rfl) (pa_cons (pv 2) (pa_cons (pv 8) (pa_cons (pv 9) pa_nil)))) pa_nil)) pa_nil)) (pe_callB (cr_repr hgu hr.units) (by rfl) T.repr (by decide +kernel) (pa_cons (pv 10) pa_nil)) (nomark _))))))))))))))), ?_⟩
    have hnb := size_lt _ hn.1
    have hsub := size_sub hn.1
    have hb5 : ∀ x ∈ v, -100000 ≤ x ∧ x ≤ 100000 := fun x hx => by have := hn.2.2 x hx; omega
    have hrl : restL v v.length = lrest v := rest_lrest hn.1 rfl
    have hsl : silentB v v.length = lsilent v := by unfold silentB lsilent; rw [hrl]
    have hll := lrest_len hn.1 (v := v) rfl
    have hlb : ∀ x ∈ lrest v, x.natAbs.log2 < 1920 := fun x hx => log2_of (rest_bound hn.1 rfl hb5 x hx) (by decide)
    refine sq (st_asg (d := .tuple [.int (v.length : Int), .bool (lsilent v)]) S (ev_tup (ea_cons ((ev_lenT (ev_var S (k := 1) rfl)).to (by rw [List.length_map])) (ea_cons (ev_call (ea_cons (ev_var S (k := 1) rfl) ea_nil) ⟨v, hn.1, rfl, rfl⟩) ea_nil)) (by simp)) (tg_two tg_name tg_name) fun σ1 H1 e1 S1 => ?_)
    have S1 : Sl K σ1 H1 [.ref a, .dat (tI v), .dat (.int (v.length : Int)), .dat (.bool (lsilent v)), .un, .un, .un, .un, .un, .un, .un, .un] := S1
    refine sq (st_if (b := false) ((et_test (ev_neS (ev_repr (d := .tuple [.bool (silentB v v.length), tI (restL v v.length)]) (ev_tup (ea_cons (ev_call (ea_cons (ev_var S1 (k := 1) rfl) (ea_cons (ev_var S1 (k := 2) rfl) ea_nil)) ⟨v, v.length, ⟨by omega, hsub, hnb.1, Nat.mod_self _⟩, rfl, rfl⟩) (ea_cons (ev_call (ea_cons (ev_var S1 (k := 1) rfl) (ea_cons (ev_var S1 (k := 2) rfl) ea_nil)) ⟨v, v.length, ⟨by omega, hsub, hnb.1, Nat.mod_self _⟩, rfl, rfl⟩) ea_nil)) (by simp)) (.inr ⟨_, rfl⟩) ?_) (ev_repr (d := .tuple [.bool (lsilent v), tI (lrest v)]) (ev_tup (ea_cons (ev_var S1 (k := 3) rfl) (ea_cons (ev_call (ea_cons (ev_var S1 (k := 1) rfl) ea_nil) ⟨v, hn.1, rfl, rfl⟩) ea_nil)) (by simp)) (.inr ⟨_, rfl⟩) ?_))).to (by rw [hsl, hrl]; simp)) (fun z => nomatch z) fun _ H2 e2 => ?_)
    · rw [hrl]
      exact shw_two (small_bool _) (by omega) hlb
    · exact shw_two (small_bool _) (by omega) hlb
    have S2 := S1.same e2
    refine sq (st_setN S2 (el_lc (xs := (List.range (v.length + 1)).drop 1) (enc := fun k => .int ((k : Nat) : Int)) (p := fun k => v.length % k == 0) (f := fun k => .int ((k : Nat) : Int)) S2 ((wk_rng2 (lo := 1) (n := (v.length : Int) + 1) (ea_cons ev_int (ea_cons (ev_add (ev_var S2 (k := 2) rfl) ev_int) ea_nil)) (by omega) (rng_d1 v.length (by omega))).same) (fun x _ => tg_name) (by simp; omega) (fun x hx σ' H' e' S' => ?_) fun x hx _ σ' H' e' S' => ev_var S' rfl) fun pd vs3 σ3 H3 hpd e3 hl3 r3 S3 => ?_)
    · have := of_drop1 hx
      exact (et_test (ev_eq (ev_mod (ev_intI (ev_var S' (k := 2) rfl)) (ev_var S' (k := 11) rfl) (by omega)) ev_int)).to (mod_b v.length x)
    have S3 : Sl K σ3 H3 [.ref a, .dat (tI v), .dat (.int (v.length : Int)), .dat (.bool (lsilent v)), .ref pd, .un, .un, .un, .un, .un, .un, .un] := S3
    have e13 := (e1.trans e2).trans e3
    have f3 := hf.same e13
    have hmem : ∀ k, k ∈ ((List.range (v.length + 1)).drop 1).filter (fun k => v.length % k == 0) ↔ (1 ≤ k ∧ k ≤ v.length) ∧ v.length % k = 0 := fun k => by
      rw [List.mem_filter, beq_iff_eq]
      constructor
      · rintro ⟨h1, h2⟩
        have := of_drop1 h1
        exact ⟨by omega, h2⟩
      · rintro ⟨h1, h2⟩
        exact ⟨mem_drop1 h1.1 (by omega), h2⟩
    refine sq (st_asgC S3 (call_M (as := [a, pd]) (ds := []) (ex_cons (ev_ref S3 rfl) (ex_cons (ev_ref S3 rfl) (ex_nil ea_nil))) fun H4 e4 => ⟨a, pd, _, ⟨?_, ?_⟩, f3.same e4, ⟨vs3, SqL.of (e4 _ _ hl3), r3.same e4⟩, rfl, rfl, fun v5 d5 H5 hd5 s5 f5 r5 => ?_⟩))
    · intro z
      have h1 := (hmem v.length).mpr ⟨⟨hnb.1, Nat.le_refl _⟩, Nat.mod_self _⟩
      rw [List.map_eq_nil_iff] at z
      rw [z] at h1
      cases h1
    · rw [List.length_map]
      have := List.length_filter_le (fun k => v.length % k == 0) ((List.range (v.length + 1)).drop 1)
      rw [List.length_drop, List.length_range] at this
      omega
    obtain ⟨k, hk, rfl⟩ := List.mem_map.mp hd5
    have hk := (hmem k).mp hk
    obtain ⟨hks, hsk⟩ := fold_silent hn.1 hn.2.1 (v := v) rfl hk.1 hk.2
    have kp35 : Kp K H3 H5 := (Same.kp e4).trans ((f3.same e4).kp s5)
    have S5 : Sl K _ H5 [.ref a, .dat (tI v), .dat (.int (v.length : Int)), .dat (.bool (lsilent v)), .ref pd, .dat (.int (k : Int)), .un, .un, .un, .un, .un, .un] := (S3.kp kp35).setD 5 r5
    have rd5 : RdL K H5 pd ((((List.range (v.length + 1)).drop 1).filter fun k => v.length % k == 0).map fun (k : Nat) => .int (k : Int)) := RdL.kp kp35 ⟨vs3, SqL.of hl3, r3⟩
    obtain ⟨q, hq⟩ : ∃ q, v.length = q * k := ⟨v.length / k, (Nat.div_mul_cancel (Nat.dvd_of_mod_eq_zero hk.2)).symm⟩
    have hq1 : 1 ≤ q := by
      cases q with
      | zero => omega
      | succ q => omega
    have hfl : (foldL v k).length = k := by simp [foldL]
    dsimp only
    refine sq (st_set (d := tI (foldL v k)) S5 ((ev_tupleOf (EvL.r (el_lc0 (xs := List.range k) (enc := fun b => .int ((b : Nat) : Int)) (f := fun b => .int (((List.range (v.length / k)).map fun t => v.getD (b + t * k) 0).sum)) S5 (wk_rng1 (n := (k : Int)) (ea_cons (ev_var S5 (k := 5) rfl) ea_nil) (by omega) (rng_d0 k (by omega))).same (fun x _ => tg_name) (by simp; omega) fun b hb σ' H' e' S' => ?_))).to (by unfold foldL tI; rw [List.map_map]; rfl)) fun σ6 H6 e6 S6 => ?_)
    · have hb := List.mem_range.mp hb
      have hdiv : v.length / k = q := by rw [hq]; exact Nat.mul_div_cancel _ (by omega)
      refine (ev_sumT (ns := stepV v b k) (ev_stepT (ev_var S' (k := 1) rfl) (ev_var S' (k := 11) rfl) (ev_var S' (k := 5) rfl) (by omega) hk.1.1)).to ?_
      rw [hdiv, stepV_even hq hb]
      rfl
    have S6 : Sl K σ6 H6 [.ref a, .dat (tI v), .dat (.int (v.length : Int)), .dat (.bool (lsilent v)), .ref pd, .dat (.int (k : Int)), .dat (tI (foldL v k)), .un, .un, .un, .un, .un] := S6
    refine sq (st_if (b := false) ((et_or (b := false) (c := false) ((et_test (ev_neD (ev_call (ea_cons (ev_var S6 (k := 1) rfl) (ea_cons (ev_var S6 (k := 5) rfl) ea_nil)) ⟨v, k, q, ⟨hk.1.1, by omega, hq, hq1⟩, rfl, rfl⟩) (ev_var S6 (k := 6) rfl) (shp_tI _) (shp_tI _))).to (by rw [eqv_tI]; rfl)) fun _ => (et_test (ev_neB (ev_call (ea_cons (ev_var S6 (k := 1) rfl) (ea_cons (ev_var S6 (k := 5) rfl) ea_nil)) ⟨v, k, ⟨by omega, size_sub hks, hk.1.1, hk.2⟩, rfl, rfl⟩) (ev_call (ea_cons (ev_var S6 (k := 6) rfl) ea_nil) ⟨foldL v k, by rw [hfl]; exact hks, rfl, rfl⟩))).to (by rw [hsk]; simp)).to rfl) (fun z => nomatch z) fun _ H7 e7 => ?_)
    have S7 := S6.same e7
    have b7 : Sb a H H7 := (Same.sb e13).trans ((Same.sb e4).trans (s5.trans (Same.sb (e6.trans e7))))
    have f7 := f5.same (e6.trans e7)
    have hT7 : Tabs TT H7 := tabs_sb hT hf b7
    have rd7 := rd5.same (e6.trans e7)
    -- what is left, behind the call
    have fin : ∀ H8, ExtN H7 H8 → Tabs TT H8 → True := fun _ _ _ => True.intro
    unfold tNext
    dsimp only
    refine st_ifHS (K := K) ?_
    have hfs : silentB (foldL v k) (foldL v k).length = lsilent (foldL v k) := by
      have := rest_lrest hks hfl
      unfold silentB lsilent
      rw [hfl, this]
    refine heard_any (i := 6) S7 rfl hT7 (by rw [hfl]; exact hks) fun r x d8 H8 e8 t8 h8 r8 => ?_
    obtain ⟨y8, hy8⟩ : ∃ y8 : Str, (if silentB (foldL v k) (foldL v k).length = true then ("got" : Str) else "rest") = y8 := ⟨_, rfl⟩
    rw [hy8] at h8
    have hyy : Shw (.str y8) := by
      rw [← hy8]
      split
      · exact shw_got
      · exact shw_rest
    have rt : Dt H8 (.ref r) (.tuple [.str y8, d8]) := .tup h8 (.cons (.str _) (.cons r8 .nil))
    have S8 := S7.kp (extN_kp e8)
    refine st_if (b := false) ((et_test (ev_neS (ev_repr (d := .str y8) (ev_ixT (k := 0) (ev_cD rt) ev_int rfl rfl) (.inl ⟨_, rfl⟩) hyy) (ev_repr (d := .str y8) (ev_if (et_B (ev_call (ea_cons (ev_var S8 (k := 6) rfl) ea_nil) ⟨foldL v k, by rw [hfl]; exact hks, rfl, rfl⟩)) (fun hb => ev_str.to ?_) fun hb => ev_str.to ?_) (.inl ⟨_, rfl⟩) hyy))).to (by simp)) (fun z => nomatch z) fun _ H9 e9 => ?_
    · rw [← hy8, hfs, hb]
      rfl
    · rw [← hy8, hfs, hb]
      rfl
    dsimp only
    have S9 : Sl K σ6 H9 [.ref a, .dat (tI v), .dat (.int (v.length : Int)), .dat (.bool (lsilent v)), .ref pd, .dat (.int (k : Int)), .dat (tI (foldL v k)), .un, .un, .un, .un, .un] := S8.same e9
    have x79 : ExtN H7 H9 := e8.trans (ExtN.of e9)
    have f9 : FeedOk H9 a := feed_ext f7 x79
    have t9 : Tabs TT H9 := t8.ext e9
    have rd9 := rd7.kp (extN_kp x79)
    refine sq (st_setN S9 (el_call (ea_cons (ev_var S9 (k := 2) rfl) ea_nil) ⟨v.length, hnb, rfl, rfl⟩) fun pp vs10 σ10 H10 hpp e10 hl10 r10 S10 => ?_)
    have S10 : Sl K σ10 H10 [.ref a, .dat (tI v), .dat (.int (v.length : Int)), .dat (.bool (lsilent v)), .ref pd, .dat (.int (k : Int)), .dat (tI (foldL v k)), .ref pp, .un, .un, .un, .un] := S10
    have done : ∀ H', Sb a H10 H' → FeedOk H' a → Tabs TT H' → Q (.bl true) H' := fun H' s' f' t' => kk H' (fun b o nb hb nt => s' b o nb (e10 _ _ (x79 b o (b7 b o nb hb) nt))) f' t'
    have t10 : Tabs TT H10 := t9.ext e10
    have f10 := f9.same e10
    refine sq (st_if (b := decide (polysL v.length = [])) ((et_test (ev_eqNil (EvX.r (ev_ref S10 (k := 7) rfl) ⟨vs10, SqL.of hl10, r10⟩) ?_)).to (by simp)) (fun hb H11 e11 => ?_) fun hb H11 e11 => ?_)
    · have := shp_pairs ((polysL v.length).map fun x => ((x.1 : Int), (x.2 : Int)))
      rw [List.map_map] at this
      exact this
    · exact st_ret ev_bl fun w H12 e12 r12 => by
        rw [r12.bl']
        exact done H12 (Same.sb (e11.trans e12)) (f10.same (e11.trans e12)) (t10.ext (e11.trans e12))
    have S11 := S10.same e11
    have f11 := f10.same e11
    dsimp only
    refine sq (st_asgX (call_M (as := [a, pp]) (ds := []) (ex_cons (ev_ref S11 (k := 0) rfl) (ex_cons (ev_ref S11 (k := 7) rfl) (ex_nil ea_nil))) fun H12 e12 => ⟨a, pp, _, ⟨?_, ?_⟩, f11.same e12, ⟨vs10, SqL.of ((e11.trans e12) _ _ hl10), r10.same (e11.trans e12)⟩, rfl, rfl, fun v13 d13 H13 hd13 s13 f13 r13 => ?_⟩))
    · rw [Ne, List.map_eq_nil_iff]
      simpa using hb
    · rw [List.length_map]
      exact polys_len' hnb.1 hnb.2
    obtain ⟨⟨pr, fr⟩, hpf, rfl⟩ := List.mem_map.mp hd13
    obtain ⟨hprm, hfr⟩ : pr ∈ primesL v.length ∧ fr < v.length / pr := by
      unfold polysL at hpf
      obtain ⟨p', hp', hx⟩ := List.mem_flatMap.mp hpf
      obtain ⟨f', hf', e⟩ := List.mem_map.mp hx
      cases e
      exact ⟨hp', List.mem_range.mp hf'⟩
    have hpr := mem_primes hprm
    have kp13 : Kp K H11 H13 := (Same.kp e12).trans ((f11.same e12).kp s13)
    have sb13 : Sb a H10 H13 := (Same.sb (e11.trans e12)).trans s13
    have t13 : Tabs TT H13 := tabs_sb t10 f10 sb13
    refine (tg_two (d1 := .int (pr : Int)) (d2 := .int (fr : Int)) (tg_name (K := K) (n := 8)) (tg_name (n := 9))) v13 _ H13 _ _ (S11.kp kp13) r13 fun σ14 S14 _ _ => ?_
    have S14 : Sl K σ14 H13 [.ref a, .dat (tI v), .dat (.int (v.length : Int)), .dat (.bool (lsilent v)), .ref pd, .dat (.int (k : Int)), .dat (tI (foldL v k)), .ref pp, .dat (.int (pr : Int)), .dat (.int (fr : Int)), .un, .un] := S14
    have rd13 := (rd9.same (e10.trans e11)).kp kp13
    have hdiv : ((v.length : Int) / (pr : Int)) = ((v.length / pr : Nat) : Int) := by norm_cast
    have hps := poly_silences hn.1 hn.2.1 hprm hfr
    obtain ⟨L, hL⟩ : ∃ L, ((((List.range (v.length + 1)).drop 1).filter fun k => v.length % k == 0).filter fun k => !((v.length / pr) % k == 0)) = L := ⟨_, rfl⟩
    rw [hL] at hps
    have hLm : ∀ k ∈ L, k ≤ 36 := fun k hk => by
      rw [← hL] at hk
      have := (hmem k).mp (List.mem_filter.mp hk).1
      omega
    have hLl : L.length ≤ 36 := by
      rw [← hL]
      refine Nat.le_trans (List.length_filter_le _ _) (Nat.le_trans (List.length_filter_le _ _) ?_)
      rw [List.length_drop, List.length_range]
      omega
    have hLs : Shw (tI (zs L)) := shw_tI (by unfold zs; rw [List.length_map]; omega) fun x hx => by
      unfold zs at hx
      obtain ⟨k, hk, rfl⟩ := List.mem_map.mp hx
      exact log2_of (k := 64) (by have := hLm k hk; omega) (by decide)
    dsimp only
    refine sq (st_set (d := tI (zs L)) S14 ((ev_tupleOf (EvL.r (el_lc (xs := ((List.range (v.length + 1)).drop 1).filter fun k => v.length % k == 0) (enc := fun k => .int ((k : Nat) : Int)) (p := fun k => !((v.length / pr) % k == 0)) (f := fun k => .int ((k : Nat) : Int)) S14 (wk_list (EvX.r (ev_ref S14 (k := 4) rfl) rd13)).kp (fun x _ => tg_name) (Nat.le_trans (List.length_filter_le _ _) (by rw [List.length_drop, List.length_range]; omega)) (fun x hx σ' H' e' S' => ?_) fun x hx _ σ' H' e' S' => ev_var S' rfl))).to (by rw [hL]; unfold zs tI; rw [List.map_map]; rfl)) fun σ15 H15 e15 S15 => ?_)
    · have := (hmem x).mp hx
      refine (et_test (ev_ne (ev_mod (ev_intI ((ev_div (ev_var S' (k := 2) rfl) (ev_var S' (k := 8) rfl) ⟨by omega, by omega⟩).to (by rw [hdiv]))) (ev_var S' (k := 11) rfl) (by omega)) ev_int)).to (by rw [mod_b])
    · refine st_ret (ev_eqS (ev_repr (d := tI (zs L)) ((ev_call (d := tI (zs (silencesL (vbeats v.length (polyBeats v.length pr fr))))) (ea_cons (ev_call (ea_cons (ev_var S15 (k := 2) rfl) (ea_cons (ev_var S15 (k := 8) rfl) (ea_cons (ev_var S15 (k := 9) rfl) ea_nil))) ⟨v.length, pr, fr, ⟨hnb.1, hnb.2, hprm, hfr⟩, rfl, rfl⟩) ea_nil) ⟨vbeats v.length (polyBeats v.length pr fr), ?_, rfl, rfl⟩).to ?_) (.inr ⟨_, rfl⟩) hLs) (ev_repr (d := tI (zs L)) (ev_var S15 (k := 10) rfl) (.inr ⟨_, rfl⟩) hLs)) fun w H16 e16 r16 => ?_
      · rw [show silencesL (vbeats v.length (polyBeats v.length pr fr)) = L from hps]
      · dsimp only
        rw [r16.bl', decide_eq_true rfl]
        have e1516 := e15.trans e16
        exact done H16 (sb13.trans (Same.sb e1516)) (f13.same e1516) (t13.ext e1516)
      · rw [show (vbeats v.length (polyBeats v.length pr fr)).length = v.length by simp [vbeats]]
        exact hsub
end
end SB
namespace SB
open PySem PySem.Spec PyProof.Rows L2 RZ
open StX (tStar pa_star)
open LamX
section
variable {P : Program} {w : World} {K : PySem.W.Frag} {mg : Str → Option Value} {base : Heap}
theorem tt_or {t u : TT} {σ : L2.St} {H : Hp} {Q : Bool → Hp → Prop} (h : t σ H (fun c H1 => if c = true then Q true H1 else u σ H1 Q)) : tOr t u σ H Q := h
theorem tt_and {t u : TT} {σ : L2.St} {H : Hp} {Q : Bool → Hp → Prop} (h : t σ H (fun c H1 => if c = true then u σ H1 Q else Q false H1)) : tAnd t u σ H Q := h
theorem tt_notB {te : TE} {σ : L2.St} {H : Hp} {Q : Bool → Hp → Prop} (h : te σ H (fun x H1 => ∃ k, x = .bl k ∧ Q (!k) H1)) : tNot (tB te) σ H Q := h
theorem ev_isnotB {σ : L2.St} {H : Hp} {ta tb : TE} {x y : Bool} (ha : EvD ta σ H (.bool x)) (hb : EvD tb σ H (.bool y)) : EvD (tOp (fun x y H Q => ∃ a b, x = .bl a ∧ y = .bl b ∧ Q (.bl (!decide (a = b))) H) ta tb) σ H (.bool (!decide (x = y))) := fun H1 e Q q =>
  ha H1 e _ fun v H2 e2 r2 => hb H2 (e.trans e2) _ fun w H3 e3 r3 => ⟨x, y, r2.bl', r3.bl', q _ H3 (e2.trans e3) (.bl _)⟩
theorem abs_sum : ∀ w : List Int, 0 ≤ (w.map fun y => if y < 0 then -y else y).sum ∧ ∀ y ∈ w, -(w.map fun y => if y < 0 then -y else y).sum ≤ y ∧ y ≤ (w.map fun y => if y < 0 then -y else y).sum
  | [] => ⟨Int.le_refl _, fun y hy => nomatch hy⟩
  | x :: w => by
    have ih := abs_sum w
    rw [List.map_cons, List.sum_cons]
    refine ⟨?_, fun y hy => ?_⟩
    · split <;> omega
    · rcases List.mem_cons.mp hy with z | z
      · subst z
        split <;> omega
      · have := ih.2 y z
        split <;> omega
theorem abs_top {b : Nat} : ∀ w : List Int, (∀ y ∈ w, -(b : Int) ≤ y ∧ y ≤ b) → (w.map fun y => if y < 0 then -y else y).sum ≤ ((w.length * b : Nat) : Int)
  | [], _ => by simp
  | x :: w, h => by
    have ih := abs_top w fun y hy => h y (List.mem_cons_of_mem _ hy)
    have hx := h x List.mem_cons_self
    rw [List.map_cons, List.sum_cons, List.length_cons, Nat.succ_mul]
    push_cast at *
    split <;> omega
theorem st_pickC {te : TE} {D : Ends} {σ : L2.St} {H : Hp} {i : Nat} (C : V → Hp → Prop) (h : ∀ Q : VK, (∀ v H1, C v H1 → Q v H1) → te σ H Q) (k : ∀ v H1, C v H1 → D.nx (σ.set i (some v)) H1) : tAsg te (gName i) D σ H := h _ k
theorem st_ifC {c : TT} {t u : TS} {D : Ends} {σ : L2.St} {H : Hp} (C : Hp → Prop) (h : ∀ Q : Bool → Hp → Prop, (∀ H1, C H1 → Q false H1) → c σ H Q) (k : ∀ H1, C H1 → u D σ H1) : tIfS c t u D σ H := h _ fun H1 h1 => by
  exact (if_neg Bool.false_ne_true).mpr (k H1 h1)
abbrev s_law : Stmt := topS 109
theorem sc_law : FnScope ["_law_script", "_law_feed_here", "_law_lap", "_law_size", "_law_voice_here", "_law_least", "_law_late", "_law_weight"] ["_law_script"] (defScope s_law) := ⟨rfl, rfl, rfl, by decide +kernel, rfl, by decide +kernel, by decide +kernel⟩
theorem ok_law {f c Pt C : Addr} {fd : FuncData} {TT : List (Addr × Str)} (F : FunC K "law" s_law c f fd) (T : Txt K mg) (G__law_feed : Fn P w K mg base "_law_feed" 1 ["_law_script"] (sp__law_feed K)) (G__law_pick : Fn P w K mg base "_law_pick" 2 ["_law_feed_here", "_law_things"] (sp__law_pick K)) (G__law_drawn : Fn P w K mg base "_law_drawn" 4 ["_law_feed_here", "_law_size"] sp__law_drawn) (G__law_with_silences : FnG P w K mg base "_law_with_silences" 13 ["_law_feed_here", "_law_voice_here"] (sp__law_with_silences K TT)) (G__law_voice_right : FnG P w K mg base "_law_voice_right" 13 ["_law_voice_here"] (sp__law_voice_right K TT)) (G__law_primes : Fn P w K mg base "_law_primes" 1 ["_law_size"] sp__law_primes) (G__law_is_silent : Fn P w K mg base "_law_is_silent" 4 ["_law_voice_here"] sp__law_is_silent) (G_is_heap : Fn P w K mg base "is_heap" 9 ["voice"] sp_is_heap) : FnOkG P w K mg base CX0 14 f fd ["_law_script"] (sp_law K TT) := by
  refine F.okG sc_law (fun vs H Q E h => ?_) (fun A outer s H vs Q E hgu hr h => ?_)
  · obtain ⟨a, ns, rfl, _⟩ := h
    rfl
  · obtain ⟨sc, ns, rfl, hs, hT, kk⟩ := h
    have hu := hu_of hr
    have S : Sl K (L2.start ["_law_script", "_law_feed_here", "_law_lap", "_law_size", "_law_voice_here", "_law_least", "_law_late", "_law_weight"] [.ref sc]) H [.ref sc, .un, .un, .un, .un, .un, .un, .un] := Sl.start (N := ["_law_script", "_law_feed_here", "_law_lap", "_law_size", "_law_voice_here", "_law_least", "_law_late", "_law_weight"]) (xs := [.ref sc]) rfl fun i v x h1 h2 => by
      match i with
      | 0 => cases h1; cases h2; rfl
      | i + 1 => cases h1
    refine ⟨_, PSs.nox (pss_cons (ps_set (i := 1) sc_law.nd rfl (Or.inl rfl) (pe_fn G__law_feed (hr.mono (by decide)) (by rfl) (pa_cons (pv 0) pa_nil)))
    (pss_cons (ps_for PassesOwn.never rfl (pi_range1 (by rfl) T.range (pa_cons pe_int pa_nil)) (pg_name (i := 2) sc_law.nd rfl (Or.inl rfl)) 
      (pss_cons (ps_set (i := 3) sc_law.nd rfl (Or.inl rfl) (pe_fn G__law_pick (hr.mono (by decide)) (by rfl) (pa_cons (pv 1) (pa_cons (pe_lst (pa_cons pe_int (pa_cons pe_int (pa_cons pe_int (pa_cons pe_int (pa_cons pe_int (pa_cons pe_int (pa_cons pe_int (pa_cons pe_int (pa_cons pe_int (pa_cons pe_int (pa_cons pe_int (pa_cons pe_int (pa_cons pe_int (pa_cons pe_int (pa_cons pe_int (pa_cons pe_int (pa_cons pe_int (pa_cons pe_int pa_nil))))))))))))))))))) pa_nil))))
      (pss_cons (ps_set (i := 3) sc_law.nd rfl (Or.inl rfl) (pe_ifExp (pt_cmpR op_lt (pv 2) pe_int (nomark _)) (pv 3) (pe_fn G__law_pick (hr.mono (by decide)) (by rfl) (pa_cons (pv 1) (pa_cons (pe_lst (pa_cons (pv 3) (pa_cons pe_int (pa_cons pe_int (pa_cons pe_int (pa_cons pe_int (pa_cons pe_int (pa_cons pe_int (pa_cons pe_int (pa_cons pe_int (pa_cons pe_int pa_nil))))))))))) pa_nil)))))
      (pss_cons (ps_set (i := 4) sc_law.nd rfl (Or.inl rfl) (pe_fn G__law_drawn (hr.mono (by decide)) (by rfl) (pa_cons (pv 1) (pa_cons (pv 3) pa_nil))))
      (pss_cons (ps_if (PW.pt (pw_or (pt_not (pt_val (pe_fnG G__law_voice_right hgu (hr.mono (by decide)) (by rfl) (pa_cons (pv 4) pa_nil)))) (pw_or1 (PW.pt (pw_and (pt_cmpR op_lt (pv 2) pe_int (nomark _)) (pw_and1 (pt_not (pt_val (pe_fnG G__law_with_silences hgu (hr.mono (by decide)) (by rfl) (pa_cons (pv 1) (pa_cons (pv 4) pa_nil))))))))))) 
        (pss_one (ps_ret pe_bl))
        pss_nil)
      (pss_one (ps_if (PW.pt (pw_and (pt_cmpR op_gt (pv 3) pe_int (nomark _)) (pw_and (pt_val (pe_fn G__law_is_silent (hr.mono (by decide)) (by rfl) (pa_cons (pv 4) pa_nil))) (pw_and1 (pt_cmpR op_lt (pe_callB (k_call_len_seq K) (by rfl) T.len PySem.boot_len (pa_cons (pe_fn G__law_primes (hr.mono (by decide)) (by rfl) (pa_cons (pv 3) pa_nil)) pa_nil)) pe_int (nomark _)))))) 
        (pss_cons (ps_set (i := 5) sc_law.nd rfl (Or.inr rfl) (pe_op op_mul pe_int (pe_callB (k_cr_sum K rfl) (by rfl) T.sum (by decide +kernel) (pa_cons (pe_lc (own := [("_law_weight", 7)]) rfl sc_law.nd (k_pi_tup K (pv 4)) (blkOk_by (by kernel_rfl)) (fun _ _ _ _ _ => (pg_name (i := 7) sc_law.nd rfl (Or.inl rfl))) (fun _ _ _ _ _ => pts_nil) (fun _ _ _ _ _ => (pe_callB call_abs (by rfl) T.abs (by decide +kernel) (pa_cons (pv 7) pa_nil)))) pa_nil))))
        (pss_cons (ps_set (i := 6) sc_law.nd rfl (Or.inl rfl) (pe_callTy (k_call_tuple_of K) (by rfl) T.tuple (by decide +kernel) (pa_cons (pe_lc (own := [("_law_weight", 7)]) rfl sc_law.nd (k_pi_tup K (pv 4)) (blkOk_by (by kernel_rfl)) (fun _ _ _ _ _ => (pg_name (i := 7) sc_law.nd rfl (Or.inl rfl))) (fun _ _ _ _ _ => pts_nil) (fun _ _ _ _ _ => (pe_op op_add (pv 7) (pv 5)))) pa_nil)))
        (pss_one (ps_if (PW.pt (pw_and (pt_cmpR op_lt (pv 5) pe_int (nomark _)) (pw_and1 (pt_cmpR op_isnot_bl (pe_fn G_is_heap (hr.mono (by decide)) (by rfl) (pa_cons (pv 6) pa_nil)) pe_bl (nomark _))))) 
          (pss_one (ps_ret pe_bl))
          pss_nil))))
        pss_nil)))))))
    (pss_one (ps_ret pe_bl)))), ?_⟩
    refine sq (st_asgC S (call_M (as := [sc]) (ds := []) (ex_cons (ev_ref S rfl) (ex_nil ea_nil)) fun H1 e1 => ⟨sc, ns, rfl, rfl, hs.same e1, fun a H2 ha e2 f2 => ?_⟩))
    have S2 : Sl K _ H2 [.ref sc, .ref a, .un, .un, .un, .un, .un, .un] := (S.same (e1.trans e2)).setR 1 a
    have t2 : Tabs TT H2 := hT.ext (e1.trans e2)
    dsimp only
    refine sq (st_for (xs := List.range 3) (enc := fun k => .int ((k : Nat) : Int)) (wk_rng1 (n := 3) (ea_cons ev_int ea_nil) (by omega) (rng_d0 3 (by omega)))
      (fun H3 i σ' H' => FeedOk H3 a ∧ Sbn a H3 H' ∧ FeedOk H' a ∧ Tabs TT H' ∧ Sl K σ' H' [.ref sc, .ref a, .un, .un, .un, .un, .un, .un])
      (fun H3 e3 => ⟨f2.same e3, Sbn.refl _, f2.same e3, t2.ext e3, S2.same e3⟩) (fun H3 i σ' H' _ h => h.2.1.tp h.1) ?_ ?_)
    · rintro H3 i x σ' H' v H4 e3 hx ⟨f3, s4, f4, t4, S4⟩ e5 rv
      have hi : i < 3 ∧ x = i := by
        obtain ⟨h1, h2⟩ := List.getElem?_eq_some_iff.mp hx
        rw [List.getElem_range] at h2
        exact ⟨by simpa using h1, h2.symm⟩
      obtain ⟨hi, rfl⟩ := hi
      have S5 : Sl K _ H4 [.ref sc, .ref a, .dat (.int (x : Int)), .un, .un, .un, .un, .un] := (S4.same e5).setD 2 rv
      have f5 := f4.same e5
      refine sq (st_asgC S5 ?_)
      refine call_go (ta_cons (ev_ref S5 (k := 1) rfl H4 (Same.refl _) _ fun H6 e6 => ta_cons ?_))
      refine ((el_lst (ea_cons ev_int (ea_cons ev_int (ea_cons ev_int (ea_cons ev_int (ea_cons ev_int (ea_cons ev_int (ea_cons ev_int (ea_cons ev_int (ea_cons ev_int (ea_cons ev_int (ea_cons ev_int (ea_cons ev_int (ea_cons ev_int (ea_cons ev_int (ea_cons ev_int (ea_cons ev_int (ea_cons ev_int (ea_cons ev_int ea_nil)))))))))))))))))) (by simp)).to (es := ([1, 2, 3, 4, 6, 6, 8, 9, 10, 12, 12, 15, 18, 20, 24, 30, 30, 36] : List Int).map .int) rfl) H6 e6 _ fun p vs H7 hp e7 h7 r7 => ta_nil ?_
      refine ⟨[a, p], [], [], rfl, .nil, a, p, _, ⟨by simp, by simp⟩, f5.same (e6.trans e7), ⟨vs, SqL.of h7, r7⟩, rfl, rfl, fun v8 d8 H8 hd8 s8 f8 r8 => ?_⟩
      have e57 := (e5.trans e6).trans e7
      obtain ⟨n0, hn0, rfl⟩ := List.mem_map.mp hd8
      obtain ⟨n, rfl, hn, hn36⟩ : ∃ n : Nat, n0 = (n : Int) ∧ n ∈ sizes ∧ n ≤ 36 := by
        have h : ∀ z ∈ ([1, 2, 3, 4, 6, 6, 8, 9, 10, 12, 12, 15, 18, 20, 24, 30, 30, 36] : List Int), z = (z.toNat : Int) ∧ z.toNat ∈ sizes ∧ z.toNat ≤ 36 := by decide
        exact ⟨n0.toNat, h n0 hn0⟩
      have b8 : Sbn a H3 H8 := s4.trans ((Same.sb e57).trans s8).sbn
      have t8 : Tabs TT H8 := tabs_sb (t4.ext e57) (f4.same e57) s8
      have S8 : Sl K _ H8 [.ref sc, .ref a, .dat (.int (x : Int)), .dat (.int (n : Int)), .un, .un, .un, .un] := ((S5.same (e6.trans e7)).kp ((f5.same (e6.trans e7)).kp s8)).setD 3 r8
      dsimp only
      refine sq (st_pickC (fun v9 H9 => ∃ m : Nat, v9 = .int (m : Int) ∧ m ∈ sizes ∧ (x < 2 → m ≤ 36) ∧ Sb a H8 H9 ∧ FeedOk H9 a) (fun Q' q => ?_) ?_)
      · refine et_test (ev_lt (ev_var S8 (k := 2) rfl) ev_int) H8 (Same.refl _) _ fun H9 e9 => ?_
        by_cases h2 : x < 2
        · refine (if_pos (by simp; omega)).mpr ?_
          exact ev_var S8 (k := 3) rfl H9 e9 _ fun v10 H10 e10 r10 => q v10 H10 ⟨n, r10.int', hn, fun _ => hn36, Same.sb (e9.trans e10), f8.same (e9.trans e10)⟩
        · refine (if_neg (by simp; omega)).mpr ?_
          refine call_go (ta_cons (ev_ref S8 (k := 1) rfl H9 e9 _ fun H10 e10 => ta_cons ?_))
          refine ((el_lst (ea_cons (ev_var S8 (k := 3) rfl) (ea_cons ev_int (ea_cons ev_int (ea_cons ev_int (ea_cons ev_int (ea_cons ev_int (ea_cons ev_int (ea_cons ev_int (ea_cons ev_int (ea_cons ev_int ea_nil)))))))))) (by simp)).to (es := ((n : Int) :: [42, 60, 70, 84, 90, 105, 110, 64, 97] : List Int).map .int) rfl) H10 (e9.trans e10) _ fun p2 vs2 H11 hp2 e11 h11 r11 => ta_nil ?_
          refine ⟨[a, p2], [], [], rfl, .nil, a, p2, _, ⟨by simp, by simp⟩, f8.same ((e9.trans e10).trans e11), ⟨vs2, SqL.of h11, r11⟩, rfl, rfl, fun v12 d12 H12 hd12 s12 f12 r12 => ?_⟩
          obtain ⟨m0, hm0, rfl⟩ := List.mem_map.mp hd12
          refine q v12 H12 ⟨m0.toNat, ?_, ?_, fun z => absurd z h2, (Same.sb ((e9.trans e10).trans e11)).trans s12, f12⟩
          · rw [r12.int']
            rcases List.mem_cons.mp hm0 with z | z
            · rw [z]; rfl
            · have h : ∀ z ∈ ([42, 60, 70, 84, 90, 105, 110, 64, 97] : List Int), z = (z.toNat : Int) := by decide
              rw [← h m0 z]
          · rcases List.mem_cons.mp hm0 with z | z
            · rw [z]; exact hn
            · have h : ∀ z ∈ ([42, 60, 70, 84, 90, 105, 110, 64, 97] : List Int), z.toNat ∈ sizes := by decide
              exact h m0 z
      · rintro _ H9 ⟨m, rfl, hm, hm36, s9, f9⟩
        have hmb := size_lt m hm
        have b9 : Sbn a H3 H9 := b8.trans s9.sbn
        have t9 : Tabs TT H9 := tabs_sb t8 f8 s9
        have S9 : Sl K _ H9 [.ref sc, .ref a, .dat (.int (x : Int)), .dat (.int (m : Int)), .un, .un, .un, .un] := (S8.kp (f8.kp s9)).setD 3 (.int _)
        dsimp only
        refine sq (st_asgC S9 (call_M (as := [a]) (ds := [.int (m : Int)]) (ex_cons (ev_ref S9 (k := 1) rfl) (ex_nil (ea_cons (ev_var S9 (k := 3) rfl) ea_nil))) fun H10 e10 => ⟨a, m, hm, f9.same e10, rfl, rfl, fun v11 w H11 hw hwb s11 f11 r11 => ?_⟩))
        subst hw
        have b11 : Sbn a H3 H11 := b9.trans ((Same.sb e10).trans s11).sbn
        have t11 : Tabs TT H11 := tabs_sb (t9.ext e10) (f9.same e10) s11
        have S11 : Sl K _ H11 [.ref sc, .ref a, .dat (.int (x : Int)), .dat (.int (w.length : Int)), .dat (tI w), .un, .un, .un] := ((S9.same e10).kp ((f9.same e10).kp s11)).setD 4 r11
        dsimp only
        refine sq (st_ifC (fun H12 => Sbn a H11 H12 ∧ FeedOk H12 a ∧ Tabs TT H12) (fun Q' q => ?_) ?_)
        · refine tt_or (tt_notB (call_go (ta_cons (ev_var S11 (k := 4) rfl H11 (Same.refl _) _ fun v12 H12 e12 r12 => ta_nil ⟨v12, w, rfl, r12, ⟨hm, fun y hy => by have := hwb y hy; omega⟩, t11.ext e12, fun H13 e13 t13 => ⟨true, rfl, ?_⟩⟩))))
          refine (if_neg (by decide)).mpr ?_
          have x13 := (ExtN.of e12).trans e13
          have f13 := feed_ext f11 x13
          have S13 := S11.kp (extN_kp x13)
          refine tt_and (et_test (ev_lt (ev_var S13 (k := 2) rfl) ev_int) H13 (Same.refl _) _ fun H14 e14 => ?_)
          have x14 := x13.trans (ExtN.of e14)
          by_cases h2 : x < 2
          · refine (if_pos (by simp; omega)).mpr ?_
            have S14 := S13.same e14
            refine tt_notB (call_go (ta_cons (ev_ref S14 (k := 1) rfl H14 (Same.refl _) _ fun H15 e15 => ta_cons (ev_var S14 (k := 4) rfl H15 e15 _ fun v16 H16 e16 r16 => ta_nil ⟨a, v16, w, rfl, f13.same ((e14.trans e15).trans e16), r16, ⟨hm, hm36 h2, hwb⟩, t13.ext ((e14.trans e15).trans e16), fun H17 s17 f17 t17 => ⟨true, rfl, ?_⟩⟩))))
            refine q H17 ⟨fun b o nb hb nt => s17 b o nb ((x14.trans (ExtN.of (e15.trans e16))) b o hb nt) nt, f17, t17⟩
          · refine (if_neg (by simp; omega)).mpr ?_
            exact q H14 ⟨fun b o nb hb nt => x14 b o hb nt, feed_ext f11 x14, t13.ext e14⟩
        · rintro H12 ⟨s12, f12, t12⟩
          have S12 := S11.kp (s12.kp f11)
          have b12 := b11.trans s12
          have done : ∀ σ'' H'', Sl K σ'' H'' [.ref sc, .ref a, .un, .un, .un, .un, .un, .un] → Same H12 H'' → FeedOk H3 a ∧ Sbn a H3 H'' ∧ FeedOk H'' a ∧ Tabs TT H'' ∧ Sl K σ'' H'' [.ref sc, .ref a, .un, .un, .un, .un, .un, .un] := fun σ'' H'' s e => ⟨f3, b12.trans (Same.sb e).sbn, f12.same e, t12.ext e, s⟩
          unfold tNext
          dsimp only
          refine st_if (b := decide (1 < (w.length : Int)) && (lsilent w && decide (((primesL w.length).length : Int) < 4))) (et_and (et_test (ev_gt (ev_var S12 (k := 3) rfl) ev_int)) fun _ => et_and (et_B (ev_call (ea_cons (ev_var S12 (k := 4) rfl) ea_nil) ⟨w, hm, rfl, rfl⟩)) fun _ => et_test (ev_lt ((ev_lenL (EvL.r (el_call (ea_cons (ev_var S12 (k := 3) rfl) ea_nil) ⟨w.length, hmb, rfl, rfl⟩))).to (by simp)) ev_int)) (fun hb H13 e13 => ?_) (fun hb H13 e13 => ?_)
          · have S13 := S12.same e13
            simp only [Bool.and_eq_true, decide_eq_true_eq] at hb
            obtain ⟨hb1, hb2, _⟩ := hb
            obtain ⟨M, hM⟩ : ∃ M, (w.map fun y => if y < 0 then -y else y).sum = M := ⟨_, rfl⟩
            have hM0 := abs_sum w
            rw [hM] at hM0
            have hMb : M ≤ 110000 := by
              have := abs_top (b := 1000) w fun y hy => by have := hwb y hy; omega
              rw [hM] at this
              have h3 : w.length * 1000 ≤ 110000 := by omega
              omega
            refine sq (st_set (n := 5) (d := .int (4 * M)) S13 (ev_mul ev_int ((ev_sum (ns := w.map fun y => if y < 0 then -y else y) (EvL.r ((el_lc0 (xs := w) (enc := fun y => .int y) (f := fun y => .int (if y < 0 then -y else y)) S13 (wk_tup (ev_var S13 (k := 4) rfl)).same (fun y _ => tg_name) (by omega) ?_).to (by rw [List.map_map]; rfl)))).to (by rw [hM])) (.inl (by omega))) fun σ14 H14 e14 S14 => ?_)
            · intro y hy σ' H' e' S'
              exact ev_abs (ev_var S' (k := 7) rfl)
            have S14 : Sl K σ14 H14 [.ref sc, .ref a, .dat (.int (x : Int)), .dat (.int (w.length : Int)), .dat (tI w), .dat (.int (4 * M)), .un, .un] := S14
            refine sq (st_set (n := 6) (d := tI (w.map fun y => y + 4 * M)) S14 ((ev_tupleOf (EvL.r (el_lc0 (xs := w) (enc := fun y => .int y) (f := fun y => .int (y + 4 * M)) S14 (wk_tup (ev_var S14 (k := 4) rfl)).same (fun y _ => tg_name) (by omega) ?_))).to (by unfold tI; rw [List.map_map]; rfl)) fun σ15 H15 e15 S15 => ?_)
            · intro y hy σ' H' e' S'
              exact ev_add (ev_var S' (k := 7) rfl) (ev_var S' (k := 5) rfl)
            have S15 : Sl K σ15 H15 [.ref sc, .ref a, .dat (.int (x : Int)), .dat (.int (w.length : Int)), .dat (tI w), .dat (.int (4 * M)), .dat (tI (w.map fun y => y + 4 * M)), .un] := S15
            have hll : (w.map fun y => y + 4 * M).length = w.length := List.length_map _
            refine st_if (b := false) ((et_and (c := false) (et_test (ev_lt (ev_var S15 (k := 5) rfl) ev_int)) fun _ => (et_test (ev_isnotB (ev_call (ea_cons (ev_var S15 (k := 6) rfl) ea_nil) ⟨w.map fun y => y + 4 * M, ⟨by rw [hll]; exact hm, ?_, ?_, M, hM0.1, ?_⟩, rfl, rfl⟩) ev_bl)).to (by decide)).to (by simp)) (fun z => nomatch z) fun _ H16 e16 => ?_
            · rw [List.any_eq_false]
              intro z hz
              obtain ⟨y, hy, rfl⟩ := List.mem_map.mp hz
              have := hM0.2 y hy
              simp
              omega
            · rw [← lsilent_silentB (by rw [hll]; exact hm)]
              exact late_silent hm (by omega) hb2 _
            · intro z hz
              obtain ⟨y, hy, rfl⟩ := List.mem_map.mp hz
              have := hM0.2 y hy
              omega
            · exact done _ _ (((((S15.same e16).weak 2).weak 3).weak 4).weak 5 |>.weak 6) (((e13.trans e14).trans e15).trans e16)
          · exact done _ _ ((((S12.same e13).weak 2).weak 3).weak 4) e13
    · rintro H3 σ' H' e3 h
      dsimp only
      refine st_ret ev_bl fun w H4 e4 r4 => ?_
      rw [r4.bl']
      exact kk H4
end
end SB
namespace SB
open PySem PySem.Spec PyProof.Rows L2 RZ
open StX (tStar pa_star)
open LamX
/-- where a def of the text stands behind the top -/
structure DefIn (K : PySem.W.Frag) (x : Str) (st : Stmt) (f : Addr) : Prop where
  nm : PySem.W.nsIn K mainGlobals x = some (some (.ref f))
  at' : ∃ (oc : Value) (od : Option Addr) (kV doc pm : Value) (an : Option Addr) (cd ct : Value) (osl : Array (Option Value)), K.lookup f = some ⟨oc, od, .func (PySem.W.fnOf x x (defArgs st) (defBody st) (defScope st) .none kV doc pm an cd ct), osl⟩ ∧ PySem.W.codeIn K cd x = true
  kp : PySem.W.keepIn K (.ref f) = true
/-- one that makes a lambda: its code object is told -/
structure DefInC (K : PySem.W.Frag) (x : Str) (st : Stmt) (c f : Addr) : Prop where
  nm : PySem.W.nsIn K mainGlobals x = some (some (.ref f))
  at' : ∃ (oc : Value) (od : Option Addr) (kV doc pm : Value) (an : Option Addr) (ct : Value) (osl : Array (Option Value)), K.lookup f = some ⟨oc, od, .func (PySem.W.fnOf x x (defArgs st) (defBody st) (defScope st) .none kV doc pm an (.ref c) ct), osl⟩ ∧ PySem.W.codeIn K (.ref c) x = true
  kp : PySem.W.keepIn K (.ref f) = true
section
variable {P : Program} {w : World} {K : PySem.W.Frag} {mg : Str → Option Value} {base h : Heap} {x : Str} {st : Stmt} {f c : Addr} {k : Nat} {ps : List Str} {sp : Sp}
theorem fn_at (KX : K.In h) (Gn : h.Ns mainGlobals mg) (d : DefIn K x st f) (ok : ∀ {fd : FuncData}, Fun K x x st f fd → FnOk P w K mg base CX0 k f fd ps sp)
    (hb : ∀ (kV doc pm : Value) (an : Option Addr) (cdv ct : Value) (us : List Value), us.length = ps.length → bindArgs (PySem.W.fnOf x x (defArgs st) (defBody st) (defScope st) .none kV doc pm an cdv ct) ⟨us, []⟩ = pure (ps.zip us)) : Fn P w K mg base x k ps sp := by
  obtain ⟨nm, ⟨oc, od, kV, doc, pm, an, cd, ct, osl, lk, hc⟩, kp⟩ := d
  have F : Fun K x x st f _ := fun_mk lk hc kp
  exact ⟨f, _, ok F, PySem.W.mg_of KX Gn nm, kp, F.binds hb⟩
theorem fnX_at (KX : K.In h) (Gn : h.Ns mainGlobals mg) (d : DefIn K x st f) (ok : ∀ {fd : FuncData}, Fun K x x st f fd → FnOk P w K mg base (L2.CX P w) k f fd ps sp)
    (hb : ∀ (kV doc pm : Value) (an : Option Addr) (cdv ct : Value) (us : List Value), us.length = ps.length → bindArgs (PySem.W.fnOf x x (defArgs st) (defBody st) (defScope st) .none kV doc pm an cdv ct) ⟨us, []⟩ = pure (ps.zip us)) : FnX P w K mg base x k ps sp := by
  obtain ⟨nm, ⟨oc, od, kV, doc, pm, an, cd, ct, osl, lk, hc⟩, kp⟩ := d
  have F : Fun K x x st f _ := fun_mk lk hc kp
  exact ⟨f, _, ok F, PySem.W.mg_of KX Gn nm, kp, F.binds hb⟩
theorem fnG_at (KX : K.In h) (Gn : h.Ns mainGlobals mg) (d : DefInC K x st c f) (ok : ∀ {fd : FuncData}, FunC K x st c f fd → FnOkG P w K mg base CX0 k f fd ps sp)
    (hb : ∀ (kV doc pm : Value) (an : Option Addr) (cdv ct : Value) (us : List Value), us.length = ps.length → bindArgs (PySem.W.fnOf x x (defArgs st) (defBody st) (defScope st) .none kV doc pm an cdv ct) ⟨us, []⟩ = pure (ps.zip us)) : FnG P w K mg base x k ps sp := by
  obtain ⟨nm, ⟨oc, od, kV, doc, pm, an, ct, osl, lk, hc⟩, kp⟩ := d
  have F : FunC K x st c f _ := ⟨⟨oc, od, kV, doc, pm, an, ct, osl, rfl, lk, hc⟩, kp⟩
  exact ⟨f, _, ok F, PySem.W.mg_of KX Gn nm, kp, F.binds hb⟩
end
/-- the plain defs, at any base -/
structure AllIn (P : Program) (K : PySem.W.Frag) (mg : Str → Option Value) (h : Heap) (C : Addr) : Prop where
  kin : K.In h
  gl : h.Ns mainGlobals mg
  txt : Txt K mg
  d_is_integer : ∃ f, DefIn K "is_integer" s_is_integer f
  d_is_tuple_of : ∃ f, DefIn K "is_tuple_of" s_is_tuple_of f
  d_least_divisor : ∃ f, DefIn K "least_divisor" s_least_divisor f
  d_common_in : ∃ f, DefIn K "common_in" s_common_in f
  d_divisors_in : ∃ f, DefIn K "divisors_in" s_divisors_in f
  d_polygon_beats : ∃ f, DefIn K "polygon_beats" s_polygon_beats f
  d_are_ascending : ∃ f, DefIn K "are_ascending" s_are_ascending f
  d_voice_by_heap : ∃ f, DefIn K "voice_by_heap" s_voice_by_heap f
  d_number_with : ∃ f, DefIn K "number_with" s_number_with f
  d_all_rests : ∃ f, DefIn K "all_rests" s_all_rests f
  d_stripped : ∃ f, DefIn K "stripped" s_stripped f
  d_around : ∃ f, DefIn K "around" s_around f
  d_padded : ∃ f, DefIn K "padded" s_padded f
  d_choices_from : ∃ f, DefIn K "choices_from" s_choices_from f
  d_rests_held : ∃ f, DefIn K "rests_held" s_rests_held f
  d_put_polygon : ∃ f, DefIn K "put_polygon" s_put_polygon f
  d_heap_by : ∃ f, DefIn K "heap_by" s_heap_by f
  d_is_low : ∃ f, DefIn K "is_low" s_is_low f
  d_parted : ∃ f, DefIn K "parted" s_parted f
  d_lows_of : ∃ f, DefIn K "lows_of" s_lows_of f
  d_bound_between : ∃ f, DefIn K "bound_between" s_bound_between f
  d_voice_by : ∃ f, DefIn K "voice_by" s_voice_by f
  d_fold_to : ∃ f, DefIn K "fold_to" s_fold_to f
  d__law_feed : ∃ f, DefIn K "_law_feed" s__law_feed f
  d__law_draw : ∃ f, DefIn K "_law_draw" s__law_draw f
  d__law_primes : ∃ f, DefIn K "_law_primes" s__law_primes f
  d__law_is_number : ∃ f, DefIn K "_law_is_number" s__law_is_number f
  d__law_spread : ∃ f, DefIn K "_law_spread" s__law_spread f
  d__law_divided : ∃ f, DefIn K "_law_divided" s__law_divided f
  d__law_voice : ∃ f, DefIn K "_law_voice" s__law_voice f
  d_is_number : ∃ f, DefIn K "is_number" s_is_number f
  d_is_size : ∃ f, DefIn K "is_size" s_is_size f
  d_is_prime : ∃ f, DefIn K "is_prime" s_is_prime f
  d_parts_in : ∃ f, DefIn K "parts_in" s_parts_in f
  d_totient_in : ∃ f, DefIn K "totient_in" s_totient_in f
  d_poly_of : ∃ f, DefIn K "poly_of" s_poly_of f
  d_poly_parted : ∃ f, DefIn K "poly_parted" s_poly_parted f
  d_settled : ∃ f, DefIn K "settled" s_settled f
  d__law_pick : ∃ f, DefIn K "_law_pick" s__law_pick f
  d__law_is_pair : ∃ f, DefIn K "_law_is_pair" s__law_is_pair f
  d__law_top : ∃ f, DefIn K "_law_top" s__law_top f
  d__law_polygons : ∃ f, DefIn K "_law_polygons" s__law_polygons f
  d_is_index : ∃ f, DefIn K "is_index" s_is_index f
  d_primes_in : ∃ f, DefIn K "primes_in" s_primes_in f
  d_primes_at : ∃ f, DefIn K "primes_at" s_primes_at f
  d_cyclotomic_in : ∃ f, DefIn K "cyclotomic_in" s_cyclotomic_in f
  d_folded : ∃ f, DefIn K "folded" s_folded f
  d_want_size : ∃ f, DefIn K "want_size" s_want_size f
  d_want_divisor : ∃ f, DefIn K "want_divisor" s_want_divisor f
  d__law_rest : ∃ f, DefIn K "_law_rest" s__law_rest f
  d__law_row_fault : ∃ f, DefIn K "_law_row_fault" s__law_row_fault f
  d__law_drawn_rows : ∃ f, DefIn K "_law_drawn_rows" s__law_drawn_rows f
  d_is_polygon_of : ∃ f, DefIn K "is_polygon_of" s_is_polygon_of f
  d_step_in : ∃ f, DefIn K "step_in" s_step_in f
  d_split_at : ∃ f, DefIn K "split_at" s_split_at f
  d_put_one : ∃ f, DefIn K "put_one" s_put_one f
  d__law_is_silent : ∃ f, DefIn K "_law_is_silent" s__law_is_silent f
  d__law_is_rows : ∃ f, DefIn K "_law_is_rows" s__law_is_rows f
  d__law_drawn : ∃ f, DefIn K "_law_drawn" s__law_drawn f
  d_is_heap_row : ∃ f, DefIn K "is_heap_row" s_is_heap_row f
  d_beat_with : ∃ f, DefIn K "beat_with" s_beat_with f
  d_rest_in : ∃ f, DefIn K "rest_in" s_rest_in f
  d_polygon : ∃ f, DefIn K "polygon" s_polygon f
  d_is_heap_of : ∃ f, DefIn K "is_heap_of" s_is_heap_of f
  d_is_silent_in : ∃ f, DefIn K "is_silent_in" s_is_silent_in f
  d_table_at : ∃ f, DefIn K "table_at" s_table_at f
  d_rest_at : ∃ f, DefIn K "rest_at" s_rest_at f
  d_silences_in : ∃ f, DefIn K "silences_in" s_silences_in f
  d_put_signed : ∃ f, DefIn K "put_signed" s_put_signed f
  d_put_two : ∃ f, DefIn K "put_two" s_put_two f
  d_put_three : ∃ f, DefIn K "put_three" s_put_three f
  d_is_silent : ∃ f, DefIn K "is_silent" s_is_silent f
  d_heap_voice : ∃ f, DefIn K "heap_voice" s_heap_voice f
  d_signed_by : ∃ f, DefIn K "signed_by" s_signed_by f
  d_plain_by : ∃ f, DefIn K "plain_by" s_plain_by f
  d_silences_of : ∃ f, DefIn K "silences_of" s_silences_of f
  d_is_heap : ∃ f, DefIn K "is_heap" s_is_heap f
  d_want_silent : ∃ f, DefIn K "want_silent" s_want_silent f
  d_signed_heap : ∃ f, DefIn K "signed_heap" s_signed_heap f
  want : ∃ f fd, FunD K "want" "want" (defArgs s_want) (defBody s_want) (defScope s_want) [.int (-1)] [] f fd ∧ mg "want" = some (.ref f)
  uns : ∀ (w : World) (base : Heap), Uns P w K mg base C
  hdf : HdF K mg C
section
variable {P : Program} {w : World} {K : PySem.W.Frag} {mg : Str → Option Value} {base h : Heap} {C : Addr}
theorem bind_want {f : Addr} {fd : FuncData} (F : FunD K "want" "want" (defArgs s_want) (defBody s_want) (defScope s_want) [.int (-1)] [] f fd) : ∃ ds, Vals [V.int (-1)] ds ∧ Binds K fd ["holds", "word", "at"] ds :=
  F.binds1 (ps := ["holds", "word", "at"]) 2 0 (by simp) rfl fun T kV doc pm an cdv ct us its hl hi => match us, its, hl, hi with | [_, _], [_], _, _ => ⟨_, rfl, rfl⟩
theorem at_want (A : AllIn P K mg h C) : FnW P w K mg base "want" 1 ["holds", "word", "at"] sp_want := by
  obtain ⟨f, fd, F, hm⟩ := A.want
  obtain ⟨ds, hv, hb⟩ := bind_want F
  exact ⟨f, fd, _, ds, ok_want F A.txt, hm, F.kp, hb, hv⟩
theorem at_is_integer (A : AllIn P K mg h C) : Fn P w K mg base "is_integer" 1 ["thing"] sp_is_integer := by
  obtain ⟨f, d⟩ := A.d_is_integer
  exact fn_at A.kin A.gl d (fun F => ok_is_integer F A.txt ) (fun _ _ _ _ _ _ us hl => match us, hl with | [_], _ => rfl)
theorem at_is_tuple_of (A : AllIn P K mg h C) : Fn P w K mg base "is_tuple_of" 1 ["thing", "many"] sp_is_tuple_of := by
  obtain ⟨f, d⟩ := A.d_is_tuple_of
  exact fn_at A.kin A.gl d (fun F => ok_is_tuple_of F A.txt ) (fun _ _ _ _ _ _ us hl => match us, hl with | [_, _], _ => rfl)
theorem at_least_divisor (A : AllIn P K mg h C) : Fn P w K mg base "least_divisor" 1 ["number"] sp_least_divisor := by
  obtain ⟨f, d⟩ := A.d_least_divisor
  exact fn_at A.kin A.gl d (fun F => ok_least_divisor F A.txt ) (fun _ _ _ _ _ _ us hl => match us, hl with | [_], _ => rfl)
theorem at_common_in (A : AllIn P K mg h C) : Fn P w K mg base "common_in" 1 ["one", "other"] sp_common_in := by
  obtain ⟨f, d⟩ := A.d_common_in
  exact fn_at A.kin A.gl d (fun F => ok_common_in F A.txt ) (fun _ _ _ _ _ _ us hl => match us, hl with | [_, _], _ => rfl)
theorem at_divisors_in (A : AllIn P K mg h C) : Fn P w K mg base "divisors_in" 1 ["number"] sp_divisors_in := by
  obtain ⟨f, d⟩ := A.d_divisors_in
  exact fn_at A.kin A.gl d (fun F => ok_divisors_in F A.txt ) (fun _ _ _ _ _ _ us hl => match us, hl with | [_], _ => rfl)
theorem at_polygon_beats (A : AllIn P K mg h C) : Fn P w K mg base "polygon_beats" 1 ["size", "prime", "first"] sp_polygon_beats := by
  obtain ⟨f, d⟩ := A.d_polygon_beats
  exact fn_at A.kin A.gl d (fun F => ok_polygon_beats F A.txt ) (fun _ _ _ _ _ _ us hl => match us, hl with | [_, _, _], _ => rfl)
theorem at_are_ascending (A : AllIn P K mg h C) : Fn P w K mg base "are_ascending" 1 ["things"] (sp_are_ascending K) := by
  obtain ⟨f, d⟩ := A.d_are_ascending
  exact fn_at A.kin A.gl d (fun F => ok_are_ascending F A.txt ) (fun _ _ _ _ _ _ us hl => match us, hl with | [_], _ => rfl)
theorem at_voice_by_heap (A : AllIn P K mg h C) : Fn P w K mg base "voice_by_heap" 1 ["size", "heap"] sp_voice_by_heap := by
  obtain ⟨f, d⟩ := A.d_voice_by_heap
  exact fn_at A.kin A.gl d (fun F => ok_voice_by_heap F A.txt ) (fun _ _ _ _ _ _ us hl => match us, hl with | [_, _], _ => rfl)
theorem at_number_with (A : AllIn P K mg h C) : Fn P w K mg base "number_with" 1 ["primes", "rests"] sp_number_with := by
  obtain ⟨f, d⟩ := A.d_number_with
  exact fn_at A.kin A.gl d (fun F => ok_number_with F A.txt ) (fun _ _ _ _ _ _ us hl => match us, hl with | [_, _], _ => rfl)
theorem at_all_rests (A : AllIn P K mg h C) : Fn P w K mg base "all_rests" 1 ["primes"] sp_all_rests := by
  obtain ⟨f, d⟩ := A.d_all_rests
  exact fn_at A.kin A.gl d (fun F => ok_all_rests F A.txt ) (fun _ _ _ _ _ _ us hl => match us, hl with | [_], _ => rfl)
theorem at_stripped (A : AllIn P K mg h C) : Fn P w K mg base "stripped" 1 ["numbers"] (sp_stripped K) := by
  obtain ⟨f, d⟩ := A.d_stripped
  exact fn_at A.kin A.gl d (fun F => ok_stripped F A.txt ) (fun _ _ _ _ _ _ us hl => match us, hl with | [_], _ => rfl)
theorem at_around (A : AllIn P K mg h C) : Fn P w K mg base "around" 1 ["number"] sp_around := by
  obtain ⟨f, d⟩ := A.d_around
  exact fn_at A.kin A.gl d (fun F => ok_around F A.txt ) (fun _ _ _ _ _ _ us hl => match us, hl with | [_], _ => rfl)
theorem at_padded (A : AllIn P K mg h C) : Fn P w K mg base "padded" 1 ["numbers", "size"] sp_padded := by
  obtain ⟨f, d⟩ := A.d_padded
  exact fn_at A.kin A.gl d (fun F => ok_padded F A.txt ) (fun _ _ _ _ _ _ us hl => match us, hl with | [_, _], _ => rfl)
theorem at_choices_from (A : AllIn P K mg h C) : Fn P w K mg base "choices_from" 1 ["many", "k"] sp_choices_from := by
  obtain ⟨f, d⟩ := A.d_choices_from
  exact fn_at A.kin A.gl d (fun F => ok_choices_from F A.txt ) (fun _ _ _ _ _ _ us hl => match us, hl with | [_, _], _ => rfl)
theorem at_rests_held (A : AllIn P K mg h C) : Fn P w K mg base "rests_held" 1 ["rests", "choice"] sp_rests_held := by
  obtain ⟨f, d⟩ := A.d_rests_held
  exact fn_at A.kin A.gl d (fun F => ok_rests_held F A.txt ) (fun _ _ _ _ _ _ us hl => match us, hl with | [_, _], _ => rfl)
theorem at_put_polygon (A : AllIn P K mg h C) : Fn P w K mg base "put_polygon" 1 ["counts", "size", "prime", "beat", "many"] sp_put_polygon := by
  obtain ⟨f, d⟩ := A.d_put_polygon
  exact fn_at A.kin A.gl d (fun F => ok_put_polygon F A.txt ) (fun _ _ _ _ _ _ us hl => match us, hl with | [_, _, _, _, _], _ => rfl)
theorem at_heap_by (A : AllIn P K mg h C) : Fn P w K mg base "heap_by" 1 ["counts"] sp_heap_by := by
  obtain ⟨f, d⟩ := A.d_heap_by
  exact fn_at A.kin A.gl d (fun F => ok_heap_by F A.txt ) (fun _ _ _ _ _ _ us hl => match us, hl with | [_], _ => rfl)
theorem at_is_low (A : AllIn P K mg h C) : Fn P w K mg base "is_low" 1 ["voice"] sp_is_low := by
  obtain ⟨f, d⟩ := A.d_is_low
  exact fn_at A.kin A.gl d (fun F => ok_is_low F A.txt ) (fun _ _ _ _ _ _ us hl => match us, hl with | [_], _ => rfl)
theorem at_parted (A : AllIn P K mg h C) : Fn P w K mg base "parted" 1 ["table", "p", "q"] sp_parted := by
  obtain ⟨f, d⟩ := A.d_parted
  exact fn_at A.kin A.gl d (fun F => ok_parted F A.txt ) (fun _ _ _ _ _ _ us hl => match us, hl with | [_, _, _], _ => rfl)
theorem at_lows_of (A : AllIn P K mg h C) : Fn P w K mg base "lows_of" 1 ["table", "primes"] sp_lows_of := by
  obtain ⟨f, d⟩ := A.d_lows_of
  exact fn_at A.kin A.gl d (fun F => ok_lows_of F A.txt ) (fun _ _ _ _ _ _ us hl => match us, hl with | [_, _], _ => rfl)
theorem at_bound_between (A : AllIn P K mg h C) : Fn P w K mg base "bound_between" 1 ["table", "lows", "q", "pair"] sp_bound_between := by
  obtain ⟨f, d⟩ := A.d_bound_between
  exact fn_at A.kin A.gl d (fun F => ok_bound_between F A.txt ) (fun _ _ _ _ _ _ us hl => match us, hl with | [_, _, _, _], _ => rfl)
theorem at_voice_by (A : AllIn P K mg h C) : Fn P w K mg base "voice_by" 1 ["size", "beats"] (sp_voice_by K) := by
  obtain ⟨f, d⟩ := A.d_voice_by
  exact fn_at A.kin A.gl d (fun F => ok_voice_by F A.txt ) (fun _ _ _ _ _ _ us hl => match us, hl with | [_, _], _ => rfl)
theorem at_fold_to (A : AllIn P K mg h C) : Fn P w K mg base "fold_to" 1 ["voice", "size"] sp_fold_to := by
  obtain ⟨f, d⟩ := A.d_fold_to
  exact fn_at A.kin A.gl d (fun F => ok_fold_to F A.txt ) (fun _ _ _ _ _ _ us hl => match us, hl with | [_, _], _ => rfl)
theorem at__law_feed (A : AllIn P K mg h C) : Fn P w K mg base "_law_feed" 1 ["_law_script"] (sp__law_feed K) := by
  obtain ⟨f, d⟩ := A.d__law_feed
  exact fn_at A.kin A.gl d (fun F => ok__law_feed F A.txt ) (fun _ _ _ _ _ _ us hl => match us, hl with | [_], _ => rfl)
theorem at__law_draw (A : AllIn P K mg h C) : Fn P w K mg base "_law_draw" 1 ["_law_feed_here", "_law_many"] sp__law_draw := by
  obtain ⟨f, d⟩ := A.d__law_draw
  exact fn_at A.kin A.gl d (fun F => ok__law_draw F A.txt ) (fun _ _ _ _ _ _ us hl => match us, hl with | [_, _], _ => rfl)
theorem at__law_primes (A : AllIn P K mg h C) : Fn P w K mg base "_law_primes" 1 ["_law_size"] sp__law_primes := by
  obtain ⟨f, d⟩ := A.d__law_primes
  exact fn_at A.kin A.gl d (fun F => ok__law_primes F A.txt ) (fun _ _ _ _ _ _ us hl => match us, hl with | [_], _ => rfl)
theorem at__law_is_number (A : AllIn P K mg h C) : Fn P w K mg base "_law_is_number" 1 ["_law_value"] sp__law_is_number := by
  obtain ⟨f, d⟩ := A.d__law_is_number
  exact fn_at A.kin A.gl d (fun F => ok__law_is_number F A.txt ) (fun _ _ _ _ _ _ us hl => match us, hl with | [_], _ => rfl)
theorem at__law_spread (A : AllIn P K mg h C) : Fn P w K mg base "_law_spread" 1 ["_law_some", "_law_many"] (sp__law_spread K) := by
  obtain ⟨f, d⟩ := A.d__law_spread
  exact fn_at A.kin A.gl d (fun F => ok__law_spread F A.txt ) (fun _ _ _ _ _ _ us hl => match us, hl with | [_, _], _ => rfl)
theorem at__law_divided (A : AllIn P K mg h C) : Fn P w K mg base "_law_divided" 1 ["_law_wide", "_law_narrow"] (sp__law_divided K) := by
  obtain ⟨f, d⟩ := A.d__law_divided
  exact fn_at A.kin A.gl d (fun F => ok__law_divided F A.txt ) (fun _ _ _ _ _ _ us hl => match us, hl with | [_, _], _ => rfl)
theorem at__law_voice (A : AllIn P K mg h C) : Fn P w K mg base "_law_voice" 1 ["_law_size", "_law_rows"] sp__law_voice := by
  obtain ⟨f, d⟩ := A.d__law_voice
  exact fn_at A.kin A.gl d (fun F => ok__law_voice F A.txt ) (fun _ _ _ _ _ _ us hl => match us, hl with | [_, _], _ => rfl)
theorem at_is_number (A : AllIn P K mg h C) : Fn P w K mg base "is_number" 2 ["thing"] sp_is_number := by
  obtain ⟨f, d⟩ := A.d_is_number
  exact fn_at A.kin A.gl d (fun F => ok_is_number F A.txt (at_is_integer A)) (fun _ _ _ _ _ _ us hl => match us, hl with | [_], _ => rfl)
theorem at_is_size (A : AllIn P K mg h C) : Fn P w K mg base "is_size" 2 ["thing"] sp_is_size := by
  obtain ⟨f, d⟩ := A.d_is_size
  exact fn_at A.kin A.gl d (fun F => ok_is_size F A.txt (at_is_integer A)) (fun _ _ _ _ _ _ us hl => match us, hl with | [_], _ => rfl)
theorem at_is_prime (A : AllIn P K mg h C) : Fn P w K mg base "is_prime" 2 ["thing"] sp_is_prime := by
  obtain ⟨f, d⟩ := A.d_is_prime
  exact fn_at A.kin A.gl d (fun F => ok_is_prime F A.txt (at_least_divisor A) (at_is_integer A)) (fun _ _ _ _ _ _ us hl => match us, hl with | [_], _ => rfl)
theorem at_parts_in (A : AllIn P K mg h C) : Fn P w K mg base "parts_in" 2 ["number"] sp_parts_in := by
  obtain ⟨f, d⟩ := A.d_parts_in
  exact fn_at A.kin A.gl d (fun F => ok_parts_in F A.txt (at_least_divisor A)) (fun _ _ _ _ _ _ us hl => match us, hl with | [_], _ => rfl)
theorem at_totient_in (A : AllIn P K mg h C) : Fn P w K mg base "totient_in" 2 ["number"] sp_totient_in := by
  obtain ⟨f, d⟩ := A.d_totient_in
  exact fn_at A.kin A.gl d (fun F => ok_totient_in F A.txt (at_common_in A)) (fun _ _ _ _ _ _ us hl => match us, hl with | [_], _ => rfl)
theorem at_poly_of (A : AllIn P K mg h C) : Fn P w K mg base "poly_of" 2 ["voice"] sp_poly_of := by
  obtain ⟨f, d⟩ := A.d_poly_of
  exact fn_at A.kin A.gl d (fun F => ok_poly_of F A.txt (at_stripped A)) (fun _ _ _ _ _ _ us hl => match us, hl with | [_], _ => rfl)
theorem at_poly_parted (A : AllIn P K mg h C) : Fn P w K mg base "poly_parted" 2 ["one", "divisor"] sp_poly_parted := by
  obtain ⟨f, d⟩ := A.d_poly_parted
  exact fn_at A.kin A.gl d (fun F => ok_poly_parted F A.txt (at_stripped A)) (fun _ _ _ _ _ _ us hl => match us, hl with | [_, _], _ => rfl)
theorem at_settled (A : AllIn P K mg h C) : Fn P w K mg base "settled" 2 ["table", "lows", "p", "q"] sp_settled := by
  obtain ⟨f, d⟩ := A.d_settled
  exact fn_at A.kin A.gl d (fun F => ok_settled F A.txt (at_bound_between A)) (fun _ _ _ _ _ _ us hl => match us, hl with | [_, _, _, _], _ => rfl)
theorem at__law_pick (A : AllIn P K mg h C) : Fn P w K mg base "_law_pick" 2 ["_law_feed_here", "_law_things"] (sp__law_pick K) := by
  obtain ⟨f, d⟩ := A.d__law_pick
  exact fn_at A.kin A.gl d (fun F => ok__law_pick F A.txt (at__law_draw A)) (fun _ _ _ _ _ _ us hl => match us, hl with | [_, _], _ => rfl)
theorem at__law_is_pair (A : AllIn P K mg h C) : Fn P w K mg base "_law_is_pair" 2 ["_law_size", "_law_value"] sp__law_is_pair := by
  obtain ⟨f, d⟩ := A.d__law_is_pair
  exact fn_at A.kin A.gl d (fun F => ok__law_is_pair F A.txt (at__law_is_number A) (at__law_primes A)) (fun _ _ _ _ _ _ us hl => match us, hl with | [_, _], _ => rfl)
theorem at__law_top (A : AllIn P K mg h C) : Fn P w K mg base "_law_top" 2 ["_law_size"] sp__law_top := by
  obtain ⟨f, d⟩ := A.d__law_top
  exact fn_at A.kin A.gl d (fun F => ok__law_top F A.txt (at__law_primes A) (at__law_divided A) (at__law_spread A)) (fun _ _ _ _ _ _ us hl => match us, hl with | [_], _ => rfl)
theorem at__law_polygons (A : AllIn P K mg h C) : Fn P w K mg base "_law_polygons" 2 ["_law_size"] sp__law_polygons := by
  obtain ⟨f, d⟩ := A.d__law_polygons
  exact fn_at A.kin A.gl d (fun F => ok__law_polygons F A.txt (at__law_primes A)) (fun _ _ _ _ _ _ us hl => match us, hl with | [_], _ => rfl)
theorem at_is_index (A : AllIn P K mg h C) : Fn P w K mg base "is_index" 3 ["thing", "many"] sp_is_index := by
  obtain ⟨f, d⟩ := A.d_is_index
  exact fn_at A.kin A.gl d (fun F => ok_is_index F A.txt (at_is_number A)) (fun _ _ _ _ _ _ us hl => match us, hl with | [_, _], _ => rfl)
theorem at_primes_in (A : AllIn P K mg h C) : Fn P w K mg base "primes_in" 3 ["number"] sp_primes_in := by
  obtain ⟨f, d⟩ := A.d_primes_in
  exact fn_at A.kin A.gl d (fun F => ok_primes_in F A.txt (at_parts_in A) (at_least_divisor A)) (fun _ _ _ _ _ _ us hl => match us, hl with | [_], _ => rfl)
theorem at_primes_at (A : AllIn P K mg h C) : Fn P w K mg base "primes_at" 3 ["size"] sp_primes_at := by
  obtain ⟨f, d⟩ := A.d_primes_at
  exact fn_at A.kin A.gl d (fun F => ok_primes_at F A.txt (at_is_prime A)) (fun _ _ _ _ _ _ us hl => match us, hl with | [_], _ => rfl)
theorem at_cyclotomic_in (A : AllIn P K mg h C) : Fn P w K mg base "cyclotomic_in" 3 ["number"] sp_cyclotomic_in := by
  obtain ⟨f, d⟩ := A.d_cyclotomic_in
  exact fn_at A.kin A.gl d (fun F => ok_cyclotomic_in F A.txt (at_divisors_in A) (at_around A) (at_poly_parted A)) (fun _ _ _ _ _ _ us hl => match us, hl with | [_], _ => rfl)
theorem at_folded (A : AllIn P K mg h C) : Fn P w K mg base "folded" 3 ["voice", "size"] sp_folded := by
  obtain ⟨f, d⟩ := A.d_folded
  exact fn_at A.kin A.gl d (fun F => ok_folded F A.txt (at_want A) (at_is_size A) (at_fold_to A)) (fun _ _ _ _ _ _ us hl => match us, hl with | [_, _], _ => rfl)
theorem at_want_size (A : AllIn P K mg h C) : Fn P w K mg base "want_size" 3 ["thing"] sp_want_size := by
  obtain ⟨f, d⟩ := A.d_want_size
  exact fn_at A.kin A.gl d (fun F => ok_want_size F A.txt (at_want A) (at_is_size A)) (fun _ _ _ _ _ _ us hl => match us, hl with | [_], _ => rfl)
theorem at_want_divisor (A : AllIn P K mg h C) : Fn P w K mg base "want_divisor" 3 ["voice", "divisor"] sp_want_divisor := by
  obtain ⟨f, d⟩ := A.d_want_divisor
  exact fn_at A.kin A.gl d (fun F => ok_want_divisor F A.txt (at_want A) (at_is_size A)) (fun _ _ _ _ _ _ us hl => match us, hl with | [_, _], _ => rfl)
theorem at__law_rest (A : AllIn P K mg h C) : Fn P w K mg base "_law_rest" 3 ["_law_voice_here"] sp__law_rest := by
  obtain ⟨f, d⟩ := A.d__law_rest
  exact fn_at A.kin A.gl d (fun F => ok__law_rest F A.txt (at__law_top A)) (fun _ _ _ _ _ _ us hl => match us, hl with | [_], _ => rfl)
theorem at__law_row_fault (A : AllIn P K mg h C) : Fn P w K mg base "_law_row_fault" 3 ["_law_size", "_law_value", "_law_least"] sp__law_row_fault := by
  obtain ⟨f, d⟩ := A.d__law_row_fault
  exact fn_at A.kin A.gl d (fun F => ok__law_row_fault F A.txt (at__law_is_pair A)) (fun _ _ _ _ _ _ us hl => match us, hl with | [_, _, _], _ => rfl)
theorem at__law_drawn_rows (A : AllIn P K mg h C) : Fn P w K mg base "_law_drawn_rows" 3 ["_law_feed_here", "_law_size", "_law_most", "_law_weights"] (sp__law_drawn_rows K) := by
  obtain ⟨f, d⟩ := A.d__law_drawn_rows
  exact fn_at A.kin A.gl d (fun F => ok__law_drawn_rows F A.txt (at__law_polygons A) (at__law_draw A) (at__law_pick A)) (fun _ _ _ _ _ _ us hl => match us, hl with | [_, _, _, _], _ => rfl)
theorem at_is_polygon_of (A : AllIn P K mg h C) : Fn P w K mg base "is_polygon_of" 4 ["size", "prime", "first"] sp_is_polygon_of := by
  obtain ⟨f, d⟩ := A.d_is_polygon_of
  exact fn_at A.kin A.gl d (fun F => ok_is_polygon_of F A.txt (at_is_index A) (at_primes_at A) (at_is_integer A)) (fun _ _ _ _ _ _ us hl => match us, hl with | [_, _, _], _ => rfl)
theorem at_step_in (A : AllIn P K mg h C) : Fn P w K mg base "step_in" 4 ["size"] sp_step_in := by
  obtain ⟨f, d⟩ := A.d_step_in
  exact fn_at A.kin A.gl d (fun F => ok_step_in F A.txt (at_primes_in A)) (fun _ _ _ _ _ _ us hl => match us, hl with | [_], _ => rfl)
theorem at_split_at (A : AllIn P K mg h C) : Fn P w K mg base "split_at" 4 ["voice", "divisor"] sp_split_at := by
  obtain ⟨f, d⟩ := A.d_split_at
  exact fn_at A.kin A.gl d (fun F => ok_split_at F A.txt (at_poly_parted A) (at_poly_of A) (at_cyclotomic_in A) (at_padded A) (at_totient_in A)) (fun _ _ _ _ _ _ us hl => match us, hl with | [_, _], _ => rfl)
theorem at_put_one (A : AllIn P K mg h C) : Fn P w K mg base "put_one" 4 ["counts", "voice", "coset"] sp_put_one := by
  obtain ⟨f, d⟩ := A.d_put_one
  exact fn_at A.kin A.gl d (fun F => ok_put_one F A.txt (at_put_polygon A) (at_primes_in A)) (fun _ _ _ _ _ _ us hl => match us, hl with | [_, _, _], _ => rfl)
theorem at__law_is_silent (A : AllIn P K mg h C) : Fn P w K mg base "_law_is_silent" 4 ["_law_voice_here"] sp__law_is_silent := by
  obtain ⟨f, d⟩ := A.d__law_is_silent
  exact fn_at A.kin A.gl d (fun F => ok__law_is_silent F A.txt (at__law_rest A)) (fun _ _ _ _ _ _ us hl => match us, hl with | [_], _ => rfl)
theorem at__law_is_rows (A : AllIn P K mg h C) : Fn P w K mg base "_law_is_rows" 4 ["_law_size", "_law_value"] sp__law_is_rows := by
  obtain ⟨f, d⟩ := A.d__law_is_rows
  exact fn_at A.kin A.gl d (fun F => ok__law_is_rows F A.txt (at__law_row_fault A)) (fun _ _ _ _ _ _ us hl => match us, hl with | [_, _], _ => rfl)
theorem at__law_drawn (A : AllIn P K mg h C) : Fn P w K mg base "_law_drawn" 4 ["_law_feed_here", "_law_size"] sp__law_drawn := by
  obtain ⟨f, d⟩ := A.d__law_drawn
  exact fn_at A.kin A.gl d (fun F => ok__law_drawn F A.txt (at__law_drawn_rows A) (at__law_voice A) (at__law_draw A) (at__law_pick A)) (fun _ _ _ _ _ _ us hl => match us, hl with | [_, _], _ => rfl)
theorem at_is_heap_row (A : AllIn P K mg h C) : Fn P w K mg base "is_heap_row" 5 ["size", "thing"] sp_is_heap_row := by
  obtain ⟨f, d⟩ := A.d_is_heap_row
  exact fn_at A.kin A.gl d (fun F => ok_is_heap_row F A.txt (at_is_polygon_of A) (at_is_tuple_of A) (at_is_integer A)) (fun _ _ _ _ _ _ us hl => match us, hl with | [_, _], _ => rfl)
theorem at_beat_with (A : AllIn P K mg h C) : Fn P w K mg base "beat_with" 5 ["size", "coset", "rests"] sp_beat_with := by
  obtain ⟨f, d⟩ := A.d_beat_with
  exact fn_at A.kin A.gl d (fun F => ok_beat_with F A.txt (at_step_in A) (at_number_with A) (at_primes_in A)) (fun _ _ _ _ _ _ us hl => match us, hl with | [_, _, _], _ => rfl)
theorem at_rest_in (A : AllIn P K mg h C) : Fn P w K mg base "rest_in" 5 ["voice", "divisor"] sp_rest_in := by
  obtain ⟨f, d⟩ := A.d_rest_in
  exact fn_at A.kin A.gl d (fun F => ok_rest_in F A.txt (at_split_at A)) (fun _ _ _ _ _ _ us hl => match us, hl with | [_, _], _ => rfl)
theorem at_polygon (A : AllIn P K mg h C) : Fn P w K mg base "polygon" 5 ["size", "prime", "first"] sp_polygon := by
  obtain ⟨f, d⟩ := A.d_polygon
  exact fn_at A.kin A.gl d (fun F => ok_polygon F A.txt (at_want_size A) (at_want A) (at_primes_in A) (at_is_integer A) (at_is_polygon_of A) (at_voice_by A) (at_polygon_beats A)) (fun _ _ _ _ _ _ us hl => match us, hl with | [_, _, _], _ => rfl)
theorem at_is_heap_of (A : AllIn P K mg h C) : Fn P w K mg base "is_heap_of" 6 ["size", "thing"] sp_is_heap_of := by
  obtain ⟨f, d⟩ := A.d_is_heap_of
  exact fn_at A.kin A.gl d (fun F => ok_is_heap_of F A.txt (at_is_heap_row A) (at_are_ascending A)) (fun _ _ _ _ _ _ us hl => match us, hl with | [_, _], _ => rfl)
theorem at_is_silent_in (A : AllIn P K mg h C) : Fn P w K mg base "is_silent_in" 6 ["voice", "divisor"] sp_is_silent_in := by
  obtain ⟨f, d⟩ := A.d_is_silent_in
  exact fn_at A.kin A.gl d (fun F => ok_is_silent_in F A.txt (at_rest_in A)) (fun _ _ _ _ _ _ us hl => match us, hl with | [_, _], _ => rfl)
theorem at_table_at (A : AllIn P K mg h C) : Fn P w K mg base "table_at" 6 ["voice", "coset"] sp_table_at := by
  obtain ⟨f, d⟩ := A.d_table_at
  exact fn_at A.kin A.gl d (fun F => ok_table_at F A.txt (at_all_rests A) (at_primes_in A) (at_beat_with A)) (fun _ _ _ _ _ _ us hl => match us, hl with | [_, _], _ => rfl)
theorem at_rest_at (A : AllIn P K mg h C) : Fn P w K mg base "rest_at" 6 ["voice", "divisor"] sp_rest_at := by
  obtain ⟨f, d⟩ := A.d_rest_at
  exact fn_at A.kin A.gl d (fun F => ok_rest_at F A.txt (at_want_divisor A) (at_rest_in A)) (fun _ _ _ _ _ _ us hl => match us, hl with | [_, _], _ => rfl)
theorem at_want_silent (A : AllIn P K mg h C) : FnX P w K mg base "want_silent" 6 ["voice"] (sp_want_silent C) := by
  obtain ⟨f, d⟩ := A.d_want_silent
  exact fnX_at A.kin A.gl d (fun F => ok_want_silent F A.txt (A.uns w base) (at_rest_in A)) (fun _ _ _ _ _ _ us hl => match us, hl with | [_], _ => rfl)
theorem at_silences_in (A : AllIn P K mg h C) : Fn P w K mg base "silences_in" 7 ["voice"] sp_silences_in := by
  obtain ⟨f, d⟩ := A.d_silences_in
  exact fn_at A.kin A.gl d (fun F => ok_silences_in F A.txt (at_divisors_in A) (at_is_silent_in A)) (fun _ _ _ _ _ _ us hl => match us, hl with | [_], _ => rfl)
theorem at_put_signed (A : AllIn P K mg h C) : Fn P w K mg base "put_signed" 7 ["counts", "voice", "coset"] sp_put_signed := by
  obtain ⟨f, d⟩ := A.d_put_signed
  exact fn_at A.kin A.gl d (fun F => ok_put_signed F A.txt (at_table_at A) (at_primes_in A) (at_choices_from A) (at_rests_held A) (at_put_polygon A) (at_beat_with A)) (fun _ _ _ _ _ _ us hl => match us, hl with | [_, _, _], _ => rfl)
theorem at_put_two (A : AllIn P K mg h C) : Fn P w K mg base "put_two" 7 ["counts", "voice", "coset"] sp_put_two := by
  obtain ⟨f, d⟩ := A.d_put_two
  exact fn_at A.kin A.gl d (fun F => ok_put_two F A.txt (at_primes_in A) (at_parted A) (at_table_at A) (at_put_polygon A) (at_beat_with A)) (fun _ _ _ _ _ _ us hl => match us, hl with | [_, _, _], _ => rfl)
theorem at_put_three (A : AllIn P K mg h C) : Fn P w K mg base "put_three" 7 ["counts", "voice", "coset"] sp_put_three := by
  obtain ⟨f, d⟩ := A.d_put_three
  exact fn_at A.kin A.gl d (fun F => ok_put_three F A.txt (at_table_at A) (at_primes_in A) (at_lows_of A) (at_settled A) (at_put_polygon A) (at_beat_with A) (at_parted A)) (fun _ _ _ _ _ _ us hl => match us, hl with | [_, _, _], _ => rfl)
theorem at_is_silent (A : AllIn P K mg h C) : Fn P w K mg base "is_silent" 7 ["voice", "divisor"] sp_is_silent := by
  obtain ⟨f, d⟩ := A.d_is_silent
  exact fn_at A.kin A.gl d (fun F => ok_is_silent F A.txt (at_want_divisor A) (at_is_silent_in A)) (fun _ _ _ _ _ _ us hl => match us, hl with | [_, _], _ => rfl)
theorem at_heap_voice (A : AllIn P K mg h C) : Fn P w K mg base "heap_voice" 7 ["size", "rows"] sp_heap_voice := by
  obtain ⟨f, d⟩ := A.d_heap_voice
  exact fn_at A.kin A.gl d (fun F => ok_heap_voice F A.txt (at_want_size A) (at_want A) (at_is_heap_of A) (at_voice_by_heap A)) (fun _ _ _ _ _ _ us hl => match us, hl with | [_, _], _ => rfl)
theorem at_signed_by (A : AllIn P K mg h C) : Fn P w K mg base "signed_by" 8 ["voice"] sp_signed_by := by
  obtain ⟨f, d⟩ := A.d_signed_by
  exact fn_at A.kin A.gl d (fun F => ok_signed_by F A.txt (at_step_in A) (at_put_signed A) (at_heap_by A)) (fun _ _ _ _ _ _ us hl => match us, hl with | [_], _ => rfl)
theorem at_plain_by (A : AllIn P K mg h C) : Fn P w K mg base "plain_by" 8 ["voice"] sp_plain_by := by
  obtain ⟨f, d⟩ := A.d_plain_by
  exact fn_at A.kin A.gl d (fun F => ok_plain_by F A.txt (at_primes_in A) (at_step_in A) (at_put_one A) (at_put_two A) (at_put_three A) (at_heap_by A)) (fun _ _ _ _ _ _ us hl => match us, hl with | [_], _ => rfl)
theorem at_silences_of (A : AllIn P K mg h C) : Fn P w K mg base "silences_of" 8 ["voice"] sp_silences_of := by
  obtain ⟨f, d⟩ := A.d_silences_of
  exact fn_at A.kin A.gl d (fun F => ok_silences_of F A.txt (at_silences_in A)) (fun _ _ _ _ _ _ us hl => match us, hl with | [_], _ => rfl)
theorem at_is_heap (A : AllIn P K mg h C) : Fn P w K mg base "is_heap" 9 ["voice"] sp_is_heap := by
  obtain ⟨f, d⟩ := A.d_is_heap
  exact fn_at A.kin A.gl d (fun F => ok_is_heap F A.txt (at_is_silent_in A) (at_is_low A) (at_plain_by A)) (fun _ _ _ _ _ _ us hl => match us, hl with | [_], _ => rfl)
theorem at_signed_heap (A : AllIn P K mg h C) : FnX P w K mg base "signed_heap" 9 ["voice"] (sp_signed_heap C) := by
  obtain ⟨f, d⟩ := A.d_signed_heap
  exact fnX_at A.kin A.gl d (fun F => ok_signed_heap F A.txt (A.uns w base) (at_want_silent A) (at_signed_by A)) (fun _ _ _ _ _ _ us hl => match us, hl with | [_], _ => rfl)
end
/-- the law's own promise -/
theorem law_in {l : PySem.W.OpenLaw} {w : World} {K : PySem.W.Frag} {mg : Str → Option Value} {h : Heap} {C fa f1 f2 f3 c1 c2 c3 P1 P2 : Addr} (A : AllIn l.prog K mg h C) (hfa : mg "law" = some (.ref fa))
    (d1 : DefInC K "_law_voice_right" s__law_voice_right c1 f1) (d2 : DefInC K "_law_with_silences" s__law_with_silences c2 f2) (d3 : DefInC K "law" s_law c3 f3)
    (t1 : h.get? P1 = some bareTab ∧ K.lookup P1 = none ∧ PySem.W.CodeHd h c1 P1) (t2 : h.get? P2 = some bareTab ∧ K.lookup P2 = none ∧ PySem.W.CodeHd h c2 P2) (ne : P1 ≠ P2) : LawG l w K 14 63 "_law_script" mg fa h := by
  obtain ⟨TT, hTT⟩ : ∃ TT : List (Addr × Str), TT = [(P1, ((envOfC "_law_voice_right" (defScope s__law_voice_right) 0 f1 (.ref c1)).qual ++ "<lambda>")), (P2, ((envOfC "_law_with_silences" (defScope s__law_with_silences) 0 f2 (.ref c2)).qual ++ "<lambda>"))] := ⟨_, rfl⟩
  have e : f3 = fa := by
    have z := (PySem.W.mg_of A.kin A.gl d3.nm).symm.trans hfa
    cases z
    rfl
  subst e
  obtain ⟨nm, ⟨oc, od, kV, doc, pm, an, ct, osl, lk, hc⟩, kp⟩ := d3
  have F : FunC K "law" s_law c3 f3 _ := ⟨⟨oc, od, kV, doc, pm, an, ct, osl, rfl, lk, hc⟩, kp⟩
  refine ⟨PySem.W.fnOf "law" "law" (defArgs s_law) (defBody s_law) (defScope s_law) .none kV doc pm an (.ref c3) ct, [(c1, P1), (c2, P2)], sp_law K TT, fun p hp => ?_, fun s u => .of_eq rfl, fun H a ns hl hP hS => ⟨a, ns, rfl, RdL.ofI hS, fun p hp => ?_, fun H' => rfl⟩, fun base kin gl tb => ?_⟩
  · rcases List.mem_cons.mp hp with z | z
    · rw [z]; exact t1
    · rw [List.mem_singleton.mp z]; exact t2
  · rw [hTT] at hp
    rcases List.mem_cons.mp hp with z | z
    · rw [z]; exact TabS.nil (hP (c1, P1) (by simp))
    · rw [List.mem_singleton.mp z]; exact TabS.nil (hP (c2, P2) (by simp))
  · have hm1 : (P1, ((envOfC "_law_voice_right" (defScope s__law_voice_right) 0 f1 (.ref c1)).qual ++ "<lambda>")) ∈ TT := by rw [hTT]; exact List.mem_cons_self
    have hm2 : (P2, ((envOfC "_law_with_silences" (defScope s__law_with_silences) 0 f2 (.ref c2)).qual ++ "<lambda>")) ∈ TT := by rw [hTT]; exact List.mem_cons_of_mem _ List.mem_cons_self
    have hu1 : ∀ p ∈ TT, p.1 = P1 → p.2 = ((envOfC "_law_voice_right" (defScope s__law_voice_right) 0 f1 (.ref c1)).qual ++ "<lambda>") := fun p hp z => by
      rw [hTT] at hp
      rcases List.mem_cons.mp hp with y | y
      · rw [y]
      · rw [List.mem_singleton.mp y] at z
        exact absurd z.symm ne
    have hu2 : ∀ p ∈ TT, p.1 = P2 → p.2 = ((envOfC "_law_with_silences" (defScope s__law_with_silences) 0 f2 (.ref c2)).qual ++ "<lambda>") := fun p hp z => by
      rw [hTT] at hp
      rcases List.mem_cons.mp hp with y | y
      · rw [y] at z
        exact absurd z ne
      · rw [List.mem_singleton.mp y]
    have G1 : FnG l.prog w K mg base "_law_voice_right" 13 ["_law_voice_here"] (sp__law_voice_right K TT) := fnG_at A.kin A.gl d1 (fun F => ok__law_voice_right F A.txt A.hdf (tb (c1, P1) (by simp)) hm1 hu1 (at__law_rest A) (at_signed_heap A) (at__law_is_rows A) (at__law_voice A) (at_heap_voice A)) (fun _ _ _ _ _ _ us hl => match us, hl with | [_], _ => rfl)
    have G2 : FnG l.prog w K mg base "_law_with_silences" 13 ["_law_feed_here", "_law_voice_here"] (sp__law_with_silences K TT) := fnG_at A.kin A.gl d2 (fun F => ok__law_with_silences F A.txt A.hdf (tb (c2, P2) (by simp)) hm2 hu2 (at__law_is_silent A) (at_is_silent A) (at_rest_at A) (at__law_rest A) (at__law_pick A) (at_folded A) (at_signed_heap A) (at__law_polygons A) (at_silences_of A) (at_polygon A)) (fun _ _ _ _ _ _ us hl => match us, hl with | [_, _], _ => rfl)
    exact ok_law (Pt := P1) (C := C) F A.txt (at__law_feed A) (at__law_pick A) (at__law_drawn A) G2 G1 (at__law_primes A) (at__law_is_silent A) (at_is_heap A)
end SB
namespace SB
open PySem PySem.Spec PyProof.Rows L2 RZ
open StX (tStar pa_star)
open LamX
open PySem.W (nsIn findIn typeIn subIn mroIn keepIn codeIn kitOne kitAny exmOne hasDictIn specialIn takesIn ks_superIn ksFn)
section
variable {P : Program} {K : PySem.W.Frag} {mg : Str → Option Value} {h : Heap}
theorem txt_in (KX : K.In h) (Gn : h.Ns mainGlobals mg)
    (z_len : nsIn K mainGlobals "len" = some none) (z_tuple : nsIn K mainGlobals "tuple" = some none) (z_list : nsIn K mainGlobals "list" = some none) (z_int : nsIn K mainGlobals "int" = some none) (z_bool : nsIn K mainGlobals "bool" = some none) (z_isinstance : nsIn K mainGlobals "isinstance" = some none) (z_range : nsIn K mainGlobals "range" = some none) (z_sorted : nsIn K mainGlobals "sorted" = some none) (z_sum : nsIn K mainGlobals "sum" = some none) (z_all : nsIn K mainGlobals "all" = some none) (z_any : nsIn K mainGlobals "any" = some none) (z_min : nsIn K mainGlobals "min" = some none) (z_max : nsIn K mainGlobals "max" = some none) (z_abs : nsIn K mainGlobals "abs" = some none) (z_enumerate : nsIn K mainGlobals "enumerate" = some none) (z_zip : nsIn K mainGlobals "zip" = some none) (z_repr : nsIn K mainGlobals "repr" = some none) {t : Tok} (z_most : nsIn K mainGlobals "MOST_NUMBER" = some (some (.int 10000 t))) : Txt K mg :=
  ⟨PySem.W.mg_none_of KX Gn z_len, PySem.W.mg_none_of KX Gn z_tuple, PySem.W.mg_none_of KX Gn z_list, PySem.W.mg_none_of KX Gn z_int, PySem.W.mg_none_of KX Gn z_bool, PySem.W.mg_none_of KX Gn z_isinstance, PySem.W.mg_none_of KX Gn z_range, PySem.W.mg_none_of KX Gn z_sorted, PySem.W.mg_none_of KX Gn z_sum, PySem.W.mg_none_of KX Gn z_all, PySem.W.mg_none_of KX Gn z_any, PySem.W.mg_none_of KX Gn z_min, PySem.W.mg_none_of KX Gn z_max, PySem.W.mg_none_of KX Gn z_abs, PySem.W.mg_none_of KX Gn z_enumerate, PySem.W.mg_none_of KX Gn z_zip, PySem.W.mg_none_of KX Gn z_repr, ⟨t, PySem.W.mg_of KX Gn z_most⟩⟩
theorem def_in {x : Str} {st : Stmt} {f : Addr} {oc : Value} {od : Option Addr} {kV doc pm : Value} {an : Option Addr} {cd ct : Value} {osl : Array (Option Value)} (_ : K.In h) (nm : nsIn K mainGlobals x = some (some (.ref f)))
    (lk : K.lookup f = some ⟨oc, od, .func (PySem.W.fnOf x x (defArgs st) (defBody st) (defScope st) .none kV doc pm an cd ct), osl⟩) (hc : codeIn K cd x = true) (kp : keepIn K (.ref f) = true) : ∃ f, DefIn K x st f :=
  ⟨f, nm, ⟨oc, od, kV, doc, pm, an, cd, ct, osl, lk, hc⟩, kp⟩
theorem def_at {x : Str} {st : Stmt} {c f : Addr} {oc : Value} {od : Option Addr} {kV doc pm : Value} {an : Option Addr} {ct : Value} {osl : Array (Option Value)} (_ : K.In h) (nm : nsIn K mainGlobals x = some (some (.ref f)))
    (lk : K.lookup f = some ⟨oc, od, .func (PySem.W.fnOf x x (defArgs st) (defBody st) (defScope st) .none kV doc pm an (.ref c) ct), osl⟩) (hc : codeIn K (.ref c) x = true) (kp : keepIn K (.ref f) = true) : DefInC K x st c f :=
  ⟨nm, ⟨oc, od, kV, doc, pm, an, ct, osl, lk, hc⟩, kp⟩
theorem want_in (KX : K.In h) (Gn : h.Ns mainGlobals mg) {f T : Addr} {oc : Value} {od : Option Addr} {kV doc pm : Value} {an : Option Addr} {cd ct : Value} {osl : Array (Option Value)} {tc : Value} {td : Option Addr} {tn : Nat} {tsl : Array (Option Value)} {tk : Tok} (nm : nsIn K mainGlobals "want" = some (some (.ref f)))
    (lk : K.lookup f = some ⟨oc, od, .func (PySem.W.fnOf "want" "want" (defArgs s_want) (defBody s_want) (defScope s_want) (.ref T) kV doc pm an cd ct), osl⟩) (hc : codeIn K cd "want" = true) (kp : keepIn K (.ref f) = true)
    (lt : K.lookup T = some ⟨tc, td, .seq [Value.int (-1) tk].toArray tn, tsl⟩) : ∃ f fd, FunD K "want" "want" (defArgs s_want) (defBody s_want) (defScope s_want) [.int (-1)] [] f fd ∧ mg "want" = some (.ref f) :=
  ⟨f, _, ⟨⟨oc, od, .ref T, kV, doc, pm, an, cd, ct, osl, rfl, lk, hc, .inr ⟨by simp, T, _, [.int (-1) tk], tn, rfl, lt, rfl, .cons ⟨tk, rfl⟩ .nil⟩, .inl rfl⟩, kp⟩, PySem.W.mg_of KX Gn nm⟩
theorem bind_ui (kV doc pm : Value) (an : Option Addr) (cd ct : Value) (cc : Addr) : ∀ us : List Value, us.length = ["self", "rest"].length → bindArgs (ksFn "__init__" "Unsilent.__init__" (defArgs s_ui) (defBody s_ui) (defScope s_ui) .none kV doc pm an cd ct cc) ⟨us, []⟩ = pure ((["self", "rest"] : List Str).zip us) :=
  fun us hl => match us, hl with | [_, _], _ => rfl
theorem uns_in {C f cc cda : Addr} {oc : Value} {od : Option Addr} {kV doc pm : Value} {an : Option Addr} {ct : Value} {osl : Array (Option Value)} {ccl : Value} {cdd : Option Addr} {vs : Array Value} {ccs : Array (Option Value)} {fl : Str} {tf : Tok} {cl : Value} {cld : Option Addr} {csl : Array (Option Value)} (KX : K.In h) (Gn : h.Ns mainGlobals mg)
    (nm : nsIn K mainGlobals "Unsilent" = some (some (.ref C))) (fi : findIn K (.ref C) "__init__" = some (some (.ref f))) (ti : typeIn K (.ref f) = some (.type "function"))
    (lk : K.lookup f = some ⟨oc, od, .func (ksFn "__init__" "Unsilent.__init__" (defArgs s_ui) (defBody s_ui) (defScope s_ui) .none kV doc pm an (.ref cda) ct cc), osl⟩) (hc : codeIn K (.ref cda) "Unsilent.__init__" = true)
    (lc : K.lookup cda = some ⟨ccl, cdd, .fields vs, ccs⟩) (hf : vs[2]? = some (.str fl tf)) (he : ((P.main.file : Str) == fl) = true) (ll : K.lookup cc = some ⟨cl, cld, .cell (some (.ref C)), csl⟩) (hx : OexC K C)
    (su : ks_superIn K C C "__init__" = some (some (.builtin "ValueError.__init__"))) (sv : subIn K (.ref C) (.type "ValueError") = some true) (mr : mroIn K C (.ref C) = some true) (op : nsIn K cStatics "thirdparty.any" = some none) (zs : nsIn K mainGlobals "super" = some none)
    (tp : (P.main.scope.names.lookup ("super" : Str)).isSome = false) (nr : findIn K (.ref C) "rest" = some none) (w : World) (base : Heap) : Uns P w K mg base C :=
  ⟨⟨f, cc, cda, _, ⟨⟨oc, od, kV, doc, pm, an, ct, osl, rfl, lk⟩, hc, ⟨ccl, cdd, vs, ccs, fl, tf, lc, hf, he⟩, ⟨cl, cld, csl, ll⟩, hx, su, sv, mr, op, PySem.W.mg_none_of KX Gn zs, tp, nr⟩, fi, ti, .all (bind_ui kV doc pm an (.ref cda) ct cc)⟩, PySem.W.mg_of KX Gn nm⟩
theorem hrd_in {C CB CV CP CL CT CN : Addr} (KX : K.In h) (Gn : h.Ns mainGlobals mg) (nm : nsIn K mainGlobals "Unsilent" = some (some (.ref C))) (nB : nsIn K mainGlobals "BeatError" = some (some (.ref CB))) (nV : nsIn K mainGlobals "VoiceError" = some (some (.ref CV)))
    (nP : nsIn K mainGlobals "PaperError" = some (some (.ref CP))) (nL : nsIn K mainGlobals "LiveError" = some (some (.ref CL))) (nT : nsIn K mainGlobals "TextError" = some (some (.ref CT))) (nN : nsIn K mainGlobals "NotUsable" = some (some (.ref CN)))
    (hB : exmOne K (.ref C) (.ref CB) = some true) (hV : kitOne K (.ref C) (.ref CV) = some true) (hP : kitOne K (.ref C) (.ref CP) = some false) (hL : kitAny K (.ref C) [.ref CL, .ref CT] = some false) (hN : kitOne K (.ref C) (.ref CN) = some false) (hO : kitOne K (.ref C) (.ref C) = some true)
    (ex : ExcC K C) (xf : XfC K C) (nr : findIn K (.ref C) "rest" = some none) : Hrd K mg C :=
  ⟨⟨CB, CV, CP, CL, CT, CN, PySem.W.mg_of KX Gn nB, PySem.W.mg_of KX Gn nV, PySem.W.mg_of KX Gn nP, PySem.W.mg_of KX Gn nL, PySem.W.mg_of KX Gn nT, PySem.W.mg_of KX Gn nN, hB, hV, hP, hL, hN⟩, PySem.W.mg_of KX Gn nm, hO, ex, xf, nr⟩
theorem hdf_in {C : Addr} (KX : K.In h) (Gn : h.Ns mainGlobals mg) (d : ∃ f, DefIn K "_law_heard" s__law_heard f) (hr : Hrd K mg C) : HdF K mg C := by
  obtain ⟨f, nm, ⟨oc, od, kV, doc, pm, an, cd, ct, osl, lk, hc⟩, kp⟩ := d
  exact ⟨⟨f, oc, od, kV, doc, pm, an, cd, ct, osl, lk, hc, kp, PySem.W.mg_of KX Gn nm⟩, hr⟩
end
end SB
open PySem PySem.W PyProof.Rows in
set_option maxRecDepth 100000 in
set_option maxHeartbeats 0 in
theorem PySem.Challenge.cw_silentbeats_k19_whole_heaps_of_any_sign_holds : PySem.Challenge.rw_silentbeats_k19_whole_heaps_of_any_sign.Holds := by
  w_on; o_law; k_head; (case hw => w_witness2)
  k_fill
  refine SB.walk_end (l := PySem.Challenge.rw_silentbeats_k19_whole_heaps_of_any_sign) (n := 63) (k := 14) (x := "_law_script") rfl (by decide) rfl ⟨rfl, by decide, by decide⟩ (fun w h Y => km_in_of Y) ?F
  case F =>
    intro w mg fa h Y KX G hmg
    have hT8 := km_tabs_of Y
    refine' SB.law_in (C := 136) (c1 := 655) (P1 := 653) (c2 := 660) (P2 := 658) ?A hmg ?d1 ?d2 ?d3 ?t1 ?t2 (by decide)
    case A =>
      refine' SB.AllIn.mk KX G ?txt ?d_is_integer ?d_is_tuple_of ?d_least_divisor ?d_common_in ?d_divisors_in ?d_polygon_beats ?d_are_ascending ?d_voice_by_heap ?d_number_with ?d_all_rests ?d_stripped ?d_around ?d_padded ?d_choices_from ?d_rests_held ?d_put_polygon ?d_heap_by ?d_is_low ?d_parted ?d_lows_of ?d_bound_between ?d_voice_by ?d_fold_to ?d__law_feed ?d__law_draw ?d__law_primes ?d__law_is_number ?d__law_spread ?d__law_divided ?d__law_voice ?d_is_number ?d_is_size ?d_is_prime ?d_parts_in ?d_totient_in ?d_poly_of ?d_poly_parted ?d_settled ?d__law_pick ?d__law_is_pair ?d__law_top ?d__law_polygons ?d_is_index ?d_primes_in ?d_primes_at ?d_cyclotomic_in ?d_folded ?d_want_size ?d_want_divisor ?d__law_rest ?d__law_row_fault ?d__law_drawn_rows ?d_is_polygon_of ?d_step_in ?d_split_at ?d_put_one ?d__law_is_silent ?d__law_is_rows ?d__law_drawn ?d_is_heap_row ?d_beat_with ?d_rest_in ?d_polygon ?d_is_heap_of ?d_is_silent_in ?d_table_at ?d_rest_at ?d_silences_in ?d_put_signed ?d_put_two ?d_put_three ?d_is_silent ?d_heap_voice ?d_signed_by ?d_plain_by ?d_silences_of ?d_is_heap ?d_want_silent ?d_signed_heap ?want ?uns ?hdf
      case txt =>
        refine' SB.txt_in KX G ?z_len ?z_tuple ?z_list ?z_int ?z_bool ?z_isinstance ?z_range ?z_sorted ?z_sum ?z_all ?z_any ?z_min ?z_max ?z_abs ?z_enumerate ?z_zip ?z_repr ?z_most
        (case z_len => k_is)
        (case z_tuple => k_is)
        (case z_list => k_is)
        (case z_int => k_is)
        (case z_bool => k_is)
        (case z_isinstance => k_is)
        (case z_range => k_is)
        (case z_sorted => k_is)
        (case z_sum => k_is)
        (case z_all => k_is)
        (case z_any => k_is)
        (case z_min => k_is)
        (case z_max => k_is)
        (case z_abs => k_is)
        (case z_enumerate => k_is)
        (case z_zip => k_is)
        (case z_repr => k_is)
        (case z_most => k_is)
      case d_is_integer =>
        refine' SB.def_in KX ?a ?b ?c ?d
        (case a => k_is)
        (case b => k_is)
        (case c => k_is)
        (case d => k_is)
      case d_is_tuple_of =>
        refine' SB.def_in KX ?a ?b ?c ?d
        (case a => k_is)
        (case b => k_is)
        (case c => k_is)
        (case d => k_is)
      case d_least_divisor =>
        refine' SB.def_in KX ?a ?b ?c ?d
        (case a => k_is)
        (case b => k_is)
        (case c => k_is)
        (case d => k_is)
      case d_common_in =>
        refine' SB.def_in KX ?a ?b ?c ?d
        (case a => k_is)
        (case b => k_is)
        (case c => k_is)
        (case d => k_is)
      case d_divisors_in =>
        refine' SB.def_in KX ?a ?b ?c ?d
        (case a => k_is)
        (case b => k_is)
        (case c => k_is)
        (case d => k_is)
      case d_polygon_beats =>
        refine' SB.def_in KX ?a ?b ?c ?d
        (case a => k_is)
        (case b => k_is)
        (case c => k_is)
        (case d => k_is)
      case d_are_ascending =>
        refine' SB.def_in KX ?a ?b ?c ?d
        (case a => k_is)
        (case b => k_is)
        (case c => k_is)
        (case d => k_is)
      case d_voice_by_heap =>
        refine' SB.def_in KX ?a ?b ?c ?d
        (case a => k_is)
        (case b => k_is)
        (case c => k_is)
        (case d => k_is)
      case d_number_with =>
        refine' SB.def_in KX ?a ?b ?c ?d
        (case a => k_is)
        (case b => k_is)
        (case c => k_is)
        (case d => k_is)
      case d_all_rests =>
        refine' SB.def_in KX ?a ?b ?c ?d
        (case a => k_is)
        (case b => k_is)
        (case c => k_is)
        (case d => k_is)
      case d_stripped =>
        refine' SB.def_in KX ?a ?b ?c ?d
        (case a => k_is)
        (case b => k_is)
        (case c => k_is)
        (case d => k_is)
      case d_around =>
        refine' SB.def_in KX ?a ?b ?c ?d
        (case a => k_is)
        (case b => k_is)
        (case c => k_is)
        (case d => k_is)
      case d_padded =>
        refine' SB.def_in KX ?a ?b ?c ?d
        (case a => k_is)
        (case b => k_is)
        (case c => k_is)
        (case d => k_is)
      case d_choices_from =>
        refine' SB.def_in KX ?a ?b ?c ?d
        (case a => k_is)
        (case b => k_is)
        (case c => k_is)
        (case d => k_is)
      case d_rests_held =>
        refine' SB.def_in KX ?a ?b ?c ?d
        (case a => k_is)
        (case b => k_is)
        (case c => k_is)
        (case d => k_is)
      case d_put_polygon =>
        refine' SB.def_in KX ?a ?b ?c ?d
        (case a => k_is)
        (case b => k_is)
        (case c => k_is)
        (case d => k_is)
      case d_heap_by =>
        refine' SB.def_in KX ?a ?b ?c ?d
        (case a => k_is)
        (case b => k_is)
        (case c => k_is)
        (case d => k_is)
      case d_is_low =>
        refine' SB.def_in KX ?a ?b ?c ?d
        (case a => k_is)
        (case b => k_is)
        (case c => k_is)
        (case d => k_is)
      case d_parted =>
        refine' SB.def_in KX ?a ?b ?c ?d
        (case a => k_is)
        (case b => k_is)
        (case c => k_is)
        (case d => k_is)
      case d_lows_of =>
        refine' SB.def_in KX ?a ?b ?c ?d
        (case a => k_is)
        (case b => k_is)
        (case c => k_is)
        (case d => k_is)
      case d_bound_between =>
        refine' SB.def_in KX ?a ?b ?c ?d
        (case a => k_is)
        (case b => k_is)
        (case c => k_is)
        (case d => k_is)
      case d_voice_by =>
        refine' SB.def_in KX ?a ?b ?c ?d
        (case a => k_is)
        (case b => k_is)
        (case c => k_is)
        (case d => k_is)
      case d_fold_to =>
        refine' SB.def_in KX ?a ?b ?c ?d
        (case a => k_is)
        (case b => k_is)
        (case c => k_is)
        (case d => k_is)
      case d__law_feed =>
        refine' SB.def_in KX ?a ?b ?c ?d
        (case a => k_is)
        (case b => k_is)
        (case c => k_is)
        (case d => k_is)
      case d__law_draw =>
        refine' SB.def_in KX ?a ?b ?c ?d
        (case a => k_is)
        (case b => k_is)
        (case c => k_is)
        (case d => k_is)
      case d__law_primes =>
        refine' SB.def_in KX ?a ?b ?c ?d
        (case a => k_is)
        (case b => k_is)
        (case c => k_is)
        (case d => k_is)
      case d__law_is_number =>
        refine' SB.def_in KX ?a ?b ?c ?d
        (case a => k_is)
        (case b => k_is)
        (case c => k_is)
        (case d => k_is)
      case d__law_spread =>
        refine' SB.def_in KX ?a ?b ?c ?d
        (case a => k_is)
        (case b => k_is)
        (case c => k_is)
        (case d => k_is)
      case d__law_divided =>
        refine' SB.def_in KX ?a ?b ?c ?d
        (case a => k_is)
        (case b => k_is)
        (case c => k_is)
        (case d => k_is)
      case d__law_voice =>
        refine' SB.def_in KX ?a ?b ?c ?d
        (case a => k_is)
        (case b => k_is)
        (case c => k_is)
        (case d => k_is)
      case d_is_number =>
        refine' SB.def_in KX ?a ?b ?c ?d
        (case a => k_is)
        (case b => k_is)
        (case c => k_is)
        (case d => k_is)
      case d_is_size =>
        refine' SB.def_in KX ?a ?b ?c ?d
        (case a => k_is)
        (case b => k_is)
        (case c => k_is)
        (case d => k_is)
      case d_is_prime =>
        refine' SB.def_in KX ?a ?b ?c ?d
        (case a => k_is)
        (case b => k_is)
        (case c => k_is)
        (case d => k_is)
      case d_parts_in =>
        refine' SB.def_in KX ?a ?b ?c ?d
        (case a => k_is)
        (case b => k_is)
        (case c => k_is)
        (case d => k_is)
      case d_totient_in =>
        refine' SB.def_in KX ?a ?b ?c ?d
        (case a => k_is)
        (case b => k_is)
        (case c => k_is)
        (case d => k_is)
      case d_poly_of =>
        refine' SB.def_in KX ?a ?b ?c ?d
        (case a => k_is)
        (case b => k_is)
        (case c => k_is)
        (case d => k_is)
      case d_poly_parted =>
        refine' SB.def_in KX ?a ?b ?c ?d
        (case a => k_is)
        (case b => k_is)
        (case c => k_is)
        (case d => k_is)
      case d_settled =>
        refine' SB.def_in KX ?a ?b ?c ?d
        (case a => k_is)
        (case b => k_is)
        (case c => k_is)
        (case d => k_is)
      case d__law_pick =>
        refine' SB.def_in KX ?a ?b ?c ?d
        (case a => k_is)
        (case b => k_is)
        (case c => k_is)
        (case d => k_is)
      case d__law_is_pair =>
        refine' SB.def_in KX ?a ?b ?c ?d
        (case a => k_is)
        (case b => k_is)
        (case c => k_is)
        (case d => k_is)
      case d__law_top =>
        refine' SB.def_in KX ?a ?b ?c ?d
        (case a => k_is)
        (case b => k_is)
        (case c => k_is)
        (case d => k_is)
      case d__law_polygons =>
        refine' SB.def_in KX ?a ?b ?c ?d
        (case a => k_is)
        (case b => k_is)
        (case c => k_is)
        (case d => k_is)
      case d_is_index =>
        refine' SB.def_in KX ?a ?b ?c ?d
        (case a => k_is)
        (case b => k_is)
        (case c => k_is)
        (case d => k_is)
      case d_primes_in =>
        refine' SB.def_in KX ?a ?b ?c ?d
        (case a => k_is)
        (case b => k_is)
        (case c => k_is)
        (case d => k_is)
      case d_primes_at =>
        refine' SB.def_in KX ?a ?b ?c ?d
        (case a => k_is)
        (case b => k_is)
        (case c => k_is)
        (case d => k_is)
      case d_cyclotomic_in =>
        refine' SB.def_in KX ?a ?b ?c ?d
        (case a => k_is)
        (case b => k_is)
        (case c => k_is)
        (case d => k_is)
      case d_folded =>
        refine' SB.def_in KX ?a ?b ?c ?d
        (case a => k_is)
        (case b => k_is)
        (case c => k_is)
        (case d => k_is)
      case d_want_size =>
        refine' SB.def_in KX ?a ?b ?c ?d
        (case a => k_is)
        (case b => k_is)
        (case c => k_is)
        (case d => k_is)
      case d_want_divisor =>
        refine' SB.def_in KX ?a ?b ?c ?d
        (case a => k_is)
        (case b => k_is)
        (case c => k_is)
        (case d => k_is)
      case d__law_rest =>
        refine' SB.def_in KX ?a ?b ?c ?d
        (case a => k_is)
        (case b => k_is)
        (case c => k_is)
        (case d => k_is)
      case d__law_row_fault =>
        refine' SB.def_in KX ?a ?b ?c ?d
        (case a => k_is)
        (case b => k_is)
        (case c => k_is)
        (case d => k_is)
      case d__law_drawn_rows =>
        refine' SB.def_in KX ?a ?b ?c ?d
        (case a => k_is)
        (case b => k_is)
        (case c => k_is)
        (case d => k_is)
      case d_is_polygon_of =>
        refine' SB.def_in KX ?a ?b ?c ?d
        (case a => k_is)
        (case b => k_is)
        (case c => k_is)
        (case d => k_is)
      case d_step_in =>
        refine' SB.def_in KX ?a ?b ?c ?d
        (case a => k_is)
        (case b => k_is)
        (case c => k_is)
        (case d => k_is)
      case d_split_at =>
        refine' SB.def_in KX ?a ?b ?c ?d
        (case a => k_is)
        (case b => k_is)
        (case c => k_is)
        (case d => k_is)
      case d_put_one =>
        refine' SB.def_in KX ?a ?b ?c ?d
        (case a => k_is)
        (case b => k_is)
        (case c => k_is)
        (case d => k_is)
      case d__law_is_silent =>
        refine' SB.def_in KX ?a ?b ?c ?d
        (case a => k_is)
        (case b => k_is)
        (case c => k_is)
        (case d => k_is)
      case d__law_is_rows =>
        refine' SB.def_in KX ?a ?b ?c ?d
        (case a => k_is)
        (case b => k_is)
        (case c => k_is)
        (case d => k_is)
      case d__law_drawn =>
        refine' SB.def_in KX ?a ?b ?c ?d
        (case a => k_is)
        (case b => k_is)
        (case c => k_is)
        (case d => k_is)
      case d_is_heap_row =>
        refine' SB.def_in KX ?a ?b ?c ?d
        (case a => k_is)
        (case b => k_is)
        (case c => k_is)
        (case d => k_is)
      case d_beat_with =>
        refine' SB.def_in KX ?a ?b ?c ?d
        (case a => k_is)
        (case b => k_is)
        (case c => k_is)
        (case d => k_is)
      case d_rest_in =>
        refine' SB.def_in KX ?a ?b ?c ?d
        (case a => k_is)
        (case b => k_is)
        (case c => k_is)
        (case d => k_is)
      case d_polygon =>
        refine' SB.def_in KX ?a ?b ?c ?d
        (case a => k_is)
        (case b => k_is)
        (case c => k_is)
        (case d => k_is)
      case d_is_heap_of =>
        refine' SB.def_in KX ?a ?b ?c ?d
        (case a => k_is)
        (case b => k_is)
        (case c => k_is)
        (case d => k_is)
      case d_is_silent_in =>
        refine' SB.def_in KX ?a ?b ?c ?d
        (case a => k_is)
        (case b => k_is)
        (case c => k_is)
        (case d => k_is)
      case d_table_at =>
        refine' SB.def_in KX ?a ?b ?c ?d
        (case a => k_is)
        (case b => k_is)
        (case c => k_is)
        (case d => k_is)
      case d_rest_at =>
        refine' SB.def_in KX ?a ?b ?c ?d
        (case a => k_is)
        (case b => k_is)
        (case c => k_is)
        (case d => k_is)
      case d_silences_in =>
        refine' SB.def_in KX ?a ?b ?c ?d
        (case a => k_is)
        (case b => k_is)
        (case c => k_is)
        (case d => k_is)
      case d_put_signed =>
        refine' SB.def_in KX ?a ?b ?c ?d
        (case a => k_is)
        (case b => k_is)
        (case c => k_is)
        (case d => k_is)
      case d_put_two =>
        refine' SB.def_in KX ?a ?b ?c ?d
        (case a => k_is)
        (case b => k_is)
        (case c => k_is)
        (case d => k_is)
      case d_put_three =>
        refine' SB.def_in KX ?a ?b ?c ?d
        (case a => k_is)
        (case b => k_is)
        (case c => k_is)
        (case d => k_is)
      case d_is_silent =>
        refine' SB.def_in KX ?a ?b ?c ?d
        (case a => k_is)
        (case b => k_is)
        (case c => k_is)
        (case d => k_is)
      case d_heap_voice =>
        refine' SB.def_in KX ?a ?b ?c ?d
        (case a => k_is)
        (case b => k_is)
        (case c => k_is)
        (case d => k_is)
      case d_signed_by =>
        refine' SB.def_in KX ?a ?b ?c ?d
        (case a => k_is)
        (case b => k_is)
        (case c => k_is)
        (case d => k_is)
      case d_plain_by =>
        refine' SB.def_in KX ?a ?b ?c ?d
        (case a => k_is)
        (case b => k_is)
        (case c => k_is)
        (case d => k_is)
      case d_silences_of =>
        refine' SB.def_in KX ?a ?b ?c ?d
        (case a => k_is)
        (case b => k_is)
        (case c => k_is)
        (case d => k_is)
      case d_is_heap =>
        refine' SB.def_in KX ?a ?b ?c ?d
        (case a => k_is)
        (case b => k_is)
        (case c => k_is)
        (case d => k_is)
      case d_want_silent =>
        refine' SB.def_in KX ?a ?b ?c ?d
        (case a => k_is)
        (case b => k_is)
        (case c => k_is)
        (case d => k_is)
      case d_signed_heap =>
        refine' SB.def_in KX ?a ?b ?c ?d
        (case a => k_is)
        (case b => k_is)
        (case c => k_is)
        (case d => k_is)
      case want =>
        refine' SB.want_in KX G ?a ?b ?c ?d ?e
        (case a => k_is)
        (case b => k_is)
        (case c => k_is)
        (case d => k_is)
        (case e => k_is)
      case uns =>
        refine' SB.uns_in KX G ?u_nm ?u_fi ?u_ti ?u_lk ?u_hc ?u_lc ?u_hf ?u_he ?u_ll ?u_hx ?u_su ?u_sv ?u_mr ?u_op ?u_zs ?u_tp ?u_nr
        (case u_nm => k_is)
        (case u_fi => k_is)
        (case u_ti => k_is)
        (case u_lk => k_is)
        (case u_hc => k_is)
        (case u_lc => k_is)
        (case u_hf => rfl)
        (case u_he => kernel_rfl)
        (case u_ll => k_is)
        (case u_hx => exact ⟨⟨_, _, _, _, _, _, _, _, _, _, _, _, _, _, _, by k_is, by decide +kernel⟩, by k_is, by k_is, by k_is, by k_is⟩)
        (case u_su => kernel_rfl)
        (case u_sv => k_is)
        (case u_mr => k_is)
        (case u_op => k_is)
        (case u_zs => k_is)
        (case u_tp => kernel_rfl)
        (case u_nr => k_is)
      case hdf =>
        refine' SB.hdf_in KX G ?dh ?hr
        case dh =>
          refine' SB.def_in KX ?a ?b ?c ?d
          (case a => k_is)
          (case b => k_is)
          (case c => k_is)
          (case d => k_is)
        case hr =>
          refine' SB.hrd_in KX G ?r_nm ?r_nB ?r_nV ?r_nP ?r_nL ?r_nT ?r_nN ?r_hB ?r_hV ?r_hP ?r_hL ?r_hN ?r_hO ?r_ex ?r_xf ?r_nr
          (case r_nm => k_is)
          (case r_nB => k_is)
          (case r_nV => k_is)
          (case r_nP => k_is)
          (case r_nL => k_is)
          (case r_nT => k_is)
          (case r_nN => k_is)
          (case r_hB => kernel_rfl)
          (case r_hV => kernel_rfl)
          (case r_hP => kernel_rfl)
          (case r_hL => kernel_rfl)
          (case r_hN => kernel_rfl)
          (case r_hO => kernel_rfl)
          (case r_ex => exact ⟨by k_is, by k_is, by k_is, by k_is, by k_is, by k_is, by k_is, by k_is⟩)
          (case r_xf => exact ⟨by k_is, by k_is, by k_is, by k_is⟩)
          (case r_nr => k_is)
    case d1 =>
      refine' SB.def_at KX ?a ?b ?c ?d
      (case a => k_is)
      (case b => k_is)
      (case c => k_is)
      (case d => k_is)
    case d2 =>
      refine' SB.def_at KX ?a ?b ?c ?d
      (case a => k_is)
      (case b => k_is)
      (case c => k_is)
      (case d => k_is)
    case d3 =>
      refine' SB.def_at KX ?a ?b ?c ?d
      (case a => k_is)
      (case b => k_is)
      (case c => k_is)
      (case d => k_is)
    case t1 => exact ⟨hT8 653 (by k_mem), by kernel_rfl, PySem.W.codeHd_of_K KX (by kernel_rfl)⟩
    case t2 => exact ⟨hT8 658 (by k_mem), by kernel_rfl, PySem.W.codeHd_of_K KX (by kernel_rfl)⟩
