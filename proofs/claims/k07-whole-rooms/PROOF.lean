import PyProof.Rows.All
import Wide.All
import OpenK.AllK
import Wide.FinOn
import PyProof.EqAt
import PyProof.EqKinds
import PyProof.TupleCall
import PyProof.ReprRoads
import PyProof.EnumMake
import KE.SortData
import KE.KDictKeyed
import KE.GoesMore
import HandS.Base
import HandS.Call
import HandS.Ends
import HandS.Words
import HandS.WordsDict
import HandS.List
import HandS.Comp
import HandS.Iter
import HandS.Dict
import HandS.IsInst
import HandS.Deep
import HandS.TupAny
import HandS.Conv
import HandS.Zip
import HandS.SetFor
import HandS.OwnEq
import HandS.TupSets
import HandS.SetBool
import HandS.Evl
import PySem.Challenge.RW_pegwebs_k07_whole_rooms_part_all
import PyProof.CompFree
import HandS.Head0
import HandS.Head1
import HandS.Head2
import HandS.HeadEnd
import HandS.HeadHook1
import HandS.HeadHook2
import HandS.HeadNt
section K07_part_Math
set_option autoImplicit false
/-! Plain mathematics: webs, steps, the room rule, boxes. No program here. -/
namespace K07
open Classical

/-- an arrow: start, stop, guard, cost -/
structure Arr where
  a : Int
  b : Int
  g : List Int
  c : Int

abbrev Webs := List (List Arr)

def pegs (k : Nat) : List Int := (List.range k).map fun (i : Nat) => (i : Int)
theorem mem_pegs {k : Nat} {x : Int} : x ∈ pegs k ↔ 0 ≤ x ∧ x < k := by
  unfold pegs
  rw [List.mem_map]
  constructor
  · rintro ⟨i, hi, rfl⟩
    have := List.mem_range.mp hi
    omega
  · rintro ⟨h0, h1⟩
    exact ⟨x.toNat, List.mem_range.mpr (by omega), by omega⟩
theorem pegs_len (k : Nat) : (pegs k).length = k := by
  unfold pegs
  rw [List.length_map, List.length_range]
theorem pegs_sorted (k : Nat) : (pegs k).Pairwise (· < ·) := by
  unfold pegs
  rw [List.pairwise_map]
  refine List.Pairwise.imp (fun {x y} h => ?_) (List.pairwise_lt_range (n := k))
  exact Int.ofNat_lt.mpr h

/-! ### chains of pairs -/
inductive ReachP (ps : List (Int × Int)) (x : Int) : Int → Prop
  | refl : ReachP ps x x
  | step {y z : Int} : ReachP ps x y → (y, z) ∈ ps → ReachP ps x z
theorem ReachP.trans {ps : List (Int × Int)} {x y z : Int} (h : ReachP ps x y) (h' : ReachP ps y z) : ReachP ps x z := by
  induction h' with
  | refl => exact h
  | step _ m ih => exact .step ih m
theorem ReachP.one {ps : List (Int × Int)} {x y : Int} (h : (x, y) ∈ ps) : ReachP ps x y := .step .refl h
/-- the pairs turned -/
def turnP (ps : List (Int × Int)) : List (Int × Int) := ps.map fun p => (p.2, p.1)
theorem mem_turnP {ps : List (Int × Int)} {x y : Int} : (x, y) ∈ turnP ps ↔ (y, x) ∈ ps := by
  unfold turnP
  rw [List.mem_map]
  constructor
  · rintro ⟨⟨u, v⟩, h, e⟩
    cases e
    exact h
  · intro h
    exact ⟨(y, x), h, rfl⟩
theorem ReachP.turn {ps : List (Int × Int)} {x y : Int} (h : ReachP ps x y) : ReachP (turnP ps) y x := by
  induction h with
  | refl => exact .refl
  | step _ m ih => exact (ReachP.one (mem_turnP.mpr m)).trans ih
theorem reachP_turn {ps : List (Int × Int)} {x y : Int} : ReachP (turnP ps) x y ↔ ReachP ps y x := by
  constructor
  · intro h
    have q := h.turn
    have e : turnP (turnP ps) = ps := by
      unfold turnP
      rw [List.map_map]
      exact List.map_id'' (fun ⟨_, _⟩ => rfl) ps
    rw [e] at q
    exact q
  · exact ReachP.turn
/-- the pegs tied to p, ascending -/
noncomputable def tiedL (k : Nat) (ps : List (Int × Int)) (p : Int) : List Int := (pegs k).filter fun x => decide (ReachP ps p x ∧ ReachP ps x p)
theorem mem_tiedL {k : Nat} {ps : List (Int × Int)} {p x : Int} : x ∈ tiedL k ps p ↔ (0 ≤ x ∧ x < k) ∧ ReachP ps p x ∧ ReachP ps x p := by
  unfold tiedL
  rw [List.mem_filter, mem_pegs, decide_eq_true_eq]
theorem tiedL_same {k : Nat} {ps : List (Int × Int)} {p q : Int} (h : ReachP ps p q) (h' : ReachP ps q p) : tiedL k ps q = tiedL k ps p := by
  unfold tiedL
  refine List.filter_congr fun x _ => ?_
  rw [decide_eq_decide]
  exact ⟨fun z => ⟨h.trans z.1, z.2.trans h'⟩, fun z => ⟨h'.trans z.1, z.2.trans h⟩⟩
theorem tiedL_sorted (k : Nat) (ps : List (Int × Int)) (p : Int) : (tiedL k ps p).Pairwise (· < ·) := (pegs_sorted k).filter _
/-- a strictly ascending list is fixed by its members -/
theorem asc_unique : ∀ {xs ys : List Int}, xs.Pairwise (· < ·) → ys.Pairwise (· < ·) → (∀ z, z ∈ xs ↔ z ∈ ys) → xs = ys
  | [], [], _, _, _ => rfl
  | [], y :: ys, _, _, h => absurd ((h y).mpr List.mem_cons_self) (by simp)
  | x :: xs, [], _, _, h => absurd ((h x).mp List.mem_cons_self) (by simp)
  | x :: xs, y :: ys, hx, hy, h => by
    obtain ⟨hx1, hx2⟩ := List.pairwise_cons.mp hx
    obtain ⟨hy1, hy2⟩ := List.pairwise_cons.mp hy
    have e : x = y := by
      rcases List.mem_cons.mp ((h x).mp List.mem_cons_self) with e | m
      · exact e
      · rcases List.mem_cons.mp ((h y).mpr List.mem_cons_self) with e | m'
        · exact e.symm
        · have := hy1 x m
          have := hx1 y m'
          omega
    subst e
    refine congrArg (x :: ·) (asc_unique hx2 hy2 fun z => ?_)
    constructor
    · intro m
      rcases List.mem_cons.mp ((h z).mp (List.mem_cons_of_mem _ m)) with e | m'
      · have := hx1 z m
        omega
      · exact m'
    · intro m
      rcases List.mem_cons.mp ((h z).mpr (List.mem_cons_of_mem _ m)) with e | m'
      · have := hy1 z m
        omega
      · exact m'

/-! ### sets, disc by disc -/
/-- the guard has a peg in common with the set -/
def meetsB (g S : List Int) : Bool := g.any fun x => decide (x ∈ S)
theorem meetsB_iff {g S : List Int} : meetsB g S = true ↔ ∃ x, x ∈ g ∧ x ∈ S := by
  unfold meetsB
  rw [List.any_eq_true]
  constructor
  · rintro ⟨x, h, e⟩
    exact ⟨x, h, of_decide_eq_true e⟩
  · rintro ⟨x, h, e⟩
    exact ⟨x, h, decide_eq_true e⟩
/-- the arrows of a web whose guard all the sets meet -/
def usab (acc : List (List Int)) (w : List Arr) : List Arr := w.filter fun r => acc.all fun S => meetsB r.g S
def endsL (w : List Arr) : List (Int × Int) := w.map fun r => (r.a, r.b)
theorem mem_ends {acc : List (List Int)} {w : List Arr} {x y : Int} : (x, y) ∈ endsL (usab acc w) ↔ ∃ r, r ∈ w ∧ (∀ S ∈ acc, meetsB r.g S = true) ∧ r.a = x ∧ r.b = y := by
  unfold endsL usab
  rw [List.mem_map]
  constructor
  · rintro ⟨r, h, e⟩
    obtain ⟨h1, h2⟩ := List.mem_filter.mp h
    cases e
    exact ⟨r, h1, List.all_eq_true.mp h2, rfl, rfl⟩
  · rintro ⟨r, h1, h2, rfl, rfl⟩
    exact ⟨r, List.mem_filter.mpr ⟨h1, List.all_eq_true.mpr h2⟩, rfl⟩
noncomputable def setsL (k : Nat) : Webs → List Int → List (List Int) → List (List Int)
  | w :: ws, p :: ps, acc => setsL k ws ps (acc ++ [tiedL k (endsL (usab acc w)) p])
  | _, _, acc => acc
noncomputable def sets (k : Nat) (ws : Webs) (p : List Int) : List (List Int) := setsL k ws p []
theorem setsL_len {k : Nat} : ∀ {ws : Webs} {p : List Int} {acc : List (List Int)}, p.length = ws.length → (setsL k ws p acc).length = acc.length + ws.length
  | [], [], acc, _ => by simp [setsL]
  | w :: ws, x :: ps, acc, h => by
    rw [setsL, setsL_len (by simpa using h), List.length_append, List.length_cons, List.length_cons, List.length_nil]
    omega
  | [], _ :: _, _, h => by simp at h
  | _ :: _, [], _, h => by simp at h
theorem sets_len {k : Nat} {ws : Webs} {p : List Int} (h : p.length = ws.length) : (sets k ws p).length = ws.length := by
  unfold sets
  rw [setsL_len h]
  simp
theorem setsL_pre {k : Nat} : ∀ {ws : Webs} {p : List Int} {acc : List (List Int)}, ∃ more, setsL k ws p acc = acc ++ more
  | [], _, acc => ⟨[], by simp [setsL]⟩
  | _ :: _, [], acc => ⟨[], by simp [setsL]⟩
  | w :: ws, x :: ps, acc => by
    obtain ⟨m, h⟩ := setsL_pre (k := k) (ws := ws) (p := ps) (acc := acc ++ [tiedL k (endsL (usab acc w)) x])
    exact ⟨tiedL k (endsL (usab acc w)) x :: m, by rw [setsL, h]; simp⟩
/-- the d-th set, by the lesser ones -/
theorem setsL_at {k : Nat} : ∀ {ws : Webs} {p : List Int} {acc : List (List Int)} {d : Nat} {w : List Arr} {x : Int}, ws[d]? = some w → p[d]? = some x →
    (setsL k ws p acc)[acc.length + d]? = some (tiedL k (endsL (usab ((setsL k ws p acc).take (acc.length + d)) w)) x)
  | [], _, _, d, w, x, h, _ => by simp at h
  | _ :: _, [], _, d, w, x, _, h => by simp at h
  | v :: ws, y :: ps, acc, 0, w, x, h, h' => by
    have e1 : v = w := by simpa using h
    have e2 : y = x := by simpa using h'
    subst e1 e2
    obtain ⟨m, e⟩ := setsL_pre (k := k) (ws := ws) (p := ps) (acc := acc ++ [tiedL k (endsL (usab acc v)) y])
    rw [setsL, e]
    simp
  | v :: ws, y :: ps, acc, d + 1, w, x, h, h' => by
    have q := setsL_at (k := k) (ws := ws) (p := ps) (acc := acc ++ [tiedL k (endsL (usab acc v)) y]) (d := d) (w := w) (x := x) (by simpa using h) (by simpa using h')
    have e : (acc ++ [tiedL k (endsL (usab acc v)) y]).length + d = acc.length + (d + 1) := by
      rw [List.length_append, List.length_singleton]
      omega
    rw [e] at q
    rw [setsL]
    exact q
theorem sets_at {k : Nat} {ws : Webs} {p : List Int} {d : Nat} {w : List Arr} {x : Int} (h : ws[d]? = some w) (h' : p[d]? = some x) :
    (sets k ws p)[d]? = some (tiedL k (endsL (usab ((sets k ws p).take d) w)) x) := by
  have q := setsL_at (k := k) (acc := []) h h'
  simpa [sets] using q
/-- the sets of the first m discs -/
theorem setsL_take {k : Nat} : ∀ {ws : Webs} {p : List Int} {acc : List (List Int)} (m : Nat), setsL k (ws.take m) (p.take m) acc = (setsL k ws p acc).take (acc.length + m)
  | [], _, acc, m => by
    rw [List.take_nil]
    simp only [setsL]
    exact (List.take_of_length_le (Nat.le_add_right _ _)).symm
  | v :: ws, [], acc, m => by
    rw [List.take_nil]
    have e : acc = acc.take (acc.length + m) := (List.take_of_length_le (Nat.le_add_right _ _)).symm
    cases m with
    | zero => simp [setsL]
    | succ m =>
      simp only [setsL]
      exact e
  | v :: ws, y :: ps, acc, 0 => by
    obtain ⟨m, e⟩ := setsL_pre (k := k) (ws := v :: ws) (p := y :: ps) (acc := acc)
    rw [e]
    simp [setsL]
  | v :: ws, y :: ps, acc, m + 1 => by
    rw [List.take_succ_cons, List.take_succ_cons, setsL, setsL, setsL_take m]
    congr 1
    rw [List.length_append, List.length_singleton]
    omega
theorem sets_take {k : Nat} {ws : Webs} {p : List Int} (m : Nat) : sets k (ws.take m) (p.take m) = (sets k ws p).take m := by
  unfold sets
  rw [setsL_take]
  simp

/-! ### moves, plays -/
/-- the arrow r of the d-th web is open at p -/
def Open (ws : Webs) (p : List Int) (d : Nat) (r : Arr) : Prop := (∃ w, ws[d]? = some w ∧ r ∈ w) ∧ p[d]? = some r.a ∧ ∀ e, e < d → ∃ x, p[e]? = some x ∧ x ∈ r.g
inductive Reach (ws : Webs) (p : List Int) : List Int → Prop
  | refl : Reach ws p p
  | step {q : List Int} {d : Nat} {r : Arr} : Reach ws p q → Open ws q d r → Reach ws p (q.set d r.b)
theorem Reach.trans {ws : Webs} {p q r : List Int} (h : Reach ws p q) (h' : Reach ws q r) : Reach ws p r := by
  induction h' with
  | refl => exact h
  | step _ o ih => exact .step ih o
theorem Reach.one {ws : Webs} {p : List Int} {d : Nat} {r : Arr} (o : Open ws p d r) : Reach ws p (p.set d r.b) := .step .refl o
theorem Reach.len {ws : Webs} {p q : List Int} (h : Reach ws p q) : q.length = p.length := by
  induction h with
  | refl => rfl
  | step _ _ ih => rw [List.length_set, ih]
/-- a position: n pegs -/
def IsPos (k n : Nat) (p : List Int) : Prop := p.length = n ∧ ∀ x ∈ p, 0 ≤ x ∧ x < k
/-- the arrows' stops are pegs -/
def StopsOk (k : Nat) (ws : Webs) : Prop := ∀ w ∈ ws, ∀ r ∈ w, 0 ≤ r.b ∧ r.b < k
theorem Open.pos {k n : Nat} {ws : Webs} {p : List Int} {d : Nat} {r : Arr} (ok : StopsOk k ws) (h : IsPos k n p) (o : Open ws p d r) : IsPos k n (p.set d r.b) := by
  obtain ⟨⟨w, h1, h2⟩, _⟩ := o
  refine ⟨by rw [List.length_set]; exact h.1, fun x hx => ?_⟩
  rcases List.mem_or_eq_of_mem_set hx with m | e
  · exact h.2 x m
  · rw [e]
    exact ok w (List.mem_of_getElem? h1) r h2
theorem Reach.pos {k n : Nat} {ws : Webs} {p q : List Int} (ok : StopsOk k ws) (h : IsPos k n p) (r : Reach ws p q) : IsPos k n q := by
  induction r with
  | refl => exact h
  | step _ o ih => exact o.pos ok ih
/-- the webs turned -/
def turnA (r : Arr) : Arr := ⟨r.b, r.a, r.g, r.c⟩
def turnW (ws : Webs) : Webs := ws.map fun w => w.map turnA
theorem Open.turn {ws : Webs} {p : List Int} {d : Nat} {r : Arr} (o : Open ws p d r) : Open (turnW ws) (p.set d r.b) d (turnA r) ∧ (p.set d r.b).set d (turnA r).b = p := by
  obtain ⟨⟨w, h1, h2⟩, h3, h4⟩ := o
  have hd : d < p.length := (List.getElem?_eq_some_iff.mp h3).1
  refine ⟨⟨⟨w.map turnA, ?_, List.mem_map.mpr ⟨r, h2, rfl⟩⟩, ?_, fun e he => ?_⟩, ?_⟩
  · unfold turnW
    rw [List.getElem?_map, h1]
    rfl
  · rw [List.getElem?_set_self hd]
    rfl
  · obtain ⟨x, h5, h6⟩ := h4 e he
    exact ⟨x, by rw [List.getElem?_set_ne (by omega)]; exact h5, h6⟩
  · rw [List.set_set]
    have e : p[d]'hd = r.a := (List.getElem?_eq_some_iff.mp h3).2
    show p.set d r.a = p
    rw [← e]
    exact List.set_getElem_self hd
theorem Reach.turn {ws : Webs} {p q : List Int} (h : Reach ws p q) : Reach (turnW ws) q p := by
  induction h with
  | refl => exact .refl
  | step _ o ih =>
    obtain ⟨o1, e⟩ := o.turn
    have q := Reach.one o1
    rw [e] at q
    exact q.trans ih
theorem turn_turn (ws : Webs) : turnW (turnW ws) = ws := by
  unfold turnW
  rw [List.map_map]
  refine List.map_id'' (fun w => ?_) ws
  show (w.map turnA).map turnA = w
  rw [List.map_map]
  exact List.map_id'' (fun _ => rfl) w
theorem reach_turn {ws : Webs} {p q : List Int} : Reach (turnW ws) q p ↔ Reach ws p q := by
  constructor
  · intro h
    have z := h.turn
    rw [turn_turn] at z
    exact z
  · exact Reach.turn

/-- q lies in p's room -/
def InRoom (ws : Webs) (p q : List Int) : Prop := Reach ws p q ∧ Reach ws q p
theorem InRoom.refl {ws : Webs} {p : List Int} : InRoom ws p p := ⟨.refl, .refl⟩
theorem InRoom.symm {ws : Webs} {p q : List Int} (h : InRoom ws p q) : InRoom ws q p := ⟨h.2, h.1⟩
theorem InRoom.trans {ws : Webs} {p q r : List Int} (h : InRoom ws p q) (h' : InRoom ws q r) : InRoom ws p r := ⟨h.1.trans h'.1, h'.2.trans h.2⟩
/-- q lies in the box -/
def InBox (box : List (List Int)) (q : List Int) : Prop := ∀ (d : Nat) (S : List Int) (x : Int), box[d]? = some S → q[d]? = some x → x ∈ S

/-! ### the room rule -/
section
variable {k : Nat} {ws : Webs} {p : List Int}
/-- a room lies in its box -/
theorem room_box (ok : StopsOk k ws) (hp : IsPos k ws.length p) : ∀ (d : Nat) (q : List Int) (S : List Int) (x : Int), InRoom ws p q → (sets k ws p)[d]? = some S → q[d]? = some x → x ∈ S := by
  intro d
  induction d using Nat.strongRecOn with
  | _ d ih =>
    intro q S x hr hS hx
    have hl : (sets k ws p).length = ws.length := sets_len hp.1
    have hd : d < ws.length := by
      rw [← hl]
      exact (List.getElem?_eq_some_iff.mp hS).1
    have hw : ws[d]? = some ws[d] := List.getElem?_eq_getElem hd
    have hpd : d < p.length := by rw [hp.1]; exact hd
    have hy : p[d]? = some p[d] := List.getElem?_eq_getElem hpd
    have eS := sets_at (k := k) hw hy
    rw [hS] at eS
    have eS := Option.some.inj eS
    -- a move of the disc d within the room goes along a usable arrow
    have usable : ∀ {q : List Int} {r : Arr}, InRoom ws p q → Open ws q d r → (r.a, r.b) ∈ endsL (usab ((sets k ws p).take d) ws[d]) := by
      intro q r hq o
      obtain ⟨⟨w, h1, h2⟩, h3, h4⟩ := o
      rw [hw] at h1
      cases h1
      refine mem_ends.mpr ⟨r, h2, fun T hT => ?_, rfl, rfl⟩
      obtain ⟨e, he, hTe⟩ := List.getElem_of_mem hT
      have hed : e < d := by
        rw [List.length_take] at he
        omega
      have hT2 : (sets k ws p)[e]? = some T := by
        rw [← hTe, List.getElem_take]
        exact List.getElem?_eq_getElem _
      obtain ⟨z, hz, hg⟩ := h4 e hed
      exact meetsB_iff.mpr ⟨z, hg, ih e hed q T z hq hT2 hz⟩
    -- along a play within the room
    have along : ∀ {u v : List Int}, Reach ws u v → InRoom ws p u → InRoom ws p v → ∀ a b, u[d]? = some a → v[d]? = some b → ReachP (endsL (usab ((sets k ws p).take d) ws[d])) a b := by
      intro u v h
      induction h with
      | refl =>
        intro _ _ a b ha hb
        rw [ha] at hb
        cases hb
        exact .refl
      | @step v d' r hv o ih2 =>
        intro hu hv2 a b ha hb
        have hmid : InRoom ws p v := ⟨hu.1.trans hv, (Reach.one o).trans hv2.2⟩
        by_cases e : d' = d
        · subst e
          have hdv : d' < v.length := (List.getElem?_eq_some_iff.mp o.2.1).1
          rw [List.getElem?_set_self hdv] at hb
          cases hb
          exact .step (ih2 hu hmid a r.a ha o.2.1) (usable hmid o)
        · rw [List.getElem?_set_ne e] at hb
          exact ih2 hu hmid a b ha hb
    rw [eS]
    refine mem_tiedL.mpr ⟨(hr.1.pos ok hp).2 x (List.mem_of_getElem? hx), along hr.1 .refl hr _ _ hy hx, along hr.2 hr .refl _ _ hx hy⟩
/-- two positions of the box that are alike from m on: the one leads to the other -/
theorem box_leads (hp : IsPos k ws.length p) : ∀ (m : Nat), m ≤ ws.length → ∀ (x y : List Int), x.length = ws.length → y.length = ws.length →
    (∀ d, m ≤ d → x[d]? = y[d]?) → (∀ (d : Nat) (S : List Int), d < m → (sets k ws p)[d]? = some S → (∃ a, x[d]? = some a ∧ a ∈ S) ∧ ∃ b, y[d]? = some b ∧ b ∈ S) → Reach ws x y := by
  intro m
  induction m with
  | zero =>
    intro _ x y _ _ h _
    have e : x = y := List.ext_getElem? fun d => h d (Nat.zero_le _)
    rw [e]
    exact .refl
  | succ m ih =>
    intro hm x y lx ly hxy hS
    have hl : (sets k ws p).length = ws.length := sets_len hp.1
    have hmw : m < ws.length := hm
    have hw : ws[m]? = some ws[m] := List.getElem?_eq_getElem hmw
    have hpm : m < p.length := by rw [hp.1]; exact hmw
    have hpy : p[m]? = some p[m] := List.getElem?_eq_getElem hpm
    have eS := sets_at (k := k) hw hpy
    generalize hU : endsL (usab ((sets k ws p).take m) ws[m]) = U at eS
    obtain ⟨⟨a, ha, haS⟩, b, hb, hbS⟩ := hS m _ (Nat.lt_succ_self m) eS
    obtain ⟨_, ha1, ha2⟩ := mem_tiedL.mp haS
    obtain ⟨_, hb1, hb2⟩ := mem_tiedL.mp hbS
    -- each lesser set has a position
    have some_ : ∀ d, d < m → ∃ S, (sets k ws p)[d]? = some S := fun d hd => ⟨_, List.getElem?_eq_getElem (by rw [hl]; omega)⟩
    -- from x to any position with v at m, lesser discs anywhere in their sets
    have go : ∀ v, ReachP U a v → ∀ z : List Int, z.length = ws.length → z[m]? = some v → (∀ d, m < d → z[d]? = x[d]?) → (∀ (d : Nat) (S : List Int), d < m → (sets k ws p)[d]? = some S → ∃ b, z[d]? = some b ∧ b ∈ S) → Reach ws x z := by
      intro v hv
      induction hv with
      | refl =>
        intro z lz hz hzx hzS
        refine ih (Nat.le_of_lt hmw) x z lx lz (fun d hd => ?_) fun d S hd hS2 => ⟨(hS d S (by omega) hS2).1, hzS d S hd hS2⟩
        by_cases e : d = m
        · rw [e, ha, hz]
        · exact (hzx d (by omega)).symm
      | @step v' v _ mem ihv =>
        intro z lz hz hzx hzS
        rw [← hU] at mem
        obtain ⟨r, hr1, hr2, hr3, hr4⟩ := mem_ends.mp mem
        -- lesser discs onto the guard
        have pick : ∀ d, d < m → ∃ x, x ∈ r.g ∧ ∀ S, (sets k ws p)[d]? = some S → x ∈ S := fun d hd => by
          obtain ⟨S, hS2⟩ := some_ d hd
          have hin : S ∈ (sets k ws p).take m := List.mem_of_getElem? (i := d) (by rw [List.getElem?_take_of_lt hd]; exact hS2)
          obtain ⟨x, h1, h2⟩ := meetsB_iff.mp (hr2 S hin)
          exact ⟨x, h1, fun S' hS' => by rw [hS2] at hS'; cases hS'; exact h2⟩
        let f : Nat → Int := fun d => if h : d < m then Classical.choose (pick d h) else if d = m then v' else x.getD d 0
        let z' : List Int := (List.range ws.length).map f
        have lz' : z'.length = ws.length := by simp [z']
        have z'at : ∀ d, d < ws.length → z'[d]? = some (f d) := fun d hd => by simp [z', List.getElem?_map, List.getElem?_range hd]
        have flow : ∀ d (h : d < m), f d = Classical.choose (pick d h) := fun d h => by simp only [f, dif_pos h]
        have fm : f m = v' := by simp [f]
        have fhi : ∀ d, m < d → f d = x.getD d 0 := fun d h => by
          have h1 : ¬ d < m := by omega
          have h2 : ¬ d = m := by omega
          simp only [f, dif_neg h1, if_neg h2]
        have hx' : Reach ws x z' := by
          refine ihv z' lz' (by rw [z'at m hmw, fm]) (fun d hd => ?_) fun d S hd hS2 => ?_
          · by_cases hdw : d < ws.length
            · have hdx : d < x.length := by rw [lx]; exact hdw
              rw [z'at d hdw, fhi d hd, List.getD_eq_getElem?_getD, List.getElem?_eq_getElem hdx]
              rfl
            · rw [List.getElem?_eq_none (by rw [lz']; omega), List.getElem?_eq_none (by rw [lx]; omega)]
          · refine ⟨f d, z'at d (by omega), ?_⟩
            rw [flow d hd]
            exact (Classical.choose_spec (pick d hd)).2 S hS2
        have o : Open ws z' m r := by
          refine ⟨⟨ws[m], hw, hr1⟩, by rw [z'at m hmw, fm, hr3], fun e he => ⟨f e, z'at e (by omega), ?_⟩⟩
          rw [flow e he]
          exact (Classical.choose_spec (pick e he)).1
        have h2 : Reach ws x (z'.set m r.b) := .step hx' o
        refine h2.trans (ih (Nat.le_of_lt hmw) _ z (by rw [List.length_set, lz']) lz (fun d hd => ?_) fun d S hd hS2 => ⟨?_, hzS d S hd hS2⟩)
        · by_cases e : d = m
          · rw [e, List.getElem?_set_self (by rw [lz']; exact hmw), hz, hr4]
          · rw [List.getElem?_set_ne (Ne.symm e), hzx d (by omega)]
            by_cases hdw : d < ws.length
            · have hdx : d < x.length := by rw [lx]; exact hdw
              rw [z'at d hdw, fhi d (by omega), List.getD_eq_getElem?_getD, List.getElem?_eq_getElem hdx]
              rfl
            · rw [List.getElem?_eq_none (by rw [lz']; omega), List.getElem?_eq_none (by rw [lx]; omega)]
        · refine ⟨f d, ?_, ?_⟩
          · rw [List.getElem?_set_ne (by omega)]
            exact z'at d (by omega)
          · rw [flow d hd]
            exact (Classical.choose_spec (pick d hd)).2 S hS2
    refine go b (ha2.trans hb1) y ly hb (fun d hd => (hxy d hd).symm) fun d S hd hS2 => (hS d S (by omega) hS2).2
theorem box_room (hp : IsPos k ws.length p) {q : List Int} (hq : q.length = ws.length) (h : InBox (sets k ws p) q) (h0 : InBox (sets k ws p) p) : InRoom ws p q := by
  have lp := hp.1
  have at_ : ∀ {u : List Int}, u.length = ws.length → InBox (sets k ws p) u → ∀ (d : Nat) (S : List Int), d < ws.length → (sets k ws p)[d]? = some S → ∃ a, u[d]? = some a ∧ a ∈ S := fun {u} lu hu d S hd hS => by
    have hdu : d < u.length := by rw [lu]; exact hd
    exact ⟨u[d], List.getElem?_eq_getElem hdu, hu d S _ hS (List.getElem?_eq_getElem hdu)⟩
  refine ⟨box_leads hp ws.length (Nat.le_refl _) p q lp hq (fun d hd => ?_) fun d S hd hS => ⟨at_ lp h0 d S hd hS, at_ hq h d S hd hS⟩,
    box_leads hp ws.length (Nat.le_refl _) q p hq lp (fun d hd => ?_) fun d S hd hS => ⟨at_ hq h d S hd hS, at_ lp h0 d S hd hS⟩⟩
  · rw [List.getElem?_eq_none (by omega), List.getElem?_eq_none (by omega)]
  · rw [List.getElem?_eq_none (by omega), List.getElem?_eq_none (by omega)]
/-- THE ROOM RULE -/
theorem room_rule (ok : StopsOk k ws) (hp : IsPos k ws.length p) {q : List Int} (hq : q.length = ws.length) : InRoom ws p q ↔ InBox (sets k ws p) q :=
  ⟨fun h d S x hS hx => room_box ok hp d q S x h hS hx, fun h => box_room hp hq h fun d S x hS hx => room_box ok hp d p S x .refl hS hx⟩
/-- the positions of a room have the same sets -/
theorem sets_same (ok : StopsOk k ws) (hp : IsPos k ws.length p) {q : List Int} (h : InRoom ws p q) : sets k ws q = sets k ws p := by
  have hq : IsPos k ws.length q := h.1.pos ok hp
  have l1 : (sets k ws p).length = ws.length := sets_len hp.1
  have l2 : (sets k ws q).length = ws.length := sets_len hq.1
  have key : ∀ m, m ≤ ws.length → (sets k ws q).take m = (sets k ws p).take m := by
    intro m
    induction m with
    | zero => intro _; simp
    | succ m ih =>
      intro hm
      have e := ih (by omega)
      have hw : ws[m]? = some ws[m] := List.getElem?_eq_getElem hm
      have hpm : p[m]? = some (p[m]'(by rw [hp.1]; exact hm)) := List.getElem?_eq_getElem _
      have hqm : q[m]? = some (q[m]'(by rw [hq.1]; exact hm)) := List.getElem?_eq_getElem _
      have e1 := sets_at (k := k) hw hpm
      have e2 := sets_at (k := k) hw hqm
      rw [e] at e2
      have t := room_box ok hp m q _ _ h e1 hqm
      obtain ⟨_, t1, t2⟩ := mem_tiedL.mp t
      rw [tiedL_same t1 t2] at e2
      rw [List.take_add_one, List.take_add_one, e, e1, e2]
  have z := key ws.length (Nat.le_refl _)
  rw [List.take_of_length_le (by omega), List.take_of_length_le (by omega)] at z
  exact z
end
end K07
end K07_part_Math

section K07_part_Math2
set_option autoImplicit false
/-! Plain mathematics, 2: products, positions, representatives. -/
namespace K07
open Classical

/-! ### all rows of a box, as the program makes them -/
def prodL (box : List (List Int)) : List (List Int) := box.foldl (fun rows S => rows.flatMap fun r => S.map fun x => r ++ [x]) [[]]
theorem prodL_nil : prodL [] = [[]] := rfl
theorem prodL_snoc (box : List (List Int)) (S : List Int) : prodL (box ++ [S]) = (prodL box).flatMap fun r => S.map fun x => r ++ [x] := by
  unfold prodL
  rw [List.foldl_append]
  rfl
def allP (k n : Nat) : List (List Int) := prodL (List.replicate n (pegs k))
theorem allP_zero (k : Nat) : allP k 0 = [[]] := rfl
theorem allP_succ (k n : Nat) : allP k (n + 1) = (allP k n).flatMap fun r => (pegs k).map fun x => r ++ [x] := by
  unfold allP
  rw [List.replicate_succ', prodL_snoc]
theorem length_snocs (rows : List (List Int)) (S : List Int) : (rows.flatMap fun r => S.map fun x => r ++ [x]).length = rows.length * S.length := by
  induction rows with
  | nil => simp
  | cons r rows ih => rw [List.flatMap_cons, List.length_append, List.length_map, ih, List.length_cons, Nat.succ_mul, Nat.add_comm]
def manyL (box : List (List Int)) : Nat := box.foldl (fun z S => z * S.length) 1
theorem manyL_snoc (box : List (List Int)) (S : List Int) : manyL (box ++ [S]) = manyL box * S.length := by
  unfold manyL
  rw [List.foldl_append]
  rfl
theorem snoc_ind {α : Type} {motive : List α → Prop} (h0 : motive []) (h1 : ∀ l x, motive l → motive (l ++ [x])) (l : List α) : motive l := by
  have q : ∀ l : List α, motive l.reverse := fun l => by
    induction l with
    | nil => exact h0
    | cons x l ih => rw [List.reverse_cons]; exact h1 _ x ih
  have z := q l.reverse
  rwa [List.reverse_reverse] at z
theorem length_prodL (box : List (List Int)) : (prodL box).length = manyL box := by
  induction box using snoc_ind with
  | h0 => rfl
  | h1 box S ih => rw [prodL_snoc, length_snocs, manyL_snoc, ih]
theorem length_allP (k n : Nat) : (allP k n).length = k ^ n := by
  induction n with
  | zero => rfl
  | succ n ih => rw [allP_succ, length_snocs, ih, pegs_len, Nat.pow_succ]
theorem mem_snocs {rows : List (List Int)} {S : List Int} {q : List Int} : (q ∈ rows.flatMap fun r => S.map fun x => r ++ [x]) ↔ ∃ r x, r ∈ rows ∧ x ∈ S ∧ q = r ++ [x] := by
  rw [List.mem_flatMap]
  constructor
  · rintro ⟨r, h1, h2⟩
    obtain ⟨x, h3, e⟩ := List.mem_map.mp h2
    exact ⟨r, x, h1, h3, e.symm⟩
  · rintro ⟨r, x, h1, h2, rfl⟩
    exact ⟨r, h1, List.mem_map.mpr ⟨x, h2, rfl⟩⟩
theorem mem_prodL_len {box : List (List Int)} : ∀ q ∈ prodL box, q.length = box.length := by
  induction box using snoc_ind with
  | h0 => intro q h; have e : q = [] := by simpa [prodL_nil] using h
          rw [e]; rfl
  | h1 box S ih =>
    intro q h
    rw [prodL_snoc] at h
    obtain ⟨r, x, h1, _, rfl⟩ := mem_snocs.mp h
    rw [List.length_append, List.length_append, ih r h1]
    rfl
theorem mem_allP {k n : Nat} {q : List Int} : q ∈ allP k n ↔ IsPos k n q := by
  induction n generalizing q with
  | zero =>
    rw [allP_zero, List.mem_singleton]
    constructor
    · rintro rfl
      exact ⟨rfl, fun x h => by simp at h⟩
    · intro h
      exact List.eq_nil_of_length_eq_zero h.1
  | succ n ih =>
    rw [allP_succ, mem_snocs]
    constructor
    · rintro ⟨r, x, h1, h2, rfl⟩
      have z := ih.mp h1
      refine ⟨by rw [List.length_append, z.1]; rfl, fun y hy => ?_⟩
      rcases List.mem_append.mp hy with m | m
      · exact z.2 y m
      · rw [List.mem_singleton.mp m]
        exact mem_pegs.mp h2
    · intro h
      have hne : q ≠ [] := fun e => by
        have := h.1
        rw [e] at this
        simp at this
      refine ⟨q.dropLast, q.getLast hne, ih.mpr ⟨by rw [List.length_dropLast, h.1]; rfl, fun x hx => h.2 x (List.dropLast_subset q hx)⟩, mem_pegs.mpr (h.2 _ (List.getLast_mem hne)), (List.dropLast_concat_getLast hne).symm⟩
theorem nodup_snocs {rows : List (List Int)} {S : List Int} (h : rows.Nodup) (hS : S.Nodup) : (rows.flatMap fun r => S.map fun x => r ++ [x]).Nodup := by
  induction rows with
  | nil => simp
  | cons r rows ih =>
    obtain ⟨h1, h2⟩ := List.nodup_cons.mp h
    rw [List.flatMap_cons, List.nodup_append]
    refine ⟨?_, ih h2, fun a ha b hb e => ?_⟩
    · refine List.pairwise_map.mpr (List.Pairwise.imp (fun {x y} hxy e => hxy ?_) hS)
      have e2 := (List.append_inj' e rfl).2
      exact List.head_eq_of_cons_eq e2
    · obtain ⟨x, _, e1⟩ := List.mem_map.mp ha
      obtain ⟨r', x', hr', _, e2⟩ := mem_snocs.mp hb
      rw [← e1, e2] at e
      have e3 := (List.append_inj' e rfl).1
      rw [e3] at h1
      exact h1 hr'
theorem pegs_nodup (k : Nat) : (pegs k).Nodup := (pegs_sorted k).imp fun {a b} h e => by omega
theorem nodup_allP (k n : Nat) : (allP k n).Nodup := by
  induction n with
  | zero => simp [allP_zero]
  | succ n ih => rw [allP_succ]; exact nodup_snocs ih (pegs_nodup k)

theorem filter_snocs {rows : List (List Int)} {S : List Int} (P : List Int → Bool) (f : Int → Bool) (Q : List Int → Bool) (h : ∀ r ∈ rows, ∀ x ∈ S, Q (r ++ [x]) = (P r && f x)) :
    ((rows.filter P).flatMap fun r => (S.filter f).map fun x => r ++ [x]) = (rows.flatMap fun r => S.map fun x => r ++ [x]).filter Q := by
  induction rows with
  | nil => rfl
  | cons r rows ih =>
    have ih := ih fun r' hr' => h r' (List.mem_cons_of_mem _ hr')
    rw [List.flatMap_cons, List.filter_append, ← ih, List.filter_cons]
    have e : (S.map fun x => r ++ [x]).filter Q = (S.filter fun x => P r && f x).map fun x => r ++ [x] := by
      rw [List.filter_map]
      congr 1
      exact List.filter_congr fun x hx => h r List.mem_cons_self x hx
    rw [e]
    cases hP : P r with
    | true =>
      rw [if_pos rfl, List.flatMap_cons]
      simp only [Bool.true_and]
    | false =>
      rw [if_neg Bool.false_ne_true]
      have e2 : (S.filter fun x => false && f x) = [] := by
        rw [List.filter_eq_nil_iff]
        intro x _
        simp
      rw [e2]
      rfl
/-- q lies in the box, as a Bool -/
noncomputable def inBoxB (box : List (List Int)) (q : List Int) : Bool := decide (InBox box q)
theorem inBox_snoc {box : List (List Int)} {S r : List Int} {x : Int} (h : r.length = box.length) : InBox (box ++ [S]) (r ++ [x]) ↔ InBox box r ∧ x ∈ S := by
  constructor
  · intro hb
    refine ⟨fun d T y h1 h2 => hb d T y ?_ ?_, hb box.length S x (by simp) (by rw [← h]; simp)⟩
    · rw [List.getElem?_append_left (List.getElem?_eq_some_iff.mp h1).1]; exact h1
    · rw [List.getElem?_append_left (List.getElem?_eq_some_iff.mp h2).1]; exact h2
  · rintro ⟨h1, h2⟩ d T y e1 e2
    by_cases hd : d < box.length
    · rw [List.getElem?_append_left hd] at e1
      rw [List.getElem?_append_left (by omega)] at e2
      exact h1 d T y e1 e2
    · rw [List.getElem?_append_right (by omega)] at e1
      rw [List.getElem?_append_right (by omega)] at e2
      rw [h] at e2
      cases hz : d - box.length with
      | zero =>
        rw [hz] at e1 e2
        have a1 : S = T := by simpa using e1
        have a2 : x = y := by simpa using e2
        rw [← a1, ← a2]
        exact h2
      | succ z => rw [hz] at e1; simp at e1
/-- each set is a part of the pegs, in their order -/
def SubBox (k : Nat) (box : List (List Int)) : Prop := ∀ S ∈ box, (pegs k).filter (fun x => decide (x ∈ S)) = S
theorem prod_filter {k : Nat} {box : List (List Int)} (h : SubBox k box) : prodL box = (allP k box.length).filter (inBoxB box) := by
  induction box using snoc_ind with
  | h0 =>
    have e : inBoxB [] [] = true := decide_eq_true fun d S x h1 _ => by simp at h1
    rw [prodL_nil]
    show [[]] = List.filter (inBoxB []) [[]]
    rw [List.filter_cons, if_pos e]
    rfl
  | h1 box S ih =>
    have ih := ih fun T hT => h T (List.mem_append_left _ hT)
    have hS := h S (List.mem_append_right _ List.mem_cons_self)
    rw [prodL_snoc, ih, List.length_append, List.length_singleton, allP_succ]
    conv => lhs; rw [← hS]
    refine filter_snocs _ _ _ fun r hr x _ => ?_
    have lr : r.length = box.length := (mem_allP.mp hr).1
    unfold inBoxB
    rw [← Bool.decide_and, decide_eq_decide, inBox_snoc lr]
theorem tied_sub (k : Nat) (ps : List (Int × Int)) (p : Int) : (pegs k).filter (fun x => decide (x ∈ tiedL k ps p)) = tiedL k ps p := by
  unfold tiedL
  refine List.filter_congr fun x hx => ?_
  rw [decide_eq_decide, List.mem_filter, decide_eq_true_eq]
  exact ⟨fun z => z.2, fun z => ⟨hx, z⟩⟩
theorem setsL_sub {k : Nat} : ∀ {ws : Webs} {p : List Int} {acc : List (List Int)}, SubBox k acc → SubBox k (setsL k ws p acc)
  | w :: ws, x :: ps, acc, h => by
    rw [setsL]
    refine setsL_sub fun S hS => ?_
    rcases List.mem_append.mp hS with m | m
    · exact h S m
    · rw [List.mem_singleton.mp m]
      exact tied_sub k _ x
  | [], _, acc, h => by simpa [setsL] using h
  | _ :: _, [], acc, h => by simpa [setsL] using h
theorem sets_sub (k : Nat) (ws : Webs) (p : List Int) : SubBox k (sets k ws p) := setsL_sub fun S h => by simp at h
theorem sub_asc {k : Nat} {box : List (List Int)} (h : SubBox k box) {S : List Int} (hS : S ∈ box) : S.Pairwise (· < ·) ∧ ∀ x ∈ S, 0 ≤ x ∧ x < k := by
  have e := h S hS
  refine ⟨by rw [← e]; exact (pegs_sorted k).filter _, fun x hx => ?_⟩
  rw [← e] at hx
  exact mem_pegs.mp (List.mem_filter.mp hx).1

/-! ### representatives -/
section
variable {k : Nat} {ws : Webs}
/-- the first position of the list in q's room -/
noncomputable def repF (ws : Webs) (l : List (List Int)) (q : List Int) : Option (List Int) := l.find? fun r => decide (InRoom ws r q)
theorem repF_nil (q : List Int) : repF ws [] q = none := rfl
theorem repF_snoc_old {l : List (List Int)} {p q r : List Int} (h : repF ws l p = some r) : repF ws (l ++ [p]) q = repF ws l q := by
  unfold repF at h ⊢
  rw [List.find?_append]
  cases e : l.find? fun r => decide (InRoom ws r q) with
  | some r' => rfl
  | none =>
    have hr : InRoom ws r p := of_decide_eq_true (by simpa using List.find?_some h)
    have hm := List.mem_of_find?_eq_some h
    have nq : ¬ InRoom ws p q := fun z => by
      have := List.find?_eq_none.mp e r hm
      exact this (decide_eq_true (hr.trans z))
    rw [Option.none_or, List.find?_cons, decide_eq_false nq]
    rfl
theorem repF_snoc_new {l : List (List Int)} {p q : List Int} (h : repF ws l p = none) : repF ws (l ++ [p]) q = if InRoom ws p q then some p else repF ws l q := by
  unfold repF at h ⊢
  rw [List.find?_append]
  by_cases hq : InRoom ws p q
  · rw [if_pos hq]
    have e : (l.find? fun r => decide (InRoom ws r q)) = none := by
      rw [List.find?_eq_none]
      intro r hr z
      have := List.find?_eq_none.mp h r hr
      exact this (decide_eq_true ((of_decide_eq_true z).trans hq.symm))
    rw [e, Option.none_or, List.find?_cons, decide_eq_true hq]
  · rw [if_neg hq, List.find?_cons, decide_eq_false hq]
    simp
theorem repF_some {l : List (List Int)} {q r : List Int} (h : repF ws l q = some r) : r ∈ l ∧ InRoom ws r q :=
  ⟨List.mem_of_find?_eq_some h, of_decide_eq_true (by simpa using List.find?_some h)⟩
theorem repF_of_mem {l : List (List Int)} {q : List Int} (h : q ∈ l) : ∃ r, repF ws l q = some r := by
  unfold repF
  cases e : l.find? fun r => decide (InRoom ws r q) with
  | some r => exact ⟨r, rfl⟩
  | none => exact absurd (decide_eq_true InRoom.refl) (List.find?_eq_none.mp e q h)
theorem repF_eq_iff {l : List (List Int)} {p q : List Int} (hp : p ∈ l) : repF ws l p = repF ws l q ↔ InRoom ws p q := by
  constructor
  · intro h
    obtain ⟨r, e⟩ := repF_of_mem (ws := ws) hp
    have h1 := (repF_some e).2
    rw [h] at e
    exact h1.symm.trans (repF_some e).2
  · intro h
    unfold repF
    congr 1
    funext r
    rw [decide_eq_decide]
    exact ⟨fun z => z.trans h, fun z => z.trans h.symm⟩
/-- the representative comes no later -/
theorem repF_take {l : List (List Int)} {i : Nat} {p : List Int} (h : l[i]? = some p) : ∃ r, repF ws l p = some r ∧ r ∈ l.take (i + 1) := by
  have hm : p ∈ l.take (i + 1) := List.mem_of_getElem? (i := i) (by rw [List.getElem?_take_of_lt (Nat.lt_succ_self i)]; exact h)
  obtain ⟨r, e⟩ := repF_of_mem (ws := ws) hm
  refine ⟨r, ?_, (repF_some e).1⟩
  unfold repF at e ⊢
  rw [← List.take_append_drop (i + 1) l, List.find?_append, e]
  rfl
end

/-! ### searches: closed sets -/
theorem closed_reach {ws : Webs} {p : List Int} {B : List (List Int)} (h0 : p ∈ B) (hc : ∀ q ∈ B, ∀ d r, Open ws q d r → q.set d r.b ∈ B) {q : List Int} (h : Reach ws p q) : q ∈ B := by
  induction h with
  | refl => exact h0
  | step _ o ih => exact hc _ ih _ _ o
theorem nodup_sub_len {α : Type} [DecidableEq α] : ∀ {l m : List α}, l.Nodup → (∀ x ∈ l, x ∈ m) → l.length ≤ m.length
  | [], _, _, _ => Nat.zero_le _
  | x :: l, m, h, hs => by
    obtain ⟨h1, h2⟩ := List.nodup_cons.mp h
    have hx := hs x List.mem_cons_self
    have q := nodup_sub_len (l := l) (m := m.erase x) h2 fun y hy => by
      have hne : y ≠ x := fun e => h1 (e ▸ hy)
      exact (List.mem_erase_of_ne hne).mpr (hs y (List.mem_cons_of_mem _ hy))
    rw [List.length_erase_of_mem hx] at q
    have : 0 < m.length := List.length_pos_of_mem hx
    rw [List.length_cons]
    omega
theorem pos_few {k n : Nat} {B : List (List Int)} (h : B.Nodup) (hp : ∀ q ∈ B, IsPos k n q) : B.length ≤ k ^ n := by
  rw [← length_allP k n]
  exact nodup_sub_len h fun q hq => mem_allP.mpr (hp q hq)
end K07
end K07_part_Math2

section K07_part_Base
set_option Elab.async false
set_option linter.all false
set_option maxRecDepth 100000
set_option maxHeartbeats 4000000
namespace K07
open PySem PySem.Spec PyProof.Rows L2 Evl

def top (i : Nat) : Stmt := PySem.Challenge.pw_pegwebs_k07_whole_rooms_part_all.main.body.getD i (.Pass ⟨0, 0, 0, 0⟩)

/-! ### a def of the module, a callee -/
structure Def (K : PySem.W.Frag) (mg : Str → Option Value) (x : Str) (st : Stmt) : Prop where
  ex : ∃ f fd, L2.Fun K x x st f fd ∧ mg x = some (.ref f)
structure Cal (P : Program) (w : World) (K : PySem.W.Frag) (mg : Str → Option Value) (base : Heap) (k : Nat) (x : Str) (ps : List Str) (sp : Sp) : Prop where
  ex : ∃ f fd, FnOk P w K mg base CX0 k f fd ps sp ∧ mg x = some (.ref f) ∧ PySem.W.keepIn K (.ref f) = true ∧ Binds K fd ps []
def BindsAll (x qual : Str) (st : Stmt) (ps : List Str) : Prop := ∀ (kV doc pm : Value) (an : Option Addr) (cdv ct : Value) (us : List Value), us.length = ps.length → bindArgs (PySem.W.fnOf x qual (defArgs st) (defBody st) (defScope st) .none kV doc pm an cdv ct) ⟨us, []⟩ = pure (ps.zip us)
section
variable {P : Program} {w : World} {K : PySem.W.Frag} {mg : Str → Option Value} {base : Heap}
theorem Cal.mk' {x : Str} {st : Stmt} {N ps : List Str} {k : Nat} {sp : Sp} (F : Def K mg x st) (S : FnScope N ps (defScope st)) (bd : BindsAll x x st ps) (len : ∀ vs H Q E, sp vs H Q E → vs.length = ps.length)
    (hbody : ∀ (f : Addr) (cdv : Value) (A : Around) (outer : List Env) (s : Shared) (H : Hp) (vs : List V) (Q : VK) (E : XK), Room k (A.deeper (envOfC x (defScope st) s.heap.objs.size f cdv)) → sp vs H Q E →
      ∃ t, PSs (cxOf CX0 P w K mg base N x (defScope st) f cdv A outer s H E).nox (defBody st) t ∧ t { nx := fun _ H' => Q .non H', rt := Q } (start N vs) H) : Cal P w K mg base (k + 1) x ps sp := by
  obtain ⟨f, fd, F, g⟩ := F.ex
  exact ⟨f, fd, F.ok S len fun cdv => hbody f cdv, g, F.kp, F.binds bd⟩
theorem Cal.mono {x : Str} {ps : List Str} {j k : Nat} {sp : Sp} (c : Cal P w K mg base j x ps sp) (h : j ≤ k) : Cal P w K mg base k x ps sp := by
  obtain ⟨f, fd, F, r⟩ := c.ex
  exact ⟨f, fd, F.mono h, r⟩
end
section
variable {X : Cx} {k n : Nat} {x : Str} {ps : List Str} {sp : Sp} {p pos : Pos} {e : Expr} {es : List Expr} {t : TA}
theorem pe_c (c : Cal X.prog X.w X.K X.mg X.base k x ps sp) (hr : Room n X.A) (hg : Gl X x) (ha : PA X (e :: es) t) (hk : k ≤ n := by decide) (hdb : (x == ("__debug__" : Str)) = false := by decide)
    (he : starEach (e :: es) X.env = (false, eval e X.env) :: starEach es X.env := by rfl) (hpl : (backTo pos (starEach es X.env)).any (·.1) = false := by rfl) :
    PE X (.Call (.Name x p) (e :: es) [] pos) (tCall sp [] E0 t) := by
  obtain ⟨f, fd, F, g, kp, b⟩ := c.ex
  exact pe_call F (hr.mono hk) hg g kp b .nil pass0 ha hdb he hpl
end
theorem _root_.L2.Room.u {k : Nat} {A : Around} (r : Room k A) (n : Nat) (h : n ≤ 200 := by decide) : A.units + n < cLine := by
  have := r.un
  omega
/-! ### types as values -/
theorem bt_int : bootBuiltins "int" = some (.type "int") := by decide +kernel
theorem bt_bool : bootBuiltins "bool" = some (.type "bool") := by decide +kernel
theorem bt_list : bootBuiltins "list" = some (.type "list") := by decide +kernel
theorem bt_tuple : bootBuiltins "tuple" = some (.type "tuple") := by decide +kernel
theorem bt_set : bootBuiltins "set" = some (.type "set") := by decide +kernel
theorem bt_isinstance : bootBuiltins "isinstance" = some (.builtin "isinstance") := by decide +kernel
theorem bt_sorted : bootBuiltins "sorted" = some (.builtin "sorted") := by decide +kernel
theorem bt_all : bootBuiltins "all" = some (.builtin "all") := by decide +kernel
theorem bt_min : bootBuiltins "min" = some (.builtin "min") := by decide +kernel
theorem bt_repr : bootBuiltins "repr" = some (.builtin "repr") := by decide +kernel
theorem bt_len : bootBuiltins "len" = some (.builtin "len") := by decide +kernel
theorem pe_ty {X : Cx} {x : Str} {n : String} {pos : Pos} (hg : Gl X x) (hm : X.mg x = none) (hv : bootBuiltins x = some (.type n)) (hn : x ≠ "__name__" := by decide) (hd : (x == ("__debug__" : Str)) = false := by decide) : PE X (.Name x pos) (tC (.ty n)) := pe_bltn hg hm hv rfl hn hd
/-! ### the module's facts -/
structure Glob (K : PySem.W.Frag) (mg : Str → Option Value) : Prop where
  n_all : mg "all" = none
  n_enumerate : mg "enumerate" = none
  n_int : mg "int" = none
  n_isinstance : mg "isinstance" = none
  n_len : mg "len" = none
  n_list : mg "list" = none
  n_min : mg "min" = none
  n_range : mg "range" = none
  n_repr : mg "repr" = none
  n_set : mg "set" = none
  n_sorted : mg "sorted" = none
  n_tuple : mg "tuple" = none
  n_zip : mg "zip" = none
  n_bool : mg "bool" = none
end K07
end K07_part_Base

section K07_part_R1
set_option Elab.async false
set_option linter.all false
set_option maxRecDepth 100000
set_option maxHeartbeats 4000000
namespace K07
open PySem PySem.Spec PyProof.Rows L2 Evl
open AutoSeq1 (wpAny_loadPart')

/-! ### enumerate of a tuple -/
theorem meets_enumT (l : Addr) (items : Array Value) (n : Nat) (dct : Option Addr) (sl : Array (Option Value)) :
    Meets (Builtin.«enumerate.__new__» ⟨[.type "enumerate", .ref l], []⟩) (fun _ R s => s.heap.get? l = some { cls := .type "tuple", dict := dct, data := .seq items n, slots := sl } ∧
      R (.ok (.ret (.ref (s.heap.push { cls := .type "tuple_iterator", data := .fields #[.ref l, .int 0 0] }).objs.size)))
        { s with heap := (s.heap.push { cls := .type "tuple_iterator", data := .fields #[.ref l, .int 0 0] }).push { cls := .type "enumerate", data := .fields #[.none, .bool false, .ref s.heap.objs.size, rawInt 0, .none, .none] } }) :=
  .of_wp fun prog w A R s h => by
    obtain ⟨hp, g, d, tk, os⟩ := s; obtain ⟨hl, h⟩ := h
    have hsub := sub_enumerate
    have hL : Heap.IsTuple (Shared.heap ⟨hp, g, d, tk, os⟩) l items := ⟨_, hl, rfl, n, rfl⟩
    wp_walk using wpAny_loadPart' hl
    refine wpAny_stack_any fun st => wpAny_pure ?_
    split
    · rename_i c _ _ _ _ _
      cases (c == Value.type "enumerate")
      · wp_walk using wpAny_loadPart' hl, wpAny_pyIter_tuple hL
        exact ⟨_, rfl, h⟩
      · wp_walk using wpAny_loadPart' hl, wpAny_pyIter_tuple hL
        exact ⟨_, rfl, h⟩
    · wp_walk using wpAny_loadPart' hl, wpAny_pyIter_tuple hL
      exact ⟨_, rfl, h⟩
section
variable {prog : Program} {w : World} {A : Around} {E : Value → Shared → Prop} {s : Shared}
theorem call_enumT {l : Addr} {items : Array Value} {Q : Value → Shared → Prop} (hL : IsTup s.heap l items)
    (h : ∀ h', IsEnum h' (s.heap.objs.size + 1) s.heap.objs.size 0 .none → h'.IsTupleIter s.heap.objs.size l 0 → h'.objs.size = s.heap.objs.size + 2 →
      (∀ b o, s.heap.get? b = some o → h'.get? b = some o) → Q (.ref (s.heap.objs.size + 1)) { s with heap := h' }) :
    wpAny (model prog w) A (call (.type "enumerate") [.ref l]) Q E s := by
  obtain ⟨⟨c, dct, dt, sl⟩, hl, hc, n, hd⟩ := hL
  replace hc : c = .type "tuple" := hc
  replace hd : dt = .seq items n := hd
  subst hc hd
  refine callType_new F.called_enumerate (by decide) (F.typeCall_enumerate_1 _) (F.newCall_enumerate_1 _) (fun obj => F.args_object_init_2 obj _) F.entry_enumerate_new
    (meets_enumT l items n dct sl) ⟨hl, ?_⟩
  have hz : (s.heap.push { cls := .type "tuple_iterator", data := .fields #[.ref l, .int 0 0] }).objs.size = s.heap.objs.size + 1 := Heap.size_push ..
  show _ ∧ _
  rw [hz]
  have he : IsEnum ((s.heap.push { cls := .type "tuple_iterator", data := .fields #[.ref l, .int 0 0] }).push
      { cls := .type "enumerate", data := .fields #[.none, .bool false, .ref s.heap.objs.size, rawInt 0, .none, .none] }) (s.heap.objs.size + 1) s.heap.objs.size 0 .none := by
    have := Heap.get?_push_size (s.heap.push { cls := .type "tuple_iterator", data := .fields #[.ref l, .int 0 0] })
      (o := { cls := .type "enumerate", data := .fields #[.none, .bool false, .ref s.heap.objs.size, rawInt 0, .none, .none] }) rfl
    rw [hz] at this; exact this
  refine ⟨⟨_, he, rfl⟩, h _ he ⟨_, Heap.get?_push_of_some _ (Heap.get?_push_size _ rfl), rfl, rfl⟩ (by rw [Heap.size_push, hz]) fun b o x => Heap.get?_push_of_some _ (Heap.get?_push_of_some _ x)⟩
end
/-- the tuple at a, each item in a new pair -/
def IteT (K : PySem.W.Frag) (a : Addr) : It :=
  ⟨fun i H => ∃ (xs : List V) (x : V), SqT K H a xs ∧ xs[i]? = some x, fun i H v H' => ∃ T x, v = .ref T ∧ H T = none ∧ H' = upd H T (.tup [.int (i : Nat), x]) ∧ ∀ xs, SqT K H a xs → xs[i]? = some x, fun i H => ∃ xs : List V, SqT K H a xs ∧ xs.length = i⟩
theorem turn_enumT {P : Program} {w : World} {K : PySem.W.Frag} {elts : List Expr} {kk : Nat} {tpos : Pos} (a e it : Addr) :
    Turn P w K (.Tuple elts kk tpos) (IteT K a) [e, it] e (fun i h => (∃ old, IsEnum h e it ((i : Nat) : Int) old) ∧ h.IsTupleIter it a i ∧ e ≠ it) where
  mem := by simp
  obj := fun i h st b hb => by
    obtain ⟨⟨old, he⟩, ⟨o, ho, hc, hd⟩, _⟩ := st
    have e' : b = e ∨ b = it := by simpa using hb
    rcases e' with z | z
    · rw [z]; exact ⟨_, he, fun v q => nomatch q⟩
    · rw [z]; exact ⟨o, ho, fun v q => by rw [hd] at q; cases q⟩
  keep := fun i h h' st k => let ⟨⟨old, he⟩, hi, hne⟩ := st; ⟨⟨old, k e (by simp) _ he⟩, hi.at fun o q => k it (by simp) o q, hne⟩
  item := by
    intro X hP hw hK hc i pins s σ H E I hf st hg
    subst hP hw hK
    obtain ⟨⟨old, he⟩, hit, hne⟩ := st
    obtain ⟨xs, x, hq, hx⟩ := hg
    obtain ⟨its, rv, p, hz⟩ := I.tuple hq
    obtain ⟨u, hu, ru⟩ := rv.get hx
    have hel : e < s.heap.objs.size := Heap.lt_size he
    have hil : it < s.heap.objs.size := by obtain ⟨_, q, _⟩ := hit; exact Heap.lt_size q
    have ht : s.heap.IsTuple a its.toArray := p
    have hae : a ≠ it := fun z => by
      obtain ⟨o1, q1, c1, _⟩ := hit
      obtain ⟨o2, q2, c2, _⟩ := ht
      rw [← z] at q1; rw [q1] at q2; cases q2; rw [c1] at c2; exact absurd c2 (by decide)
    have hane : a ≠ e := fun z => by
      obtain ⟨o2, q2, c2, _⟩ := ht
      rw [z, he] at q2; cases q2; exact absurd (show Value.type "enumerate" = Value.type "tuple" from c2) (by decide)
    have hlt : i < its.toArray.size := by
      have q := (List.getElem?_eq_some_iff.mp hu).1
      simpa using q
    have D := Draws.tuple (prog := X.prog) (w := X.w) (A := X.A.in1) (show X.A.in1.handled = none from I.ok.hd hc) it a hae its.toArray
    refine wpAny_pyNext_enum_itemD D he ⟨hit, ht⟩ hlt hne (by simp [hne, Ne.symm hane]) fun x' h' tk hP ho hst hT hsz hk => ?_
    obtain ⟨hit', _⟩ := hst
    have hxu : x' = u := by
      have q : its.toArray[i]? = some u := by simpa using hu
      rw [q] at hP; cases hP; rfl
    subst hxu
    refine ⟨_, rfl, wpAny_letOwnedTupleGo_enum (s := { s with heap := h', toks := tk + 1 }) ho fun h'' he' sb => ?_⟩
    have hT2 : h''.get? s.heap.objs.size = some { cls := .type "tuple", data := .seq #[.int i tk, x'] } := (sb.2 _ (Nat.ne_of_gt hel)).trans hT
    have new : ObjOk X.prog X.w (upd H s.heap.objs.size (.tup [.int (i : Nat), x])) h'' s.heap.objs.size (.tup [.int (i : Nat), x]) :=
      ⟨by show 2 ≤ sizeLine; decide, [.int i tk, x'], .cons ⟨_, rfl⟩ (.cons ru .nil), ⟨_, hT2, rfl, _, rfl⟩⟩
    have I1 : Inv X pins σ (upd H s.heap.objs.size (.tup [.int (i : Nat), x])) { s with heap := h'', toks := tk + 1 } :=
      I.turnedNew (ch := [e, it]) (fun b ob hb q => (sb.2 b (fun z => hb (by simp [z]))).trans (hk b ob (fun z => hb (by simp [z])) (fun z => hb (by simp [z])) q)) hf (Nat.le_refl _) new
    refine ⟨.ref s.heap.objs.size, _, I1, rfl, ⟨_, x, rfl, I.hok.fresh (Nat.le_refl _), rfl, fun ys hy => by rw [I.tuple_inj hy hq]; exact hx⟩, ⟨⟨x', ?_⟩, hit'.at fun o q => (sb.2 it (Ne.symm hne)).trans q, hne⟩, fun b hb => ?_⟩
    · have e1 : ((i + 1 : Nat) : Int) = (i : Int) + 1 := by omega
      rw [e1]; exact he'
    · have hb' : b < s.heap.objs.size := by
        have e' : b = e ∨ b = it := by simpa using hb
        rcases e' with z | z
        · rw [z]; exact hel
        · rw [z]; exact hil
      rw [upd_ne (Nat.ne_of_lt hb')]
      exact (hf b hb).1
  done := by
    intro X hP hw hK hc i pins s σ H E I hf st hg
    subst hP hw hK
    obtain ⟨⟨old, he⟩, hit, hne⟩ := st
    obtain ⟨xs, hq, hx⟩ := hg
    obtain ⟨its, rv, p, hz⟩ := I.tuple hq
    obtain ⟨f0, f1, f2, f3, f4, f5⟩ := hf it (by simp)
    have hl := rv.length
    have ht : s.heap.IsTuple a its.toArray := p
    have hae : a ≠ it := fun z => by
      obtain ⟨o1, q1, c1, _⟩ := hit
      obtain ⟨o2, q2, c2, _⟩ := ht
      rw [← z] at q1; rw [q1] at q2; cases q2; rw [c1] at c2; exact absurd c2 (by decide)
    have D := Draws.tuple (prog := X.prog) (w := X.w) (A := X.A.in1) (show X.A.in1.handled = none from I.ok.hd hc) it a hae its.toArray
    have hi : i = its.toArray.size := by simp; omega
    exact wpAny_pyNext_enum_endD D he (hi ▸ ⟨hit, ht⟩) fun h' eb => ⟨rfl, I.turned (t' := s.toks) (fun b o hb q => eb b o hb q) f0 f1 f3 f4 f5⟩
  self := fun A i s Q E st h => let ⟨⟨_, he⟩, _⟩ := st; wpAny_pyIter_enum he h
def iEnumA (K : PySem.W.Frag) (ta : TA) : TI := fun σ H R => ta σ H fun vs H1 => ∃ a xs, vs = [.ref a] ∧ ((SqL K H1 a xs ∧ R (Ite K a) H1) ∨ (SqT K H1 a xs ∧ R (IteT K a) H1))
theorem pi_enumA {X : Cx} {e : Expr} {ta : TA} {p pos tpos : Pos} {elts : List Expr} {kk : Nat} (hg : Gl X "enumerate") (hm : X.mg "enumerate" = none) (ha : PA X [e] ta) (hs : starEach [e] X.env = [(false, eval e X.env)] := by rfl) :
    PI X (.Tuple elts kk tpos) (.Call (.Name "enumerate" p) [e] [] pos) (iEnumA X.K ta) := by
  refine ⟨fun pins s σ H R I h => ?_⟩
  refine Call_ (ld_blt I hg hm boot_enumerate (PyProof.Rows.callWith_type1 (thn (ha.run pos pins s σ H _ I h) fun us s1 ⟨vs, H1, I1, r1, q1⟩ => ?_) hs rfl))
  obtain ⟨a, xs, ex, hq⟩ := q1
  subst ex
  cases r1 with
  | cons r rr =>
    cases rr
    cases r
    have fin : ∀ b, b ∈ [s1.heap.objs.size + 1, s1.heap.objs.size] → FpOk X pins H1 b := fun b hb => by
      have e' : b = s1.heap.objs.size + 1 ∨ b = s1.heap.objs.size := by simpa using hb
      have hle : s1.heap.objs.size ≤ b := by
        rcases e' with z | z
        · rw [z]; exact Nat.le_add_right _ _
        · rw [z]; exact Nat.le_refl _
      exact I1.fpOk hle (I1.hok.fresh hle)
    rcases hq with ⟨hq, q⟩ | ⟨hq, q⟩
    · obtain ⟨its, rv, p', hz⟩ := I1.list hq
      refine call_enumerate_list p'.isList fun h' he hit hsz hk => wpAny_pyIter_enum he ?_
      have I2 : Inv X pins σ H1 { s1 with heap := h' } := I1.kept (t' := s1.toks) hk
      exact ⟨s1.heap.objs.size + 1, [s1.heap.objs.size + 1, s1.heap.objs.size], _, _, H1, rfl, I2, turn_enum a (s1.heap.objs.size + 1) s1.heap.objs.size, ⟨⟨.none, he⟩, hit, Nat.succ_ne_self _⟩, fin, q⟩
    · obtain ⟨its, rv, p', hz⟩ := I1.tuple hq
      refine call_enumT p' fun h' he hit hsz hk => wpAny_pyIter_enum he ?_
      have I2 : Inv X pins σ H1 { s1 with heap := h' } := I1.kept (t' := s1.toks) hk
      exact ⟨s1.heap.objs.size + 1, [s1.heap.objs.size + 1, s1.heap.objs.size], _, _, H1, rfl, I2, turn_enumT a (s1.heap.objs.size + 1) s1.heap.objs.size, ⟨⟨.none, he⟩, hit, Nat.succ_ne_self _⟩, fin, q⟩
end K07
end K07_part_R1

section K07_part_R2
set_option Elab.async false
set_option linter.all false
set_option maxRecDepth 100000
set_option maxHeartbeats 4000000
namespace K07
open PySem PySem.Spec PyProof.Rows L2 Evl

/-! ### heaps that keep the tuples -/
def Tk (H H' : Hp) : Prop := ∀ a xs, H a = some (.tup xs) → H' a = some (.tup xs)
theorem Tk.refl (H : Hp) : Tk H H := fun _ _ h => h
theorem Tk.trans {H H1 H2 : Hp} (a : Tk H H1) (b : Tk H1 H2) : Tk H H2 := fun c o h => b c o (a c o h)
theorem _root_.Evl.Ex.tk {H H' : Hp} (e : Ex H H') : Tk H H' := fun a xs h => e a _ h
/-- a thing that is no tuple is written, or a new one is laid -/
theorem Tk.mut {H H' : Hp} {p : Addr} {o : HO} (e : Tk H H') (h : ∀ xs, H' p ≠ some (.tup xs)) : Tk H (upd H' p o) := fun a xs q => by
  have q' := e a xs q
  by_cases z : a = p
  · subst z; exact absurd q' (h xs)
  · rw [upd_ne z]; exact q'
theorem no_tup {H : Hp} {p : Addr} {o : HO} (h : H p = some o) (d : ∀ xs, o ≠ .tup xs) : ∀ xs, H p ≠ some (.tup xs) := fun xs q => by
  rw [h] at q; exact d xs (Option.some.inj q)
theorem no_tupL {H : Hp} {p : Addr} {ys : List V} (h : H p = some (.lst ys)) : ∀ xs, H p ≠ some (.tup xs) := no_tup h fun xs q => by cases q
theorem no_tup0 {H : Hp} {p : Addr} (h : H p = none) : ∀ xs, H p ≠ some (.tup xs) := fun xs q => by rw [h] at q; cases q

/-! ### data of tuples, ints, bools, texts -/
mutual
inductive Td (H : Hp) : V → PyData → Prop
  | int (i : Int) : Td H (.int i) (.int i)
  | bl (b : Bool) : Td H (.bl b) (.bool b)
  | str (x : Str) : Td H (.str x) (.str x)
  | tup {a : Addr} {xs : List V} {ds : List PyData} : H a = some (.tup xs) → TdA H xs ds → Td H (.ref a) (.tuple ds)
inductive TdA (H : Hp) : List V → List PyData → Prop
  | nil : TdA H [] []
  | cons {v : V} {vs : List V} {d : PyData} {ds : List PyData} : Td H v d → TdA H vs ds → TdA H (v :: vs) (d :: ds)
end
mutual
theorem Td.mono {H H' : Hp} (k : Tk H H') : ∀ {d : PyData} {v : V}, Td H v d → Td H' v d
  | _, _, .int i => .int i
  | _, _, .bl b => .bl b
  | _, _, .str x => .str x
  | _, _, .tup h t => .tup (k _ _ h) (TdA.mono k t)
theorem TdA.mono {H H' : Hp} (k : Tk H H') : ∀ {ds : List PyData} {vs : List V}, TdA H vs ds → TdA H' vs ds
  | _, _, .nil => .nil
  | _, _, .cons h t => .cons (Td.mono k h) (TdA.mono k t)
end
mutual
theorem Td.dp {K : PySem.W.Frag} {H : Hp} : ∀ {d : PyData} {v : V}, Td H v d → Dp K H v d
  | _, _, .int i => .int i
  | _, _, .bl b => .bl b
  | _, _, .str x => .str x
  | _, _, .tup h t => .tup (.of h) (TdA.dp t)
theorem TdA.dp {K : PySem.W.Frag} {H : Hp} : ∀ {ds : List PyData} {vs : List V}, TdA H vs ds → DpAll K H vs ds
  | _, _, .nil => .nil
  | _, _, .cons h t => .cons (Td.dp h) (TdA.dp t)
end
theorem Td.mk {H H' : Hp} {d : PyData} {v : V} (h : Td H v d) (e : Ex H H') : Td H' v d := h.mono e.tk
theorem TdA.mk {H H' : Hp} {d : List PyData} {v : List V} (h : TdA H v d) (e : Ex H H') : TdA H' v d := h.mono e.tk
section
variable {H : Hp}
theorem Td.int_inv {v : V} {i : Int} (h : Td H v (.int i)) : v = .int i := by cases h; rfl
theorem Td.bl_inv {v : V} {i : Bool} (h : Td H v (.bool i)) : v = .bl i := by cases h; rfl
theorem Td.tup_inv {v : V} {ds : List PyData} (h : Td H v (.tuple ds)) : ∃ a xs, v = .ref a ∧ H a = some (.tup xs) ∧ TdA H xs ds := by
  cases h with
  | tup h t => exact ⟨_, _, rfl, h, t⟩
theorem TdA.len : ∀ {vs : List V} {ds : List PyData}, TdA H vs ds → vs.length = ds.length
  | _, _, .nil => rfl
  | _, _, .cons _ t => by rw [List.length_cons, List.length_cons, t.len]
theorem TdA.cons_inv {vs : List V} {d : PyData} {ds : List PyData} (h : TdA H vs (d :: ds)) : ∃ x xs, vs = x :: xs ∧ Td H x d ∧ TdA H xs ds := by
  cases h with
  | cons a b => exact ⟨_, _, rfl, a, b⟩
theorem TdA.nil_inv {vs : List V} (h : TdA H vs []) : vs = [] := by cases h; rfl
theorem TdA.app : ∀ {vs : List V} {ds : List PyData} {ws : List V} {es : List PyData}, TdA H vs ds → TdA H ws es → TdA H (vs ++ ws) (ds ++ es)
  | _, _, _, _, .nil, h => h
  | _, _, _, _, .cons a t, h => .cons a (t.app h)
theorem TdA.snoc {vs : List V} {ds : List PyData} {v : V} {d : PyData} (h : TdA H vs ds) (q : Td H v d) : TdA H (vs ++ [v]) (ds ++ [d]) := h.app (.cons q .nil)
theorem TdA.take : ∀ {vs : List V} {ds : List PyData} (n : Nat), TdA H vs ds → TdA H (vs.take n) (ds.take n)
  | _, _, 0, _ => .nil
  | _, _, _ + 1, .nil => .nil
  | _, _, n + 1, .cons a t => .cons a (t.take n)
theorem TdA.drop : ∀ {vs : List V} {ds : List PyData} (n : Nat), TdA H vs ds → TdA H (vs.drop n) (ds.drop n)
  | _, _, 0, h => h
  | _, _, _ + 1, .nil => .nil
  | _, _, n + 1, .cons a t => t.drop n
theorem TdA.get : ∀ {vs : List V} {ds : List PyData} {i : Nat} {x : V}, TdA H vs ds → vs[i]? = some x → ∃ d, ds[i]? = some d ∧ Td H x d
  | _, _, _, _, .nil, h => by simp at h
  | _, _, 0, x, .cons a t, h => by
    have e : _ = x := Option.some.inj (by simpa using h)
    subst e
    exact ⟨_, rfl, a⟩
  | _, _, i + 1, x, .cons a t, h => by
    obtain ⟨d, h1, h2⟩ := t.get (i := i) (x := x) (by simpa using h)
    exact ⟨d, by simpa using h1, h2⟩
theorem TdA.at_ : ∀ {vs : List V} {ds : List PyData} {i : Nat} {d : PyData}, TdA H vs ds → ds[i]? = some d → ∃ x, vs[i]? = some x ∧ Td H x d
  | _, _, _, _, .nil, h => by simp at h
  | _, _, 0, x, .cons a t, h => by
    have e : _ = x := Option.some.inj (by simpa using h)
    subst e
    exact ⟨_, rfl, a⟩
  | _, _, i + 1, x, .cons a t, h => by
    obtain ⟨d, h1, h2⟩ := t.at_ (i := i) (d := x) (by simpa using h)
    exact ⟨d, by simpa using h1, h2⟩
theorem TdA.ints_inv : ∀ {ns : List Int} {vs : List V}, TdA H vs (ns.map .int) → vs = ns.map .int
  | [], _, h => by rw [h.nil_inv]; rfl
  | n :: ns, _, h => by
    obtain ⟨x, xs, rfl, h1, h2⟩ := TdA.cons_inv (show TdA H _ (.int n :: ns.map .int) from h)
    rw [h1.int_inv, TdA.ints_inv h2]
    rfl
theorem TdA.ints : ∀ {ns : List Int}, TdA H (ns.map V.int) (ns.map .int)
  | [] => .nil
  | n :: ns => .cons (.int n) TdA.ints
theorem TdA.mapped {α : Type} {f : α → V} {g : α → PyData} : ∀ {l : List α}, (∀ x ∈ l, Td H (f x) (g x)) → TdA H (l.map f) (l.map g)
  | [], _ => .nil
  | x :: l, h => .cons (h x List.mem_cons_self) (TdA.mapped fun y hy => h y (List.mem_cons_of_mem _ hy))
end
/-- a tuple of ints -/
abbrev dTI (ns : List Int) : PyData := .tuple (ns.map .int)
/-- a mark, an arrow, a pair -/
abbrev dMK (r : Arr) : PyData := .tuple [.int r.a, .int r.b, dTI r.g]
abbrev dAR (r : Arr) : PyData := .tuple [.int r.a, .int r.b, dTI r.g, .int r.c]
abbrev dPR (p : Int × Int) : PyData := .tuple [.int p.1, .int p.2]
theorem td_ti {H : Hp} {v : V} {ns : List Int} (h : Td H v (dTI ns)) : ∃ a, v = .ref a ∧ H a = some (.tup (ns.map V.int)) := by
  obtain ⟨a, xs, rfl, h1, h2⟩ := h.tup_inv
  rw [h2.ints_inv] at h1
  exact ⟨a, rfl, h1⟩
theorem td_ti' {H : Hp} {a : Addr} {ns : List Int} (h : H a = some (.tup (ns.map V.int))) : Td H (.ref a) (dTI ns) := .tup h .ints
theorem td_ar {H : Hp} {v : V} {r : Arr} (h : Td H v (dAR r)) : ∃ a g, v = .ref a ∧ H a = some (.tup [.int r.a, .int r.b, .ref g, .int r.c]) ∧ Td H (.ref g) (dTI r.g) := by
  obtain ⟨a, xs, rfl, h1, h2⟩ := h.tup_inv
  obtain ⟨x1, r1, rfl, e1, h2⟩ := h2.cons_inv
  obtain ⟨x2, r2, rfl, e2, h2⟩ := h2.cons_inv
  obtain ⟨x3, r3, rfl, e3, h2⟩ := h2.cons_inv
  obtain ⟨x4, r4, rfl, e4, h2⟩ := h2.cons_inv
  obtain rfl := h2.nil_inv
  obtain rfl := e1.int_inv
  obtain rfl := e2.int_inv
  obtain rfl := e4.int_inv
  obtain ⟨g, rfl, h3⟩ := td_ti e3
  exact ⟨a, g, rfl, h1, e3⟩
theorem td_ar' {H : Hp} {a g : Addr} {r : Arr} (h : H a = some (.tup [.int r.a, .int r.b, .ref g, .int r.c])) (hg : Td H (.ref g) (dTI r.g)) : Td H (.ref a) (dAR r) := .tup h (.cons (.int _) (.cons (.int _) (.cons hg (.cons (.int _) .nil))))
theorem td_mk {H : Hp} {v : V} {r : Arr} (h : Td H v (dMK r)) : ∃ a g, v = .ref a ∧ H a = some (.tup [.int r.a, .int r.b, .ref g]) ∧ Td H (.ref g) (dTI r.g) := by
  obtain ⟨a, xs, rfl, h1, h2⟩ := h.tup_inv
  obtain ⟨x1, r1, rfl, e1, h2⟩ := h2.cons_inv
  obtain ⟨x2, r2, rfl, e2, h2⟩ := h2.cons_inv
  obtain ⟨x3, r3, rfl, e3, h2⟩ := h2.cons_inv
  obtain rfl := h2.nil_inv
  obtain rfl := e1.int_inv
  obtain rfl := e2.int_inv
  obtain ⟨g, rfl, h3⟩ := td_ti e3
  exact ⟨a, g, rfl, h1, e3⟩
theorem td_mk' {H : Hp} {a g : Addr} {r : Arr} (h : H a = some (.tup [.int r.a, .int r.b, .ref g])) (hg : Td H (.ref g) (dTI r.g)) : Td H (.ref a) (dMK r) := .tup h (.cons (.int _) (.cons (.int _) (.cons hg .nil)))
theorem td_pr {H : Hp} {v : V} {p : Int × Int} (h : Td H v (dPR p)) : ∃ a, v = .ref a ∧ H a = some (.tup [.int p.1, .int p.2]) := by
  obtain ⟨a, xs, rfl, h1, h2⟩ := h.tup_inv
  obtain ⟨x1, r1, rfl, e1, h2⟩ := h2.cons_inv
  obtain ⟨x2, r2, rfl, e2, h2⟩ := h2.cons_inv
  obtain rfl := h2.nil_inv
  obtain rfl := e1.int_inv
  obtain rfl := e2.int_inv
  exact ⟨a, rfl, h1⟩
theorem td_pr' {H : Hp} {a : Addr} {i j : Int} (h : H a = some (.tup [.int i, .int j])) : Td H (.ref a) (dPR (i, j)) := .tup h (.cons (.int _) (.cons (.int _) .nil))
/-- a list of data -/
def Li (H : Hp) (v : V) (ds : List PyData) : Prop := ∃ l vs, v = .ref l ∧ H l = some (.lst vs) ∧ TdA H vs ds
theorem Li.mk {H H' : Hp} {v : V} {ds : List PyData} (h : Li H v ds) (e : Ex H H') : Li H' v ds := let ⟨l, vs, a, b, c⟩ := h; ⟨l, vs, a, e _ _ b, c.mk e⟩
theorem Li.dp {K : PySem.W.Frag} {H : Hp} {v : V} {ds : List PyData} (h : Li H v ds) : Dp K H v (.list ds) := by
  obtain ⟨l, vs, rfl, h1, h2⟩ := h
  exact .lst (.of h1) h2.dp

/-! ### as data of the heap -/
mutual
theorem Td.reads0 {X : Cx} {pins : List (Addr × Obj)} {σ : L2.St} {H : Hp} {s : Shared} (I : L2.Inv X pins σ H s) : ∀ {d : PyData} {v : V} {u : Value}, Td H v d → L2.RelV v u → Reads s.heap u d []
  | _, _, u, .int i, r => by obtain ⟨t, e⟩ := (show ∃ t, u = Value.int i t from r); rw [e]; exact .int _ _
  | _, _, u, .bl b, r => by rw [show u = Value.bool b from r]; exact .bool _
  | _, _, u, .str x, r => by obtain ⟨t, e⟩ := (show ∃ t, u = Value.str x t from r); rw [e]; exact .str _ _
  | _, _, u, .tup (a := a) h t, r => by
    rw [show u = Value.ref a from r]
    obtain ⟨its, rv, ⟨o, h1, h2, n, h3⟩, hz⟩ := I.tuple (SqT.of h)
    exact .tuple h1 h2 h3 (TdA.reads0 I t rv)
theorem TdA.reads0 {X : Cx} {pins : List (Addr × Obj)} {σ : L2.St} {H : Hp} {s : Shared} (I : L2.Inv X pins σ H s) : ∀ {ds : List PyData} {vs : List V} {us : List Value}, TdA H vs ds → Vals vs us → ReadsAll s.heap us ds []
  | _, _, _, .nil, .nil => .nil
  | _, _, _, .cons h t, .cons r q => .cons (as := []) (bs := []) (Td.reads0 I h r) (TdA.reads0 I t q)
end
end K07
end K07_part_R2

section K07_part_R3
set_option Elab.async false
set_option linter.all false
set_option maxRecDepth 100000
set_option maxHeartbeats 4000000
namespace K07
open PySem PySem.Spec PyProof.Rows L2 Evl PySem.W PySem.Calls PyProof.V

/-! ### what is gathered from a tuple, a dict -/
section
variable {prog : Program} {w : World} {A : Around} {E : Value → Shared → Prop} {s : Shared}
theorem collect_tupV {l : Addr} {vs : List Value} {Q : List Value → Shared → Prop} (hl : IsTup s.heap l vs.toArray)
    (h : Q vs { s with heap := (s.heap.push (seqObj "list" #[] 0)).update s.heap.objs.size (Obj.mapSeq (· ++ vs.toArray)) }) (hsz : vs.length ≤ sizeLine) :
    wpAny (model prog w) A (collect (.ref l)) Q E s := by
  obtain ⟨o, ho, hc, n, hd⟩ := id hl
  unfold collect
  refine wpAny_bind (wpAny_runValue (codeAny_builtin entry_proto_collect' ?_))
  show wpAny _ _ (do again (.builtin "list.__iadd__" ⟨[← newList [], .ref l], []⟩)) _ _ s
  refine wpAny_bind (wpAny_newList (wpAny_pure ⟨Code.quiet_builtin _ (by decide +kernel), codeAny_builtin entry_list_iadd' ?_⟩))
  show wpAny _ _ (Builtin.List.listExtendWith (.ref s.heap.objs.size) (.ref l) (.ref s.heap.objs.size)) _ _ { s with heap := s.heap.push (seqObj "list" #[] 0) }
  unfold Builtin.List.listExtendWith
  have ho' : (s.heap.push (seqObj "list" #[] 0)).get? l = some o := Heap.get?_push_of_some _ ho
  refine wpAny_bind (wpAny_typeOf (T := "tuple") ⟨o, ho', hc⟩ ?_)
  have ht : (Value.type "tuple" == Value.type "tuple") = true := by rfl
  rw [if_pos (by rw [ht]; simp)]
  refine wpAny_bind (listItems_at ho' hd ?_)
  refine wpAny_bind (listItems_at (xs := #[]) (n := 0) (Heap.get?_push_size _ rfl) rfl ?_)
  rw [if_neg (by simp)]
  refine wpAny_bind (listUpdate_at (xs := #[]) (n := 0) (Heap.get?_push_size _ rfl) rfl ?_ (Nat.zero_le _) (by show (#[] ++ vs.toArray).size ≤ sizeLine + 1; simp only [Array.size_append, List.size_toArray, List.length_nil]; omega))
  refine wpAny_pure ?_
  show wpAny (model prog w) A (do
      let o ← load s.heap.objs.size
      match o.data with
      | .seq xs _ => pure xs.toList
      | _ => unsupported "internal:collect") Q E { s with heap := (s.heap.push (seqObj "list" #[] 0)).update s.heap.objs.size (Obj.mapSeq (· ++ vs.toArray)) }
  refine wpAny_bind (wpAny_load (get?_update_seq (Heap.get?_push_size _ rfl) _) ?_)
  show wpAny _ _ (pure ((#[] : Array Value) ++ vs.toArray).toList) Q E _
  rw [show ((#[] : Array Value) ++ vs.toArray).toList = vs by simp]
  exact wpAny_pure h
theorem copy_old {h : Heap} {vs : List Value} {b : Addr} {o : Obj} (e : h.get? b = some o) : ((h.push (seqObj "list" #[] 0)).update h.objs.size (Obj.mapSeq (· ++ vs.toArray))).get? b = some o := by
  have hlt := Heap.lt_size e
  rw [Heap.get?_update_ne _ _ _ _ (Nat.ne_of_lt hlt), Heap.get?_push_ne _ _ _ (Nat.ne_of_lt hlt)]
  exact e
theorem collect_src {T : String} {r d : Addr} {n : Nat} {P : Nat → Value → Prop} {OK : Heap → Prop} {R : List Value → Shared → Prop} (K : KdlSrc prog w T r d n P OK) (hh : A.handled = none) (hok : OK s.heap) (hn : n ≤ sizeLine)
    (h : ∀ (h' : Heap) (tk : Nat) (acc : Array Value), (∀ b o, s.heap.get? b = some o → h'.get? b = some o) → ItemsOf P acc n → R acc.toList { s with heap := h', toks := tk }) :
    wpAny (model prog w) A (collect (.ref r)) R E s := by
  have hlt := K.there _ hok
  unfold collect
  refine wpAny_bind (wpAny_runValue (codeAny_builtin entry_proto_collect' ?_))
  rw [Around.under_plainId PySem.F.plain_proto_collect _]
  show wpAny _ A.in1 (newList [] >>= fun l => again (.builtin "list.__iadd__" ⟨[l, .ref r], []⟩)) _ _ s
  refine wpAny_bind (wpAny_newObj_type ?_)
  refine wpAny_pure ⟨plainId_quiet PySem.F.plain_list_iadd _, codeAny_builtin entry_list_iadd' ?_⟩
  rw [Around.under_plainId PySem.F.plain_list_iadd _]
  have hS₁ : (s.heap.push { cls := .type "list", data := .seq ([] : List Value).toArray }).get? s.heap.objs.size = some { cls := .type "list", data := .seq #[] } := Heap.get?_push_size _ rfl
  show wpAny _ A.in1 (Builtin.List.listExtendWith (.ref s.heap.objs.size) (.ref r) (.ref s.heap.objs.size)) _ _ _
  have key := kdl_extend (prog := prog) (w := w) (A := A) (s := { s with heap := s.heap.push { cls := .type "list", data := .seq ([] : List Value).toArray } })
    (R := fun (q : Result) (s' : Shared) => ∃ (h' : Heap) (tk : Nat) (acc' : Array Value) (c' : Nat), q = .ok (.ret (.ref s.heap.objs.size)) ∧ s' = { s with heap := h', toks := tk } ∧
      (∀ b o, s.heap.get? b = some o → h'.get? b = some o) ∧ h'.get? s.heap.objs.size = some { cls := .type "list", dict := none, data := .seq acc' c', slots := #[] } ∧ ItemsOf P acc' n)
    K hh (K.keep _ _ hok fun b _ o e => Heap.get?_push_of_some _ e) s.heap.objs.size (Nat.ne_of_gt hlt.1) (Nat.ne_of_gt hlt.2) (.ref s.heap.objs.size) 0 hS₁
    (fun h' tk acc' c' hk hS' hacc => ⟨h', tk, acc', c', rfl, rfl, fun b o e => hk b o (Nat.ne_of_lt (Heap.lt_size e)) (Heap.get?_push_of_some _ e), hS', hacc⟩) hn
  refine wpAny_mono key (fun fin s' x => ?_) fun e s' x => ?_
  · cases fin with
    | done f =>
      obtain ⟨h', tk, acc', c', e, rfl, hk, hS', hacc⟩ := x
      cases e
      show wpAny _ A (load s.heap.objs.size >>= _) _ _ _
      refine wpAny_bind (wpAny_load hS' ?_)
      refine wpAny_pure ?_
      exact h h' tk acc' hk hacc
    | again c₁ =>
      refine ⟨x.1, codeAny_mono x.2 fun q s₂ y => ?_⟩
      obtain ⟨h', tk, acc', c', rfl, rfl, hk, hS', hacc⟩ := y
      show wpAny _ A (load s.heap.objs.size >>= _) _ _ _
      refine wpAny_bind (wpAny_load hS' ?_)
      refine wpAny_pure ?_
      exact h h' tk acc' hk hacc
  · obtain ⟨_, _, _, _, e', _⟩ := x
    cases e'
/-- sorted(x) is list.sort on what is gathered -/
theorem sorted_gather {v : Value} {Q : Value → Shared → Prop} (h : wpAny (model prog w) A.in1 (collect v) (fun us s1 => us.length ≤ sizeLine ∧
      wpAny (model prog w) A.in1 (call (.builtin "list.sort") [.ref s1.heap.objs.size]) (fun _ s' => Q (.ref s1.heap.objs.size) s') E { s1 with heap := s1.heap.push (seqObj "list" us.toArray 0) }) E s) :
    wpAny (model prog w) A (call (.builtin "sorted") [v]) Q E s := by
  refine call_function_entry kind_sorted plain_sorted entry_sorted (args_sorted1 _) ?_
  unfold Builtin.«sorted»
  refine wpAny_bind (m := checkCount "sorted" 1 1 _) (wpAny_pure ?_)
  refine wpAny_bind (wpAny_mono h (fun us s1 x => ?_) fun _ _ e => e)
  obtain ⟨hn, hg⟩ := x
  refine wpAny_bind (wpAny_newList ?_ hn)
  refine wpAny_bind (wpAny_holding (wpAny_mono hg (fun _ s' x => ?_) fun _ _ e => e))
  exact wpAny_pure ⟨_, rfl, x⟩
end

/-! ### lists of alike data, short ones of any kind -/
theorem sortsAt_short {prog : Program} {w : World} {A : Around} {s : Shared} {vs : List Value} {ds : List PyData} (e : EachIs (fun v d => ∃ as, Reads s.heap v d as) vs ds) (hal : AllAlike ds) (hn : ∀ d ∈ ds, d ≠ .none) (h2 : vs.length < 2) (hu : ∀ d, d ∈ ds → A.units + d.depth < cLine) : SortsAt prog w A s (dataKind s.heap ds) vs := by
  refine ⟨fun v hv => ?_, general', fun E x y a b Q ha hb hq => ?_, fun q => absurd q (by omega)⟩
  · obtain ⟨d, hd, as, r⟩ := e.left v hv
    exact ⟨_, dataKind_some hal hd r⟩
  · obtain ⟨d, as, hd, ra, rfl⟩ := dataKind_inv ha
    obtain ⟨d', as', hd', rb, rfl⟩ := dataKind_inv hb
    exact oneLt_alike (f := false) (fun q => by cases q) ra rb (hal d hd d' hd') (hn d hd) (Nat.lt_of_le_of_lt (Nat.add_le_add_left (Nat.min_le_left _ _) _) (hu d hd)) hq
section
variable {prog : Program} {w : World} {A : Around} {E : Value → Shared → Prop} {s : Shared} {β : Type} {vs : List Value} {bs : List β} {enc : β → PyData} {R : Value → β → Prop}
theorem list_sortA {a : Addr} {n : Nat} {Q : Value → Shared → Prop} (ho : s.heap.get? a = some (seqObj "list" vs.toArray n)) (e : EachIs R vs bs) (er : EachIs (fun v b => ∃ as, Reads s.heap v (enc b) as ∧ a ∉ as) vs bs) (hal : AllAlike (bs.map enc))
    (hk : Sortable (bs.map enc) ∨ (bs.length < 2 ∧ ∀ b ∈ bs, enc b ≠ .none)) (hL : bs.length ≤ sizeLine)
    (hu : ∀ b, b ∈ bs → A.units + 1 + (enc b).depth < cLine) (h : ∀ out, out.length = bs.length → EachIs R out (bs.mergeSort (dataLe false enc)) → Q .none { s with heap := sortedHeap s.heap a vs (List.toArray out) }) :
    wpAny (model prog w) A (call (.builtin "list.sort") [.ref a]) Q E s := by
  rcases hk with hk | ⟨h2, hn⟩
  · exact list_sort_data ho e er hal hk hL hu h
  have er' : EachIs (fun v b => ∃ as, Reads (sortingHeap s.heap a vs) v (enc b) as) vs bs := each_keepBut (h' := sortingHeap s.heap a vs) (fun _ _ hb q => sortingHeap_old hb q) (fun o q => by rw [ho] at q; rw [← Option.some.inj q]) hal er
  refine wpAny_call_entry slot_list_sort ⟨_, ho, rfl⟩ entry_list_sort (list_sort_vals (κ := dataKind (sortingHeap s.heap a vs) (bs.map enc)) ho (sortsAt_short (s := { s with heap := sortingHeap s.heap a vs }) (each_map (R := fun v d => ∃ as, Reads (sortingHeap s.heap a vs) v d as) enc er') hal ?_ (by rw [e.length]; exact h2) (bound_map hu)) (by rw [e.length]; exact hL) ⟨.none, rfl, ?_⟩) (args_list_sort _)
  · intro d hd
    obtain ⟨b, hb, rfl⟩ := List.mem_map.mp hd
    exact hn b hb
  · exact h _ (by rw [sortVals_length false rfl]; exact e.length) (sortVals_data false e er' hal)
end
end K07
end K07_part_R3

section K07_part_R4
set_option Elab.async false
set_option linter.all false
set_option maxRecDepth 100000
set_option maxHeartbeats 4000000
namespace K07
open PySem PySem.Spec PyProof.Rows L2 Evl PySem.W PySem.Calls

/-! ### sorted, by values -/
/-- what may be sorted -/
structure Srt (ds : List PyData) : Prop where
  alike_ : AllAlike ds
  kind : Sortable ds ∨ (ds.length < 2 ∧ ∀ b ∈ ds, b ≠ .none)
  len : ds.length ≤ 100000
  deep : ∀ d ∈ ds, d.depth ≤ 8
abbrev srtD (ds : List PyData) : List PyData := ds.mergeSort (dataLe false id)
theorem each_in {X : Cx} {pins : List (Addr × Obj)} {σ : L2.St} {H : Hp} {s : Shared} (I : L2.Inv X pins σ H s) : ∀ {ds : List PyData} {xs : List V} {us : List Value}, TdA H xs ds → Vals xs us →
    EachIs (fun u d => ∃ x, L2.RelV x u ∧ Td H x d) us ds ∧ EachIs (fun u d => Reads s.heap u d []) us ds
  | _, _, _, .nil, .nil => ⟨.nil, .nil⟩
  | _, _, _, .cons h t, .cons r q => ⟨.cons ⟨_, r, h⟩ (each_in I t q).1, .cons (h.reads0 I r) (each_in I t q).2⟩
theorem each_out {H : Hp} : ∀ {ds : List PyData} {us : List Value}, EachIs (fun u d => ∃ x, L2.RelV x u ∧ Td H x d) us ds → ∃ xs, Vals xs us ∧ TdA H xs ds
  | _, _, .nil => ⟨[], .nil, .nil⟩
  | _, _, .cons ⟨x, r, h⟩ t => by
    obtain ⟨xs, a, b⟩ := each_out t
    exact ⟨x :: xs, .cons r a, .cons h b⟩
theorem line_ok {n : Nat} (h : n ≤ 100000) : n ≤ sizeLine := Nat.le_trans h (by decide)
section
variable {X : Cx} {pins : List (Addr × Obj)} {σ : L2.St} {H : Hp} {s : Shared} {A : Around} {E : Value → Shared → Prop}
theorem sort_last (I : L2.Inv X pins σ H s) {xs : List V} {us : List Value} {ds : List PyData} {Q : VK} (rv : Vals xs us) (hd : TdA H xs ds) (hs : Srt ds) (hu : A.units + 16 < cLine)
    (q : ∀ p ys, H p = none → TdA H ys (srtD ds) → Q (.ref p) (upd H p (.lst ys))) :
    wpAny (model X.prog X.w) A (call (.builtin "list.sort") [.ref s.heap.objs.size]) (fun _ s' => EP X pins σ Q (.ref s.heap.objs.size) s') E { s with heap := s.heap.push (seqObj "list" us.toArray 0) } := by
  have e := each_in I hd rv
  have ho : (s.heap.push (seqObj "list" us.toArray 0)).get? s.heap.objs.size = some (seqObj "list" us.toArray 0) := Heap.get?_push_size _ rfl
  have hlen : ds.length ≤ sizeLine := line_ok hs.len
  refine list_sortA (s := { s with heap := s.heap.push (seqObj "list" us.toArray 0) }) (enc := id) (R := fun u d => ∃ x, L2.RelV x u ∧ Td H x d) ho e.1 (e.2.mono fun u d r => ⟨[], PyProof.Rows.Reads.keeps (fun _ _ q => Heap.get?_push_of_some _ q) r, by simp⟩)
    (by simpa using hs.alike_) (by simpa using hs.kind) hlen (fun b hb => ?_) fun out ho2 eo => ?_
  · have q1 := hs.deep b hb
    show A.units + 1 + b.depth < cLine
    omega
  · obtain ⟨ys, rv2, td2⟩ := each_out eo
    obtain ⟨c, hat⟩ := PyProof.Rows.sortedHeap_at (out := out.toArray) ho
    have kp : ∀ b o, s.heap.get? b = some o → (PyProof.Rows.sortedHeap (s.heap.push (seqObj "list" us.toArray 0)) s.heap.objs.size us out.toArray).get? b = some o := fun b o h => by
      have hlt := Heap.lt_size h
      rw [PyProof.Rows.sortedHeap_old (Nat.ne_of_lt hlt) (by rw [size_push']; exact Nat.lt_succ_of_lt hlt)]
      exact Heap.get?_push_of_some _ h
    have hz : ys.length ≤ sizeLine := by rw [rv2.length, ho2]; exact hlen
    exact ⟨.ref _, upd H s.heap.objs.size (.lst ys), I.laid (t' := s.toks) kp (Nat.le_refl _) ⟨hz, out, c, rv2, hat⟩, rfl, q _ ys (I.hok.fresh (Nat.le_refl _)) td2⟩
end
/-- sorted(x): a list or a tuple of data -/
def rSortL (K : PySem.W.Frag) : List V → Hp → VK → Prop := fun vs H Q => ∃ a xs ds, vs = [V.ref a] ∧ (SqL K H a xs ∨ SqT K H a xs) ∧ TdA H xs ds ∧ Srt ds ∧ ∀ p ys, H p = none → TdA H ys (srtD ds) → Q (.ref p) (upd H p (.lst ys))
section
variable {X : Cx}
theorem cr_sortL (hu : X.A.units + 32 < cLine) : CallR X (.builtin "sorted") (rSortL X.K) := by
  intro pins s σ H vs us Q I r h
  obtain ⟨a, xs, ds, rfl, hx, hd, hs, q⟩ := h
  rw [Vals.ref1 r]
  refine sorted_gather ?_
  rcases hx with hx | hx
  · obtain ⟨its, rv, p, hz⟩ := I.list hx
    have hl := rv.length
    refine collect_list p.isList ⟨by omega, ?_⟩ (by omega)
    exact sort_last (I.kept (t' := s.toks) fun b o e => copy_old e) rv hd hs (show X.A.units + 1 + 16 < cLine by omega) q
  · obtain ⟨its, rv, p, hz⟩ := I.tuple hx
    have hl := rv.length
    refine collect_tupV p ⟨by omega, ?_⟩ (by omega)
    exact sort_last (I.kept (t' := s.toks) fun b o e => copy_old e) rv hd hs (show X.A.units + 1 + 16 < cLine by omega) q
end

/-! ### the dict of an arrow's cost by its mark -/
def nk (r : Arr) : NestedKey := .tup [.num r.a, .num r.b, .tup (r.g.map .num)]
theorem nk_iff {p r : Arr} : nk p = nk r ↔ p.a = r.a ∧ p.b = r.b ∧ p.g = r.g := by
  constructor
  · intro h
    unfold nk at h
    injection h with h
    injection h with h1 h
    injection h with h2 h
    injection h with h3 h
    injection h1 with h1
    injection h2 with h2
    injection h3 with h3
    refine ⟨h1, h2, ?_⟩
    have inj : ∀ {l m : List Int}, l.map NestedKey.num = m.map NestedKey.num → l = m := by
      intro l
      induction l with
      | nil => intro m q; cases m with
        | nil => rfl
        | cons x m => cases q
      | cons x l ih => intro m q; cases m with
        | nil => cases q
        | cons y m =>
          injection q with q1 q2
          injection q1 with q1
          rw [q1, ih q2]
    exact inj h3
  · rintro ⟨h1, h2, h3⟩
    unfold nk
    rw [h1, h2, h3]
def NdPhi (prog : Program) (w : World) (d : Addr) (xs : List (Arr × Addr)) (h : Heap) : Prop := ∃ us : List (NestedKey × Addr × Value),
  Paired (fun (p : Arr × Addr) (q : NestedKey × Addr × Value) => q.1 = nk p.1 ∧ q.2.1 = p.2 ∧ ∃ t, q.2.2 = Value.int p.1.c t) xs us ∧
  ∃ o es ep, h.get? d = some o ∧ o.ExactDict ∧ o.data = .dict es ep ∧ es.toList = us.map (entryOfKey (nestedKind prog w)) ∧ (us.map (·.1)).Nodup
def NdO (prog : Program) (w : World) (d : Addr) (xs : List (Arr × Addr)) : HO := .ext (NdPhi prog w d xs)
/-- the dict at d: the arrows, each with its key's address -/
def Nd (prog : Program) (w : World) (H : Hp) (d : Addr) (xs : List (Arr × Addr)) : Prop := H d = some (NdO prog w d xs) ∧ (d == sysModules) = false ∧ ∀ p ∈ xs, Td H (.ref p.2) (dMK p.1)
theorem NdPhi.ok {P : Program} {w : World} {H : Hp} {h : Heap} {d : Addr} {xs : List (Arr × Addr)} (x : NdPhi P w d xs h) : ObjOk P w H h d (NdO P w d xs) := by
  refine ⟨x, ?_, ?_⟩
  · obtain ⟨us, _, o, _, _, e, _⟩ := x
    exact ⟨o, e⟩
  · intro h1 h2 y k
    obtain ⟨us, r, o, es, ep, e, c⟩ := y
    exact ⟨us, r, o, es, ep, k o e, c⟩
theorem Nd.mut {P : Program} {w : World} {H H' : Hp} {d : Addr} {xs : List (Arr × Addr)} (x : Nd P w H d xs) (e : Tk H H') (h : H' d = H d) : Nd P w H' d xs := ⟨by rw [h]; exact x.1, x.2.1, fun p hp => (x.2.2 p hp).mono e⟩
theorem Nd.mk {P : Program} {w : World} {H H' : Hp} {d : Addr} {xs : List (Arr × Addr)} (x : Nd P w H d xs) (e : Ex H H') : Nd P w H' d xs := ⟨e _ _ x.1, x.2.1, fun p hp => (x.2.2 p hp).mk e⟩
mutual
def nkD : PyData → NestedKey
  | .int i => .num i
  | .str x => .text x
  | .tuple ds => .tup (nkDs ds)
  | _ => .none
def nkDs : List PyData → List NestedKey
  | [] => []
  | d :: ds => nkD d :: nkDs ds
end
theorem nkDs_ints : ∀ ns : List Int, nkDs (ns.map .int) = ns.map .num
  | [] => by simp [nkDs]
  | n :: ns => by
    show nkDs (.int n :: ns.map .int) = .num n :: ns.map .num
    rw [nkDs, nkD, nkDs_ints ns]
theorem nkD_mk (r : Arr) : nkD (dMK r) = nk r := by
  simp only [dMK, nkD, nkDs, nk, dTI, nkDs_ints]
theorem nested_ints {h : Heap} : ∀ {ns : List Int} {us : List Value}, IntsAre us ns → NestedAll h (ns.map .num) us
  | _, _, .nil => .nil
  | _, _, .cons n t r => .cons (.int n t) (nested_ints r)
section
variable {X : Cx} {pins : List (Addr × Obj)} {σ : L2.St} {H : Hp} {s : Shared}
theorem nest_of (I : L2.Inv X pins σ H s) {q : Addr} {r : Arr} (h : Td H (.ref q) (dMK r)) : (nestedKind X.prog X.w).is s.heap (nk r) q := by
  obtain ⟨a, g, e, h1, h2⟩ := td_mk h
  obtain ⟨g', e2, h2⟩ := td_ti h2
  cases e
  cases e2
  obtain ⟨its, rv, ⟨o, ho, hc, n, hd⟩, _⟩ := I.tuple (SqT.of h1)
  obtain ⟨its2, rv2, ⟨o2, ho2, hc2, n2, hd2⟩, _⟩ := I.tuple (SqT.of h2)
  refine ⟨.tup ho hc hd ?_, ?_⟩
  · cases rv with
    | cons r1 rv =>
      cases rv with
      | cons r2 rv =>
        cases rv with
        | cons r3 rv =>
          cases rv
          obtain ⟨t1, rfl⟩ := r1
          obtain ⟨t2, rfl⟩ := r2
          cases (show _ = Value.ref g from r3)
          exact .cons (.int _ _) (.cons (.int _ _) (.cons (.tup ho2 hc2 hd2 (nested_ints rv2.ints)) .nil))
  · have q1 : ∀ ns : List Int, NestedKey.depthAll (ns.map .num) = 0 := fun ns => by
      induction ns with
      | nil => simp [NestedKey.depthAll]
      | cons n ns ih =>
        show NestedKey.depthAll (.num n :: ns.map .num) = 0
        simp [NestedKey.depthAll, NestedKey.depth, ih]
    simp [nk, NestedKey.depth, NestedKey.depthAll, q1]
end

/-- is the mark among them -/
def hasMk (xs : List (Arr × Addr)) (r : Arr) : Bool := xs.any fun p => decide (nk p.1 = nk r)
theorem nd_at {xs : List (Arr × Addr)} {us : List (NestedKey × Addr × Value)} (h : Paired (fun (p : Arr × Addr) (q : NestedKey × Addr × Value) => q.1 = nk p.1 ∧ q.2.1 = p.2 ∧ ∃ t, q.2.2 = Value.int p.1.c t) xs us) (r : Arr) :
    (atKey us (nk r)).isSome = hasMk xs r ∧ ∀ p ∈ xs, nk p.1 = nk r → (us.map (·.1)).Nodup → ∃ q t, atKey us (nk r) = some (q, Value.int p.1.c t) := by
  induction h with
  | nil => exact ⟨rfl, fun p hp => by simp at hp⟩
  | @cons p q xs us e t ih =>
    obtain ⟨e1, e2, tk, e3⟩ := e
    constructor
    · by_cases z : nk p.1 = nk r
      · unfold atKey hasMk
        rw [List.find?_cons_of_pos (by simpa [e1] using z), List.any_cons, decide_eq_true z]
        rfl
      · have q1 := ih.1
        unfold atKey hasMk at q1 ⊢
        rw [List.find?_cons_of_neg (by simpa [e1] using z), List.any_cons, decide_eq_false z, Bool.false_or]
        exact q1
    · intro p' hp' hk hn
      rw [List.map_cons, List.nodup_cons] at hn
      by_cases z : nk p.1 = nk r
      · rcases List.mem_cons.mp hp' with rfl | hp'
        · refine ⟨q.2.1, tk, ?_⟩
          unfold atKey
          rw [List.find?_cons_of_pos (by simpa [e1] using z)]
          show some q.2 = _
          rw [← e3]
        · exfalso
          apply hn.1
          have : ∀ {xs : List (Arr × Addr)} {us : List (NestedKey × Addr × Value)}, Paired (fun (p : Arr × Addr) (q : NestedKey × Addr × Value) => q.1 = nk p.1 ∧ q.2.1 = p.2 ∧ ∃ t, q.2.2 = Value.int p.1.c t) xs us → ∀ p ∈ xs, nk p.1 ∈ us.map (·.1) := by
            intro xs us h
            induction h with
            | nil => intro p hp; simp at hp
            | cons e t ih =>
              intro p hp
              rcases List.mem_cons.mp hp with rfl | hp
              · rw [List.map_cons, e.1]; exact List.mem_cons_self
              · exact List.mem_cons_of_mem _ (ih p hp)
          rw [e1, z, ← hk]
          exact this t p' hp'
      · rcases List.mem_cons.mp hp' with rfl | hp'
        · exact absurd hk z
        · obtain ⟨a, b, c⟩ := ih.2 p' hp' hk hn.2
          refine ⟨a, b, ?_⟩
          unfold atKey at c ⊢
          rw [List.find?_cons_of_neg (by simpa [e1] using z)]
          exact c
theorem paired_snoc {α β : Type} {F : α → β → Prop} : ∀ {l₁ : List α} {l₂ : List β} {a : α} {b : β}, Paired F l₁ l₂ → F a b → Paired F (l₁ ++ [a]) (l₂ ++ [b])
  | _, _, _, _, .nil, h => .cons h .nil
  | _, _, _, _, .cons r t, h => .cons r (paired_snoc t h)
section
variable {X : Cx} {pins : List (Addr × Obj)} {σ : L2.St} {H : Hp} {s : Shared}
theorem nd_open (I : L2.Inv X pins σ H s) {d : Addr} {xs : List (Arr × Addr)} (x : Nd X.prog X.w H d xs) : ∃ us : List (NestedKey × Addr × Value),
    Paired (fun (p : Arr × Addr) (q : NestedKey × Addr × Value) => q.1 = nk p.1 ∧ q.2.1 = p.2 ∧ ∃ t, q.2.2 = Value.int p.1.c t) xs us ∧ s.heap.DictOfH (nestedKind X.prog X.w) d us := by
  obtain ⟨e, hd, hk⟩ := x
  obtain ⟨⟨us, r, o, es, ep, h1, h2, h3, h4, h5⟩, _⟩ := I.hok d _ e
  refine ⟨us, r, o, es, ep, h1, h2, h3, h4, ?_, h5⟩
  have : ∀ {xs : List (Arr × Addr)} {us : List (NestedKey × Addr × Value)}, Paired (fun (p : Arr × Addr) (q : NestedKey × Addr × Value) => q.1 = nk p.1 ∧ q.2.1 = p.2 ∧ ∃ t, q.2.2 = Value.int p.1.c t) xs us → (∀ p ∈ xs, Td H (.ref p.2) (dMK p.1)) → ∀ q ∈ us, (nestedKind X.prog X.w).is s.heap q.1 q.2.1 := by
    intro xs us h
    induction h with
    | nil => intro _ q hq; simp at hq
    | @cons p q xs us e t ih =>
      intro hk q' hq
      rcases List.mem_cons.mp hq with rfl | hq
      · rw [e.1, e.2.1]
        exact nest_of I (hk p List.mem_cons_self)
      · exact ih (fun p hp => hk p (List.mem_cons_of_mem _ hp)) q' hq
  exact this r hk
theorem nd_room {A : Around} (hu : A.units + 16 < cLine) : (nestedKind X.prog X.w).room A.in1 := by
  show A.units + 1 + 8 < cLine
  omega
end
section
variable {X : Cx} {o i value : Expr} {pos pos' : Pos} {td ty tv : TE}
def tDInN (P : Program) (w : World) (neg : Bool) (ty td : TE) : TE := fun σ H Q => ty σ H fun y H1 => td σ H1 fun x H2 => ∃ d xs r q, x = .ref d ∧ y = .ref q ∧ Nd P w H2 d xs ∧ Td H2 y (dMK r) ∧ Q (.bl (neg ^^ hasMk xs r)) H2
theorem pc_dinN (hu : X.A.units + 16 < cLine) (hi : PE X i ty) (ho : PE X o td) : PC X .In i o (tDInN X.prog X.w false ty td) := by
  refine ⟨fun pins s σ H Q I h => ?_⟩
  refine thn (hi.run pins s σ H _ I h) fun iv s1 ⟨y, H1, I1, ry, q1⟩ => thn (ho.run pins s1 σ H1 _ I1 q1) fun u s2 ⟨x, H2, I2, rx, d, xs, r, q, ex, ey, hn, hy, q2⟩ => ?_
  subst ex ey
  obtain rfl : u = Value.ref d := rx
  obtain rfl : iv = Value.ref q := ry
  obtain ⟨us, pr, dd⟩ := nd_open I2 hn
  refine in_keyed (nd_room (X := X) hu) (nest_of I2 hy) hn.2.1 ⟨us, dd, rfl⟩ ⟨.bl _, H2, I2.tok _, ?_, q2⟩
  show Value.bool _ = Value.bool _
  rw [valueAt_pairsH, Option.isSome_map, (nd_at pr r).1]
  simp
def tDGetN (P : Program) (w : World) (td ty : TE) : TE := fun σ H Q => td σ H fun x H1 => ty σ H1 fun y H2 => ∃ d xs p q r, x = .ref d ∧ y = .ref q ∧ Nd P w H2 d xs ∧ Td H2 y (dMK r) ∧ p ∈ xs ∧ nk p.1 = nk r ∧ Q (.int p.1.c) H2
theorem pe_dgetN (hu : X.A.units + 16 < cLine) (ho : PE X o td) (hi : PE X i ty) (hs : NoSl i) : PE X (.Subscript o i pos) (tDGetN X.prog X.w td ty) := by
  refine ⟨fun pins s σ H Q I h => ?_⟩
  refine subD_of PySem.F.slot_dict_getitem.lookup hs (thn (ho.run pins s σ H _ I h) fun u s1 ⟨x, H1, I1, rx, q1⟩ => thn (hi.run pins s1 σ H1 _ I1 q1) fun iv s2 ⟨y, H2, I2, ry, d, xs, p, q, r, ex, ey, hn, hy, hp, hk, q2⟩ => ?_)
  subst ex ey
  obtain rfl : u = Value.ref d := rx
  obtain rfl : iv = Value.ref q := ry
  obtain ⟨us, pr, dd⟩ := nd_open I2 hn
  obtain ⟨o1, es, ep, h1, h2, h3, h4, h5, h6⟩ := id dd
  obtain ⟨q', t, hv⟩ := (nd_at pr r).2 p hp hk h6
  refine ⟨⟨o1, h1, h2.1⟩, getItem_keyed (nd_room (X := X) hu) (nest_of I2 hy) ⟨us, dd, rfl⟩ (v := Value.int p.1.c t) (by rw [valueAt_pairsH, hv]; rfl) ⟨.int p.1.c, H2, I2.tok _, ⟨t, rfl⟩, q2⟩⟩
def sDPutN (P : Program) (w : World) (td ty tv : TE) : TS := fun D σ H => tv σ H fun v H1 => td σ H1 fun x H2 => ty σ H2 fun y H3 => ∃ d xs r q, x = .ref d ∧ v = .int r.c ∧ y = .ref q ∧ Nd P w H3 d xs ∧ Td H3 y (dMK r) ∧ hasMk xs r = false ∧ xs.length < 100000 ∧
  D.nx σ (upd H3 d (NdO P w d (xs ++ [(r, q)])))
theorem nd_write {pins : List (Addr × Obj)} {σ : L2.St} {H : Hp} {s : Shared} (I : L2.Inv X pins σ H s) {d : Addr} {xs ys : List (Arr × Addr)} {h' : Heap} {t' : Nat} (e : H d = some (NdO X.prog X.w d xs)) (hs : Heap.SameBut d s.heap h') (he : ∃ q, h'.get? d = some q)
    (new : NdPhi X.prog X.w d ys h') : L2.Inv X pins σ (upd H d (NdO X.prog X.w d ys)) { s with heap := h', toks := t' } :=
  d_write I (by rw [e]; exact True.intro) hs he new.ok
theorem ps_dputN (hu : X.A.units + 16 < cLine) (ho : PE X o td) (hi : PE X i ty) (hv : PE X value tv) (hs : swapsWith value (some (.Subscript o i pos')) pos.line X.env = pure false) :
    PS X (.Assign [.Subscript o i pos'] value pos) (sDPutN X.prog X.w td ty tv) := by
  refine ⟨fun pins s σ H D I h => ?_⟩
  refine wpAny_Assign_Subscript (thn (hv.run pins s σ H _ I h) fun rr s1 ⟨v, H1, I1, rv, q1⟩ => thn (ho.run pins s1 σ H1 _ I1 q1) fun u s2 ⟨x, H2, I2, rx, q2⟩ => thn (hi.run pins s2 σ H2 _ I2 q2) fun iv s3 ⟨y, H3, I3, ry, d, xs, r, q, ex, evv, ey, hn, hy, hnew, hlen, q3⟩ => ?_) hs
  subst ex ey evv
  obtain rfl : u = Value.ref d := rx
  obtain rfl : iv = Value.ref q := ry
  obtain ⟨t, rfl⟩ := (show ∃ t, rr = Value.int r.c t from rv)
  obtain ⟨us, pr, dd⟩ := nd_open I3 hn
  have hl := Paired.length pr
  refine wpAny_setItem_heap (hsz := by have := line_ok (Nat.le_of_lt hlen); omega) (nd_room (X := X) hu) (nest_of I3 hy) dd fun h' dd' hs' => ?_
  have hat : atKey us (nk r) = none := by
    have q1 := (nd_at pr r).1
    rw [hnew] at q1
    cases z : atKey us (nk r) with
    | none => rfl
    | some y => rw [z] at q1; cases q1
  have hst : storedH us (nk r) q (Value.int r.c t) = us ++ [(nk r, q, Value.int r.c t)] := by
    first
      | (unfold storedH; rw [hat]; rfl)
      | (unfold storedH; simp [hat])
  rw [hst] at dd'
  obtain ⟨o1, es, ep, h1, h2, h3, h4, h5, h6⟩ := dd'
  have I4 := nd_write (t' := s3.toks + (nestedKind X.prog X.w).draws (nk r)) (ys := xs ++ [(r, q)]) I3 hn.1 hs' ⟨o1, h1⟩ ⟨_, paired_snoc pr ⟨rfl, rfl, t, rfl⟩, o1, es, ep, h1, h2, h3, h4, h6⟩
  exact ⟨σ, _, I4, q3⟩
/-- {} of marks -/
def tDNewN (P : Program) (w : World) : TE := fun _ H Q => ∀ p, H p = none → (p == sysModules) = false → Q (.ref p) (upd H p (NdO P w p []))
theorem pe_dnewN : PE X (.Dict [] [] pos) (tDNewN X.prog X.w) := ⟨fun pins s σ H Q I h =>
  wpAny_Dict_empty ⟨.ref s.heap.objs.size, _, I.laid (t' := s.toks) (o := NdO X.prog X.w s.heap.objs.size []) (fun b u e => Heap.get?_push_of_some _ e) (Nat.le_refl _) (NdPhi.ok ⟨[], .nil, _, #[], 0, Heap.get?_push_size _ rfl, ⟨rfl, rfl, rfl⟩, rfl, rfl, .nil⟩), rfl,
    h _ (I.hok.fresh (Nat.le_refl _)) (beq_eq_false_iff_ne.mpr (Nat.ne_of_gt (Inv.big I)))⟩⟩
end
end K07
end K07_part_R4

section K07_part_R5
set_option Elab.async false
set_option linter.all false
set_option maxRecDepth 100000
set_option maxHeartbeats 4000000
namespace K07
open PySem PySem.Spec PyProof.Rows L2 Evl PySem.W PySem.Calls

/-! ### the draws: a list [at, numbers], at is 0 or more -/
def DrPhi (a p : Addr) (h : Heap) : Prop := ∃ (i : Int) (its : List Value) (n : Nat), 0 ≤ i ∧ Vals [.int i, .ref p] its ∧ h.get? a = some { cls := .type "list", data := .seq its.toArray n }
def DrO (a p : Addr) : HO := .ext (DrPhi a p)
/-- the draws at v -/
def Drw (H : Hp) (v : V) : Prop := ∃ a p ns, v = .ref a ∧ H a = some (DrO a p) ∧ H p = some (.lst ((ns : List Int).map V.int))
theorem Drw.mk {H H' : Hp} {v : V} (h : Drw H v) (e : Ex H H') : Drw H' v := let ⟨a, p, ns, h1, h2, h3⟩ := h; ⟨a, p, ns, h1, e _ _ h2, e _ _ h3⟩
theorem DrPhi.ok {P : Program} {w : World} {H : Hp} {h : Heap} {a p : Addr} (x : DrPhi a p h) : ObjOk P w H h a (DrO a p) := by
  refine ⟨x, ?_, ?_⟩
  · obtain ⟨_, _, _, _, _, e⟩ := x
    exact ⟨_, e⟩
  · intro h1 h2 y k
    obtain ⟨i, its, n, h0, r, e⟩ := y
    exact ⟨i, its, n, h0, r, k _ e⟩
theorem upd_self {H : Hp} {a : Addr} {o : HO} (h : H a = some o) : upd H a o = H := by
  funext b
  by_cases e : b = a
  · subst e; rw [upd_same, h]
  · rw [upd_ne e]
section
variable {X : Cx} {pins : List (Addr × Obj)} {σ : L2.St} {H : Hp} {s : Shared}
theorem dr_see (I : L2.Inv X pins σ H s) {a p : Addr} (h : H a = some (DrO a p)) : ∃ i, 0 ≤ i ∧ L2.Inv X pins σ (upd H a (.lst [.int i, .ref p])) s := by
  obtain ⟨⟨i, its, n, h0, r, e⟩, _⟩ := I.hok a _ h
  exact ⟨i, h0, I.write (h' := s.heap) (t' := s.toks) (by rw [h]; exact True.intro) (.inl rfl) (fun b u _ q => q) ⟨_, e⟩ ⟨by show 2 ≤ sizeLine; decide, its, n, r, e⟩⟩
theorem dr_hide {a p : Addr} {i : Int} {H1 : Hp} (I : L2.Inv X pins σ H1 s) (h : H a = some (DrO a p)) (e : H1 = upd H a (.lst [.int i, .ref p])) (h0 : 0 ≤ i) : L2.Inv X pins σ H s := by
  subst e
  have hl : (upd H a (.lst [.int i, .ref p])) a = some (.lst [.int i, .ref p]) := upd_same
  obtain ⟨z, its, n, r, e⟩ := I.hok a _ hl
  have J := I.write (x := a) (e := a) (h' := s.heap) (t' := s.toks) (o := DrO a p) (by rw [hl]; exact True.intro) (.inl rfl) (fun b u _ q => q) ⟨_, e⟩ (DrPhi.ok ⟨i, its, n, h0, r, e⟩)
  rw [upd_upd, upd_self h] at J
  exact J
/-- [at, numbers] -/
theorem pe_drw {es : List Expr} {t : TA} {pos : Pos} (h : PA X es t) : PE X (.List es pos) (fun σ H Q => t σ H fun xs H1 => ∃ i q, xs = [.int i, .ref q] ∧ 0 ≤ i ∧ ∀ p, H1 p = none → Q (.ref p) (upd H1 p (DrO p q))) := by
  refine ⟨fun pins s σ H Q I hq => ?_⟩
  refine wpAny_List_spliced (thn (h.run pos pins s σ H _ I hq) fun us s1 ⟨xs, H1, I1, r, i, q, ex, h0, k⟩ => ?_)
  subst ex
  refine ⟨by rw [← r.length]; show 2 ≤ sizeLine; decide, ?_⟩
  have hf : H1 s1.heap.objs.size = none := I1.hok.fresh (Nat.le_refl _)
  exact ⟨.ref s1.heap.objs.size, upd H1 s1.heap.objs.size (DrO s1.heap.objs.size q), I1.laid (t' := s1.toks) (fun b u e => Heap.get?_push_of_some _ e) (Nat.le_refl _) (DrPhi.ok ⟨i, us, 0, h0, r, Heap.get?_push_size _ rfl⟩), rfl, k _ hf⟩
/-- draws[0], draws[1] -/
def rIxDr : R2 := fun x y H Q => ∃ a p, x = .ref a ∧ H a = some (DrO a p) ∧ ((y = .int 0 ∧ ∀ i, 0 ≤ i → Q (.int i) H) ∨ (y = .int 1 ∧ Q (.ref p) H))
theorem ix_draw : IxR X rIxDr := by
  intro value slice pins s σ H x y v u Q I rx ry h hs
  obtain ⟨a, p, rfl, ha, q⟩ := h
  obtain ⟨i, h0, J⟩ := dr_see I ha
  have hl : (upd H a (.lst [.int i, .ref p])) a = some (.lst [.int i, .ref p]) := upd_same
  rcases q with ⟨rfl, q⟩ | ⟨rfl, q⟩
  · refine thn (ix_list value slice pins s σ _ (.ref a) (.int 0) v u (fun z H' => z = .int i ∧ H' = upd H a (.lst [.int i, .ref p])) J rx ry ⟨a, _, 0, .int i, rfl, rfl, .of hl, rfl, rfl, rfl⟩ hs) fun w' s' ⟨z, H', J', rz, ez, eH⟩ => ?_
    subst ez
    exact ⟨.int i, H, dr_hide J' ha eH h0, rz, q i h0⟩
  · refine thn (ix_list value slice pins s σ _ (.ref a) (.int 1) v u (fun z H' => z = .ref p ∧ H' = upd H a (.lst [.int i, .ref p])) J rx ry ⟨a, _, 1, .ref p, rfl, rfl, .of hl, rfl, rfl, rfl⟩ hs) fun w' s' ⟨z, H', J', rz, ez, eH⟩ => ?_
    subst ez
    exact ⟨.ref p, H, dr_hide J' ha eH h0, rz, q⟩
/-- draws[0] = j -/
def rSetDr : V → V → V → Hp → (Hp → Prop) → Prop := fun o i v H Q => ∃ a p j, o = .ref a ∧ i = .int 0 ∧ v = .int j ∧ 0 ≤ j ∧ H a = some (DrO a p) ∧ Q H
theorem set_draw : PSet X rSetDr := by
  intro pins s σ H o i v ov iv u Q I ro ri rv h
  obtain ⟨a, p, j, rfl, rfl, rfl, h0, ha, q⟩ := h
  obtain ⟨i, _, J⟩ := dr_see I ha
  have hl : (upd H a (.lst [.int i, .ref p])) a = some (.lst [.int i, .ref p]) := upd_same
  refine thn (set_list pins s σ _ (.ref a) (.int 0) (.int j) ov iv u (fun H' => H' = upd H a (.lst [.int j, .ref p])) J ro ri rv ⟨a, _, 0, 0, rfl, rfl, hl, rfl, ?_⟩) fun _ s' ⟨H', J', eH⟩ => ⟨H, dr_hide J' ha eH h0, q⟩
  show upd (upd H a (.lst [.int i, .ref p])) a (.lst [.int j, .ref p]) = _
  rw [upd_upd]
end

/-! ### len(set(t)) of a tuple of different ints -/
theorem nodup_len {l m : List Int} (hl : l.Nodup) (hm : m.Nodup) (h : ∀ x, x ∈ l ↔ x ∈ m) : l.length = m.length := by
  have p : l.Perm m := (List.perm_ext_iff_of_nodup hl hm).mpr h
  exact p.length_eq
def tLenSetT (K : PySem.W.Frag) (ta : TE) : TE := fun σ H Q => ta σ H fun x H1 => ∃ (l : Addr) (ns : List Int), x = .ref l ∧ SqT K H1 l (ns.map V.int) ∧ ns.Nodup ∧ ns.length ≤ 1000 ∧ Q (.int (ns.length : Nat)) H1
theorem pe_lenSetT {X : Cx} {a : Expr} {ta : TE} {p p2 q pos : Pos} (hg : Gl X "len") (hm : X.mg "len" = none) (hg2 : Gl X "set") (hm2 : X.mg "set" = none) (ha : PE X a ta) (hc : X.calm = true := by rfl)
    (na : starEach [a] X.env = (false, eval a X.env) :: starEach [] X.env := by rfl) : PE X (.Call (.Name "len" p) [.Call (.Name "set" p2) [a] [] q] [] pos) (tLenSetT X.K ta) := by
  refine ⟨fun pins s σ H Q I h => ?_⟩
  refine Call_ (ld_blt I hg hm boot_len ?_)
  refine PyProof.Rows.callWith_builtin1 (PyProof.Rows.args_cons ?_ rfl) rfl rfl
  refine Call_ (ld_blt I hg2 hm2 boot_set ?_)
  refine PyProof.Rows.callWith_type1 (PyProof.Rows.args_cons (thn (ha.run pins s σ H _ I h) fun v s1 ⟨x, H1, I1, r1, q1⟩ => PyProof.Rows.args_nil ?_) na) na rfl
  obtain ⟨l, ns, rfl, hq, hnd, hl, q1⟩ := q1
  cases r1
  obtain ⟨its, r, pl, hz⟩ := I1.tuple hq
  refine L2.call_set_tupI ns (I1.ok.hd hc) (show s1.heap.IsTuple l its.toArray from pl) (by simpa using r.ints) (by unfold scanBound; omega) fun h' tk c hS hc2 hk => ?_
  refine PyProof.Rows.args_nil ?_
  obtain ⟨o, es, ep, t, ho, hex, hd, hgood, hn1, hmem, hb, hf, hn, _⟩ := hS
  have hlen : es.size = ns.length := by
    have e := nodup_len hn1 hnd (fun k => by
      have := hmem k
      rw [decide_eq_true_eq] at this
      exact this.symm)
    rw [List.length_map, Array.length_toList] at e
    exact e
  have I2 : L2.Inv X pins σ H1 { s1 with heap := h', toks := tk } := I1.kept fun b o e => hk b o e
  exact call_len_set ho hex hd hf (by rw [hlen]; omega) ⟨.int ns.length, H1, I2.tok _, ⟨_, by rw [hlen]⟩, q1⟩

/-! ### repr -/
structure Shw (d : PyData) : Prop where
  sh : d.showable = true
  nd : d.hasDict = false
  dp : d.depth ≤ 8
  sz : d.shown.length ≤ sizeLine
theorem cr_repr {X : Cx} (hg : X.A.guards = some []) (hu : X.A.units + 32 < cLine) : CallR X (.builtin "repr") (fun vs H Q => ∃ x d, vs = [x] ∧ Dp X.K H x d ∧ Shw d ∧ ((∃ i, d = .int i) ∨ ∃ a, x = .ref a) ∧ Q (.str d.shown) H) := by
  intro pins s σ H vs us Q I r h
  obtain ⟨x, d, rfl, hd, hs, hx, q⟩ := h
  obtain ⟨u, rfl, rx⟩ := r.one
  rcases hx with ⟨i, rfl⟩ | ⟨a, rfl⟩
  · cases hd
    obtain ⟨t, rfl⟩ := rx
    exact PySem.P.repr_of_int (by simpa [PyData.showable] using hs.sh) ⟨.str _, H, I.tok _, ⟨_, rfl⟩, q⟩
  · cases rx
    obtain ⟨as, rd⟩ := Dp.reads I d _ _ hd rfl
    have h1 := hs.dp
    refine repr_of_reads' rd hs.sh (fun z => by rw [hs.nd] at z; cases z) hg (by omega) (fun _ _ e => e) (fun h' u tk hk => ⟨.str d.shown, H, I.kept hk, ⟨u, rfl⟩, q⟩) hs.sz

/-! ### sorted(d) of a dict of marks -/
def rSortN (P : Program) (w : World) : List V → Hp → VK → Prop := fun vs H Q => ∃ d xs, vs = [V.ref d] ∧ Nd P w H d xs ∧ Srt (xs.map fun p => dMK p.1) ∧ ∀ p ys, H p = none → TdA H ys (srtD (xs.map fun p => dMK p.1)) → Q (.ref p) (upd H p (.lst ys))
theorem cr_sortN {X : Cx} (hc : X.calm = true) (hu : X.A.units + 32 < cLine) : CallR X (.builtin "sorted") (rSortN X.prog X.w) := by
  intro pins s σ H vs us Q I r h
  obtain ⟨d, xs, rfl, hn, hs, q⟩ := h
  rw [Vals.ref1 r]
  obtain ⟨ks, pr, dd⟩ := nd_open I hn
  obtain ⟨o, es, ep, ho, hx, hdt, he, _, _⟩ := dd
  have l1 : es.size = ks.length := size_of_entries he
  have l2 := Paired.length pr
  have l3 := hs.len
  rw [List.length_map] at l3
  refine sorted_gather ?_
  refine collect_src (A := X.A.in1) (kdl_raw hn.2.1 hx hdt) (show X.A.in1.handled = none from I.ok.hd hc) ho (by have := line_ok l3; omega) fun h' tk acc kp it => ?_
  have ea : acc.toList = xs.map fun p => Value.ref p.2 := by
    have hl : acc.toList.length = ks.length := by rw [Array.length_toList, it.1]; exact l1
    apply List.ext_getElem?
    intro j
    rw [List.getElem?_map]
    cases hj : acc.toList[j]? with
    | none =>
      have h1 := List.getElem?_eq_none_iff.mp hj
      rw [List.getElem?_eq_none (by omega)]
      all_goals rfl
    | some v =>
      obtain ⟨en, hen, hv⟩ := it.2 j v (by rw [← Array.getElem?_toList]; exact hj)
      have qe := entry_at he j
      rw [hen] at qe
      cases hb : xs[j]? with
      | none =>
        have h1 := List.getElem?_eq_none_iff.mp hb
        rw [List.getElem?_eq_none (by omega)] at qe
        cases qe
      | some p =>
        obtain ⟨b, hkb, e1, e2, e3⟩ := paired_get pr hb
        rw [hkb] at qe
        have e4 : en = entryOfKey (nestedKind X.prog X.w) b := Option.some.inj qe
        show some v = some (Value.ref p.2)
        rw [hv, e4, ← e2]
        rfl
  have rv : Vals (xs.map fun p => V.ref p.2) acc.toList := by
    rw [ea]
    clear ea
    have : ∀ l : List (Arr × Addr), Vals (l.map fun p => V.ref p.2) (l.map fun p => Value.ref p.2) := fun l => by
      induction l with
      | nil => exact .nil
      | cons p l ih => exact .cons rfl ih
    exact this xs
  have I2 : L2.Inv X pins σ H { s with heap := h', toks := tk } := I.kept kp
  refine ⟨by rw [← rv.length, List.length_map]; exact line_ok l3, ?_⟩
  exact sort_last I2 rv (TdA.mapped fun p hp => hn.2.2 p hp) hs (show X.A.units + 1 + 16 < cLine by omega) q

/-! ### sorted(s) of a set of tuples -/
def rSortS (P : Program) (w : World) : List V → Hp → VK → Prop := fun vs H Q => ∃ a L, vs = [V.ref a] ∧ H a = some (SetTO P w a L) ∧ (∀ p ∈ L, Td H (.ref p.1) (dTI p.2)) ∧ (∀ p ∈ L, p.2 ≠ []) ∧
  ∀ (p : Addr) (ys : List V) (gs : List (List Int)), H p = none → TdA H ys (gs.map dTI) → gs.length ≤ 64 → (∀ g, g ∈ gs ↔ g ∈ L.map (·.2)) → Q (.ref p) (upd H p (.lst ys))
theorem ti_ok {H : Hp} {a : Addr} {ns : List Int} (h : Td H (.ref a) (dTI ns)) : H a = some (.tup (ns.map V.int)) := by
  obtain ⟨b, e, h1⟩ := td_ti h
  cases e
  exact h1
theorem alike_ti (g g' : List Int) : alike (dTI g) (dTI g') = true := by
  show alikeAll (g.map .int) (g'.map .int) = true
  exact alike_ints g g'
theorem depth_ti (g : List Int) : (dTI g).depth = 1 := by
  show PyData.depth (.tuple (g.map .int)) = 1
  rw [PyData.depth, depth_ints]
theorem cr_sortS {X : Cx} (hc : X.calm = true) (hu : X.A.units + 32 < cLine) : CallR X (.builtin "sorted") (rSortS X.prog X.w) := by
  intro pins s σ H vs us Q I r h
  obtain ⟨a, L, rfl, ha, hk, hne, q⟩ := h
  have R0 : SetT0 X.prog X.w s.heap a L := (I.hok a _ ha).1
  obtain ⟨es, ep, t, R⟩ := R0.full fun p hp => L2.Inv.isT I (.of (ti_ok (hk p hp)))
  rw [Vals.ref1 r]
  obtain ⟨o, ho, hex, hd⟩ := R.ob
  have hsz := R.size
  have hfew := R.few
  refine sorted_gather ?_
  refine collect_set (A := X.A.in1) (show X.A.in1.handled = none from I.ok.hd hc) ⟨o, ho, hex.1, hd⟩ R.fits (by unfold scanBound; omega) R.tab.ris R.led fun s1 vs k1 hz g1 o1 pm => ?_
  have hes : es.toList.map (·.2) = L.map fun q => Value.ref q.1 := by
    rw [R.rows]
    unfold L2.rowsOf
    rw [List.map_map] <;> rfl
  rw [hes] at pm
  have ord : ∀ vs : List Value, (∀ v ∈ vs, ∃ q ∈ L, v = Value.ref q.1) → ∃ L1 : List (Addr × List Int), vs = L1.map (fun q => Value.ref q.1) ∧ ∀ q ∈ L1, q ∈ L := by
    intro vs
    induction vs with
    | nil => intro _; exact ⟨[], rfl, fun q hq => (by cases hq)⟩
    | cons v vs ih =>
      intro hv
      obtain ⟨p, hp, e⟩ := hv v List.mem_cons_self
      obtain ⟨L1, e1, h1⟩ := ih fun v' hv' => hv v' (List.mem_cons_of_mem _ hv')
      refine ⟨p :: L1, by rw [e, e1]; rfl, fun q hq => ?_⟩
      rcases List.mem_cons.mp hq with rfl | hq
      · exact hp
      · exact h1 q hq
  obtain ⟨L1, e1, hL1⟩ := ord vs fun v hv => by
    obtain ⟨q, hq, e⟩ := List.mem_map.mp (pm.mem_iff.mp hv)
    exact ⟨q, hq, e.symm⟩
  subst e1
  have hlen : L1.length = L.length := by
    have := pm.length_eq
    rw [List.length_map, List.length_map] at this
    exact this
  have key : ∀ p ∈ L, p.2 ∈ L1.map (·.2) := fun p hp => by
    have h1 : Value.ref p.1 ∈ L1.map fun q => Value.ref q.1 := pm.mem_iff.mpr (List.mem_map.mpr ⟨p, hp, rfl⟩)
    obtain ⟨q, hq, e⟩ := List.mem_map.mp h1
    have e' : q.1 = p.1 := by injection e
    have t1 := ti_ok (hk q (hL1 q hq))
    have t2 := ti_ok (hk p hp)
    rw [e', t2] at t1
    have e3 : p.2.map V.int = q.2.map V.int := by injection t1 with t1; injection t1
    have inj : ∀ {l m : List Int}, l.map V.int = m.map V.int → l = m := by
      intro l
      induction l with
      | nil => intro m q; cases m with
        | nil => rfl
        | cons x m => cases q
      | cons x l ih => intro m q; cases m with
        | nil => cases q
        | cons y m =>
          injection q with q1 q2
          injection q1 with q1
          rw [q1, ih q2]
    exact List.mem_map.mpr ⟨q, hq, (inj e3).symm⟩
  have J : L2.Inv X pins σ H { s with heap := s1.heap, gens := s1.gens, drawn := s1.drawn, toks := s1.toks } :=
    I.call (ch := []) (Un.kept k1) (I.hok.kept k1) (by rw [g1]; exact I.bare) (fun _ z => nomatch z)
  have es1 : s1 = { s with heap := s1.heap, gens := s1.gens, drawn := s1.drawn, toks := s1.toks } := by
    cases s1
    cases s
    cases o1
    rfl
  rw [← es1] at J
  have rv : Vals (L1.map fun q => V.ref q.1) (L1.map fun q => Value.ref q.1) := vals_of_refs L1
  have srt : Srt ((L1.map (·.2)).map dTI) := by
    refine ⟨?_, .inl ?_, by rw [List.length_map, List.length_map]; omega, ?_⟩
    · intro d hd d' hd'
      obtain ⟨g, _, rfl⟩ := List.mem_map.mp hd
      obtain ⟨g', _, rfl⟩ := List.mem_map.mp hd'
      exact alike_ti g g'
    · refine .inl fun d hd => ?_
      obtain ⟨g, hg, rfl⟩ := List.mem_map.mp hd
      obtain ⟨q, hq, rfl⟩ := List.mem_map.mp hg
      have := hne q (hL1 q hq)
      cases hq2 : q.2 with
      | nil => exact absurd hq2 this
      | cons x r => exact ⟨.int x, r.map .int, rfl⟩
    · intro d hd
      obtain ⟨g, _, rfl⟩ := List.mem_map.mp hd
      rw [depth_ti]
      omega
  have td : TdA H (L1.map fun q => V.ref q.1) ((L1.map (·.2)).map dTI) := by
    rw [List.map_map]
    exact TdA.mapped fun p hp => hk p (hL1 p hp)
  refine ⟨by rw [← rv.length, List.length_map]; exact line_ok (by omega), ?_⟩
  refine sort_last J rv td srt (show X.A.units + 1 + 16 < cLine by omega) fun p ys hp hys => ?_
  have e4 : srtD ((L1.map (·.2)).map dTI) = ((L1.map (·.2)).mergeSort fun a b => dataLe false id (dTI a) (dTI b)).map dTI := by
    rw [List.map_mergeSort]
    intro a _ b _
    rfl
  rw [e4] at hys
  refine q p ys _ hp hys (by rw [List.length_mergeSort, List.length_map]; omega) fun g => ?_
  rw [List.mem_mergeSort]
  constructor
  · intro hg
    obtain ⟨q, hq, rfl⟩ := List.mem_map.mp hg
    exact List.mem_map.mpr ⟨q, hL1 q hq, rfl⟩
  · intro hg
    obtain ⟨q, hq, rfl⟩ := List.mem_map.mp hg
    exact key q hq
end K07
end K07_part_R5

section K07_part_R6
set_option Elab.async false
set_option linter.all false
set_option maxRecDepth 100000
set_option maxHeartbeats 4000000
/-! {elt for a in x for b in y}, elt a tuple of ints (printed by gensc2.py) -/
namespace K07
open PySem PySem.Spec PyProof.Rows L2
section
variable {X : Cx} {pins : List (Addr × Obj)} {σ : L2.St} {H : Hp} {s : Shared} {E : Value → Shared → Prop}
theorem addT_ok {D q : Addr} {L : List (Addr × List Int)} {k : List Int} {Q : Value → Shared → Prop} (hu : X.A.units + 8 < cLine) (I : L2.Inv X pins σ H s) (hD : H D = some (SetTO X.prog X.w D L)) (hk : ∀ p ∈ L, Td H (.ref p.1) (dTI p.2)) (hy : Td H (.ref q) (dTI k)) (hz : L.length + 1 < 64)
    (h : ∀ L' s', (k ∈ L.map (·.2) → L' = L) → (k ∉ L.map (·.2) → L'.Perm ((q, k) :: L)) → L2.Inv X pins σ (upd H D (SetTO X.prog X.w D L')) s' → Q .none s') : wpAny (model X.prog X.w) X.A (call (.builtin "set.add") [.ref D, .ref q]) Q E s := by
  have R0 : SetT0 X.prog X.w s.heap D L := (I.hok D _ hD).1
  obtain ⟨es, ep, t, R⟩ := R0.full fun p hp => L2.Inv.isT I (.of (ti_ok (hk p hp)))
  obtain ⟨o, ho, hex, hd⟩ := R.ob
  have hT : s.TypeIs (.ref D) "set" := ⟨o, ho, hex.1⟩
  have hq := L2.Inv.isT I (.of (ti_ok hy))
  refine wpAny_call_entry F.slot_set_add hT F.entry_set_add ?_ (F.args_set_add_2 _ _)
  unfold Builtin.«set.add» Builtin.Frozenset.oneOther
  simp only [List.isEmpty_nil, bind_assoc]
  unfold Builtin.Frozenset.addrOf setAdd
  refine wpAny_bind (wpAny_pure ?_)
  try dsimp only
  refine wpAny_bind (wpAny_pure ?_)
  try dsimp only
  refine wpAny_bind ?_
  refine wpAny_holding ?_
  have hu1 : X.A.in1.units < cLine := by show X.A.units + 1 < cLine; omega
  refine wpAny_bind (wpAny_pyHash_tuple hu1 hq ?_)
  refine add_at (s := { s with toks := s.toks + (k.length + 1) }) R hq hu1 hz fun b h' L' es' ep' t' sb R' c1 c2 => ?_
  show wpAny _ _ (ret Value.none) _ _ _
  refine wpAny_pure ⟨_, rfl, h L' _ c1 c2 ?_⟩
  obtain ⟨o', ho', _⟩ := R'.ob
  exact I.write (e := D) (by rw [hD]; exact True.intro) (.inl rfl) (fun b u hb hu => (sb.2 b hb).trans hu) ⟨o', ho'⟩ (setTO_new R'.t0)
end
theorem scTurn2_out (elt t0 i0 t1 i1 : Expr) (ifs0 ifs1 : List Expr) (scope : Scope) (pos : Pos) (it acc : Value) (env : Env) :
    compTurn (.SetComp elt [⟨t0, i0, ifs0, 0⟩, ⟨t1, i1, ifs1, 0⟩] scope pos) 0 it acc env = (do
      standAt i0.pos
      match ← pyNext it with
      | none => pure (.done .next)
      | some v =>
        letOwnedTupleGo t0 it v
        assign t0 env v
        let mut ok := true
        for c in ifs0 do
          if ok then ok ← isTrue c env (eval c env)
        if ok then
          let x ← eval i1 env
          standAt i1.pos
          let x ← foldedSetIterable i1 env x
          let _ ← runOwn (.compStart (.SetComp elt [⟨t0, i0, ifs0, 0⟩, ⟨t1, i1, ifs1, 0⟩] scope pos) 1 (← holding [x] (pyIter x)) acc env) env
        again (.compLoop (.SetComp elt [⟨t0, i0, ifs0, 0⟩, ⟨t1, i1, ifs1, 0⟩] scope pos) 0 it acc env)) := by rfl
theorem scTurn2_in (elt t0 i0 t1 i1 : Expr) (ifs0 ifs1 : List Expr) (scope : Scope) (pos : Pos) (it acc : Value) (env : Env) :
    compTurn (.SetComp elt [⟨t0, i0, ifs0, 0⟩, ⟨t1, i1, ifs1, 0⟩] scope pos) 1 it acc env = (do
      standAt i1.pos
      match ← pyNext it with
      | none => pure (.done .next)
      | some v =>
        letOwnedTupleGo t1 it v
        assign t1 env v
        let mut ok := true
        for c in ifs1 do
          if ok then ok ← isTrue c env (eval c env)
        if ok then
          (do let v ← eval elt env; standAt elt.pos; let _ ← call (.builtin "set.add") [acc, v])
        again (.compLoop (.SetComp elt [⟨t0, i0, ifs0, 0⟩, ⟨t1, i1, ifs1, 0⟩] scope pos) 1 it acc env)) := by rfl

section
variable {prog : Program} {w : World} {A : Around} {R : Result → Shared → Prop} {s : Shared} {elt t0 i0 t1 i1 : Expr} {ifs0 ifs1 : List Expr} {scope : Scope} {pos : Pos} {it acc : Value} {env : Env}
/-- the loop of the first clause -/
theorem scLoop2_out (hs : ∀ x, foldedSetIterable i1 env x = pure x) (I : Nat → Shared → Prop)
    (turn : ∀ n s, I n s → wpAny (model prog w) A (pyNext it) (fun r s₁ => match r with
      | none => R (.ok .next) s₁
      | some v => wpAny (model prog w) A (letOwnedTupleGo t0 it v) (fun _ s₁' => wpAny (model prog w) A (assign t0 env v) (fun _ s₂ =>
          wpAny (model prog w) A (forIn ifs0 true fun c r => if r = true then do let ok ← isTrue c env (eval c env); pure (ForInStep.yield ok) else pure (ForInStep.yield r)) (fun ok s₃ =>
            if ok = true then wpAny (model prog w) A (eval i1 env) (fun x s₄ => wpAny (model prog w) A (pyIter x) (fun it1 s₅ =>
              codeAny (model prog w) A (.compStart (.SetComp elt [⟨t0, i0, ifs0, 0⟩, ⟨t1, i1, ifs1, 0⟩] scope pos) 1 it1 acc env) (fun r s' => match r with
                | .ok _ => ∃ m, m < n ∧ I m s'
                | .error _ => False) s₅) (notedBy (model prog w) A env fun e s' => R (.error e) s') s₄) (notedBy (model prog w) A env fun e s' => R (.error e) s') s₃
            else ∃ m, m < n ∧ I m s₃) (notedBy (model prog w) A env fun e s' => R (.error e) s') s₂) (notedBy (model prog w) A env fun e s' => R (.error e) s') s₁') (notedBy (model prog w) A env fun e s' => R (.error e) s') s₁) (notedBy (model prog w) A env fun e s' => R (.error e) s') s)
    (n : Nat) (h : I n s) :
    codeAny (model prog w) A (.compLoop (.SetComp elt [⟨t0, i0, ifs0, 0⟩, ⟨t1, i1, ifs1, 0⟩] scope pos) 0 it acc env) R s := by
  refine codeAny_loop rfl I (fun n s hI => ?_) n h
  show wpAny _ A ((compTurn (.SetComp elt [⟨t0, i0, ifs0, 0⟩, ⟨t1, i1, ifs1, 0⟩] scope pos) 0 it acc env).onRaise (fun x => do noteFrame x env; theTreesLotGoes x)) _ _ s
  refine wpAny_noted ?_
  rw [scTurn2_out]
  refine wpAny_bind (wpAny_standAt (wpAny_bind (wpAny_mono (turn n s hI) (fun r s₁ h₁ => ?_) fun _ _ h' => h')))
  cases r with
  | none => exact wpAny_pure h₁
  | some v =>
    refine wpAny_bind (wpAny_mono h₁ (fun _ s₁' h₁' => ?_) fun _ _ h' => h')
    refine wpAny_bind (wpAny_mono h₁' (fun _ s₂ h₂ => wpAny_bind (wpAny_mono h₂ (fun ok s₃ h₃ => ?_) fun _ _ h' => h')) fun _ _ h' => h')
    cases ok with
    | false => exact wpAny_pure ⟨rfl, h₃⟩
    | true =>
      refine wpAny_bind (wpAny_mono h₃ (fun x s₄ h₄ => ?_) fun _ _ h' => h')
      refine wpAny_bind (wpAny_standAt (wpAny_bind (wpAny_of_eq (hs x) (wpAny_bind (wpAny_holding (wpAny_mono h₄ (fun it1 s₅ h₅ => ?_) fun _ _ h' => h'))))))
      refine wpAny_bind (wpAny_runOwn ?_)
      rw [Around.mark_none]
      refine codeAny_mono h₅ fun r s' hr => ?_
      cases r with
      | ok f =>
        first
          | exact wpAny_pure ⟨rfl, hr⟩
          | exact wpAny_bind (wpAny_pure (wpAny_pure ⟨rfl, hr⟩))
      | error e => exact hr.elim
/-- the loop of the second -/
theorem scLoop2_in (I : Nat → Shared → Prop)
    (turn : ∀ n s, I n s → wpAny (model prog w) A (pyNext it) (fun r s₁ => match r with
      | none => R (.ok .next) s₁
      | some v => wpAny (model prog w) A (letOwnedTupleGo t1 it v) (fun _ s₁' => wpAny (model prog w) A (assign t1 env v) (fun _ s₂ =>
          wpAny (model prog w) A (forIn ifs1 true fun c r => if r = true then do let ok ← isTrue c env (eval c env); pure (ForInStep.yield ok) else pure (ForInStep.yield r)) (fun ok s₃ =>
            if ok = true then wpAny (model prog w) A (eval elt env) (fun x s₄ =>
              wpAny (model prog w) A (call (.builtin "set.add") [acc, x]) (fun _ s₅ => ∃ m, m < n ∧ I m s₅) (notedBy (model prog w) A env fun e s' => R (.error e) s') s₄) (notedBy (model prog w) A env fun e s' => R (.error e) s') s₃
            else ∃ m, m < n ∧ I m s₃) (notedBy (model prog w) A env fun e s' => R (.error e) s') s₂) (notedBy (model prog w) A env fun e s' => R (.error e) s') s₁') (notedBy (model prog w) A env fun e s' => R (.error e) s') s₁) (notedBy (model prog w) A env fun e s' => R (.error e) s') s)
    (n : Nat) (h : I n s) :
    codeAny (model prog w) A (.compLoop (.SetComp elt [⟨t0, i0, ifs0, 0⟩, ⟨t1, i1, ifs1, 0⟩] scope pos) 1 it acc env) R s := by
  refine codeAny_loop rfl I (fun n s hI => ?_) n h
  show wpAny _ A ((compTurn (.SetComp elt [⟨t0, i0, ifs0, 0⟩, ⟨t1, i1, ifs1, 0⟩] scope pos) 1 it acc env).onRaise (fun x => do noteFrame x env; theTreesLotGoes x)) _ _ s
  refine wpAny_noted ?_
  rw [scTurn2_in]
  refine wpAny_bind (wpAny_standAt (wpAny_bind (wpAny_mono (turn n s hI) (fun r s₁ h₁ => ?_) fun _ _ h' => h')))
  cases r with
  | none => exact wpAny_pure h₁
  | some v =>
    refine wpAny_bind (wpAny_mono h₁ (fun _ s₁' h₁' => ?_) fun _ _ h' => h')
    refine wpAny_bind (wpAny_mono h₁' (fun _ s₂ h₂ => wpAny_bind (wpAny_mono h₂ (fun ok s₃ h₃ => ?_) fun _ _ h' => h')) fun _ _ h' => h')
    cases ok with
    | false => exact wpAny_pure ⟨rfl, h₃⟩
    | true =>
      exact wpAny_bind (wpAny_bind (wpAny_mono h₃ (fun x s₄ h₄ => wpAny_bind (wpAny_standAt (wpAny_bind (wpAny_mono h₄ (fun _ s₅ h₅ => wpAny_pure (wpAny_pure ⟨rfl, h₅⟩)) fun _ _ h' => h')))) fun _ _ h' => h'))
/-- the second clause's start -/
theorem scStart1_ok (h0 : codeAny (model prog w) A (.compLoop (.SetComp elt [⟨t0, i0, ifs0, 0⟩, ⟨t1, i1, ifs1, 0⟩] scope pos) 1 it acc env) R s)
    (h : wpAny (model prog w) A (pyIter it) (fun it' s' => codeAny (model prog w) A (.compLoop (.SetComp elt [⟨t0, i0, ifs0, 0⟩, ⟨t1, i1, ifs1, 0⟩] scope pos) 1 it' acc env) R s')
      (notedBy (model prog w) A env fun x s' => R (.error x) s') s) :
    codeAny (model prog w) A (.compStart (.SetComp elt [⟨t0, i0, ifs0, 0⟩, ⟨t1, i1, ifs1, 0⟩] scope pos) 1 it acc env) R s := by
  refine codeAny_of_tree ?_
  show wpAny _ _ ((compStart (.SetComp elt [⟨t0, i0, ifs0, 0⟩, ⟨t1, i1, ifs1, 0⟩] scope pos) 1 it acc env).onRaise (fun x => do noteFrame x env; standAt theWindowsPlace)) _ _ s
  refine wpAny_notedAt ?_
  unfold compStart
  show wpAny _ _ (ask >>= _) _ _ s
  refine wpAny_bind (wpAny_askSetting (wpAny_ite ?_))
  split
  · first
      | exact wpAny_bind (wpAny_pure (wpAny_pure (And.intro rfl h0)))
      | exact wpAny_pure (And.intro rfl h0)
  · first
      | exact wpAny_bind (wpAny_rule (wpAny_bind (wpAny_standAt (wpAny_bind (wpAny_mono h (fun it' s' h' => wpAny_pure (And.intro rfl h')) fun _ _ x => x)))))
      | (refine wpAny_bind (wpAny_rule ?_); show wpAny _ _ (standAt i1.pos >>= _) _ _ s; exact wpAny_bind (wpAny_standAt (wpAny_bind (wpAny_mono h (fun it' s' h' => wpAny_pure (And.intro rfl h')) fun _ _ x => x))))
end

section
variable {X : Cx}
/-- [elt for tg in iter if .. for tg1 in iter1 if ..]: behind the first clause's store and tests the second source's own loop, from which Nx is reached. vs: the block's names; vs1: those of the second target -/
def tSc2 (P : Program) (w : World) (wi : TI) (g : TG) (tt : TT) (wi1 : TI) (g1 : TG) (tt1 : TT) (te : TE) (vs vs1 : List Nat) : TE := fun σ H Q => wi σ H fun J H1 => ∀ D, H1 D = none → ∃ W : Nat → Nat → Hp → Prop, (∃ m, W 0 m (upd H1 D (SetTO P w D []))) ∧ ∀ i m H, W i m H →
  (J.stop i H ∧ Q (.ref D) H) ∨ (J.go i H ∧ ∃ Nx : Hp → Prop, (∀ H', Nx H' → ∃ m', m' < m ∧ W (i + 1) m' H') ∧ ∀ x H', J.yld i H x H' → g x (wipe σ vs) H' fun σ2 H2 => wipe σ2 vs = wipe σ vs ∧ tt σ2 H2 fun b H3 =>
    if b = true then wi1 σ2 H3 fun J1 H4 => ∃ W1 : Nat → Nat → Hp → Prop, (∃ m, W1 0 m H4) ∧ ∀ j k H, W1 j k H →
      (J1.stop j H ∧ Nx H) ∨ (J1.go j H ∧ ∃ Nx1 : Hp → Prop, (∀ H', Nx1 H' → ∃ k', k' < k ∧ W1 (j + 1) k' H') ∧ ∀ x H', J1.yld j H x H' → g1 x (wipe σ2 vs1) H' fun σ3 H5 => wipe σ3 vs1 = wipe σ2 vs1 ∧ tt1 σ3 H5 fun b H6 =>
        if b = true then te σ3 H6 fun y H7 => ∃ q L k, y = .ref q ∧ H7 D = some (SetTO P w D L) ∧ (∀ p ∈ L, Td H7 (.ref p.1) (dTI p.2)) ∧ Td H7 y (dTI k) ∧ L.length + 1 < 64 ∧ ∀ L', (k ∈ L.map (·.2) → L' = L) → (k ∉ L.map (·.2) → L'.Perm ((q, k) :: L)) → Nx1 (upd H7 D (SetTO P w D L')) else Nx1 H6)
    else Nx H3)
theorem sc2_core {pins : List (Addr × Obj)} {s : Shared} {σ : L2.St} {H : Hp} {Q : VK} {elt tg iter tg1 iter1 : Expr} {ifs ifs1 : List Expr} {scope : Scope} {own : List (Str × Nat)} {vs1 : List Nat} {pos pos' : Pos} {wi wi1 : TI} {g g1 : TG} {tt tt1 : TT} {te : TE} {use : Option (Value → Sem Unit)} {Qf : Value → Shared → Prop}
    (hc : X.calm = true) (hu : X.A.units + 8 < cLine) (hN : X.N.Nodup) (I : L2.Inv X pins σ H s) (hi : PI X tg iter wi) (ok : BlkOk X.N X.env.scope scope own) (hv : ∀ i ∈ vs1, i ∈ own.map (·.2))
    (hg : ∀ (s : Shared) (H : Hp) (C : Addr) (cl : List (Str × Addr)) (fp : List Addr), PG (X.blk s H scope (compEnvC scope cl C X.env) fp) tg g) (ht : ∀ (s : Shared) (H : Hp) (C : Addr) (cl : List (Str × Addr)) (fp : List Addr), PTs (X.blk s H scope (compEnvC scope cl C X.env) fp) ifs tt)
    (he : ∀ (s : Shared) (H : Hp) (C : Addr) (cl : List (Str × Addr)) (fp : List Addr), PE (X.blk s H scope (compEnvC scope cl C X.env) fp) elt te) (hs : ∀ x, foldedSetIterable iter X.env x = pure x)
    (hi1 : ∀ (s : Shared) (H : Hp) (C : Addr) (cl : List (Str × Addr)) (fp : List Addr), PI (X.blk s H scope (compEnvC scope cl C X.env) fp) tg1 iter1 wi1)
    (hg1 : ∀ (s : Shared) (H : Hp) (C : Addr) (cl : List (Str × Addr)) (fp : List Addr), PG (X.blk s H scope (compEnvC scope cl C X.env) fp) tg1 g1)
    (ht1 : ∀ (s : Shared) (H : Hp) (C : Addr) (cl : List (Str × Addr)) (fp : List Addr), PTs (X.blk s H scope (compEnvC scope cl C X.env) fp) ifs1 tt1)
    (hs1 : ∀ env x, foldedSetIterable iter1 env x = pure x)
    (h : tSc2 X.prog X.w wi g tt wi1 g1 tt1 te (own.map (·.2)) vs1 σ H Q)
    (hRR : ∀ D C s' m H', L2.Inv X pins σ H' s' → Q (.ref D) H' → s'.heap.Ns C m → FpOk X pins H' C → compPost (model X.prog X.w) X.A X.xe use Qf (.ref D) C (.ok .next) s') :
    wpAny (model X.prog X.w) X.A (comprehension (.SetComp elt [⟨tg, iter, ifs, 0⟩, ⟨tg1, iter1, ifs1, 0⟩] scope pos) scope X.env pos' (newSet (.type "set")) false (eval iter X.env) use) Qf X.xe s := by
  have hfree : ∀ y ∈ scope.names, y.2 = .free → ∃ c, X.env.cells.lookup y.1 = some c := fun y hy e => by
    rcases ok.free y hy e with k | k
    · exact I.ok.has _ (.inl k)
    · exact I.ok.has _ (.inr k)
  refine wpAny_comprehension_free (use := use) rfl hs (closure_ok hfree) ok.kind (fun y hy e => by rw [ok.uniq y hy, e])
    (thn (hi.run pins s σ H _ I h) fun xv s1 hx => thn hx fun itv s2 h2 => ?_)
  obtain ⟨it, fp, tn, J, H2, e, I2, T, st2, f2, q⟩ := h2
  subst e
  refine PpSet.newSet_ok (newEnv_comp ?_)
  generalize hD : s2.heap.objs.size = D
  have hDn : H2 D = none := I2.hok.fresh (Nat.le_of_eq hD)
  obtain ⟨W, ⟨m0, w0⟩, turn⟩ := q D hDn
  -- the new list
  generalize hs3 : ({ s2 with heap := s2.heap.push { cls := .type "set", dict := none, data := .set #[] 0 (.fresh 0 0 (!X.w.params.followText "set-order")) } } : Shared) = s3
  have I3 : L2.Inv X pins σ (upd H2 D (SetTO X.prog X.w D [])) s3 := by
    rw [← hs3]
    refine I2.laid (t' := s2.toks) (fun b o e => Heap.get?_push_of_some _ e) (Nat.le_of_eq hD) ?_
    rw [← hD]
    exact setTO_new (SetTR.t0 (setTR_fresh (Heap.get?_push_size _ rfl)))
  have h3 : s3.heap = s2.heap.push { cls := .type "set", dict := none, data := .set #[] 0 (.fresh 0 0 (!X.w.params.followText "set-order")) } := by rw [← hs3]
  have sz : ∀ b ∈ fp, b < s2.heap.objs.size := fun b hb => by
    obtain ⟨o, e, _⟩ := T.obj _ _ st2 b hb
    exact Heap.lt_size e
  have f3 : ∀ b ∈ fp, FpOk X pins (upd H2 D (SetTO X.prog X.w D [])) b ∧ b < s3.heap.objs.size := fun b hb => by
    have hlt := sz b hb
    refine ⟨⟨?_, (f2 b hb).2⟩, by rw [h3, Heap.size_push]; exact Nat.lt_succ_of_lt hlt⟩
    rw [upd_ne (by rw [← hD]; exact Nat.ne_of_lt hlt)]
    exact (f2 b hb).1
  have st3 : tn 0 s3.heap := T.keep _ _ _ st2 fun b _ o e => by rw [h3]; exact Heap.get?_push_of_some _ e
  have I4 := block_start I3 ok hN f3
  have pg := hg s3 (upd H2 D (SetTO X.prog X.w D [])) s3.heap.objs.size (cellsFrom (s3.heap.objs.size + 1) scope.names (cloFrom X.env.cells scope.names [])) fp
  have pt := ht s3 (upd H2 D (SetTO X.prog X.w D [])) s3.heap.objs.size (cellsFrom (s3.heap.objs.size + 1) scope.names (cloFrom X.env.cells scope.names [])) fp
  have pe := he s3 (upd H2 D (SetTO X.prog X.w D [])) s3.heap.objs.size (cellsFrom (s3.heap.objs.size + 1) scope.names (cloFrom X.env.cells scope.names [])) fp
  have pi1 := hi1 s3 (upd H2 D (SetTO X.prog X.w D [])) s3.heap.objs.size (cellsFrom (s3.heap.objs.size + 1) scope.names (cloFrom X.env.cells scope.names [])) fp
  have pg1 := hg1 s3 (upd H2 D (SetTO X.prog X.w D [])) s3.heap.objs.size (cellsFrom (s3.heap.objs.size + 1) scope.names (cloFrom X.env.cells scope.names [])) fp
  have pt1 := ht1 s3 (upd H2 D (SetTO X.prog X.w D [])) s3.heap.objs.size (cellsFrom (s3.heap.objs.size + 1) scope.names (cloFrom X.env.cells scope.names [])) fp
  show codeAny _ _ (.compStart (.SetComp elt [⟨tg, iter, ifs, 0⟩, ⟨tg1, iter1, ifs1, 0⟩] scope pos) 0 (.ref it) (.ref D) (compEnvC scope (cellsFrom (s3.heap.objs.size + 1) scope.names (cloFrom X.env.cells scope.names [])) s3.heap.objs.size X.env)) (compPost (model X.prog X.w) X.A X.xe use Qf (.ref D) s3.heap.objs.size) { s3 with heap := pushCells (s3.heap.push { cls := .type "dict", data := .dict #[] }) scope.names }
  have nfp : ∀ b ∈ fp, (upd H2 D (SetTO X.prog X.w D [])) b = none := fun b hb => (f3 b hb).1.1
  generalize hce : compEnvC scope (cellsFrom (s3.heap.objs.size + 1) scope.names (cloFrom X.env.cells scope.names [])) s3.heap.objs.size X.env = ce at I4 pg pt pe pi1 pg1 pt1 ⊢
  have cL : ce.locals = s3.heap.objs.size := by subst hce; rfl
  generalize hH3 : upd H2 D (SetTO X.prog X.w D []) = H3 at I3 I4 pg pt pe pi1 pg1 pt1 w0 nfp f3
  generalize hs4 : ({ s3 with heap := pushCells (s3.heap.push { cls := .type "dict", data := .dict #[] }) scope.names } : Shared) = s4 at I4 ⊢
  have st4 : tn 0 s4.heap := T.keep _ _ _ st3 fun b _ o e => by rw [← hs4]; exact pushCells_keeps _ _ _ _ (Heap.get?_push_of_some _ e)
  have stat : ∀ {σ' : L2.St} {H' : Hp} {s' : Shared}, L2.Inv (X.blk s3 H3 scope ce fp) [] σ' H' s' → (∀ b ∈ fp, H' b = none) → ∀ b ∈ fp, FpOk (X.blk s3 H3 scope ce fp) [] H' b := fun {σ' H' s'} I' hn b hb =>
    ⟨hn b hb, (I'.ok.exf b hb).1, I'.ok.exfs b hb, .inl hb, fun x c e => (I'.ok.exf b hb).2 x c e, fun p hp => absurd (show p ∈ ([] : List (Addr × Obj)) ++ [] from hp) (by simp)⟩
  have loop : codeAny (model X.prog X.w) X.A (.compLoop (.SetComp elt [⟨tg, iter, ifs, 0⟩, ⟨tg1, iter1, ifs1, 0⟩] scope pos) 0 (.ref it) (.ref D) ce) (compPost (model X.prog X.w) X.A X.xe use Qf (.ref D) s3.heap.objs.size) s4 := by
    refine scLoop2_out (hs1 ce) (fun n s' => ∃ i H', L2.Inv (X.blk s3 H3 scope ce fp) [] (wipe σ (own.map (·.2))) H' s' ∧ tn i s'.heap ∧ (∀ b ∈ fp, H' b = none) ∧ W i n H') ?_ m0 ⟨0, H3, I4, st4, nfp, w0⟩
    rintro n s5 ⟨i, H5, I5, st5, n5, w5⟩
    rcases turn i n H5 w5 with ⟨stop, qq⟩ | ⟨go, Nx, hNx, step⟩
    · have td := T.done (X.blk s3 H3 scope ce fp) rfl rfl rfl hc i [] s5 _ H5 (fun _ _ => False) I5 (stat I5 n5) st5 stop
      refine thnF td fun r s6 ⟨hr, I6⟩ => ?_
      subst hr
      -- back in the def's context
      have I7 : L2.Inv X pins σ H5 s6 := I3.call' (ch := fp) I6.os I6.base I6.hok I6.bare fun b hb => ⟨(f3 b hb).1.2.2.2.1, (f3 b hb).1.2.1, (f3 b hb).1.2.2.2.2.1, (f3 b hb).1.2.2.2.2.2⟩
      have nC : H5 s3.heap.objs.size = none := by
        have z : H5 ce.locals = none := I6.free
        rw [cL] at z
        exact z
      obtain ⟨m, hn, _⟩ := I6.loc
      have hn : s6.heap.Ns ce.locals m := hn
      rw [cL] at hn
      exact hRR D s3.heap.objs.size s6 m H5 I7 qq hn (I3.fpOk (Nat.le_refl _) nC)
    · have ti := T.item (X.blk s3 H3 scope ce fp) rfl rfl rfl hc i [] s5 _ H5 (fun _ _ => False) I5 (stat I5 n5) st5 go
      refine thnF ti fun r s6 ⟨u, hr, h6⟩ => ?_
      subst hr
      refine thnF h6 fun _ s7 ⟨x, H7, I7, r7, y7, st7, n7⟩ => ?_
      have I7' := I7.pinned (stat I7 n7) (T.obj _ _ st7)
      refine thnF (pg.run _ s7 _ H7 x u _ I7' r7 (step x H7 y7)) fun _ s8 ⟨σ8, H8, I8, hw8, q8⟩ => ?_
      refine thnF (pt.run _ s8 σ8 H8 _ I8 q8) fun b s9 ⟨H9, I9, q9⟩ => ?_
      -- the turn's end, from any slots that know what the block knew at its start
      have fin : ∀ {σ9 : L2.St} {s' : Shared} {H' : Hp}, L2.Inv (X.blk s3 H3 scope ce fp) ([] ++ pinsAt fp s7.heap) σ9 H' s' → (wipe σ (own.map (·.2))).length = σ9.length → (∀ (j : Nat) v, (wipe σ (own.map (·.2)))[j]? = some (some v) → σ9[j]? = some (some v)) → Nx H' →
          ∃ m, m < n ∧ ∃ i H', L2.Inv (X.blk s3 H3 scope ce fp) [] (wipe σ (own.map (·.2))) H' s' ∧ tn i s'.heap ∧ (∀ b ∈ fp, H' b = none) ∧ W i m H' := fun {σ9 s' H'} I' hl hk nx => by
        obtain ⟨m', hm, w'⟩ := hNx H' nx
        have pin' : ∀ b ∈ fp, ∀ o, s7.heap.get? b = some o → s'.heap.get? b = some o ∧ H' b = none := fun b hb o e =>
          let z := I'.pin (b, o) (List.mem_append_right _ (List.mem_append_right _ (mem_pinsAt hb e)))
          ⟨z.1, z.2.1⟩
        refine ⟨m', hm, i + 1, H', (I'.unpinned (pins := [])).weak hl hk, T.keep _ _ _ st7 fun b hb o e => (pin' b hb o e).1, fun b hb => ?_, w'⟩
        obtain ⟨o, e, _⟩ := T.obj _ _ st7 b hb
        exact (pin' b hb o e).2
      have hl8 : (wipe σ (own.map (·.2))).length = σ8.length := by rw [← hw8, wipe_length]
      have hk8 : ∀ (j : Nat) v, (wipe σ (own.map (·.2)))[j]? = some (some v) → σ8[j]? = some (some v) := fun j v e => by
        rw [← hw8] at e
        exact (wipe_some e).1
      have hk9 : ∀ (j : Nat) v, (wipe σ (own.map (·.2)))[j]? = some (some v) → (wipe σ8 vs1)[j]? = some (some v) := fun j v e => by
        rw [← hw8] at e
        obtain ⟨e1, e2⟩ := wipe_some e
        rw [wipe_out fun z => e2 (hv j z)]
        exact e1
      cases b with
      | false =>
        simp only [Bool.false_eq_true, if_false] at q9 ⊢
        exact fin I9 hl8 hk8 q9
      | true =>
        simp only [if_true] at q9 ⊢
        refine thnF (pi1.run _ s9 σ8 H9 _ I9 q9) fun xv s10 hx => thnF hx fun itv s11 h11 => ?_
        obtain ⟨it1, fp1, tn1, J1, H11, e1, I11, T1, st11, f11, W1, ⟨m1, w1⟩, turn1⟩ := h11
        subst e1
        -- the inner loop
        have stat1 : ∀ {H' : Hp}, (∀ b ∈ fp1, H' b = none) → ∀ b ∈ fp1, FpOk (X.blk s3 H3 scope ce fp) ([] ++ pinsAt fp s7.heap) H' b := fun hn b hb => ⟨hn b hb, (f11 b hb).2⟩
        have loop1 : codeAny (model X.prog X.w) X.A (.compLoop (.SetComp elt [⟨tg, iter, ifs, 0⟩, ⟨tg1, iter1, ifs1, 0⟩] scope pos) 1 (.ref it1) (.ref D) ce)
            (fun r s' => match r with
              | .ok _ => ∃ m, m < n ∧ ∃ i H', L2.Inv (X.blk s3 H3 scope ce fp) [] (wipe σ (own.map (·.2))) H' s' ∧ tn i s'.heap ∧ (∀ b ∈ fp, H' b = none) ∧ W i m H'
              | .error _ => False) s11 := by
          refine scLoop2_in (fun k s' => ∃ j H', L2.Inv (X.blk s3 H3 scope ce fp) ([] ++ pinsAt fp s7.heap) (wipe σ8 vs1) H' s' ∧ tn1 j s'.heap ∧ (∀ b ∈ fp1, H' b = none) ∧ W1 j k H') ?_ m1 ⟨0, H11, I11.weak (wipe_length _ _) (fun j v e => (wipe_some e).1), st11, fun b hb => (f11 b hb).1, w1⟩
          rintro k s12 ⟨j, H12, I12, st12, n12, w12⟩
          rcases turn1 j k H12 w12 with ⟨stop1, nx1⟩ | ⟨go1, Nx1, hNx1, step1⟩
          · refine thnF (T1.done (X.blk s3 H3 scope ce fp) rfl rfl rfl hc j _ s12 (wipe σ8 vs1) H12 (fun _ _ => False) I12 (stat1 n12) st12 stop1) fun r s13 ⟨hr, I13⟩ => ?_
            subst hr
            exact fin I13 (hl8.trans (wipe_length σ8 vs1).symm) hk9 nx1
          · refine thnF (T1.item (X.blk s3 H3 scope ce fp) rfl rfl rfl hc j _ s12 (wipe σ8 vs1) H12 (fun _ _ => False) I12 (stat1 n12) st12 go1) fun r s13 ⟨u1, hr, h13⟩ => ?_
            subst hr
            refine thnF h13 fun _ s14 ⟨x1, H14, I14, r14, y14, st14, n14⟩ => ?_
            have I14' := I14.pinned (stat1 n14) (T1.obj _ _ st14)
            refine thnF (pg1.run _ s14 (wipe σ8 vs1) H14 x1 u1 _ I14' r14 (step1 x1 H14 y14)) fun _ s15 ⟨σ15, H15, I15, hw15, q15⟩ => ?_
            refine thnF (pt1.run _ s15 σ15 H15 _ I15 q15) fun b1 s16 ⟨H16, I16, q16⟩ => ?_
            have fin1 : ∀ {s' : Shared} {H' : Hp}, L2.Inv (X.blk s3 H3 scope ce fp) (([] ++ pinsAt fp s7.heap) ++ pinsAt fp1 s14.heap) σ15 H' s' → Nx1 H' → ∃ m, m < k ∧ ∃ j H', L2.Inv (X.blk s3 H3 scope ce fp) ([] ++ pinsAt fp s7.heap) (wipe σ8 vs1) H' s' ∧ tn1 j s'.heap ∧ (∀ b ∈ fp1, H' b = none) ∧ W1 j m H' := fun {s' H'} I' nx => by
              obtain ⟨m', hm, w'⟩ := hNx1 H' nx
              have pin' : ∀ b ∈ fp1, ∀ o, s14.heap.get? b = some o → s'.heap.get? b = some o ∧ H' b = none := fun b hb o e =>
                let z := I'.pin (b, o) (List.mem_append_right _ (List.mem_append_right _ (mem_pinsAt hb e)))
                ⟨z.1, z.2.1⟩
              refine ⟨m', hm, j + 1, H', I'.unpinned.weak (by rw [← hw15, wipe_length]) (fun j v e => by rw [← hw15] at e; exact (wipe_some e).1), T1.keep _ _ _ st14 fun b hb o e => (pin' b hb o e).1, fun b hb => ?_, w'⟩
              obtain ⟨o, e, _⟩ := T1.obj _ _ st14 b hb
              exact (pin' b hb o e).2
            cases b1 with
            | false =>
              simp only [Bool.false_eq_true, if_false] at q16 ⊢
              exact fin1 I16 q16
            | true =>
              simp only [if_true] at q16 ⊢
              refine thnF (pe.run _ s16 σ15 H16 _ I16 q16) fun z s17 ⟨yv, H17, I17, r17, q17, L17, k17, ey17, hD17, hk17, hy17, hz17, nx⟩ => ?_
              subst ey17
              cases (show z = Value.ref q17 from r17)
              exact addT_ok (X := X.blk s3 H3 scope ce fp) hu I17 hD17 hk17 hy17 hz17 fun L' s18 c1 c2 I18 => fin1 I18 (nx L' c1 c2)
        exact scStart1_ok loop1 (T1.self X.A 0 _ _ _ st11 loop1)
  exact PpSet.codeAny_compStart_set loop (T.self X.A 0 _ _ _ st4 loop)
/-- as a value -/
theorem pe_sc2 {elt tg iter tg1 iter1 : Expr} {ifs ifs1 : List Expr} {scope : Scope} {own : List (Str × Nat)} {vs1 : List Nat} {pos : Pos} {wi wi1 : TI} {g g1 : TG} {tt tt1 : TT} {te : TE} (hc : X.calm = true) (hu : X.A.units + 8 < cLine) (hN : X.N.Nodup) (hi : PI X tg iter wi) (ok : BlkOk X.N X.env.scope scope own) (hv : ∀ i ∈ vs1, i ∈ own.map (·.2))
    (hg : ∀ (s : Shared) (H : Hp) (C : Addr) (cl : List (Str × Addr)) (fp : List Addr), PG (X.blk s H scope (compEnvC scope cl C X.env) fp) tg g) (ht : ∀ (s : Shared) (H : Hp) (C : Addr) (cl : List (Str × Addr)) (fp : List Addr), PTs (X.blk s H scope (compEnvC scope cl C X.env) fp) ifs tt)
    (hi1 : ∀ (s : Shared) (H : Hp) (C : Addr) (cl : List (Str × Addr)) (fp : List Addr), PI (X.blk s H scope (compEnvC scope cl C X.env) fp) tg1 iter1 wi1)
    (hg1 : ∀ (s : Shared) (H : Hp) (C : Addr) (cl : List (Str × Addr)) (fp : List Addr), PG (X.blk s H scope (compEnvC scope cl C X.env) fp) tg1 g1) (ht1 : ∀ (s : Shared) (H : Hp) (C : Addr) (cl : List (Str × Addr)) (fp : List Addr), PTs (X.blk s H scope (compEnvC scope cl C X.env) fp) ifs1 tt1)
    (he : ∀ (s : Shared) (H : Hp) (C : Addr) (cl : List (Str × Addr)) (fp : List Addr), PE (X.blk s H scope (compEnvC scope cl C X.env) fp) elt te) (hs : ∀ x, foldedSetIterable iter X.env x = pure x := by intro _; rfl) (hs1 : ∀ env x, foldedSetIterable iter1 env x = pure x := by intro _ _; rfl) :
    PE X (.SetComp elt [⟨tg, iter, ifs, 0⟩, ⟨tg1, iter1, ifs1, 0⟩] scope pos) (tSc2 X.prog X.w wi g tt wi1 g1 tt1 te (own.map (·.2)) vs1) := by
  refine ⟨fun pins s σ H Q I h => ?_⟩
  rw [PpSet.eval_SetComp]
  refine sc2_core hc hu hN I hi ok hv hg ht he hs hi1 hg1 ht1 hs1 h fun D C s' m H' I' q hn f => ⟨m, hn, fun h'' sb => ?_⟩
  obtain ⟨f0, f1, f2, f3, f4, f5⟩ := f
  exact ⟨.ref D, H', I'.turned (t' := s'.toks) (fun b o hb e => (sb.2 b hb).trans e) f0 f1 f3 f4 f5, rfl, q⟩end
end K07
end K07_part_R6

section K07_part_R7
set_option Elab.async false
set_option linter.all false
set_option maxRecDepth 100000
set_option maxHeartbeats 4000000
namespace K07
open PySem PySem.Spec PyProof.Rows L2 Evl

/-! ### own classes -/
/-- what is known of an own class -/
structure ClsF (K : PySem.W.Frag) (C : Addr) : Prop where
  cls : Cls K C
  ha : PySem.W.findIn K (.ref C) "__class__" = some (some (.builtin "object.__class__"))
  hn : PySem.W.specialIn K (.builtin "object.__class__") "__get__" = some (some (.builtin "getset_descriptor.__get__"))
  htk : PySem.W.takesIn K (.builtin "object.__class__") = some true
  hm : PySem.W.mroIn K C (.type "object") = some true
theorem ClsF.ty {K : PySem.W.Frag} {C : Addr} (c : ClsF K C) {H : Hp} {a dx : Addr} {fs : List (Str × V)} (e : H a = some (.ins C dx fs)) : TyX K H (.ref a) (.ref C) := .base (.ins e c.cls c.ha c.hn c.htk c.hm)
theorem kit_self {K : PySem.W.Frag} (C : Addr) : PySem.W.kitOne K (.ref C) (.ref C) = some true := by
  unfold PySem.W.kitOne
  rw [if_pos (by simp)]
/-- a method -/
structure CalM (P : Program) (w : World) (K : PySem.W.Frag) (mg : Str → Option Value) (base : Heap) (k : Nat) (C : Addr) (m : Str) (ps : List Str) (sp : Sp) : Prop where
  ex : ∃ f fd, FnOk P w K mg base CX0 k f fd ps sp ∧ Meth K C m f ∧ Binds K fd ps []
  cls : Cls K C
/-- an __init__, with its class -/
structure CalI (P : Program) (w : World) (K : PySem.W.Frag) (mg : Str → Option Value) (base : Heap) (k : Nat) (x : Str) (C : Addr) (ps : List Str) (sp : Sp) : Prop where
  ex : ∃ f fd, FnOk P w K mg base CX0 k f fd ps sp ∧ Mk K C f ∧ Binds K fd ps []
  glo : mg x = some (.ref C)
/-- an own __eq__ -/
structure CalE (P : Program) (w : World) (K : PySem.W.Frag) (mg : Str → Option Value) (base : Heap) (k : Nat) (C : Addr) (ps : List Str) (sp : Sp) : Prop where
  ex : ∃ f fd, FnOk P w K mg base CX0 k f fd ps sp ∧ PySem.W.findIn K (.ref C) "__eq__" = some (some (.ref f)) ∧ PySem.W.isFn K (.ref f) = true ∧ Binds K fd ps []
/-- a def of a class's body as it stands -/
structure DefM (K : PySem.W.Frag) (x qual : Str) (st : Stmt) (f : Addr) : Prop where
  ex : ∃ fd, L2.Fun K x qual st f fd
section
variable {P : Program} {w : World} {K : PySem.W.Frag} {mg : Str → Option Value} {base : Heap}
theorem fn_m {x qual : Str} {st : Stmt} {f : Addr} {N ps : List Str} {k : Nat} {sp : Sp} (F : DefM K x qual st f) (S : FnScope N ps (defScope st)) (bd : BindsAll x qual st ps) (len : ∀ vs H Q E, sp vs H Q E → vs.length = ps.length)
    (hbody : ∀ (cdv : Value) (A : Around) (outer : List Env) (s : Shared) (H : Hp) (vs : List V) (Q : VK) (E : XK), Room k (A.deeper (envOfC qual (defScope st) s.heap.objs.size f cdv)) → sp vs H Q E →
      ∃ t, PSs (cxOf CX0 P w K mg base N qual (defScope st) f cdv A outer s H E).nox (defBody st) t ∧ t { nx := fun _ H' => Q .non H', rt := Q } (start N vs) H) : ∃ fd, FnOk P w K mg base CX0 (k + 1) f fd ps sp ∧ Binds K fd ps [] := by
  obtain ⟨fd, F⟩ := F.ex
  exact ⟨fd, F.ok S len fun cdv => hbody cdv, F.binds bd⟩
end
section
variable {X : Cx} {k n : Nat} {x m : Str} {C : Addr} {ps : List Str} {sp : Sp} {p pos apos : Pos} {e o : Expr} {es : List Expr} {ta : TE} {t : TA}
theorem pe_cm (he : PE X o ta) (c : CalM X.prog X.w X.K X.mg X.base k C m ps sp) (hr : Room n X.A) (ha : PA X (e :: es) t) (hk : k ≤ n := by decide)
    (hst : starEach (e :: es) X.env = (false, eval e X.env) :: starEach es X.env := by rfl) (hpl : (backTo pos (starEach es X.env)).any (·.1) = false := by rfl) {pl : Sem Bool}
    (ht : eval (.Call (.Attribute o m apos) (e :: es) [] pos) X.env = (do
      let ov ← eval o X.env
      standAt apos.atName
      let (f, first) ← holding [ov] (getMethod ov m pl)
      callWith pos f first (backTo pos (starEach (e :: es) X.env)) (backToKw pos (keywordEach [] X.env))) := by rfl) :
    PE X (.Call (.Attribute o m apos) (e :: es) [] pos) (tMeth C m sp [] E0 ta t) := by
  obtain ⟨f, fd, F, M, b⟩ := c.ex
  exact pe_meth he c.cls M F (hr.mono hk) b .nil pass0 ha hst hpl ht
theorem pe_cm0 (he : PE X o ta) (c : CalM X.prog X.w X.K X.mg X.base k C m ps sp) (hr : Room n X.A) (hk : k ≤ n := by decide) {pl : Sem Bool}
    (ht : eval (.Call (.Attribute o m apos) [] [] pos) X.env = (do
      let ov ← eval o X.env
      standAt apos.atName
      let (f, first) ← holding [ov] (getMethod ov m pl)
      callWith pos f first (backTo pos (starEach [] X.env)) (backToKw pos (keywordEach [] X.env))) := by rfl) :
    PE X (.Call (.Attribute o m apos) [] [] pos) (tMeth C m sp [] E0 ta tNil) := by
  obtain ⟨f, fd, F, M, b⟩ := c.ex
  exact pe_meth0 he c.cls M F (hr.mono hk) b .nil pass0 ht
theorem pe_mk (c : CalI X.prog X.w X.K X.mg X.base k x C ps sp) (hr : Room n X.A) (hg : Gl X x) (ha : PA X (e :: es) t) (hk : k + 1 ≤ n := by decide) (hdb : (x == ("__debug__" : Str)) = false := by decide)
    (he : starEach (e :: es) X.env = (false, eval e X.env) :: starEach es X.env := by rfl) (hpl : (backTo pos (starEach es X.env)).any (·.1) = false := by rfl) :
    PE X (.Call (.Name x p) (e :: es) [] pos) (tMake C sp [] E0 t) := by
  obtain ⟨f, fd, F, M, b⟩ := c.ex
  exact pe_make M F (hr.mono hk) hg c.glo b .nil pass0 ha hdb he hpl
end

/-! ### the module's facts -/
structure Glb (K : PySem.W.Frag) (mg : Str → Option Value) (CW CG : Addr) : Prop extends Glob K mg where
  g_MOST_COST : ∃ t, mg "MOST_COST" = some (.int (10 ^ 60) t)
  g_MOST_DISCS : ∃ t, mg "MOST_DISCS" = some (.int 40 t)
  g_Web : mg "Web" = some (.ref CW)
  g_Game : mg "Game" = some (.ref CG)
  cW : ClsF K CW
  cG : ClsF K CG
  w_pegs : NoAttr K CW "pegs"
  w_costs : NoAttr K CW "_costs"
  w_arrows : NoAttr K CW "arrows"
  g_pegs : NoAttr K CG "pegs"
  g_webs : NoAttr K CG "webs"
  g_discs : NoAttr K CG "discs"
theorem pe_globI {X : Cx} {x : Str} {i : Int} {pos : Pos} (hg : Gl X x) (hm : ∃ t, X.mg x = some (.int i t)) (hd : (x == ("__debug__" : Str)) = false := by decide) : PE X (.Name x pos) (tC (.int i)) := by
  obtain ⟨t, h⟩ := hm
  exact pe_glob hg h ⟨t, rfl⟩ hd

/-! ### loops over enumerate -/
section
variable {K : PySem.W.Frag} {a : Addr} {xs : List V} {g : TG} {tb : TS} {D : Ends} {σ : L2.St} {H : Hp}
theorem for_enumL (Pv : Nat → L2.St → Hp → Prop) (h0 : Pv 0 σ H) (hl : ∀ i σ H, i ≤ xs.length → Pv i σ H → SqL K H a xs)
    (hs : ∀ (i : Nat) x T (σ : L2.St) (H : Hp), xs[i]? = some x → Pv i σ H → H T = none → g (.ref T) σ (upd H T (.tup [.int i, x])) fun σ2 H2 => tb { D with nx := Pv (i + 1), ct := Pv (i + 1), bk := D.nx } σ2 H2) (hd : ∀ σ H, Pv xs.length σ H → D.nx σ H) :
    ∃ W : Nat → Nat → L2.St → Hp → Prop, (∃ m, W 0 m σ H) ∧ ∀ i m σ H, W i m σ H →
      ((Ite K a).stop i H ∧ D.nx σ H) ∨ ((Ite K a).go i H ∧ ∃ N : L2.St → Hp → Prop, (∀ σ' H', N σ' H' → ∃ m', m' < m ∧ W (i + 1) m' σ' H') ∧ ∀ x H', (Ite K a).yld i H x H' → g x σ H' fun σ2 H2 => tb { D with nx := N, ct := N, bk := D.nx } σ2 H2) := by
  refine ⟨fun i m σ H => m = xs.length - i ∧ i ≤ xs.length ∧ Pv i σ H, ⟨xs.length, by simp, Nat.zero_le _, h0⟩, ?_⟩
  rintro i m σ H ⟨rfl, hi, p⟩
  have q := hl i σ H hi p
  by_cases hlt : i < xs.length
  · refine .inr ⟨⟨xs, xs[i], q, by simp [hlt]⟩, Pv (i + 1), fun σ' H' p' => ⟨xs.length - (i + 1), by omega, rfl, hlt, p'⟩, fun v H' y => ?_⟩
    obtain ⟨T, x, rfl, hT, rfl, hx⟩ := y
    exact hs i x T σ H (hx xs q) p hT
  · have e : i = xs.length := by omega
    subst e
    exact .inl ⟨⟨xs, q, Nat.le_refl _⟩, hd σ H p⟩
theorem for_enumT (Pv : Nat → L2.St → Hp → Prop) (h0 : Pv 0 σ H) (hl : ∀ i σ H, i ≤ xs.length → Pv i σ H → SqT K H a xs)
    (hs : ∀ (i : Nat) x T (σ : L2.St) (H : Hp), xs[i]? = some x → Pv i σ H → H T = none → g (.ref T) σ (upd H T (.tup [.int i, x])) fun σ2 H2 => tb { D with nx := Pv (i + 1), ct := Pv (i + 1), bk := D.nx } σ2 H2) (hd : ∀ σ H, Pv xs.length σ H → D.nx σ H) :
    ∃ W : Nat → Nat → L2.St → Hp → Prop, (∃ m, W 0 m σ H) ∧ ∀ i m σ H, W i m σ H →
      ((IteT K a).stop i H ∧ D.nx σ H) ∨ ((IteT K a).go i H ∧ ∃ N : L2.St → Hp → Prop, (∀ σ' H', N σ' H' → ∃ m', m' < m ∧ W (i + 1) m' σ' H') ∧ ∀ x H', (IteT K a).yld i H x H' → g x σ H' fun σ2 H2 => tb { D with nx := N, ct := N, bk := D.nx } σ2 H2) := by
  refine ⟨fun i m σ H => m = xs.length - i ∧ i ≤ xs.length ∧ Pv i σ H, ⟨xs.length, by simp, Nat.zero_le _, h0⟩, ?_⟩
  rintro i m σ H ⟨rfl, hi, p⟩
  have q := hl i σ H hi p
  by_cases hlt : i < xs.length
  · refine .inr ⟨⟨xs, xs[i], q, by simp [hlt]⟩, Pv (i + 1), fun σ' H' p' => ⟨xs.length - (i + 1), by omega, rfl, hlt, p'⟩, fun v H' y => ?_⟩
    obtain ⟨T, x, rfl, hT, rfl, hx⟩ := y
    exact hs i x T σ H (hx xs q) p hT
  · have e : i = xs.length := by omega
    subst e
    exact .inl ⟨⟨xs, q, rfl⟩, hd σ H p⟩
end

/-! ### the game's objects -/
/-- a web -/
def WebV (CW : Addr) (k : Nat) (H : Hp) (v : V) (w : List Arr) : Prop := ∃ a dx d t, v = .ref a ∧ H a = some (.ins CW dx [("pegs", .int k), ("_costs", .ref d), ("arrows", .ref t)]) ∧ Td H (.ref t) (.tuple (w.map dAR))
theorem WebV.mk {CW : Addr} {k : Nat} {H H' : Hp} {v : V} {w : List Arr} (h : WebV CW k H v w) (e : Ex H H') : WebV CW k H' v w := let ⟨a, dx, d, t, h1, h2, h3⟩ := h; ⟨a, dx, d, t, h1, e _ _ h2, h3.mk e⟩
abbrev WebsV (CW : Addr) (k : Nat) (H : Hp) : List V → List (List Arr) → Prop := Paired (WebV CW k H)
theorem WebsV.mk {CW : Addr} {k : Nat} {H H' : Hp} : ∀ {vs : List V} {ws : List (List Arr)}, WebsV CW k H vs ws → Ex H H' → WebsV CW k H' vs ws
  | _, _, .nil, _ => .nil
  | _, _, .cons h t, e => .cons (WebV.mk h e) (WebsV.mk t e)
/-- a game -/
def GameV (CW CG : Addr) (k : Nat) (H : Hp) (v : V) (ws : Webs) : Prop := ∃ a dx t vs, v = .ref a ∧ H a = some (.ins CG dx [("pegs", .int k), ("webs", .ref t), ("discs", .int (ws.length : Nat))]) ∧ H t = some (.tup vs) ∧ WebsV CW k H vs ws
theorem GameV.mk {CW CG : Addr} {k : Nat} {H H' : Hp} {v : V} {ws : Webs} (h : GameV CW CG k H v ws) (e : Ex H H') : GameV CW CG k H' v ws := let ⟨a, dx, t, vs, h1, h2, h3, h4⟩ := h; ⟨a, dx, t, vs, h1, e _ _ h2, e _ _ h3, WebsV.mk h4 e⟩
/-- a list of lists of arrows -/
abbrev RowsV (H : Hp) : List V → Webs → Prop := Paired fun v w => Li H v (w.map dAR)
theorem RowsV.mk {H H' : Hp} : ∀ {vs : List V} {ws : Webs}, RowsV H vs ws → Ex H H' → RowsV H' vs ws
  | _, _, .nil, _ => .nil
  | _, _, .cons h t, e => .cons (Li.mk h e) (RowsV.mk t e)
def Rws (H : Hp) (v : V) (ws : Webs) : Prop := ∃ l vs, v = .ref l ∧ H l = some (.lst vs) ∧ RowsV H vs ws
theorem Rws.mk {H H' : Hp} {v : V} {ws : Webs} (h : Rws H v ws) (e : Ex H H') : Rws H' v ws := let ⟨l, vs, h1, h2, h3⟩ := h; ⟨l, vs, h1, e _ _ h2, RowsV.mk h3 e⟩

/-! ### rules with the fragment named (for blocks) -/
section
variable {X : Cx} {K : PySem.W.Frag} {P : Program} {w : World} {e o a i : Expr} {es : List Expr} {f : Str} {pos : Pos} {ta to te td ty : TE} {t : TA}
theorem kfld (hK : X.K = K) (he : PE X e ta) (hb : attributeBase e f X.env (eval e X.env) = eval e X.env) : PE X (.Attribute e f pos) (tFld K ta f) := hK ▸ pe_fld he hb
theorem kix_list (hK : X.K = K) : IxR X (rIxL K) := hK ▸ ix_list
theorem kix_tup (hK : X.K = K) : IxR X (rIxT K) := hK ▸ ix_tup
theorem kin_seq (hK : X.K = K) : OpR X (compareOp .In) (rIn K false) := hK ▸ op_in_seq
theorem knotIn_seq (hK : X.K = K) : OpR X (compareOp .NotIn) (rIn K true) := hK ▸ op_notIn_seq
theorem kinD (hK : X.K = K) (hu : X.A.units + 65 < cLine) : OpR X (compareOp .In) (rInD K) := hK ▸ op_inD hu
theorem knotInD (hK : X.K = K) (hu : X.A.units + 65 < cLine) : OpR X (compareOp .NotIn) (rNotInD K) := hK ▸ op_notInD hu
theorem keqD (hK : X.K = K) (hu : X.A.units + 64 < cLine) : OpR X (compareOp .Eq) (rEqD K) := hK ▸ op_eqD hu
theorem kneD (hK : X.K = K) (hu : X.A.units + 64 < cLine) : OpR X (compareOp .NotEq) (rNeD K) := hK ▸ op_neD hu
theorem klen (hK : X.K = K) : CallR X (.builtin "len") (fun xs H Q => ∃ p ys, xs = [.ref p] ∧ (SqL K H p ys ∨ SqT K H p ys) ∧ Q (.int ys.length) H) := hK ▸ call_len_seq
theorem klist_of (hK : X.K = K) : CallR X (.type "list") (fun xs H Q => ∃ p ys, xs = [.ref p] ∧ (SqL K H p ys ∨ SqT K H p ys) ∧ ∀ l, H l = none → Q (.ref l) (upd H l (.lst ys))) := hK ▸ call_list_of
theorem ktuple_of (hK : X.K = K) : CallR X (.type "tuple") (fun xs H Q => ∃ p ys, xs = [.ref p] ∧ ((SqL K H p ys ∧ ∀ l, H l = none → Q (.ref l) (upd H l (.tup ys))) ∨ (SqT K H p ys ∧ Q (.ref p) H))) := hK ▸ call_tuple_of
theorem kcatA (hK : X.K = K) : OpR X (binaryOp .Add) (rCatA K) := hK ▸ op_catA
theorem kslA (hK : X.K = K) : SlR X (rSlA K) := hK ▸ sl_tupA
theorem kslL (hK : X.K = K) : SlR X (rSlL K) := hK ▸ sl_list
theorem ki_list {tg l : Expr} {tl : TE} (hK : X.K = K) (hl : PE X l tl) : PI X tg l (iList K tl) := hK ▸ pi_list hl
theorem ki_tup {tg l : Expr} {tl : TE} (hK : X.K = K) (hl : PE X l tl) : PI X tg l (iTup K tl) := hK ▸ pi_tup hl
theorem kall (hK : X.K = K) (hc : X.calm = true) : CallR X (.builtin "all") (rAll K) := hK ▸ cr_all hc
theorem kgetN (hP : X.prog = P) (hw : X.w = w) (hu : X.A.units + 16 < cLine) (ho : PE X o td) (hi : PE X i ty) (hs : NoSl i) : PE X (.Subscript o i pos) (tDGetN P w td ty) := hP ▸ hw ▸ pe_dgetN hu ho hi hs
theorem kgTup {es : List Expr} {k : Nat} {t : TGs} {n : Nat} (hK : X.K = K) (hc : X.calm = true) (h : PGs X es t)
    (hn : (assignEach es X.env).length = n := by rfl) (hst : (assignEach es X.env).findIdx? (·.1) = none := by rfl) : PG X (.Tuple es k pos) (gTup K n t) := hK ▸ pg_tup hc h hn hst
end
end K07
end K07_part_R7

section K07_part_W2
set_option Elab.async false
set_option linter.all false
set_option maxRecDepth 100000
set_option maxHeartbeats 4000000
namespace K07
open PySem PySem.Spec PyProof.Rows L2 Evl
section
variable {P : Program} {w : World} {K : PySem.W.Frag} {mg : Str → Option Value} {base : Heap} {CW CG : Addr}

/-- the search's state: the list found, the place at -/
def LedW (ps : List (Int × Int)) (peg : Int) (k : Nat) (l f : Addr) (H : Hp) (m : Nat) (σ : L2.St) (H' : Hp) : Prop := ∃ (fd : List Int) (at_ : Nat) (x y : Option V), σ = [some (.ref l), some (.int peg), some (.ref f), some (.int (at_ : Nat)), x, y] ∧ Ex H H' ∧ H' f = some (.lst (fd.map .int)) ∧ at_ ≤ fd.length ∧ fd.Nodup ∧ peg ∈ fd ∧
  (∀ x ∈ fd, ReachP ps peg x ∧ 0 ≤ x ∧ x < k) ∧ (∀ j x, j < at_ → fd[j]? = some x → ∀ y, (x, y) ∈ ps → y ∈ fd) ∧ m = 10 - at_
/-- within a turn, i pairs seen -/
def LedI (ps : List (Int × Int)) (peg : Int) (k : Nat) (l f : Addr) (H : Hp) (n : Nat) (i : Nat) (σ : L2.St) (H' : Hp) : Prop := ∃ (fd : List Int) (x y : Option V), σ = [some (.ref l), some (.int peg), some (.ref f), some (.int (n : Nat)), x, y] ∧ Ex H H' ∧ H' f = some (.lst (fd.map .int)) ∧ n < fd.length ∧ fd.Nodup ∧ peg ∈ fd ∧
  (∀ x ∈ fd, ReachP ps peg x ∧ 0 ≤ x ∧ x < k) ∧ (∀ j x, j < n → fd[j]? = some x → ∀ y, (x, y) ∈ ps → y ∈ fd) ∧ ∀ x y, fd[n]? = some x → (x, y) ∈ ps.take i → y ∈ fd
theorem inV_ints {x : Int} : ∀ {fd : List Int}, inV (.int x) (fd.map V.int) = decide (x ∈ fd)
  | [] => by simp [inV]
  | y :: fd => by
    have ih := inV_ints (x := x) (fd := fd)
    unfold inV at ih ⊢
    rw [List.map_cons, List.any_cons, ih]
    by_cases h : y = x
    · subst h; simp [eqV]
    · simp [eqV, h, Ne.symm h]
theorem isIn {x : Int} {fd : List Int} : (if false = true then !inV (V.int x) (fd.map V.int) else inV (V.int x) (fd.map V.int)) = decide (x ∈ fd) := by
  rw [if_neg (by simp), inV_ints]
theorem notIn {x : Int} {fd : List Int} : (if true = true then !inV (V.int x) (fd.map V.int) else inV (V.int x) (fd.map V.int)) = !decide (x ∈ fd) := by
  rw [if_pos rfl, inV_ints]
theorem flat_ints (fd : List Int) : (fd.map V.int).all flatV = true := by
  rw [List.all_eq_true]
  intro v hv
  obtain ⟨i, _, rfl⟩ := List.mem_map.mp hv
  rfl
abbrev sled : Stmt := top 37
abbrev Nled : List Str := ["pairs", "peg", "found", "at", "start", "stop"]
theorem scled : FnScope Nled ["pairs", "peg"] (defScope sled) := ⟨rfl, rfl, rfl, by decide +kernel, rfl, by decide +kernel, by decide +kernel⟩
theorem bdled : BindsAll "led" "led" sled ["pairs", "peg"] := fun _ _ _ _ _ _ us hl => match us, hl with | [_, _], _ => rfl
/-- what led promises -/
def sp_led (P : Program) (w : World) (CW CG : Addr) : Sp := fun vs H Q _ => ∃ (l : Addr) (vp : List V) (ps : List (Int × Int)) (peg : Int) (k : Nat), vs = [.ref l, .int peg] ∧ H l = some (.lst vp) ∧ TdA H vp (ps.map dPR) ∧ (∀ p ∈ ps, 0 ≤ p.2 ∧ p.2 < k) ∧ (0 ≤ peg ∧ peg < k) ∧ k ≤ 5 ∧ ∀ (r : Addr) H' (fd : List Int), Ex H H' → H' r = some (.lst (fd.map .int)) → fd.Nodup → (∀ x ∈ fd, 0 ≤ x ∧ x < k) → (∀ x, x ∈ fd ↔ ReachP ps peg x) → Q (.ref r) H'
theorem w_led (T : Glb K mg CW CG) (D : Def K mg "led" sled) : Cal P w K mg base 1 "led" ["pairs", "peg"] (sp_led P w CW CG) := by
  refine Cal.mk' D scled bdled (fun vs H Q E h => by obtain ⟨l, vp, ps, peg, k, rfl, hl, hp, hps, hpeg, hk, q⟩ := h; rfl) fun f cdv A outer s H vs Q E hr h => ?_
  obtain ⟨l, vp, ps, peg, k, rfl, hl, hp, hps, hpeg, hk, q⟩ := h
  refine ⟨_, (pss_cons (ps_par (i := 2) (j := 3) rfl scled.nd rfl rfl (by decide) rfl rfl (pa_cons (pe_lst (pa_cons (pv 1) pa_nil)) (pa_cons pe_int pa_nil)) (by rfl))
  (pss_cons (ps_while PassesOwn.never (pt_cmpR op_lt (pv 3) (pe_callB (klen (K := K) rfl) (by rfl) T.n_len bt_len (pa_cons (pv 2) pa_nil)) (nomark _)) (pss_cons (ps_for PassesOwn.never rfl (ki_list (K := K) rfl (pv 0)) (kgTup (K := K) (n := 2) rfl rfl (pgs_cons (pg_name (i := 4) scled.nd rfl (Or.inl rfl)) (pgs_cons (pg_name (i := 5) scled.nd rfl (Or.inl rfl)) pgs_nil)))
  (pss_one (ps_if (PW.pt (pw_and (pt_cmpR op_eq (pv 4) (pe_ix (kix_list (K := K) rfl) (pv 2) (pv 3) (fun _ _ => rfl)) (nomark _)) (pw_and1 (pt_cmpR (knotIn_seq (K := K) rfl) (pv 5) (pv 2) (by rfl))))) (pss_one (ps_expr (pe_bm PySem.F.plainAttrs_list PySem.F.slot_list_append PySem.F.type_list_append mt_append (pv 2) (pa_cons (pv 5) pa_nil)))) pss_nil)))
  (pss_one (ps_aug (i := 3) scled.nd rfl (Or.inl rfl) pe_int ip_add))))
  (pss_one (ps_ret (pv 2))))), ?_⟩
  refine ⟨_, rfl, line_ok (by simp), fun f hf => ⟨_, _, rfl, ?_⟩⟩
  have few : ∀ fd : List Int, fd.Nodup → (∀ x ∈ fd, 0 ≤ x ∧ x < (k : Int)) → fd.length ≤ 5 := fun fd h1 h2 => by
    have := nodup_sub_len h1 (fun x hx => mem_pegs.mpr (h2 x hx))
    rw [pegs_len] at this
    omega
  refine ⟨LedW ps peg k l f H, ⟨10, [peg], 0, none, none, rfl, Ex.new hf, upd_same, Nat.zero_le _, by simp, by simp, ?_, ?_, rfl⟩, ?_⟩
  · intro x hx
    rw [List.mem_singleton] at hx
    subst hx
    exact ⟨.refl, hpeg⟩
  · intro j x hj
    omega
  rintro m σ H1 ⟨fd, n, x, y, rfl, e1, hf1, hn, hnd, hpm, hr, hc, rfl⟩
  refine ⟨_, rfl, _, rfl, f, _, rfl, .inl (.of hf1), _, _, rfl, rfl, _, rfl, ?_⟩
  rw [List.length_map]
  have hlen := few fd hnd fun x hx => (hr x hx).2
  refine ite2 (fun hlt => ?_) fun hge => ?_
  · have hlt : n < fd.length := by simpa using hlt
    refine ⟨fun σ' H' => ∃ m', m' < 10 - n ∧ LedW ps peg k l f H m' σ' H', fun _ _ h => h, ?_⟩
    refine ⟨_, rfl, l, rfl, ⟨_, .of (e1 _ _ hl)⟩, ?_⟩
    refine for_list (xs := vp) (LedI ps peg k l f H n) ⟨fd, x, y, rfl, e1, hf1, hlt, hnd, hpm, hr, hc, fun x y _ h => by simp at h⟩ (fun i σ H' _ p => ?_) (fun i v σ H' hv p => ?_) fun σ H' p => ?_
    · obtain ⟨fd, x, y, rfl, e, _⟩ := p
      exact .of (e _ _ hl)
    · obtain ⟨fd, x, y, rfl, e, hf2, hlt, hnd, hpm, hr, hc, hi⟩ := p
      obtain ⟨d, hd, td⟩ := hp.get hv
      rw [List.getElem?_map, Option.map_eq_some_iff] at hd
      obtain ⟨⟨a, b⟩, hab, rfl⟩ := hd
      obtain ⟨t, rfl, ht⟩ := td_pr td
      have hmem : (a, b) ∈ ps := List.mem_of_getElem? hab
      have hb := hps _ hmem
      have htake : ps.take (i + 1) = ps.take i ++ [(a, b)] := take_next hab
      refine ⟨t, _, rfl, .of (e _ _ ht), rfl, ?_⟩
      refine ⟨_, _, rfl, _, _, rfl, rfl, ?_⟩
      obtain ⟨z, hz⟩ : ∃ z, fd[n]? = some z := ⟨_, List.getElem?_eq_getElem hlt⟩
      have hat : atI (fd.map V.int) (n : Int) = some (.int z) := atI_nat (by rw [List.getElem?_map, hz]; rfl)
      refine ⟨_, rfl, _, rfl, _, rfl, f, _, (n : Int), .int z, rfl, rfl, .of hf2, hat, rfl, _, rfl, ?_⟩
      have keep : (z = a → b ∈ fd) → LedI ps peg k l f H n (i + 1) [some (.ref l), some (.int peg), some (.ref f), some (.int (n : Nat)), some (.int a), some (.int b)] H' := fun hh => by
        refine ⟨fd, _, _, rfl, e, hf2, hlt, hnd, hpm, hr, hc, fun x' y' hx' hm => ?_⟩
        rw [htake, List.mem_append, List.mem_singleton] at hm
        rcases hm with hm | hm
        · exact hi x' y' hx' hm
        · injection hm with h1 h2
          rw [hz] at hx'
          have e2 : z = x' := Option.some.inj hx'
          rw [h2]
          exact hh (e2.trans h1)
      refine ite2 (fun he => ?_) fun he => ?_
      · have he : a = z := by simpa using he
        subst he
        refine ⟨_, rfl, _, rfl, f, _, rfl, .inl (.of hf2), rfl, flat_ints fd, _, rfl, ?_⟩
        show if (if true = true then !inV (V.int b) (fd.map V.int) else inV (V.int b) (fd.map V.int)) = true then _ else _
        rw [if_pos rfl, inV_ints]
        refine ite2 (fun hnb => ?_) fun hnb => ?_
        · have hnb : b ∉ fd := by simpa using hnb
          have hra := (hr a (List.mem_of_getElem? hz)).1
          refine ⟨_, rfl, .inl ⟨rfl, _, .of hf2⟩, _, rfl, f, _, _, rfl, rfl, hf2, ?_, ?_⟩
          · have := few fd hnd fun x hx => (hr x hx).2
            rw [List.length_map]
            exact Nat.lt_of_le_of_lt this (by decide)
          · refine ⟨fd ++ [b], _, _, rfl, e.mut hf, ?_, by rw [List.length_append]; omega, ?_, List.mem_append_left _ hpm, ?_, ?_, ?_⟩
            · rw [upd_same, List.map_append]
              rfl
            · rw [List.nodup_append]
              refine ⟨hnd, by simp, fun x hx y hy => ?_⟩
              rw [List.mem_singleton] at hy
              subst hy
              intro e
              subst e
              exact hnb hx
            · intro x hx
              rw [List.mem_append, List.mem_singleton] at hx
              rcases hx with hx | rfl
              · exact hr x hx
              · exact ⟨.step hra hmem, hb⟩
            · intro j x hj hx y hxy
              rw [List.getElem?_append_left (by omega)] at hx
              exact List.mem_append_left _ (hc j x hj hx y hxy)
            · intro x' y' hx' hm
              rw [List.getElem?_append_left hlt] at hx'
              rw [htake, List.mem_append, List.mem_singleton] at hm
              rcases hm with hm | hm
              · exact List.mem_append_left _ (hi x' y' hx' hm)
              · injection hm with h1 h2
                rw [h2]
                simp
        · have hb2 : b ∈ fd := by simpa using hnb
          exact keep fun _ => hb2
      · have he : ¬ a = z := by simpa using he
        exact keep fun z' => absurd z'.symm he
    · obtain ⟨fd, x, y, rfl, e, hf2, hlt, hnd, hpm, hr, hc, hi⟩ := p
      have hlen := few fd hnd fun x hx => (hr x hx).2
      refine ⟨_, rfl, _, _, rfl, rfl, 10 - (n + 1), by omega, fd, n + 1, x, y, rfl, e, hf2, hlt, hnd, hpm, hr, ?_, rfl⟩
      intro j x hj hx y hxy
      by_cases hjn : j < n
      · exact hc j x hjn hx y hxy
      · have : j = n := by omega
        subst this
        refine hi x y hx ?_
        have hl2 : vp.length = ps.length := by rw [hp.len, List.length_map]
        rw [hl2, List.take_length]
        exact hxy
  · have hge : ¬ n < fd.length := by simpa using hge
    refine ⟨_, rfl, q f H1 fd e1 hf1 hnd (fun x hx => (hr x hx).2) fun x => ⟨fun hx => (hr x hx).1, fun hx => ?_⟩⟩
    induction hx with
    | refl => exact hpm
    | @step y z _ hyz ih =>
      obtain ⟨j, hj, e⟩ := List.getElem_of_mem ih
      exact hc j y (by omega) (by rw [List.getElem?_eq_getElem hj, e]) z hyz


abbrev sends_of : Stmt := top 39
abbrev Nends_of : List Str := ["arrows", "arrow"]
theorem scends_of : FnScope Nends_of ["arrows"] (defScope sends_of) := ⟨rfl, rfl, rfl, by decide +kernel, rfl, by decide +kernel, by decide +kernel⟩
theorem bdends_of : BindsAll "ends_of" "ends_of" sends_of ["arrows"] := fun _ _ _ _ _ _ us hl => match us, hl with | [_], _ => rfl
/-- what ends_of promises -/
def sp_ends_of (P : Program) (w : World) (CW CG : Addr) : Sp := fun vs H Q _ => ∃ (l : Addr) (vr : List V) (rs : List Arr), vs = [.ref l] ∧ H l = some (.lst vr) ∧ TdA H vr (rs.map dAR) ∧ rs.length ≤ 1000 ∧ ∀ (r : Addr) H' vp, Ex H H' → H' r = some (.lst vp) → TdA H' vp ((endsL rs).map dPR) → Q (.ref r) H'
theorem w_ends_of (T : Glb K mg CW CG) (D : Def K mg "ends_of" sends_of) : Cal P w K mg base 1 "ends_of" ["arrows"] (sp_ends_of P w CW CG) := by
  refine Cal.mk' D scends_of bdends_of (fun vs H Q E h => by obtain ⟨l, vr, rs, rfl, hl, hr, hsz, q⟩ := h; rfl) fun f cdv A outer s H vs Q E hr h => ?_
  obtain ⟨l, vr, rs, rfl, hl, hr, hsz, q⟩ := h
  refine ⟨_, (pss_one (ps_ret (pe_lc (own := [("arrow", 1)]) (g := gName 1) (tt := tYes) rfl scends_of.nd (ki_list (K := K) rfl (pv 0)) (blkOk_by (N := Nends_of) (sc := defScope sends_of) (by decide +kernel)) (fun _ _ _ _ _ => (pg_name (i := 1) scends_of.nd rfl (Or.inl rfl))) (fun _ _ _ _ _ => pts_nil) (fun _ _ _ _ _ => (pe_tup (pa_cons (pe_ix (kix_tup (K := K) rfl) (pv 1) pe_int (fun _ _ => rfl)) (pa_cons (pe_ix (kix_tup (K := K) rfl) (pv 1) pe_int (fun _ _ => rfl)) pa_nil))))))), ?_⟩
  refine ⟨_, rfl, l, rfl, ⟨_, .of hl⟩, fun D hD => ?_⟩
  refine lc_list (xs := vr) (fun i H' => Ex H H' ∧ ∃ vp, H' D = some (.lst vp) ∧ TdA H' vp ((endsL (rs.take i)).map dPR)) ⟨Ex.new hD, [], upd_same, by simp [endsL, TdA.nil]⟩ (fun i H' _ p => .of (p.1 _ _ hl)) (fun i v H' hv p => ?_) fun H' p => ?_
  · obtain ⟨e, vp, hD2, tp⟩ := p
    obtain ⟨d, hd, td⟩ := hr.get hv
    rw [List.getElem?_map, Option.map_eq_some_iff] at hd
    obtain ⟨r, hrr, rfl⟩ := hd
    obtain ⟨t, g, rfl, ht, hg⟩ := td_ar td
    refine ⟨rfl, ?_⟩
    refine ⟨_, rfl, _, _, 0, _, rfl, rfl, .of (e _ _ ht), rfl, _, rfl, _, _, 1, _, rfl, rfl, .of (e _ _ ht), rfl, line_ok (by simp), fun T hT => ?_⟩
    have e2 : Ex H' (upd H' T (.tup [.int r.a, .int r.b])) := Ex.new hT
    have hvl : vp.length ≤ 1000 := by
      rw [tp.len, List.length_map, endsL, List.length_map, List.length_take]
      omega
    refine ⟨vp, e2 _ _ hD2, ?_, ?_⟩
    · exact small1000 hvl
    · refine ⟨(e.trans e2).mut hD, _, upd_same, ?_⟩
      have htake : rs.take (i + 1) = rs.take i ++ [r] := take_next hrr
      rw [htake, endsL, List.map_append, List.map_append]
      refine TdA.snoc ((tp.mk e2).mono (Tk.mut (Tk.refl _) (no_tupL (e2 _ _ hD2)))) ?_
      refine td_pr' (i := r.a) (j := r.b) ?_
      rw [upd_ne (fun z => by rw [z] at hT; rw [hD2] at hT; cases hT), upd_same]
  · obtain ⟨e, vp, hD2, tp⟩ := p
    have hl2 : vr.length = rs.length := by rw [hr.len, List.length_map]
    rw [hl2, List.take_length] at tp
    exact q D H' vp e hD2 tp


abbrev smeets : Stmt := top 20
abbrev Nmeets : List Str := ["guard", "pegs", "peg"]
theorem scmeets : FnScope Nmeets ["guard", "pegs"] (defScope smeets) := ⟨rfl, rfl, rfl, by decide +kernel, rfl, by decide +kernel, by decide +kernel⟩
theorem bdmeets : BindsAll "meets" "meets" smeets ["guard", "pegs"] := fun _ _ _ _ _ _ us hl => match us, hl with | [_, _], _ => rfl
/-- what meets promises -/
def sp_meets (P : Program) (w : World) (CW CG : Addr) : Sp := fun vs H Q _ => ∃ (g t : Addr) (gs ss : List Int), vs = [.ref g, .ref t] ∧ H g = some (.tup (gs.map .int)) ∧ H t = some (.tup (ss.map .int)) ∧ Q (.bl (meetsB gs ss)) H
theorem w_meets (T : Glb K mg CW CG) (D : Def K mg "meets" smeets) : Cal P w K mg base 1 "meets" ["guard", "pegs"] (sp_meets P w CW CG) := by
  refine Cal.mk' D scmeets bdmeets (fun vs H Q E h => by obtain ⟨g, t, gs, ss, rfl, hg, ht, q⟩ := h; rfl) fun f cdv A outer s H vs Q E hr h => ?_
  obtain ⟨g, t, gs, ss, rfl, hg, ht, q⟩ := h
  refine ⟨_, (pss_cons (ps_for PassesOwn.never rfl (ki_tup (K := K) rfl (pv 0)) (pg_name (i := 2) scmeets.nd rfl (Or.inl rfl))
  (pss_one (ps_if (pt_cmpR (kin_seq (K := K) rfl) (pv 2) (pv 1) (by rfl)) (pss_one (ps_ret pe_bl)) pss_nil)))
  (pss_one (ps_ret pe_bl))), ?_⟩
  refine ⟨_, rfl, g, rfl, ⟨_, .of hg⟩, ?_⟩
  refine for_tup (xs := gs.map V.int) (fun i σ H' => H' = H ∧ (∃ x, σ = [some (.ref g), some (.ref t), x]) ∧ meetsB (gs.take i) ss = false) ⟨rfl, ⟨none, rfl⟩, rfl⟩ (fun i σ H' _ p => by rw [p.1]; exact .of hg) (fun i v σ H' hv p => ?_) fun σ H' p => ?_
  · obtain ⟨rfl, ⟨x, rfl⟩, hm⟩ := p
    rw [List.getElem?_map, Option.map_eq_some_iff] at hv
    obtain ⟨z, hz, rfl⟩ := hv
    have htake : gs.take (i + 1) = gs.take i ++ [z] := take_next hz
    refine ⟨_, rfl, _, rfl, t, _, rfl, .inr (.of ht), rfl, flat_ints ss, _, rfl, ?_⟩
    rw [isIn]
    refine ite2 (fun hb => ?_) fun hb => ?_
    · have hb : z ∈ ss := by simpa using hb
      have e : meetsB gs ss = true := meetsB_iff.mpr ⟨z, List.mem_of_getElem? hz, hb⟩
      rw [e] at q
      exact q
    · have hb : z ∉ ss := by simpa using hb
      refine ⟨rfl, ⟨_, rfl⟩, ?_⟩
      rw [htake]
      unfold meetsB at hm ⊢
      rw [List.any_append, hm]
      simp [hb]
  · obtain ⟨rfl, ⟨x, rfl⟩, hm⟩ := p
    rw [List.length_map, List.take_length] at hm
    rw [hm] at q
    exact q


theorem turn_pairs {ps : List (Int × Int)} {k : Nat} (h : ∀ p ∈ ps, (0 ≤ p.1 ∧ p.1 < (k : Int)) ∧ 0 ≤ p.2 ∧ p.2 < (k : Int)) : ∀ p ∈ turnP ps, 0 ≤ p.2 ∧ p.2 < (k : Int) := by
  intro p hp
  obtain ⟨q, hq, rfl⟩ := List.mem_map.mp hp
  exact (h q hq).1
abbrev stied_by : Stmt := top 38
abbrev Ntied_by : List Str := ["pairs", "peg", "back", "start", "stop", "other"]
theorem sctied_by : FnScope Ntied_by ["pairs", "peg"] (defScope stied_by) := ⟨rfl, rfl, rfl, by decide +kernel, rfl, by decide +kernel, by decide +kernel⟩
theorem bdtied_by : BindsAll "tied_by" "tied_by" stied_by ["pairs", "peg"] := fun _ _ _ _ _ _ us hl => match us, hl with | [_, _], _ => rfl
/-- what tied_by promises -/
def sp_tied_by (P : Program) (w : World) (CW CG : Addr) : Sp := fun vs H Q _ => ∃ (l : Addr) (vp : List V) (ps : List (Int × Int)) (peg : Int) (k : Nat), vs = [.ref l, .int peg] ∧ H l = some (.lst vp) ∧ TdA H vp (ps.map dPR) ∧ (∀ p ∈ ps, (0 ≤ p.1 ∧ p.1 < k) ∧ 0 ≤ p.2 ∧ p.2 < k) ∧ (0 ≤ peg ∧ peg < k) ∧ k ≤ 5 ∧ ps.length ≤ 1000 ∧ ∀ (r : Addr) H', Ex H H' → H' r = some (.tup ((tiedL k ps peg).map .int)) → Q (.ref r) H'
theorem w_tied_by (T : Glb K mg CW CG) (D : Def K mg "tied_by" stied_by) (c_led : Cal P w K mg base 1 "led" ["pairs", "peg"] (sp_led P w CW CG)) : Cal P w K mg base 2 "tied_by" ["pairs", "peg"] (sp_tied_by P w CW CG) := by
  refine Cal.mk' D sctied_by bdtied_by (fun vs H Q E h => by obtain ⟨l, vp, ps, peg, k, rfl, hl, hp, hps, hpeg, hk, hsz, q⟩ := h; rfl) fun f cdv A outer s H vs Q E hr h => ?_
  obtain ⟨l, vp, ps, peg, k, rfl, hl, hp, hps, hpeg, hk, hsz, q⟩ := h
  refine ⟨_, (pss_cons (ps_set (i := 2) sctied_by.nd rfl (Or.inr rfl) (pe_c c_led hr (by rfl) (pa_cons (pe_lc (own := [("start", 3), ("stop", 4)]) (tt := tYes) rfl sctied_by.nd (ki_list (K := K) rfl (pv 0)) (blkOk_by (N := Ntied_by) (sc := defScope stied_by) (by decide +kernel)) (fun _ _ _ _ _ => (kgTup (K := K) (n := 2) rfl rfl (pgs_cons (pg_name (i := 3) sctied_by.nd rfl (Or.inl rfl)) (pgs_cons (pg_name (i := 4) sctied_by.nd rfl (Or.inl rfl)) pgs_nil)))) (fun _ _ _ _ _ => pts_nil) (fun _ _ _ _ _ => (pe_tup (pa_cons (pv 4) (pa_cons (pv 3) pa_nil))))) (pa_cons (pv 1) pa_nil))))
  (pss_one (ps_ret (pe_callTy (ktuple_of (K := K) rfl) (by rfl) T.n_tuple bt_tuple (pa_cons (pe_callB cr_sorted (by rfl) T.n_sorted bt_sorted (pa_cons (pe_lc (own := [("other", 5)]) (g := gName 5) rfl sctied_by.nd (ki_list (K := K) rfl (pe_c c_led hr (by rfl) (pa_cons (pv 0) (pa_cons (pv 1) pa_nil)))) (blkOk_by (N := Ntied_by) (sc := defScope stied_by) (by decide +kernel)) (fun _ _ _ _ _ => (pg_name (i := 5) sctied_by.nd rfl (Or.inl rfl))) (fun _ _ _ _ _ => (pts_one (pt_cmpR (kin_seq (K := K) rfl) (pv 5) (pv 2) (by rfl)))) (fun _ _ _ _ _ => (pv 5))) pa_nil)) pa_nil))))), ?_⟩
  -- back = led([(stop, start) ..], peg)
  refine ⟨_, rfl, l, rfl, ⟨_, .of hl⟩, fun D hD => ?_⟩
  refine lc_list (xs := vp) (fun i H' => Ex H H' ∧ ∃ wp, H' D = some (.lst wp) ∧ TdA H' wp ((turnP (ps.take i)).map dPR)) ⟨Ex.new hD, [], upd_same, by simp [turnP, TdA.nil]⟩ (fun i H' _ p => .of (p.1 _ _ hl)) (fun i v H' hv p => ?_) fun H' p => ?_
  · obtain ⟨e, wp, hD2, tp⟩ := p
    obtain ⟨d, hd, td⟩ := hp.get hv
    rw [List.getElem?_map, Option.map_eq_some_iff] at hd
    obtain ⟨⟨a, b⟩, hrr, rfl⟩ := hd
    obtain ⟨t, rfl, ht⟩ := td_pr td
    refine ⟨t, _, rfl, .of (e _ _ ht), rfl, _, _, rfl, _, _, rfl, rfl, rfl, ?_⟩
    refine ⟨_, rfl, _, rfl, line_ok (by simp), fun T hT => ?_⟩
    have e2 : Ex H' (upd H' T (.tup [.int b, .int a])) := Ex.new hT
    have hvl : wp.length ≤ 1000 := by
      rw [tp.len, List.length_map, turnP, List.length_map, List.length_take]
      omega
    refine ⟨wp, e2 _ _ hD2, small1000 hvl, ?_⟩
    refine ⟨(e.trans e2).mut hD, _, upd_same, ?_⟩
    have htake : ps.take (i + 1) = ps.take i ++ [(a, b)] := take_next hrr
    rw [htake, turnP, List.map_append, List.map_append]
    refine TdA.snoc ((tp.mk e2).mono (Tk.mut (Tk.refl _) (no_tupL (e2 _ _ hD2)))) ?_
    refine td_pr' (i := b) (j := a) ?_
    rw [upd_ne (fun z => by rw [z] at hT; rw [hD2] at hT; cases hT), upd_same]
  obtain ⟨e1, wp, hD2, tp⟩ := p
  have hl2 : vp.length = ps.length := by rw [hp.len, List.length_map]
  rw [hl2, List.take_length] at tp
  refine ⟨_, rfl, D, wp, turnP ps, peg, k, rfl, hD2, tp, turn_pairs hps, hpeg, hk, fun r H2 fb e2 hr2 hnb hbk hb => ?_⟩
  -- the others led to
  refine ⟨_, rfl, _, rfl, l, vp, ps, peg, k, rfl, e2 _ _ (e1 _ _ hl), (hp.mk e1).mk e2, fun p hp => (hps p hp).2, hpeg, hk, fun r3 H3 fa e3 hr3 hna hak ha => ?_⟩
  refine ⟨r3, rfl, ⟨_, .of hr3⟩, fun D2 hD2' => ?_⟩
  refine lc_list (xs := fa.map V.int) (fun i H' => Ex H3 H' ∧ H' D2 = some (.lst (((fa.take i).filter fun x => decide (x ∈ fb)).map .int))) ⟨Ex.new hD2', upd_same⟩ (fun i H' _ p => .of (p.1 _ _ hr3)) (fun i v H' hv p => ?_) fun H4 p => ?_
  · obtain ⟨e, hD3⟩ := p
    rw [List.getElem?_map, Option.map_eq_some_iff] at hv
    obtain ⟨z, hz, rfl⟩ := hv
    have htake : fa.take (i + 1) = fa.take i ++ [z] := take_next hz
    refine ⟨rfl, _, rfl, _, rfl, r, _, rfl, .inl (.of (e _ _ (e3 _ _ hr2))), rfl, flat_ints fb, _, rfl, ?_⟩
    rw [isIn]
    refine ite2 (fun hb' => ?_) fun hb' => ?_
    · have hb' : z ∈ fb := by simpa using hb'
      refine ⟨_, rfl, _, hD3, ?_, e.mut hD2', ?_⟩
      · rw [List.length_map]
        have := List.length_filter_le (fun x => decide (x ∈ fb)) (fa.take i)
        have h2 := nodup_sub_len hna (fun x hx => mem_pegs.mpr (hak x hx))
        rw [pegs_len] at h2
        rw [List.length_take] at this
        exact Nat.lt_of_le_of_lt (show _ ≤ 5 by omega) (by decide)
      · rw [upd_same, htake, List.filter_append, List.map_append]
        simp [hb']
    · have hb' : z ∉ fb := by simpa using hb'
      refine ⟨e, ?_⟩
      rw [htake, List.filter_append, hD3]
      simp [hb']
  obtain ⟨e4, hD4⟩ := p
  rw [List.length_map, List.take_length] at hD4
  have hfl : (fa.filter fun x => decide (x ∈ fb)).length ≤ 5 := by
    have := List.length_filter_le (fun x => decide (x ∈ fb)) fa
    have h2 := nodup_sub_len hna (fun x hx => mem_pegs.mpr (hak x hx))
    rw [pegs_len] at h2
    omega
  refine ⟨D2, _, rfl, .of hD4, by omega, fun ns' p hperm hsorted hp' => ?_⟩
  refine ⟨p, _, rfl, .inl ⟨.of upd_same, fun t ht => ?_⟩⟩
  have e : Ex H (upd (upd H4 p (.lst (ns'.map V.int))) t (.tup (ns'.map V.int))) := (((e1.trans e2).trans e3).trans e4).trans ((Ex.new hp').trans (Ex.new ht))
  refine q t _ e ?_
  have eq : ns' = tiedL k ps peg := by
    refine asc_unique ?_ (tiedL_sorted k ps peg) fun z => ?_
    · have hnd : ns'.Nodup := hperm.nodup_iff.mpr (hna.filter _)
      rw [List.Nodup] at hnd
      exact (hsorted.and hnd).imp fun {a b} h => by
        have h1 := h.1
        have h2 := h.2
        omega
    · rw [hperm.mem_iff, List.mem_filter, decide_eq_true_eq, mem_tiedL, ha, hb, reachP_turn]
      constructor
      · rintro ⟨h1, h2⟩
        exact ⟨hak z ((ha z).mpr h1), h1, h2⟩
      · rintro ⟨_, h1, h2⟩
        exact ⟨h1, h2⟩
  rw [upd_same, eq]


end
end K07
end K07_part_W2

section K07_part_W1
set_option Elab.async false
set_option linter.all false
set_option maxRecDepth 100000
set_option maxHeartbeats 4000000
namespace K07
open PySem PySem.Spec PyProof.Rows L2 Evl
section
variable {P : Program} {w : World} {K : PySem.W.Frag} {mg : Str → Option Value} {base : Heap} {CW CG : Addr}

theorem clsLT : Paired ClsV [.ty "list", .ty "tuple"] [.type "list", .type "tuple"] := .cons (.ty _) (.cons (.ty _) .nil)
theorem kitLT_tup : PySem.W.kitAny K (.type "tuple") [.type "list", .type "tuple"] = some true :=
  kitAny_cons (b := false) (kit_ty (by decide +kernel)) (fun _ => kitAny_cons (b := true) (kit_ty (by decide +kernel)) (fun z => by cases z) fun _ => rfl) (fun z => by cases z)
theorem kitLT_lst : PySem.W.kitAny K (.type "list") [.type "list", .type "tuple"] = some true := kitAny_cons (b := true) (kit_ty (by decide +kernel)) (fun z => by cases z) (fun _ => rfl)
theorem asc_nodup {ns : List Int} (h : ns.Pairwise (· < ·)) : ns.Nodup := h.imp fun {a b} q e => by omega
theorem srt_ints {ns : List Int} (h : ns.Pairwise (· < ·)) : srtD (ns.map .int) = ns.map .int := by
  have e : srtD (ns.map .int) = (ns.mergeSort fun a b => W.dataLe false id (PyData.int a) (PyData.int b)).map .int := by
    rw [List.map_mergeSort]
    intro a _ b _
    rfl
  have e2 : (fun a b : Int => W.dataLe false id (PyData.int a) (PyData.int b)) = fun a b => decide (a ≤ b) := by
    have := W.dataLe_int (fun b : Int => b)
    rw [W.dataLe_eq] at this ⊢
    exact this
  rw [e, e2, List.mergeSort_of_pairwise]
  exact h.imp fun {a b} q => by simp; omega
theorem srt_intsOk (ns : List Int) (h : ns.length ≤ 1000) : Srt (ns.map .int) := by
  refine ⟨?_, .inl (W.Sortable.others fun b => ⟨(fun h => by cases h), (fun xs h => by cases h)⟩), by rw [List.length_map]; omega, ?_⟩
  · intro d hd d' hd'
    obtain ⟨x, _, rfl⟩ := List.mem_map.mp hd
    obtain ⟨y, _, rfl⟩ := List.mem_map.mp hd'
    simp [W.alike]
  · intro d hd
    obtain ⟨x, _, rfl⟩ := List.mem_map.mp hd
    simp [PyData.depth]

abbrev sis_integer : Stmt := top 13
abbrev Nis_integer : List Str := ["thing"]
theorem scis_integer : FnScope Nis_integer ["thing"] (defScope sis_integer) := ⟨rfl, rfl, rfl, by decide +kernel, rfl, by decide +kernel, by decide +kernel⟩
theorem bdis_integer : BindsAll "is_integer" "is_integer" sis_integer ["thing"] := fun _ _ _ _ _ _ us hl => match us, hl with | [_], _ => rfl
/-- what is_integer promises -/
def sp_is_integer (P : Program) (w : World) (CW CG : Addr) : Sp := fun vs H Q _ => ∃ i, vs = [.int i] ∧ Q (.bl true) H
theorem w_is_integer (T : Glb K mg CW CG) (D : Def K mg "is_integer" sis_integer) : Cal P w K mg base 1 "is_integer" ["thing"] (sp_is_integer P w CW CG) := by
  refine Cal.mk' D scis_integer bdis_integer (fun vs H Q E h => by obtain ⟨i, rfl, q⟩ := h; rfl) fun f cdv A outer s H vs Q E hr h => ?_
  obtain ⟨i, rfl, q⟩ := h
  refine ⟨_, (pss_one (ps_ret (pe_and (pe_callB call_isi (by rfl) T.n_isinstance bt_isinstance (pa_cons (pv 0) (pa_cons (pe_ty (by rfl) T.n_int bt_int) pa_nil))) (pe_one (pe_not (pe_callB call_isi (by rfl) T.n_isinstance bt_isinstance (pa_cons (pv 0) (pa_cons (pe_ty (by rfl) T.n_bool bt_bool) pa_nil)))))))), ?_⟩
  exact ⟨_, rfl, _, .ty "int", .type "int", _, true, rfl, .ty _, .base (.int i), kit_ty (by decide +kernel), true, rfl, _, rfl, _, .ty "bool", .type "int", _, false, rfl, .ty _, .base (.int i), kit_ty (by decide +kernel), false, rfl, q⟩


abbrev sis_below : Stmt := top 14
abbrev Nis_below : List Str := ["thing", "limit"]
theorem scis_below : FnScope Nis_below ["thing", "limit"] (defScope sis_below) := ⟨rfl, rfl, rfl, by decide +kernel, rfl, by decide +kernel, by decide +kernel⟩
theorem bdis_below : BindsAll "is_below" "is_below" sis_below ["thing", "limit"] := fun _ _ _ _ _ _ us hl => match us, hl with | [_, _], _ => rfl
/-- what is_below promises -/
def sp_is_below (P : Program) (w : World) (CW CG : Addr) : Sp := fun vs H Q _ => ∃ i n, vs = [.int i, .int n] ∧ Q (.bl (decide (0 ≤ i) && decide (i < n))) H
theorem w_is_below (T : Glb K mg CW CG) (D : Def K mg "is_below" sis_below) (c_is_integer : Cal P w K mg base 1 "is_integer" ["thing"] (sp_is_integer P w CW CG)) : Cal P w K mg base 2 "is_below" ["thing", "limit"] (sp_is_below P w CW CG) := by
  refine Cal.mk' D scis_below bdis_below (fun vs H Q E h => by obtain ⟨i, n, rfl, q⟩ := h; rfl) fun f cdv A outer s H vs Q E hr h => ?_
  obtain ⟨i, n, rfl, q⟩ := h
  refine ⟨_, (pss_one (ps_ret (pe_and (pe_c c_is_integer hr (by rfl) (pa_cons (pv 0) pa_nil)) (pe_one (pe_chain op_le op_lt pe_int (pv 0) (pv 1)))))), ?_⟩
  refine ⟨_, rfl, i, rfl, true, rfl, _, rfl, 0, i, rfl, rfl, _, rfl, ?_⟩
  by_cases h0 : (0 : Int) ≤ i
  · rw [decide_eq_true h0] at q ⊢
    exact ⟨_, rfl, _, _, rfl, rfl, q⟩
  · rw [decide_eq_false h0] at q ⊢
    exact q


abbrev scheck_pegs : Stmt := top 15
abbrev Ncheck_pegs : List Str := ["pegs"]
theorem sccheck_pegs : FnScope Ncheck_pegs ["pegs"] (defScope scheck_pegs) := ⟨rfl, rfl, rfl, by decide +kernel, rfl, by decide +kernel, by decide +kernel⟩
theorem bdcheck_pegs : BindsAll "check_pegs" "check_pegs" scheck_pegs ["pegs"] := fun _ _ _ _ _ _ us hl => match us, hl with | [_], _ => rfl
/-- what check_pegs promises -/
def sp_check_pegs (P : Program) (w : World) (CW CG : Addr) : Sp := fun vs H Q _ => ∃ i, vs = [.int i] ∧ 3 ≤ i ∧ i ≤ 5 ∧ Q (.int i) H
theorem w_check_pegs (T : Glb K mg CW CG) (D : Def K mg "check_pegs" scheck_pegs) (c_is_integer : Cal P w K mg base 1 "is_integer" ["thing"] (sp_is_integer P w CW CG)) : Cal P w K mg base 2 "check_pegs" ["pegs"] (sp_check_pegs P w CW CG) := by
  refine Cal.mk' D sccheck_pegs bdcheck_pegs (fun vs H Q E h => by obtain ⟨i, rfl, h3, h5, q⟩ := h; rfl) fun f cdv A outer s H vs Q E hr h => ?_
  obtain ⟨i, rfl, h3, h5, q⟩ := h
  refine ⟨_, (pss_cons (ps_if (PW.pt (pw_or (pt_not (pt_val (pe_c c_is_integer hr (by rfl) (pa_cons (pv 0) pa_nil)))) (pw_or1 (pt_not (pt_chain op_le op_le pe_int (pv 0) pe_int))))) (pss_one ps_never) pss_nil)
  (pss_one (ps_ret (pv 0)))), ?_⟩
  refine ⟨_, rfl, i, rfl, true, rfl, ?_⟩
  refine ⟨_, rfl, 3, i, rfl, rfl, _, rfl, ?_⟩
  rw [decide_eq_true h3]
  refine ⟨_, _, rfl, rfl, _, rfl, ?_⟩
  rw [decide_eq_true h5]
  exact ⟨_, rfl, q⟩


abbrev sset_of : Stmt := top 17
abbrev Nset_of : List Str := ["thing", "limit", "member"]
theorem scset_of : FnScope Nset_of ["thing", "limit"] (defScope sset_of) := ⟨rfl, rfl, rfl, by decide +kernel, rfl, by decide +kernel, by decide +kernel⟩
theorem bdset_of : BindsAll "set_of" "set_of" sset_of ["thing", "limit"] := fun _ _ _ _ _ _ us hl => match us, hl with | [_, _], _ => rfl
/-- what set_of promises -/
def sp_set_of (P : Program) (w : World) (CW CG : Addr) : Sp := fun vs H Q _ => ∃ (t : Addr) (ns : List Int) (k : Int), vs = [.ref t, .int k] ∧ H t = some (.tup (ns.map .int)) ∧ ns.Pairwise (· < ·) ∧ (∀ x ∈ ns, 0 ≤ x ∧ x < k) ∧ ns.length ≤ 1000 ∧ ∀ (r : Addr) H', Ex H H' → H' r = some (.tup (ns.map .int)) → Q (.ref r) H'
theorem w_set_of (T : Glb K mg CW CG) (D : Def K mg "set_of" sset_of) (c_is_below : Cal P w K mg base 2 "is_below" ["thing", "limit"] (sp_is_below P w CW CG)) : Cal P w K mg base 3 "set_of" ["thing", "limit"] (sp_set_of P w CW CG) := by
  refine Cal.mk' D scset_of bdset_of (fun vs H Q E h => by obtain ⟨t, ns, k, rfl, ht, hasc, hk, hlen, q⟩ := h; rfl) fun f cdv A outer s H vs Q E hr h => ?_
  obtain ⟨t, ns, k, rfl, ht, hasc, hk, hlen, q⟩ := h
  refine ⟨_, (pss_cons (ps_if (pt_not (pt_val (pe_callB call_isiT (by rfl) T.n_isinstance bt_isinstance (pa_cons (pv 0) (pa_cons (pe_tup (pa_cons (pe_ty (by rfl) T.n_list bt_list) (pa_cons (pe_ty (by rfl) T.n_tuple bt_tuple) pa_nil))) pa_nil))))) (pss_one (ps_ret pe_non)) pss_nil)
  (pss_cons (ps_for PassesOwn.never rfl (ki_tup (K := K) rfl (pv 0)) (pg_name (i := 2) scset_of.nd rfl (Or.inl rfl))
  (pss_one (ps_if (pt_not (pt_val (pe_c c_is_below hr (by rfl) (pa_cons (pv 2) (pa_cons (pv 1) pa_nil))))) (pss_one (ps_ret pe_non)) pss_nil)))
  (pss_cons (ps_if (pt_cmpR op_lt (pe_lenSetT (by rfl) T.n_len (by rfl) T.n_set (pv 0)) (pe_callB (klen (K := K) rfl) (by rfl) T.n_len bt_len (pa_cons (pv 0) pa_nil)) (nomark _)) (pss_one (ps_ret pe_non)) pss_nil)
  (pss_one (ps_ret (pe_callTy (ktuple_of (K := K) rfl) (by rfl) T.n_tuple bt_tuple (pa_cons (pe_callB (cr_sortL (hr.u 32)) (by rfl) T.n_sorted bt_sorted (pa_cons (pv 0) pa_nil)) pa_nil))))))), ?_⟩
  refine ⟨_, rfl, line_ok (by simp), fun p hp => ?_⟩
  have e1 : Ex H (upd H p (.tup [.ty "list", .ty "tuple"])) := Ex.new hp
  refine ⟨.ref t, p, _, _, _, true, rfl, upd_same, clsLT, .base (.tup (e1 _ _ ht)), kitLT_tup, _, rfl, ?_⟩
  generalize upd H p (.tup [.ty "list", .ty "tuple"]) = H1 at e1
  refine ⟨_, rfl, t, rfl, ⟨_, .of (e1 _ _ ht)⟩, ?_⟩
  refine for_tup (xs := ns.map V.int) (fun i σ H' => H' = H1 ∧ ∃ x, σ = [some (.ref t), some (.int k), x]) ⟨rfl, none, rfl⟩ (fun i σ H' _ p => by rw [p.1]; exact .of (e1 _ _ ht)) (fun i v σ H' hv p => ?_) fun σ H' p => ?_
  · obtain ⟨rfl, x, rfl⟩ := p
    rw [List.getElem?_map, Option.map_eq_some_iff] at hv
    obtain ⟨z, hz, rfl⟩ := hv
    obtain ⟨h0, h1⟩ := hk z (List.mem_of_getElem? hz)
    refine ⟨_, rfl, _, rfl, z, k, rfl, _, rfl, ?_⟩
    rw [decide_eq_true h0, decide_eq_true h1]
    exact ⟨rfl, _, rfl⟩
  · obtain ⟨rfl, x, rfl⟩ := p
    refine ⟨_, rfl, t, ns, rfl, .of (e1 _ _ ht), asc_nodup hasc, hlen, ?_⟩
    refine ⟨_, rfl, t, _, rfl, .inr (.of (e1 _ _ ht)), _, _, rfl, rfl, _, rfl, ?_⟩
    rw [List.length_map, decide_eq_false (by omega)]
    refine ⟨_, rfl, t, _, ns.map .int, rfl, .inr (.of (e1 _ _ ht)), .ints, srt_intsOk ns hlen, fun p ys hp hys => ?_⟩
    rw [srt_ints hasc] at hys
    obtain rfl := hys.ints_inv
    refine ⟨p, _, rfl, .inl ⟨.of upd_same, fun l hl => ?_⟩⟩
    exact q l _ ((e1.trans (Ex.new hp)).trans (Ex.new hl)) upd_same


/-- an arrow of k pegs -/
structure ArrOk (k : Nat) (r : Arr) : Prop where
  ha : 0 ≤ r.a ∧ r.a < k
  hb : 0 ≤ r.b ∧ r.b < k
  ne : r.a ≠ r.b
  asc : r.g.Pairwise (· < ·)
  gk : ∀ x ∈ r.g, 0 ≤ x ∧ x < (k : Int)
  gne : r.g ≠ []
  an : r.a ∉ r.g
  bn : r.b ∉ r.g
  hc : 1 ≤ r.c ∧ r.c ≤ 10 ^ 60
theorem ArrOk.few {k : Nat} {r : Arr} (h : ArrOk k r) : r.g.length ≤ k := by
  have := nodup_sub_len (asc_nodup h.asc) fun x hx => mem_pegs.mpr (h.gk x hx)
  rwa [pegs_len] at this
theorem below_ok {i n : Int} (h : 0 ≤ i ∧ i < n) : (decide (0 ≤ i) && decide (i < n)) = true := by
  rw [decide_eq_true h.1, decide_eq_true h.2]
  rfl
abbrev smark_of : Stmt := top 18
abbrev Nmark_of : List Str := ["thing", "pegs", "start", "stop", "guard"]
theorem scmark_of : FnScope Nmark_of ["thing", "pegs"] (defScope smark_of) := ⟨rfl, rfl, rfl, by decide +kernel, rfl, by decide +kernel, by decide +kernel⟩
theorem bdmark_of : BindsAll "mark_of" "mark_of" smark_of ["thing", "pegs"] := fun _ _ _ _ _ _ us hl => match us, hl with | [_, _], _ => rfl
/-- what mark_of promises -/
def sp_mark_of (P : Program) (w : World) (CW CG : Addr) : Sp := fun vs H Q _ => ∃ (t : Addr) (r : Arr) (k : Nat), vs = [.ref t, .int k] ∧ Td H (.ref t) (dMK r) ∧ ArrOk k r ∧ k ≤ 5 ∧ ∀ (m : Addr) H', Ex H H' → Td H' (.ref m) (dMK r) → Q (.ref m) H'
theorem w_mark_of (T : Glb K mg CW CG) (D : Def K mg "mark_of" smark_of) (c_is_below : Cal P w K mg base 2 "is_below" ["thing", "limit"] (sp_is_below P w CW CG)) (c_set_of : Cal P w K mg base 3 "set_of" ["thing", "limit"] (sp_set_of P w CW CG)) : Cal P w K mg base 4 "mark_of" ["thing", "pegs"] (sp_mark_of P w CW CG) := by
  refine Cal.mk' D scmark_of bdmark_of (fun vs H Q E h => by obtain ⟨t, r, k, rfl, ht, ok, hk, q⟩ := h; rfl) fun f cdv A outer s H vs Q E hr h => ?_
  obtain ⟨t, r, k, rfl, ht, ok, hk, q⟩ := h
  refine ⟨_, (pss_cons (ps_if (PW.pt (pw_or (pt_not (pt_val (pe_callB call_isiT (by rfl) T.n_isinstance bt_isinstance (pa_cons (pv 0) (pa_cons (pe_tup (pa_cons (pe_ty (by rfl) T.n_list bt_list) (pa_cons (pe_ty (by rfl) T.n_tuple bt_tuple) pa_nil))) pa_nil))))) (pw_or1 (pt_cmpR op_ne (pe_callB (klen (K := K) rfl) (by rfl) T.n_len bt_len (pa_cons (pv 0) pa_nil)) pe_int (nomark _))))) (pss_one (ps_ret pe_non)) pss_nil)
  (pss_cons (ps_asg (pv 0) (kgTup (K := K) (n := 3) rfl rfl (pgs_cons (pg_name (i := 2) scmark_of.nd rfl (Or.inl rfl)) (pgs_cons (pg_name (i := 3) scmark_of.nd rfl (Or.inl rfl)) (pgs_cons (pg_name (i := 4) scmark_of.nd rfl (Or.inl rfl)) pgs_nil)))))
  (pss_cons (ps_if (PW.pt (pw_or (pt_not (pt_val (pe_c c_is_below hr (by rfl) (pa_cons (pv 2) (pa_cons (pv 1) pa_nil))))) (pw_or (pt_not (pt_val (pe_c c_is_below hr (by rfl) (pa_cons (pv 3) (pa_cons (pv 1) pa_nil))))) (pw_or1 (pt_cmpR op_eq (pv 2) (pv 3) (nomark _)))))) (pss_one (ps_ret pe_non)) pss_nil)
  (pss_cons (ps_set (i := 4) scmark_of.nd rfl (Or.inl rfl) (pe_c c_set_of hr (by rfl) (pa_cons (pv 4) (pa_cons (pv 1) pa_nil))))
  (pss_cons (ps_if (PW.pt (pw_or (pt_cmpR op_isN (pv 4) pe_non (nomark _)) (pw_or (pt_cmpR op_eq (pe_callB (klen (K := K) rfl) (by rfl) T.n_len bt_len (pa_cons (pv 4) pa_nil)) pe_int (nomark _)) (pw_or (pt_cmpR (kin_seq (K := K) rfl) (pv 2) (pv 4) (by rfl)) (pw_or1 (pt_cmpR (kin_seq (K := K) rfl) (pv 3) (pv 4) (by rfl))))))) (pss_one (ps_ret pe_non)) pss_nil)
  (pss_one (ps_ret (pe_tup (pa_cons (pv 2) (pa_cons (pv 3) (pa_cons (pv 4) pa_nil))))))))))), ?_⟩
  obtain ⟨t', g, e, h1, hg⟩ := td_mk ht
  cases e
  refine ⟨_, rfl, line_ok (by simp), fun p hp => ?_⟩
  have e1 : Ex H (upd H p (.tup [.ty "list", .ty "tuple"])) := Ex.new hp
  refine ⟨.ref t, p, _, _, _, true, rfl, upd_same, clsLT, .base (.tup (e1 _ _ h1)), kitLT_tup, true, rfl, ?_⟩
  generalize upd H p (.tup [.ty "list", .ty "tuple"]) = H1 at e1
  refine ⟨_, rfl, t, _, rfl, .inr (.of (e1 _ _ h1)), rfl, _, rfl, ?_⟩
  refine ite2 (fun h => absurd h (by simp)) fun _ => ?_
  refine ⟨_, rfl, t, _, rfl, .of (e1 _ _ h1), rfl, _, _, rfl, _, _, rfl, _, _, rfl, rfl, ?_⟩
  refine ⟨_, rfl, _, rfl, _, _, rfl, _, rfl, ?_⟩
  rw [below_ok ok.ha]
  refine ⟨_, rfl, _, rfl, _, _, rfl, _, rfl, ?_⟩
  rw [below_ok ok.hb]
  refine ⟨_, rfl, _, rfl, rfl, _, rfl, ?_⟩
  refine ite2 (fun h => absurd h (by simp [ok.ne])) fun _ => ?_
  refine ⟨_, rfl, _, rfl, g, r.g, k, rfl, e1 _ _ (ti_ok hg), ok.asc, ok.gk, Nat.le_trans ok.few (by omega), fun g2 H2 e2 hg2 => ?_⟩
  refine ⟨_, rfl, rfl, _, rfl, ?_⟩
  refine ite2 (fun h => absurd h (by simp)) fun _ => ?_
  refine ⟨_, rfl, g2, _, rfl, .inr (.of hg2), rfl, _, rfl, ?_⟩
  refine ite2 (fun h => absurd h (by simp [ok.gne])) fun _ => ?_
  refine ⟨_, rfl, _, rfl, g2, _, rfl, .inr (.of hg2), rfl, flat_ints r.g, _, rfl, ?_⟩
  rw [isIn, decide_eq_false ok.an]
  refine ⟨_, rfl, _, rfl, g2, _, rfl, .inr (.of hg2), rfl, flat_ints r.g, _, rfl, ?_⟩
  rw [isIn, decide_eq_false ok.bn]
  refine ⟨_, rfl, _, rfl, _, rfl, line_ok (by simp), fun m hm => ?_⟩
  refine q m _ ((e1.trans e2).trans (Ex.new hm)) (td_mk' upd_same ?_)
  exact td_ti' (Ex.new hm _ _ hg2)


abbrev sarrow_of : Stmt := top 19
abbrev Narrow_of : List Str := ["thing", "pegs", "mark", "cost"]
theorem scarrow_of : FnScope Narrow_of ["thing", "pegs"] (defScope sarrow_of) := ⟨rfl, rfl, rfl, by decide +kernel, rfl, by decide +kernel, by decide +kernel⟩
theorem bdarrow_of : BindsAll "arrow_of" "arrow_of" sarrow_of ["thing", "pegs"] := fun _ _ _ _ _ _ us hl => match us, hl with | [_, _], _ => rfl
/-- what arrow_of promises -/
def sp_arrow_of (P : Program) (w : World) (CW CG : Addr) : Sp := fun vs H Q _ => ∃ (t : Addr) (r : Arr) (k : Nat), vs = [.ref t, .int k] ∧ Td H (.ref t) (dAR r) ∧ ArrOk k r ∧ k ≤ 5 ∧ ∀ (m : Addr) H', Ex H H' → Td H' (.ref m) (dAR r) → Q (.ref m) H'
theorem w_arrow_of (T : Glb K mg CW CG) (D : Def K mg "arrow_of" sarrow_of) (c_mark_of : Cal P w K mg base 4 "mark_of" ["thing", "pegs"] (sp_mark_of P w CW CG)) (c_is_integer : Cal P w K mg base 1 "is_integer" ["thing"] (sp_is_integer P w CW CG)) : Cal P w K mg base 5 "arrow_of" ["thing", "pegs"] (sp_arrow_of P w CW CG) := by
  refine Cal.mk' D scarrow_of bdarrow_of (fun vs H Q E h => by obtain ⟨t, r, k, rfl, ht, ok, hk, q⟩ := h; rfl) fun f cdv A outer s H vs Q E hr h => ?_
  obtain ⟨t, r, k, rfl, ht, ok, hk, q⟩ := h
  refine ⟨_, (pss_cons (ps_if (PW.pt (pw_or (pt_not (pt_val (pe_callB call_isiT (by rfl) T.n_isinstance bt_isinstance (pa_cons (pv 0) (pa_cons (pe_tup (pa_cons (pe_ty (by rfl) T.n_list bt_list) (pa_cons (pe_ty (by rfl) T.n_tuple bt_tuple) pa_nil))) pa_nil))))) (pw_or1 (pt_cmpR op_ne (pe_callB (klen (K := K) rfl) (by rfl) T.n_len bt_len (pa_cons (pv 0) pa_nil)) pe_int (nomark _))))) (pss_one (ps_ret pe_non)) pss_nil)
  (pss_cons (ps_par (i := 2) (j := 3) rfl scarrow_of.nd rfl rfl (by decide) rfl rfl (pa_cons (pe_c c_mark_of hr (by rfl) (pa_cons (pe_slice (kslA (K := K) rfl) (pv 0) po_none (po_some pe_int)) (pa_cons (pv 1) pa_nil))) (pa_cons (pe_ix (kix_tup (K := K) rfl) (pv 0) pe_int (fun _ _ => rfl)) pa_nil)) (by rfl))
  (pss_cons (ps_if (PW.pt (pw_or (pt_cmpR op_isN (pv 2) pe_non (nomark _)) (pw_or (pt_not (pt_val (pe_c c_is_integer hr (by rfl) (pa_cons (pv 3) pa_nil)))) (pw_or1 (pt_not (pt_chain op_le op_le pe_int (pv 3) (pe_globI (by rfl) T.g_MOST_COST))))))) (pss_one (ps_ret pe_non)) pss_nil)
  (pss_one (ps_ret (pe_op (kcatA (K := K) rfl) (pv 2) (pe_tup (pa_cons (pv 3) pa_nil)))))))), ?_⟩
  obtain ⟨t', g, e, h1, hg⟩ := td_ar ht
  cases e
  refine ⟨_, rfl, line_ok (by simp), fun p hp => ?_⟩
  have e1 : Ex H (upd H p (.tup [.ty "list", .ty "tuple"])) := Ex.new hp
  refine ⟨.ref t, p, _, _, _, true, rfl, upd_same, clsLT, .base (.tup (e1 _ _ h1)), kitLT_tup, true, rfl, ?_⟩
  generalize upd H p (.tup [.ty "list", .ty "tuple"]) = H1 at e1
  refine ⟨_, rfl, t, _, rfl, .inr (.of (e1 _ _ h1)), rfl, _, rfl, ?_⟩
  refine ite2 (fun h => absurd h (by simp)) fun _ => ?_
  refine ⟨_, rfl, _, rfl, t, _, rfl, .of (e1 _ _ h1), fun h => absurd h (by simp [HT.sIx]), fun _ p2 hp2 => ?_⟩
  have e2 : Ex H (upd H1 p2 (.tup [.int r.a, .int r.b, .ref g])) := e1.trans (Ex.new hp2)
  refine ⟨_, rfl, p2, r, k, rfl, td_mk' upd_same (hg.mk e2), ok, hk, fun m H3 e3 hm => ?_⟩
  obtain ⟨m', g3, e4, hm1, hg3⟩ := td_mk hm
  cases e4
  refine ⟨_, rfl, t, _, 3, _, rfl, rfl, .of (e3 _ _ (e2 _ _ h1)), rfl, _, _, rfl, ?_⟩
  refine ⟨_, rfl, rfl, _, rfl, ?_⟩
  refine ite2 (fun h => absurd h (by simp)) fun _ => ?_
  refine ⟨_, rfl, _, rfl, true, rfl, ?_⟩
  refine ⟨_, rfl, 1, r.c, rfl, rfl, _, rfl, ?_⟩
  rw [decide_eq_true ok.hc.1]
  refine ⟨_, _, rfl, rfl, _, rfl, ?_⟩
  rw [decide_eq_true ok.hc.2]
  refine ⟨_, rfl, _, rfl, line_ok (by simp), fun c hc => ?_⟩
  have e5 : Ex H3 (upd H3 c (.tup [.int r.c])) := Ex.new hc
  refine ⟨m, c, _, _, rfl, rfl, .of (e5 _ _ hm1), .of upd_same, line_ok (by simp), fun h => by simp at h, fun _ h => by simp at h, fun _ _ z hz => ?_⟩
  have e6 := e5.trans (Ex.new (o := .tup ([.int r.a, .int r.b, .ref g3] ++ [.int r.c])) hz)
  exact q z _ ((e2.trans e3).trans e6) (td_ar' upd_same (hg3.mk e6))


theorem has_false {xs : List (Arr × Addr)} {r : Arr} (h : ∀ p ∈ xs, nk p.1 ≠ nk r) : hasMk xs r = false := by
  unfold hasMk
  rw [List.any_eq_false]
  intro p hp
  simpa using h p hp
abbrev scosts_of : Stmt := top 24
abbrev Ncosts_of : List Str := ["arrows", "pegs", "costs", "place", "thing", "arrow"]
theorem sccosts_of : FnScope Ncosts_of ["arrows", "pegs"] (defScope scosts_of) := ⟨rfl, rfl, rfl, by decide +kernel, rfl, by decide +kernel, by decide +kernel⟩
theorem bdcosts_of : BindsAll "costs_of" "costs_of" scosts_of ["arrows", "pegs"] := fun _ _ _ _ _ _ us hl => match us, hl with | [_, _], _ => rfl
/-- what costs_of promises -/
def sp_costs_of (P : Program) (w : World) (CW CG : Addr) : Sp := fun vs H Q _ => ∃ (l : Addr) (va : List V) (rs : List Arr) (k : Nat), vs = [.ref l, .int k] ∧ H l = some (.lst va) ∧ TdA H va (rs.map dAR) ∧ (∀ r ∈ rs, ArrOk k r) ∧ k ≤ 5 ∧ rs.Pairwise (fun p q => nk p ≠ nk q) ∧ rs.length ≤ 1000 ∧ ∀ (d : Addr) H' xs, Ex H H' → Nd P w H' d xs → xs.map (·.1) = rs → Q (.ref d) H'
theorem w_costs_of (T : Glb K mg CW CG) (D : Def K mg "costs_of" scosts_of) (c_arrow_of : Cal P w K mg base 5 "arrow_of" ["thing", "pegs"] (sp_arrow_of P w CW CG)) : Cal P w K mg base 6 "costs_of" ["arrows", "pegs"] (sp_costs_of P w CW CG) := by
  refine Cal.mk' D sccosts_of bdcosts_of (fun vs H Q E h => by obtain ⟨l, va, rs, k, rfl, hl, hva, ok, hk, hn, hlen, q⟩ := h; rfl) fun f cdv A outer s H vs Q E hr h => ?_
  obtain ⟨l, va, rs, k, rfl, hl, hva, ok, hk, hn, hlen, q⟩ := h
  refine ⟨_, (pss_cons (ps_if (pt_not (pt_val (pe_callB call_isiT (by rfl) T.n_isinstance bt_isinstance (pa_cons (pv 0) (pa_cons (pe_tup (pa_cons (pe_ty (by rfl) T.n_list bt_list) (pa_cons (pe_ty (by rfl) T.n_tuple bt_tuple) pa_nil))) pa_nil))))) (pss_one ps_never) pss_nil)
  (pss_cons (ps_set (i := 2) sccosts_of.nd rfl (Or.inl rfl) pe_dnewN)
  (pss_cons (ps_for PassesOwn.never rfl (pi_enumA (by rfl) T.n_enumerate (pa_cons (pv 0) pa_nil)) (kgTup (K := K) (n := 2) rfl rfl (pgs_cons (pg_name (i := 3) sccosts_of.nd rfl (Or.inl rfl)) (pgs_cons (pg_name (i := 4) sccosts_of.nd rfl (Or.inl rfl)) pgs_nil)))
  (pss_cons (ps_set (i := 5) sccosts_of.nd rfl (Or.inl rfl) (pe_c c_arrow_of hr (by rfl) (pa_cons (pv 4) (pa_cons (pv 1) pa_nil))))
  (pss_cons (ps_if (PW.pt (pw_or (pt_cmpR op_isN (pv 5) pe_non (nomark _)) (pw_or1 (pt_cmp (pc_dinN (hr.u 16) (pe_slice (kslA (K := K) rfl) (pv 5) po_none (po_some pe_int)) (pv 2)))))) (pss_one ps_never) pss_nil)
  (pss_one (ps_dputN (hr.u 16) (pv 2) (pe_slice (kslA (K := K) rfl) (pv 5) po_none (po_some pe_int)) (pe_ix (kix_tup (K := K) rfl) (pv 5) pe_int (fun _ _ => rfl)) rfl)))))
  (pss_one (ps_ret (pv 2)))))), ?_⟩
  refine ⟨_, rfl, line_ok (by simp), fun p hp => ?_⟩
  have e1 : Ex H (upd H p (.tup [.ty "list", .ty "tuple"])) := Ex.new hp
  refine ⟨.ref l, p, _, _, _, true, rfl, upd_same, clsLT, .base (.lst (e1 _ _ hl)), kitLT_lst, _, rfl, ?_⟩
  generalize upd H p (.tup [.ty "list", .ty "tuple"]) = H1 at e1
  intro d hd hsys
  refine ⟨_, rfl, l, va, rfl, .inl ⟨.of (Ex.new hd _ _ (e1 _ _ hl)), ?_⟩⟩
  have hd0 : H d = none := fresh_back e1 hd
  refine for_enumL (xs := va) (fun i σ H' => ∃ xs a b c, σ = [some (.ref l), some (.int k), some (.ref d), a, b, c] ∧ Ex H H' ∧ Nd P w H' d xs ∧ xs.map (·.1) = rs.take i) ⟨[], none, none, none, rfl, e1.trans (Ex.new hd), ⟨upd_same, hsys, fun p hp => by simp at hp⟩, rfl⟩ (fun i σ H' _ p => ?_) (fun i v T σ H' hv p hT => ?_) fun σ H' p => ?_
  · obtain ⟨xs, a, b, c, rfl, e, _⟩ := p
    exact .of (e _ _ hl)
  · obtain ⟨xs, a, b, c, rfl, e, hnd, hxs⟩ := p
    obtain ⟨dd, hdd, td⟩ := hva.get hv
    rw [List.getElem?_map, Option.map_eq_some_iff] at hdd
    obtain ⟨r, hrr, rfl⟩ := hdd
    obtain ⟨t, g, rfl, ht, hg⟩ := td_ar td
    have hmem : r ∈ rs := List.mem_of_getElem? hrr
    have htake : rs.take (i + 1) = rs.take i ++ [r] := take_next hrr
    have e2 : Ex H (upd H' T (.tup [.int i, .ref t])) := e.trans (Ex.new hT)
    refine ⟨T, _, rfl, .of upd_same, rfl, _, _, rfl, _, _, rfl, rfl, ?_⟩
    refine ⟨_, rfl, _, rfl, t, r, k, rfl, td.mk e2, ok r hmem, hk, fun m H3 e3 hm => ?_⟩
    have hnd3 : Nd P w H3 d xs := (hnd.mk (Ex.new hT)).mk e3
    obtain ⟨m', g3, e4, hm1, hg3⟩ := td_ar hm
    cases e4
    have hnew : hasMk xs r = false := has_false fun p hp => by
      have h1 : p.1 ∈ rs.take i := by rw [← hxs]; exact List.mem_map.mpr ⟨p, hp, rfl⟩
      have h2 : (rs.take i ++ [r]).Pairwise fun p q => nk p ≠ nk q := by
        rw [← htake]
        exact hn.sublist (List.take_sublist _ _)
      exact (List.pairwise_append.mp h2).2.2 p.1 h1 r (by simp)
    refine ⟨_, rfl, rfl, _, rfl, ?_⟩
    refine ite2 (fun h => absurd h (by simp)) fun _ => ?_
    refine ⟨_, rfl, _, rfl, m, _, rfl, .of hm1, fun h => absurd h (by simp [HT.sIx]), fun _ p2 hp2 => ?_⟩
    have e5 : Ex H3 (upd H3 p2 (.tup [.int r.a, .int r.b, .ref g3])) := Ex.new hp2
    refine ⟨_, rfl, d, xs, r, p2, rfl, rfl, hnd3.mk e5, td_mk' upd_same (hg3.mk e5), _, rfl, ?_⟩
    rw [hnew]
    refine ⟨_, rfl, m, _, 3, _, rfl, rfl, .of (e5 _ _ hm1), rfl, ?_⟩
    refine ⟨_, rfl, _, rfl, _, rfl, m, _, rfl, .of (e5 _ _ hm1), fun h => absurd h (by simp [HT.sIx]), fun _ p3 hp3 => ?_⟩
    have e6 : Ex H3 (upd (upd H3 p2 (.tup [.int r.a, .int r.b, .ref g3])) p3 (.tup [.int r.a, .int r.b, .ref g3])) := e5.trans (Ex.new hp3)
    have hlt : xs.length < 100000 := by
      have := congrArg List.length hxs
      rw [List.length_map, List.length_take] at this
      omega
    refine ⟨d, xs, r, p3, rfl, rfl, rfl, hnd3.mk e6, td_mk' upd_same (hg3.mk e6), hnew, hlt, ?_⟩
    have e7 := e6
    generalize hH : upd (upd H3 p2 (.tup [.int r.a, .int r.b, .ref g3])) p3 (.tup [.int r.a, .int r.b, .ref g3]) = H5 at e6
    have hnd5 : Nd P w H5 d xs := hnd3.mk e6
    have hp3' : H5 p3 = some (.tup [.int r.a, .int r.b, .ref g3]) := by rw [← hH]; exact upd_same
    subst hH
    refine ⟨xs ++ [(r, p3)], _, _, _, rfl, ((e2.trans e3).trans e6).mut hd0, ⟨upd_same, hsys, ?_⟩, ?_⟩
    · have tk := Tk.mut (o := NdO P w d (xs ++ [(r, p3)])) (Tk.refl _) (no_tup hnd5.1 fun xs q => by cases q)
      intro p hp
      rw [List.mem_append, List.mem_singleton] at hp
      rcases hp with hp | rfl
      · exact (hnd5.2.2 p hp).mono tk
      · exact (td_mk' hp3' (hg3.mk e6)).mono tk
    · rw [List.map_append, hxs, htake]
      rfl
  · obtain ⟨xs, a, b, c, rfl, e, hnd, hxs⟩ := p
    have hl2 : va.length = rs.length := by rw [hva.len, List.length_map]
    rw [hl2, List.take_length] at hxs
    exact ⟨_, rfl, q d H' xs e hnd hxs⟩


end
end K07
end K07_part_W1

section K07_part_W3
set_option Elab.async false
set_option linter.all false
set_option maxRecDepth 100000
set_option maxHeartbeats 4000000
namespace K07
open PySem PySem.Spec PyProof.Rows L2 Evl
section
variable {P : Program} {w : World} {K : PySem.W.Frag} {mg : Str → Option Value} {base : Heap} {CW CG : Addr}

/-- all but the thing at a is kept -/
def Ex1 (a : Addr) (H H' : Hp) : Prop := ∀ b o, b ≠ a → H b = some o → H' b = some o
theorem Ex1.set {a : Addr} {H H' : Hp} {o : HO} (e : Ex1 a H H') : Ex1 a H (upd H' a o) := fun b u h q => by rw [upd_ne h]; exact e b u h q
theorem Ex1.refl (a : Addr) (H : Hp) : Ex1 a H H := fun _ _ _ q => q
theorem Ex1.ex {a : Addr} {H H' H2 : Hp} (e : Ex1 a H H') (f : Ex H' H2) : Ex1 a H H2 := fun b u h q => f b u (e b u h q)
/-- the marks, sorted -/
def webF (w : List Arr) : List Arr := w.mergeSort fun a b => W.dataLe false id (dMK a) (dMK b)
theorem webF_perm (w : List Arr) : (webF w).Perm w := List.mergeSort_perm _ _
theorem mem_webF {w : List Arr} {r : Arr} : r ∈ webF w ↔ r ∈ w := (webF_perm w).mem_iff
theorem webF_len (w : List Arr) : (webF w).length = w.length := (webF_perm w).length_eq
theorem srt_marks (w : List Arr) : srtD (w.map dMK) = (webF w).map dMK := by
  unfold webF
  rw [List.map_mergeSort]
  intro a _ b _
  rfl
theorem srt_marksOk (w : List Arr) (h : w.length ≤ 1000) : Srt (w.map dMK) := by
  refine ⟨?_, .inl (W.Sortable.tuples fun b => ⟨_, _, rfl⟩), by rw [List.length_map]; omega, ?_⟩
  · intro d hd d' hd'
    obtain ⟨x, _, rfl⟩ := List.mem_map.mp hd
    obtain ⟨y, _, rfl⟩ := List.mem_map.mp hd'
    have := alike_ti x.g y.g
    simp [W.alike, W.alikeAll, dMK] at this ⊢
    exact this
  · intro d hd
    obtain ⟨x, _, rfl⟩ := List.mem_map.mp hd
    have := depth_ti x.g
    simp only [dMK, PyData.depth, PyData.depthAll] at this ⊢
    omega
theorem putF_costs (v x : V) : putF "_costs" x [(("pegs" : Str), v)] = [(("pegs" : Str), v), (("_costs" : Str), x)] := by
  unfold putF
  rw [if_neg (by decide)]
  rfl
theorem putF_arrows (v x y : V) : putF "arrows" y [(("pegs" : Str), v), (("_costs" : Str), x)] = [(("pegs" : Str), v), (("_costs" : Str), x), (("arrows" : Str), y)] := by
  unfold putF
  rw [if_neg (by decide)]
  unfold putF
  rw [if_neg (by decide)]
  rfl

abbrev sWeb_init : Stmt := inClass (top 23) 0
abbrev NWeb_init : List Str := ["self", "pegs", "arrows", "mark"]
theorem scWeb_init : FnScope NWeb_init ["self", "pegs", "arrows"] (defScope sWeb_init) := ⟨rfl, rfl, rfl, by decide +kernel, rfl, by decide +kernel, by decide +kernel⟩
theorem bdWeb_init : BindsAll "__init__" "Web.__init__" sWeb_init ["self", "pegs", "arrows"] := fun _ _ _ _ _ _ us hl => match us, hl with | [_, _, _], _ => rfl
/-- what Web.__init__ promises -/
def sp_Web_init (P : Program) (w : World) (CW CG : Addr) : Sp := fun vs H Q _ => ∃ (a dx l : Addr) (va : List V) (rs : List Arr) (k : Nat), vs = [.ref a, .int k, .ref l] ∧ H a = some (.ins CW dx []) ∧ H l = some (.lst va) ∧ TdA H va (rs.map dAR) ∧ (∀ r ∈ rs, ArrOk k r) ∧ 3 ≤ k ∧ k ≤ 5 ∧ rs.Pairwise (fun p q => nk p ≠ nk q) ∧ rs.length ≤ 1000 ∧ ∀ H', Ex1 a H H' → WebV CW k H' (.ref a) (webF rs) → Q .non H'
theorem w_Web_init (T : Glb K mg CW CG) {f : Addr} (D : DefM K "__init__" "Web.__init__" sWeb_init f) (c_check_pegs : Cal P w K mg base 2 "check_pegs" ["pegs"] (sp_check_pegs P w CW CG)) (c_costs_of : Cal P w K mg base 6 "costs_of" ["arrows", "pegs"] (sp_costs_of P w CW CG)) : ∃ fd, FnOk P w K mg base CX0 7 f fd ["self", "pegs", "arrows"] (sp_Web_init P w CW CG) ∧ Binds K fd ["self", "pegs", "arrows"] [] := by
  refine fn_m D scWeb_init bdWeb_init (fun vs H Q E h => by obtain ⟨a, dx, l, va, rs, k, rfl, ha, hl, hva, ok, hk3, hk, hn, hlen, q⟩ := h; rfl) fun cdv A outer s H vs Q E hr h => ?_
  obtain ⟨a, dx, l, va, rs, k, rfl, ha, hl, hva, ok, hk3, hk, hn, hlen, q⟩ := h
  refine ⟨_, (pss_cons (ps_fld (pv 0) (pe_c c_check_pegs hr (by rfl) (pa_cons (pv 1) pa_nil)) rfl)
  (pss_cons (ps_fld (pv 0) (pe_c c_costs_of hr (by rfl) (pa_cons (pv 2) (pa_cons (kfld (K := K) rfl (pv 0) rfl) pa_nil))) rfl)
  (pss_one (ps_fld (pv 0) (pe_callTy (ktuple_of (K := K) rfl) (by rfl) T.n_tuple bt_tuple (pa_cons (pe_lc (own := [("mark", 3)]) (g := gName 3) (tt := tYes) rfl scWeb_init.nd (ki_list (K := K) rfl (pe_callB (cr_sortN rfl (hr.u 32)) (by rfl) T.n_sorted bt_sorted (pa_cons (kfld (K := K) rfl (pv 0) rfl) pa_nil))) (blkOk_by (N := NWeb_init) (sc := defScope sWeb_init) (by decide +kernel)) (fun _ _ _ _ _ => (pg_name (i := 3) scWeb_init.nd rfl (Or.inl rfl))) (fun _ _ _ _ _ => pts_nil) (fun _ _ _ _ _ => (pe_op (kcatA (K := K) rfl) (pv 3) (pe_tup (pa_cons (kgetN (P := P) (w := w) rfl rfl (hr.u 16) (kfld (K := K) rfl (pv 0) rfl) (pv 3) (fun _ _ => rfl)) pa_nil))))) pa_nil)) rfl)))), ?_⟩
  have hla : l ≠ a := fun z => by rw [z, ha] at hl; cases hl
  refine ⟨_, rfl, k, rfl, by omega, by omega, _, rfl, a, CW, dx, _, rfl, ha, T.cW.cls, T.w_pegs, by simp, ?_⟩
  have x1 : Ex1 a H (upd H a (.ins CW dx [("pegs", .int k)])) := (Ex1.refl a H).set
  have tk1 : Tk H (upd H a (.ins CW dx [("pegs", .int k)])) := (Tk.refl H).mut (no_tup ha fun xs q => by cases q)
  refine ⟨_, rfl, _, rfl, a, CW, dx, [("pegs", .int k)], _, rfl, upd_same, T.cW.cls, T.w_pegs, rfl, ?_⟩
  refine ⟨l, va, rs, k, rfl, x1 _ _ hla hl, hva.mono tk1, ok, hk, hn, hlen, fun d H2 xs e2 hnd hxs => ?_⟩
  refine ⟨_, rfl, a, CW, dx, [("pegs", .int k)], rfl, e2 _ _ upd_same, T.cW.cls, T.w_costs, by simp, ?_⟩
  have hda : d ≠ a := fun z => by
    have := e2 _ _ (upd_same (H := H) (a := a) (o := .ins CW dx [("pegs", .int k)]))
    rw [← z, hnd.1] at this
    cases this
  rw [putF_costs]
  have x3 : Ex1 a H (upd H2 a (.ins CW dx [("pegs", .int k), ("_costs", .ref d)])) := (x1.ex e2).set
  have hnd3 : Nd P w (upd H2 a (.ins CW dx [("pegs", .int k), ("_costs", .ref d)])) d xs := hnd.mut ((Tk.refl H2).mut (no_tup (e2 _ _ upd_same) fun xs q => by cases q)) (upd_ne hda)
  have ha3 : upd H2 a (.ins CW dx [("pegs", .int k), ("_costs", .ref d)]) a = some (.ins CW dx [("pegs", .int k), ("_costs", .ref d)]) := upd_same
  generalize upd H2 a (.ins CW dx [("pegs", .int k), ("_costs", .ref d)]) = H3 at x3 hnd3 ha3
  have hxm : (xs.map fun p => dMK p.1) = rs.map dMK := by rw [← hxs, List.map_map]; rfl
  refine ⟨_, rfl, a, CW, dx, _, _, rfl, ha3, T.cW.cls, T.w_costs, rfl, d, xs, rfl, hnd3, by rw [hxm]; exact srt_marksOk rs hlen, fun p ys hp hys => ?_⟩
  rw [hxm, srt_marks] at hys
  have e4 : Ex H3 (upd H3 p (.lst ys)) := Ex.new hp
  refine ⟨p, rfl, ⟨ys, .of upd_same⟩, fun D hD => ?_⟩
  generalize hH4 : upd H3 p (.lst ys) = H4 at e4 hD
  have hp4 : H4 p = some (.lst ys) := by rw [← hH4]; exact upd_same
  refine lc_list (xs := ys) (fun i H' => Ex H4 H' ∧ ∃ zs, H' D = some (.lst zs) ∧ TdA H' zs (((webF rs).take i).map dAR)) ⟨Ex.new hD, [], upd_same, by simp [TdA.nil]⟩ (fun i H' _ p => .of (p.1 _ _ hp4)) (fun i v H' hv p => ?_) fun H5 p => ?_
  · obtain ⟨e, zs, hD2, tz⟩ := p
    obtain ⟨dd, hdd, td⟩ := hys.get hv
    rw [List.getElem?_map, Option.map_eq_some_iff] at hdd
    obtain ⟨r, hrr, rfl⟩ := hdd
    have td : Td H' v (dMK r) := (td.mk e4).mk e
    obtain ⟨m, g, rfl, hm, hg⟩ := td_mk td
    have hmem : r ∈ rs := mem_webF.mp (List.mem_of_getElem? hrr)
    rw [← hxs] at hmem
    obtain ⟨⟨r', qa⟩, hpx, er⟩ := List.mem_map.mp hmem
    dsimp only at er
    subst er
    have htake : (webF rs).take (i + 1) = (webF rs).take i ++ [r'] := take_next hrr
    refine ⟨rfl, ?_⟩
    refine ⟨_, rfl, _, rfl, a, CW, dx, _, .ref d, rfl, e _ _ (e4 _ _ ha3), T.cW.cls, T.w_costs, rfl, _, rfl, d, xs, (r', qa), m, r', rfl, rfl, (hnd3.mk e4).mk e, td, hpx, rfl, line_ok (by simp), fun c hc => ?_⟩
    have e5 : Ex H' (upd H' c (.tup [.int r'.c])) := Ex.new hc
    refine ⟨m, c, _, _, rfl, rfl, .of (e5 _ _ hm), .of upd_same, line_ok (by simp), fun h => by simp at h, fun _ h => by simp at h, fun _ _ z hz => ?_⟩
    have e6 := e5.trans (Ex.new (o := .tup ([.int r'.a, .int r'.b, .ref g] ++ [.int r'.c])) hz)
    have hzl : zs.length < sizeLine := small1000 (by rw [tz.len, List.length_map, List.length_take, webF_len]; omega)
    refine ⟨zs, e6 _ _ hD2, hzl, (e.trans e6).mut hD, _, upd_same, ?_⟩
    rw [htake, List.map_append]
    have tk := Tk.mut (Tk.refl _) (no_tupL (e6 _ _ hD2)) (o := .lst (zs ++ [V.ref z]))
    refine TdA.snoc ((tz.mk e6).mono tk) ((td_ar' upd_same (hg.mk e6)).mono tk)
  · obtain ⟨e, zs, hD2, tz⟩ := p
    have hl2 : ys.length = (webF rs).length := by rw [hys.len, List.length_map]
    rw [hl2, List.take_length] at tz
    refine ⟨D, zs, rfl, .inl ⟨.of hD2, fun t ht => ?_⟩⟩
    have e6 : Ex H5 (upd H5 t (.tup zs)) := Ex.new ht
    refine ⟨_, rfl, a, CW, dx, _, rfl, e6 _ _ (e _ _ (e4 _ _ ha3)), T.cW.cls, T.w_arrows, by simp, ?_⟩
    rw [putF_arrows]
    have hta : t ≠ a := fun z => by rw [z, e _ _ (e4 _ _ ha3)] at ht; cases ht
    refine q _ ((((x3.ex e4).ex e).ex e6).set) ⟨a, dx, d, t, rfl, upd_same, ?_⟩
    have tk := Tk.mut (Tk.refl _) (no_tup (e6 _ _ (e _ _ (e4 _ _ ha3))) fun xs q => by cases q) (o := .ins CW dx [("pegs", .int k), ("_costs", .ref d), ("arrows", .ref t)])
    exact (Td.tup upd_same (tz.mk e6)).mono tk


end
end K07
end K07_part_W3

section K07_part_W4
set_option Elab.async false
set_option linter.all false
set_option maxRecDepth 100000
set_option maxHeartbeats 4000000
namespace K07
open PySem PySem.Spec PyProof.Rows L2 Evl
section
variable {P : Program} {w : World} {K : PySem.W.Frag} {mg : Str → Option Value} {base : Heap} {CW CG : Addr}

/-! ### data, once more -/
theorem lay_all {α : Type} {f : α → PyData} (h : ∀ x, (f x).canLay0 = true) : ∀ l : List α, PyData.canLayAll0 (l.map f) = true
  | [] => by simp [PyData.canLayAll0]
  | x :: l => by simp [PyData.canLayAll0, h x, lay_all h l]
theorem dep_all {α : Type} {f : α → PyData} {n : Nat} (h : ∀ x, (f x).depth ≤ n) : ∀ l : List α, PyData.depthAll (l.map f) ≤ n
  | [] => by simp [PyData.depthAll]
  | x :: l => by
    have h1 := dep_all h l
    have h2 := h x
    simp only [List.map_cons, PyData.depthAll]
    omega
theorem lay_ti (g : List Int) : (dTI g).canLay0 = true := by
  show PyData.canLay0 (.tuple (g.map .int)) = true
  rw [PyData.canLay0]
  exact lay_all (f := PyData.int) (fun x => by simp [PyData.canLay0]) g
theorem lay_ar (r : Arr) : (dAR r).canLay0 = true := by
  have := lay_ti r.g
  simp [dAR, PyData.canLay0, PyData.canLayAll0] at this ⊢
  exact this
theorem lay_mk (r : Arr) : (dMK r).canLay0 = true := by
  have := lay_ti r.g
  simp [dMK, PyData.canLay0, PyData.canLayAll0] at this ⊢
  exact this
theorem dep_ar (r : Arr) : (dAR r).depth ≤ 2 := by
  have := depth_ti r.g
  simp only [dAR, PyData.depth, PyData.depthAll] at this ⊢
  omega
theorem dep_mk (r : Arr) : (dMK r).depth ≤ 2 := by
  have := depth_ti r.g
  simp only [dMK, PyData.depth, PyData.depthAll] at this ⊢
  omega
theorem shp_of {d : PyData} (h : d.canLay0 = true) (h2 : d.depth ≤ 64) : SeqAt.shaped d = true := by
  show (d.canLay0 && decide (d.depth ≤ 64)) = true
  rw [h, decide_eq_true h2]
  rfl
theorem lay_tupA {α : Type} {f : α → PyData} (h : ∀ x, (f x).canLay0 = true) (l : List α) : (PyData.tuple (l.map f)).canLay0 = true := by
  rw [PyData.canLay0]; exact lay_all h l
theorem lay_lstA {α : Type} {f : α → PyData} (h : ∀ x, (f x).canLay0 = true) (l : List α) : (PyData.list (l.map f)).canLay0 = true := by
  rw [PyData.canLay0]; exact lay_all h l
theorem dep_tupA {α : Type} {f : α → PyData} {n : Nat} (h : ∀ x, (f x).depth ≤ n) (l : List α) : (PyData.tuple (l.map f)).depth ≤ n + 1 := by
  have := dep_all h l
  rw [PyData.depth]; omega
theorem dep_lstA {α : Type} {f : α → PyData} {n : Nat} (h : ∀ x, (f x).depth ≤ n) (l : List α) : (PyData.list (l.map f)).depth ≤ n + 1 := by
  have := dep_all h l
  rw [PyData.depth]; omega
theorem shp_ti (g : List Int) : SeqAt.shaped (dTI g) = true := shp_of (lay_ti g) (by rw [depth_ti]; omega)
theorem shp_tis (l : List (List Int)) : SeqAt.shaped (.tuple (l.map dTI)) = true := shp_of (lay_tupA lay_ti l) (Nat.le_trans (dep_tupA (fun x => Nat.le_of_eq (depth_ti x)) l) (by omega))
theorem shp_tiL (l : List (List Int)) : SeqAt.shaped (.list (l.map dTI)) = true := shp_of (lay_lstA lay_ti l) (Nat.le_trans (dep_lstA (fun x => Nat.le_of_eq (depth_ti x)) l) (by omega))
theorem shp_ars (l : List Arr) : SeqAt.shaped (.tuple (l.map dAR)) = true := shp_of (lay_tupA lay_ar l) (Nat.le_trans (dep_tupA dep_ar l) (by omega))
theorem shp_mk (r : Arr) : SeqAt.shaped (dMK r) = true := shp_of (lay_mk r) (Nat.le_trans (dep_mk r) (by omega))
theorem shp_mkL (l : List Arr) : SeqAt.shaped (.list (l.map dMK)) = true := shp_of (lay_lstA lay_mk l) (Nat.le_trans (dep_lstA dep_mk l) (by omega))
theorem eqv_self {d : PyData} (h : SeqAt.shaped d = true) : PyData.eqv d d = true := by
  exact SeqAt.eqv_refl d (SeqAt.canLay_of_shaped h)
theorem eqvAll_ints : ∀ xs ys : List Int, PyData.eqvAll (xs.map .int) (ys.map .int) = decide (xs = ys)
  | [], [] => by simp [PyData.eqvAll]
  | [], y :: ys => by simp [PyData.eqvAll]
  | x :: xs, [] => by simp [PyData.eqvAll]
  | x :: xs, y :: ys => by
    show PyData.eqvAll (.int x :: xs.map .int) (.int y :: ys.map .int) = _
    rw [PyData.eqvAll, eqvAll_ints xs ys, PyData.eqv]
    by_cases h : x = y
    · subst h; simp
    · simp [h]
theorem eqv_ti (xs ys : List Int) : PyData.eqv (dTI xs) (dTI ys) = decide (xs = ys) := by
  show PyData.eqv (.tuple (xs.map .int)) (.tuple (ys.map .int)) = _
  rw [PyData.eqv, eqvAll_ints]
theorem eqv_mk (r s : Arr) : PyData.eqv (dMK r) (dMK s) = decide (nk r = nk s) := by
  have e := eqv_ti r.g s.g
  show PyData.eqv (.tuple [.int r.a, .int r.b, dTI r.g]) (.tuple [.int s.a, .int s.b, dTI s.g]) = _
  rw [PyData.eqv, PyData.eqvAll, PyData.eqvAll, PyData.eqvAll, PyData.eqvAll, e, PyData.eqv, PyData.eqv]
  by_cases h : nk r = nk s
  · obtain ⟨h1, h2, h3⟩ := nk_iff.mp h
    rw [decide_eq_true h, h1, h2, h3]
    simp
  · rw [decide_eq_false h]
    by_cases h1 : r.a = s.a
    · by_cases h2 : r.b = s.b
      · have h3 : r.g ≠ s.g := fun h3 => h (nk_iff.mpr ⟨h1, h2, h3⟩)
        simp [h3]
      · simp [h2]
    · simp [h1]
theorem eqvAll_tis : ∀ xs ys : List (List Int), PyData.eqvAll (xs.map dTI) (ys.map dTI) = decide (xs = ys)
  | [], [] => by simp [PyData.eqvAll]
  | [], y :: ys => by simp [PyData.eqvAll]
  | x :: xs, [] => by simp [PyData.eqvAll]
  | x :: xs, y :: ys => by
    show PyData.eqvAll (dTI x :: xs.map dTI) (dTI y :: ys.map dTI) = _
    rw [PyData.eqvAll, eqvAll_tis xs ys, eqv_ti]
    by_cases h : x = y
    · subst h; simp
    · simp [h]

/-! ### enumerate of a list or a tuple -/
def Lp (J : It) (g : TG) (tb : TS) (D : Ends) (σ : L2.St) (H : Hp) : Prop := ∃ W : Nat → Nat → L2.St → Hp → Prop, (∃ m, W 0 m σ H) ∧ ∀ i m σ H, W i m σ H →
      (J.stop i H ∧ D.nx σ H) ∨ (J.go i H ∧ ∃ N : L2.St → Hp → Prop, (∀ σ' H', N σ' H' → ∃ m', m' < m ∧ W (i + 1) m' σ' H') ∧ ∀ x H', J.yld i H x H' → g x σ H' fun σ2 H2 => tb { D with nx := N, ct := N, bk := D.nx } σ2 H2)
theorem for_enumA {a : Addr} {xs : List V} {g : TG} {tb : TS} {D : Ends} {σ : L2.St} {H : Hp} (hx : H a = some (.lst xs) ∨ H a = some (.tup xs)) (Pv : Nat → L2.St → Hp → Prop) (h0 : Pv 0 σ H) (hl : ∀ i σ H', Pv i σ H' → H' a = H a)
    (hs : ∀ (i : Nat) x T (σ : L2.St) (H : Hp), xs[i]? = some x → Pv i σ H → H T = none → g (.ref T) σ (upd H T (.tup [.int i, x])) fun σ2 H2 => tb { D with nx := Pv (i + 1), ct := Pv (i + 1), bk := D.nx } σ2 H2) (hd : ∀ σ H, Pv xs.length σ H → D.nx σ H) :
    (SqL K H a xs ∧ Lp (Ite K a) g tb D σ H) ∨ (SqT K H a xs ∧ Lp (IteT K a) g tb D σ H) := by
  rcases hx with hx | hx
  · exact .inl ⟨.of hx, for_enumL (xs := xs) Pv h0 (fun i σ H' _ p => .of (by rw [hl i σ H' p]; exact hx)) hs hd⟩
  · exact .inr ⟨.of hx, for_enumT (xs := xs) Pv h0 (fun i σ H' _ p => .of (by rw [hl i σ H' p]; exact hx)) hs hd⟩
theorem isLT {a : Addr} {xs : List V} {H : Hp} {p : Addr} (hx : H a = some (.lst xs) ∨ H a = some (.tup xs)) : ∃ t, TyX K H (.ref a) t ∧ PySem.W.kitAny K t [.type "list", .type "tuple"] = some true := by
  rcases hx with hx | hx
  · exact ⟨_, .base (.lst hx), kitLT_lst⟩
  · exact ⟨_, .base (.tup hx), kitLT_tup⟩
theorem sqLT {a : Addr} {xs : List V} {H : Hp} (hx : H a = some (.lst xs) ∨ H a = some (.tup xs)) : SqL K H a xs ∨ SqT K H a xs := hx.imp .of .of
theorem orEx {a : Addr} {xs : List V} {H H' : Hp} (e : Ex H H') (hx : H a = some (.lst xs) ∨ H a = some (.tup xs)) : H' a = some (.lst xs) ∨ H' a = some (.tup xs) := hx.imp (e _ _) (e _ _)

/-! ### own == -/
def EqW (CW : Addr) (a b : Addr) (H : Hp) : Prop := ∃ k w, WebV CW k H (.ref a) w ∧ WebV CW k H (.ref b) w
def EqGm (CW CG : Addr) (a b : Addr) (H : Hp) : Prop := ∃ k ws, GameV CW CG k H (.ref a) ws ∧ GameV CW CG k H (.ref b) ws
theorem WebV.not {CW CG : Addr} {k : Nat} {H : Hp} {a b dx : Addr} {w : List Arr} (h : WebV CW k H (.ref b) w) (ha : H a = some (.ins CG dx [])) : b ≠ a := by
  obtain ⟨b', dx', d, t, e, h1, _⟩ := h
  cases e
  intro z
  rw [z, ha] at h1
  cases h1
theorem WebV.mk1 {CW CG : Addr} {k : Nat} {H H' : Hp} {a dx : Addr} {v : V} {w : List Arr} (h : WebV CW k H v w) (ha : H a = some (.ins CG dx [])) (e : Ex1 a H H') : WebV CW k H' v w := by
  obtain ⟨b, dx', d, t, rfl, h1, h2⟩ := h
  refine ⟨b, dx', d, t, rfl, e _ _ (fun z => by rw [z, ha] at h1; cases h1) h1, h2.mono fun c xs q => e _ _ (fun z => by rw [z, ha] at q; cases q) q⟩
theorem WebsV.mk1 {CW CG : Addr} {k : Nat} {H H' : Hp} {a dx : Addr} (ha : H a = some (.ins CG dx [])) (e : Ex1 a H H') : ∀ {vs : List V} {ws : List (List Arr)}, WebsV CW k H vs ws → WebsV CW k H' vs ws
  | _, _, .nil => .nil
  | _, _, .cons h t => .cons (h.mk1 ha e) (WebsV.mk1 ha e t)
theorem putF_webs (v x : V) : putF "webs" x [(("pegs" : Str), v)] = [(("pegs" : Str), v), (("webs" : Str), x)] := by
  unfold putF
  rw [if_neg (by decide)]
  rfl
theorem putF_discs (v x y : V) : putF "discs" y [(("pegs" : Str), v), (("webs" : Str), x)] = [(("pegs" : Str), v), (("webs" : Str), x), (("discs" : Str), y)] := by
  unfold putF
  rw [if_neg (by decide)]
  unfold putF
  rw [if_neg (by decide)]
  rfl

abbrev sWeb_eq : Stmt := inClass (top 23) 16
abbrev NWeb_eq : List Str := ["self", "other"]
theorem scWeb_eq : FnScope NWeb_eq ["self", "other"] (defScope sWeb_eq) := ⟨rfl, rfl, rfl, by decide +kernel, rfl, by decide +kernel, by decide +kernel⟩
theorem bdWeb_eq : BindsAll "__eq__" "Web.__eq__" sWeb_eq ["self", "other"] := fun _ _ _ _ _ _ us hl => match us, hl with | [_, _], _ => rfl
/-- what Web.__eq__ promises -/
def sp_Web_eq (P : Program) (w : World) (CW CG : Addr) : Sp := fun vs H Q _ => ∃ a b, vs = [.ref a, .ref b] ∧ EqW CW a b H ∧ ∀ H', Ext H H' → Q (.bl true) H'
theorem w_Web_eq (T : Glb K mg CW CG) {f : Addr} (D : DefM K "__eq__" "Web.__eq__" sWeb_eq f) : ∃ fd, FnOk P w K mg base CX0 1 f fd ["self", "other"] (sp_Web_eq P w CW CG) ∧ Binds K fd ["self", "other"] [] := by
  refine fn_m D scWeb_eq bdWeb_eq (fun vs H Q E h => by obtain ⟨a, b, rfl, heq, q⟩ := h; rfl) fun cdv A outer s H vs Q E hr h => ?_
  obtain ⟨a, b, rfl, heq, q⟩ := h
  refine ⟨_, (pss_one (ps_ret (pe_and (pe_callB call_isi (by rfl) T.n_isinstance bt_isinstance (pa_cons (pv 1) (pa_cons (pe_glob (v := .ref CW) (by rfl) T.g_Web rfl) pa_nil))) (pe_and (pe_cmpR op_eq (kfld (K := K) rfl (pv 0) rfl) (kfld (K := K) rfl (pv 1) rfl) (nomark _)) (pe_one (pe_cmpR (keqD (K := K) rfl (hr.u 64)) (kfld (K := K) rfl (pv 0) rfl) (kfld (K := K) rfl (pv 1) rfl) (nomark _))))))), ?_⟩
  obtain ⟨k, w', ha, hb⟩ := heq
  obtain ⟨a', dx, d, t, e, h1, h2⟩ := ha
  cases e
  obtain ⟨b', dx', d', t', e, h3, h4⟩ := hb
  cases e
  refine ⟨_, rfl, .ref b, .ref CW, .ref CW, .ref CW, true, rfl, .own CW, T.cW.ty h3, kit_self CW, true, rfl, ?_⟩
  refine ⟨_, rfl, a, CW, dx, _, .int k, rfl, h1, T.cW.cls, T.w_pegs, rfl, _, rfl, b, CW, dx', _, .int k, rfl, h3, T.cW.cls, T.w_pegs, rfl, rfl, _, rfl, ?_⟩
  rw [decide_eq_true rfl]
  refine ⟨_, rfl, a, CW, dx, _, .ref t, rfl, h1, T.cW.cls, T.w_arrows, rfl, _, rfl, b, CW, dx', _, .ref t', rfl, h3, T.cW.cls, T.w_arrows, rfl, ?_⟩
  refine ⟨_, _, h2.dp, h4.dp, shp_ars w', shp_ars w', ?_⟩
  rw [eqv_self (shp_ars w')]
  exact q H Ext.rfl'


abbrev scheck_game : Stmt := top 34
abbrev Ncheck_game : List Str := ["game"]
theorem sccheck_game : FnScope Ncheck_game ["game"] (defScope scheck_game) := ⟨rfl, rfl, rfl, by decide +kernel, rfl, by decide +kernel, by decide +kernel⟩
theorem bdcheck_game : BindsAll "check_game" "check_game" scheck_game ["game"] := fun _ _ _ _ _ _ us hl => match us, hl with | [_], _ => rfl
/-- what check_game promises -/
def sp_check_game (P : Program) (w : World) (CW CG : Addr) : Sp := fun vs H Q _ => ∃ (v : V) (k : Nat) (ws : Webs), vs = [v] ∧ GameV CW CG k H v ws ∧ Q v H
theorem w_check_game (T : Glb K mg CW CG) (D : Def K mg "check_game" scheck_game) : Cal P w K mg base 1 "check_game" ["game"] (sp_check_game P w CW CG) := by
  refine Cal.mk' D sccheck_game bdcheck_game (fun vs H Q E h => by obtain ⟨v, k, ws, rfl, hg, q⟩ := h; rfl) fun f cdv A outer s H vs Q E hr h => ?_
  obtain ⟨v, k, ws, rfl, hg, q⟩ := h
  refine ⟨_, (pss_cons (ps_if (pt_not (pt_val (pe_callB call_isi (by rfl) T.n_isinstance bt_isinstance (pa_cons (pv 0) (pa_cons (pe_glob (v := .ref CG) (by rfl) T.g_Game rfl) pa_nil))))) (pss_one ps_never) pss_nil)
  (pss_one (ps_ret (pv 0)))), ?_⟩
  obtain ⟨a, dx, t, vw, rfl, h1, h2, h3⟩ := hg
  refine ⟨_, rfl, .ref a, .ref CG, .ref CG, .ref CG, true, rfl, .own CG, T.cG.ty h1, kit_self CG, true, rfl, ?_⟩
  exact ⟨_, rfl, q⟩


abbrev scheck_position : Stmt := top 35
abbrev Ncheck_position : List Str := ["game", "position", "disc", "peg"]
theorem sccheck_position : FnScope Ncheck_position ["game", "position"] (defScope scheck_position) := ⟨rfl, rfl, rfl, by decide +kernel, rfl, by decide +kernel, by decide +kernel⟩
theorem bdcheck_position : BindsAll "check_position" "check_position" scheck_position ["game", "position"] := fun _ _ _ _ _ _ us hl => match us, hl with | [_, _], _ => rfl
/-- what check_position promises -/
def sp_check_position (P : Program) (w : World) (CW CG : Addr) : Sp := fun vs H Q _ => ∃ (v : V) (l : Addr) (ps : List Int) (k : Nat) (ws : Webs), vs = [v, .ref l] ∧ GameV CW CG k H v ws ∧ (H l = some (.lst (ps.map .int)) ∨ H l = some (.tup (ps.map .int))) ∧ ps.length = ws.length ∧ (∀ x ∈ ps, 0 ≤ x ∧ x < (k : Int)) ∧ ∀ (r : Addr) H', Ex H H' → H' r = some (.tup (ps.map .int)) → Q (.ref r) H'
theorem w_check_position (T : Glb K mg CW CG) (D : Def K mg "check_position" scheck_position) (c_check_game : Cal P w K mg base 1 "check_game" ["game"] (sp_check_game P w CW CG)) (c_is_below : Cal P w K mg base 2 "is_below" ["thing", "limit"] (sp_is_below P w CW CG)) : Cal P w K mg base 3 "check_position" ["game", "position"] (sp_check_position P w CW CG) := by
  refine Cal.mk' D sccheck_position bdcheck_position (fun vs H Q E h => by obtain ⟨v, l, ps, k, ws, rfl, hg, hl, hlen, hps, q⟩ := h; rfl) fun f cdv A outer s H vs Q E hr h => ?_
  obtain ⟨v, l, ps, k, ws, rfl, hg, hl, hlen, hps, q⟩ := h
  refine ⟨_, (pss_cons (ps_expr (pe_c c_check_game hr (by rfl) (pa_cons (pv 0) pa_nil)))
  (pss_cons (ps_if (PW.pt (pw_or (pt_not (pt_val (pe_callB call_isiT (by rfl) T.n_isinstance bt_isinstance (pa_cons (pv 1) (pa_cons (pe_tup (pa_cons (pe_ty (by rfl) T.n_list bt_list) (pa_cons (pe_ty (by rfl) T.n_tuple bt_tuple) pa_nil))) pa_nil))))) (pw_or1 (pt_cmpR op_ne (pe_callB (klen (K := K) rfl) (by rfl) T.n_len bt_len (pa_cons (pv 1) pa_nil)) (kfld (K := K) rfl (pv 0) rfl) (nomark _))))) (pss_one ps_never) pss_nil)
  (pss_cons (ps_for PassesOwn.never rfl (pi_enumA (by rfl) T.n_enumerate (pa_cons (pv 1) pa_nil)) (kgTup (K := K) (n := 2) rfl rfl (pgs_cons (pg_name (i := 2) sccheck_position.nd rfl (Or.inl rfl)) (pgs_cons (pg_name (i := 3) sccheck_position.nd rfl (Or.inl rfl)) pgs_nil)))
  (pss_one (ps_if (pt_not (pt_val (pe_c c_is_below hr (by rfl) (pa_cons (pv 3) (pa_cons (kfld (K := K) rfl (pv 0) rfl) pa_nil))))) (pss_one ps_never) pss_nil)))
  (pss_one (ps_ret (pe_callTy (ktuple_of (K := K) rfl) (by rfl) T.n_tuple bt_tuple (pa_cons (pv 1) pa_nil))))))), ?_⟩
  refine ⟨_, rfl, v, k, ws, rfl, hg, ?_⟩
  have hg0 := hg
  obtain ⟨a, dx, t, vw, rfl, h1, h2, h3⟩ := hg
  refine ⟨_, rfl, line_ok (by simp), fun p hp => ?_⟩
  have e1 : Ex H (upd H p (.tup [.ty "list", .ty "tuple"])) := Ex.new hp
  obtain ⟨ty, hty, hkit⟩ := isLT (K := K) (p := p) (orEx e1 hl)
  refine ⟨.ref l, p, _, ty, _, true, rfl, upd_same, clsLT, hty, hkit, true, rfl, ?_⟩
  generalize upd H p (.tup [.ty "list", .ty "tuple"]) = H1 at e1
  have hl1 := orEx e1 hl
  refine ⟨_, rfl, l, _, rfl, sqLT hl1, _, rfl, a, CG, dx, _, .int (ws.length : Nat), rfl, e1 _ _ h1, T.cG.cls, T.g_discs, rfl, rfl, _, rfl, ?_⟩
  refine ite2 (fun h => absurd h (by simp [hlen])) fun _ => ?_
  refine ⟨_, rfl, l, ps.map V.int, rfl, ?_⟩
  refine for_enumA (K := K) hl1 (fun i σ H' => Ex H1 H' ∧ ∃ x y, σ = [some (.ref a), some (.ref l), x, y]) ⟨Ex.refl _, none, none, rfl⟩ (fun i σ H' p => ?_) (fun i v T' σ H' hv p hT => ?_) fun σ H' p => ?_
  · rcases hl1 with h | h
    · rw [p.1 _ _ h, h]
    · rw [p.1 _ _ h, h]
  · obtain ⟨e, x, y, rfl⟩ := p
    rw [List.getElem?_map, Option.map_eq_some_iff] at hv
    obtain ⟨z, hz, rfl⟩ := hv
    have e2 : Ex H1 (upd H' T' (.tup [.int i, .int z])) := e.trans (Ex.new hT)
    refine ⟨T', _, rfl, .of upd_same, rfl, _, _, rfl, _, _, rfl, rfl, ?_⟩
    refine ⟨_, rfl, _, rfl, a, CG, dx, _, .int k, rfl, e2 _ _ (e1 _ _ h1), T.cG.cls, T.g_pegs, rfl, z, k, rfl, _, rfl, ?_⟩
    rw [below_ok (hps z (List.mem_of_getElem? hz))]
    exact ⟨e2, _, _, rfl⟩
  · obtain ⟨e, x, y, rfl⟩ := p
    rcases orEx e hl1 with h | h
    · exact ⟨_, rfl, l, _, rfl, .inl ⟨.of h, fun r hr' => q r _ ((e1.trans e).trans (Ex.new hr')) upd_same⟩⟩
    · exact ⟨_, rfl, l, _, rfl, .inr ⟨.of h, q l H' (e1.trans e) h⟩⟩


abbrev sGame_init : Stmt := inClass (top 33) 0
abbrev NGame_init : List Str := ["self", "pegs", "webs", "disc", "web"]
theorem scGame_init : FnScope NGame_init ["self", "pegs", "webs"] (defScope sGame_init) := ⟨rfl, rfl, rfl, by decide +kernel, rfl, by decide +kernel, by decide +kernel⟩
theorem bdGame_init : BindsAll "__init__" "Game.__init__" sGame_init ["self", "pegs", "webs"] := fun _ _ _ _ _ _ us hl => match us, hl with | [_, _, _], _ => rfl
/-- what Game.__init__ promises -/
def sp_Game_init (P : Program) (w : World) (CW CG : Addr) : Sp := fun vs H Q _ => ∃ (a dx l : Addr) (vw : List V) (ws : Webs) (k : Nat), vs = [.ref a, .int k, .ref l] ∧ H a = some (.ins CG dx []) ∧ (H l = some (.lst vw) ∨ H l = some (.tup vw)) ∧ WebsV CW k H vw ws ∧ 3 ≤ k ∧ k ≤ 5 ∧ ws.length ≤ 40 ∧ ∀ H', Ex1 a H H' → GameV CW CG k H' (.ref a) ws → Q .non H'
theorem w_Game_init (T : Glb K mg CW CG) {f : Addr} (D : DefM K "__init__" "Game.__init__" sGame_init f) (c_check_pegs : Cal P w K mg base 2 "check_pegs" ["pegs"] (sp_check_pegs P w CW CG)) : ∃ fd, FnOk P w K mg base CX0 3 f fd ["self", "pegs", "webs"] (sp_Game_init P w CW CG) ∧ Binds K fd ["self", "pegs", "webs"] [] := by
  refine fn_m D scGame_init bdGame_init (fun vs H Q E h => by obtain ⟨a, dx, l, vw, ws, k, rfl, ha, hl, hw, hk3, hk, hlen, q⟩ := h; rfl) fun cdv A outer s H vs Q E hr h => ?_
  obtain ⟨a, dx, l, vw, ws, k, rfl, ha, hl, hw, hk3, hk, hlen, q⟩ := h
  refine ⟨_, (pss_cons (ps_fld (pv 0) (pe_c c_check_pegs hr (by rfl) (pa_cons (pv 1) pa_nil)) rfl)
  (pss_cons (ps_if (PW.pt (pw_or (pt_not (pt_val (pe_callB call_isiT (by rfl) T.n_isinstance bt_isinstance (pa_cons (pv 2) (pa_cons (pe_tup (pa_cons (pe_ty (by rfl) T.n_list bt_list) (pa_cons (pe_ty (by rfl) T.n_tuple bt_tuple) pa_nil))) pa_nil))))) (pw_or1 (pt_cmpR op_gt (pe_callB (klen (K := K) rfl) (by rfl) T.n_len bt_len (pa_cons (pv 2) pa_nil)) (pe_globI (by rfl) T.g_MOST_DISCS) (nomark _))))) (pss_one ps_never) pss_nil)
  (pss_cons (ps_for PassesOwn.never rfl (pi_enumA (by rfl) T.n_enumerate (pa_cons (pv 2) pa_nil)) (kgTup (K := K) (n := 2) rfl rfl (pgs_cons (pg_name (i := 3) scGame_init.nd rfl (Or.inl rfl)) (pgs_cons (pg_name (i := 4) scGame_init.nd rfl (Or.inl rfl)) pgs_nil)))
  (pss_one (ps_if (PW.pt (pw_or (pt_not (pt_val (pe_callB call_isi (by rfl) T.n_isinstance bt_isinstance (pa_cons (pv 4) (pa_cons (pe_glob (v := .ref CW) (by rfl) T.g_Web rfl) pa_nil))))) (pw_or1 (pt_cmpR op_ne (kfld (K := K) rfl (pv 4) rfl) (kfld (K := K) rfl (pv 0) rfl) (nomark _))))) (pss_one ps_never) pss_nil)))
  (pss_cons (ps_fld (pv 0) (pe_callTy (ktuple_of (K := K) rfl) (by rfl) T.n_tuple bt_tuple (pa_cons (pv 2) pa_nil)) rfl)
  (pss_one (ps_fld (pv 0) (pe_callB (klen (K := K) rfl) (by rfl) T.n_len bt_len (pa_cons (kfld (K := K) rfl (pv 0) rfl) pa_nil)) rfl)))))), ?_⟩
  have hla : l ≠ a := fun z => by rw [z, ha] at hl; rcases hl with h | h <;> cases h
  refine ⟨_, rfl, k, rfl, by omega, by omega, _, rfl, a, CG, dx, _, rfl, ha, T.cG.cls, T.g_pegs, by simp, ?_⟩
  have x1 : Ex1 a H (upd H a (.ins CG dx [("pegs", .int k)])) := (Ex1.refl a H).set
  have ha1 : upd H a (.ins CG dx [("pegs", .int k)]) a = some (.ins CG dx [("pegs", .int k)]) := upd_same
  have hl1 : (upd H a (.ins CG dx [("pegs", .int k)]) l = some (.lst vw) ∨ upd H a (.ins CG dx [("pegs", .int k)]) l = some (.tup vw)) := hl.imp (x1 _ _ hla) (x1 _ _ hla)
  show tSeq _ _ _ _ (upd H a (.ins CG dx [("pegs", .int k)]))
  generalize upd H a (.ins CG dx [("pegs", .int k)]) = H1 at x1 ha1 hl1
  refine ⟨_, rfl, line_ok (by simp), fun p hp => ?_⟩
  have e1 : Ex H1 (upd H1 p (.tup [.ty "list", .ty "tuple"])) := Ex.new hp
  obtain ⟨ty, hty, hkit⟩ := isLT (K := K) (p := p) (orEx e1 hl1)
  refine ⟨.ref l, p, _, ty, _, true, rfl, upd_same, clsLT, hty, hkit, true, rfl, ?_⟩
  have x2 := x1.ex e1
  have ha2 := e1 _ _ ha1
  have hl2 := orEx e1 hl1
  generalize upd H1 p (.tup [.ty "list", .ty "tuple"]) = H2 at x2 ha2 hl2
  have hvl : vw.length = ws.length := Paired.length hw
  refine ⟨_, rfl, l, _, rfl, sqLT hl2, _, _, rfl, rfl, _, rfl, ?_⟩
  rw [decide_eq_false (by omega)]
  refine ⟨_, rfl, l, vw, rfl, ?_⟩
  refine for_enumA (K := K) hl2 (fun i σ H' => Ex H2 H' ∧ ∃ x y, σ = [some (.ref a), some (.int k), some (.ref l), x, y]) ⟨Ex.refl _, none, none, rfl⟩ (fun i σ H' p => ?_) (fun i v T' σ H' hv p hT => ?_) fun σ H' p => ?_
  · rcases hl2 with h | h
    · rw [p.1 _ _ h, h]
    · rw [p.1 _ _ h, h]
  · obtain ⟨e, x, y, rfl⟩ := p
    obtain ⟨wd, hwd, hv2⟩ := paired_get hw hv
    have e2 : Ex H2 (upd H' T' (.tup [.int i, v])) := e.trans (Ex.new hT)
    obtain ⟨b, dx', d, t, rfl, h1, h2⟩ := hv2.mk1 ha (x2.ex e2)
    refine ⟨T', _, rfl, .of upd_same, rfl, _, _, rfl, _, _, rfl, rfl, ?_⟩
    refine ⟨_, rfl, .ref b, .ref CW, .ref CW, .ref CW, true, rfl, .own CW, T.cW.ty h1, kit_self CW, true, rfl, ?_⟩
    refine ⟨_, rfl, b, CW, dx', _, .int k, rfl, h1, T.cW.cls, T.w_pegs, rfl, _, rfl, a, CG, dx, _, .int k, rfl, e2 _ _ ha2, T.cG.cls, T.g_pegs, rfl, rfl, _, rfl, ?_⟩
    refine ite2 (fun h => absurd h (by simp)) fun _ => ?_
    exact ⟨e2, _, _, rfl⟩
  · obtain ⟨e, x, y, rfl⟩ := p
    have fin : ∀ (t : Addr) H3, Ex H2 H3 → H3 t = some (.tup vw) → (∀ H4, Ex1 a H H4 → GameV CW CG k H4 (.ref a) ws → Q .non H4) → tSeq (sFld K (tVar 0) (tC (.ref t)) "webs") (sFld K (tVar 0) (tCB (fun xs H Q => ∃ p ys, xs = [.ref p] ∧ (SqL K H p ys ∨ SqT K H p ys) ∧ Q (.int ys.length) H) (tCons (tFld K (tVar 0) "webs") tNil)) "discs") { nx := fun _ H' => Q .non H', rt := Q } [some (.ref a), some (.int k), some (.ref l), x, y] H3 := by
      intro t H3 e3 ht q
      refine ⟨_, rfl, a, CG, dx, _, rfl, e3 _ _ ha2, T.cG.cls, T.g_webs, by simp, ?_⟩
      rw [putF_webs]
      have hta : t ≠ a := fun z => by rw [z, e3 _ _ ha2] at ht; cases ht
      refine ⟨_, rfl, a, CG, dx, _, .ref t, rfl, upd_same, T.cG.cls, T.g_webs, rfl, t, vw, rfl, .inr (.of (by rw [upd_ne hta]; exact ht)), _, rfl, a, CG, dx, _, rfl, upd_same, T.cG.cls, T.g_discs, by simp, ?_⟩
      rw [putF_discs, upd_upd, hvl]
      have x4 := ((x2.ex e3).set (o := .ins CG dx [("pegs", .int k), ("webs", .ref t), ("discs", .int (ws.length : Nat))]))
      exact q _ x4 ⟨a, dx, t, vw, rfl, upd_same, by rw [upd_ne hta]; exact ht, WebsV.mk1 ha x4 hw⟩
    rcases orEx e hl2 with h | h
    · exact ⟨_, rfl, l, _, rfl, .inl ⟨.of h, fun r hr' => fin r _ (e.trans (Ex.new hr')) upd_same q⟩⟩
    · exact ⟨_, rfl, l, _, rfl, .inr ⟨.of h, fin l H' e h q⟩⟩


end
end K07
end K07_part_W4

section K07_part_W5
set_option Elab.async false
set_option linter.all false
set_option maxRecDepth 100000
set_option maxHeartbeats 4000000
namespace K07
open PySem PySem.Spec PyProof.Rows L2 Evl
section
variable {P : Program} {w : World} {K : PySem.W.Frag} {mg : Str → Option Value} {base : Heap} {CW CG : Addr}

theorem cutV_take (xs : List V) (m : Nat) (h : m ≤ xs.length) : cutV xs none (some (m : Int)) = xs.take m := by
  unfold cutV
  rw [HT.sIx_none, HT.sIx_nat, List.drop_zero, Nat.sub_zero, Nat.min_eq_left h]
theorem cut_whole (n m : Nat) (h : m ≤ n) : (HT.sIx n 0 none = 0 ∧ HT.sIx n n (some (m : Int)) = n) ↔ m = n := by
  rw [HT.sIx_none, HT.sIx_nat, Nat.min_eq_left h]
  exact ⟨fun q => q.2, fun q => ⟨rfl, q⟩⟩
/-- a[:m] of a tuple -/
theorem slice_to {H : Hp} {a : Addr} {xs : List V} {m : Nat} {Q : VK} (ha : H a = some (.tup xs)) (hm : m ≤ xs.length) (q : ∀ r H', Ex H H' → H' r = some (.tup (xs.take m)) → Q (.ref r) H') : rSlA K (.ref a) none (some (m : Int)) H Q := by
  refine ⟨a, xs, rfl, .of ha, fun h => ?_, fun _ p hp => ?_⟩
  · have e := (cut_whole _ _ hm).mp h
    refine q a H (Ex.refl H) ?_
    rw [e, List.take_length]
    exact ha
  · rw [cutV_take xs m hm]
    exact q p _ (Ex.new hp) upd_same
theorem slice_toL {H : Hp} {a : Addr} {xs : List V} {m : Nat} {Q : VK} (ha : H a = some (.lst xs)) (hm : m ≤ xs.length) (q : ∀ r H', H r = none → Ex H H' → H' r = some (.lst (xs.take m)) → Q (.ref r) H') : rSlL K (.ref a) none (some (m : Int)) H Q := by
  refine ⟨a, xs, rfl, .of ha, fun p hp => ?_⟩
  rw [cutV_take xs m hm]
  exact q p _ hp (Ex.new hp) upd_same
theorem make_ex {H H' : Hp} {x dx C : Addr} (hx : H x = none) (hd : H dx = none) (e : Ex1 x (upd (upd H dx (.own x)) x (.ins C dx [])) H') : Ex H H' := fun b o h => by
  have hb : b ≠ x := fun z => by rw [z, hx] at h; cases h
  have hb2 : b ≠ dx := fun z => by rw [z, hd] at h; cases h
  exact e b o hb (by rw [upd_ne hb, upd_ne hb2]; exact h)
theorem make_new {H : Hp} {x dx C : Addr} (hx : H x = none) (hd : H dx = none) : Ex H (upd (upd H dx (.own x)) x (.ins C dx [])) := make_ex hx hd (Ex1.refl _ _)
theorem WebsV.take {k : Nat} {H : Hp} : ∀ {vs : List V} {ws : List (List Arr)} (m : Nat), WebsV CW k H vs ws → WebsV CW k H (vs.take m) (ws.take m)
  | _, _, 0, _ => .nil
  | _, _, _ + 1, .nil => .nil
  | _, _, m + 1, .cons h t => .cons h (WebsV.take m t)
/-- a loop over a tuple, by its step -/
theorem lp_tup {a : Addr} {xs : List V} {H1 : Hp} {Step : V → Hp → (Hp → Prop) → Prop} {Qd : Hp → Prop} (Pv : Nat → Hp → Prop) (h0 : Pv 0 H1) (hl : ∀ i H, i ≤ xs.length → Pv i H → SqT K H a xs)
    (hs : ∀ i x H, xs[i]? = some x → Pv i H → Step x H (Pv (i + 1))) (hd : ∀ H, Pv xs.length H → Qd H) :
    ∃ W : Nat → Nat → Hp → Prop, (∃ m, W 0 m H1) ∧ ∀ i m H, W i m H → ((Itt K a).stop i H ∧ Qd H) ∨ ((Itt K a).go i H ∧ ∃ Nx : Hp → Prop, (∀ H', Nx H' → ∃ m', m' < m ∧ W (i + 1) m' H') ∧ ∀ x H', (Itt K a).yld i H x H' → Step x H' Nx) := by
  refine ⟨fun i m H => m = xs.length - i ∧ i ≤ xs.length ∧ Pv i H, ⟨xs.length, by simp, Nat.zero_le _, h0⟩, ?_⟩
  rintro i m H ⟨rfl, hi, p⟩
  have q := hl i H hi p
  by_cases hlt : i < xs.length
  · refine .inr ⟨⟨xs, xs[i], q, by simp [hlt]⟩, Pv (i + 1), fun H' p' => ⟨xs.length - (i + 1), by omega, rfl, hlt, p'⟩, fun x H' y => ?_⟩
    obtain ⟨e, y⟩ := y
    subst e
    exact hs i x _ (y xs q) p
  · have e : i = xs.length := by omega
    subst e
    exact .inl ⟨⟨xs, q, Nat.le_refl _⟩, hd H p⟩
/-- all the sublists -/
def subsL : List Int → List (List Int)
  | [] => [[]]
  | x :: l => subsL l ++ (subsL l).map fun s => x :: s
theorem subsL_len : ∀ l, (subsL l).length = 2 ^ l.length
  | [] => rfl
  | x :: l => by rw [subsL, List.length_append, List.length_map, subsL_len l, List.length_cons, Nat.pow_succ]; omega
theorem subsL_filter (p : Int → Bool) : ∀ l, l.filter p ∈ subsL l
  | [] => by simp [subsL]
  | x :: l => by
    have ih := subsL_filter p l
    rw [subsL, List.mem_append]
    cases h : p x with
    | true => rw [List.filter_cons_of_pos h]; exact .inr (List.mem_map.mpr ⟨_, ih, rfl⟩)
    | false => rw [List.filter_cons_of_neg (by simp [h])]; exact .inl ih
theorem asc_subs {k : Nat} {g : List Int} (h : g.Pairwise (· < ·)) (hk : ∀ x ∈ g, 0 ≤ x ∧ x < (k : Int)) : g ∈ subsL (pegs k) := by
  have e : (pegs k).filter (fun x => decide (x ∈ g)) = g := by
    refine asc_unique ((pegs_sorted k).filter _) h fun z => ?_
    rw [List.mem_filter, decide_eq_true_eq, mem_pegs]
    exact ⟨fun q => q.2, fun q => ⟨hk z q, q⟩⟩
  rw [← e]
  exact subsL_filter _ _
theorem few_guards {k : Nat} (hk : k ≤ 5) {gs : List (List Int)} (hn : gs.Nodup) (h : ∀ g ∈ gs, g.Pairwise (· < ·) ∧ ∀ x ∈ g, 0 ≤ x ∧ x < (k : Int)) : gs.length ≤ 32 := by
  have := nodup_sub_len hn fun g hg => asc_subs (h g hg).1 (h g hg).2
  rw [subsL_len, pegs_len] at this
  exact Nat.le_trans this (Nat.pow_le_pow_right (by omega) hk : 2 ^ k ≤ 2 ^ 5)
theorem CalE.opTup {X : Cx} {k n : Nat} {C : Addr} {ps : List Str} {R : Addr → Addr → Hp → Prop} (c : CalE X.prog X.w X.K X.mg X.base k C ps (spEq R)) (hR : ∀ a b H H', Ext H H' → R a b H → R a b H') (hr : Room n X.A) (hk : k + 1 ≤ n := by decide) :
    OpR X (compareOp .Eq) (rEqG (DTup X.K (DIns C R))) := by
  obtain ⟨f, fd, F, h1, h2, b⟩ := c.ex
  exact op_eqG (rcG_tup (mon_ins hR) (eqG_ins F h1 h2 b pass0)) (hr.mono hk)
theorem CalE.op {X : Cx} {k n : Nat} {C : Addr} {ps : List Str} {R : Addr → Addr → Hp → Prop} (c : CalE X.prog X.w X.K X.mg X.base k C ps (spEq R)) (hr : Room n X.A) (hk : k ≤ n := by decide) : OpR X (compareOp .Eq) (rEqG (DIns C R)) := by
  obtain ⟨f, fd, F, h1, h2, b⟩ := c.ex
  exact op_eqG (rcG_ins F h1 h2 b pass0) (hr.mono hk)
theorem eqW_mono {CW : Addr} (a b : Addr) (H H' : Hp) (e : Ext H H') (h : EqW CW a b H) : EqW CW a b H' := by
  obtain ⟨k, w, h1, h2⟩ := h
  exact ⟨k, w, WebV.mk h1 e, WebV.mk h2 e⟩

abbrev sGame_eq : Stmt := inClass (top 33) 15
abbrev NGame_eq : List Str := ["self", "other"]
theorem scGame_eq : FnScope NGame_eq ["self", "other"] (defScope sGame_eq) := ⟨rfl, rfl, rfl, by decide +kernel, rfl, by decide +kernel, by decide +kernel⟩
theorem bdGame_eq : BindsAll "__eq__" "Game.__eq__" sGame_eq ["self", "other"] := fun _ _ _ _ _ _ us hl => match us, hl with | [_, _], _ => rfl
/-- what Game.__eq__ promises -/
def sp_Game_eq (P : Program) (w : World) (CW CG : Addr) : Sp := fun vs H Q _ => ∃ a b, vs = [.ref a, .ref b] ∧ EqGm CW CG a b H ∧ ∀ H', Ext H H' → Q (.bl true) H'
theorem w_Game_eq (T : Glb K mg CW CG) {f : Addr} (D : DefM K "__eq__" "Game.__eq__" sGame_eq f) (c_Web_eq : CalE P w K mg base 1 CW ["self", "other"] (sp_Web_eq P w CW CG)) : ∃ fd, FnOk P w K mg base CX0 3 f fd ["self", "other"] (sp_Game_eq P w CW CG) ∧ Binds K fd ["self", "other"] [] := by
  refine fn_m D scGame_eq bdGame_eq (fun vs H Q E h => by obtain ⟨a, b, rfl, heq, q⟩ := h; rfl) fun cdv A outer s H vs Q E hr h => ?_
  obtain ⟨a, b, rfl, heq, q⟩ := h
  refine ⟨_, (pss_one (ps_ret (pe_and (pe_callB call_isi (by rfl) T.n_isinstance bt_isinstance (pa_cons (pv 1) (pa_cons (pe_glob (v := .ref CG) (by rfl) T.g_Game rfl) pa_nil))) (pe_and (pe_cmpR op_eq (kfld (K := K) rfl (pv 0) rfl) (kfld (K := K) rfl (pv 1) rfl) (nomark _)) (pe_one (pe_cmpR (CalE.opTup (R := EqW CW) c_Web_eq eqW_mono hr) (kfld (K := K) rfl (pv 0) rfl) (kfld (K := K) rfl (pv 1) rfl) (nomark _))))))), ?_⟩
  obtain ⟨k, ws, ha, hb⟩ := heq
  obtain ⟨a', dx, t, va, e, h1, h2, h3⟩ := ha
  cases e
  obtain ⟨b', dx', t', vb, e, h4, h5, h6⟩ := hb
  cases e
  refine ⟨_, rfl, .ref b, .ref CG, .ref CG, .ref CG, true, rfl, .own CG, T.cG.ty h4, kit_self CG, true, rfl, ?_⟩
  refine ⟨_, rfl, a, CG, dx, _, .int k, rfl, h1, T.cG.cls, T.g_pegs, rfl, _, rfl, b, CG, dx', _, .int k, rfl, h4, T.cG.cls, T.g_pegs, rfl, rfl, _, rfl, ?_⟩
  rw [decide_eq_true rfl]
  refine ⟨_, rfl, a, CG, dx, _, .ref t, rfl, h1, T.cG.cls, T.g_webs, rfl, _, rfl, b, CG, dx', _, .ref t', rfl, h4, T.cG.cls, T.g_webs, rfl, ?_⟩
  refine ⟨⟨t, t', va, vb, rfl, rfl, .of h2, .of h5, by rw [Paired.length h3, Paired.length h6], fun i x y hx hy => ?_⟩, q⟩
  obtain ⟨wa, hwa, w1⟩ := paired_get h3 hx
  obtain ⟨wb, hwb, w2⟩ := paired_get h6 hy
  rw [hwa] at hwb
  cases hwb
  have w1' := w1
  have w2' := w2
  obtain ⟨c, dc, d1, t1, rfl, i1, i2⟩ := w1
  obtain ⟨c', dc', d1', t1', rfl, i3, i4⟩ := w2
  exact ⟨c, c', dc, dc', _, _, rfl, rfl, i1, i3, k, wa, w1', w2'⟩


abbrev sGame_lower : Stmt := inClass (top 33) 8
abbrev NGame_lower : List Str := ["self", "many"]
theorem scGame_lower : FnScope NGame_lower ["self", "many"] (defScope sGame_lower) := ⟨rfl, rfl, rfl, by decide +kernel, rfl, by decide +kernel, by decide +kernel⟩
theorem bdGame_lower : BindsAll "lower" "Game.lower" sGame_lower ["self", "many"] := fun _ _ _ _ _ _ us hl => match us, hl with | [_, _], _ => rfl
/-- what Game.lower promises -/
def sp_Game_lower (P : Program) (w : World) (CW CG : Addr) : Sp := fun vs H Q _ => ∃ (v : V) (k : Nat) (ws : Webs) (m : Nat), vs = [v, .int m] ∧ GameV CW CG k H v ws ∧ 3 ≤ k ∧ k ≤ 5 ∧ ws.length ≤ 40 ∧ m ≤ ws.length ∧ ∀ r H', Ex H H' → GameV CW CG k H' r (ws.take m) → Q r H'
theorem w_Game_lower (T : Glb K mg CW CG) {f : Addr} (D : DefM K "lower" "Game.lower" sGame_lower f) (c_is_below : Cal P w K mg base 2 "is_below" ["thing", "limit"] (sp_is_below P w CW CG)) (c_Game_init : CalI P w K mg base 3 "Game" CG ["self", "pegs", "webs"] (sp_Game_init P w CW CG)) : ∃ fd, FnOk P w K mg base CX0 5 f fd ["self", "many"] (sp_Game_lower P w CW CG) ∧ Binds K fd ["self", "many"] [] := by
  refine fn_m D scGame_lower bdGame_lower (fun vs H Q E h => by obtain ⟨v, k, ws, m, rfl, hg, hk3, hk, hlen, hm, q⟩ := h; rfl) fun cdv A outer s H vs Q E hr h => ?_
  obtain ⟨v, k, ws, m, rfl, hg, hk3, hk, hlen, hm, q⟩ := h
  refine ⟨_, (pss_cons (ps_if (pt_not (pt_val (pe_c c_is_below hr (by rfl) (pa_cons (pv 1) (pa_cons (pe_op op_add (kfld (K := K) rfl (pv 0) rfl) pe_int) pa_nil))))) (pss_one ps_never) pss_nil)
  (pss_one (ps_ret (pe_mk c_Game_init hr (by rfl) (pa_cons (kfld (K := K) rfl (pv 0) rfl) (pa_cons (pe_slice (kslA (K := K) rfl) (kfld (K := K) rfl (pv 0) rfl) po_none (po_some (pv 1))) pa_nil)))))), ?_⟩
  obtain ⟨a, dx, t, vw, rfl, h1, h2, h3⟩ := hg
  refine ⟨_, rfl, _, rfl, a, CG, dx, _, .int (ws.length : Nat), rfl, h1, T.cG.cls, T.g_discs, rfl, _, _, rfl, rfl, m, _, rfl, _, rfl, ?_⟩
  rw [below_ok ⟨by omega, by omega⟩]
  have hvl : vw.length = ws.length := Paired.length h3
  refine ⟨_, rfl, a, CG, dx, _, .int k, rfl, h1, T.cG.cls, T.g_pegs, rfl, _, rfl, a, CG, dx, _, .ref t, rfl, h1, T.cG.cls, T.g_webs, rfl, _, rfl, _, rfl, ?_⟩
  refine slice_to (K := K) h2 (by omega) fun r H2 e2 hr2 => ?_
  intro x dx2 hx hd2 hne
  have en := make_new (C := CG) hx hd2
  refine ⟨x, dx2, r, vw.take m, ws.take m, k, rfl, upd_same, .inr (en _ _ hr2), WebsV.mk (WebsV.take m (WebsV.mk h3 e2)) en, hk3, hk, by rw [List.length_take]; omega, fun H3 e3 hg3 => ⟨rfl, ?_⟩⟩
  exact q _ H3 (e2.trans (make_ex hx hd2 e3)) hg3


abbrev sGame_guards : Stmt := inClass (top 33) 14
abbrev NGame_guards : List Str := ["self", "web", "arrow"]
theorem scGame_guards : FnScope NGame_guards ["self"] (defScope sGame_guards) := ⟨rfl, rfl, rfl, by decide +kernel, rfl, by decide +kernel, by decide +kernel⟩
theorem bdGame_guards : BindsAll "guards" "Game.guards" sGame_guards ["self"] := fun _ _ _ _ _ _ us hl => match us, hl with | [_], _ => rfl
/-- what Game.guards promises -/
def sp_Game_guards (P : Program) (w : World) (CW CG : Addr) : Sp := fun vs H Q _ => ∃ (v : V) (k : Nat) (ws : Webs), vs = [v] ∧ GameV CW CG k H v ws ∧ k ≤ 5 ∧ (∀ w ∈ ws, ∀ r ∈ w, ArrOk k r) ∧ ∀ (r : Addr) H' vg (gs : List (List Int)), Ex H H' → H' r = some (.tup vg) → TdA H' vg (gs.map dTI) → gs.length ≤ 64 → (∀ g, g ∈ gs ↔ ∃ w ∈ ws, ∃ r ∈ w, r.g = g) → Q (.ref r) H'
theorem w_Game_guards (T : Glb K mg CW CG) {f : Addr} (D : DefM K "guards" "Game.guards" sGame_guards f) : ∃ fd, FnOk P w K mg base CX0 1 f fd ["self"] (sp_Game_guards P w CW CG) ∧ Binds K fd ["self"] [] := by
  refine fn_m D scGame_guards bdGame_guards (fun vs H Q E h => by obtain ⟨v, k, ws, rfl, hg, hk, ok, q⟩ := h; rfl) fun cdv A outer s H vs Q E hr h => ?_
  obtain ⟨v, k, ws, rfl, hg, hk, ok, q⟩ := h
  refine ⟨_, (pss_one (ps_ret (pe_callTy (ktuple_of (K := K) rfl) (by rfl) T.n_tuple bt_tuple (pa_cons (pe_callB (cr_sortS rfl (hr.u 32)) (by rfl) T.n_sorted bt_sorted (pa_cons (pe_sc2 (own := [("web", 1), ("arrow", 2)]) (vs1 := [2]) rfl (hr.u 8) scGame_guards.nd (ki_tup (K := K) rfl (kfld (K := K) rfl (pv 0) rfl)) (blkOk_by (N := NGame_guards) (sc := defScope sGame_guards) (by decide +kernel)) (by decide) (fun _ _ _ _ _ => (pg_name (i := 1) scGame_guards.nd rfl (Or.inl rfl))) (fun _ _ _ _ _ => pts_nil) (fun _ _ _ _ _ => (ki_tup (K := K) rfl (kfld (K := K) rfl (pv 1) rfl))) (fun _ _ _ _ _ => (pg_name (i := 2) scGame_guards.nd rfl (Or.inl rfl))) (fun _ _ _ _ _ => pts_nil) (fun _ _ _ _ _ => (pe_ix (kix_tup (K := K) rfl) (pv 2) pe_int (fun _ _ => rfl)))) pa_nil)) pa_nil)))), ?_⟩
  obtain ⟨a, dx, t, vw, rfl, h1, h2, h3⟩ := hg
  refine ⟨_, rfl, a, CG, dx, _, .ref t, rfl, h1, T.cG.cls, T.g_webs, rfl, t, rfl, ⟨_, .of h2⟩, fun S hS => ?_⟩
  have eS : Ex H (upd H S (SetTO P w S [])) := Ex.new hS
  refine lp_tup (xs := vw) (fun i H' => Ex H H' ∧ ∃ L, H' S = some (SetTO P w S L) ∧ (L.map (·.2)).Nodup ∧ (∀ p ∈ L, Td H' (.ref p.1) (dTI p.2)) ∧ ∀ g, g ∈ L.map (·.2) ↔ ∃ w ∈ ws.take i, ∃ r ∈ w, r.g = g) ⟨eS, [], upd_same, by simp, by simp, by simp⟩ (fun i H' _ p => .of (p.1 _ _ h2)) (fun i v H' hv p => ?_) fun H' p => ?_
  · obtain ⟨e, L, hL, hnd, htd, hmem⟩ := p
    obtain ⟨wd, hwd, hv2⟩ := paired_get h3 hv
    have hv3 := WebV.mk hv2 e
    obtain ⟨b, db, d, ta, rfl, i1, i2⟩ := hv3
    obtain ⟨ta', va, eta, i3, i4⟩ := i2.tup_inv
    cases eta
    have hwm : wd ∈ ws := List.mem_of_getElem? hwd
    have htake : ws.take (i + 1) = ws.take i ++ [wd] := take_next hwd
    refine ⟨rfl, ?_⟩
    refine ⟨_, rfl, b, CW, db, _, .ref ta, rfl, i1, T.cW.cls, T.w_arrows, rfl, ta, rfl, ⟨_, .of i3⟩, ?_⟩
    refine lp_tup (xs := va) (fun j H' => Ex H H' ∧ H' ta = some (.tup va) ∧ TdA H' va (wd.map dAR) ∧ ∃ L, H' S = some (SetTO P w S L) ∧ (L.map (·.2)).Nodup ∧ (∀ p ∈ L, Td H' (.ref p.1) (dTI p.2)) ∧ ∀ g, g ∈ L.map (·.2) ↔ (∃ w ∈ ws.take i, ∃ r ∈ w, r.g = g) ∨ ∃ r ∈ wd.take j, r.g = g) ⟨e, i3, i4, L, hL, hnd, htd, fun g => by simp [hmem g]⟩ (fun j H' _ p => .of p.2.1) (fun j v H' hv p => ?_) fun H' p => ?_
    · obtain ⟨e, i3, i4, L, hL, hnd, htd, hmem⟩ := p
      obtain ⟨dd, hdd, td⟩ := i4.get hv
      rw [List.getElem?_map, Option.map_eq_some_iff] at hdd
      obtain ⟨r, hrr, rfl⟩ := hdd
      obtain ⟨m, g, rfl, hm, hg⟩ := td_ar td
      have hrm : r ∈ wd := List.mem_of_getElem? hrr
      have htake2 : wd.take (j + 1) = wd.take j ++ [r] := take_next hrr
      have rok := ok wd hwm r hrm
      refine ⟨rfl, ?_⟩
      have gok : ∀ g ∈ L.map (·.2), g.Pairwise (· < ·) ∧ ∀ x ∈ g, 0 ≤ x ∧ x < (k : Int) := fun g hg => by
        rcases (hmem g).mp hg with ⟨w', hw', r', hr', rfl⟩ | ⟨r', hr', rfl⟩
        · have o := ok w' (List.mem_of_mem_take hw') r' hr'
          exact ⟨o.asc, o.gk⟩
        · have o := ok wd hwm r' (List.mem_of_mem_take hr')
          exact ⟨o.asc, o.gk⟩
      have fewL : L.length + 1 < 64 := by
        have := few_guards hk hnd gok
        rw [List.length_map] at this
        omega
      refine ⟨_, rfl, m, _, 2, _, rfl, rfl, .of hm, rfl, g, L, r.g, rfl, hL, htd, hg, fewL, fun L' c1 c2 => ?_⟩
      have hta : ta ≠ S := fun z => by rw [z, hL] at i3; cases i3
      have tk : Tk H' (upd H' S (SetTO P w S L')) := Tk.mut (Tk.refl _) (no_tup hL fun xs q => by cases q)
      refine ⟨e.mut hS, by rw [upd_ne hta]; exact i3, i4.mono tk, L', upd_same, ?_⟩
      by_cases hin : r.g ∈ L.map (·.2)
      · rw [c1 hin]
        refine ⟨hnd, fun p hp => (htd p hp).mono (by rw [c1 hin] at tk; exact tk), fun g' => ?_⟩
        rw [hmem g', htake2]
        constructor
        · rintro (h | ⟨r', hr', e'⟩)
          · exact .inl h
          · exact .inr ⟨r', List.mem_append_left _ hr', e'⟩
        · rintro (h | ⟨r', hr', e'⟩)
          · exact .inl h
          · rw [List.mem_append, List.mem_singleton] at hr'
            rcases hr' with hr' | rfl
            · exact .inr ⟨r', hr', e'⟩
            · rw [← e']
              exact (hmem _).mp hin
      · have pm := c2 hin
        have pm2 := pm.map (·.2)
        refine ⟨pm2.nodup_iff.mpr (List.nodup_cons.mpr ⟨hin, hnd⟩), fun p hp => ?_, fun g' => ?_⟩
        · rcases List.mem_cons.mp (pm.mem_iff.mp hp) with rfl | hp
          · exact hg.mono tk
          · exact (htd p hp).mono tk
        · rw [pm2.mem_iff, List.map_cons, List.mem_cons, hmem g', htake2]
          constructor
          · rintro (rfl | h | ⟨r', hr', e'⟩)
            · exact .inr ⟨r, by simp, rfl⟩
            · exact .inl h
            · exact .inr ⟨r', List.mem_append_left _ hr', e'⟩
          · rintro (h | ⟨r', hr', e'⟩)
            · exact .inr (.inl h)
            · rw [List.mem_append, List.mem_singleton] at hr'
              rcases hr' with hr' | rfl
              · exact .inr (.inr ⟨r', hr', e'⟩)
              · exact .inl e'.symm
    · obtain ⟨e, i3, i4, L, hL, hnd, htd, hmem⟩ := p
      have hl2 : va.length = wd.length := by rw [i4.len, List.length_map]
      rw [hl2, List.take_length] at hmem
      refine ⟨e, L, hL, hnd, htd, fun g => ?_⟩
      rw [hmem g, htake]
      constructor
      · rintro (⟨w', hw', h⟩ | h)
        · exact ⟨w', List.mem_append_left _ hw', h⟩
        · exact ⟨wd, by simp, h⟩
      · rintro ⟨w', hw', h⟩
        rw [List.mem_append, List.mem_singleton] at hw'
        rcases hw' with hw' | rfl
        · exact .inl ⟨w', hw', h⟩
        · exact .inr h
  · obtain ⟨e, L, hL, hnd, htd, hmem⟩ := p
    have hl2 : vw.length = ws.length := Paired.length h3
    rw [hl2, List.take_length] at hmem
    refine ⟨S, L, rfl, hL, htd, fun p hp => ?_, fun p ys gs hp hys hg64 hgs => ?_⟩
    · obtain ⟨w', hw', r', hr', e'⟩ := (hmem p.2).mp (List.mem_map.mpr ⟨p, hp, rfl⟩)
      rw [← e']
      exact (ok w' hw' r' hr').gne
    · refine ⟨p, ys, rfl, .inl ⟨.of upd_same, fun t ht => ?_⟩⟩
      have e2 : Ex H' (upd (upd H' p (.lst ys)) t (.tup ys)) := (Ex.new hp).trans (Ex.new ht)
      exact q t _ ys gs (e.trans e2) upd_same (hys.mk e2) hg64 fun g => (hgs g).trans (hmem g)


end
end K07
end K07_part_W5

section K07_part_W6
set_option Elab.async false
set_option linter.all false
set_option maxRecDepth 100000
set_option maxHeartbeats 4000000
namespace K07
open PySem PySem.Spec PyProof.Rows L2 Evl
section
variable {P : Program} {w : World} {K : PySem.W.Frag} {mg : Str → Option Value} {base : Heap} {CW CG : Addr}

/-- a game's webs as they may stand -/
structure GmOk (k : Nat) (ws : Webs) : Prop where
  k3 : 3 ≤ k
  k5 : k ≤ 5
  len : ws.length ≤ 40
  few : ∀ w ∈ ws, w.length ≤ 1000
  ok : ∀ w ∈ ws, ∀ r ∈ w, ArrOk k r
/-- a position's tuple or list -/
def PosV (H : Hp) (l : Addr) (ps : List Int) : Prop := H l = some (.lst (ps.map V.int)) ∨ H l = some (.tup (ps.map V.int))
theorem any_ti (g : List Int) (gs : List (List Int)) : ((gs.map dTI).any fun z => PyData.eqv z (dTI g)) = decide (g ∈ gs) := by
  induction gs with
  | nil => simp
  | cons x gs ih =>
    rw [List.map_cons, List.any_cons, ih, eqv_ti]
    by_cases h : x = g
    · subst h; simp
    · simp [h, Ne.symm h]
/-- a loop over two tuples at once, by its step -/
theorem lp_zipT {a b : Addr} {xs ys : List V} {H1 : Hp} {Step : V → Hp → (Hp → Prop) → Prop} {Qd : Hp → Prop} (hlen : xs.length = ys.length) (Pv : Nat → Hp → Prop) (h0 : Pv 0 H1) (hq : ∀ i H, Pv i H → SqT K H a xs ∧ SqT K H b ys)
    (hs : ∀ (i : Nat) (x y : V) (T : Addr) (H : Hp), xs[i]? = some x → ys[i]? = some y → Pv i H → H T = none → Step (.ref T) (upd H T (.tup [x, y])) (Pv (i + 1))) (hd : ∀ H, Pv xs.length H → Qd H) :
    ∃ W : Nat → Nat → Hp → Prop, (∃ m, W 0 m H1) ∧ ∀ i m H, W i m H → ((RZ.ItzT K a b).stop i H ∧ Qd H) ∨ ((RZ.ItzT K a b).go i H ∧ ∃ Nx : Hp → Prop, (∀ H', Nx H' → ∃ m', m' < m ∧ W (i + 1) m' H') ∧ ∀ x H', (RZ.ItzT K a b).yld i H x H' → Step x H' Nx) := by
  refine ⟨fun i m H => m = xs.length - i ∧ i ≤ xs.length ∧ Pv i H, ⟨xs.length, by simp, Nat.zero_le _, h0⟩, ?_⟩
  rintro i m H ⟨rfl, hi, p⟩
  obtain ⟨q1, q2⟩ := hq i H p
  by_cases hlt : i < xs.length
  · have hlt2 : i < ys.length := by omega
    refine .inr ⟨⟨xs, ys, xs[i], ys[i], q1, q2, by simp [hlt], by simp [hlt2]⟩, Pv (i + 1), fun H' p' => ⟨xs.length - (i + 1), by omega, rfl, hlt, p'⟩, fun v H' y => ?_⟩
    obtain ⟨T, x, y, rfl, hT, rfl, h1, h2⟩ := y
    exact hs i x y T H (h1 xs q1) (h2 ys q2) p hT
  · have e : i = xs.length := by omega
    subst e
    exact .inl ⟨⟨xs, ys, q1, q2, .inl (Nat.le_refl _)⟩, hd H p⟩

abbrev ssets_at : Stmt := top 41
abbrev Nsets_at : List Str := ["game", "position", "met", "sets", "disc", "peg", "arrows", "arrow", "guard"]
theorem scsets_at : FnScope Nsets_at ["game", "position"] (defScope ssets_at) := ⟨rfl, rfl, rfl, by decide +kernel, rfl, by decide +kernel, by decide +kernel⟩
theorem bdsets_at : BindsAll "sets_at" "sets_at" ssets_at ["game", "position"] := fun _ _ _ _ _ _ us hl => match us, hl with | [_, _], _ => rfl
/-- what sets_at promises -/
def sp_sets_at (P : Program) (w : World) (CW CG : Addr) : Sp := fun vs H Q _ => ∃ (v : V) (p : Addr) (ps : List Int) (k : Nat) (ws : Webs), vs = [v, .ref p] ∧ GameV CW CG k H v ws ∧ H p = some (.tup (ps.map .int)) ∧ ps.length = ws.length ∧ (∀ x ∈ ps, 0 ≤ x ∧ x < (k : Int)) ∧ GmOk k ws ∧ ∀ (r : Addr) H' (s m : V), Ex H H' → H' r = some (.tup [s, m]) → Td H' s (.tuple ((sets k ws ps).map dTI)) → Q (.ref r) H'
theorem w_sets_at (T : Glb K mg CW CG) (D : Def K mg "sets_at" ssets_at) (c_Game_guards : CalM P w K mg base 1 CG "guards" ["self"] (sp_Game_guards P w CW CG)) (c_tied_by : Cal P w K mg base 2 "tied_by" ["pairs", "peg"] (sp_tied_by P w CW CG)) (c_ends_of : Cal P w K mg base 1 "ends_of" ["arrows"] (sp_ends_of P w CW CG)) (c_meets : Cal P w K mg base 1 "meets" ["guard", "pegs"] (sp_meets P w CW CG)) : Cal P w K mg base 3 "sets_at" ["game", "position"] (sp_sets_at P w CW CG) := by
  refine Cal.mk' D scsets_at bdsets_at (fun vs H Q E h => by obtain ⟨v, p, ps, k, ws, rfl, hg, hp, hlen, hps, ok, q⟩ := h; rfl) fun f cdv A outer s H vs Q E hr h => ?_
  obtain ⟨v, p, ps, k, ws, rfl, hg, hp, hlen, hps, ok, q⟩ := h
  refine ⟨_, (pss_cons (ps_asg (pe_tup (pa_cons (pe_callTy (klist_of (K := K) rfl) (by rfl) T.n_list bt_list (pa_cons (pe_cm0 (pv 0) c_Game_guards hr) pa_nil)) (pa_cons (pe_lst pa_nil) pa_nil))) (kgTup (K := K) (n := 2) rfl rfl (pgs_cons (pg_name (i := 2) scsets_at.nd rfl (Or.inr rfl)) (pgs_cons (pg_name (i := 3) scsets_at.nd rfl (Or.inr rfl)) pgs_nil))))
  (pss_cons (ps_for PassesOwn.never rfl (pi_enumA (by rfl) T.n_enumerate (pa_cons (pv 1) pa_nil)) (kgTup (K := K) (n := 2) rfl rfl (pgs_cons (pg_name (i := 4) scsets_at.nd rfl (Or.inr rfl)) (pgs_cons (pg_name (i := 5) scsets_at.nd rfl (Or.inl rfl)) pgs_nil)))
  (pss_cons (ps_setLc (i := 6) (own := [("arrow", 7)]) (g := gName 7) rfl scsets_at.nd rfl rfl (sw_true rfl rfl rfl (by decide +kernel)) (ki_tup (K := K) rfl (kfld (K := K) rfl (pe_ix (kix_tup (K := K) rfl) (kfld (K := K) rfl (pv 0) rfl) (pv 4) (fun _ _ => rfl)) rfl)) (blkOk_by (N := Nsets_at) (sc := defScope ssets_at) (by decide +kernel)) (fun _ _ _ _ _ => (pg_name (i := 7) scsets_at.nd rfl (Or.inl rfl))) (fun _ _ _ _ _ => (pts_one (pt_cmpR (kinD (K := K) rfl (hr.u 65)) (pe_ix (kix_tup (K := K) rfl) (pv 7) pe_int (fun _ _ => rfl)) (pv 2) (by rfl)))) (fun _ _ _ _ _ => (pv 7)))
  (pss_cons (ps_expr (pe_bm PySem.F.plainAttrs_list PySem.F.slot_list_append PySem.F.type_list_append mt_append (pv 3) (pa_cons (pe_c c_tied_by hr (by rfl) (pa_cons (pe_c c_ends_of hr (by rfl) (pa_cons (pv 6) pa_nil)) (pa_cons (pv 5) pa_nil))) pa_nil)))
  (pss_one (ps_set (i := 2) scsets_at.nd rfl (Or.inr rfl) (pe_lc (own := [("guard", 8)]) (g := gName 8) rfl scsets_at.nd (ki_list (K := K) rfl (pv 2)) (blkOk_by (N := Nsets_at) (sc := defScope ssets_at) (by decide +kernel)) (fun _ _ _ _ _ => (pg_name (i := 8) scsets_at.nd rfl (Or.inl rfl))) (fun _ _ _ _ _ => (pts_one (pt_val (pe_c c_meets hr (by rfl) (pa_cons (pv 8) (pa_cons (pe_ix (kix_list (K := K) rfl) (pv 3) (pv 4) (fun _ _ => rfl)) pa_nil)))))) (fun _ _ _ _ _ => (pv 8))))))))
  (pss_one (ps_ret (pe_tup (pa_cons (pe_callTy (ktuple_of (K := K) rfl) (by rfl) T.n_tuple bt_tuple (pa_cons (pv 3) pa_nil)) (pa_cons (pe_callTy (ktuple_of (K := K) rfl) (by rfl) T.n_tuple bt_tuple (pa_cons (pv 2) pa_nil)) pa_nil))))))), ?_⟩
  have hg0 := hg
  obtain ⟨a, dx, t, vw, rfl, h1, h2, h3⟩ := hg
  refine ⟨_, rfl, a, dx, _, rfl, h1, rfl, .ref a, k, ws, rfl, hg0, ok.k5, ok.ok, fun r H1 vg gs e1 hr1 hvg hg64 hgs => ?_⟩
  refine ⟨r, vg, rfl, .inr (.of hr1), fun lm hlm => ?_⟩
  refine ⟨line_ok (by simp), fun ls hls => ?_⟩
  refine ⟨line_ok (by simp), fun lt hlt => ?_⟩
  have e2 : Ex H1 (upd H1 lm (.lst vg)) := Ex.new hlm
  have e3 := Ex.new (o := .lst []) hls
  have e4 := Ex.new (o := .tup [.ref lm, .ref ls]) hlt
  refine ⟨lt, _, rfl, .of upd_same, rfl, _, _, rfl, _, _, rfl, rfl, ?_⟩
  have hls0 : H ls = none := fresh_back (e1.trans e2) hls
  have E0 : Ex H (upd (upd (upd H1 lm (.lst vg)) ls (.lst [])) lt (.tup [.ref lm, .ref ls])) := ((e1.trans e2).trans e3).trans e4
  refine ⟨_, rfl, p, ps.map V.int, rfl, .inr ⟨.of (E0 _ _ hp), ?_⟩⟩
  refine for_enumT (xs := ps.map V.int) (fun i σ H' => ∃ lm vm gs vl x y z u w', σ = [some (.ref a), some (.ref p), some (.ref lm), some (.ref ls), x, y, z, u, w'] ∧ Ex H H' ∧ lm ≠ ls ∧ H' lm = some (.lst vm) ∧ TdA H' vm ((gs : List (List Int)).map dTI) ∧ gs.length ≤ 64 ∧
    (∀ g, g ∈ gs ↔ (∃ w ∈ ws, ∃ r ∈ w, r.g = g) ∧ ∀ S ∈ (sets k ws ps).take i, meetsB g S = true) ∧ H' ls = some (.lst vl) ∧ TdA H' vl (((sets k ws ps).take i).map dTI)) ?_ (fun i σ H' _ p => ?_) (fun i v T' σ H' hv p hT => ?_) fun σ H' p => ?_
  · refine ⟨lm, vg, gs, [], none, none, none, none, none, rfl, E0, (fun z => by rw [← z, upd_same] at hls; cases hls), e4 _ _ (e3 _ _ upd_same), ((hvg.mk e2).mk e3).mk e4, hg64, fun g => ?_, e4 _ _ upd_same, ?_⟩
    · rw [hgs g]
      simp
    · simp [TdA.nil]
  · obtain ⟨lm, vm, gs, vl, x, y, z, u, w', rfl, e, _⟩ := p
    exact .of (e _ _ hp)
  · obtain ⟨lm, vm, gs, vl, x, y, z, u, w', rfl, e, hne, hlm, hvm, hg64, hgs, hvl, tvl⟩ := p
    rw [List.getElem?_map, Option.map_eq_some_iff] at hv
    obtain ⟨c, hc, rfl⟩ := hv
    have hilt : i < ws.length := by rw [← hlen]; exact (List.getElem?_eq_some_iff.mp hc).1
    obtain ⟨wd, hwd⟩ : ∃ wd, ws[i]? = some wd := ⟨_, List.getElem?_eq_getElem hilt⟩
    have hwm : wd ∈ ws := List.mem_of_getElem? hwd
    have hat := sets_at (k := k) hwd hc
    have htake : (sets k ws ps).take (i + 1) = (sets k ws ps).take i ++ [tiedL k (endsL (usab ((sets k ws ps).take i) wd)) c] := take_next hat
    have hslen : (sets k ws ps).length = ws.length := sets_len hlen
    generalize hacc : (sets k ws ps).take i = acc at htake hgs tvl hat
    have hal : acc.length = i := by rw [← hacc, List.length_take, hslen]; omega
    have e2 : Ex H (upd H' T' (.tup [.int i, .int c])) := e.trans (Ex.new hT)
    have en : Ex H' (upd H' T' (.tup [.int i, .int c])) := Ex.new hT
    refine ⟨T', _, rfl, .of upd_same, rfl, _, _, rfl, _, _, rfl, rfl, ?_⟩
    have hlm2 := en _ _ hlm
    have hvm2 := hvm.mk en
    have hvl2 := en _ _ hvl
    have tvl2 := tvl.mk en
    show tSeq _ _ _ _ (upd H' T' (.tup [.int i, .int c]))
    generalize upd H' T' (.tup [.int i, .int c]) = H2 at e2 hlm2 hvm2 hvl2 tvl2
    -- the arrows that may be used
    obtain ⟨wv, hwv, _⟩ : ∃ wv, vw[i]? = some wv ∧ True := ⟨_, List.getElem?_eq_getElem (by rw [Paired.length h3]; exact hilt), trivial⟩
    obtain ⟨wd', hwd', hw2⟩ := paired_get (WebsV.mk h3 e2) hwv
    rw [hwd] at hwd'
    cases hwd'
    obtain ⟨b, db, d, ta, rfl, i1, i2⟩ := hw2
    obtain ⟨ta', va, eta, i3, i4⟩ := i2.tup_inv
    cases eta
    have g1 := e2 _ _ h1
    refine ⟨_, rfl, a, CG, dx, _, .ref t, rfl, g1, T.cG.cls, T.g_webs, rfl, _, rfl, t, _, (i : Int), _, rfl, rfl, .of (e2 _ _ h2), atI_nat hwv, b, CW, db, _, .ref ta, rfl, i1, T.cW.cls, T.w_arrows, rfl, ta, rfl, ⟨_, .of i3⟩, fun D hD => ?_⟩
    refine lc_tup (xs := va) (fun j H' => Ex H2 H' ∧ ∃ zs, H' D = some (.lst zs) ∧ TdA H' zs ((usab acc (wd.take j)).map dAR)) ⟨Ex.new hD, [], upd_same, by simp [usab, TdA.nil]⟩ (fun j H' _ p => .of (p.1 _ _ i3)) (fun j v H' hv p => ?_) fun H3 p => ?_
    · obtain ⟨e, zs, hD2, tz⟩ := p
      obtain ⟨dd, hdd, td⟩ := i4.get hv
      rw [List.getElem?_map, Option.map_eq_some_iff] at hdd
      obtain ⟨r, hrr, rfl⟩ := hdd
      have td : Td H' v (dAR r) := td.mk e
      obtain ⟨m, g, rfl, hm, hgg⟩ := td_ar td
      have hrm : r ∈ wd := List.mem_of_getElem? hrr
      have htk : wd.take (j + 1) = wd.take j ++ [r] := take_next hrr
      refine ⟨rfl, _, rfl, m, _, 2, _, rfl, rfl, .of hm, rfl, _, rfl, dTI r.g, gs.map dTI, hgg.dp, Dp.lst (.of (e _ _ hlm2)) (TdA.dp (hvm2.mk e)), shp_ti _, shp_tiL gs, _, rfl, ?_⟩
      rw [any_ti]
      have hzl : zs.length ≤ 1000 := by
        rw [tz.len, List.length_map]
        have h1 := List.length_filter_le (fun r => acc.all fun S => meetsB r.g S) (wd.take j)
        have h2 := ok.few wd hwm
        rw [List.length_take] at h1
        show (usab acc (wd.take j)).length ≤ 1000
        unfold usab
        omega
      have hiff : (acc.all fun S => meetsB r.g S) = true ↔ r.g ∈ gs := by
        rw [List.all_eq_true, hgs r.g]
        exact ⟨fun h => ⟨⟨wd, hwm, r, hrm, rfl⟩, h⟩, fun h => h.2⟩
      refine ite2 (fun hb => ?_) fun hb => ?_
      · have hb : r.g ∈ gs := by simpa using hb
        refine ⟨_, rfl, zs, hD2, small1000 hzl, e.mut hD, _, upd_same, ?_⟩
        rw [htk]
        unfold usab at tz ⊢
        rw [List.filter_append, List.map_append, List.filter_cons_of_pos (p := fun r : Arr => acc.all fun S => meetsB r.g S) (hiff.mpr hb)]
        have tk := Tk.mut (Tk.refl _) (no_tupL hD2) (o := .lst (zs ++ [V.ref m]))
        exact TdA.snoc (tz.mono tk) (td.mono tk)
      · have hb : r.g ∉ gs := by simpa using hb
        refine ⟨e, zs, hD2, ?_⟩
        rw [htk]
        unfold usab at tz ⊢
        rw [List.filter_append, List.filter_cons_of_neg (p := fun r : Arr => acc.all fun S => meetsB r.g S) (fun h => hb (hiff.mp h))]
        simpa using tz
    obtain ⟨e5, zs, hD2, tz⟩ := p
    have hl2 : va.length = wd.length := by rw [i4.len, List.length_map]
    rw [hl2, List.take_length] at tz
    have hus : ∀ r ∈ usab acc wd, r ∈ wd := fun r hr => (List.mem_filter.mp hr).1
    have hul : (usab acc wd).length ≤ 1000 := Nat.le_trans (List.length_filter_le _ _) (ok.few wd hwm)
    refine ⟨_, rfl, .inl ⟨rfl, _, .of (e5 _ _ hvl2)⟩, ?_⟩
    refine ⟨_, rfl, D, zs, usab acc wd, rfl, hD2, tz, hul, fun r6 H6 vp e6 hr6 tp => ?_⟩
    refine ⟨_, rfl, r6, vp, endsL (usab acc wd), c, k, rfl, hr6, tp, fun pr hpr => ?_, hps c (List.mem_of_getElem? hc), ok.k5, by rw [endsL, List.length_map]; exact hul, fun r7 H7 e7 hr7 => ?_⟩
    · obtain ⟨r, hr, rfl⟩ := List.mem_map.mp hpr
      have o := ok.ok wd hwm r (hus r hr)
      exact ⟨o.ha, o.hb⟩
    have E7 : Ex H2 H7 := (e5.trans e6).trans e7
    have hvl7 := E7 _ _ hvl2
    refine ⟨ls, vl, _, rfl, rfl, hvl7, small1000 (by rw [tvl2.len, List.length_map]; have := ok.len; omega), ?_⟩
    have tk := Tk.mut (Tk.refl _) (no_tupL hvl7) (o := .lst (vl ++ [V.ref r7]))
    have E8 : Ex H (upd H7 ls (.lst (vl ++ [V.ref r7]))) := (e2.trans E7).mut hls0
    have tvl8 : TdA (upd H7 ls (.lst (vl ++ [V.ref r7]))) (vl ++ [V.ref r7]) ((acc ++ [tiedL k (endsL (usab acc wd)) c]).map dTI) := by
      rw [List.map_append]
      exact TdA.snoc ((tvl2.mk E7).mono tk) ((td_ti' hr7).mono tk)
    have hlm8 : upd H7 ls (.lst (vl ++ [V.ref r7])) lm = some (.lst vm) := by rw [upd_ne hne]; exact E7 _ _ hlm2
    have hvm8 := (hvm2.mk E7).mono tk
    have hr8 : upd H7 ls (.lst (vl ++ [V.ref r7])) r7 = some (.tup ((tiedL k (endsL (usab acc wd)) c).map .int)) := by rw [upd_ne (fun z => by rw [z, hvl7] at hr7; cases hr7)]; exact hr7
    have hls8 : upd H7 ls (.lst (vl ++ [V.ref r7])) ls = some (.lst (vl ++ [V.ref r7])) := upd_same
    generalize hG : upd H7 ls (.lst (vl ++ [V.ref r7])) = H8 at E8 tvl8 hlm8 hvm8 hr8 hls8
    have hvll : vl.length = i := by rw [tvl2.len, List.length_map, hal]
    -- the guards that are left
    refine ⟨_, rfl, lm, rfl, ⟨vm, .of hlm8⟩, fun D8 hD8 => ?_⟩
    refine lc_list (xs := vm) (fun j H' => Ex H8 H' ∧ ∃ zs, H' D8 = some (.lst zs) ∧ TdA H' zs (((gs.take j).filter fun g => meetsB g (tiedL k (endsL (usab acc wd)) c)).map dTI)) ⟨Ex.new hD8, [], upd_same, by simp [TdA.nil]⟩ (fun j H' _ p => .of (p.1 _ _ hlm8)) (fun j v H' hv p => ?_) fun H9 p => ?_
    · obtain ⟨e, zs, hD2, tz⟩ := p
      obtain ⟨dd, hdd, td⟩ := hvm8.get hv
      rw [List.getElem?_map, Option.map_eq_some_iff] at hdd
      obtain ⟨g, hgg, rfl⟩ := hdd
      have td : Td H' v (dTI g) := td.mk e
      obtain ⟨m, rfl, hm⟩ := td_ti td
      have htk : gs.take (j + 1) = gs.take j ++ [g] := take_next hgg
      refine ⟨rfl, _, rfl, _, rfl, _, rfl, ls, _, (i : Int), .ref r7, rfl, rfl, .of (e _ _ hls8), atI_nat (by rw [List.getElem?_append_right (by omega), hvll, Nat.sub_self]; rfl), m, r7, g, _, rfl, hm, e _ _ hr8, _, rfl, ?_⟩
      have hzl : zs.length ≤ 1000 := by
        rw [tz.len, List.length_map]
        have h1 := List.length_filter_le (fun g => meetsB g (tiedL k (endsL (usab acc wd)) c)) (gs.take j)
        rw [List.length_take] at h1
        omega
      refine ite2 (fun hb => ?_) fun hb => ?_
      · refine ⟨_, rfl, zs, hD2, small1000 hzl, e.mut hD8, _, upd_same, ?_⟩
        rw [htk, List.filter_append, List.map_append, List.filter_cons_of_pos (p := fun g => meetsB g (tiedL k (endsL (usab acc wd)) c)) hb]
        have tk := Tk.mut (Tk.refl _) (no_tupL hD2) (o := .lst (zs ++ [V.ref m]))
        exact TdA.snoc (tz.mono tk) (td.mono tk)
      · refine ⟨e, zs, hD2, ?_⟩
        rw [htk, List.filter_append, List.filter_cons_of_neg (p := fun g => meetsB g (tiedL k (endsL (usab acc wd)) c)) hb]
        simpa using tz
    obtain ⟨e9, zs9, hD9, tz9⟩ := p
    have hl9 : vm.length = gs.length := by rw [hvm8.len, List.length_map]
    rw [hl9, List.take_length] at tz9
    refine ⟨D8, zs9, _, vl ++ [.ref r7], _, _, _, _, _, rfl, E8.trans e9, (fun z => by rw [z, hls8] at hD8; cases hD8), hD9, tz9, Nat.le_trans (List.length_filter_le _ _) hg64, fun g => ?_, e9 _ _ hls8, by rw [htake]; exact tvl8.mk e9⟩
    rw [List.mem_filter, hgs g, htake]
    constructor
    · rintro ⟨⟨h1, h2⟩, h3⟩
      refine ⟨h1, fun S hS => ?_⟩
      rw [List.mem_append, List.mem_singleton] at hS
      rcases hS with hS | rfl
      · exact h2 S hS
      · exact h3
    · rintro ⟨h1, h2⟩
      exact ⟨⟨h1, fun S hS => h2 S (List.mem_append_left _ hS)⟩, h2 _ (by simp)⟩
  · obtain ⟨lm, vm, gs, vl, x, y, z, u, w', rfl, e, hne, hlm, hvm, hg64, hgs, hvl, tvl⟩ := p
    have hslen : (sets k ws ps).length = ws.length := sets_len hlen
    rw [List.length_map, hlen, ← hslen, List.take_length] at tvl
    refine ⟨_, rfl, ls, vl, rfl, .inl ⟨.of hvl, fun s1 hs1 => ?_⟩⟩
    have e1 : Ex H' (upd H' s1 (.tup vl)) := Ex.new hs1
    refine ⟨_, rfl, lm, vm, rfl, .inl ⟨.of (e1 _ _ hlm), fun s2 hs2 => ?_⟩⟩
    have e2 := Ex.new (o := .tup vm) hs2
    refine ⟨line_ok (by simp), fun s3 hs3 => ?_⟩
    have e3 := Ex.new (o := .tup [.ref s1, .ref s2]) hs3
    exact q s3 _ (.ref s1) (.ref s2) (((e.trans e1).trans e2).trans e3) upd_same ((Td.tup (e2 _ _ upd_same) ((tvl.mk e1).mk e2)).mk e3)


abbrev ssets_of : Stmt := top 42
abbrev Nsets_of : List Str := ["game", "position", "sets", "_"]
theorem scsets_of : FnScope Nsets_of ["game", "position"] (defScope ssets_of) := ⟨rfl, rfl, rfl, by decide +kernel, rfl, by decide +kernel, by decide +kernel⟩
theorem bdsets_of : BindsAll "sets_of" "sets_of" ssets_of ["game", "position"] := fun _ _ _ _ _ _ us hl => match us, hl with | [_, _], _ => rfl
/-- what sets_of promises -/
def sp_sets_of (P : Program) (w : World) (CW CG : Addr) : Sp := fun vs H Q _ => ∃ (v : V) (p : Addr) (ps : List Int) (k : Nat) (ws : Webs), vs = [v, .ref p] ∧ GameV CW CG k H v ws ∧ PosV H p ps ∧ ps.length = ws.length ∧ (∀ x ∈ ps, 0 ≤ x ∧ x < (k : Int)) ∧ GmOk k ws ∧ ∀ (s : V) H', Ex H H' → Td H' s (.tuple ((sets k ws ps).map dTI)) → Q s H'
theorem w_sets_of (T : Glb K mg CW CG) (D : Def K mg "sets_of" ssets_of) (c_sets_at : Cal P w K mg base 3 "sets_at" ["game", "position"] (sp_sets_at P w CW CG)) (c_check_position : Cal P w K mg base 3 "check_position" ["game", "position"] (sp_check_position P w CW CG)) : Cal P w K mg base 4 "sets_of" ["game", "position"] (sp_sets_of P w CW CG) := by
  refine Cal.mk' D scsets_of bdsets_of (fun vs H Q E h => by obtain ⟨v, p, ps, k, ws, rfl, hg, hp, hlen, hps, ok, q⟩ := h; rfl) fun f cdv A outer s H vs Q E hr h => ?_
  obtain ⟨v, p, ps, k, ws, rfl, hg, hp, hlen, hps, ok, q⟩ := h
  refine ⟨_, (pss_cons (ps_asg (pe_c c_sets_at hr (by rfl) (pa_cons (pv 0) (pa_cons (pe_c c_check_position hr (by rfl) (pa_cons (pv 0) (pa_cons (pv 1) pa_nil))) pa_nil))) (kgTup (K := K) (n := 2) rfl rfl (pgs_cons (pg_name (i := 2) scsets_of.nd rfl (Or.inl rfl)) (pgs_cons (pg_name (i := 3) scsets_of.nd rfl (Or.inl rfl)) pgs_nil))))
  (pss_one (ps_ret (pv 2)))), ?_⟩
  refine ⟨_, rfl, _, rfl, _, rfl, v, p, ps, k, ws, rfl, hg, hp, hlen, hps, fun r H1 e1 hr1 => ?_⟩
  refine ⟨v, r, ps, k, ws, rfl, GameV.mk hg e1, hr1, hlen, hps, ok, fun r2 H2 s m e2 hr2 hs => ?_⟩
  refine ⟨r2, _, rfl, .of hr2, rfl, _, _, rfl, _, _, rfl, rfl, ?_⟩
  exact ⟨_, rfl, q s H2 (e1.trans e2) hs⟩


abbrev smany_in : Stmt := top 43
abbrev Nmany_in : List Str := ["sets", "size", "pegs"]
theorem scmany_in : FnScope Nmany_in ["sets"] (defScope smany_in) := ⟨rfl, rfl, rfl, by decide +kernel, rfl, by decide +kernel, by decide +kernel⟩
theorem bdmany_in : BindsAll "many_in" "many_in" smany_in ["sets"] := fun _ _ _ _ _ _ us hl => match us, hl with | [_], _ => rfl
/-- what many_in promises -/
def sp_many_in (P : Program) (w : World) (CW CG : Addr) : Sp := fun vs H Q _ => ∃ (s : Addr) (box : List (List Int)), vs = [.ref s] ∧ Td H (.ref s) (.tuple (box.map dTI)) ∧ (∀ S ∈ box, S.length ≤ 5) ∧ Q (.int (manyL box : Nat)) H
theorem w_many_in (T : Glb K mg CW CG) (D : Def K mg "many_in" smany_in) : Cal P w K mg base 1 "many_in" ["sets"] (sp_many_in P w CW CG) := by
  refine Cal.mk' D scmany_in bdmany_in (fun vs H Q E h => by obtain ⟨s', box, rfl, hs, hbox, q⟩ := h; rfl) fun f cdv A outer s H vs Q E hr h => ?_
  obtain ⟨s', box, rfl, hs, hbox, q⟩ := h
  refine ⟨_, (pss_cons (ps_set (i := 1) scmany_in.nd rfl (Or.inl rfl) pe_int)
  (pss_cons (ps_for PassesOwn.never rfl (ki_tup (K := K) rfl (pv 0)) (pg_name (i := 2) scmany_in.nd rfl (Or.inl rfl))
  (pss_one (ps_set (i := 1) scmany_in.nd rfl (Or.inl rfl) (pe_op op_mul (pv 1) (pe_callB (klen (K := K) rfl) (by rfl) T.n_len bt_len (pa_cons (pv 2) pa_nil))))))
  (pss_one (ps_ret (pv 1))))), ?_⟩
  obtain ⟨s'', vb, e, h1, h2⟩ := hs.tup_inv
  cases e
  refine ⟨_, rfl, s', rfl, ⟨_, .of h1⟩, ?_⟩
  refine for_tup (xs := vb) (fun i σ H' => H' = H ∧ ∃ x, σ = [some (.ref s'), some (.int (manyL (box.take i) : Nat)), x]) ⟨rfl, none, rfl⟩ (fun i σ H' _ p => by rw [p.1]; exact .of h1) (fun i v σ H' hv p => ?_) fun σ H' p => ?_
  · obtain ⟨rfl, x, rfl⟩ := p
    obtain ⟨d, hd, td⟩ := h2.get hv
    rw [List.getElem?_map, Option.map_eq_some_iff] at hd
    obtain ⟨S, hS, rfl⟩ := hd
    obtain ⟨t, rfl, ht⟩ := td_ti td
    have htk : box.take (i + 1) = box.take i ++ [S] := take_next hS
    have h5 := hbox S (List.mem_of_getElem? hS)
    refine ⟨_, rfl, _, rfl, t, _, rfl, .inr (.of ht), _, _, rfl, rfl, .inr ⟨by omega, by rw [List.length_map]; omega⟩, rfl, some (.ref t), ?_⟩
    rw [List.length_map, htk, manyL_snoc, Int.natCast_mul]
    rfl
  · obtain ⟨rfl, x, rfl⟩ := p
    have : vb.length = box.length := by rw [h2.len, List.length_map]
    rw [this, List.take_length]
    exact ⟨_, rfl, q⟩


theorem sets_few {k : Nat} (hk : k ≤ 5) (ws : Webs) (ps : List Int) : ∀ S ∈ sets k ws ps, S.length ≤ 5 := fun S hS => by
  have := sub_asc (sets_sub k ws ps) hS
  have h2 := nodup_sub_len (asc_nodup this.1) fun x hx => mem_pegs.mpr (this.2 x hx)
  rw [pegs_len] at h2
  omega
abbrev sroom_size : Stmt := top 44
abbrev Nroom_size : List Str := ["game", "position"]
theorem scroom_size : FnScope Nroom_size ["game", "position"] (defScope sroom_size) := ⟨rfl, rfl, rfl, by decide +kernel, rfl, by decide +kernel, by decide +kernel⟩
theorem bdroom_size : BindsAll "room_size" "room_size" sroom_size ["game", "position"] := fun _ _ _ _ _ _ us hl => match us, hl with | [_, _], _ => rfl
/-- what room_size promises -/
def sp_room_size (P : Program) (w : World) (CW CG : Addr) : Sp := fun vs H Q _ => ∃ (v : V) (p : Addr) (ps : List Int) (k : Nat) (ws : Webs), vs = [v, .ref p] ∧ GameV CW CG k H v ws ∧ PosV H p ps ∧ ps.length = ws.length ∧ (∀ x ∈ ps, 0 ≤ x ∧ x < (k : Int)) ∧ GmOk k ws ∧ ∀ H', Ex H H' → Q (.int (manyL (sets k ws ps) : Nat)) H'
theorem w_room_size (T : Glb K mg CW CG) (D : Def K mg "room_size" sroom_size) (c_many_in : Cal P w K mg base 1 "many_in" ["sets"] (sp_many_in P w CW CG)) (c_sets_of : Cal P w K mg base 4 "sets_of" ["game", "position"] (sp_sets_of P w CW CG)) : Cal P w K mg base 5 "room_size" ["game", "position"] (sp_room_size P w CW CG) := by
  refine Cal.mk' D scroom_size bdroom_size (fun vs H Q E h => by obtain ⟨v, p, ps, k, ws, rfl, hg, hp, hlen, hps, ok, q⟩ := h; rfl) fun f cdv A outer s H vs Q E hr h => ?_
  obtain ⟨v, p, ps, k, ws, rfl, hg, hp, hlen, hps, ok, q⟩ := h
  refine ⟨_, (pss_one (ps_ret (pe_c c_many_in hr (by rfl) (pa_cons (pe_c c_sets_of hr (by rfl) (pa_cons (pv 0) (pa_cons (pv 1) pa_nil))) pa_nil)))), ?_⟩
  refine ⟨_, rfl, _, rfl, v, p, ps, k, ws, rfl, hg, hp, hlen, hps, ok, fun s2 H2 e2 hs2 => ?_⟩
  obtain ⟨s3, vb, rfl, h1, h2⟩ := hs2.tup_inv
  exact ⟨s3, _, rfl, hs2, sets_few ok.k5 ws ps, q H2 e2⟩


abbrev sis_within : Stmt := top 45
abbrev Nis_within : List Str := ["position", "sets", "peg", "pegs"]
theorem scis_within : FnScope Nis_within ["position", "sets"] (defScope sis_within) := ⟨rfl, rfl, rfl, by decide +kernel, rfl, by decide +kernel, by decide +kernel⟩
theorem bdis_within : BindsAll "is_within" "is_within" sis_within ["position", "sets"] := fun _ _ _ _ _ _ us hl => match us, hl with | [_, _], _ => rfl
/-- what is_within promises -/
def sp_is_within (P : Program) (w : World) (CW CG : Addr) : Sp := fun vs H Q _ => ∃ (p s : Addr) (ps : List Int) (box : List (List Int)), vs = [.ref p, .ref s] ∧ H p = some (.tup (ps.map .int)) ∧ Td H (.ref s) (.tuple (box.map dTI)) ∧ ps.length = box.length ∧ ps.length ≤ 1000 ∧ ∀ b H', Ex H H' → (b = true ↔ InBox box ps) → Q (.bl b) H'
theorem w_is_within (T : Glb K mg CW CG) (D : Def K mg "is_within" sis_within) : Cal P w K mg base 1 "is_within" ["position", "sets"] (sp_is_within P w CW CG) := by
  refine Cal.mk' D scis_within bdis_within (fun vs H Q E h => by obtain ⟨p, s', ps, box, rfl, hp, hs, hlen, h1000, q⟩ := h; rfl) fun f cdv A outer s H vs Q E hr h => ?_
  obtain ⟨p, s', ps, box, rfl, hp, hs, hlen, h1000, q⟩ := h
  refine ⟨_, (pss_one (ps_ret (pe_callB (kall (K := K) rfl rfl) (by rfl) T.n_all bt_all (pa_cons (pe_lc (own := [("peg", 2), ("pegs", 3)]) (tt := tYes) rfl scis_within.nd (RZ.pi_zipA (by rfl) T.n_zip (pa_cons (pv 0) (pa_cons (pv 1) pa_nil))) (blkOk_by (N := Nis_within) (sc := defScope sis_within) (by decide +kernel)) (fun _ _ _ _ _ => (kgTup (K := K) (n := 2) rfl rfl (pgs_cons (pg_name (i := 2) scis_within.nd rfl (Or.inl rfl)) (pgs_cons (pg_name (i := 3) scis_within.nd rfl (Or.inl rfl)) pgs_nil)))) (fun _ _ _ _ _ => pts_nil) (fun _ _ _ _ _ => (pe_cmpR (kin_seq (K := K) rfl) (pv 2) (pv 3) (by rfl)))) pa_nil)))), ?_⟩
  obtain ⟨s'', vb, e, h1, h2⟩ := hs.tup_inv
  cases e
  have hvl : vb.length = box.length := by rw [h2.len, List.length_map]
  refine ⟨_, rfl, _, rfl, p, s', _, _, rfl, .inr ⟨.of hp, .of h1, fun D hD => ?_⟩⟩
  refine lp_zipT (xs := ps.map V.int) (ys := vb) (by rw [List.length_map, hvl, hlen]) (fun i H' => Ex H H' ∧ ∃ bs : List Bool, H' D = some (.lst (bs.map .bl)) ∧ bs.length = i ∧ ∀ (j : Nat) b x S, bs[j]? = some b → ps[j]? = some x → box[j]? = some S → b = decide (x ∈ S)) ⟨Ex.new hD, [], upd_same, rfl, fun j b x S h => by simp at h⟩ (fun i H' p => ⟨.of (p.1 _ _ hp), .of (p.1 _ _ h1)⟩) (fun i x y T' H' hx hy pv hT => ?_) fun H' pv => ?_
  · obtain ⟨e, bs, hD2, hbl, hb⟩ := pv
    rw [List.getElem?_map, Option.map_eq_some_iff] at hx
    obtain ⟨z, hz, rfl⟩ := hx
    obtain ⟨d, hd, td⟩ := h2.get hy
    rw [List.getElem?_map, Option.map_eq_some_iff] at hd
    obtain ⟨S, hS, rfl⟩ := hd
    have en : Ex H' (upd H' T' (.tup [.int z, y])) := Ex.new hT
    obtain ⟨t, rfl, ht⟩ := td_ti ((td.mk e).mk en)
    refine ⟨T', _, rfl, .of upd_same, rfl, _, _, rfl, _, _, rfl, rfl, rfl, ?_⟩
    refine ⟨_, rfl, _, rfl, t, _, rfl, .inr (.of ht), rfl, flat_ints S, bs.map .bl, en _ _ hD2, ?_, (e.trans en).mut hD, bs ++ [decide (z ∈ S)], ?_, by simp [hbl], fun j b x S' h1 h2 h3 => ?_⟩
    · rw [List.length_map, hbl]
      exact small1000 (by have := (List.getElem?_eq_some_iff.mp hz).1; omega)
    · rw [upd_same, List.map_append, isIn]
      rfl
    · by_cases hj : j < i
      · rw [List.getElem?_append_left (by omega)] at h1
        exact hb j b x S' h1 h2 h3
      · have : j = i := by
          have := (List.getElem?_eq_some_iff.mp h1).1
          rw [List.length_append, List.length_singleton] at this
          omega
        subst this
        rw [List.getElem?_append_right (by omega), hbl, Nat.sub_self] at h1
        rw [hz] at h2
        rw [hS] at h3
        cases h2
        cases h3
        exact (Option.some.inj h1).symm
  · obtain ⟨e, bs, hD2, hbl, hb⟩ := pv
    rw [List.length_map] at hbl
    refine ⟨D, bs, rfl, .of hD2, ?_⟩
    refine q _ H' e ?_
    rw [List.all_eq_true]
    constructor
    · intro h d S x hS hx
      have hd : d < bs.length := by rw [hbl]; exact (List.getElem?_eq_some_iff.mp hx).1
      have h1 := hb d bs[d] x S (List.getElem?_eq_getElem hd) hx hS
      have h2 := h bs[d] (List.getElem_mem hd)
      rw [h1] at h2
      simpa using h2
    · intro h b hbm
      obtain ⟨j, hj, rfl⟩ := List.getElem_of_mem hbm
      have hj1 : j < ps.length := by omega
      have hj2 : j < box.length := by omega
      have h1 := hb j bs[j] ps[j] box[j] (List.getElem?_eq_getElem hj) (List.getElem?_eq_getElem hj1) (List.getElem?_eq_getElem hj2)
      have h2 := h j box[j] ps[j] (List.getElem?_eq_getElem hj2) (List.getElem?_eq_getElem hj1)
      show bs[j] = true
      rw [h1, decide_eq_true h2]


abbrev sin_room : Stmt := top 46
abbrev Nin_room : List Str := ["game", "position", "other", "sets"]
theorem scin_room : FnScope Nin_room ["game", "position", "other"] (defScope sin_room) := ⟨rfl, rfl, rfl, by decide +kernel, rfl, by decide +kernel, by decide +kernel⟩
theorem bdin_room : BindsAll "in_room" "in_room" sin_room ["game", "position", "other"] := fun _ _ _ _ _ _ us hl => match us, hl with | [_, _, _], _ => rfl
/-- what in_room promises -/
def sp_in_room (P : Program) (w : World) (CW CG : Addr) : Sp := fun vs H Q _ => ∃ (v : V) (p o : Addr) (ps qs : List Int) (k : Nat) (ws : Webs), vs = [v, .ref p, .ref o] ∧ GameV CW CG k H v ws ∧ PosV H p ps ∧ PosV H o qs ∧ ps.length = ws.length ∧ qs.length = ws.length ∧ (∀ x ∈ ps, 0 ≤ x ∧ x < (k : Int)) ∧ (∀ x ∈ qs, 0 ≤ x ∧ x < (k : Int)) ∧ GmOk k ws ∧ ∀ b H', Ex H H' → (b = true ↔ InBox (sets k ws ps) qs) → Q (.bl b) H'
theorem w_in_room (T : Glb K mg CW CG) (D : Def K mg "in_room" sin_room) (c_sets_of : Cal P w K mg base 4 "sets_of" ["game", "position"] (sp_sets_of P w CW CG)) (c_is_within : Cal P w K mg base 1 "is_within" ["position", "sets"] (sp_is_within P w CW CG)) (c_check_position : Cal P w K mg base 3 "check_position" ["game", "position"] (sp_check_position P w CW CG)) : Cal P w K mg base 5 "in_room" ["game", "position", "other"] (sp_in_room P w CW CG) := by
  refine Cal.mk' D scin_room bdin_room (fun vs H Q E h => by obtain ⟨v, p, o, ps, qs, k, ws, rfl, hg, hp, ho, hlen, hlen2, hps, hqs, ok, q⟩ := h; rfl) fun f cdv A outer s H vs Q E hr h => ?_
  obtain ⟨v, p, o, ps, qs, k, ws, rfl, hg, hp, ho, hlen, hlen2, hps, hqs, ok, q⟩ := h
  refine ⟨_, (pss_cons (ps_set (i := 3) scin_room.nd rfl (Or.inl rfl) (pe_c c_sets_of hr (by rfl) (pa_cons (pv 0) (pa_cons (pv 1) pa_nil))))
  (pss_one (ps_ret (pe_c c_is_within hr (by rfl) (pa_cons (pe_c c_check_position hr (by rfl) (pa_cons (pv 0) (pa_cons (pv 2) pa_nil))) (pa_cons (pv 3) pa_nil)))))), ?_⟩
  refine ⟨_, rfl, _, rfl, v, p, ps, k, ws, rfl, hg, hp, hlen, hps, ok, fun s2 H2 e2 hs2 => ?_⟩
  obtain ⟨s3, vb, rfl, h1, h2⟩ := hs2.tup_inv
  refine ⟨_, rfl, _, rfl, v, o, qs, k, ws, rfl, GameV.mk hg e2, orEx e2 ho, hlen2, hqs, fun r H3 e3 hr3 => ?_⟩
  have := ok.len
  refine ⟨_, rfl, r, s3, qs, _, rfl, hr3, hs2.mk e3, by rw [hlen2, sets_len hlen], by omega, fun b H4 e4 hb => q b H4 ((e2.trans e3).trans e4) hb⟩


abbrev stowers_in : Stmt := top 47
abbrev Ntowers_in : List Str := ["game", "position", "sets", "peg", "pegs"]
theorem sctowers_in : FnScope Ntowers_in ["game", "position"] (defScope stowers_in) := ⟨rfl, rfl, rfl, by decide +kernel, rfl, by decide +kernel, by decide +kernel⟩
theorem bdtowers_in : BindsAll "towers_in" "towers_in" stowers_in ["game", "position"] := fun _ _ _ _ _ _ us hl => match us, hl with | [_, _], _ => rfl
/-- what towers_in promises -/
def sp_towers_in (P : Program) (w : World) (CW CG : Addr) : Sp := fun vs H Q _ => ∃ (v : V) (p : Addr) (ps : List Int) (k : Nat) (ws : Webs), vs = [v, .ref p] ∧ GameV CW CG k H v ws ∧ PosV H p ps ∧ ps.length = ws.length ∧ (∀ x ∈ ps, 0 ≤ x ∧ x < (k : Int)) ∧ GmOk k ws ∧ ∀ (r : Addr) H', Ex H H' → H' r = some (.tup (((pegs k).filter fun x => (sets k ws ps).all fun S => decide (x ∈ S)).map .int)) → Q (.ref r) H'
theorem w_towers_in (T : Glb K mg CW CG) (D : Def K mg "towers_in" stowers_in) (c_sets_of : Cal P w K mg base 4 "sets_of" ["game", "position"] (sp_sets_of P w CW CG)) : Cal P w K mg base 5 "towers_in" ["game", "position"] (sp_towers_in P w CW CG) := by
  refine Cal.mk' D sctowers_in bdtowers_in (fun vs H Q E h => by obtain ⟨v, p, ps, k, ws, rfl, hg, hp, hlen, hps, ok, q⟩ := h; rfl) fun f cdv A outer s H vs Q E hr h => ?_
  obtain ⟨v, p, ps, k, ws, rfl, hg, hp, hlen, hps, ok, q⟩ := h
  refine ⟨_, (pss_cons (ps_set (i := 2) sctowers_in.nd rfl (Or.inr rfl) (pe_c c_sets_of hr (by rfl) (pa_cons (pv 0) (pa_cons (pv 1) pa_nil))))
  (pss_one (ps_ret (pe_callTy (ktuple_of (K := K) rfl) (by rfl) T.n_tuple bt_tuple (pa_cons (pe_lc (own := [("peg", 3)]) (g := gName 3) rfl sctowers_in.nd (pi_range1 (by rfl) T.n_range (pa_cons (kfld (K := K) rfl (pv 0) rfl) pa_nil)) (blkOk_by (N := Ntowers_in) (sc := defScope stowers_in) (by decide +kernel)) (fun _ _ _ _ _ => (pg_name (i := 3) sctowers_in.nd rfl (Or.inr rfl))) (fun _ _ _ _ _ => (pts_one (pt_val (pe_callB (kall (K := K) rfl rfl) (by rfl) T.n_all bt_all (pa_cons (pe_lc (own := [("pegs", 4)]) (g := gName 4) (tt := tYes) rfl sctowers_in.nd (ki_tup (K := K) rfl (pv 2)) (blkOk_by (N := Ntowers_in) (sc := { kind := .function, names := [(".0", .local), ("peg", .cell), ("all", .globalImplicit), ("sets", .cell)], isGenerator := false, isCoroutine := false }) (by decide +kernel)) (fun _ _ _ _ _ => (pg_name (i := 4) sctowers_in.nd rfl (Or.inl rfl))) (fun _ _ _ _ _ => pts_nil) (fun _ _ _ _ _ => (pe_cmpR (kin_seq (K := K) rfl) (pv 3) (pv 4) (by rfl)))) pa_nil))))) (fun _ _ _ _ _ => (pv 3))) pa_nil))))), ?_⟩
  refine ⟨_, rfl, _, rfl, v, p, ps, k, ws, rfl, hg, hp, hlen, hps, ok, fun s2 H2 e2 hs2 => ?_⟩
  obtain ⟨s3, vb, rfl, h1, h2⟩ := hs2.tup_inv
  have hslen : (sets k ws ps).length = ws.length := sets_len hlen
  generalize sets k ws ps = box at h2 q hs2 hslen
  have hg2 := GameV.mk hg e2
  obtain ⟨a, dx, t, vw, rfl, i1, i2, i3⟩ := hg2
  have hk := ok.k5
  have hl40 := ok.len
  have hvl : vb.length = box.length := by rw [h2.len, List.length_map]
  refine ⟨_, rfl, a, CG, dx, _, .int k, rfl, i1, T.cG.cls, T.g_pegs, rfl, k, rfl, by omega, by omega, fun D hD => ?_⟩
  have ptk : ∀ i, i < k → (pegs k).take (i + 1) = (pegs k).take i ++ [(i : Int)] := fun i hi => take_next (by
    unfold pegs
    rw [List.getElem?_map, List.getElem?_range hi]
    rfl)
  refine lc_range (fun i H' => Ex H2 H' ∧ H' D = some (.lst ((((pegs k).take i).filter fun x => box.all fun S => decide (x ∈ S)).map .int))) ⟨Ex.new hD, upd_same⟩ (fun i H' hi pv => ?_) fun H' pv => ?_
  · obtain ⟨e, hD2⟩ := pv
    have hi : i < k := by simpa using hi
    refine ⟨rfl, _, rfl, s3, rfl, ⟨_, .of (e _ _ h1)⟩, fun D3 hD3 => ?_⟩
    refine lc_tup (xs := vb) (fun j H3 => Ex H' H3 ∧ H3 D3 = some (.lst (((box.take j).map fun S => decide ((i : Int) ∈ S)).map .bl))) ⟨Ex.new hD3, upd_same⟩ (fun j H3 _ p => .of (p.1 _ _ (e _ _ h1))) (fun j v H3 hv p => ?_) fun H3 p => ?_
    · obtain ⟨e3, hD4⟩ := p
      obtain ⟨d, hd, td⟩ := h2.get hv
      rw [List.getElem?_map, Option.map_eq_some_iff] at hd
      obtain ⟨S, hS, rfl⟩ := hd
      obtain ⟨t', rfl, ht⟩ := td_ti ((td.mk e).mk e3)
      have htk : box.take (j + 1) = box.take j ++ [S] := take_next hS
      refine ⟨rfl, ?_⟩
      refine ⟨_, rfl, _, rfl, t', _, rfl, .inr (.of ht), rfl, flat_ints S, _, hD4, ?_, e3.mut hD3, ?_⟩
      · rw [List.length_map, List.length_map, List.length_take]
        exact small1000 (by omega)
      · rw [upd_same, htk, List.map_append, List.map_append, Int.zero_add, isIn]
        rfl
    · obtain ⟨e3, hD4⟩ := p
      rw [hvl, List.take_length] at hD4
      refine ⟨D3, _, rfl, .of hD4, _, rfl, ?_⟩
      have hall : ((box.map fun S => decide ((i : Int) ∈ S)).all id) = box.all fun S => decide ((i : Int) ∈ S) := by
        rw [List.all_map]
        rfl
      rw [hall]
      refine ite2 (fun hb => ?_) fun hb => ?_
      · refine ⟨_, rfl, _, e3 _ _ hD2, ?_, (e.trans e3).mut hD, ?_⟩
        · rw [List.length_map]
          have := List.length_filter_le (fun x => box.all fun S => decide (x ∈ S)) ((pegs k).take i)
          rw [List.length_take, pegs_len] at this
          exact small1000 (by omega)
        · rw [upd_same, ptk i hi, List.filter_append, List.map_append, List.filter_cons_of_pos (p := fun x : Int => box.all fun S => decide (x ∈ S)) hb, Int.zero_add]
          rfl
      · refine ⟨e.trans e3, ?_⟩
        rw [ptk i hi, List.filter_append, List.filter_cons_of_neg (p := fun x : Int => box.all fun S => decide (x ∈ S)) hb]
        simpa using e3 _ _ hD2
  · obtain ⟨e, hD2⟩ := pv
    have : ((k : Int)).toNat = k := by simp
    rw [this] at hD2
    have e5 : (pegs k).take k = pegs k := List.take_of_length_le (by rw [pegs_len]; exact Nat.le_refl _)
    rw [e5] at hD2
    refine ⟨D, _, rfl, .inl ⟨.of hD2, fun r hr' => q r _ ((e2.trans e).trans (Ex.new hr')) upd_same⟩⟩


end
end K07
end K07_part_W6

section K07_part_W7
set_option Elab.async false
set_option linter.all false
set_option maxRecDepth 100000
set_option maxHeartbeats 4000000
namespace K07
open PySem PySem.Spec PyProof.Rows L2 Evl
section
variable {P : Program} {w : World} {K : PySem.W.Frag} {mg : Str → Option Value} {base : Heap} {CW CG : Addr}

theorem _root_.L2.Rd.mkE {H H' : Hp} {a : Addr} {u : HO} (h : Rd H a u) (e : Ex H H') : Rd H' a u := ex_rd e h

abbrev s_law_draws : Stmt := top 49
abbrev N_law_draws : List Str := ["_law_script", "_law_numbers", "_law_at", "_law_cell", "_law_flip", "_law_turn", "_law_seed"]
theorem sc_law_draws : FnScope N_law_draws ["_law_script"] (defScope s_law_draws) := ⟨rfl, rfl, rfl, by decide +kernel, rfl, by decide +kernel, by decide +kernel⟩
theorem bd_law_draws : BindsAll "_law_draws" "_law_draws" s_law_draws ["_law_script"] := fun _ _ _ _ _ _ us hl => match us, hl with | [_], _ => rfl
/-- what _law_draws promises -/
def sp__law_draws (P : Program) (w : World) (CW CG : Addr) : Sp := fun vs H Q _ => ∃ (a : Addr) (xs : List Int), vs = [.ref a] ∧ Rd H a (.lst (xs.map .int)) ∧ ∀ (r : V) H', Ex H H' → Drw H' r → Q r H'
theorem w__law_draws (T : Glb K mg CW CG) (D : Def K mg "_law_draws" s_law_draws) : Cal P w K mg base 1 "_law_draws" ["_law_script"] (sp__law_draws P w CW CG) := by
  refine Cal.mk' D sc_law_draws bd_law_draws (fun vs H Q E h => by obtain ⟨a, xs, rfl, ha, q⟩ := h; rfl) fun f cdv A outer s H vs Q E hr h => ?_
  obtain ⟨a, xs, rfl, ha, q⟩ := h
  refine ⟨_, (pss_cons (ps_set (i := 1) sc_law_draws.nd rfl (Or.inl rfl) (pe_lst pa_nil))
  (pss_cons (ps_for PassesOwn.never rfl (pi_range1 (by rfl) T.n_range (pa_cons (pe_callB (call_min2 rfl) (by rfl) T.n_min bt_min (pa_cons (pe_callB (klen (K := K) rfl) (by rfl) T.n_len bt_len (pa_cons (pv 0) pa_nil)) (pa_cons pe_int pa_nil))) pa_nil)) (pg_name (i := 2) sc_law_draws.nd rfl (Or.inl rfl))
  (pss_cons (ps_set (i := 3) sc_law_draws.nd rfl (Or.inl rfl) (pe_callTy call_int1 (by rfl) T.n_int bt_int (pa_cons (pe_ix (kix_list (K := K) rfl) (pv 0) (pv 2) (fun _ _ => rfl)) pa_nil)))
  (pss_cons (ps_set (i := 4) sc_law_draws.nd rfl (Or.inl rfl) pe_int)
  (pss_cut (ps_if (pt_cmpR op_lt (pv 3) pe_int (nomark _)) (pss_cons (ps_set (i := 3) sc_law_draws.nd rfl (Or.inl rfl) (pe_un un_neg (pv 3)))
  (pss_one (ps_set (i := 4) sc_law_draws.nd rfl (Or.inl rfl) pe_int))) pss_nil)
  (pss_one (ps_if (pt_cmpR op_ge (pv 3) (pe_op op_pow pe_int pe_int) (nomark _)) (pss_one (ps_for PassesOwn.never rfl (pi_range1 (by rfl) T.n_range (pa_cons pe_int pa_nil)) (pg_name (i := 5) sc_law_draws.nd rfl (Or.inl rfl))
  (pss_one (ps_if (pt_cmpR op_gt (pv 3) pe_int (nomark _)) (pss_cons (ps_expr (pe_bm PySem.F.plainAttrs_list PySem.F.slot_list_append PySem.F.type_list_append mt_append (pv 1) (pa_cons (pe_op op_mod (pe_callTy call_int1 (by rfl) T.n_int bt_int (pa_cons (pv 3) pa_nil)) pe_int) pa_nil)))
  (pss_one (ps_set (i := 3) sc_law_draws.nd rfl (Or.inl rfl) (pe_op op_fdiv (pv 3) pe_int)))) pss_nil)))) (pss_cons (ps_set (i := 6) sc_law_draws.nd rfl (Or.inl rfl) (pe_op op_mod (pe_callTy call_int1 (by rfl) T.n_int bt_int (pa_cons (pe_op op_add (pe_op op_add (pe_op op_add (pe_op op_mul (pv 3) pe_int) (pe_op op_mul (pv 4) pe_int)) (pe_op op_mul (pv 2) pe_int)) pe_int) pa_nil)) pe_int))
  (pss_one (ps_for PassesOwn.never rfl (pi_range1 (by rfl) T.n_range (pa_cons pe_int pa_nil)) (pg_name (i := 5) sc_law_draws.nd rfl (Or.inl rfl))
  (pss_cons (ps_set (i := 6) sc_law_draws.nd rfl (Or.inl rfl) (pe_op op_mod (pe_callTy call_int1 (by rfl) T.n_int bt_int (pa_cons (pe_op op_add (pe_op op_add (pe_op op_add (pe_op op_mul (pv 6) pe_int) (pe_op op_fdiv (pv 6) pe_int)) (pe_op op_mul (pv 5) pe_int)) pe_int) pa_nil)) pe_int))
  (pss_one (ps_expr (pe_bm PySem.F.plainAttrs_list PySem.F.slot_list_append PySem.F.type_list_append mt_append (pv 1) (pa_cons (pe_op op_fdiv (pv 6) pe_int) pa_nil))))))))))))))
  (pss_one (ps_ret (pe_drw (pa_cons pe_int (pa_cons (pv 1) pa_nil))))))), ?_⟩
  refine ⟨by decide, fun l hl => ?_⟩
  have hsz : ∀ {i : Nat} {ns : List Int}, i < 63 → ns.length ≤ 40 * i + 40 → (ns.map V.int).length < sizeLine := fun {i ns} h1 h2 => Nat.lt_of_le_of_lt (show _ ≤ 10000 by rw [List.length_map]; omega) (by decide)
  refine ⟨_, rfl, a, _, rfl, .inl (.inl (ha.mkE (Ex.new hl))), _, _, rfl, _, rfl, by split <;> omega, ?_, ?_⟩
  · rw [List.length_map]
    split <;> omega
  rw [List.length_map]
  refine for_range (fun i σ H' => Ex H H' ∧ ∃ (ns : List Int) (x y z u w' : Option V), σ = [some (.ref a), some (.ref l), x, y, z, u, w'] ∧ H' l = some (.lst (ns.map .int)) ∧ ns.length ≤ 40 * i) ⟨Ex.new hl, [], none, none, none, none, none, rfl, upd_same, by simp⟩ (fun i σ H' hi p => ?_) fun σ H' p => ?_
  · obtain ⟨e, ns, x, y, z, u, w', rfl, hn, hlen⟩ := p
    have hi2 : i < xs.length ∧ i < 63 := by
      revert hi
      split <;> omega
    obtain ⟨c0, hc0⟩ : ∃ c, xs[i]? = some c := ⟨_, List.getElem?_eq_getElem hi2.1⟩
    refine ⟨_, rfl, _, rfl, a, _, _, .int c0, rfl, rfl, .inl (ha.mkE e), by rw [Int.zero_add]; exact atI_nat (by rw [List.getElem?_map, hc0]; rfl), .inl ⟨c0, rfl, ?_⟩⟩
    refine ⟨fun σ' H2 => H2 = H' ∧ ∃ (c f : Int) (u w' : Option V), σ' = [some (.ref a), some (.ref l), some (.int (0 + i)), some (.int c), some (.int f), u, w'], ?_, ?_⟩
    · refine ⟨_, rfl, _, _, rfl, rfl, _, rfl, ?_⟩
      refine ite2 (fun hb => ?_) fun hb => ?_
      · exact ⟨_, rfl, _, rfl, rfl, _, _, _, _, rfl⟩
      · exact ⟨rfl, _, _, _, _, rfl⟩
    · rintro σ' H2 ⟨rfl, c, f, u, w', rfl⟩
      refine ⟨_, rfl, 10, 18, rfl, rfl, ⟨by decide, by decide, by decide⟩, _, _, rfl, rfl, _, rfl, ?_⟩
      refine ite2 (fun hb => ?_) fun hb => ?_
      · refine ⟨40, rfl, by decide, by decide, ?_⟩
        refine for_range (fun j σ H3 => Ex H H3 ∧ ∃ (ns : List Int) (c : Int) (u : Option V), σ = [some (.ref a), some (.ref l), some (.int (0 + i)), some (.int c), some (.int f), u, w'] ∧ H3 l = some (.lst (ns.map .int)) ∧ ns.length ≤ 40 * i + j) ⟨e, ns, c, u, rfl, hn, by omega⟩ (fun j σ H3 hj p => ?_) fun σ H3 p => ?_
        · obtain ⟨e3, ns, c, u, rfl, hn, hlen⟩ := p
          have hj : j < 40 := hj
          refine ⟨_, rfl, _, _, rfl, rfl, _, rfl, ?_⟩
          refine ite2 (fun hb => ?_) fun hb => ?_
          · refine ⟨_, rfl, .inl ⟨rfl, _, .of hn⟩, _, rfl, .inl ⟨c, rfl, _, _, rfl, rfl, (show (0 : Int) < 36 by decide), l, _, _, rfl, rfl, hn, hsz hi2.2 (by omega), ?_⟩⟩
            refine ⟨_, rfl, _, _, rfl, rfl, ⟨by decide, by decide⟩, e3.mut hl, ns ++ [c % 36], _, _, rfl, ?_, by rw [List.length_append, List.length_singleton]; omega⟩
            rw [upd_same, List.map_append]
            rfl
          · exact ⟨e3, ns, c, _, rfl, hn, by omega⟩
        · obtain ⟨e3, ns, c, u, rfl, hn, hlen⟩ := p
          have h40 : (40 : Int).toNat = 40 := rfl
          rw [h40] at hlen
          exact ⟨e3, ns, _, _, _, _, _, rfl, hn, by omega⟩
      · refine ⟨_, rfl, _, _, rfl, rfl, .inr (by decide), _, rfl, _, _, rfl, rfl, .inr (by decide), _, _, rfl, rfl, _, rfl, _, _, rfl, rfl, .inr (by decide), _, _, rfl, rfl, _, _, rfl, rfl, .inl ⟨_, rfl, _, _, rfl, rfl, (show (0 : Int) < 2147483563 by decide), ?_⟩⟩
        refine ⟨6, rfl, by decide, by decide, ?_⟩
        refine for_range (fun j σ H3 => Ex H H3 ∧ ∃ (ns : List Int) (sd : Int) (u : Option V), σ = [some (.ref a), some (.ref l), some (.int (0 + i)), some (.int c), some (.int f), u, some (.int sd)] ∧ H3 l = some (.lst (ns.map .int)) ∧ ns.length ≤ 40 * i + j) ⟨e, ns, _, u, rfl, hn, by omega⟩ (fun j σ H3 hj p => ?_) fun σ H3 p => ?_
        · obtain ⟨e3, ns, sd, u, rfl, hn, hlen⟩ := p
          have hj : j < 6 := hj
          refine ⟨_, rfl, _, _, rfl, rfl, .inr (by decide), _, rfl, _, _, rfl, rfl, ⟨by decide, by decide⟩, _, _, rfl, rfl, _, rfl, _, _, rfl, rfl, .inr (by decide), _, _, rfl, rfl, _, _, rfl, rfl, .inl ⟨_, rfl, _, _, rfl, rfl, (show (0 : Int) < 2147483399 by decide), ?_⟩⟩
          refine ⟨_, rfl, .inl ⟨rfl, _, .of hn⟩, _, rfl, _, _, rfl, rfl, ⟨by decide, by decide⟩, l, _, _, rfl, rfl, hn, hsz hi2.2 (by omega), e3.mut hl, ns ++ [((sd * 40692 + sd / 53668 + (0 + (j : Int)) * 97 + 5) % 2147483399) / 16], _, _, rfl, ?_, by rw [List.length_append, List.length_singleton]; omega⟩
          rw [upd_same, List.map_append]
          rfl
        · obtain ⟨e3, ns, sd, u, rfl, hn, hlen⟩ := p
          have h6 : (6 : Int).toNat = 6 := rfl
          rw [h6] at hlen
          exact ⟨e3, ns, _, _, _, _, _, rfl, hn, by omega⟩
  · obtain ⟨e, ns, x, y, z, u, w', rfl, hn, hlen⟩ := p
    refine ⟨_, rfl, 0, l, rfl, by decide, fun d hd => ?_⟩
    exact q (.ref d) _ (e.trans (Ex.new hd)) ⟨d, l, ns, rfl, upd_same, Ex.new hd _ _ hn⟩


abbrev s_law_take : Stmt := top 50
abbrev N_law_take : List Str := ["_law_draws_here", "_law_many", "_law_at"]
theorem sc_law_take : FnScope N_law_take ["_law_draws_here", "_law_many"] (defScope s_law_take) := ⟨rfl, rfl, rfl, by decide +kernel, rfl, by decide +kernel, by decide +kernel⟩
theorem bd_law_take : BindsAll "_law_take" "_law_take" s_law_take ["_law_draws_here", "_law_many"] := fun _ _ _ _ _ _ us hl => match us, hl with | [_, _], _ => rfl
/-- what _law_take promises -/
def sp__law_take (P : Program) (w : World) (CW CG : Addr) : Sp := fun vs H Q _ => ∃ (d : V) (m : Int), vs = [d, .int m] ∧ Drw H d ∧ 0 < m ∧ ∀ r, 0 ≤ r → r < m → Q (.int r) H
theorem w__law_take (T : Glb K mg CW CG) (D : Def K mg "_law_take" s_law_take) : Cal P w K mg base 1 "_law_take" ["_law_draws_here", "_law_many"] (sp__law_take P w CW CG) := by
  refine Cal.mk' D sc_law_take bd_law_take (fun vs H Q E h => by obtain ⟨d, m, rfl, hd, hm, q⟩ := h; rfl) fun f cdv A outer s H vs Q E hr h => ?_
  obtain ⟨d, m, rfl, hd, hm, q⟩ := h
  refine ⟨_, (pss_cons (ps_set (i := 2) sc_law_take.nd rfl (Or.inl rfl) (pe_ix ix_draw (pv 0) pe_int (fun _ _ => rfl)))
  (pss_cons (ps_if (pt_cmpR op_ge (pv 2) (pe_callB (klen (K := K) rfl) (by rfl) T.n_len bt_len (pa_cons (pe_ix ix_draw (pv 0) pe_int (fun _ _ => rfl)) pa_nil)) (nomark _)) (pss_one (ps_ret pe_int)) pss_nil)
  (pss_cons (ps_asg (pe_op op_add (pv 2) pe_int) (pg_sub (pv 0) pe_int set_draw))
  (pss_one (ps_ret (pe_op op_mod (pe_callTy call_int1 (by rfl) T.n_int bt_int (pa_cons (pe_ix (kix_list (K := K) rfl) (pe_ix ix_draw (pv 0) pe_int (fun _ _ => rfl)) (pv 2) (fun _ _ => rfl)) pa_nil)) (pv 1))))))), ?_⟩
  obtain ⟨a, p, ns, rfl, ha, hp⟩ := hd
  refine ⟨_, rfl, a, p, rfl, ha, .inl ⟨rfl, fun i hi => ?_⟩⟩
  refine ⟨_, rfl, _, rfl, a, p, rfl, ha, .inr ⟨rfl, p, _, rfl, .inl (.of hp), _, _, rfl, rfl, _, rfl, ?_⟩⟩
  rw [List.length_map]
  refine ite2 (fun hb => ?_) fun hb => ?_
  · exact q 0 (by omega) hm
  · have hlt : i.toNat < ns.length := by
      have : ¬ ((ns.length : Nat) : Int) ≤ i := by simpa using hb
      omega
    obtain ⟨z, hz⟩ : ∃ z, ns[i.toNat]? = some z := ⟨_, List.getElem?_eq_getElem hlt⟩
    have hat : atI (ns.map V.int) i = some (.int z) := by
      have := atI_nat (xs := ns.map V.int) (j := i.toNat) (v := .int z) (by rw [List.getElem?_map, hz]; rfl)
      rw [Int.toNat_of_nonneg hi] at this
      exact this
    refine ⟨_, rfl, _, _, rfl, rfl, _, rfl, a, p, _, rfl, rfl, rfl, by omega, ha, ?_⟩
    refine ⟨_, rfl, a, p, rfl, ha, .inr ⟨rfl, _, rfl, p, _, i, _, rfl, rfl, .of hp, hat, .inl ⟨z, rfl, _, rfl, _, _, rfl, rfl, hm, ?_⟩⟩⟩
    exact q _ (Int.emod_nonneg _ (by omega)) (Int.emod_lt_of_pos _ hm)


abbrev s_law_is_int : Stmt := top 51
abbrev N_law_is_int : List Str := ["_law_thing"]
theorem sc_law_is_int : FnScope N_law_is_int ["_law_thing"] (defScope s_law_is_int) := ⟨rfl, rfl, rfl, by decide +kernel, rfl, by decide +kernel, by decide +kernel⟩
theorem bd_law_is_int : BindsAll "_law_is_int" "_law_is_int" s_law_is_int ["_law_thing"] := fun _ _ _ _ _ _ us hl => match us, hl with | [_], _ => rfl
/-- what _law_is_int promises -/
def sp__law_is_int (P : Program) (w : World) (CW CG : Addr) : Sp := fun vs H Q _ => ∃ i, vs = [.int i] ∧ Q (.bl true) H
theorem w__law_is_int (T : Glb K mg CW CG) (D : Def K mg "_law_is_int" s_law_is_int) : Cal P w K mg base 1 "_law_is_int" ["_law_thing"] (sp__law_is_int P w CW CG) := by
  refine Cal.mk' D sc_law_is_int bd_law_is_int (fun vs H Q E h => by obtain ⟨i, rfl, q⟩ := h; rfl) fun f cdv A outer s H vs Q E hr h => ?_
  obtain ⟨i, rfl, q⟩ := h
  refine ⟨_, (pss_one (ps_ret (pe_and (pe_callB call_isi (by rfl) T.n_isinstance bt_isinstance (pa_cons (pv 0) (pa_cons (pe_ty (by rfl) T.n_int bt_int) pa_nil))) (pe_one (pe_not (pe_callB call_isi (by rfl) T.n_isinstance bt_isinstance (pa_cons (pv 0) (pa_cons (pe_ty (by rfl) T.n_bool bt_bool) pa_nil)))))))), ?_⟩
  exact ⟨_, rfl, _, .ty "int", .type "int", _, true, rfl, .ty _, .base (.int i), kit_ty (by decide +kernel), true, rfl, _, rfl, _, .ty "bool", .type "int", _, false, rfl, .ty _, .base (.int i), kit_ty (by decide +kernel), false, rfl, q⟩


abbrev s_law_is_row : Stmt := top 52
abbrev N_law_is_row : List Str := ["_law_thing", "_law_many"]
theorem sc_law_is_row : FnScope N_law_is_row ["_law_thing", "_law_many"] (defScope s_law_is_row) := ⟨rfl, rfl, rfl, by decide +kernel, rfl, by decide +kernel, by decide +kernel⟩
theorem bd_law_is_row : BindsAll "_law_is_row" "_law_is_row" s_law_is_row ["_law_thing", "_law_many"] := fun _ _ _ _ _ _ us hl => match us, hl with | [_, _], _ => rfl
/-- what _law_is_row promises -/
def sp__law_is_row (P : Program) (w : World) (CW CG : Addr) : Sp := fun vs H Q _ => ∃ (t : Addr) (xs : List V) (n : Nat), vs = [.ref t, .int n] ∧ H t = some (.tup xs) ∧ xs.length = n ∧ Q (.bl true) H
theorem w__law_is_row (T : Glb K mg CW CG) (D : Def K mg "_law_is_row" s_law_is_row) : Cal P w K mg base 1 "_law_is_row" ["_law_thing", "_law_many"] (sp__law_is_row P w CW CG) := by
  refine Cal.mk' D sc_law_is_row bd_law_is_row (fun vs H Q E h => by obtain ⟨t, xs, n, rfl, ht, hn, q⟩ := h; rfl) fun f cdv A outer s H vs Q E hr h => ?_
  obtain ⟨t, xs, n, rfl, ht, hn, q⟩ := h
  refine ⟨_, (pss_one (ps_ret (pe_and (pe_callB call_isi (by rfl) T.n_isinstance bt_isinstance (pa_cons (pv 0) (pa_cons (pe_ty (by rfl) T.n_tuple bt_tuple) pa_nil))) (pe_one (pe_cmpR op_eq (pe_callB (klen (K := K) rfl) (by rfl) T.n_len bt_len (pa_cons (pv 0) pa_nil)) (pv 1) (nomark _)))))), ?_⟩
  refine ⟨_, rfl, .ref t, .ty "tuple", .type "tuple", _, true, rfl, .ty _, .base (.tup ht), kit_ty (by decide +kernel), true, rfl, ?_⟩
  refine ⟨_, rfl, t, xs, rfl, .inr (.of ht), _, rfl, rfl, ?_⟩
  rw [hn, decide_eq_true rfl]
  exact q


abbrev s_law_is_pegs : Stmt := top 53
abbrev N_law_is_pegs : List Str := ["_law_thing", "_law_pegs", "_law_last", "_law_peg"]
theorem sc_law_is_pegs : FnScope N_law_is_pegs ["_law_thing", "_law_pegs"] (defScope s_law_is_pegs) := ⟨rfl, rfl, rfl, by decide +kernel, rfl, by decide +kernel, by decide +kernel⟩
theorem bd_law_is_pegs : BindsAll "_law_is_pegs" "_law_is_pegs" s_law_is_pegs ["_law_thing", "_law_pegs"] := fun _ _ _ _ _ _ us hl => match us, hl with | [_, _], _ => rfl
/-- what _law_is_pegs promises -/
def sp__law_is_pegs (P : Program) (w : World) (CW CG : Addr) : Sp := fun vs H Q _ => ∃ (t : Addr) (ns : List Int) (k : Int), vs = [.ref t, .int k] ∧ H t = some (.tup (ns.map .int)) ∧ ns.Pairwise (· < ·) ∧ (∀ x ∈ ns, 0 ≤ x ∧ x < k) ∧ Q (.bl true) H
theorem w__law_is_pegs (T : Glb K mg CW CG) (D : Def K mg "_law_is_pegs" s_law_is_pegs) (c__law_is_int : Cal P w K mg base 1 "_law_is_int" ["_law_thing"] (sp__law_is_int P w CW CG)) : Cal P w K mg base 2 "_law_is_pegs" ["_law_thing", "_law_pegs"] (sp__law_is_pegs P w CW CG) := by
  refine Cal.mk' D sc_law_is_pegs bd_law_is_pegs (fun vs H Q E h => by obtain ⟨t, ns, k, rfl, ht, hasc, hk, q⟩ := h; rfl) fun f cdv A outer s H vs Q E hr h => ?_
  obtain ⟨t, ns, k, rfl, ht, hasc, hk, q⟩ := h
  refine ⟨_, (pss_cons (ps_if (pt_not (pt_val (pe_callB call_isi (by rfl) T.n_isinstance bt_isinstance (pa_cons (pv 0) (pa_cons (pe_ty (by rfl) T.n_tuple bt_tuple) pa_nil))))) (pss_one (ps_ret pe_bl)) pss_nil)
  (pss_cons (ps_set (i := 2) sc_law_is_pegs.nd rfl (Or.inl rfl) (pe_un un_neg pe_int))
  (pss_cons (ps_for PassesOwn.never rfl (ki_tup (K := K) rfl (pv 0)) (pg_name (i := 3) sc_law_is_pegs.nd rfl (Or.inl rfl))
  (pss_cons (ps_if (PW.pt (pw_or (pt_not (pt_val (pe_c c__law_is_int hr (by rfl) (pa_cons (pv 3) pa_nil)))) (pw_or (pt_cmpR op_le (pv 3) (pv 2) (nomark _)) (pw_or1 (pt_cmpR op_ge (pv 3) (pv 1) (nomark _)))))) (pss_one (ps_ret pe_bl)) pss_nil)
  (pss_one (ps_set (i := 2) sc_law_is_pegs.nd rfl (Or.inl rfl) (pv 3)))))
  (pss_one (ps_ret pe_bl))))), ?_⟩
  refine ⟨_, rfl, .ref t, .ty "tuple", .type "tuple", _, true, rfl, .ty _, .base (.tup ht), kit_ty (by decide +kernel), _, rfl, _, rfl, ?_⟩
  refine ⟨_, rfl, t, rfl, ⟨_, .of ht⟩, ?_⟩
  refine for_tup (xs := ns.map V.int) (fun i σ H' => H' = H ∧ ∃ (c : Int) (x : Option V), σ = [some (.ref t), some (.int k), some (.int c), x] ∧ ∀ y, ns[i]? = some y → c < y) ⟨rfl, -1, none, rfl, fun y hy => by have := hk y (List.mem_of_getElem? hy); omega⟩ (fun i σ H' _ p => by rw [p.1]; exact .of ht) (fun i v σ H' hv p => ?_) fun σ H' p => ?_
  · obtain ⟨rfl, c, x, rfl, hc⟩ := p
    rw [List.getElem?_map, Option.map_eq_some_iff] at hv
    obtain ⟨z, hz, rfl⟩ := hv
    have h1 := hc z hz
    have h2 := hk z (List.mem_of_getElem? hz)
    refine ⟨_, rfl, z, rfl, true, rfl, _, rfl, _, rfl, _, _, rfl, rfl, _, rfl, ?_⟩
    rw [decide_eq_false (by omega)]
    refine ⟨_, rfl, _, rfl, _, _, rfl, rfl, _, rfl, ?_⟩
    rw [decide_eq_false (by omega)]
    refine ⟨_, rfl, rfl, z, _, rfl, fun y hy => ?_⟩
    have := List.pairwise_iff_getElem.mp hasc i (i + 1) (List.getElem?_eq_some_iff.mp hz).1 (List.getElem?_eq_some_iff.mp hy).1 (by omega)
    rw [(List.getElem?_eq_some_iff.mp hz).2, (List.getElem?_eq_some_iff.mp hy).2] at this
    exact this
  · obtain ⟨rfl, _⟩ := p
    exact q
  /-- a guard of pegs below i -/
  structure GdOk (a b i : Int) (g : List Int) : Prop where
    asc : g.Pairwise (· < ·)
    gk : ∀ x ∈ g, 0 ≤ x ∧ x < i
    an : a ∉ g
    bn : b ∉ g
  theorem GdOk.mono {a b i j : Int} {g : List Int} (h : GdOk a b i g) (hj : i ≤ j) : GdOk a b j g := ⟨h.asc, fun x hx => by have := h.gk x hx; omega, h.an, h.bn⟩
  theorem GdOk.snoc {a b i : Int} {g : List Int} (h : GdOk a b i g) (h0 : 0 ≤ i) (ha : i ≠ a) (hb : i ≠ b) : GdOk a b (i + 1) (g ++ [i]) := by
    refine ⟨?_, fun x hx => ?_, fun hx => ?_, fun hx => ?_⟩
    · rw [List.pairwise_append]
      refine ⟨h.asc, by simp, fun x hx y hy => ?_⟩
      rw [List.mem_singleton] at hy
      subst hy
      exact (h.gk x hx).2
    · rw [List.mem_append, List.mem_singleton] at hx
      rcases hx with hx | rfl
      · have := h.gk x hx; omega
      · omega
    · rw [List.mem_append, List.mem_singleton] at hx
      rcases hx with hx | rfl
      · exact h.an hx
      · exact ha rfl
    · rw [List.mem_append, List.mem_singleton] at hx
      rcases hx with hx | rfl
      · exact h.bn hx
      · exact hb rfl
  /-- t + (x,) of tuples of ints -/
  theorem cat_one {H : Hp} {t b : Addr} {ns : List Int} {x : Int} {Q : VK} (ht : H t = some (.tup (ns.map V.int))) (hb : H b = some (.tup [.int x])) (hn : ns.length ≤ 1000) (q : ∀ r H', Ex H H' → Td H' (.ref r) (dTI (ns ++ [x])) → Q (.ref r) H') : rCatA K (.ref t) (.ref b) H Q := by
    refine ⟨t, b, _, _, rfl, rfl, .of ht, .of hb, line_ok (by rw [List.length_map, List.length_singleton]; omega), fun h => ?_, fun _ h => by simp at h, fun _ _ p hp => ?_⟩
    · have : ns = [] := by simpa using h
      subst this
      exact q b H (Ex.refl H) (td_ti' hb)
    · refine q p _ (Ex.new hp) (td_ti' ?_)
      rw [upd_same, List.map_append]
      rfl


abbrev s_law_guards : Stmt := top 54
abbrev N_law_guards : List Str := ["_law_pegs", "_law_start", "_law_stop", "_law_rows", "_law_peg", "_law_row"]
theorem sc_law_guards : FnScope N_law_guards ["_law_pegs", "_law_start", "_law_stop"] (defScope s_law_guards) := ⟨rfl, rfl, rfl, by decide +kernel, rfl, by decide +kernel, by decide +kernel⟩
theorem bd_law_guards : BindsAll "_law_guards" "_law_guards" s_law_guards ["_law_pegs", "_law_start", "_law_stop"] := fun _ _ _ _ _ _ us hl => match us, hl with | [_, _, _], _ => rfl
/-- what _law_guards promises -/
def sp__law_guards (P : Program) (w : World) (CW CG : Addr) : Sp := fun vs H Q _ => ∃ (k : Nat) (a b : Int), vs = [.int k, .int a, .int b] ∧ 3 ≤ k ∧ k ≤ 5 ∧ ∀ (r : Addr) H' vr (gs : List (List Int)), Ex H H' → H' r = some (.lst vr) → TdA H' vr (gs.map dTI) → gs.length ≤ 32 → (∀ g ∈ gs, GdOk a b k g ∧ g ≠ []) → (∃ g ∈ gs, g.length = 1) → Q (.ref r) H'
theorem w__law_guards (T : Glb K mg CW CG) (D : Def K mg "_law_guards" s_law_guards) : Cal P w K mg base 1 "_law_guards" ["_law_pegs", "_law_start", "_law_stop"] (sp__law_guards P w CW CG) := by
  refine Cal.mk' D sc_law_guards bd_law_guards (fun vs H Q E h => by obtain ⟨k, a, b, rfl, hk3, hk, q⟩ := h; rfl) fun f cdv A outer s H vs Q E hr h => ?_
  obtain ⟨k, a, b, rfl, hk3, hk, q⟩ := h
  refine ⟨_, (pss_cons (ps_set (i := 3) sc_law_guards.nd rfl (Or.inl rfl) (pe_lst (pa_cons (pe_tup pa_nil) pa_nil)))
  (pss_cons (ps_for PassesOwn.never rfl (pi_range1 (by rfl) T.n_range (pa_cons (pv 0) pa_nil)) (pg_name (i := 4) sc_law_guards.nd rfl (Or.inr rfl))
  (pss_one (ps_if (PW.pt (pw_and (pt_cmpR op_ne (pv 4) (pv 1) (nomark _)) (pw_and1 (pt_cmpR op_ne (pv 4) (pv 2) (nomark _))))) (pss_one (ps_set (i := 3) sc_law_guards.nd rfl (Or.inl rfl) (pe_op op_cat (pv 3) (pe_lc (own := [("_law_row", 5)]) (g := gName 5) (tt := tYes) rfl sc_law_guards.nd (ki_list (K := K) rfl (pv 3)) (blkOk_by (N := N_law_guards) (sc := defScope s_law_guards) (by decide +kernel)) (fun _ _ _ _ _ => (pg_name (i := 5) sc_law_guards.nd rfl (Or.inl rfl))) (fun _ _ _ _ _ => pts_nil) (fun _ _ _ _ _ => (pe_op (kcatA (K := K) rfl) (pv 5) (pe_tup (pa_cons (pv 4) pa_nil)))))))) pss_nil)))
  (pss_one (ps_ret (pe_slice (kslL (K := K) rfl) (pv 3) (po_some pe_int) po_none))))), ?_⟩
  refine ⟨by decide, fun t ht => ⟨by simpa using line_ok (by simp), fun l hl => ?_⟩⟩
  have E0 : Ex H (upd (upd H t (.tup [])) l (.lst [.ref t])) := (Ex.new ht).trans (Ex.new hl)
  have ht0 : upd (upd H t (.tup [])) l (.lst [.ref t]) t = some (.tup []) := Ex.new hl _ _ upd_same
  refine ⟨_, rfl, (k : Int), rfl, by omega, by omega, ?_⟩
  refine for_range (fun i σ H' => Ex H H' ∧ ∃ (l : Addr) (v0 : V) (vr : List V) (gs : List (List Int)) (x y : Option V), σ = [some (.int k), some (.int a), some (.int b), some (.ref l), x, y] ∧ H' l = some (.lst (v0 :: vr)) ∧ Td H' v0 (dTI []) ∧ TdA H' vr (gs.map dTI) ∧ gs.length + 1 ≤ 2 ^ i ∧ (∀ g ∈ gs, GdOk a b i g ∧ g ≠ []) ∧
    ((∃ c : Int, 0 ≤ c ∧ c < i ∧ c ≠ a ∧ c ≠ b) → ∃ g ∈ gs, g.length = 1)) ⟨E0, l, .ref t, [], [], none, none, rfl, upd_same, td_ti' ht0, .nil, by simp, by simp, fun ⟨c, h1, h2, _⟩ => by omega⟩ (fun i σ H' hi p => ?_) fun σ H' p => ?_
  · obtain ⟨e, l, v0, vr, gs, x, y, rfl, hl, hv0, hvr, hlen, hok, hone⟩ := p
    have hi : i < k := by simpa using hi
    have h32 : (2 : Nat) ^ i ≤ 16 := Nat.le_trans (Nat.pow_le_pow_right (by omega) (by omega : i ≤ 4)) (by decide)
    have skip : ((i : Int) = a ∨ (i : Int) = b) → ∀ x, (fun (i : Nat) (σ : L2.St) H' => Ex H H' ∧ ∃ (l : Addr) (v0 : V) (vr : List V) (gs : List (List Int)) (x y : Option V), σ = [some (.int k), some (.int a), some (.int b), some (.ref l), x, y] ∧ H' l = some (.lst (v0 :: vr)) ∧ Td H' v0 (dTI []) ∧ TdA H' vr (gs.map dTI) ∧ gs.length + 1 ≤ 2 ^ i ∧ (∀ g ∈ gs, GdOk a b i g ∧ g ≠ []) ∧
        ((∃ c : Int, 0 ≤ c ∧ c < i ∧ c ≠ a ∧ c ≠ b) → ∃ g ∈ gs, g.length = 1)) (i + 1) [some (.int k), some (.int a), some (.int b), some (.ref l), x, y] H' := fun hab x => by
      refine ⟨e, l, v0, vr, gs, _, _, rfl, hl, hv0, hvr, by rw [Nat.pow_succ]; omega, fun g hg => ⟨(hok g hg).1.mono (by omega), (hok g hg).2⟩, fun ⟨c, h1, h2, h3, h4⟩ => hone ⟨c, h1, ?_, h3, h4⟩⟩
      omega
    refine ⟨_, rfl, _, rfl, rfl, _, rfl, ?_⟩
    rw [Int.zero_add]
    refine ite2 (fun ha => ?_) fun ha => ?_
    · have ha : (i : Int) ≠ a := by simpa using ha
      refine ⟨_, rfl, _, rfl, rfl, _, rfl, ?_⟩
      refine ite2 (fun hb => ?_) fun hb => ?_
      · have hb : (i : Int) ≠ b := by simpa using hb
        refine ⟨_, rfl, _, rfl, l, rfl, ⟨_, .of hl⟩, fun D hD => ?_⟩
        have tdall : TdA H' (v0 :: vr) (([] :: gs).map dTI) := .cons hv0 hvr
        refine lc_list (xs := v0 :: vr) (fun j H3 => Ex H' H3 ∧ ∃ zs, H3 D = some (.lst zs) ∧ TdA H3 zs (((([] :: gs).take j).map fun g => g ++ [(i : Int)]).map dTI)) ⟨Ex.new hD, [], upd_same, .nil⟩ (fun j H3 _ p => .of (p.1 _ _ hl)) (fun j v H3 hv p => ?_) fun H3 p => ?_
        · obtain ⟨e3, zs, hD2, tz⟩ := p
          obtain ⟨d, hd, td⟩ := tdall.get hv
          rw [List.getElem?_map, Option.map_eq_some_iff] at hd
          obtain ⟨g, hg, rfl⟩ := hd
          obtain ⟨t, rfl, ht⟩ := td_ti (td.mk e3)
          have htk : (([] : List Int) :: gs).take (j + 1) = ([] :: gs).take j ++ [g] := take_next hg
          have hgl : g.length ≤ 1000 := by
            rcases List.mem_cons.mp (List.mem_of_getElem? hg) with rfl | h
            · simp
            · have := few_guards (gs := [g]) (k := k) hk (by simp) (fun g' hg' => by
                rw [List.mem_singleton] at hg'
                subst hg'
                exact ⟨(hok _ h).1.asc, fun x hx => by have := (hok _ h).1.gk x hx; omega⟩)
              have h2 := nodup_sub_len (asc_nodup (hok _ h).1.asc) fun x hx => mem_pegs.mpr (show 0 ≤ x ∧ x < ((k : Nat) : Int) by have := (hok _ h).1.gk x hx; omega)
              rw [pegs_len] at h2
              omega
          refine ⟨rfl, _, rfl, _, rfl, line_ok (by simp), fun c hc => ?_⟩
          have e4 := Ex.new (o := .tup [.int (i : Int)]) hc
          refine cat_one (x := (i : Int)) (e4 _ _ ht) upd_same hgl fun r H5 e5 hr5 => ?_
          have e6 := e4.trans e5
          have hzl : zs.length ≤ 1000 := by
            rw [tz.len, List.length_map, List.length_map, List.length_take, List.length_cons]
            omega
          refine ⟨zs, e6 _ _ hD2, small1000 hzl, (e3.trans e6).mut hD, _, upd_same, ?_⟩
          have tk := Tk.mut (Tk.refl _) (no_tupL (e6 _ _ hD2)) (o := .lst (zs ++ [V.ref r]))
          rw [htk, List.map_append, List.map_append]
          exact TdA.snoc ((tz.mk e6).mono tk) (hr5.mono tk)
        · obtain ⟨e3, zs, hD2, tz⟩ := p
          have hl3 : (v0 :: vr).length = ([] :: gs).length := by rw [List.length_cons, List.length_cons, hvr.len, List.length_map]
          rw [hl3, List.take_length] at tz
          have hzl : zs.length = gs.length + 1 := by rw [tz.len, List.length_map, List.length_map, List.length_cons]
          have hvl : vr.length = gs.length := by rw [hvr.len, List.length_map]
          refine ⟨l, D, _, _, rfl, rfl, e3 _ _ hl, hD2, line_ok (by rw [List.length_cons]; omega), fun p hp => ?_⟩
          have e4 := Ex.new (o := .lst ((v0 :: vr) ++ zs)) hp
          refine ⟨e.trans (e3.trans e4), p, v0, vr ++ zs, gs ++ (([] :: gs).map fun g => g ++ [(i : Int)]), _, _, rfl, upd_same, (hv0.mk e3).mk e4, ?_, ?_, ?_, ?_⟩
          · rw [List.map_append]
            exact ((hvr.mk e3).mk e4).app (tz.mk e4)
          · rw [List.length_append, List.length_map, List.length_cons, Nat.pow_succ]
            omega
          · intro g hg
            rw [List.mem_append] at hg
            rcases hg with hg | hg
            · exact ⟨(hok g hg).1.mono (by omega), (hok g hg).2⟩
            · obtain ⟨g', hg', rfl⟩ := List.mem_map.mp hg
              refine ⟨?_, by simp⟩
              rcases List.mem_cons.mp hg' with rfl | h
              · have : GdOk a b i [] := ⟨by simp, by simp, by simp, by simp⟩
                have := this.snoc (by omega) ha hb
                simpa using this
              · have := ((hok _ h).1).snoc (by omega) ha hb
                simpa using this
          · intro _
            exact ⟨[(i : Int)], by simp, by simp⟩
      · have hb : (i : Int) = b := by simpa using hb
        exact skip (.inr hb) _
    · have ha : (i : Int) = a := by simpa using ha
      exact skip (.inl ha) _
  · obtain ⟨e, l, v0, vr, gs, x, y, rfl, hl, hv0, hvr, hlen, hok, hone⟩ := p
    have hk' : ((k : Int) - 0).toNat = k := by simp
    have hk2 : ((k : Int)).toNat = k := by simp
    rw [hk2] at hlen hok hone
    refine ⟨_, rfl, _, rfl, l, _, rfl, .of hl, fun p hp => ?_⟩
    have hcut : cutV (v0 :: vr) (some 1) none = vr := by
      unfold cutV
      have h1 := HT.sIx_nat (v0 :: vr).length 0 1
      rw [show ((1 : Nat) : Int) = 1 from rfl] at h1
      rw [h1, HT.sIx_none, List.length_cons, Nat.min_eq_left (by omega)]
      simp
    rw [hcut]
    have e4 := Ex.new (o := .lst vr) hp
    refine q p _ vr gs (e.trans e4) upd_same (hvr.mk e4) ?_ hok ?_
    · have : (2 : Nat) ^ k ≤ 32 := Nat.le_trans (Nat.pow_le_pow_right (by omega) hk) (by decide)
      omega
    · refine hone ?_
      by_cases h0 : (0 : Int) ≠ a ∧ (0 : Int) ≠ b
      · exact ⟨0, by omega, by omega, h0.1, h0.2⟩
      · by_cases h1 : (1 : Int) ≠ a ∧ (1 : Int) ≠ b
        · exact ⟨1, by omega, by omega, h1.1, h1.2⟩
        · exact ⟨2, by omega, by omega, by omega, by omega⟩
  theorem eqS {x y : Str} : scal (.str x) (.str y) = true := rfl


abbrev s_law_guard : Stmt := top 55
abbrev N_law_guard : List Str := ["_law_draws_here", "_law_pegs", "_law_start", "_law_stop", "_law_kind_here", "_law_rows", "_law_row"]
theorem sc_law_guard : FnScope N_law_guard ["_law_draws_here", "_law_pegs", "_law_start", "_law_stop", "_law_kind_here"] (defScope s_law_guard) := ⟨rfl, rfl, rfl, by decide +kernel, rfl, by decide +kernel, by decide +kernel⟩
theorem bd_law_guard : BindsAll "_law_guard" "_law_guard" s_law_guard ["_law_draws_here", "_law_pegs", "_law_start", "_law_stop", "_law_kind_here"] := fun _ _ _ _ _ _ us hl => match us, hl with | [_, _, _, _, _], _ => rfl
/-- what _law_guard promises -/
def sp__law_guard (P : Program) (w : World) (CW CG : Addr) : Sp := fun vs H Q _ => ∃ (d : V) (k : Nat) (a b : Int) (x : Str), vs = [d, .int k, .int a, .int b, .str x] ∧ Drw H d ∧ 3 ≤ k ∧ k ≤ 5 ∧ ∀ (r : Addr) H' (g : List Int), Ex H H' → Td H' (.ref r) (dTI g) → GdOk a b k g → g ≠ [] → Q (.ref r) H'
theorem w__law_guard (T : Glb K mg CW CG) (D : Def K mg "_law_guard" s_law_guard) (c__law_guards : Cal P w K mg base 1 "_law_guards" ["_law_pegs", "_law_start", "_law_stop"] (sp__law_guards P w CW CG)) (c__law_take : Cal P w K mg base 1 "_law_take" ["_law_draws_here", "_law_many"] (sp__law_take P w CW CG)) : Cal P w K mg base 2 "_law_guard" ["_law_draws_here", "_law_pegs", "_law_start", "_law_stop", "_law_kind_here"] (sp__law_guard P w CW CG) := by
  refine Cal.mk' D sc_law_guard bd_law_guard (fun vs H Q E h => by obtain ⟨d, k, a, b, x, rfl, hd, hk3, hk, q⟩ := h; rfl) fun f cdv A outer s H vs Q E hr h => ?_
  obtain ⟨d, k, a, b, x, rfl, hd, hk3, hk, q⟩ := h
  refine ⟨_, (pss_cons (ps_set (i := 5) sc_law_guard.nd rfl (Or.inl rfl) (pe_c c__law_guards hr (by rfl) (pa_cons (pv 1) (pa_cons (pv 2) (pa_cons (pv 3) pa_nil)))))
  (pss_cons (ps_if (pt_cmpR op_eq (pv 4) pe_str (nomark _)) (pss_one (ps_ret (pe_ix (kix_list (K := K) rfl) (pv 5) (pe_op op_sub (pe_callB (klen (K := K) rfl) (by rfl) T.n_len bt_len (pa_cons (pv 5) pa_nil)) pe_int) (fun _ _ => rfl)))) pss_nil)
  (pss_cut (ps_if (pt_cmpR op_eq (pv 4) pe_str (nomark _)) (pss_one (ps_setLc (i := 5) (own := [("_law_row", 6)]) (g := gName 6) rfl sc_law_guard.nd rfl rfl (sw_true rfl rfl rfl (by decide +kernel)) (ki_list (K := K) rfl (pv 5)) (blkOk_by (N := N_law_guard) (sc := defScope s_law_guard) (by decide +kernel)) (fun _ _ _ _ _ => (pg_name (i := 6) sc_law_guard.nd rfl (Or.inl rfl))) (fun _ _ _ _ _ => (pts_one (pt_cmpR op_eq (pe_callB (klen (K := K) rfl) (by rfl) T.n_len bt_len (pa_cons (pv 6) pa_nil)) pe_int (nomark _)))) (fun _ _ _ _ _ => (pv 6)))) pss_nil)
  (pss_one (ps_ret (pe_ix (kix_list (K := K) rfl) (pv 5) (pe_c c__law_take hr (by rfl) (pa_cons (pv 0) (pa_cons (pe_callB (klen (K := K) rfl) (by rfl) T.n_len bt_len (pa_cons (pv 5) pa_nil)) pa_nil))) (fun _ _ => rfl))))))), ?_⟩
  refine ⟨_, rfl, _, rfl, _, rfl, k, a, b, rfl, hk3, hk, fun r H1 vr gs e1 hr1 hvr hlen hok hone => ?_⟩
  obtain ⟨g1, hg1, hg1l⟩ := hone
  have hvl : vr.length = gs.length := by rw [hvr.len, List.length_map]
  have hpos : 0 < gs.length := List.length_pos_of_mem hg1
  have pick : ∀ {H2 : Hp} {v2 : List V} {gs2 : List (List Int)} {j : Nat}, TdA H2 v2 (gs2.map dTI) → j < gs2.length → ∃ t g, v2[j]? = some (.ref t) ∧ Td H2 (.ref t) (dTI g) ∧ g ∈ gs2 := fun {H2 v2 gs2 j} h hj => by
    obtain ⟨v, hv, td⟩ := h.at_ (i := j) (d := dTI gs2[j]) (by rw [List.getElem?_map, List.getElem?_eq_getElem hj]; rfl)
    obtain ⟨t, rfl, ht⟩ := td_ti td
    exact ⟨t, gs2[j], hv, td, List.getElem_mem hj⟩
  refine ⟨_, rfl, rfl, _, rfl, ?_⟩
  refine ite2 (fun _ => ?_) fun _ => ?_
  · obtain ⟨t, g, hv, td, hg⟩ := pick hvr (show gs.length - 1 < gs.length by omega)
    refine ⟨_, rfl, _, rfl, r, _, rfl, .inl (.of hr1), _, _, rfl, rfl, r, _, _, .ref t, rfl, rfl, .of hr1, ?_, ?_⟩
    · have := atI_nat hv
      rw [hvl]
      rw [show ((gs.length - 1 : Nat) : Int) = (gs.length : Int) - 1 by omega] at this
      exact this
    · exact q t H1 g e1 td (hok g hg).1 (hok g hg).2
  · refine ⟨fun σ H' => Ex H H' ∧ ∃ (l : Addr) (vl : List V) (gl : List (List Int)) (z : Option V), σ = [some d, some (.int k), some (.int a), some (.int b), some (.str x), some (.ref l), z] ∧ H' l = some (.lst vl) ∧ TdA H' vl (gl.map dTI) ∧ 0 < gl.length ∧ ∀ g ∈ gl, g ∈ gs, ?_, ?_⟩
    · refine ⟨_, rfl, rfl, _, rfl, ?_⟩
      refine ite2 (fun _ => ?_) fun _ => ?_
      · refine ⟨_, rfl, r, rfl, ⟨_, .of hr1⟩, fun D hD => ?_⟩
        refine lc_list (xs := vr) (fun j H3 => Ex H1 H3 ∧ ∃ zs, H3 D = some (.lst zs) ∧ TdA H3 zs (((gs.take j).filter fun g => decide (g.length = 1)).map dTI)) ⟨Ex.new hD, [], upd_same, by simp [TdA.nil]⟩ (fun j H3 _ p => .of (p.1 _ _ hr1)) (fun j v H3 hv p => ?_) fun H3 p => ?_
        · obtain ⟨e3, zs, hD2, tz⟩ := p
          obtain ⟨dd, hdd, td⟩ := hvr.get hv
          rw [List.getElem?_map, Option.map_eq_some_iff] at hdd
          obtain ⟨g, hg, rfl⟩ := hdd
          have td := td.mk e3
          obtain ⟨t, rfl, ht⟩ := td_ti td
          have htk : gs.take (j + 1) = gs.take j ++ [g] := take_next hg
          refine ⟨rfl, _, rfl, t, _, rfl, .inr (.of ht), rfl, _, rfl, ?_⟩
          have hiff : decide (V.int (((g.map V.int).length : Nat) : Int) = V.int 1) = decide (g.length = 1) := by
            rw [List.length_map, decide_eq_decide, V.int.injEq]
            omega
          rw [hiff]
          refine ite2 (fun hb => ?_) fun hb => ?_
          · have hzl : zs.length ≤ 1000 := by
              rw [tz.len, List.length_map]
              have := List.length_filter_le (fun g : List Int => decide (g.length = 1)) (gs.take j)
              rw [List.length_take] at this
              omega
            refine ⟨_, rfl, zs, hD2, small1000 hzl, e3.mut hD, _, upd_same, ?_⟩
            have tk := Tk.mut (Tk.refl _) (no_tupL hD2) (o := .lst (zs ++ [V.ref t]))
            rw [htk, List.filter_append, List.map_append, List.filter_cons_of_pos (p := fun g : List Int => decide (g.length = 1)) hb]
            exact TdA.snoc (tz.mono tk) (td.mono tk)
          · refine ⟨e3, zs, hD2, ?_⟩
            rw [htk, List.filter_append, List.filter_cons_of_neg (p := fun g : List Int => decide (g.length = 1)) hb]
            simpa using tz
        · obtain ⟨e3, zs, hD2, tz⟩ := p
          rw [hvl, List.take_length] at tz
          refine ⟨e1.trans e3, D, zs, _, _, rfl, hD2, tz, List.length_pos_of_mem (List.mem_filter.mpr ⟨hg1, decide_eq_true hg1l⟩), fun g hg => (List.mem_filter.mp hg).1⟩
      · exact ⟨e1, r, vr, gs, _, rfl, hr1, hvr, hpos, fun g hg => hg⟩
    · rintro σ' H2 ⟨e2, l, vl, gl, z, rfl, hl, hvl2, hp2, hsub⟩
      have hvl3 : vl.length = gl.length := by rw [hvl2.len, List.length_map]
      refine ⟨_, rfl, _, rfl, _, rfl, l, _, rfl, .inl (.of hl), d, _, rfl, hd.mk e2, by omega, fun j h0 h1 => ?_⟩
      obtain ⟨t, g, hv, td, hg⟩ := pick hvl2 (show j.toNat < gl.length by omega)
      refine ⟨l, vl, j, .ref t, rfl, rfl, .of hl, ?_, q t H2 g e2 td (hok g (hsub g hg)).1 (hok g (hsub g hg)).2⟩
      have := atI_nat hv
      rw [Int.toNat_of_nonneg h0] at this
      exact this


abbrev s_law_cost : Stmt := top 56
abbrev N_law_cost : List Str := ["_law_draws_here", "_law_cost_here"]
theorem sc_law_cost : FnScope N_law_cost ["_law_draws_here"] (defScope s_law_cost) := ⟨rfl, rfl, rfl, by decide +kernel, rfl, by decide +kernel, by decide +kernel⟩
theorem bd_law_cost : BindsAll "_law_cost" "_law_cost" s_law_cost ["_law_draws_here"] := fun _ _ _ _ _ _ us hl => match us, hl with | [_], _ => rfl
/-- what _law_cost promises -/
def sp__law_cost (P : Program) (w : World) (CW CG : Addr) : Sp := fun vs H Q _ => ∃ (d : V), vs = [d] ∧ Drw H d ∧ ∀ c, 1 ≤ c → c ≤ 10 ^ 60 → Q (.int c) H
theorem w__law_cost (T : Glb K mg CW CG) (D : Def K mg "_law_cost" s_law_cost) (c__law_take : Cal P w K mg base 1 "_law_take" ["_law_draws_here", "_law_many"] (sp__law_take P w CW CG)) : Cal P w K mg base 2 "_law_cost" ["_law_draws_here"] (sp__law_cost P w CW CG) := by
  refine Cal.mk' D sc_law_cost bd_law_cost (fun vs H Q E h => by obtain ⟨d, rfl, hd, q⟩ := h; rfl) fun f cdv A outer s H vs Q E hr h => ?_
  obtain ⟨d, rfl, hd, q⟩ := h
  refine ⟨_, (pss_cons (ps_set (i := 1) sc_law_cost.nd rfl (Or.inl rfl) (pe_op op_add pe_int (pe_c c__law_take hr (by rfl) (pa_cons (pv 0) (pa_cons pe_int pa_nil)))))
  (pss_cons (ps_if (pt_cmpR op_eq (pe_c c__law_take hr (by rfl) (pa_cons (pv 0) (pa_cons pe_int pa_nil))) pe_int (nomark _)) (pss_one (ps_set (i := 1) sc_law_cost.nd rfl (Or.inl rfl) (pe_op op_add (pv 1) (pe_op op_pow pe_int pe_int)))) pss_nil)
  (pss_one (ps_ret (pv 1))))), ?_⟩
  refine ⟨_, rfl, d, 6, rfl, hd, by decide, fun r h0 h1 => ⟨_, _, rfl, rfl, ?_⟩⟩
  refine ⟨_, rfl, d, 24, rfl, hd, by decide, fun r2 h2 h3 => ⟨rfl, _, rfl, ?_⟩⟩
  refine ite2 (fun _ => ?_) fun _ => ?_
  · refine ⟨_, rfl, 10, 8, rfl, rfl, ⟨by decide, by decide, by decide⟩, _, _, rfl, rfl, _, rfl, q _ ?_ ?_⟩
    · have : (10 : Int) ^ (8 : Int).toNat = 100000000 := by decide
      rw [this]
      omega
    · have : (10 : Int) ^ (8 : Int).toNat = 100000000 := by decide
      rw [this]
      omega
  · exact ⟨_, rfl, q _ (by omega) (by omega)⟩


abbrev s_law_kind : Stmt := top 59
abbrev N_law_kind : List Str := ["_law_draws_here"]
theorem sc_law_kind : FnScope N_law_kind ["_law_draws_here"] (defScope s_law_kind) := ⟨rfl, rfl, rfl, by decide +kernel, rfl, by decide +kernel, by decide +kernel⟩
theorem bd_law_kind : BindsAll "_law_kind" "_law_kind" s_law_kind ["_law_draws_here"] := fun _ _ _ _ _ _ us hl => match us, hl with | [_], _ => rfl
/-- what _law_kind promises -/
def sp__law_kind (P : Program) (w : World) (CW CG : Addr) : Sp := fun vs H Q _ => ∃ (d : V), vs = [d] ∧ Drw H d ∧ ∀ (x : Str) H', Ex H H' → Q (.str x) H'
theorem w__law_kind (T : Glb K mg CW CG) (D : Def K mg "_law_kind" s_law_kind) (c__law_take : Cal P w K mg base 1 "_law_take" ["_law_draws_here", "_law_many"] (sp__law_take P w CW CG)) : Cal P w K mg base 2 "_law_kind" ["_law_draws_here"] (sp__law_kind P w CW CG) := by
  refine Cal.mk' D sc_law_kind bd_law_kind (fun vs H Q E h => by obtain ⟨d, rfl, hd, q⟩ := h; rfl) fun f cdv A outer s H vs Q E hr h => ?_
  obtain ⟨d, rfl, hd, q⟩ := h
  refine ⟨_, (pss_one (ps_ret (pe_ix (kix_list (K := K) rfl) (pe_lst (pa_cons pe_str (pa_cons pe_str (pa_cons pe_str pa_nil)))) (pe_c c__law_take hr (by rfl) (pa_cons (pv 0) (pa_cons pe_int pa_nil))) (fun _ _ => rfl)))), ?_⟩
  refine ⟨by decide, fun p hp => ?_⟩
  have e := Ex.new (o := .lst [.str "any", .str "strict", .str "free"]) hp
  refine ⟨_, rfl, d, 3, rfl, hd.mk e, by decide, fun r h0 h1 => ?_⟩
  have h : r = 0 ∨ r = 1 ∨ r = 2 := by omega
  rcases h with rfl | rfl | rfl
  · exact ⟨p, _, _, _, rfl, rfl, .of upd_same, rfl, q _ _ e⟩
  · exact ⟨p, _, _, _, rfl, rfl, .of upd_same, rfl, q _ _ e⟩
  · exact ⟨p, _, _, _, rfl, rfl, .of upd_same, rfl, q _ _ e⟩


abbrev s_law_sizes : Stmt := top 61
abbrev N_law_sizes : List Str := ["_law_draws_here", "_law_most", "_law_pegs", "_law_discs", "_law_many", "_law_fit", "_law_disc"]
theorem sc_law_sizes : FnScope N_law_sizes ["_law_draws_here", "_law_most"] (defScope s_law_sizes) := ⟨rfl, rfl, rfl, by decide +kernel, rfl, by decide +kernel, by decide +kernel⟩
theorem bd_law_sizes : BindsAll "_law_sizes" "_law_sizes" s_law_sizes ["_law_draws_here", "_law_most"] := fun _ _ _ _ _ _ us hl => match us, hl with | [_, _], _ => rfl
/-- what _law_sizes promises -/
def sp__law_sizes (P : Program) (w : World) (CW CG : Addr) : Sp := fun vs H Q _ => ∃ (d : V) (most : Int), vs = [d, .int most] ∧ Drw H d ∧ 1 ≤ most ∧ most ≤ 81 ∧ ∀ (r : Addr) H' (k n : Nat), Ex H H' → H' r = some (.lst [.int k, .int n]) → 3 ≤ k → k ≤ 5 → n ≤ 4 → k ^ n ≤ 81 → Q (.ref r) H'
theorem w__law_sizes (T : Glb K mg CW CG) (D : Def K mg "_law_sizes" s_law_sizes) (c__law_take : Cal P w K mg base 1 "_law_take" ["_law_draws_here", "_law_many"] (sp__law_take P w CW CG)) : Cal P w K mg base 2 "_law_sizes" ["_law_draws_here", "_law_most"] (sp__law_sizes P w CW CG) := by
  refine Cal.mk' D sc_law_sizes bd_law_sizes (fun vs H Q E h => by obtain ⟨d, most, rfl, hd, hm1, hm, q⟩ := h; rfl) fun f cdv A outer s H vs Q E hr h => ?_
  obtain ⟨d, most, rfl, hd, hm1, hm, q⟩ := h
  refine ⟨_, (pss_cons (ps_set (i := 2) sc_law_sizes.nd rfl (Or.inl rfl) (pe_ix (kix_list (K := K) rfl) (pe_lst (pa_cons pe_int (pa_cons pe_int (pa_cons pe_int (pa_cons pe_int (pa_cons pe_int (pa_cons pe_int (pa_cons pe_int pa_nil)))))))) (pe_c c__law_take hr (by rfl) (pa_cons (pv 0) (pa_cons pe_int pa_nil))) (fun _ _ => rfl)))
  (pss_cons (ps_set (i := 3) sc_law_sizes.nd rfl (Or.inl rfl) (pe_ix (kix_list (K := K) rfl) (pe_lst (pa_cons pe_int (pa_cons pe_int (pa_cons pe_int (pa_cons pe_int (pa_cons pe_int (pa_cons pe_int (pa_cons pe_int (pa_cons pe_int pa_nil))))))))) (pe_c c__law_take hr (by rfl) (pa_cons (pv 0) (pa_cons pe_int pa_nil))) (fun _ _ => rfl)))
  (pss_cons (ps_set (i := 4) sc_law_sizes.nd rfl (Or.inl rfl) pe_int)
  (pss_cons (ps_set (i := 5) sc_law_sizes.nd rfl (Or.inl rfl) pe_int)
  (pss_cons (ps_for PassesOwn.never rfl (pi_range1 (by rfl) T.n_range (pa_cons (pv 3) pa_nil)) (pg_name (i := 6) sc_law_sizes.nd rfl (Or.inl rfl))
  (pss_cons (ps_set (i := 4) sc_law_sizes.nd rfl (Or.inl rfl) (pe_op op_mul (pv 4) (pv 2)))
  (pss_one (ps_if (pt_cmpR op_le (pv 4) (pv 1) (nomark _)) (pss_one (ps_set (i := 5) sc_law_sizes.nd rfl (Or.inl rfl) (pe_op op_add (pv 6) pe_int))) pss_nil))))
  (pss_one (ps_ret (pe_lst (pa_cons (pv 2) (pa_cons (pv 5) pa_nil)))))))))), ?_⟩
  refine ⟨by decide, fun p hp => ?_⟩
  have e := Ex.new (o := .lst [.int 3, .int 4, .int 3, .int 3, .int 5, .int 3, .int 4]) hp
  refine ⟨_, rfl, d, 7, rfl, hd.mk e, by decide, fun j h0 h1 => ?_⟩
  have hk : ∃ k : Nat, atI [V.int 3, .int 4, .int 3, .int 3, .int 5, .int 3, .int 4] j = some (.int (k : Nat)) ∧ 3 ≤ k ∧ k ≤ 5 := by
    have h : j = 0 ∨ j = 1 ∨ j = 2 ∨ j = 3 ∨ j = 4 ∨ j = 5 ∨ j = 6 := by omega
    rcases h with rfl | rfl | rfl | rfl | rfl | rfl | rfl
    · exact ⟨3, rfl, by omega, by omega⟩
    · exact ⟨4, rfl, by omega, by omega⟩
    · exact ⟨3, rfl, by omega, by omega⟩
    · exact ⟨3, rfl, by omega, by omega⟩
    · exact ⟨5, rfl, by omega, by omega⟩
    · exact ⟨3, rfl, by omega, by omega⟩
    · exact ⟨4, rfl, by omega, by omega⟩
  obtain ⟨k, hat, hk3, hk5⟩ := hk
  refine ⟨p, _, j, .int (k : Nat), rfl, rfl, .of upd_same, hat, ?_⟩
  refine ⟨by decide, fun p2 hp2 => ?_⟩
  have e2 := Ex.new (o := .lst [.int 2, .int 3, .int 1, .int 3, .int 4, .int 2, .int 0, .int 3]) hp2
  refine ⟨_, rfl, d, 8, rfl, (hd.mk e).mk e2, by decide, fun j h0 h1 => ?_⟩
  have hn : ∃ n : Nat, atI [V.int 2, .int 3, .int 1, .int 3, .int 4, .int 2, .int 0, .int 3] j = some (.int (n : Nat)) ∧ n ≤ 4 := by
    have h : j = 0 ∨ j = 1 ∨ j = 2 ∨ j = 3 ∨ j = 4 ∨ j = 5 ∨ j = 6 ∨ j = 7 := by omega
    rcases h with rfl | rfl | rfl | rfl | rfl | rfl | rfl | rfl
    · exact ⟨2, rfl, by omega⟩
    · exact ⟨3, rfl, by omega⟩
    · exact ⟨1, rfl, by omega⟩
    · exact ⟨3, rfl, by omega⟩
    · exact ⟨4, rfl, by omega⟩
    · exact ⟨2, rfl, by omega⟩
    · exact ⟨0, rfl, by omega⟩
    · exact ⟨3, rfl, by omega⟩
  obtain ⟨n, hat2, hn⟩ := hn
  refine ⟨p2, _, j, .int (n : Nat), rfl, rfl, .of upd_same, hat2, ?_⟩
  have E := e.trans e2
  show tSeq _ _ _ _ (upd (upd H p (.lst [.int 3, .int 4, .int 3, .int 3, .int 5, .int 3, .int 4])) p2 (.lst [.int 2, .int 3, .int 1, .int 3, .int 4, .int 2, .int 0, .int 3]))
  generalize upd (upd H p (.lst [.int 3, .int 4, .int 3, .int 3, .int 5, .int 3, .int 4])) p2 (.lst [.int 2, .int 3, .int 1, .int 3, .int 4, .int 2, .int 0, .int 3]) = H1 at E
  refine ⟨_, rfl, (n : Int), rfl, by omega, by omega, ?_⟩
  refine for_range (fun i σ H' => H' = H1 ∧ ∃ (f : Nat) (x : Option V), σ = [some d, some (.int most), some (.int k), some (.int n), some (.int (k ^ i : Nat)), some (.int (f : Nat)), x] ∧ f ≤ i ∧ ((k ^ f : Nat) : Int) ≤ most) ⟨rfl, 0, none, rfl, Nat.le_refl _, by simpa using hm1⟩ (fun i σ H' hi p => ?_) fun σ H' p => ?_
  · obtain ⟨rfl, f, x, rfl, hf, hkf⟩ := p
    have hi : i < n := by simpa using hi
    refine ⟨_, rfl, _, rfl, _, _, rfl, rfl, .inr (by omega), ?_⟩
    have hpow : ((k ^ i : Nat) : Int) * (k : Int) = ((k ^ (i + 1) : Nat) : Int) := by
      rw [Nat.pow_succ, Int.natCast_mul]
    refine ⟨_, rfl, _, rfl, _, _, rfl, rfl, _, rfl, ?_⟩
    refine ite2 (fun hb => ?_) fun hb => ?_
    · refine ⟨_, rfl, _, _, rfl, rfl, rfl, i + 1, some (.int (0 + i)), ?_, Nat.le_refl _, by rw [← hpow]; simpa using hb⟩
      rw [← hpow, show ((i + 1 : Nat) : Int) = (0 : Int) + (i : Int) + 1 by omega]
      rfl
    · refine ⟨rfl, f, some (.int (0 + i)), ?_, by omega, hkf⟩
      rw [← hpow]
      rfl
  · obtain ⟨rfl, f, x, rfl, hf, hkf⟩ := p
    have hn2 : ((n : Int)).toNat = n := by simp
    rw [hn2] at hf
    refine ⟨_, rfl, _, rfl, line_ok (by simp), fun r hr' => ?_⟩
    exact q r _ k f (E.trans (Ex.new hr')) upd_same hk3 hk5 (by omega) (by omega)


end
end K07
end K07_part_W7

section K07_part_W8
set_option Elab.async false
set_option linter.all false
set_option maxRecDepth 100000
set_option maxHeartbeats 4000000
namespace K07
open PySem PySem.Spec PyProof.Rows L2 Evl
section
variable {P : Program} {w : World} {K : PySem.W.Frag} {mg : Str → Option Value} {base : Heap} {CW CG : Addr}

/-- within a turn of the pairs: the pairs so far, the turn's own pair or not -/
def PrS (H : Hp) (d : V) (k : Nat) (sh : Int) (l : Addr) (a b : Int) (ps : List (Int × Int)) (S : List Int) (σ : L2.St) (H' : Hp) : Prop := ∃ (vl : List V) (ps' : List (Int × Int)) (r1 r2 : Bool),
  σ = [some d, some (.int k), some (.int sh), some (.ref l), some (.int a), some (.int b), some (.bl r1), some (.bl r2)] ∧ Ex H H' ∧ H' l = some (.lst vl) ∧ TdA H' vl (ps'.map dPR) ∧ (ps' = ps ∨ (ps' = ps ++ [(a, b)] ∧ sh ∈ S))
theorem PrS.sub {H : Hp} {d : V} {k : Nat} {sh : Int} {l : Addr} {a b : Int} {ps : List (Int × Int)} {S S' : List Int} {σ : L2.St} {H' : Hp} (h : PrS H d k sh l a b ps S σ H') (hs : ∀ x ∈ S, x ∈ S') : PrS H d k sh l a b ps S' σ H' := by
  obtain ⟨vl, ps', r1, r2, h1, h2, h3, h4, h5⟩ := h
  exact ⟨vl, ps', r1, r2, h1, h2, h3, h4, h5.imp id fun q => ⟨q.1, hs _ q.2⟩⟩
theorem PrS.mkE {H : Hp} {d : V} {k : Nat} {sh : Int} {l : Addr} {a b : Int} {ps : List (Int × Int)} {S : List Int} {σ : L2.St} {H' H2 : Hp} (h : PrS H d k sh l a b ps S σ H') (e : Ex H' H2) : PrS H d k sh l a b ps S σ H2 := by
  obtain ⟨vl, ps', r1, r2, h1, h2, h3, h4, h5⟩ := h
  exact ⟨vl, ps', r1, r2, h1, h2.trans e, e _ _ h3, h4.mk e, h5⟩
theorem app_pr {H : Hp} {d : V} {k : Nat} {sh : Int} {l : Addr} {a b : Int} {ps : List (Int × Int)} {S S' : List Int} {σ : L2.St} {H' : Hp} (hl : H l = none) (h : PrS H d k sh l a b ps S σ H') (hn : sh ∉ S) (hs : sh ∈ S') (hlen : ps.length ≤ 900) {D : Ends}
    (kk : ∀ σ'' H'', PrS H d k sh l a b ps S' σ'' H'' → D.nx σ'' H'') : tDrop (tBM K "list" rAppend (tVar 3) (tCons (tTup (tCons (tVar 4) (tCons (tVar 5) tNil))) tNil)) D σ H' := by
  obtain ⟨vl, ps', r1, r2, rfl, e, hv, tv, h5⟩ := h
  have hp : ps' = ps := h5.elim id fun q => absurd q.2 hn
  subst hp
  refine ⟨_, rfl, .inl ⟨rfl, _, .of hv⟩, _, rfl, _, rfl, line_ok (by simp), fun p hp => ?_⟩
  have e2 := Ex.new (o := .tup [.int a, .int b]) hp
  refine ⟨l, vl, _, rfl, rfl, e2 _ _ hv, small1000 (by rw [tv.len, List.length_map]; omega), kk _ _ ?_⟩
  have tk := Tk.mut (Tk.refl _) (no_tupL (e2 _ _ hv)) (o := .lst (vl ++ [V.ref p]))
  refine ⟨_, ps' ++ [(a, b)], r1, r2, rfl, (e.trans e2).mut hl, upd_same, ?_, .inr ⟨rfl, hs⟩⟩
  rw [List.map_append]
  exact TdA.snoc ((tv.mk e2).mono tk) ((td_pr' upd_same).mono tk)
/-- pairs of pegs -/
structure PrsOk (k : Nat) (ps : List (Int × Int)) : Prop where
  ok : ∀ p ∈ ps, (0 ≤ p.1 ∧ p.1 < (k : Int)) ∧ (0 ≤ p.2 ∧ p.2 < (k : Int)) ∧ p.1 ≠ p.2
  nd : ps.Nodup
theorem PrsOk.snoc {k : Nat} {ps : List (Int × Int)} (h : PrsOk k ps) {a b : Int} (ha : 0 ≤ a ∧ a < k) (hb : 0 ≤ b ∧ b < k) (hab : a ≠ b) (hn : (a, b) ∉ ps) : PrsOk k (ps ++ [(a, b)]) := by
  refine ⟨fun p hp => ?_, ?_⟩
  · rw [List.mem_append, List.mem_singleton] at hp
    rcases hp with hp | rfl
    · exact h.ok p hp
    · exact ⟨ha, hb, hab⟩
  · rw [List.nodup_append]
    refine ⟨h.nd, by simp, fun x hx y hy e => ?_⟩
    rw [List.mem_singleton] at hy
    subst hy
    subst e
    exact hn hx

abbrev s_law_pairs : Stmt := top 57
abbrev N_law_pairs : List Str := ["_law_draws_here", "_law_pegs", "_law_shape", "_law_pairs_here", "_law_start", "_law_stop", "_law_ring", "_law_row"]
theorem sc_law_pairs : FnScope N_law_pairs ["_law_draws_here", "_law_pegs"] (defScope s_law_pairs) := ⟨rfl, rfl, rfl, by decide +kernel, rfl, by decide +kernel, by decide +kernel⟩
theorem bd_law_pairs : BindsAll "_law_pairs" "_law_pairs" s_law_pairs ["_law_draws_here", "_law_pegs"] := fun _ _ _ _ _ _ us hl => match us, hl with | [_, _], _ => rfl
/-- what _law_pairs promises -/
def sp__law_pairs (P : Program) (w : World) (CW CG : Addr) : Sp := fun vs H Q _ => ∃ (d : V) (k : Nat), vs = [d, .int k] ∧ Drw H d ∧ 3 ≤ k ∧ k ≤ 5 ∧ ∀ (r : Addr) H' vp (ps : List (Int × Int)), H r = none → Ex H H' → H' r = some (.lst vp) → TdA H' vp (ps.map dPR) → PrsOk k ps → ps.length ≤ 25 → Q (.ref r) H'
theorem w__law_pairs (T : Glb K mg CW CG) (D : Def K mg "_law_pairs" s_law_pairs) (c__law_take : Cal P w K mg base 1 "_law_take" ["_law_draws_here", "_law_many"] (sp__law_take P w CW CG)) : Cal P w K mg base 2 "_law_pairs" ["_law_draws_here", "_law_pegs"] (sp__law_pairs P w CW CG) := by
  refine Cal.mk' D sc_law_pairs bd_law_pairs (fun vs H Q E h => by obtain ⟨d, k, rfl, hd, hk3, hk, q⟩ := h; rfl) fun f cdv A outer s H vs Q E hr h => ?_
  obtain ⟨d, k, rfl, hd, hk3, hk, q⟩ := h
  refine ⟨_, (pss_cons (ps_set (i := 2) sc_law_pairs.nd rfl (Or.inl rfl) (pe_c c__law_take hr (by rfl) (pa_cons (pv 0) (pa_cons pe_int pa_nil))))
  (pss_cons (ps_set (i := 3) sc_law_pairs.nd rfl (Or.inl rfl) (pe_lst pa_nil))
  (pss_cons (ps_for PassesOwn.never rfl (pi_range1 (by rfl) T.n_range (pa_cons (pv 1) pa_nil)) (pg_name (i := 4) sc_law_pairs.nd rfl (Or.inl rfl))
  (pss_one (ps_for PassesOwn.never rfl (pi_range1 (by rfl) T.n_range (pa_cons (pv 1) pa_nil)) (pg_name (i := 5) sc_law_pairs.nd rfl (Or.inl rfl))
  (pss_one (ps_if (pt_cmpR op_ne (pv 4) (pv 5) (nomark _)) (pss_cut (ps_set (i := 6) sc_law_pairs.nd rfl (Or.inl rfl) (pe_or (pe_cmpR op_eq (pv 5) (pe_op op_add (pv 4) pe_int) (nomark _)) (pe_one (pe_and (pe_cmpR op_eq (pv 4) (pe_op op_sub (pv 1) pe_int) (nomark _)) (pe_one (pe_cmpR op_eq (pv 5) pe_int (nomark _)))))))
  (pss_cut (ps_set (i := 7) sc_law_pairs.nd rfl (Or.inl rfl) (pe_or (pe_cmpR op_eq (pv 5) (pe_op op_add (pv 4) pe_int) (nomark _)) (pe_one (pe_cmpR op_eq (pv 4) (pe_op op_add (pv 5) pe_int) (nomark _)))))
  (pss_cut (ps_if (PW.pt (pw_and (pt_cmpR op_eq (pv 2) pe_int (nomark _)) (pw_and1 (pt_val (pv 6))))) (pss_one (ps_expr (pe_bm PySem.F.plainAttrs_list PySem.F.slot_list_append PySem.F.type_list_append mt_append (pv 3) (pa_cons (pe_tup (pa_cons (pv 4) (pa_cons (pv 5) pa_nil))) pa_nil)))) pss_nil)
  (pss_cut (ps_if (PW.pt (pw_and (pt_cmpR op_eq (pv 2) pe_int (nomark _)) (pw_and1 (pt_cmpR op_eq (pe_c c__law_take hr (by rfl) (pa_cons (pv 0) (pa_cons pe_int pa_nil))) pe_int (nomark _))))) (pss_one (ps_expr (pe_bm PySem.F.plainAttrs_list PySem.F.slot_list_append PySem.F.type_list_append mt_append (pv 3) (pa_cons (pe_tup (pa_cons (pv 4) (pa_cons (pv 5) pa_nil))) pa_nil)))) pss_nil)
  (pss_cut (ps_if (PW.pt (pw_and (pt_cmpR op_eq (pv 2) pe_int (nomark _)) (pw_and1 (pt_val (pv 7))))) (pss_one (ps_expr (pe_bm PySem.F.plainAttrs_list PySem.F.slot_list_append PySem.F.type_list_append mt_append (pv 3) (pa_cons (pe_tup (pa_cons (pv 4) (pa_cons (pv 5) pa_nil))) pa_nil)))) pss_nil)
  (pss_cut (ps_if (pt_cmpR op_eq (pv 2) pe_int (nomark _)) (pss_one (ps_expr (pe_bm PySem.F.plainAttrs_list PySem.F.slot_list_append PySem.F.type_list_append mt_append (pv 3) (pa_cons (pe_tup (pa_cons (pv 4) (pa_cons (pv 5) pa_nil))) pa_nil)))) pss_nil)
  (pss_cut (ps_if (PW.pt (pw_and (pt_cmpR (kin_seq (K := K) rfl) (pv 2) (pe_tup (pa_cons pe_int (pa_cons pe_int pa_nil))) (by rfl)) (pw_and1 (pt_cmpR op_eq (pe_c c__law_take hr (by rfl) (pa_cons (pv 0) (pa_cons pe_int pa_nil))) pe_int (nomark _))))) (pss_one (ps_expr (pe_bm PySem.F.plainAttrs_list PySem.F.slot_list_append PySem.F.type_list_append mt_append (pv 3) (pa_cons (pe_tup (pa_cons (pv 4) (pa_cons (pv 5) pa_nil))) pa_nil)))) pss_nil)
  (pss_one (ps_if (PW.pt (pw_and (pt_cmpR op_eq (pv 2) pe_int (nomark _)) (pw_and1 (pt_cmpR op_eq (pe_op op_add (pv 4) (pv 5)) pe_int (nomark _))))) (pss_one (ps_expr (pe_bm PySem.F.plainAttrs_list PySem.F.slot_list_append PySem.F.type_list_append mt_append (pv 3) (pa_cons (pe_tup (pa_cons (pv 4) (pa_cons (pv 5) pa_nil))) pa_nil)))) pss_nil))))))))) pss_nil)))))
  (pss_one (ps_ret (pv 3)))))), ?_⟩
  refine ⟨_, rfl, d, 7, rfl, hd, by decide, fun sh h0 h1 => ?_⟩
  refine ⟨by decide, fun l hl => ?_⟩
  refine ⟨_, rfl, (k : Int), rfl, by omega, by omega, ?_⟩
  have hk2 : ((k : Int)).toNat = k := by simp
  refine for_range (fun i σ H' => ∃ (vl : List V) (ps : List (Int × Int)) (x y z u : Option V), σ = [some d, some (.int k), some (.int sh), some (.ref l), x, y, z, u] ∧ Ex H H' ∧ H' l = some (.lst vl) ∧ TdA H' vl (ps.map dPR) ∧ PrsOk k ps ∧ (∀ p ∈ ps, p.1 < i) ∧ ps.length ≤ 5 * i) ⟨[], [], none, none, none, none, rfl, Ex.new hl, upd_same, by simp [TdA.nil], ⟨by simp, by simp⟩, by simp, by simp⟩ (fun i σ H' hi p => ?_) fun σ H' p => ?_
  · obtain ⟨vl, ps, x, y, z, u, rfl, e, hv, tv, hok, hlt, hlen⟩ := p
    have hi : i < k := by simpa using hi
    refine ⟨_, rfl, (k : Int), rfl, by omega, by omega, ?_⟩
    refine for_range (fun j σ H' => ∃ (vl : List V) (ps : List (Int × Int)) (y z u : Option V), σ = [some d, some (.int k), some (.int sh), some (.ref l), some (.int (0 + i)), y, z, u] ∧ Ex H H' ∧ H' l = some (.lst vl) ∧ TdA H' vl (ps.map dPR) ∧ PrsOk k ps ∧ (∀ p ∈ ps, p.1 < i ∨ (p.1 = i ∧ p.2 < j)) ∧ ps.length ≤ 5 * i + j) ⟨vl, ps, _, _, _, rfl, e, hv, tv, hok, fun p hp => .inl (hlt p hp), by omega⟩ (fun j σ H' hj p => ?_) fun σ H' p => ?_
    · obtain ⟨vl, ps, y, z, u, rfl, e, hv, tv, hok, hlt, hlen⟩ := p
      have hj : j < k := by simpa using hj
      refine ⟨_, rfl, _, rfl, rfl, _, rfl, ?_⟩
      refine ite2 (fun hab => ?_) fun hab => ?_
      · have hab : (0 + (i : Int)) ≠ 0 + (j : Int) := by simpa using hab
        -- the end of the turn
        have fin : ∀ S σ H', PrS H d k sh l (0 + (i : Int)) (0 + (j : Int)) ps S σ H' → ∃ (vl : List V) (ps : List (Int × Int)) (y z u : Option V), σ = [some d, some (.int k), some (.int sh), some (.ref l), some (.int (0 + i)), y, z, u] ∧ Ex H H' ∧ H' l = some (.lst vl) ∧ TdA H' vl (ps.map dPR) ∧ PrsOk k ps ∧ (∀ p ∈ ps, p.1 < i ∨ (p.1 = i ∧ p.2 < ((j + 1 : Nat) : Int))) ∧ ps.length ≤ 5 * i + (j + 1) := by
          rintro S σ H' ⟨vl2, ps2, r1, r2, rfl, e2, hv2, tv2, h5⟩
          rcases h5 with h5 | ⟨h5, _⟩
          · rw [h5] at tv2
            exact ⟨vl2, _, _, _, _, rfl, e2, hv2, tv2, hok, fun p hp => by have := hlt p hp; omega, by omega⟩
          · rw [h5] at tv2
            refine ⟨vl2, _, _, _, _, rfl, e2, hv2, tv2, hok.snoc (by omega) (by omega) hab (fun hm => by have := hlt _ hm; omega), fun p hp => ?_, by rw [List.length_append, List.length_singleton]; omega⟩
            rw [List.mem_append, List.mem_singleton] at hp
            rcases hp with hp | rfl
            · have := hlt p hp; omega
            · refine .inr ⟨?_, ?_⟩
              · show 0 + (i : Int) = i
                omega
              · show 0 + (j : Int) < _
                omega
        -- the two truth values
        refine ⟨fun σ H' => ∃ (r1 : Bool) (u : Option V), σ = [some d, some (.int k), some (.int sh), some (.ref l), some (.int (0 + i)), some (.int (0 + j)), some (.bl r1), u] ∧ Ex H H' ∧ H' l = some (.lst vl) ∧ TdA H' vl (ps.map dPR), ?_, ?_⟩
        · refine ⟨_, rfl, _, rfl, _, _, rfl, rfl, ?_⟩
          refine ⟨rfl, _, rfl, ite2 (fun _ => ?_) fun _ => ?_⟩
          · exact ⟨_, _, rfl, e, hv, tv⟩
          · refine ⟨_, rfl, _, rfl, _, _, rfl, rfl, rfl, _, rfl, ite2 (fun _ => ?_) fun _ => ?_⟩
            · exact ⟨_, rfl, rfl, _, _, rfl, e, hv, tv⟩
            · exact ⟨_, _, rfl, e, hv, tv⟩
        rintro σ H' ⟨r1, u, rfl, e, hv, tv⟩
        refine ⟨PrS H d k sh l (0 + (i : Int)) (0 + (j : Int)) ps [], ?_, ?_⟩
        · refine ⟨_, rfl, _, rfl, _, _, rfl, rfl, ?_⟩
          refine ⟨rfl, _, rfl, ite2 (fun _ => ?_) fun _ => ?_⟩
          · exact ⟨vl, ps, _, _, rfl, e, hv, tv, .inl rfl⟩
          · exact ⟨_, rfl, _, rfl, _, _, rfl, rfl, rfl, vl, ps, _, _, rfl, e, hv, tv, .inl rfl⟩
        have h900 : ps.length ≤ 900 := by omega
        rintro σ H' h
        refine ⟨PrS H d k sh l (0 + (i : Int)) (0 + (j : Int)) ps [0], ?_, ?_⟩
        · obtain ⟨vl', ps', r1, r2, rfl, _⟩ := id h
          refine ⟨_, rfl, rfl, _, rfl, ite2 (fun hs => ?_) fun _ => h.sub (by simp)⟩
          have hs : sh = 0 := by simpa using hs
          refine ⟨_, rfl, _, rfl, ite2 (fun _ => ?_) fun _ => h.sub (by simp)⟩
          exact app_pr (K := K) hl h (by simp) (by simp [hs]) h900 fun _ _ h => h
        rintro σ H' h
        refine ⟨PrS H d k sh l (0 + (i : Int)) (0 + (j : Int)) ps [0, 1], ?_, ?_⟩
        · obtain ⟨vl', ps', r1, r2, rfl, e', _⟩ := id h
          refine ⟨_, rfl, rfl, _, rfl, ite2 (fun hs => ?_) fun _ => h.sub (by simp)⟩
          have hs : sh = 1 := by simpa using hs
          refine ⟨_, rfl, d, 3, rfl, hd.mk e', by decide, fun r _ _ => ?_⟩
          refine ⟨rfl, _, rfl, ite2 (fun _ => ?_) fun _ => h.sub (by simp)⟩
          exact app_pr (K := K) hl h (by simp [hs]) (by simp [hs]) h900 fun _ _ h => h
        rintro σ H' h
        refine ⟨PrS H d k sh l (0 + (i : Int)) (0 + (j : Int)) ps [0, 1, 2], ?_, ?_⟩
        · obtain ⟨vl', ps', r1, r2, rfl, e', _⟩ := id h
          refine ⟨_, rfl, rfl, _, rfl, ite2 (fun hs => ?_) fun _ => h.sub (by simp)⟩
          have hs : sh = 2 := by simpa using hs
          refine ⟨_, rfl, _, rfl, ite2 (fun _ => ?_) fun _ => h.sub (by simp)⟩
          exact app_pr (K := K) hl h (by simp [hs]) (by simp [hs]) h900 fun _ _ h => h
        rintro σ H' h
        refine ⟨PrS H d k sh l (0 + (i : Int)) (0 + (j : Int)) ps [0, 1, 2, 3], ?_, ?_⟩
        · obtain ⟨vl', ps', r1, r2, rfl, e', _⟩ := id h
          refine ⟨_, rfl, rfl, _, rfl, ite2 (fun hs => ?_) fun _ => h.sub (by simp)⟩
          have hs : sh = 3 := by simpa using hs
          exact app_pr (K := K) hl h (by simp [hs]) (by simp [hs]) h900 fun _ _ h => h
        rintro σ H' h
        refine ⟨PrS H d k sh l (0 + (i : Int)) (0 + (j : Int)) ps [0, 1, 2, 3, 4, 6], ?_, ?_⟩
        · obtain ⟨vl', ps', r1, r2, rfl, e', _⟩ := id h
          refine ⟨_, rfl, line_ok (by simp), fun p hp => ?_⟩
          have e2 := Ex.new (o := .tup [.int 4, .int 6]) hp
          have h := h.mkE e2
          refine ⟨p, [.int 4, .int 6], rfl, .inr (.of upd_same), rfl, rfl, _, rfl, ?_⟩
          have hin : (if false = true then !inV (V.int sh) [V.int 4, .int 6] else inV (V.int sh) [V.int 4, .int 6]) = decide (sh ∈ ([4, 6] : List Int)) := isIn (fd := [4, 6])
          rw [hin]
          refine ite2 (fun hs => ?_) fun _ => h.sub (by simp)
          have hs : sh = 4 ∨ sh = 6 := by simpa using hs
          refine ⟨_, rfl, d, 2, rfl, (hd.mk e').mk e2, by decide, fun r _ _ => ?_⟩
          refine ⟨rfl, _, rfl, ite2 (fun _ => ?_) fun _ => h.sub (by simp)⟩
          exact app_pr (K := K) hl h (by rcases hs with rfl | rfl <;> simp) (by rcases hs with rfl | rfl <;> simp) h900 fun _ _ h => h
        rintro σ H' h
        obtain ⟨vl', ps', r1, r2, rfl, e', _⟩ := id h
        refine ⟨_, rfl, rfl, _, rfl, ite2 (fun hs => ?_) fun _ => fin _ _ _ h⟩
        have hs : sh = 5 := by simpa using hs
        refine ⟨_, rfl, _, rfl, _, _, rfl, rfl, rfl, _, rfl, ite2 (fun _ => ?_) fun _ => fin _ _ _ h⟩
        exact app_pr (K := K) (S' := [5]) hl h (by simp [hs]) (by simp [hs]) h900 fun _ _ h => fin _ _ _ h
      · exact ⟨vl, ps, _, _, _, rfl, e, hv, tv, hok, fun p hp => by have := hlt p hp; omega, by omega⟩
    · obtain ⟨vl, ps, y, z, u, rfl, e, hv, tv, hok, hlt, hlen⟩ := p
      rw [hk2] at hlen hlt
      exact ⟨vl, ps, _, _, _, _, rfl, e, hv, tv, hok, fun p hp => by have := hlt p hp; omega, by omega⟩
  · obtain ⟨vl, ps, x, y, z, u, rfl, e, hv, tv, hok, hlt, hlen⟩ := p
    rw [hk2] at hlen
    exact ⟨_, rfl, q l H' vl ps hl e hv tv hok (by omega)⟩
  /-- the two lists of a web in the making -/
  def WbS (H : Hp) (la lm : Addr) (ar : List Arr) (md : List PyData) (H' : Hp) : Prop := Ex H H' ∧ ∃ va vm, H' la = some (.lst va) ∧ H' lm = some (.lst vm) ∧ TdA H' va (ar.map dAR) ∧ TdA H' vm md
  theorem WbS.mkE {H : Hp} {la lm : Addr} {ar : List Arr} {md : List PyData} {H' H2 : Hp} (h : WbS H la lm ar md H') (e : Ex H' H2) : WbS H la lm ar md H2 := by
    obtain ⟨h1, va, vm, h2, h3, h4, h5⟩ := h
    exact ⟨h1.trans e, va, vm, e _ _ h2, e _ _ h3, h4.mk e, h5.mk e⟩
  theorem app_mk {H : Hp} {la lm : Addr} {ar : List Arr} {md : List PyData} {H' : Hp} {d v1 v2 : V} {pr gd : Addr} {a b : Int} {g : List Int} (hla : H la = none) (hlm : H lm = none) (hne : la ≠ lm) (h : WbS H la lm ar md H') (hp : H' pr = some (.tup [.int a, .int b])) (hg : Td H' (.ref gd) (dTI g)) (hz : md.length ≤ 900) {D : Ends}
      (kk : ∀ H'', Tk H' H'' → Ex1 lm H' H'' → WbS H la lm ar (md ++ [dMK ⟨a, b, g, 0⟩]) H'' → D.nx [some d, some v1, some v2, some (.ref la), some (.ref lm), some (.ref pr), some (.ref gd)] H'') :
      tDrop (tBM K "list" rAppend (tVar 4) (tCons (tTup (tCons (tOp (rIxT K) (tVar 5) (tC (.int 0))) (tCons (tOp (rIxT K) (tVar 5) (tC (.int 1))) (tCons (tVar 6) tNil)))) tNil)) D [some d, some v1, some v2, some (.ref la), some (.ref lm), some (.ref pr), some (.ref gd)] H' := by
    obtain ⟨e, va, vm, h2, h3, h4, h5⟩ := h
    refine ⟨_, rfl, .inl ⟨rfl, _, .of h3⟩, _, rfl, pr, _, 0, _, rfl, rfl, .of hp, rfl, _, rfl, pr, _, 1, _, rfl, rfl, .of hp, rfl, _, rfl, line_ok (by simp), fun p hp' => ?_⟩
    have e2 := Ex.new (o := .tup [.int a, .int b, .ref gd]) hp'
    refine ⟨lm, vm, _, rfl, rfl, e2 _ _ h3, small1000 (by rw [h5.len]; omega), ?_⟩
    have tk := Tk.mut (Tk.refl _) (no_tupL (e2 _ _ h3)) (o := .lst (vm ++ [V.ref p]))
    refine kk _ (e2.tk.trans tk) (((Ex1.refl _ _).ex e2).set) ⟨(e.trans e2).mut hlm, va, _, by rw [upd_ne hne]; exact e2 _ _ h2, upd_same, (h4.mk e2).mono tk, ?_⟩
    exact TdA.snoc ((h5.mk e2).mono tk) ((td_mk' (r := ⟨a, b, g, 0⟩) upd_same (hg.mk e2)).mono tk)
  theorem app_ar {P : Program} {w : World} {CW CG : Addr} {H : Hp} {la lm : Addr} {ar : List Arr} {md : List PyData} {H' : Hp} {d v1 v2 : V} {pr gd : Addr} {a b : Int} {g : List Int} {E : XK} (hd : Drw H d) (hla : H la = none) (hlm : H lm = none) (hne : la ≠ lm) (h : WbS H la lm ar md H') (hp : H' pr = some (.tup [.int a, .int b])) (hg : Td H' (.ref gd) (dTI g)) (hz : ar.length ≤ 900) {D : Ends}
      (kk : ∀ H'' c, Tk H' H'' → Ex1 la H' H'' → 1 ≤ c → c ≤ 10 ^ 60 → WbS H la lm (ar ++ [⟨a, b, g, c⟩]) md H'' → D.nx [some d, some v1, some v2, some (.ref la), some (.ref lm), some (.ref pr), some (.ref gd)] H'') :
      tDrop (tBM K "list" rAppend (tVar 3) (tCons (tTup (tCons (tOp (rIxT K) (tVar 5) (tC (.int 0))) (tCons (tOp (rIxT K) (tVar 5) (tC (.int 1))) (tCons (tVar 6) (tCons (tCall (sp__law_cost P w CW CG) [] E (tCons (tVar 0) tNil)) tNil))))) tNil)) D [some d, some v1, some v2, some (.ref la), some (.ref lm), some (.ref pr), some (.ref gd)] H' := by
    obtain ⟨e, va, vm, h2, h3, h4, h5⟩ := h
    refine ⟨_, rfl, .inl ⟨rfl, _, .of h2⟩, _, rfl, pr, _, 0, _, rfl, rfl, .of hp, rfl, _, rfl, pr, _, 1, _, rfl, rfl, .of hp, rfl, _, rfl, _, rfl, d, rfl, hd.mk e, fun c hc1 hc2 => ⟨line_ok (by simp), fun p hp' => ?_⟩⟩
    have e2 := Ex.new (o := .tup [.int a, .int b, .ref gd, .int c]) hp'
    refine ⟨la, va, _, rfl, rfl, e2 _ _ h2, small1000 (by rw [h4.len, List.length_map]; omega), ?_⟩
    have tk := Tk.mut (Tk.refl _) (no_tupL (e2 _ _ h2)) (o := .lst (va ++ [V.ref p]))
    refine kk _ c (e2.tk.trans tk) (((Ex1.refl _ _).ex e2).set) hc1 hc2 ⟨(e.trans e2).mut hla, _, vm, upd_same, by rw [upd_ne (Ne.symm hne)]; exact e2 _ _ h3, ?_, (h5.mk e2).mono tk⟩
    rw [List.map_append]
    exact TdA.snoc ((h4.mk e2).mono tk) ((td_ar' (r := ⟨a, b, g, c⟩) upd_same (hg.mk e2)).mono tk)
  /-- a list of arrows as a web takes it -/
  structure WOk (k : Nat) (w : List Arr) : Prop where
    ok : ∀ r ∈ w, ArrOk k r
    nd : w.Pairwise fun p q => nk p ≠ nk q
    few : w.length ≤ 60
  theorem any_mk (r : Arr) (ar : List Arr) : ((ar.map dMK).any fun z => PyData.eqv z (dMK r)) = ar.any fun p => decide (nk p = nk r) := by
    rw [List.any_map]
    congr 1
    funext p
    exact eqv_mk p r
  theorem gd_arr {k : Nat} {a b : Int} {g : List Int} {c : Int} (h : GdOk a b k g) (hn : g ≠ []) (ha : 0 ≤ a ∧ a < k) (hb : 0 ≤ b ∧ b < k) (hab : a ≠ b) (hc1 : 1 ≤ c) (hc2 : c ≤ 10 ^ 60) : ArrOk k ⟨a, b, g, c⟩ := ⟨ha, hb, hab, h.asc, h.gk, hn, h.an, h.bn, hc1, hc2⟩
  theorem WOk.perm {k : Nat} {w w' : List Arr} (h : WOk k w) (p : w'.Perm w) : WOk k w' := ⟨fun r hr => h.ok r (p.mem_iff.mp hr), (p.pairwise_iff fun {x y} q z => q z.symm).mpr h.nd, by rw [p.length_eq]; exact h.few⟩
  theorem srt_arrs (w : List Arr) : srtD (w.map dAR) = (w.mergeSort fun a b => W.dataLe false id (dAR a) (dAR b)).map dAR := by
    rw [List.map_mergeSort]
    intro a _ b _
    rfl
  theorem srt_arrsOk (w : List Arr) (h : w.length ≤ 1000) : Srt (w.map dAR) := by
    refine ⟨?_, .inl (W.Sortable.tuples fun b => ⟨_, _, rfl⟩), by rw [List.length_map]; omega, ?_⟩
    · intro d hd d' hd'
      obtain ⟨x, _, rfl⟩ := List.mem_map.mp hd
      obtain ⟨y, _, rfl⟩ := List.mem_map.mp hd'
      have := alike_ti x.g y.g
      simp [W.alike, W.alikeAll, dAR] at this ⊢
      exact this
    · intro d hd
      obtain ⟨x, _, rfl⟩ := List.mem_map.mp hd
      have := dep_ar x
      omega


abbrev s_law_web : Stmt := top 58
abbrev N_law_web : List Str := ["_law_draws_here", "_law_pegs", "_law_kind_here", "_law_arrows", "_law_marks", "_law_pair", "_law_guard_here"]
theorem sc_law_web : FnScope N_law_web ["_law_draws_here", "_law_pegs", "_law_kind_here"] (defScope s_law_web) := ⟨rfl, rfl, rfl, by decide +kernel, rfl, by decide +kernel, by decide +kernel⟩
theorem bd_law_web : BindsAll "_law_web" "_law_web" s_law_web ["_law_draws_here", "_law_pegs", "_law_kind_here"] := fun _ _ _ _ _ _ us hl => match us, hl with | [_, _, _], _ => rfl
/-- what _law_web promises -/
def sp__law_web (P : Program) (w : World) (CW CG : Addr) : Sp := fun vs H Q _ => ∃ (d : V) (k : Nat) (x : Str), vs = [d, .int k, .str x] ∧ Drw H d ∧ 3 ≤ k ∧ k ≤ 5 ∧ ∀ (r : Addr) H' vr (w' : List Arr), H r = none → Ex H H' → H' r = some (.lst vr) → TdA H' vr (w'.map dAR) → WOk k w' → Q (.ref r) H'
theorem w__law_web (T : Glb K mg CW CG) (D : Def K mg "_law_web" s_law_web) (c__law_pairs : Cal P w K mg base 2 "_law_pairs" ["_law_draws_here", "_law_pegs"] (sp__law_pairs P w CW CG)) (c__law_guard : Cal P w K mg base 2 "_law_guard" ["_law_draws_here", "_law_pegs", "_law_start", "_law_stop", "_law_kind_here"] (sp__law_guard P w CW CG)) (c__law_cost : Cal P w K mg base 2 "_law_cost" ["_law_draws_here"] (sp__law_cost P w CW CG)) (c__law_take : Cal P w K mg base 1 "_law_take" ["_law_draws_here", "_law_many"] (sp__law_take P w CW CG)) : Cal P w K mg base 3 "_law_web" ["_law_draws_here", "_law_pegs", "_law_kind_here"] (sp__law_web P w CW CG) := by
  refine Cal.mk' D sc_law_web bd_law_web (fun vs H Q E h => by obtain ⟨d, k, x, rfl, hd, hk3, hk, q⟩ := h; rfl) fun f cdv A outer s H vs Q E hr h => ?_
  obtain ⟨d, k, x, rfl, hd, hk3, hk, q⟩ := h
  refine ⟨_, (pss_cons (ps_set (i := 3) sc_law_web.nd rfl (Or.inl rfl) (pe_lst pa_nil))
  (pss_cons (ps_set (i := 4) sc_law_web.nd rfl (Or.inl rfl) (pe_lst pa_nil))
  (pss_cons (ps_for PassesOwn.never rfl (ki_list (K := K) rfl (pe_c c__law_pairs hr (by rfl) (pa_cons (pv 0) (pa_cons (pv 1) pa_nil)))) (pg_name (i := 5) sc_law_web.nd rfl (Or.inl rfl))
  (pss_cons (ps_set (i := 6) sc_law_web.nd rfl (Or.inl rfl) (pe_c c__law_guard hr (by rfl) (pa_cons (pv 0) (pa_cons (pv 1) (pa_cons (pe_ix (kix_tup (K := K) rfl) (pv 5) pe_int (fun _ _ => rfl)) (pa_cons (pe_ix (kix_tup (K := K) rfl) (pv 5) pe_int (fun _ _ => rfl)) (pa_cons (pv 2) pa_nil)))))))
  (pss_cons (ps_expr (pe_bm PySem.F.plainAttrs_list PySem.F.slot_list_append PySem.F.type_list_append mt_append (pv 4) (pa_cons (pe_tup (pa_cons (pe_ix (kix_tup (K := K) rfl) (pv 5) pe_int (fun _ _ => rfl)) (pa_cons (pe_ix (kix_tup (K := K) rfl) (pv 5) pe_int (fun _ _ => rfl)) (pa_cons (pv 6) pa_nil)))) pa_nil)))
  (pss_cons (ps_expr (pe_bm PySem.F.plainAttrs_list PySem.F.slot_list_append PySem.F.type_list_append mt_append (pv 3) (pa_cons (pe_tup (pa_cons (pe_ix (kix_tup (K := K) rfl) (pv 5) pe_int (fun _ _ => rfl)) (pa_cons (pe_ix (kix_tup (K := K) rfl) (pv 5) pe_int (fun _ _ => rfl)) (pa_cons (pv 6) (pa_cons (pe_c c__law_cost hr (by rfl) (pa_cons (pv 0) pa_nil)) pa_nil))))) pa_nil)))
  (pss_one (ps_if (pt_cmpR op_eq (pe_c c__law_take hr (by rfl) (pa_cons (pv 0) (pa_cons pe_int pa_nil))) pe_int (nomark _)) (pss_cons (ps_set (i := 6) sc_law_web.nd rfl (Or.inl rfl) (pe_c c__law_guard hr (by rfl) (pa_cons (pv 0) (pa_cons (pv 1) (pa_cons (pe_ix (kix_tup (K := K) rfl) (pv 5) pe_int (fun _ _ => rfl)) (pa_cons (pe_ix (kix_tup (K := K) rfl) (pv 5) pe_int (fun _ _ => rfl)) (pa_cons (pv 2) pa_nil)))))))
  (pss_one (ps_if (pt_cmpR (knotInD (K := K) rfl (hr.u 65)) (pe_tup (pa_cons (pe_ix (kix_tup (K := K) rfl) (pv 5) pe_int (fun _ _ => rfl)) (pa_cons (pe_ix (kix_tup (K := K) rfl) (pv 5) pe_int (fun _ _ => rfl)) (pa_cons (pv 6) pa_nil)))) (pv 4) (by rfl)) (pss_cons (ps_expr (pe_bm PySem.F.plainAttrs_list PySem.F.slot_list_append PySem.F.type_list_append mt_append (pv 4) (pa_cons (pe_tup (pa_cons (pe_ix (kix_tup (K := K) rfl) (pv 5) pe_int (fun _ _ => rfl)) (pa_cons (pe_ix (kix_tup (K := K) rfl) (pv 5) pe_int (fun _ _ => rfl)) (pa_cons (pv 6) pa_nil)))) pa_nil)))
  (pss_one (ps_expr (pe_bm PySem.F.plainAttrs_list PySem.F.slot_list_append PySem.F.type_list_append mt_append (pv 3) (pa_cons (pe_tup (pa_cons (pe_ix (kix_tup (K := K) rfl) (pv 5) pe_int (fun _ _ => rfl)) (pa_cons (pe_ix (kix_tup (K := K) rfl) (pv 5) pe_int (fun _ _ => rfl)) (pa_cons (pv 6) (pa_cons (pe_c c__law_cost hr (by rfl) (pa_cons (pv 0) pa_nil)) pa_nil))))) pa_nil))))) pss_nil))) pss_nil))))))
  (pss_one (ps_ret (pe_callB (cr_sortL (hr.u 32)) (by rfl) T.n_sorted bt_sorted (pa_cons (pv 3) pa_nil))))))), ?_⟩
  refine ⟨by decide, fun la hla => ⟨by decide, fun lm hlm => ?_⟩⟩
  have hlm0 : H lm = none := fresh_back (Ex.new hla) hlm
  have hne : la ≠ lm := fun z => by rw [← z, upd_same] at hlm; cases hlm
  have s0 : WbS H la lm [] [] (upd (upd H la (.lst [])) lm (.lst [])) := ⟨(Ex.new hla).trans (Ex.new hlm), [], [], Ex.new hlm _ _ upd_same, upd_same, .nil, .nil⟩
  show tSeq _ _ _ _ (upd (upd H la (.lst [])) lm (.lst []))
  generalize upd (upd H la (.lst [])) lm (.lst []) = H1 at s0
  refine ⟨_, rfl, _, rfl, d, k, rfl, hd.mk s0.1, hk3, hk, fun lp H2 vp ps hlp0 e2 hlp tvp hps hplen => ?_⟩
  have s2 := s0.mkE e2
  refine ⟨lp, rfl, ⟨vp, .of hlp⟩, ?_⟩
  have hpa : lp ≠ la := fun z => by
    obtain ⟨_, va, vm, h2, _⟩ := s0
    rw [z, h2] at hlp0; cases hlp0
  have hpm : lp ≠ lm := fun z => by
    obtain ⟨_, va, vm, _, h3, _⟩ := s0
    rw [z, h3] at hlp0; cases hlp0
  refine for_list (xs := vp) (fun i σ H' => ∃ (ar : List Arr) (y z : Option V), σ = [some d, some (.int k), some (.str x), some (.ref la), some (.ref lm), y, z] ∧ WbS H la lm ar (ar.map dMK) H' ∧ H' lp = some (.lst vp) ∧ TdA H' vp (ps.map dPR) ∧ (∀ r ∈ ar, ArrOk k r ∧ (r.a, r.b) ∈ ps.take i) ∧ (ar.Pairwise fun p q => nk p ≠ nk q) ∧ ar.length ≤ 2 * i) ⟨[], none, none, rfl, s2, hlp, tvp, by simp, by simp, by simp⟩ (fun i σ H' _ p => ?_) (fun i v σ H' hv p => ?_) fun σ H' p => ?_
  · obtain ⟨ar, y, z, rfl, _, h, _⟩ := p
    exact .of h
  · obtain ⟨ar, y, z, rfl, s3, hlp, tvp, hok, hnd, hlen⟩ := p
    obtain ⟨dd, hdd, td⟩ := tvp.get hv
    rw [List.getElem?_map, Option.map_eq_some_iff] at hdd
    obtain ⟨⟨a, b⟩, hab, rfl⟩ := hdd
    obtain ⟨pr, rfl, hpr⟩ := td_pr td
    have hmem := List.mem_of_getElem? hab
    have htk : ps.take (i + 1) = ps.take i ++ [(a, b)] := take_next hab
    obtain ⟨ha, hb, hab'⟩ := hps.ok _ hmem
    have hilt : i < ps.length := (List.getElem?_eq_some_iff.mp hab).1
    have hnew : (a, b) ∉ ps.take i := fun h => by
      have h2 : (ps.take (i + 1)).Nodup := hps.nd.sublist (List.take_sublist _ _)
      rw [htk, List.nodup_append] at h2
      exact h2.2.2 _ h _ (by simp) rfl
    refine ⟨_, rfl, _, rfl, _, rfl, pr, _, 0, _, rfl, rfl, .of hpr, rfl, _, rfl, pr, _, 1, _, rfl, rfl, .of hpr, rfl, _, rfl, d, k, a, b, x, rfl, hd.mk s3.1, hk3, hk, fun gd H4 g e4 hg hgo hgn => ?_⟩
    have s4 := s3.mkE e4
    have hpr4 := e4 _ _ hpr
    have hlp4 := e4 _ _ hlp
    have tvp4 := tvp.mk e4
    refine app_mk (K := K) (a := a) (b := b) hla hlm0 hne s4 hpr4 hg (by rw [List.length_map]; omega) fun H5 tk5 x5 s5 => ?_
    refine app_ar (K := K) hd hla hlm0 hne s5 (tk5 _ _ hpr4) (hg.mono tk5) (by omega) fun H6 c tk6 x6 hc1 hc2 s6 => ?_
    have r1ok : ArrOk k ⟨a, b, g, c⟩ := gd_arr hgo hgn ha hb hab' hc1 hc2
    have hlp6 := x6 _ _ hpa (x5 _ _ hpm hlp4)
    have tvp6 := (tvp4.mono tk5).mono tk6
    have hpr6 := tk6 _ _ (tk5 _ _ hpr4)
    have md1 : ar.map dMK ++ [dMK ⟨a, b, g, 0⟩] = (ar ++ [(⟨a, b, g, c⟩ : Arr)]).map dMK := by rw [List.map_append]; rfl
    rw [md1] at s6
    have nd1 : (ar ++ [(⟨a, b, g, c⟩ : Arr)]).Pairwise fun p q => nk p ≠ nk q := by
      rw [List.pairwise_append]
      refine ⟨hnd, by simp, fun p hp q hq e => ?_⟩
      rw [List.mem_singleton] at hq
      subst hq
      obtain ⟨h1, h2, _⟩ := nk_iff.mp e
      have h3 := (hok p hp).2
      rw [h1, h2] at h3
      exact hnew h3
    have ok1 : ∀ r ∈ ar ++ [(⟨a, b, g, c⟩ : Arr)], ArrOk k r ∧ (r.a, r.b) ∈ ps.take (i + 1) := fun r hr => by
      rw [htk]
      rw [List.mem_append, List.mem_singleton] at hr
      rcases hr with hr | rfl
      · exact ⟨(hok r hr).1, List.mem_append_left _ (hok r hr).2⟩
      · exact ⟨r1ok, by simp⟩
    have hl1 : (ar ++ [(⟨a, b, g, c⟩ : Arr)]).length ≤ 2 * i + 1 := by rw [List.length_append, List.length_singleton]; omega
    generalize ar ++ [(⟨a, b, g, c⟩ : Arr)] = ar1 at s6 nd1 ok1 hl1
    refine ⟨_, rfl, d, 8, rfl, hd.mk s6.1, by decide, fun r8 _ _ => ⟨rfl, _, rfl, ite2 (fun _ => ?_) fun _ => ?_⟩⟩
    · refine ⟨_, rfl, _, rfl, _, rfl, pr, _, 0, _, rfl, rfl, .of hpr6, rfl, _, rfl, pr, _, 1, _, rfl, rfl, .of hpr6, rfl, _, rfl, d, k, a, b, x, rfl, hd.mk s6.1, hk3, hk, fun gd2 H7 g2 e7 hg2 hgo2 hgn2 => ?_⟩
      have s7 := s6.mkE e7
      have hpr7 := e7 _ _ hpr6
      have hlp7 := e7 _ _ hlp6
      have tvp7 := tvp6.mk e7
      refine ⟨_, rfl, pr, _, 0, _, rfl, rfl, .of hpr7, rfl, _, rfl, pr, _, 1, _, rfl, rfl, .of hpr7, rfl, _, rfl, line_ok (by simp), fun mt hmt => ?_⟩
      have e8 := Ex.new (o := .tup [.int a, .int b, .ref gd2]) hmt
      have s8 := s7.mkE e8
      obtain ⟨_, va, vm, h2, h3, h4, h5⟩ := id s8
      refine ⟨_, rfl, dMK ⟨a, b, g2, 0⟩, ar1.map dMK, (td_mk' (r := ⟨a, b, g2, 0⟩) upd_same (hg2.mk e8)).dp, .lst (.of h3) (TdA.dp h5), shp_mk _, shp_mkL _, _, rfl, ?_⟩
      rw [any_mk]
      refine ite2 (fun hm => ?_) fun hm => ?_
      · refine app_mk (K := K) (a := a) (b := b) hla hlm0 hne s8 (e8 _ _ hpr7) (hg2.mk e8) (by rw [List.length_map]; omega) fun H9 tk9 x9 s9 => ?_
        refine app_ar (K := K) hd hla hlm0 hne s9 (tk9 _ _ (e8 _ _ hpr7)) ((hg2.mk e8).mono tk9) (by omega) fun H10 c2 tk10 x10 hc3 hc4 s10 => ?_
        have md2 : ar1.map dMK ++ [dMK ⟨a, b, g2, 0⟩] = (ar1 ++ [(⟨a, b, g2, c2⟩ : Arr)]).map dMK := by rw [List.map_append]; rfl
        rw [md2] at s10
        refine ⟨_, _, _, rfl, s10, x10 _ _ hpa (x9 _ _ hpm (e8 _ _ hlp7)), ((tvp7.mk e8).mono tk9).mono tk10, fun r hr => ?_, ?_, by rw [List.length_append, List.length_singleton]; omega⟩
        · rw [List.mem_append, List.mem_singleton] at hr
          rcases hr with hr | rfl
          · exact ok1 r hr
          · exact ⟨gd_arr hgo2 hgn2 ha hb hab' hc3 hc4, by rw [htk]; simp⟩
        · rw [List.pairwise_append]
          refine ⟨nd1, by simp, fun p hp q hq e => ?_⟩
          rw [List.mem_singleton] at hq
          subst hq
          have hm2 : (ar1.any fun p => decide (nk p = nk (⟨a, b, g2, 0⟩ : Arr))) = false := by simpa using hm
          rw [List.any_eq_false] at hm2
          exact hm2 p hp (decide_eq_true (show nk p = nk (⟨a, b, g2, 0⟩ : Arr) from e))
      · exact ⟨ar1, _, _, rfl, s8, e8 _ _ hlp7, tvp7.mk e8, ok1, nd1, by omega⟩
    · exact ⟨ar1, _, _, rfl, s6, hlp6, tvp6, ok1, nd1, by omega⟩
  · obtain ⟨ar, y, z, rfl, s3, hlp, tvp, hok, hnd, hlen⟩ := p
    have hvl : vp.length = ps.length := by rw [tvp.len, List.length_map]
    obtain ⟨e3, va, vm, h2, h3, h4, h5⟩ := s3
    have hw : WOk k ar := ⟨fun r hr => (hok r hr).1, hnd, by omega⟩
    refine ⟨_, rfl, la, va, ar.map dAR, rfl, .inl (.of h2), h4, srt_arrsOk ar (by omega), fun p ys hp hys => ?_⟩
    rw [srt_arrs] at hys
    have e6 := Ex.new (o := .lst ys) hp
    exact q p _ ys _ (fresh_back e3 hp) (e3.trans e6) upd_same (hys.mk e6) (hw.perm (List.mergeSort_perm _ _))
  /-- all but the lists is kept -/
  def Nl (H H' : Hp) : Prop := ∀ a o, (∀ xs, o ≠ .lst xs) → H a = some o → H' a = some o
  theorem Nl.mut {H : Hp} {l : Addr} {xs : List V} (h : H l = some (.lst xs)) (o : HO) : Nl H (upd H l o) := fun a u hu q => by
    rw [upd_ne (fun z => by rw [z, h] at q; cases q; exact hu _ rfl)]
    exact q
  theorem WebV.nl {CW : Addr} {k : Nat} {H H' : Hp} {v : V} {w : List Arr} (h : WebV CW k H v w) (e : Nl H H') : WebV CW k H' v w := by
    obtain ⟨a, dx, d, t, rfl, h1, h2⟩ := h
    exact ⟨a, dx, d, t, rfl, e _ _ (fun xs z => by cases z) h1, h2.mono fun b ys q => e _ _ (fun xs z => by cases z) q⟩
  theorem WebsV.nl {CW : Addr} {k : Nat} {H H' : Hp} : ∀ {vs : List V} {ws : List (List Arr)}, WebsV CW k H vs ws → Nl H H' → WebsV CW k H' vs ws
    | _, _, .nil, _ => .nil
    | _, _, .cons h t, e => .cons (h.nl e) (WebsV.nl t e)
  theorem Li.mut {H : Hp} {v : V} {ds : List PyData} {l : Addr} {xs : List V} {o : HO} (h : Li H v ds) (hv : v ≠ .ref l) (hl : H l = some (.lst xs)) : Li (upd H l o) v ds := by
    obtain ⟨a, vs, rfl, h1, h2⟩ := h
    refine ⟨a, vs, rfl, ?_, h2.mono (Tk.mut (Tk.refl _) (no_tupL hl))⟩
    rw [upd_ne (fun z => hv (by rw [z]))]
    exact h1
  theorem RowsV.mut {H : Hp} {l : Addr} {xs : List V} {o : HO} (hl : H l = some (.lst xs)) : ∀ {vs : List V} {ws : Webs}, RowsV H vs ws → (∀ v ∈ vs, v ≠ .ref l) → RowsV (upd H l o) vs ws
    | _, _, .nil, _ => .nil
    | _, _, .cons h t, hv => .cons (h.mut (hv _ List.mem_cons_self) hl) (RowsV.mut hl t fun v hm => hv v (List.mem_cons_of_mem _ hm))
  theorem paired_take {α β : Type} {F : α → β → Prop} : ∀ {l₁ : List α} {l₂ : List β} (n : Nat), Paired F l₁ l₂ → Paired F (l₁.take n) (l₂.take n)
    | _, _, 0, _ => .nil
    | _, _, _ + 1, .nil => .nil
    | _, _, n + 1, .cons r t => .cons r (paired_take n t)


abbrev s_law_webs : Stmt := top 60
abbrev N_law_webs : List Str := ["_law_draws_here", "_law_pegs", "_law_discs", "_law_kind_here", "_law_webs_here", "_law_plain", "_law_disc"]
theorem sc_law_webs : FnScope N_law_webs ["_law_draws_here", "_law_pegs", "_law_discs", "_law_kind_here"] (defScope s_law_webs) := ⟨rfl, rfl, rfl, by decide +kernel, rfl, by decide +kernel, by decide +kernel⟩
theorem bd_law_webs : BindsAll "_law_webs" "_law_webs" s_law_webs ["_law_draws_here", "_law_pegs", "_law_discs", "_law_kind_here"] := fun _ _ _ _ _ _ us hl => match us, hl with | [_, _, _, _], _ => rfl
/-- what _law_webs promises -/
def sp__law_webs (P : Program) (w : World) (CW CG : Addr) : Sp := fun vs H Q _ => ∃ (d : V) (k n : Nat) (x : Str), vs = [d, .int k, .int n, .str x] ∧ Drw H d ∧ 3 ≤ k ∧ k ≤ 5 ∧ n ≤ 4 ∧ ∀ (r : V) H' (ws : Webs), Ex H H' → Rws H' r ws → ws.length = n → (∀ w ∈ ws, WOk k w) → Q r H'
theorem w__law_webs (T : Glb K mg CW CG) (D : Def K mg "_law_webs" s_law_webs) (c__law_web : Cal P w K mg base 3 "_law_web" ["_law_draws_here", "_law_pegs", "_law_kind_here"] (sp__law_web P w CW CG)) (c__law_take : Cal P w K mg base 1 "_law_take" ["_law_draws_here", "_law_many"] (sp__law_take P w CW CG)) : Cal P w K mg base 4 "_law_webs" ["_law_draws_here", "_law_pegs", "_law_discs", "_law_kind_here"] (sp__law_webs P w CW CG) := by
  refine Cal.mk' D sc_law_webs bd_law_webs (fun vs H Q E h => by obtain ⟨d, k, n, x, rfl, hd, hk3, hk, hn, q⟩ := h; rfl) fun f cdv A outer s H vs Q E hr h => ?_
  obtain ⟨d, k, n, x, rfl, hd, hk3, hk, hn, q⟩ := h
  refine ⟨_, (pss_cons (ps_set (i := 4) sc_law_webs.nd rfl (Or.inl rfl) (pe_lst (pa_cons (pe_c c__law_web hr (by rfl) (pa_cons (pv 0) (pa_cons (pv 1) (pa_cons (pv 3) pa_nil)))) pa_nil)))
  (pss_cut (ps_set (i := 5) sc_law_webs.nd rfl (Or.inl rfl) (pe_cmpR op_eq (pe_c c__law_take hr (by rfl) (pa_cons (pv 0) (pa_cons pe_int pa_nil))) pe_int (nomark _)))
  (pss_cons (ps_for PassesOwn.never rfl (pi_range1 (by rfl) T.n_range (pa_cons (pv 2) pa_nil)) (pg_name (i := 6) sc_law_webs.nd rfl (Or.inl rfl))
  (pss_one (ps_if (pt_val (pv 5)) (pss_one (ps_expr (pe_bm PySem.F.plainAttrs_list PySem.F.slot_list_append PySem.F.type_list_append mt_append (pv 4) (pa_cons (pe_callTy (klist_of (K := K) rfl) (by rfl) T.n_list bt_list (pa_cons (pe_ix (kix_list (K := K) rfl) (pv 4) pe_int (fun _ _ => rfl)) pa_nil)) pa_nil)))) (pss_one (ps_expr (pe_bm PySem.F.plainAttrs_list PySem.F.slot_list_append PySem.F.type_list_append mt_append (pv 4) (pa_cons (pe_c c__law_web hr (by rfl) (pa_cons (pv 0) (pa_cons (pv 1) (pa_cons (pv 3) pa_nil)))) pa_nil)))))))
  (pss_one (ps_ret (pe_slice (kslL (K := K) rfl) (pv 4) po_none (po_some (pv 2)))))))), ?_⟩
  refine ⟨_, rfl, _, rfl, _, rfl, d, k, x, rfl, hd, hk3, hk, fun r0 H1 vr0 w0 hr0 e1 hr1 tv0 hw0 => ?_⟩
  refine ⟨line_ok (by simp), fun l hl => ?_⟩
  have e2 := Ex.new (o := .lst [.ref r0]) hl
  have hl0 : H l = none := fresh_back e1 hl
  have hne : V.ref r0 ≠ .ref l := fun z => by cases z; rw [hr1] at hl; cases hl
  refine ⟨fun σ H' => ∃ (b : Bool) (y : Option V), σ = [some d, some (.int k), some (.int n), some (.str x), some (.ref l), some (.bl b), y] ∧ H' = upd H1 l (.lst [.ref r0]), ⟨_, rfl, d, 2, rfl, (hd.mk e1).mk e2, by decide, fun j _ _ => ⟨rfl, _, _, rfl, rfl⟩⟩, ?_⟩
  rintro σ H' ⟨b, y, rfl, rfl⟩
  refine ⟨_, rfl, (n : Int), rfl, by omega, by omega, ?_⟩
  have hn2 : ((n : Int)).toNat = n := by simp
  refine for_range (fun i σ H' => ∃ (vl : List V) (ws : Webs) (y : Option V), σ = [some d, some (.int k), some (.int n), some (.str x), some (.ref l), some (.bl b), y] ∧ Ex H H' ∧ H' l = some (.lst vl) ∧ RowsV H' vl ws ∧ (∀ v ∈ vl, v ≠ .ref l) ∧ ws.length = i + 1 ∧ ∀ w ∈ ws, WOk k w) ⟨[.ref r0], [w0], y, rfl, e1.trans e2, upd_same, .cons ⟨r0, vr0, rfl, e2 _ _ hr1, tv0.mk e2⟩ .nil, by simpa using hne, rfl, by simpa using hw0⟩ (fun i σ H' hi p => ?_) fun σ H' p => ?_
  · obtain ⟨vl, ws, y, rfl, e, hv, hws, hnl, hlen, hok⟩ := p
    have hi : i < n := by simpa using hi
    have hvl : vl.length = ws.length := Paired.length hws
    refine ⟨_, rfl, b, rfl, ite2 (fun _ => ?_) fun _ => ?_⟩
    · obtain ⟨v0, hv0⟩ : ∃ v, vl[0]? = some v := ⟨_, List.getElem?_eq_getElem (by omega)⟩
      obtain ⟨wa, hwa, hli⟩ := paired_get hws hv0
      obtain ⟨l0, vs0, rfl, hl0', tv⟩ := hli
      refine ⟨_, rfl, .inl ⟨rfl, _, .of hv⟩, _, rfl, l, _, 0, _, rfl, rfl, .of hv, atI_nat (j := 0) hv0, l0, vs0, rfl, .inl (.of hl0'), fun p hp => ?_⟩
      have e3 := Ex.new (o := .lst vs0) hp
      have hv3 := e3 _ _ hv
      refine ⟨l, vl, _, rfl, rfl, hv3, small1000 (by omega), ?_⟩
      refine ⟨_, ws ++ [wa], _, rfl, (e.trans e3).mut hl0, upd_same, paired_snoc (RowsV.mut hv3 (RowsV.mk hws e3) hnl) (Li.mut ⟨p, vs0, rfl, upd_same, tv.mk e3⟩ (fun z => by cases z; rw [hv] at hp; cases hp) hv3), ?_, by simp [hlen], ?_⟩
      · intro v hv'
        rw [List.mem_append, List.mem_singleton] at hv'
        rcases hv' with hv' | rfl
        · exact hnl v hv'
        · exact fun z => by cases z; rw [hv] at hp; cases hp
      · intro w' hw'
        rw [List.mem_append, List.mem_singleton] at hw'
        rcases hw' with hw' | rfl
        · exact hok w' hw'
        · exact hok _ (List.mem_of_getElem? hwa)
    · refine ⟨_, rfl, .inl ⟨rfl, _, .of hv⟩, _, rfl, _, rfl, _, rfl, d, k, x, rfl, hd.mk e, hk3, hk, fun p H3 vs0 wa hp e3 hp3 tv hwa => ?_⟩
      have hv3 := e3 _ _ hv
      refine ⟨l, vl, _, rfl, rfl, hv3, small1000 (by omega), ?_⟩
      refine ⟨_, ws ++ [wa], _, rfl, (e.trans e3).mut hl0, upd_same, paired_snoc (RowsV.mut hv3 (RowsV.mk hws e3) hnl) (Li.mut ⟨p, vs0, rfl, hp3, tv⟩ (fun z => by cases z; rw [hv] at hp; cases hp) hv3), ?_, by simp [hlen], ?_⟩
      · intro v hv'
        rw [List.mem_append, List.mem_singleton] at hv'
        rcases hv' with hv' | rfl
        · exact hnl v hv'
        · exact fun z => by cases z; rw [hv] at hp; cases hp
      · intro w' hw'
        rw [List.mem_append, List.mem_singleton] at hw'
        rcases hw' with hw' | rfl
        · exact hok w' hw'
        · exact hwa
  · obtain ⟨vl, ws, y, rfl, e, hv, hws, hnl, hlen, hok⟩ := p
    rw [hn2] at hlen
    have hvl : vl.length = ws.length := Paired.length hws
    refine ⟨_, rfl, _, rfl, _, rfl, ?_⟩
    refine slice_toL (K := K) (m := n) hv (by omega) fun r H3 _ e3 hr3 => ?_
    exact q (.ref r) H3 (ws.take n) (e.trans e3) ⟨r, _, rfl, hr3, paired_take n (RowsV.mk hws e3)⟩ (by rw [List.length_take]; omega) fun w' hw' => hok w' (List.mem_of_mem_take hw')


/-- the webs of a game, from the rows -/
def gws (ws : Webs) : Webs := ws.map webF
theorem gws_ok {k : Nat} {ws : Webs} (h3 : 3 ≤ k) (h5 : k ≤ 5) (hlen : ws.length ≤ 40) (h : ∀ w ∈ ws, WOk k w) : GmOk k (gws ws) := by
  refine ⟨h3, h5, by rw [gws, List.length_map]; exact hlen, fun w hw => ?_, fun w hw r hr => ?_⟩
  · obtain ⟨w', hw', rfl⟩ := List.mem_map.mp hw
    rw [webF_len]
    have := (h w' hw').few
    omega
  · obtain ⟨w', hw', rfl⟩ := List.mem_map.mp hw
    exact (h w' hw').ok r (mem_webF.mp hr)
abbrev s_law_built : Stmt := top 62
abbrev N_law_built : List Str := ["_law_pegs", "_law_webs_here", "_law_arrows"]
theorem sc_law_built : FnScope N_law_built ["_law_pegs", "_law_webs_here"] (defScope s_law_built) := ⟨rfl, rfl, rfl, by decide +kernel, rfl, by decide +kernel, by decide +kernel⟩
theorem bd_law_built : BindsAll "_law_built" "_law_built" s_law_built ["_law_pegs", "_law_webs_here"] := fun _ _ _ _ _ _ us hl => match us, hl with | [_, _], _ => rfl
/-- what _law_built promises -/
def sp__law_built (P : Program) (w : World) (CW CG : Addr) : Sp := fun vs H Q _ => ∃ (k : Nat) (v : V) (ws : Webs), vs = [.int k, v] ∧ Rws H v ws ∧ 3 ≤ k ∧ k ≤ 5 ∧ ws.length ≤ 40 ∧ (∀ w ∈ ws, WOk k w) ∧ ∀ (r : V) H', Ex H H' → GameV CW CG k H' r (gws ws) → Q r H'
theorem w__law_built (T : Glb K mg CW CG) (D : Def K mg "_law_built" s_law_built) (c_Game_init : CalI P w K mg base 3 "Game" CG ["self", "pegs", "webs"] (sp_Game_init P w CW CG)) (c_Web_init : CalI P w K mg base 7 "Web" CW ["self", "pegs", "arrows"] (sp_Web_init P w CW CG)) : Cal P w K mg base 9 "_law_built" ["_law_pegs", "_law_webs_here"] (sp__law_built P w CW CG) := by
  refine Cal.mk' D sc_law_built bd_law_built (fun vs H Q E h => by obtain ⟨k, v, ws, rfl, hv, hk3, hk, hlen, hok, q⟩ := h; rfl) fun f cdv A outer s H vs Q E hr h => ?_
  obtain ⟨k, v, ws, rfl, hv, hk3, hk, hlen, hok, q⟩ := h
  refine ⟨_, (pss_one (ps_ret (pe_mk c_Game_init hr (by rfl) (pa_cons (pv 0) (pa_cons (pe_lc (own := [("_law_arrows", 2)]) (g := gName 2) (tt := tYes) rfl sc_law_built.nd (ki_list (K := K) rfl (pv 1)) (blkOk_by (N := N_law_built) (sc := defScope s_law_built) (by decide +kernel)) (fun _ _ _ _ _ => (pg_name (i := 2) sc_law_built.nd rfl (Or.inl rfl))) (fun _ _ _ _ _ => pts_nil) (fun _ _ _ _ _ => (pe_mk c_Web_init hr (by rfl) (pa_cons (pv 0) (pa_cons (pv 2) pa_nil))))) pa_nil))))), ?_⟩
  obtain ⟨l, vl, rfl, hl, hws⟩ := hv
  have hvl : vl.length = ws.length := Paired.length hws
  refine ⟨_, rfl, _, rfl, l, rfl, ⟨_, .of hl⟩, fun D hD => ?_⟩
  refine lc_list (xs := vl) (fun j H3 => Ex H H3 ∧ ∃ zs, H3 D = some (.lst zs) ∧ WebsV CW k H3 zs ((ws.take j).map webF)) ⟨Ex.new hD, [], upd_same, .nil⟩ (fun j H3 _ p => .of (p.1 _ _ hl)) (fun j v H3 hv p => ?_) fun H3 p => ?_
  · obtain ⟨e3, zs, hD2, hz⟩ := p
    obtain ⟨wa, hwa, hli⟩ := paired_get hws hv
    obtain ⟨l0, vs0, rfl, hl0, tv⟩ := Li.mk hli e3
    have hwm := hok wa (List.mem_of_getElem? hwa)
    have htk : ws.take (j + 1) = ws.take j ++ [wa] := take_next hwa
    refine ⟨rfl, _, rfl, _, rfl, fun xx dx hx hdx hne => ?_⟩
    have en := make_new (C := CW) hx hdx
    refine ⟨xx, dx, l0, vs0, wa, k, rfl, upd_same, en _ _ hl0, tv.mk en, hwm.ok, hk3, hk, hwm.nd, by have := hwm.few; omega, fun H4 x4 hw4 => ⟨rfl, ?_⟩⟩
    have e4 := make_ex hx hdx x4
    have hzl : zs.length ≤ 1000 := by
      have := Paired.length hz
      rw [List.length_map, List.length_take] at this
      omega
    refine ⟨zs, e4 _ _ hD2, small1000 hzl, (e3.trans e4).mut hD, _, upd_same, ?_⟩
    rw [htk, List.map_append]
    exact paired_snoc (WebsV.nl (WebsV.mk hz e4) (Nl.mut (e4 _ _ hD2) _)) (hw4.nl (Nl.mut (e4 _ _ hD2) _))
  · obtain ⟨e3, zs, hD2, hz⟩ := p
    rw [hvl, List.take_length] at hz
    intro xx dx hx hdx hne
    have en := make_new (C := CG) hx hdx
    refine ⟨xx, dx, D, zs, gws ws, k, rfl, upd_same, .inl (en _ _ hD2), WebsV.mk hz en, hk3, hk, by rw [gws, List.length_map]; exact hlen, fun H4 x4 hg4 => ⟨rfl, q _ H4 (e3.trans (make_ex hx hdx x4)) hg4⟩⟩


end
end K07
end K07_part_W8

section K07_part_W9
set_option Elab.async false
set_option linter.all false
set_option maxRecDepth 100000
set_option maxHeartbeats 4000000
namespace K07
open PySem PySem.Spec PyProof.Rows L2 Evl
section
variable {P : Program} {w : World} {K : PySem.W.Frag} {mg : Str → Option Value} {base : Heap} {CW CG : Addr}

/-- a move as the law tells it -/
abbrev dOP (x : Nat × Arr) : PyData := .tuple [.int x.1, .int x.2.a, .int x.2.b, dTI x.2.g, .int x.2.c]
theorem td_op {H : Hp} {v : V} {x : Nat × Arr} (h : Td H v (dOP x)) : ∃ a g, v = .ref a ∧ H a = some (.tup [.int x.1, .int x.2.a, .int x.2.b, .ref g, .int x.2.c]) ∧ Td H (.ref g) (dTI x.2.g) := by
  obtain ⟨a, xs, rfl, h1, h2⟩ := h.tup_inv
  obtain ⟨x0, r0, rfl, e0, h2⟩ := h2.cons_inv
  obtain ⟨x1, r1, rfl, e1, h2⟩ := h2.cons_inv
  obtain ⟨x2, r2, rfl, e2, h2⟩ := h2.cons_inv
  obtain ⟨x3, r3, rfl, e3, h2⟩ := h2.cons_inv
  obtain ⟨x4, r4, rfl, e4, h2⟩ := h2.cons_inv
  obtain rfl := h2.nil_inv
  obtain rfl := e0.int_inv
  obtain rfl := e1.int_inv
  obtain rfl := e2.int_inv
  obtain rfl := e4.int_inv
  obtain ⟨g, rfl, h3⟩ := td_ti e3
  exact ⟨a, g, rfl, h1, e3⟩
theorem td_op' {H : Hp} {a g : Addr} {x : Nat × Arr} (h : H a = some (.tup [.int x.1, .int x.2.a, .int x.2.b, .ref g, .int x.2.c])) (hg : Td H (.ref g) (dTI x.2.g)) : Td H (.ref a) (dOP x) := .tup h (.cons (.int _) (.cons (.int _) (.cons (.int _) (.cons hg (.cons (.int _) .nil)))))
theorem rows_at {H : Hp} {vl : List V} {ws : Webs} {j : Nat} (h : RowsV H vl ws) (hj : j < ws.length) : ∃ l vs w, vl[j]? = some (.ref l) ∧ ws[j]? = some w ∧ H l = some (.lst vs) ∧ TdA H vs (w.map dAR) := by
  have hl := Paired.length h
  obtain ⟨v, hv⟩ : ∃ v, vl[j]? = some v := ⟨_, List.getElem?_eq_getElem (by omega)⟩
  obtain ⟨w, hw, hli⟩ := paired_get h hv
  obtain ⟨l, vs, rfl, h1, h2⟩ := hli
  exact ⟨l, vs, w, hv, hw, h1, h2⟩
/-- the moves that are open at the lesser discs so far -/
def OpB (ws : Webs) (p : List Int) (x : Nat × Arr) : Prop := Open ws p x.1 x.2

abbrev s_law_open : Stmt := top 63
abbrev N_law_open : List Str := ["_law_webs_here", "_law_position", "_law_rows", "_law_disc", "_law_arrow", "_law_fits", "_law_lesser"]
theorem sc_law_open : FnScope N_law_open ["_law_webs_here", "_law_position"] (defScope s_law_open) := ⟨rfl, rfl, rfl, by decide +kernel, rfl, by decide +kernel, by decide +kernel⟩
theorem bd_law_open : BindsAll "_law_open" "_law_open" s_law_open ["_law_webs_here", "_law_position"] := fun _ _ _ _ _ _ us hl => match us, hl with | [_, _], _ => rfl
/-- what _law_open promises -/
def sp__law_open (P : Program) (w : World) (CW CG : Addr) : Sp := fun vs H Q _ => ∃ (v : V) (p : Addr) (ps : List Int) (ws : Webs), vs = [v, .ref p] ∧ Rws H v ws ∧ H p = some (.tup (ps.map .int)) ∧ ps.length = ws.length ∧ ws.length ≤ 40 ∧ (∀ w ∈ ws, w.length ≤ 60) ∧ ∀ (r : Addr) H' vr (os : List (Nat × Arr)), H r = none → Ex H H' → H' r = some (.lst vr) → TdA H' vr (os.map dOP) → (∀ d r, (d, r) ∈ os ↔ Open ws ps d r) → os.length ≤ 2400 → Q (.ref r) H'
theorem w__law_open (T : Glb K mg CW CG) (D : Def K mg "_law_open" s_law_open) : Cal P w K mg base 1 "_law_open" ["_law_webs_here", "_law_position"] (sp__law_open P w CW CG) := by
  refine Cal.mk' D sc_law_open bd_law_open (fun vs H Q E h => by obtain ⟨v, p, ps, ws, rfl, hv, hp, hlen, h40, h60, q⟩ := h; rfl) fun f cdv A outer s H vs Q E hr h => ?_
  obtain ⟨v, p, ps, ws, rfl, hv, hp, hlen, h40, h60, q⟩ := h
  refine ⟨_, (pss_cons (ps_set (i := 2) sc_law_open.nd rfl (Or.inl rfl) (pe_lst pa_nil))
  (pss_cons (ps_for PassesOwn.never rfl (pi_range1 (by rfl) T.n_range (pa_cons (pe_callB (klen (K := K) rfl) (by rfl) T.n_len bt_len (pa_cons (pv 0) pa_nil)) pa_nil)) (pg_name (i := 3) sc_law_open.nd rfl (Or.inl rfl))
  (pss_one (ps_for PassesOwn.never rfl (ki_list (K := K) rfl (pe_ix (kix_list (K := K) rfl) (pv 0) (pv 3) (fun _ _ => rfl))) (pg_name (i := 4) sc_law_open.nd rfl (Or.inl rfl))
  (pss_one (ps_if (pt_cmpR op_eq (pe_ix (kix_tup (K := K) rfl) (pv 4) pe_int (fun _ _ => rfl)) (pe_ix (kix_tup (K := K) rfl) (pv 1) (pv 3) (fun _ _ => rfl)) (nomark _)) (pss_cons (ps_set (i := 5) sc_law_open.nd rfl (Or.inl rfl) pe_bl)
  (pss_cut (ps_for PassesOwn.never rfl (pi_range1 (by rfl) T.n_range (pa_cons (pv 3) pa_nil)) (pg_name (i := 6) sc_law_open.nd rfl (Or.inl rfl))
  (pss_one (ps_if (pt_cmpR (knotIn_seq (K := K) rfl) (pe_ix (kix_tup (K := K) rfl) (pv 1) (pv 6) (fun _ _ => rfl)) (pe_ix (kix_tup (K := K) rfl) (pv 4) pe_int (fun _ _ => rfl)) (by rfl)) (pss_one (ps_set (i := 5) sc_law_open.nd rfl (Or.inl rfl) pe_bl)) pss_nil)))
  (pss_one (ps_if (pt_val (pv 5)) (pss_one (ps_expr (pe_bm PySem.F.plainAttrs_list PySem.F.slot_list_append PySem.F.type_list_append mt_append (pv 2) (pa_cons (pe_tup (pa_cons (pv 3) (pa_cons (pe_ix (kix_tup (K := K) rfl) (pv 4) pe_int (fun _ _ => rfl)) (pa_cons (pe_ix (kix_tup (K := K) rfl) (pv 4) pe_int (fun _ _ => rfl)) (pa_cons (pe_ix (kix_tup (K := K) rfl) (pv 4) pe_int (fun _ _ => rfl)) (pa_cons (pe_ix (kix_tup (K := K) rfl) (pv 4) pe_int (fun _ _ => rfl)) pa_nil)))))) pa_nil)))) pss_nil)))) pss_nil)))))
  (pss_one (ps_ret (pv 2))))), ?_⟩
  obtain ⟨l, vl, rfl, hl, hws⟩ := hv
  have hvl : vl.length = ws.length := Paired.length hws
  refine ⟨by decide, fun o ho => ?_⟩
  have E0 := Ex.new (o := .lst []) ho
  refine ⟨_, rfl, l, _, rfl, .inl (.of (E0 _ _ hl)), (vl.length : Int), rfl, by omega, by omega, ?_⟩
  have hn2 : ((vl.length : Int)).toNat = vl.length := by simp
  refine for_range (fun i σ H' => ∃ (vr : List V) (os : List (Nat × Arr)) (x y z u : Option V), σ = [some (.ref l), some (.ref p), some (.ref o), x, y, z, u] ∧ Ex H H' ∧ H' o = some (.lst vr) ∧ TdA H' vr (os.map dOP) ∧ (∀ d r, (d, r) ∈ os ↔ d < i ∧ Open ws ps d r) ∧ os.length ≤ 60 * i) ⟨[], [], none, none, none, none, rfl, E0, upd_same, by simp [TdA.nil], by simp, by simp⟩ (fun i σ H' hi pv => ?_) fun σ H' pv => ?_
  · obtain ⟨vr, os, x, y, z, u, rfl, e, ho1, tv, hos, hol⟩ := pv
    have hi : i < ws.length := by omega
    obtain ⟨li, vs, wa, h1, h2, h3, h4⟩ := rows_at hws hi
    have hlio : li ≠ o := fun z => by rw [z, ho] at h3; cases h3
    have h3 := e _ _ h3
    have h4 := h4.mk e
    have hwm := h60 wa (List.mem_of_getElem? h2)
    have hio : i < ps.length := by omega
    have hpi : ps[i]? = some ps[i] := List.getElem?_eq_getElem hio
    refine ⟨_, rfl, _, rfl, l, _, _, .ref li, rfl, rfl, .of (e _ _ hl), by rw [Int.zero_add]; exact atI_nat h1, li, rfl, ⟨_, .of h3⟩, ?_⟩
    refine for_list (xs := vs) (fun j σ H' => ∃ (vr : List V) (os : List (Nat × Arr)) (y z u : Option V), σ = [some (.ref l), some (.ref p), some (.ref o), some (.int (0 + i)), y, z, u] ∧ Ex H H' ∧ H' o = some (.lst vr) ∧ TdA H' vr (os.map dOP) ∧ (∀ d r, (d, r) ∈ os ↔ (d < i ∧ Open ws ps d r) ∨ (d = i ∧ r ∈ wa.take j ∧ Open ws ps d r)) ∧ os.length ≤ 60 * i + j ∧ H' li = some (.lst vs) ∧ TdA H' vs (wa.map dAR)) ⟨vr, os, _, _, _, rfl, e, ho1, tv, by simpa using hos, by omega, h3, h4⟩ (fun j σ H' _ pv => ?_) (fun j v σ H' hv pv => ?_) fun σ H' pv => ?_
    · obtain ⟨vr, os, y, z, u, rfl, _, _, _, _, _, h, _⟩ := pv
      exact .of h
    · obtain ⟨vr, os, y, z, u, rfl, e, ho1, tv, hos, hol, h3, h4⟩ := pv
      obtain ⟨dd, hdd, td⟩ := h4.get hv
      rw [List.getElem?_map, Option.map_eq_some_iff] at hdd
      obtain ⟨r, hrr, rfl⟩ := hdd
      obtain ⟨m, g, rfl, hm, hg⟩ := td_ar td
      obtain ⟨g', eg, hg1⟩ := td_ti hg
      cases eg
      have htk : wa.take (j + 1) = wa.take j ++ [r] := take_next hrr
      have hrm : r ∈ wa := List.mem_of_getElem? hrr
      have hjl : j < wa.length := (List.getElem?_eq_some_iff.mp hrr).1
      -- the arrow does not count
      have skip : ¬ Open ws ps i r → ∀ z' u', ∃ (vr : List V) (os : List (Nat × Arr)) (y z u : Option V), [some (V.ref l), some (.ref p), some (.ref o), some (.int (0 + i)), some (.ref m), z', u'] = [some (V.ref l), some (.ref p), some (.ref o), some (.int (0 + i)), y, z, u] ∧ Ex H H' ∧ H' o = some (.lst vr) ∧ TdA H' vr (os.map dOP) ∧ (∀ d r, (d, r) ∈ os ↔ (d < i ∧ Open ws ps d r) ∨ (d = i ∧ r ∈ wa.take (j + 1) ∧ Open ws ps d r)) ∧ os.length ≤ 60 * i + (j + 1) ∧ H' li = some (.lst vs) ∧ TdA H' vs (wa.map dAR) := fun hno z' u' => by
        refine ⟨vr, os, _, _, _, rfl, e, ho1, tv, fun d r' => ?_, by omega, h3, h4⟩
        rw [hos d r', htk]
        constructor
        · rintro (h | ⟨h1, h2, h3⟩)
          · exact .inl h
          · exact .inr ⟨h1, List.mem_append_left _ h2, h3⟩
        · rintro (h | ⟨h1, h2, h3⟩)
          · exact .inl h
          · rw [List.mem_append, List.mem_singleton] at h2
            rcases h2 with h2 | rfl
            · exact .inr ⟨h1, h2, h3⟩
            · subst h1
              exact absurd h3 hno
      refine ⟨_, rfl, m, _, 0, _, rfl, rfl, .of hm, rfl, _, rfl, _, rfl, p, _, _, .int ps[i], rfl, rfl, .of (e _ _ hp), by rw [Int.zero_add]; exact atI_nat (by rw [List.getElem?_map, hpi]; rfl), rfl, _, rfl, ?_⟩
      refine ite2 (fun hra => ?_) fun hra => ?_
      · have hra : r.a = ps[i] := by simpa using hra
        -- are the lesser discs there?
        refine ⟨fun σ H2 => H2 = H' ∧ ∃ (b : Bool) (u : Option V), σ = [some (.ref l), some (.ref p), some (.ref o), some (.int (0 + i)), some (.ref m), some (.bl b), u] ∧ (b = true ↔ ∀ f, f < i → ∃ x, ps[f]? = some x ∧ x ∈ r.g), ?_, ?_⟩
        · refine ⟨_, rfl, _, rfl, by omega, by omega, ?_⟩
          have hn3 : ((0 : Int) + (i : Int)).toNat = i := by simp
          refine for_range (fun f σ H2 => H2 = H' ∧ ∃ (b : Bool) (u : Option V), σ = [some (.ref l), some (.ref p), some (.ref o), some (.int (0 + i)), some (.ref m), some (.bl b), u] ∧ (b = true ↔ ∀ f', f' < f → ∃ x, ps[f']? = some x ∧ x ∈ r.g)) ⟨rfl, true, _, rfl, by simp⟩ (fun f σ H2 hf pv => ?_) fun σ H2 pv => ?_
          · obtain ⟨rfl, b, u, rfl, hb⟩ := pv
            have hf : f < i := by omega
            have hpf : ps[f]? = some ps[f] := List.getElem?_eq_getElem (by omega)
            refine ⟨_, rfl, _, rfl, p, _, _, .int ps[f], rfl, rfl, .of (e _ _ hp), by rw [Int.zero_add]; exact atI_nat (by rw [List.getElem?_map, hpf]; rfl), _, rfl, m, _, 2, _, rfl, rfl, .of hm, rfl, g, _, rfl, .inr (.of hg1), rfl, flat_ints r.g, _, rfl, ?_⟩
            rw [notIn]
            refine ite2 (fun hn => ?_) fun hn => ?_
            · have hn : ps[f] ∉ r.g := by simpa using hn
              refine ⟨rfl, false, _, rfl, ?_⟩
              simp only [Bool.false_eq_true, false_iff]
              intro h
              obtain ⟨x, h1, h2⟩ := h f (by omega)
              rw [hpf] at h1
              cases h1
              exact hn h2
            · have hn : ps[f] ∈ r.g := by simpa using hn
              refine ⟨rfl, b, _, rfl, hb.trans ⟨fun h f' hf' => ?_, fun h f' hf' => h f' (by omega)⟩⟩
              by_cases hff : f' < f
              · exact h f' hff
              · have : f' = f := by omega
                subst this
                exact ⟨_, hpf, hn⟩
          · obtain ⟨rfl, b, u, rfl, hb⟩ := pv
            rw [hn3] at hb
            exact ⟨rfl, b, u, rfl, hb⟩
        · rintro σ H2 ⟨rfl, b, u, rfl, hb⟩
          refine ⟨_, rfl, b, rfl, ?_⟩
          have hopen : Open ws ps i r ↔ b = true := by
            rw [hb]
            constructor
            · rintro ⟨_, _, h⟩
              exact h
            · intro h
              exact ⟨⟨wa, h2, hrm⟩, by rw [hpi, hra], h⟩
          refine ite2 (fun hbt => ?_) fun hbt => ?_
          · refine ⟨_, rfl, .inl ⟨rfl, _, .of ho1⟩, _, rfl, _, rfl, m, _, 0, _, rfl, rfl, .of hm, rfl, _, rfl, m, _, 1, _, rfl, rfl, .of hm, rfl, _, rfl, m, _, 2, _, rfl, rfl, .of hm, rfl, _, rfl, m, _, 3, _, rfl, rfl, .of hm, rfl, line_ok (by simp), fun t ht => ?_⟩
            have e3 := Ex.new (o := .tup [.int (0 + (i : Int)), .int r.a, .int r.b, .ref g, .int r.c]) ht
            have ho3 := e3 _ _ ho1
            have hzl : vr.length ≤ 3000 := by rw [tv.len, List.length_map]; omega
            refine ⟨o, vr, _, rfl, rfl, ho3, Nat.lt_of_le_of_lt hzl (by decide), ?_⟩
            have tk := Tk.mut (Tk.refl _) (no_tupL ho3) (o := .lst (vr ++ [V.ref t]))
            refine ⟨_, os ++ [(i, r)], _, _, _, rfl, (e.trans e3).mut ho, upd_same, ?_, fun d r' => ?_, by rw [List.length_append, List.length_singleton]; omega, by rw [upd_ne hlio]; exact e3 _ _ h3, (h4.mk e3).mono tk⟩
            · rw [List.map_append]
              refine TdA.snoc ((tv.mk e3).mono tk) ((td_op' (x := (i, r)) ?_ (hg.mk e3)).mono tk)
              rw [upd_same, Int.zero_add]
            · rw [List.mem_append, List.mem_singleton, hos d r', htk, List.mem_append, List.mem_singleton]
              constructor
              · rintro ((h | ⟨h1, h2, h3⟩) | h)
                · exact .inl h
                · exact .inr ⟨h1, .inl h2, h3⟩
                · obtain ⟨h5, h6⟩ := Prod.mk.inj h
                  exact .inr ⟨h5, .inr h6, by rw [h5, h6]; exact hopen.mpr hbt⟩
              · rintro (h | ⟨h1, h2 | h2, h3⟩)
                · exact .inl (.inl h)
                · exact .inl (.inr ⟨h1, h2, h3⟩)
                · exact .inr (by rw [h1, h2])
          · exact skip (fun h => hbt (hopen.mp h)) _ _
      · have hra : ¬ r.a = ps[i] := by simpa using hra
        refine skip (fun h => hra ?_) _ _
        have := h.2.1
        rw [hpi] at this
        exact (Option.some.inj this).symm
    · obtain ⟨vr, os, y, z, u, rfl, e, ho1, tv, hos, hol, h3, h4⟩ := pv
      have hvs : vs.length = wa.length := by rw [h4.len, List.length_map]
      rw [hvs] at hol
      rw [hvs, List.take_length] at hos
      refine ⟨vr, os, _, _, _, _, rfl, e, ho1, tv, fun d r => ?_, by omega⟩
      rw [hos d r]
      constructor
      · rintro (⟨h1, h2⟩ | ⟨h1, h2, h3⟩)
        · exact ⟨by omega, h2⟩
        · exact ⟨by omega, h3⟩
      · rintro ⟨h1, hop⟩
        by_cases hd : d < i
        · exact .inl ⟨hd, hop⟩
        · have : d = i := by omega
          subst this
          refine .inr ⟨rfl, ?_, hop⟩
          obtain ⟨⟨w', hw', hr'⟩, _⟩ := hop
          rw [h2] at hw'
          cases hw'
          exact hr'
  · obtain ⟨vr, os, x, y, z, u, rfl, e, ho1, tv, hos, hol⟩ := pv
    rw [hn2, hvl] at hos
    refine ⟨_, rfl, q o H' vr os ho e ho1 tv (fun d r => ?_) (by rw [hn2, hvl] at hol; omega)⟩
    rw [hos d r]
    refine ⟨fun h => h.2, fun h => ⟨?_, h⟩⟩
    obtain ⟨⟨w', hw', _⟩, _⟩ := h
    exact (List.getElem?_eq_some_iff.mp hw').1


abbrev s_law_behind : Stmt := top 64
abbrev N_law_behind : List Str := ["_law_position", "_law_disc", "_law_stop", "_law_row"]
theorem sc_law_behind : FnScope N_law_behind ["_law_position", "_law_disc", "_law_stop"] (defScope s_law_behind) := ⟨rfl, rfl, rfl, by decide +kernel, rfl, by decide +kernel, by decide +kernel⟩
theorem bd_law_behind : BindsAll "_law_behind" "_law_behind" s_law_behind ["_law_position", "_law_disc", "_law_stop"] := fun _ _ _ _ _ _ us hl => match us, hl with | [_, _, _], _ => rfl
/-- what _law_behind promises -/
def sp__law_behind (P : Program) (w : World) (CW CG : Addr) : Sp := fun vs H Q _ => ∃ (p : Addr) (ps : List Int) (d : Nat) (b : Int), vs = [.ref p, .int d, .int b] ∧ H p = some (.tup (ps.map .int)) ∧ d < ps.length ∧ ∀ (r : Addr) H', Ex H H' → H' r = some (.tup ((ps.set d b).map .int)) → Q (.ref r) H'
theorem w__law_behind (T : Glb K mg CW CG) (D : Def K mg "_law_behind" s_law_behind) : Cal P w K mg base 1 "_law_behind" ["_law_position", "_law_disc", "_law_stop"] (sp__law_behind P w CW CG) := by
  refine Cal.mk' D sc_law_behind bd_law_behind (fun vs H Q E h => by obtain ⟨p, ps, d, b, rfl, hp, hd, q⟩ := h; rfl) fun f cdv A outer s H vs Q E hr h => ?_
  obtain ⟨p, ps, d, b, rfl, hp, hd, q⟩ := h
  refine ⟨_, (pss_cons (ps_set (i := 3) sc_law_behind.nd rfl (Or.inl rfl) (pe_callTy (klist_of (K := K) rfl) (by rfl) T.n_list bt_list (pa_cons (pv 0) pa_nil)))
  (pss_cons (ps_asg (pv 2) (pg_sub (pv 3) (pv 1) set_list))
  (pss_one (ps_ret (pe_callTy (ktuple_of (K := K) rfl) (by rfl) T.n_tuple bt_tuple (pa_cons (pv 3) pa_nil)))))), ?_⟩
  refine ⟨_, rfl, p, _, rfl, .inr (.of hp), fun l hl => ?_⟩
  refine ⟨_, rfl, _, rfl, _, rfl, l, ps.map V.int, d, d, rfl, rfl, upd_same, Evl.ixN_nat (by rw [List.length_map]; exact hd), ?_⟩
  rw [upd_upd]
  have e1 := Ex.new (o := .lst ((ps.map V.int).set d (.int b))) hl
  refine ⟨_, rfl, l, _, rfl, .inl ⟨.of upd_same, fun r hr' => q r _ (e1.trans (Ex.new hr')) ?_⟩⟩
  rw [upd_same, List.map_set]
  theorem pegs_take (k : Nat) : (pegs k).take k = pegs k := List.take_of_length_le (by rw [pegs_len]; exact Nat.le_refl _)
  theorem snocs_take {rows : List (List Int)} {S : List Int} {j : Nat} {r : List Int} (h : rows[j]? = some r) : (rows.take (j + 1)).flatMap (fun r => S.map fun x => r ++ [x]) = (rows.take j).flatMap (fun r => S.map fun x => r ++ [x]) ++ S.map fun x => r ++ [x] := by
    rw [take_next h, List.flatMap_append]
    simp
  theorem snocs_len (rows : List (List Int)) (S : List Int) (j : Nat) : ((rows.take j).flatMap fun r => S.map fun x => r ++ [x]).length ≤ rows.length * S.length := by
    rw [length_snocs, List.length_take]
    exact Nat.mul_le_mul_right _ (Nat.min_le_right _ _)


abbrev s_law_all : Stmt := top 67
abbrev N_law_all : List Str := ["_law_pegs", "_law_discs", "_law_rows", "_law_disc", "_law_longer", "_law_row", "_law_peg"]
theorem sc_law_all : FnScope N_law_all ["_law_pegs", "_law_discs"] (defScope s_law_all) := ⟨rfl, rfl, rfl, by decide +kernel, rfl, by decide +kernel, by decide +kernel⟩
theorem bd_law_all : BindsAll "_law_all" "_law_all" s_law_all ["_law_pegs", "_law_discs"] := fun _ _ _ _ _ _ us hl => match us, hl with | [_, _], _ => rfl
/-- what _law_all promises -/
def sp__law_all (P : Program) (w : World) (CW CG : Addr) : Sp := fun vs H Q _ => ∃ (k n : Nat), vs = [.int k, .int n] ∧ k ≤ 5 ∧ n ≤ 4 ∧ ∀ (r : Addr) H' vr, H r = none → Ex H H' → H' r = some (.lst vr) → TdA H' vr ((allP k n).map dTI) → Q (.ref r) H'
theorem w__law_all (T : Glb K mg CW CG) (D : Def K mg "_law_all" s_law_all) : Cal P w K mg base 1 "_law_all" ["_law_pegs", "_law_discs"] (sp__law_all P w CW CG) := by
  refine Cal.mk' D sc_law_all bd_law_all (fun vs H Q E h => by obtain ⟨k, n, rfl, hk, hn, q⟩ := h; rfl) fun f cdv A outer s H vs Q E hr h => ?_
  obtain ⟨k, n, rfl, hk, hn, q⟩ := h
  refine ⟨_, (pss_cons (ps_set (i := 2) sc_law_all.nd rfl (Or.inl rfl) (pe_lst (pa_cons (pe_tup pa_nil) pa_nil)))
  (pss_cons (ps_for PassesOwn.never rfl (pi_range1 (by rfl) T.n_range (pa_cons (pv 1) pa_nil)) (pg_name (i := 3) sc_law_all.nd rfl (Or.inl rfl))
  (pss_cons (ps_set (i := 4) sc_law_all.nd rfl (Or.inl rfl) (pe_lst pa_nil))
  (pss_cons (ps_for PassesOwn.never rfl (ki_list (K := K) rfl (pv 2)) (pg_name (i := 5) sc_law_all.nd rfl (Or.inl rfl))
  (pss_one (ps_for PassesOwn.never rfl (pi_range1 (by rfl) T.n_range (pa_cons (pv 0) pa_nil)) (pg_name (i := 6) sc_law_all.nd rfl (Or.inl rfl))
  (pss_one (ps_expr (pe_bm PySem.F.plainAttrs_list PySem.F.slot_list_append PySem.F.type_list_append mt_append (pv 4) (pa_cons (pe_op (kcatA (K := K) rfl) (pv 5) (pe_tup (pa_cons (pv 6) pa_nil))) pa_nil)))))))
  (pss_one (ps_set (i := 2) sc_law_all.nd rfl (Or.inl rfl) (pe_callTy (klist_of (K := K) rfl) (by rfl) T.n_list bt_list (pa_cons (pv 4) pa_nil)))))))
  (pss_one (ps_ret (pv 2))))), ?_⟩
  refine ⟨by decide, fun t ht => ⟨line_ok (by simp), fun l hl => ?_⟩⟩
  have E0 := (Ex.new ht).trans (Ex.new (o := .lst [.ref t]) hl)
  have hl0 : H l = none := fresh_back (Ex.new ht) hl
  have ht0 : upd (upd H t (.tup [])) l (.lst [.ref t]) t = some (.tup []) := Ex.new hl _ _ upd_same
  refine ⟨_, rfl, (n : Int), rfl, by omega, by omega, ?_⟩
  have hn2 : ((n : Int)).toNat = n := by simp
  have hk2 : ((k : Int)).toNat = k := by simp
  have hpw : ∀ i, i < n → k ^ i ≤ 625 := fun i hi => Nat.le_trans (Nat.pow_le_pow_left hk i) (Nat.le_trans (Nat.pow_le_pow_right (by omega) (by omega : i ≤ 4)) (by decide))
  refine for_range (fun i σ H' => ∃ (l : Addr) (vr : List V) (x y z u : Option V), σ = [some (.int k), some (.int n), some (.ref l), x, y, z, u] ∧ H l = none ∧ Ex H H' ∧ H' l = some (.lst vr) ∧ TdA H' vr ((allP k i).map dTI)) ⟨l, [.ref t], none, none, none, none, rfl, hl0, E0, upd_same, .cons (td_ti' ht0) .nil⟩ (fun i σ H' hi pv => ?_) fun σ H' pv => ?_
  · obtain ⟨l, vr, x, y, z, u, rfl, hl0, e, hl, tv⟩ := pv
    rw [hn2] at hi
    have hi5 := hpw i hi
    have hvr : vr.length = k ^ i := by rw [tv.len, List.length_map, length_allP]
    have hrows : (allP k i).length * (pegs k).length ≤ 3125 := by
      rw [length_allP, pegs_len]
      exact Nat.le_trans (Nat.mul_le_mul hi5 hk) (by decide)
    refine ⟨by decide, fun lg hlg => ?_⟩
    have hlg0 : H lg = none := fresh_back e hlg
    have hne : l ≠ lg := fun z => by rw [← z, hl] at hlg; cases hlg
    have e2 := Ex.new (o := .lst []) hlg
    refine ⟨_, rfl, l, rfl, ⟨_, .of (e2 _ _ hl)⟩, ?_⟩
    refine for_list (xs := vr) (fun j σ H2 => ∃ (vg : List V) (z u : Option V), σ = [some (.int k), some (.int n), some (.ref l), some (.int (0 + i)), some (.ref lg), z, u] ∧ Ex H H2 ∧ H2 l = some (.lst vr) ∧ TdA H2 vr ((allP k i).map dTI) ∧ H2 lg = some (.lst vg) ∧ TdA H2 vg ((((allP k i).take j).flatMap fun r => (pegs k).map fun x => r ++ [x]).map dTI)) ⟨[], _, _, rfl, e.trans e2, e2 _ _ hl, tv.mk e2, upd_same, by simp [TdA.nil]⟩ (fun j σ H2 _ pv => ?_) (fun j v σ H2 hv pv => ?_) fun σ H2 pv => ?_
    · obtain ⟨vg, z, u, rfl, _, h, _⟩ := pv
      exact .of h
    · obtain ⟨vg, z, u, rfl, e, hl, tv, hg, tg⟩ := pv
      obtain ⟨dd, hdd, td⟩ := tv.get hv
      rw [List.getElem?_map, Option.map_eq_some_iff] at hdd
      obtain ⟨r, hrr, rfl⟩ := hdd
      obtain ⟨m, rfl, hm⟩ := td_ti td
      have hrl : r.length ≤ 1000 := by
        have := (mem_allP.mp (List.mem_of_getElem? hrr)).1
        omega
      refine ⟨_, rfl, (k : Int), rfl, by omega, by omega, ?_⟩
      refine for_range (fun c σ H3 => ∃ (vg : List V) (u : Option V), σ = [some (.int k), some (.int n), some (.ref l), some (.int (0 + i)), some (.ref lg), some (.ref m), u] ∧ Ex H H3 ∧ H3 l = some (.lst vr) ∧ TdA H3 vr ((allP k i).map dTI) ∧ H3 lg = some (.lst vg) ∧ H3 m = some (.tup (r.map .int)) ∧ TdA H3 vg ((((allP k i).take j).flatMap (fun r => (pegs k).map fun x => r ++ [x]) ++ ((pegs k).take c).map fun x => r ++ [x]).map dTI)) ⟨vg, _, rfl, e, hl, tv, hg, hm, by simpa using tg⟩ (fun c σ H3 hc pv => ?_) fun σ H3 pv => ?_
      · obtain ⟨vg, u, rfl, e, hl, tv, hg, hm, tg⟩ := pv
        rw [hk2] at hc
        have hpc : (pegs k)[c]? = some (c : Int) := by
          unfold pegs
          rw [List.getElem?_map, List.getElem?_range hc]
          rfl
        have htk : (pegs k).take (c + 1) = (pegs k).take c ++ [(c : Int)] := take_next hpc
        refine ⟨_, rfl, .inl ⟨rfl, _, .of hg⟩, _, rfl, _, rfl, line_ok (by simp), fun p hp => ?_⟩
        have e3 := Ex.new (o := .tup [.int (0 + (c : Int))]) hp
        refine cat_one (x := 0 + (c : Int)) (e3 _ _ hm) upd_same hrl fun r' H4 e4 hr' => ?_
        have e5 := e3.trans e4
        have hg5 := e5 _ _ hg
        have hvg : vg.length ≤ 3130 := by
          rw [tg.len, List.length_map, List.length_append, List.length_map, List.length_take]
          have := snocs_len (allP k i) (pegs k) j
          omega
        refine ⟨lg, vg, _, rfl, rfl, hg5, Nat.lt_of_le_of_lt hvg (by decide), ?_⟩
        have tk := Tk.mut (Tk.refl _) (no_tupL hg5) (o := .lst (vg ++ [V.ref r']))
        refine ⟨_, _, rfl, (e.trans e5).mut hlg0, by rw [upd_ne hne]; exact e5 _ _ hl, (tv.mk e5).mono tk, upd_same, tk _ _ (e5 _ _ hm), ?_⟩
        rw [htk, List.map_append (f := fun x => r ++ [x]), ← List.append_assoc, List.map_append (f := dTI)]
        refine TdA.snoc ((tg.mk e5).mono tk) ?_
        have := hr'.mono tk
        rw [Int.zero_add] at this
        exact this
      · obtain ⟨vg, u, rfl, e, hl, tv, hg, hm, tg⟩ := pv
        rw [hk2, pegs_take, ← snocs_take hrr] at tg
        exact ⟨vg, _, _, rfl, e, hl, tv, hg, tg⟩
    · obtain ⟨vg, z, u, rfl, e, hl, tv, hg, tg⟩ := pv
      rw [hvr, ← length_allP k i, List.take_length, ← allP_succ] at tg
      refine ⟨_, rfl, lg, vg, rfl, .inl (.of hg), fun p hp => ?_⟩
      have e3 := Ex.new (o := .lst vg) hp
      exact ⟨p, vg, _, _, _, _, rfl, fresh_back e hp, e.trans e3, upd_same, tg.mk e3⟩
  · obtain ⟨l, vr, x, y, z, u, rfl, hl0, e, hl, tv⟩ := pv
    rw [hn2] at tv
    exact ⟨_, rfl, q l H' vr hl0 e hl tv⟩


abbrev s_law_box_rows : Stmt := top 68
abbrev N_law_box_rows : List Str := ["_law_box", "_law_rows", "_law_pegs", "_law_longer", "_law_row", "_law_peg"]
theorem sc_law_box_rows : FnScope N_law_box_rows ["_law_box"] (defScope s_law_box_rows) := ⟨rfl, rfl, rfl, by decide +kernel, rfl, by decide +kernel, by decide +kernel⟩
theorem bd_law_box_rows : BindsAll "_law_box_rows" "_law_box_rows" s_law_box_rows ["_law_box"] := fun _ _ _ _ _ _ us hl => match us, hl with | [_], _ => rfl
/-- what _law_box_rows promises -/
def sp__law_box_rows (P : Program) (w : World) (CW CG : Addr) : Sp := fun vs H Q _ => ∃ (b : Addr) (box : List (List Int)), vs = [.ref b] ∧ Td H (.ref b) (.tuple (box.map dTI)) ∧ box.length ≤ 4 ∧ (∀ S ∈ box, S.length ≤ 5) ∧ ∀ (r : Addr) H' vr, H r = none → Ex H H' → H' r = some (.lst vr) → TdA H' vr ((prodL box).map dTI) → Q (.ref r) H'
theorem w__law_box_rows (T : Glb K mg CW CG) (D : Def K mg "_law_box_rows" s_law_box_rows) : Cal P w K mg base 1 "_law_box_rows" ["_law_box"] (sp__law_box_rows P w CW CG) := by
  refine Cal.mk' D sc_law_box_rows bd_law_box_rows (fun vs H Q E h => by obtain ⟨b, box, rfl, hb, hbl, hb5, q⟩ := h; rfl) fun f cdv A outer s H vs Q E hr h => ?_
  obtain ⟨b, box, rfl, hb, hbl, hb5, q⟩ := h
  refine ⟨_, (pss_cons (ps_set (i := 1) sc_law_box_rows.nd rfl (Or.inl rfl) (pe_lst (pa_cons (pe_tup pa_nil) pa_nil)))
  (pss_cons (ps_for PassesOwn.never rfl (ki_tup (K := K) rfl (pv 0)) (pg_name (i := 2) sc_law_box_rows.nd rfl (Or.inl rfl))
  (pss_cons (ps_set (i := 3) sc_law_box_rows.nd rfl (Or.inl rfl) (pe_lst pa_nil))
  (pss_cons (ps_for PassesOwn.never rfl (ki_list (K := K) rfl (pv 1)) (pg_name (i := 4) sc_law_box_rows.nd rfl (Or.inl rfl))
  (pss_one (ps_for PassesOwn.never rfl (ki_tup (K := K) rfl (pv 2)) (pg_name (i := 5) sc_law_box_rows.nd rfl (Or.inl rfl))
  (pss_one (ps_expr (pe_bm PySem.F.plainAttrs_list PySem.F.slot_list_append PySem.F.type_list_append mt_append (pv 3) (pa_cons (pe_op (kcatA (K := K) rfl) (pv 4) (pe_tup (pa_cons (pv 5) pa_nil))) pa_nil)))))))
  (pss_one (ps_set (i := 1) sc_law_box_rows.nd rfl (Or.inl rfl) (pe_callTy (klist_of (K := K) rfl) (by rfl) T.n_list bt_list (pa_cons (pv 3) pa_nil)))))))
  (pss_one (ps_ret (pv 1))))), ?_⟩
  obtain ⟨b', vb, eb, h1, h2⟩ := hb.tup_inv
  cases eb
  refine ⟨by decide, fun t ht => ⟨line_ok (by simp), fun l hl => ?_⟩⟩
  have E0 := (Ex.new ht).trans (Ex.new (o := .lst [.ref t]) hl)
  have hl0 : H l = none := fresh_back (Ex.new ht) hl
  have ht0 : upd (upd H t (.tup [])) l (.lst [.ref t]) t = some (.tup []) := Ex.new hl _ _ upd_same
  have hvb : vb.length = box.length := by rw [h2.len, List.length_map]
  have hpw : ∀ i, i ≤ 4 → (prodL (box.take i)).length ≤ 5 ^ i := fun i hi => by
    rw [length_prodL]
    clear hi
    induction i with
    | zero => simp [manyL]
    | succ i ih =>
      cases hS : box[i]? with
      | none =>
        have := List.getElem?_eq_none_iff.mp hS
        rw [List.take_of_length_le (by omega)]
        rw [List.take_of_length_le (by omega)] at ih
        exact Nat.le_trans ih (Nat.pow_le_pow_right (by omega) (by omega))
      | some S =>
        rw [take_next hS, manyL_snoc, Nat.pow_succ]
        exact Nat.mul_le_mul ih (hb5 S (List.mem_of_getElem? hS))
  refine ⟨_, rfl, b, rfl, ⟨_, .of (E0 _ _ h1)⟩, ?_⟩
  refine for_tup (xs := vb) (fun i σ H' => ∃ (l : Addr) (vr : List V) (x y z u : Option V), σ = [some (.ref b), some (.ref l), x, y, z, u] ∧ H l = none ∧ Ex H H' ∧ H' l = some (.lst vr) ∧ TdA H' vr ((prodL (box.take i)).map dTI)) ⟨l, [.ref t], none, none, none, none, rfl, hl0, E0, upd_same, .cons (td_ti' ht0) .nil⟩ (fun i σ H' _ pv => ?_) (fun i v σ H' hv pv => ?_) fun σ H' pv => ?_
  · obtain ⟨l, vr, x, y, z, u, rfl, _, e, _⟩ := pv
    exact .of (e _ _ h1)
  · obtain ⟨l, vr, x, y, z, u, rfl, hl0, e, hl, tv⟩ := pv
    obtain ⟨dd, hdd, td⟩ := h2.get hv
    rw [List.getElem?_map, Option.map_eq_some_iff] at hdd
    obtain ⟨S, hS, rfl⟩ := hdd
    obtain ⟨sa, rfl, hsa0⟩ := td_ti td
    have hiB : i < box.length := (List.getElem?_eq_some_iff.mp hS).1
    have hS5 := hb5 S (List.mem_of_getElem? hS)
    have htkb : box.take (i + 1) = box.take i ++ [S] := take_next hS
    have hi5 : (prodL (box.take i)).length ≤ 625 := Nat.le_trans (hpw i (by omega)) (Nat.le_trans (Nat.pow_le_pow_right (by omega) (by omega : i ≤ 4)) (by decide))
    have hvr : vr.length = (prodL (box.take i)).length := by rw [tv.len, List.length_map]
    have hmlen : ∀ r ∈ prodL (box.take i), r.length ≤ 1000 := fun r hr => by
      rw [mem_prodL_len r hr, List.length_take]
      omega
    have hprod : prodL (box.take (i + 1)) = (prodL (box.take i)).flatMap fun r => S.map fun x => r ++ [x] := by rw [htkb, prodL_snoc]
    generalize prodL (box.take i) = rows at tv hi5 hvr hmlen hprod
    have hrows : rows.length * S.length ≤ 3125 := Nat.le_trans (Nat.mul_le_mul hi5 hS5) (by decide)
    refine ⟨by decide, fun lg hlg => ?_⟩
    have hlg0 : H lg = none := fresh_back e hlg
    have hne : l ≠ lg := fun z => by rw [← z, hl] at hlg; cases hlg
    have e2 := Ex.new (o := .lst []) hlg
    refine ⟨_, rfl, l, rfl, ⟨_, .of (e2 _ _ hl)⟩, ?_⟩
    refine for_list (xs := vr) (fun j σ H2 => ∃ (vg : List V) (z u : Option V), σ = [some (.ref b), some (.ref l), some (.ref sa), some (.ref lg), z, u] ∧ Ex H H2 ∧ H2 l = some (.lst vr) ∧ TdA H2 vr (rows.map dTI) ∧ H2 lg = some (.lst vg) ∧ TdA H2 vg (((rows.take j).flatMap fun r => S.map fun x => r ++ [x]).map dTI)) ⟨[], _, _, rfl, e.trans e2, e2 _ _ hl, tv.mk e2, upd_same, by simp [TdA.nil]⟩ (fun j σ H2 _ pv => ?_) (fun j v σ H2 hv pv => ?_) fun σ H2 pv => ?_
    · obtain ⟨vg, z, u, rfl, _, h, _⟩ := pv
      exact .of h
    · obtain ⟨vg, z, u, rfl, e, hl, tv, hg, tg⟩ := pv
      obtain ⟨dd, hdd, td⟩ := tv.get hv
      rw [List.getElem?_map, Option.map_eq_some_iff] at hdd
      obtain ⟨r, hrr, rfl⟩ := hdd
      obtain ⟨m, rfl, hm⟩ := td_ti td
      have hrl := hmlen r (List.mem_of_getElem? hrr)
      refine ⟨_, rfl, sa, rfl, ⟨_, .of (e _ _ hsa0)⟩, ?_⟩
      refine for_tup (xs := S.map V.int) (fun c σ H3 => ∃ (vg : List V) (u : Option V), σ = [some (.ref b), some (.ref l), some (.ref sa), some (.ref lg), some (.ref m), u] ∧ Ex H H3 ∧ H3 l = some (.lst vr) ∧ TdA H3 vr (rows.map dTI) ∧ H3 lg = some (.lst vg) ∧ H3 m = some (.tup (r.map .int)) ∧ TdA H3 vg (((rows.take j).flatMap (fun r => S.map fun x => r ++ [x]) ++ (S.take c).map fun x => r ++ [x]).map dTI)) ⟨vg, _, rfl, e, hl, tv, hg, hm, by simpa using tg⟩ (fun c σ H3 _ pv => ?_) (fun c v σ H3 hv pv => ?_) fun σ H3 pv => ?_
      · obtain ⟨vg, u, rfl, e, _⟩ := pv
        exact .of (e _ _ hsa0)
      · obtain ⟨vg, u, rfl, e, hl, tv, hg, hm, tg⟩ := pv
        rw [List.getElem?_map, Option.map_eq_some_iff] at hv
        obtain ⟨pg, hpg, rfl⟩ := hv
        have htk : S.take (c + 1) = S.take c ++ [pg] := take_next hpg
        refine ⟨_, rfl, .inl ⟨rfl, _, .of hg⟩, _, rfl, _, rfl, line_ok (by simp), fun p hp => ?_⟩
        have e3 := Ex.new (o := .tup [.int pg]) hp
        refine cat_one (x := pg) (e3 _ _ hm) upd_same hrl fun r' H4 e4 hr' => ?_
        have e5 := e3.trans e4
        have hg5 := e5 _ _ hg
        have hvg : vg.length ≤ 3130 := by
          rw [tg.len, List.length_map, List.length_append, List.length_map, List.length_take]
          have := snocs_len rows S j
          omega
        refine ⟨lg, vg, _, rfl, rfl, hg5, Nat.lt_of_le_of_lt hvg (by decide), ?_⟩
        have tk := Tk.mut (Tk.refl _) (no_tupL hg5) (o := .lst (vg ++ [V.ref r']))
        refine ⟨_, _, rfl, (e.trans e5).mut hlg0, by rw [upd_ne hne]; exact e5 _ _ hl, (tv.mk e5).mono tk, upd_same, tk _ _ (e5 _ _ hm), ?_⟩
        rw [htk, List.map_append (f := fun x => r ++ [x]), ← List.append_assoc, List.map_append (f := dTI)]
        exact TdA.snoc ((tg.mk e5).mono tk) (hr'.mono tk)
      · obtain ⟨vg, u, rfl, e, hl, tv, hg, hm, tg⟩ := pv
        rw [List.length_map, List.take_length, ← snocs_take hrr] at tg
        exact ⟨vg, _, _, rfl, e, hl, tv, hg, tg⟩
    · obtain ⟨vg, z, u, rfl, e, hl, tv, hg, tg⟩ := pv
      rw [hvr, List.take_length] at tg
      refine ⟨_, rfl, lg, vg, rfl, .inl (.of hg), fun p hp => ?_⟩
      have e3 := Ex.new (o := .lst vg) hp
      refine ⟨p, vg, _, _, _, _, rfl, fresh_back e hp, e.trans e3, upd_same, ?_⟩
      rw [hprod]
      exact tg.mk e3
  · obtain ⟨l, vr, x, y, z, u, rfl, hl0, e, hl, tv⟩ := pv
    rw [hvb, List.take_length] at tv
    exact ⟨_, rfl, q l H' vr hl0 e hl tv⟩


abbrev s_law_common : Stmt := top 72
abbrev N_law_common : List Str := ["_law_pegs", "_law_box", "_law_found", "_law_peg", "_law_row"]
theorem sc_law_common : FnScope N_law_common ["_law_pegs", "_law_box"] (defScope s_law_common) := ⟨rfl, rfl, rfl, by decide +kernel, rfl, by decide +kernel, by decide +kernel⟩
theorem bd_law_common : BindsAll "_law_common" "_law_common" s_law_common ["_law_pegs", "_law_box"] := fun _ _ _ _ _ _ us hl => match us, hl with | [_, _], _ => rfl
/-- what _law_common promises -/
def sp__law_common (P : Program) (w : World) (CW CG : Addr) : Sp := fun vs H Q _ => ∃ (k : Nat) (b : Addr) (box : List (List Int)), vs = [.int k, .ref b] ∧ Td H (.ref b) (.tuple (box.map dTI)) ∧ k ≤ 5 ∧ box.length ≤ 1000 ∧ ∀ (r : Addr) H', Ex H H' → H' r = some (.tup (((pegs k).filter fun x => box.all fun S => decide (x ∈ S)).map .int)) → Q (.ref r) H'
theorem w__law_common (T : Glb K mg CW CG) (D : Def K mg "_law_common" s_law_common) : Cal P w K mg base 1 "_law_common" ["_law_pegs", "_law_box"] (sp__law_common P w CW CG) := by
  refine Cal.mk' D sc_law_common bd_law_common (fun vs H Q E h => by obtain ⟨k, b, box, rfl, hb, hk, hbl, q⟩ := h; rfl) fun f cdv A outer s H vs Q E hr h => ?_
  obtain ⟨k, b, box, rfl, hb, hk, hbl, q⟩ := h
  refine ⟨_, (pss_cons (ps_set (i := 2) sc_law_common.nd rfl (Or.inl rfl) (pe_lst pa_nil))
  (pss_cons (ps_for PassesOwn.never rfl (pi_range1 (by rfl) T.n_range (pa_cons (pv 0) pa_nil)) (pg_name (i := 3) sc_law_common.nd rfl (Or.inr rfl))
  (pss_one (ps_if (pt_cmpR op_eq (pe_callB (klen (K := K) rfl) (by rfl) T.n_len bt_len (pa_cons (pe_lc (own := [("_law_row", 4)]) (g := gName 4) rfl sc_law_common.nd (ki_tup (K := K) rfl (pv 1)) (blkOk_by (N := N_law_common) (sc := defScope s_law_common) (by decide +kernel)) (fun _ _ _ _ _ => (pg_name (i := 4) sc_law_common.nd rfl (Or.inl rfl))) (fun _ _ _ _ _ => (pts_one (pt_cmpR (knotIn_seq (K := K) rfl) (pv 3) (pv 4) (by rfl)))) (fun _ _ _ _ _ => (pv 4))) pa_nil)) pe_int (nomark _)) (pss_one (ps_expr (pe_bm PySem.F.plainAttrs_list PySem.F.slot_list_append PySem.F.type_list_append mt_append (pv 2) (pa_cons (pv 3) pa_nil)))) pss_nil)))
  (pss_one (ps_ret (pe_callTy (ktuple_of (K := K) rfl) (by rfl) T.n_tuple bt_tuple (pa_cons (pv 2) pa_nil)))))), ?_⟩
  obtain ⟨b', vb, eb, h1, h2⟩ := hb.tup_inv
  cases eb
  have hvb : vb.length = box.length := by rw [h2.len, List.length_map]
  refine ⟨by decide, fun l hl => ?_⟩
  have hk2 : ((k : Int)).toNat = k := by simp
  refine ⟨_, rfl, (k : Int), rfl, by omega, by omega, ?_⟩
  refine for_range (fun i σ H' => ∃ (x y : Option V), σ = [some (.int k), some (.ref b), some (.ref l), x, y] ∧ Ex H H' ∧ H' l = some (.lst ((((pegs k).take i).filter fun x => box.all fun S => decide (x ∈ S)).map .int))) ⟨none, none, rfl, Ex.new hl, upd_same⟩ (fun i σ H' hi pv => ?_) fun σ H' pv => ?_
  · obtain ⟨x, y, rfl, e, hl2⟩ := pv
    rw [hk2] at hi
    have hpc : (pegs k)[i]? = some (i : Int) := by
      unfold pegs
      rw [List.getElem?_map, List.getElem?_range hi]
      rfl
    have htk : (pegs k).take (i + 1) = (pegs k).take i ++ [(i : Int)] := take_next hpc
    refine ⟨_, rfl, b, rfl, ⟨_, .of (e _ _ h1)⟩, fun D hD => ?_⟩
    refine lc_tup (xs := vb) (fun j H3 => Ex H' H3 ∧ ∃ zs, H3 D = some (.lst zs) ∧ zs.length = ((box.take j).filter fun S => !decide ((i : Int) ∈ S)).length) ⟨Ex.new hD, [], upd_same, by simp⟩ (fun j H3 _ p => .of (p.1 _ _ (e _ _ h1))) (fun j v H3 hv p => ?_) fun H3 p => ?_
    · obtain ⟨e3, zs, hD2, hz⟩ := p
      obtain ⟨d, hd, td⟩ := h2.get hv
      rw [List.getElem?_map, Option.map_eq_some_iff] at hd
      obtain ⟨S, hS, rfl⟩ := hd
      obtain ⟨t', rfl, ht⟩ := td_ti ((td.mk e).mk e3)
      have htk : box.take (j + 1) = box.take j ++ [S] := take_next hS
      refine ⟨rfl, _, rfl, _, rfl, t', _, rfl, .inr (.of ht), rfl, flat_ints S, _, rfl, ?_⟩
      rw [Int.zero_add, notIn]
      refine ite2 (fun hn => ?_) fun hn => ?_
      · have hzl : zs.length ≤ 1000 := by
          rw [hz]
          have := List.length_filter_le (fun S => !decide ((i : Int) ∈ S)) (box.take j)
          rw [List.length_take] at this
          omega
        refine ⟨_, rfl, zs, hD2, small1000 hzl, e3.mut hD, _, upd_same, ?_⟩
        rw [htk, List.filter_append, List.length_append, List.length_append, hz, List.filter_cons_of_pos (p := fun S : List Int => !decide ((i : Int) ∈ S)) hn]
        rfl
      · refine ⟨e3, zs, hD2, ?_⟩
        rw [htk, List.filter_append, hz, List.filter_cons_of_neg (p := fun S : List Int => !decide ((i : Int) ∈ S)) hn]
        simp
    · obtain ⟨e3, zs, hD2, hz⟩ := p
      rw [hvb, List.take_length] at hz
      have hl3 := e3 _ _ hl2
      refine ⟨D, zs, rfl, .inl (.of hD2), rfl, _, rfl, ?_⟩
      have hall : (zs.length = 0) ↔ (box.all fun S => decide ((i : Int) ∈ S)) = true := by
        rw [hz, List.length_eq_zero_iff, List.filter_eq_nil_iff, List.all_eq_true]
        constructor
        · intro h S hS
          have := h S hS
          simpa using this
        · intro h S hS
          have := h S hS
          simpa using this
      refine ite2 (fun hb => ?_) fun hb => ?_
      · have hb : zs.length = 0 := by simpa using hb
        have hb := hall.mp hb
        refine ⟨_, rfl, .inl ⟨rfl, _, .of hl3⟩, _, rfl, l, _, _, rfl, rfl, hl3, ?_, _, _, rfl, (e.trans e3).mut hl, ?_⟩
        · rw [List.length_map]
          have := List.length_filter_le (fun x => box.all fun S => decide (x ∈ S)) ((pegs k).take i)
          rw [List.length_take, pegs_len] at this
          exact small1000 (by omega)
        · rw [upd_same, htk, List.filter_append, List.map_append, List.filter_cons_of_pos (p := fun x : Int => box.all fun S => decide (x ∈ S)) hb, Int.zero_add]
          rfl
      · have hb : ¬ zs.length = 0 := by simpa using hb
        have hb : ¬ (box.all fun S => decide ((i : Int) ∈ S)) = true := fun h => hb (hall.mpr h)
        refine ⟨_, _, rfl, e.trans e3, ?_⟩
        rw [htk, List.filter_append, List.filter_cons_of_neg (p := fun x : Int => box.all fun S => decide (x ∈ S)) hb]
        simpa using hl3
  · obtain ⟨x, y, rfl, e, hl2⟩ := pv
    rw [hk2, pegs_take] at hl2
    exact ⟨_, rfl, l, _, rfl, .inl ⟨.of hl2, fun r hr' => q r _ (e.trans (Ex.new hr')) upd_same⟩⟩


end
end K07
end K07_part_W9

section K07_part_W10
set_option Elab.async false
set_option linter.all false
set_option maxRecDepth 100000
set_option maxHeartbeats 4000000
namespace K07
open PySem PySem.Spec PyProof.Rows L2 Evl
section
variable {P : Program} {w : World} {K : PySem.W.Frag} {mg : Str → Option Value} {base : Heap} {CW CG : Addr}

/-- a position as a key -/
def kk (ns : List Int) : List L2.Key := ns.map Sum.inl
theorem kk_kV (ns : List Int) : (kk ns).map kV = ns.map V.int := by
  unfold kk
  rw [List.map_map]
  rfl
theorem kk_inj {a b : List Int} (h : kk a = kk b) : a = b := by
  have : ∀ {l m : List Int}, l.map (Sum.inl : Int → L2.Key) = m.map Sum.inl → l = m := by
    intro l
    induction l with
    | nil => intro m q; cases m with
      | nil => rfl
      | cons x m => cases q
    | cons x l ih => intro m q; cases m with
      | nil => cases q
      | cons y m =>
        injection q with q1 q2
        injection q1 with q1
        rw [q1, ih q2]
  exact this h
theorem key_at {H : Hp} {t : Addr} {ns : List Int} (h : H t = some (.tup (ns.map V.int))) : H t = some (.tup ((kk ns).map kV)) := by rw [kk_kV]; exact h
/-- the positions that a dict knows -/
def CsB (B : Addr) (bl : List (List Int)) (H' : Hp) : Prop := ∃ kvs, H' B = some (.dT kvs) ∧ kvs.map (·.1) = bl.map kk
theorem kv_in {kvs : List (List L2.Key × V)} {bl : List (List Int)} (h : kvs.map (·.1) = bl.map kk) (q : List Int) : (valV kvs (kk q)).isSome = decide (q ∈ bl) := by
  rw [← valV_any]
  have : (kvs.any fun kv => decide (kv.1 = kk q)) = (kvs.map (·.1)).any fun k => decide (k = kk q) := by rw [List.any_map]; rfl
  rw [this, h, List.any_map]
  clear this h
  induction bl with
  | nil => simp
  | cons c bl ih2 =>
    rw [List.any_cons, ih2]
    have h1 : ((fun k => decide (k = kk q)) ∘ kk) c = decide (q = c) := by
      show decide (kk c = kk q) = decide (q = c)
      rw [decide_eq_decide]
      exact ⟨fun e => (kk_inj e).symm, fun e => by rw [e]⟩
    rw [h1]
    by_cases x : q = c <;> simp [x]
/-- what waits: nothing, or one list -/
def CsW (H : Hp) (W x y : Addr) (c : Int) (em : Bool) (fr : List (List Int)) (H' : Hp) : Prop := (em = true ∧ fr = [] ∧ H' W = some (.dK [])) ∨
  (em = false ∧ ∃ l vl, H l = none ∧ l ≠ x ∧ l ≠ y ∧ H' W = some (.dK [(.inl c, .ref l)]) ∧ H' l = some (.lst vl) ∧ TdA H' vl (fr.map dTI))
theorem CsB.mk {B : Addr} {bl : List (List Int)} {H H' : Hp} (h : CsB B bl H) (e : Ex H H') : CsB B bl H' := let ⟨kvs, h1, h2⟩ := h; ⟨kvs, e _ _ h1, h2⟩
theorem CsW.mk {H : Hp} {W x y : Addr} {c : Int} {em : Bool} {fr : List (List Int)} {H1 H2 : Hp} (h : CsW H W x y c em fr H1) (e : Ex H1 H2) : CsW H W x y c em fr H2 := by
  rcases h with ⟨h1, h2, h3⟩ | ⟨h1, l, vl, h2, h3, h4, h5, h6, h7⟩
  · exact .inl ⟨h1, h2, e _ _ h3⟩
  · exact .inr ⟨h1, l, vl, h2, h3, h4, e _ _ h5, e _ _ h6, h7.mk e⟩
/-- another dict is written -/
theorem CsW.oth {H : Hp} {W x y : Addr} {c : Int} {em : Bool} {fr : List (List Int)} {H1 : Hp} {B : Addr} {o : HO} {kvs : List (List L2.Key × V)} (h : CsW H W x y c em fr H1) (hB : H1 B = some (.dT kvs)) : CsW H W x y c em fr (upd H1 B o) := by
  have tk := Tk.mut (Tk.refl _) (no_tup hB fun xs q => by cases q) (o := o)
  rcases h with ⟨h1, h2, h3⟩ | ⟨h1, l, vl, h2, h3, h4, h5, h6, h7⟩
  · exact .inl ⟨h1, h2, by rw [upd_ne (fun z => by rw [z, hB] at h3; cases h3)]; exact h3⟩
  · exact .inr ⟨h1, l, vl, h2, h3, h4, by rw [upd_ne (fun z => by rw [z, hB] at h5; cases h5)]; exact h5, by rw [upd_ne (fun z => by rw [z, hB] at h6; cases h6)]; exact h6, h7.mono tk⟩
/-- the search's plain word -/
structure CsP (ws : Webs) (st : List Int) (bl fr more : List (List Int)) : Prop where
  nd : bl.Nodup
  rb : ∀ q ∈ bl, Reach ws st q
  rf : ∀ q ∈ fr, Reach ws st q
  rm : ∀ q ∈ more, Reach ws st q
  cl : ∀ q ∈ bl, ∀ d r, Open ws q d r → q.set d r.b ∈ bl ∨ q.set d r.b ∈ fr ∨ q.set d r.b ∈ more
  st : st ∈ bl ∨ st ∈ fr

abbrev s_law_costs : Stmt := top 65
abbrev N_law_costs : List Str := ["_law_webs_here", "_law_start", "_law_best", "_law_waiting", "_law_turn", "_law_cost_here", "_law_rows", "_law_here", "_law_move", "_law_there", "_law_further"]
theorem sc_law_costs : FnScope N_law_costs ["_law_webs_here", "_law_start"] (defScope s_law_costs) := ⟨rfl, rfl, rfl, by decide +kernel, rfl, by decide +kernel, by decide +kernel⟩
theorem bd_law_costs : BindsAll "_law_costs" "_law_costs" s_law_costs ["_law_webs_here", "_law_start"] := fun _ _ _ _ _ _ us hl => match us, hl with | [_, _], _ => rfl
/-- what _law_costs promises -/
def sp__law_costs (P : Program) (w : World) (CW CG : Addr) : Sp := fun vs H Q _ => ∃ (v : V) (p : Addr) (st : List Int) (ws : Webs) (k : Nat), vs = [v, .ref p] ∧ Rws H v ws ∧ H p = some (.tup (st.map .int)) ∧ ws.length ≤ 40 ∧ (∀ w ∈ ws, w.length ≤ 60) ∧ (∀ w ∈ ws, ∀ r ∈ w, r.c = 1) ∧ StopsOk k ws ∧ IsPos k ws.length st ∧ k ^ ws.length ≤ 81 ∧ ∀ (B : Addr) H' (bl : List (List Int)), Ex H H' → CsB B bl H' → bl.Nodup → (∀ q, q ∈ bl ↔ Reach ws st q) → Q (.ref B) H'
theorem w__law_costs (T : Glb K mg CW CG) (D : Def K mg "_law_costs" s_law_costs) (c__law_open : Cal P w K mg base 1 "_law_open" ["_law_webs_here", "_law_position"] (sp__law_open P w CW CG)) (c__law_behind : Cal P w K mg base 1 "_law_behind" ["_law_position", "_law_disc", "_law_stop"] (sp__law_behind P w CW CG)) : Cal P w K mg base 2 "_law_costs" ["_law_webs_here", "_law_start"] (sp__law_costs P w CW CG) := by
  refine Cal.mk' D sc_law_costs bd_law_costs (fun vs H Q E h => by obtain ⟨v, p, st, ws, k, rfl, hv, hp, h40, h60, hc1, hst, hpos, h81, q⟩ := h; rfl) fun f cdv A outer s H vs Q E hr h => ?_
  obtain ⟨v, p, st, ws, k, rfl, hv, hp, h40, h60, hc1, hst, hpos, h81, q⟩ := h
  refine ⟨_, (pss_cons (ps_set (i := 2) sc_law_costs.nd rfl (Or.inl rfl) pe_dnewT)
  (pss_cons (ps_set (i := 3) sc_law_costs.nd rfl (Or.inl rfl) (pe_disp (pps_cons pe_int (pe_lst (pa_cons (pe_callTy (ktuple_of (K := K) rfl) (by rfl) T.n_tuple bt_tuple (pa_cons (pv 1) pa_nil)) pa_nil)) pps_nil) (by rfl) (by rfl) (fun z => by cases z) (by decide)))
  (pss_cons (ps_for PassesOwn.never rfl (pi_range1 (by rfl) T.n_range (pa_cons pe_int pa_nil)) (pg_name (i := 4) sc_law_costs.nd rfl (Or.inl rfl))
  (pss_one (ps_if (pt_cmpR op_gt (pe_callB call_lenD (by rfl) T.n_len bt_len (pa_cons (pv 3) pa_nil)) pe_int (nomark _)) (pss_cons (ps_set (i := 5) sc_law_costs.nd rfl (Or.inl rfl) (pe_callB (cr_min rfl) (by rfl) T.n_min bt_min (pa_cons (pe_callTy (call_list_dK rfl) (by rfl) T.n_list bt_list (pa_cons (pv 3) pa_nil)) pa_nil)))
  (pss_cons (ps_set (i := 6) sc_law_costs.nd rfl (Or.inl rfl) (pe_dpop1 (pv 3) (pv 5) ⟨rfl, rfl, rfl, rfl⟩))
  (pss_one (ps_for PassesOwn.never rfl (ki_list (K := K) rfl (pv 6)) (pg_name (i := 7) sc_law_costs.nd rfl (Or.inl rfl))
  (pss_one (ps_if (pt_cmp (pc_dnotin (hr.u 1) (pv 7) (pv 2))) (pss_cons (ps_dput (hr.u 1) (pv 2) (pv 7) (pv 5) rfl)
  (pss_one (ps_for PassesOwn.never rfl (ki_list (K := K) rfl (pe_c c__law_open hr (by rfl) (pa_cons (pv 0) (pa_cons (pv 7) pa_nil)))) (pg_name (i := 8) sc_law_costs.nd rfl (Or.inl rfl))
  (pss_cons (ps_set (i := 9) sc_law_costs.nd rfl (Or.inl rfl) (pe_c c__law_behind hr (by rfl) (pa_cons (pv 7) (pa_cons (pe_ix (kix_tup (K := K) rfl) (pv 8) pe_int (fun _ _ => rfl)) (pa_cons (pe_ix (kix_tup (K := K) rfl) (pv 8) pe_int (fun _ _ => rfl)) pa_nil)))))
  (pss_one (ps_if (pt_cmp (pc_dnotin (hr.u 1) (pv 9) (pv 2))) (pss_cons (ps_set (i := 10) sc_law_costs.nd rfl (Or.inl rfl) (pe_op op_add (pv 5) (pe_ix (kix_tup (K := K) rfl) (pv 8) pe_int (fun _ _ => rfl))))
  (pss_cut (ps_if (pt_cmp (pc_dnotin (hr.u 1) (pv 10) (pv 3))) (pss_one (ps_dput (hr.u 1) (pv 3) (pv 10) (pe_lst pa_nil) rfl)) pss_nil)
  (pss_one (ps_expr (pe_bm PySem.F.plainAttrs_list PySem.F.slot_list_append PySem.F.type_list_append mt_append (pe_dget (hr.u 1) (pv 3) (pv 10) (fun _ _ => rfl)) (pa_cons (pv 9) pa_nil)))))) pss_nil)))))) pss_nil)))))) pss_nil)))
  (pss_one (ps_ret (pv 2)))))), ?_⟩
  have hv0 := hv
  obtain ⟨lw, vw, rfl, hlw, hws⟩ := hv
  intro B hB
  have eB := Ex.new (o := .dT []) hB
  intro W hW
  have hW0 : H W = none := fresh_back eB hW
  have eW := Ex.new (o := .dK []) hW
  have E1 := eB.trans eW
  refine ⟨_, rfl, p, _, rfl, .inr ⟨.of (E1 _ _ hp), line_ok (by simp), fun l0 hl0 => ?_⟩⟩
  have el := Ex.new (o := .lst [.ref p]) hl0
  have hl00 : H l0 = none := fresh_back E1 hl0
  refine ⟨el _ _ upd_same, [(.inl 0, .ref l0)], rfl, by simp, ?_⟩
  have hW2 : upd (upd (upd H B (.dT [])) W (.dK [])) l0 (.lst [.ref p]) W = some (.dK []) := el _ _ upd_same
  have hBW : B ≠ W := fun z => by rw [← z, upd_same] at hW; cases hW
  have hlW : l0 ≠ W := fun z => by rw [z, upd_same] at hl0; cases hl0
  have hlB : l0 ≠ B := fun z => by rw [z, eW _ _ upd_same] at hl0; cases hl0
  have E2 : Ex H (upd (upd (upd (upd H B (.dT [])) W (.dK [])) l0 (.lst [.ref p])) W (.dK (mergeK [] [(.inl 0, .ref l0)]))) := (E1.trans el).mut hW0
  have B2 : CsB B [] (upd (upd (upd (upd H B (.dT [])) W (.dK [])) l0 (.lst [.ref p])) W (.dK (mergeK [] [(.inl 0, .ref l0)]))) := ⟨[], by rw [upd_ne hBW]; exact el _ _ (eW _ _ upd_same), rfl⟩
  have W2 : CsW H W B B 0 false [st] (upd (upd (upd (upd H B (.dT [])) W (.dK [])) l0 (.lst [.ref p])) W (.dK (mergeK [] [(.inl 0, .ref l0)]))) := by
    refine .inr ⟨rfl, l0, [.ref p], hl00, hlB, hlB, by rw [upd_same]; rfl, by rw [upd_ne hlW, upd_same], .cons (td_ti' ?_) .nil⟩
    exact E2 _ _ hp
  refine ⟨4000, rfl, by decide, by decide, ?_⟩
  have P0 : CsP ws st [] [st] [] := ⟨by simp, by simp, fun q hq => by rw [List.mem_singleton] at hq; rw [hq]; exact .refl, by simp, by simp, .inr (by simp)⟩
  refine for_range (fun i σ H' => ∃ (c : Int) (em : Bool) (bl fr : List (List Int)) (x y : Addr) (x4 x5 x6 x7 x8 x9 xa : Option V), σ = [some (.ref lw), some (.ref p), some (.ref B), some (.ref W), x4, x5, x6, x7, x8, x9, xa] ∧ Ex H H' ∧ CsB B bl H' ∧ CsW H W x y c em fr H' ∧ CsP ws st bl fr [] ∧ (em = true ∨ i ≤ bl.length)) ⟨0, false, [], [st], B, B, none, none, none, none, none, none, none, rfl, E2, B2, W2, P0, .inr (Nat.zero_le _)⟩ (fun i σ H' hi pv => ?_) fun σ H' pv => ?_
  · obtain ⟨c, em, bl, fr, x, y, x4, x5, x6, x7, x8, x9, xa, rfl, e, hb, hw, hP, hi2⟩ := pv
    rcases hw with ⟨h1, h2, h3⟩ | ⟨h1, l, vl, h2, h3, h4, h5, h6, h7⟩
    · refine ⟨_, rfl, W, [], rfl, h3, _, _, rfl, rfl, _, rfl, ?_⟩
      exact ⟨c, em, bl, fr, x, y, _, _, _, _, _, _, _, rfl, e, hb, .inl ⟨h1, h2, h3⟩, hP, .inl h1⟩
    · have hi3 : i ≤ bl.length := hi2.elim (fun z => by rw [h1] at z; cases z) id
      refine ⟨_, rfl, W, _, rfl, h5, _, _, rfl, rfl, _, rfl, ?_⟩
      refine ⟨_, rfl, W, _, rfl, h5, fun q1 hq1 => ?_⟩
      have e3 := Ex.new (o := .lst [.int c]) hq1
      refine ⟨q1, [c], rfl, .of upd_same, by simp, fun m hm _ => ?_⟩
      rw [List.mem_singleton] at hm
      subst hm
      have h5' := e3 _ _ h5
      refine ⟨_, rfl, W, rfl, .inl ⟨_, .of h5'⟩, _, rfl, _, .inl m, .ref l, h5', rfl, by simp [valV], ?_⟩
      have hdrop : dropK [((Sum.inl m : L2.Key), V.ref l)] (.inl m) = [] := by simp [dropK]
      rw [hdrop, show (List.map (fun kv => kV kv.fst) [((Sum.inl m : L2.Key), V.ref l)]) = [V.int m] from rfl]
      -- behind the pop
      have hb3 : CsB B bl (upd (upd H' q1 (.lst [.int m])) W (.dK [])) := by
        obtain ⟨kvs, k1, k2⟩ := hb
        exact ⟨kvs, by rw [upd_ne (fun z => by rw [z, h5] at k1; cases k1)]; exact e3 _ _ k1, k2⟩
      have E3 : Ex H (upd (upd H' q1 (.lst [.int m])) W (.dK [])) := (e.trans e3).mut hW0
      have hlW3 : l ≠ W := fun z => by rw [z, h5] at h6; cases h6
      have hl3 : upd (upd H' q1 (.lst [.int m])) W (.dK []) l = some (.lst vl) := by rw [upd_ne hlW3]; exact e3 _ _ h6
      have tk3 := Tk.mut (Tk.refl _) (no_tup h5' fun xs q => by cases q) (o := .dK [])
      have tv3 := (h7.mk e3).mono tk3
      have w3 : CsW H W l l (m + 1) true [] (upd (upd H' q1 (.lst [.int m])) W (.dK [])) := .inl ⟨rfl, rfl, upd_same⟩
      generalize upd (upd H' q1 (.lst [.int m])) W (.dK []) = H3 at hb3 E3 hl3 tv3 w3
      refine ⟨_, rfl, l, rfl, ⟨vl, .of hl3⟩, ?_⟩
      have hvl : vl.length = fr.length := by rw [tv3.len, List.length_map]
      refine for_list (xs := vl) (fun j σ H2 => ∃ (em2 : Bool) (bl2 fr2 : List (List Int)) (x7 x8 x9 xa : Option V), σ = [some (.ref lw), some (.ref p), some (.ref B), some (.ref W), some (.int (0 + i)), some (.int m), some (.ref l), x7, x8, x9, xa] ∧ Ex H H2 ∧ CsB B bl2 H2 ∧ CsW H W l l (m + 1) em2 fr2 H2 ∧ H2 l = some (.lst vl) ∧ TdA H2 vl (fr.map dTI) ∧ CsP ws st bl2 fr fr2 ∧ (∀ q ∈ fr.take j, q ∈ bl2) ∧ i ≤ bl2.length ∧ (em2 = true ∨ i + 1 ≤ bl2.length) ∧ fr2.length ≤ 2400 * bl2.length) ⟨true, bl, [], _, _, _, _, rfl, E3, hb3, w3, hl3, tv3, hP, by simp, hi3, .inl rfl, by simp⟩ (fun j σ H2 _ pv => ?_) (fun j v σ H2 hv pv => ?_) fun σ H2 pv => ?_
      · obtain ⟨em2, bl2, fr2, x7, x8, x9, xa, rfl, _, _, _, h, _⟩ := pv
        exact .of h
      · obtain ⟨em2, bl2, fr2, x7, x8, x9, xa, rfl, e, hb, hw, hl, tv, hP, htk, hi3, hem, hfl⟩ := pv
        obtain ⟨dd, hdd, td⟩ := tv.get hv
        rw [List.getElem?_map, Option.map_eq_some_iff] at hdd
        obtain ⟨qq, hqq, rfl⟩ := hdd
        obtain ⟨t, rfl, ht⟩ := td_ti td
        have hqm : qq ∈ fr := List.mem_of_getElem? hqq
        have htake : fr.take (j + 1) = fr.take j ++ [qq] := take_next hqq
        have hreach := hP.rf qq hqm
        have hqpos := hreach.pos hst hpos
        obtain ⟨kvs, k1, k2⟩ := hb
        refine ⟨_, rfl, _, rfl, B, _, rfl, DGet.t k1 (key_at ht), _, rfl, ?_⟩
        rw [kv_in k2]
        refine ite2 (fun hn => ?_) fun hn => ?_
        · have hn : qq ∉ bl2 := by simpa using hn
          have hnone : valV kvs (kk qq) = none := by
            have := kv_in k2 qq
            rw [decide_eq_false hn] at this
            cases z : valV kvs (kk qq) with
            | none => rfl
            | some v => rw [z] at this; cases this
          have hnd2 : (bl2 ++ [qq]).Nodup := by
            rw [List.nodup_append]
            refine ⟨hP.nd, by simp, fun a ha b hb e => ?_⟩
            rw [List.mem_singleton] at hb
            subst hb
            subst e
            exact hn ha
          have hrb2 : ∀ q ∈ bl2 ++ [qq], Reach ws st q := fun q hq => by
            rw [List.mem_append, List.mem_singleton] at hq
            rcases hq with hq | rfl
            · exact hP.rb q hq
            · exact hreach
          have few : bl2.length ≤ 81 := Nat.le_trans (pos_few hP.nd fun q hq => (hP.rb q hq).pos hst hpos) h81
          have hkl : kvs.length < sizeLine := by
            have := congrArg List.length k2
            rw [List.length_map, List.length_map] at this
            exact small1000 (by omega)
          refine ⟨_, rfl, _, rfl, _, rfl, B, _, rfl, DPut.t k1 (key_at ht) hkl, ?_⟩
          rw [putK_new _ hnone]
          have hB0 : H B = none := hB
          have tkB := Tk.mut (Tk.refl _) (no_tup k1 fun xs q => by cases q) (o := .dT (kvs ++ [(kk qq, .int m)]))
          have e4 : Ex H (upd H2 B (.dT (kvs ++ [(kk qq, .int m)]))) := e.mut hB0
          have hb4 : CsB B (bl2 ++ [qq]) (upd H2 B (.dT (kvs ++ [(kk qq, .int m)]))) := ⟨_, upd_same, by rw [List.map_append, List.map_append, k2]; rfl⟩
          have hw4 := hw.oth (o := .dT (kvs ++ [(kk qq, .int m)])) k1
          have hl4 : upd H2 B (.dT (kvs ++ [(kk qq, .int m)])) l = some (.lst vl) := by rw [upd_ne (fun z => by rw [z, k1] at hl; cases hl)]; exact hl
          have tv4 := tv.mono tkB
          have ht4 := tkB _ _ ht
          generalize upd H2 B (.dT (kvs ++ [(kk qq, .int m)])) = H4 at e4 hb4 hw4 hl4 tv4 ht4
          refine ⟨_, rfl, _, rfl, _, t, qq, ws, rfl, hv0.mk e4, ht4, by rw [hqpos.1], h40, h60, fun lo H5 vr os hlo0 e5 hlo tvo hos hol => ?_⟩
          have hw5 : CsW H W l lo (m + 1) em2 fr2 H5 := by
            rcases hw4 with ⟨a1, a2, a3⟩ | ⟨a1, l', vl', a2, a3, a4, a5, a6, a7⟩
            · exact .inl ⟨a1, a2, e5 _ _ a3⟩
            · exact .inr ⟨a1, l', vl', a2, a3, fun z => (by rw [z, hlo0] at a6; cases a6), e5 _ _ a5, e5 _ _ a6, a7.mk e5⟩
          have hllo : lo ≠ l := fun z => by rw [z, hl4] at hlo0; cases hlo0
          refine ⟨lo, rfl, ⟨vr, .of hlo⟩, ?_⟩
          have hvr : vr.length = os.length := by rw [tvo.len, List.length_map]
          refine for_list (xs := vr) (fun n σ H6 => ∃ (em3 : Bool) (fr3 : List (List Int)) (x8 x9 xa : Option V), σ = [some (.ref lw), some (.ref p), some (.ref B), some (.ref W), some (.int (0 + i)), some (.int m), some (.ref l), some (.ref t), x8, x9, xa] ∧ Ex H H6 ∧ CsB B (bl2 ++ [qq]) H6 ∧ CsW H W l lo (m + 1) em3 fr3 H6 ∧ H6 l = some (.lst vl) ∧ TdA H6 vl (fr.map dTI) ∧ H6 lo = some (.lst vr) ∧ TdA H6 vr (os.map dOP) ∧ H6 t = some (.tup (qq.map .int)) ∧ (∀ q ∈ fr2, q ∈ fr3) ∧ (∀ q ∈ fr3, Reach ws st q) ∧ (∀ x ∈ os.take n, qq.set x.1 x.2.b ∈ bl2 ++ [qq] ∨ qq.set x.1 x.2.b ∈ fr3) ∧ fr3.length ≤ 2400 * bl2.length + n) ⟨em2, fr2, _, _, _, rfl, e4.trans e5, hb4.mk e5, hw5, e5 _ _ hl4, tv4.mk e5, hlo, tvo, e5 _ _ ht4, fun q h => h, hP.rm, by simp, hfl⟩ (fun n σ H6 _ pv => ?_) (fun n v σ H6 hv pv => ?_) fun σ H6 pv => ?_
          · obtain ⟨em3, fr3, x8, x9, xa, rfl, _, _, _, _, _, h, _⟩ := pv
            exact .of h
          · obtain ⟨em3, fr3, x8, x9, xa, rfl, e, hb, hw, hl, tv, hlo, tvo, ht, hsub, hrf, hmv, hfl3⟩ := pv
            obtain ⟨dd, hdd, td⟩ := tvo.get hv
            rw [List.getElem?_map, Option.map_eq_some_iff] at hdd
            obtain ⟨⟨d, r⟩, hdr, rfl⟩ := hdd
            obtain ⟨mo, g, rfl, hmo, hg⟩ := td_op td
            dsimp only at hmo hg
            have hopen : Open ws qq d r := (hos d r).mp (List.mem_of_getElem? hdr)
            have htake2 : os.take (n + 1) = os.take n ++ [(d, r)] := take_next hdr
            obtain ⟨⟨wa, hwa, hra⟩, hqa, _⟩ := id hopen
            have hdl : d < qq.length := (List.getElem?_eq_some_iff.mp hqa).1
            have hrc : r.c = 1 := hc1 wa (List.mem_of_getElem? hwa) r hra
            refine ⟨_, rfl, _, rfl, mo, _, 0, _, rfl, rfl, .of hmo, rfl, _, rfl, mo, _, 2, _, rfl, rfl, .of hmo, rfl, t, qq, d, r.b, rfl, ht, hdl, fun th H7 e7 hth => ?_⟩
            obtain ⟨kvs7, k1, k2⟩ := hb.mk e7
            refine ⟨_, rfl, _, rfl, B, _, rfl, DGet.t k1 (key_at hth), _, rfl, ?_⟩
            rw [kv_in k2]
            refine ite2 (fun hn => ?_) fun hn => ?_
            · refine ⟨_, rfl, _, rfl, mo, _, 4, _, rfl, rfl, .of (e7 _ _ hmo), rfl, _, _, rfl, rfl, ?_⟩
              -- a list waits there
              refine ⟨fun σ H8 => ∃ (l' : Addr) (vl' : List V), σ = [some (.ref lw), some (.ref p), some (.ref B), some (.ref W), some (.int (0 + i)), some (.int m), some (.ref l), some (.ref t), some (.ref mo), some (.ref th), some (.int (m + r.c))] ∧ Ex H H8 ∧ CsB B (bl2 ++ [qq]) H8 ∧ H l' = none ∧ l' ≠ l ∧ l' ≠ lo ∧ H8 W = some (.dK [(.inl (m + 1), .ref l')]) ∧ H8 l' = some (.lst vl') ∧ TdA H8 vl' (fr3.map dTI) ∧ H8 l = some (.lst vl) ∧ TdA H8 vl (fr.map dTI) ∧ H8 lo = some (.lst vr) ∧ TdA H8 vr (os.map dOP) ∧ H8 t = some (.tup (qq.map .int)) ∧ H8 th = some (.tup ((qq.set d r.b).map .int)), ?_, ?_⟩
              · have hw7 := hw.mk e7
                have e77 := e.trans e7
                rcases hw7 with ⟨a1, a2, a3⟩ | ⟨a1, l', vl', a2, a3, a4, a5, a6, a7⟩
                · refine ⟨_, rfl, _, rfl, W, _, rfl, DGet.k (k := .inl (m + r.c)) a3, _, rfl, ?_⟩
                  refine ⟨by decide, fun ln hln => ?_⟩
                  have e8 := Ex.new (o := .lst []) hln
                  have hW8 := e8 _ _ a3
                  refine ⟨_, rfl, _, rfl, W, _, rfl, DPut.k (k := .inl (m + r.c)) hW8 (by decide), ?_⟩
                  have hlnW : ln ≠ W := fun z => by rw [z, a3] at hln; cases hln
                  have tkW := Tk.mut (Tk.refl _) (no_tup hW8 fun xs q => by cases q) (o := .dK (putK [] (.inl (m + r.c)) (.ref ln)))
                  have lk : ∀ {a : Addr} {xs : List V}, H7 a = some (.lst xs) → upd (upd H7 ln (.lst [])) W (.dK (putK [] (.inl (m + r.c)) (.ref ln))) a = some (.lst xs) := fun {a xs} h => by
                    rw [upd_ne (fun z => by rw [z, a3] at h; cases h)]
                    exact e8 _ _ h
                  refine ⟨ln, [], rfl, (e77.trans e8).mut hW0, ⟨kvs7, by rw [upd_ne (fun z => by rw [z, a3] at k1; cases k1)]; exact e8 _ _ k1, k2⟩, fresh_back e77 hln, fun z => (by rw [z, e7 _ _ hl] at hln; cases hln), fun z => (by rw [z, e7 _ _ hlo] at hln; cases hln), by rw [upd_same, hrc]; rfl, by rw [upd_ne hlnW, upd_same], by rw [a2]; exact .nil, lk (e7 _ _ hl), ((tv.mk e7).mk e8).mono tkW, lk (e7 _ _ hlo), ((tvo.mk e7).mk e8).mono tkW, tkW _ _ (e8 _ _ (e7 _ _ ht)), tkW _ _ (e8 _ _ hth)⟩
                · refine ⟨_, rfl, _, rfl, W, _, rfl, DGet.k (k := .inl (m + r.c)) a5, _, rfl, ?_⟩
                  have hin : (valV [((Sum.inl (m + 1) : L2.Key), V.ref l')] (.inl (m + r.c))).isSome = true := by rw [hrc]; simp [valV]
                  rw [hin]
                  exact ⟨l', vl', rfl, e77, ⟨kvs7, k1, k2⟩, a2, a3, a4, a5, a6, a7, e7 _ _ hl, tv.mk e7, e7 _ _ hlo, tvo.mk e7, e7 _ _ ht, hth⟩
              · rintro σ H8 ⟨l', vl', rfl, e8, hb8, b1, b2, b3, b4, b5, b6, b7, b8, b9, b10, b11, b12⟩
                refine ⟨_, rfl, _, rfl, W, .ref l', rfl, ?_, ?_⟩
                · have := DGet.k (k := .inl (m + r.c)) b4
                  have hget : valV [((Sum.inl (m + 1) : L2.Key), V.ref l')] (.inl (m + r.c)) = some (.ref l') := by rw [hrc]; simp [valV]
                  rw [hget] at this
                  exact this
                · have few3 : vl'.length < sizeLine := by
                    have h1 := b6.len
                    rw [List.length_map] at h1
                    have h2 : n < vr.length := (List.getElem?_eq_some_iff.mp hv).1
                    have : (1000000 : Nat) < sizeLine := by decide
                    omega
                  refine ⟨.inl ⟨rfl, _, .of b5⟩, _, rfl, l', vl', _, rfl, rfl, b5, few3, ?_⟩
                  have tk8 := Tk.mut (Tk.refl _) (no_tupL b5) (o := .lst (vl' ++ [V.ref th]))
                  have hWl : W ≠ l' := fun z => by rw [z, b5] at b4; cases b4
                  refine ⟨false, fr3 ++ [qq.set d r.b], _, _, _, rfl, e8.mut b1, ?_, .inr ⟨rfl, l', _, b1, b2, b3, by rw [upd_ne hWl]; exact b4, upd_same, ?_⟩, by rw [upd_ne (Ne.symm b2)]; exact b7, b8.mono tk8, by rw [upd_ne (Ne.symm b3)]; exact b9, b10.mono tk8, tk8 _ _ b11, fun q h => List.mem_append_left _ (hsub q h), fun q hq => ?_, fun x hx => ?_, ?_⟩
                  · obtain ⟨kvs8, c1, c2⟩ := hb8
                    exact ⟨kvs8, by rw [upd_ne (fun z => by rw [z, b5] at c1; cases c1)]; exact c1, c2⟩
                  · rw [List.map_append]
                    exact TdA.snoc (b6.mono tk8) ((td_ti' b12).mono tk8)
                  · rw [List.mem_append, List.mem_singleton] at hq
                    rcases hq with hq | rfl
                    · exact hrf q hq
                    · exact .step hreach hopen
                  · rw [htake2, List.mem_append, List.mem_singleton] at hx
                    rcases hx with hx | rfl
                    · exact (hmv x hx).imp id fun h => List.mem_append_left _ h
                    · exact .inr (by simp)
                  · rw [List.length_append, List.length_singleton]; omega
            · have hn : qq.set d r.b ∈ bl2 ++ [qq] := Decidable.byContradiction fun z => hn (by rw [decide_eq_false z]; rfl)
              refine ⟨em3, fr3, _, _, _, rfl, e.trans e7, ⟨kvs7, k1, k2⟩, hw.mk e7, e7 _ _ hl, tv.mk e7, e7 _ _ hlo, tvo.mk e7, e7 _ _ ht, hsub, hrf, fun x hx => ?_, by omega⟩
              rw [htake2, List.mem_append, List.mem_singleton] at hx
              rcases hx with hx | rfl
              · exact hmv x hx
              · exact .inl hn
          · obtain ⟨em3, fr3, x8, x9, xa, rfl, e, hb, hw, hl, tv, hlo, tvo, ht, hsub, hrf, hmv, hfl3⟩ := pv
            rw [hvr, List.take_length] at hmv
            have hw' : CsW H W l l (m + 1) em3 fr3 H6 := by
              rcases hw with a | ⟨a1, l', vl', a2, a3, a4, a5, a6, a7⟩
              · exact .inl a
              · exact .inr ⟨a1, l', vl', a2, a3, a3, a5, a6, a7⟩
            refine ⟨em3, bl2 ++ [qq], fr3, _, _, _, _, rfl, e, hb, hw', hl, tv, ⟨hnd2, hrb2, hP.rf, hrf, fun q hq d r hop => ?_, ?_⟩, fun q hq => ?_, by rw [List.length_append]; omega, .inr (by rw [List.length_append, List.length_singleton]; omega), by rw [List.length_append, List.length_singleton]; omega⟩
            · rw [List.mem_append, List.mem_singleton] at hq
              rcases hq with hq | rfl
              · rcases hP.cl q hq d r hop with h | h | h
                · exact .inl (List.mem_append_left _ h)
                · exact .inr (.inl h)
                · exact .inr (.inr (hsub _ h))
              · rcases hmv (d, r) ((hos d r).mpr hop) with h | h
                · exact .inl h
                · exact .inr (.inr h)
            · exact hP.st.imp (fun h => List.mem_append_left _ h) id
            · rw [htake, List.mem_append, List.mem_singleton] at hq
              rcases hq with hq | rfl
              · exact List.mem_append_left _ (htk q hq)
              · simp
        · have hn : qq ∈ bl2 := by simpa using hn
          refine ⟨em2, bl2, fr2, _, _, _, _, rfl, e, ⟨kvs, k1, k2⟩, hw, hl, tv, hP, fun q hq => ?_, hi3, hem, hfl⟩
          rw [htake, List.mem_append, List.mem_singleton] at hq
          rcases hq with hq | rfl
          · exact htk q hq
          · exact hn
      · obtain ⟨em2, bl2, fr2, x7, x8, x9, xa, rfl, e, hb, hw, hl, tv, hP, htk, hi3, hem, hfl⟩ := pv
        rw [hvl, List.take_length] at htk
        refine ⟨m + 1, em2, bl2, fr2, l, l, _, _, _, _, _, _, _, rfl, e, hb, hw, ⟨hP.nd, hP.rb, hP.rm, by simp, fun q hq d r hop => ?_, .inl (hP.st.elim id fun h => htk _ h)⟩, hem⟩
        rcases hP.cl q hq d r hop with h | h | h
        · exact .inl h
        · exact .inl (htk _ h)
        · exact .inr (.inl h)
  · obtain ⟨c, em, bl, fr, x, y, x4, x5, x6, x7, x8, x9, xa, rfl, e, hb, hw, hP, hi2⟩ := pv
    have few : bl.length ≤ 81 := Nat.le_trans (pos_few hP.nd fun q hq => (hP.rb q hq).pos hst hpos) h81
    have h4 : (4000 : Int).toNat = 4000 := rfl
    rw [h4] at hi2
    have hem : em = true := hi2.elim id fun h => by omega
    have hfr : fr = [] := by
      rcases hw with ⟨_, h, _⟩ | ⟨h, _⟩
      · exact h
      · rw [hem] at h; cases h
    subst hfr
    refine ⟨_, rfl, q B H' bl e hb hP.nd fun q => ⟨hP.rb q, fun hq => ?_⟩⟩
    refine closed_reach (hP.st.elim id fun h => by simp at h) (fun q hq d r hop => ?_) hq
    rcases hP.cl q hq d r hop with h | h | h
    · exact h
    · simp at h
    · simp at h


end
end K07
end K07_part_W10

section K07_part_W11
set_option Elab.async false
set_option linter.all false
set_option maxRecDepth 100000
set_option maxHeartbeats 4000000
namespace K07
open PySem PySem.Spec PyProof.Rows L2 Evl
section
variable {P : Program} {w : World} {K : PySem.W.Frag} {mg : Str → Option Value} {base : Heap} {CW CG : Addr}

/-- the same arrows, another cost -/
def oneA (r : Arr) : Arr := ⟨r.a, r.b, r.g, 1⟩
theorem open_le {ws ws' : Webs} (h : ∀ (d : Nat) (w : List Arr) (r : Arr), ws[d]? = some w → r ∈ w → ∃ w' r', ws'[d]? = some w' ∧ r' ∈ w' ∧ r'.a = r.a ∧ r'.b = r.b ∧ r'.g = r.g) {p : List Int} {d : Nat} {r : Arr} (o : Open ws p d r) : ∃ r', Open ws' p d r' ∧ r'.b = r.b := by
  obtain ⟨⟨w, hw, hr⟩, h1, h2⟩ := o
  obtain ⟨w', r', hw', hr', ha, hb, hg⟩ := h d w r hw hr
  exact ⟨r', ⟨⟨w', hw', hr'⟩, by rw [ha]; exact h1, by rw [hg]; exact h2⟩, hb⟩
theorem reach_le {ws ws' : Webs} (h : ∀ (d : Nat) (w : List Arr) (r : Arr), ws[d]? = some w → r ∈ w → ∃ w' r', ws'[d]? = some w' ∧ r' ∈ w' ∧ r'.a = r.a ∧ r'.b = r.b ∧ r'.g = r.g) {p q : List Int} (hr : Reach ws p q) : Reach ws' p q := by
  induction hr with
  | refl => exact .refl
  | step _ o ih =>
    obtain ⟨r', o', hb⟩ := open_le h o
    rw [← hb]
    exact .step ih o'
def mapW (f : Arr → Arr) (ws : Webs) : Webs := ws.map fun w => w.map f
theorem mapW_at {f : Arr → Arr} {ws : Webs} {d : Nat} {w' : List Arr} (h : (mapW f ws)[d]? = some w') : ∃ w, ws[d]? = some w ∧ w' = w.map f := by
  unfold mapW at h
  rw [List.getElem?_map, Option.map_eq_some_iff] at h
  obtain ⟨w, h1, h2⟩ := h
  exact ⟨w, h1, h2.symm⟩
theorem mapW_mem {f : Arr → Arr} {ws : Webs} {w' : List Arr} (h : w' ∈ mapW f ws) : ∃ w, w ∈ ws ∧ w' = w.map f := by
  obtain ⟨w, h1, h2⟩ := List.mem_map.mp h
  exact ⟨w, h1, h2.symm⟩
theorem mapW_len {f : Arr → Arr} {ws : Webs} : (mapW f ws).length = ws.length := List.length_map ..
theorem mapW_few {f : Arr → Arr} {ws : Webs} {n : Nat} (h : ∀ w ∈ ws, w.length ≤ n) : ∀ w ∈ mapW f ws, w.length ≤ n := fun w' hw => by
  obtain ⟨w, h1, rfl⟩ := mapW_mem hw
  rw [List.length_map]
  exact h w h1
theorem reach_ones {ws : Webs} {p q : List Int} : Reach (mapW oneA ws) p q ↔ Reach ws p q := by
  constructor
  · refine reach_le fun d w r hw hr => ?_
    obtain ⟨w0, h1, rfl⟩ := mapW_at hw
    obtain ⟨r0, h2, rfl⟩ := List.mem_map.mp hr
    exact ⟨w0, r0, h1, h2, rfl, rfl, rfl⟩
  · refine reach_le fun d w r hw hr => ?_
    exact ⟨w.map oneA, oneA r, by rw [mapW, List.getElem?_map, hw]; rfl, List.mem_map.mpr ⟨r, hr, rfl⟩, rfl, rfl, rfl⟩
theorem mapW_take {f : Arr → Arr} {ws : Webs} {i : Nat} {w : List Arr} (h : ws[i]? = some w) : mapW f (ws.take (i + 1)) = mapW f (ws.take i) ++ [w.map f] := by
  rw [take_next h, mapW, mapW, List.map_append]
  rfl

abbrev s_law_leads : Stmt := top 66
abbrev N_law_leads : List Str := ["_law_webs_here", "_law_start", "_law_ones", "_law_web_here", "_law_arrow"]
theorem sc_law_leads : FnScope N_law_leads ["_law_webs_here", "_law_start"] (defScope s_law_leads) := ⟨rfl, rfl, rfl, by decide +kernel, rfl, by decide +kernel, by decide +kernel⟩
theorem bd_law_leads : BindsAll "_law_leads" "_law_leads" s_law_leads ["_law_webs_here", "_law_start"] := fun _ _ _ _ _ _ us hl => match us, hl with | [_, _], _ => rfl
/-- what _law_leads promises -/
def sp__law_leads (P : Program) (w : World) (CW CG : Addr) : Sp := fun vs H Q _ => ∃ (v : V) (p : Addr) (st : List Int) (ws : Webs) (k : Nat), vs = [v, .ref p] ∧ Rws H v ws ∧ H p = some (.tup (st.map .int)) ∧ ws.length ≤ 40 ∧ (∀ w ∈ ws, w.length ≤ 60) ∧ StopsOk k ws ∧ IsPos k ws.length st ∧ k ^ ws.length ≤ 81 ∧ ∀ (B : Addr) H' (bl : List (List Int)), Ex H H' → CsB B bl H' → bl.Nodup → (∀ q, q ∈ bl ↔ Reach ws st q) → Q (.ref B) H'
theorem w__law_leads (T : Glb K mg CW CG) (D : Def K mg "_law_leads" s_law_leads) (c__law_costs : Cal P w K mg base 2 "_law_costs" ["_law_webs_here", "_law_start"] (sp__law_costs P w CW CG)) : Cal P w K mg base 3 "_law_leads" ["_law_webs_here", "_law_start"] (sp__law_leads P w CW CG) := by
  refine Cal.mk' D sc_law_leads bd_law_leads (fun vs H Q E h => by obtain ⟨v, p, st, ws, k, rfl, hv, hp, h40, h60, hst, hpos, h81, q⟩ := h; rfl) fun f cdv A outer s H vs Q E hr h => ?_
  obtain ⟨v, p, st, ws, k, rfl, hv, hp, h40, h60, hst, hpos, h81, q⟩ := h
  refine ⟨_, (pss_cons (ps_set (i := 2) sc_law_leads.nd rfl (Or.inl rfl) (pe_lst pa_nil))
  (pss_cons (ps_for PassesOwn.never rfl (ki_list (K := K) rfl (pv 0)) (pg_name (i := 3) sc_law_leads.nd rfl (Or.inl rfl))
  (pss_one (ps_expr (pe_bm PySem.F.plainAttrs_list PySem.F.slot_list_append PySem.F.type_list_append mt_append (pv 2) (pa_cons (pe_lc (own := [("_law_arrow", 4)]) (g := gName 4) (tt := tYes) rfl sc_law_leads.nd (ki_list (K := K) rfl (pv 3)) (blkOk_by (N := N_law_leads) (sc := defScope s_law_leads) (by decide +kernel)) (fun _ _ _ _ _ => (pg_name (i := 4) sc_law_leads.nd rfl (Or.inl rfl))) (fun _ _ _ _ _ => pts_nil) (fun _ _ _ _ _ => (pe_tup (pa_cons (pe_ix (kix_tup (K := K) rfl) (pv 4) pe_int (fun _ _ => rfl)) (pa_cons (pe_ix (kix_tup (K := K) rfl) (pv 4) pe_int (fun _ _ => rfl)) (pa_cons (pe_ix (kix_tup (K := K) rfl) (pv 4) pe_int (fun _ _ => rfl)) (pa_cons pe_int pa_nil))))))) pa_nil)))))
  (pss_one (ps_ret (pe_c c__law_costs hr (by rfl) (pa_cons (pv 2) (pa_cons (pv 1) pa_nil))))))), ?_⟩
  obtain ⟨lw, vw, rfl, hlw, hws⟩ := hv
  have hvw : vw.length = ws.length := Paired.length hws
  refine ⟨by decide, fun o ho => ?_⟩
  have E0 := Ex.new (o := .lst []) ho
  refine ⟨_, rfl, lw, rfl, ⟨_, .of (E0 _ _ hlw)⟩, ?_⟩
  refine for_list (xs := vw) (fun i σ H' => ∃ (zs : List V) (x y : Option V), σ = [some (.ref lw), some (.ref p), some (.ref o), x, y] ∧ Ex H H' ∧ H' o = some (.lst zs) ∧ RowsV H' zs (mapW oneA (ws.take i)) ∧ (∀ v ∈ zs, v ≠ .ref o)) ⟨[], none, none, rfl, E0, upd_same, .nil, by simp⟩ (fun i σ H' _ pv => ?_) (fun i v σ H' hv pv => ?_) fun σ H' pv => ?_
  · obtain ⟨zs, x, y, rfl, e, _⟩ := pv
    exact .of (e _ _ hlw)
  · obtain ⟨zs, x, y, rfl, e, ho1, hz, hnl⟩ := pv
    obtain ⟨wa, hwa, hli⟩ := paired_get hws hv
    obtain ⟨l0, vs0, rfl, hl0, tv⟩ := Li.mk hli e
    refine ⟨_, rfl, .inl ⟨rfl, _, .of ho1⟩, _, rfl, l0, rfl, ⟨_, .of hl0⟩, fun D hD => ?_⟩
    have hDo : D ≠ o := fun z => by rw [z, ho1] at hD; cases hD
    refine lc_list (xs := vs0) (fun j H3 => Ex H' H3 ∧ ∃ ys, H3 D = some (.lst ys) ∧ TdA H3 ys ((wa.take j).map fun r => dAR (oneA r))) ⟨Ex.new hD, [], upd_same, .nil⟩ (fun j H3 _ p => .of (p.1 _ _ hl0)) (fun j v H3 hv p => ?_) fun H3 p => ?_
    · obtain ⟨e3, ys, hD2, hy⟩ := p
      obtain ⟨dd, hdd, td⟩ := (tv.mk e3).get hv
      rw [List.getElem?_map, Option.map_eq_some_iff] at hdd
      obtain ⟨r, hrr, rfl⟩ := hdd
      obtain ⟨m, g, rfl, hm, hg⟩ := td_ar td
      have htk : wa.take (j + 1) = wa.take j ++ [r] := take_next hrr
      refine ⟨rfl, _, rfl, m, _, 0, _, rfl, rfl, .of hm, rfl, _, rfl, m, _, 1, _, rfl, rfl, .of hm, rfl, _, rfl, m, _, 2, _, rfl, rfl, .of hm, rfl, line_ok (by simp), fun t ht => ?_⟩
      have e4 := Ex.new (o := .tup [.int r.a, .int r.b, .ref g, .int 1]) ht
      have hyl : ys.length ≤ 1000 := by
        have := hy.len
        have h2 := h60 wa (List.mem_of_getElem? hwa)
        rw [List.length_map, List.length_take] at this
        omega
      have hD4 := e4 _ _ hD2
      have tk := Tk.mut (Tk.refl _) (no_tupL hD4) (o := .lst (ys ++ [V.ref t]))
      refine ⟨ys, hD4, small1000 hyl, (e3.trans e4).mut hD, _, upd_same, ?_⟩
      rw [htk, List.map_append]
      exact TdA.snoc ((hy.mk e4).mono tk) ((td_ar' (r := oneA r) upd_same (hg.mk e4)).mono tk)
    · obtain ⟨e3, ys, hD2, hy⟩ := p
      have hvs : vs0.length = wa.length := by rw [tv.len, List.length_map]
      rw [hvs, List.take_length] at hy
      have ho3 := e3 _ _ ho1
      have hzl : zs.length ≤ 1000 := by
        have := Paired.length hz
        rw [mapW_len, List.length_take] at this
        omega
      have hne : V.ref D ≠ V.ref o := fun z => hDo (by cases z; rfl)
      refine ⟨o, zs, _, rfl, rfl, ho3, small1000 hzl, ?_⟩
      refine ⟨_, _, _, rfl, (e.trans e3).mut ho, upd_same, ?_, fun v hv' => ?_⟩
      · rw [mapW_take hwa]
        refine paired_snoc (RowsV.mut ho3 (RowsV.mk hz e3) hnl) (Li.mut ⟨D, ys, rfl, hD2, ?_⟩ hne ho3)
        rw [List.map_map]
        exact hy
      · rw [List.mem_append, List.mem_singleton] at hv'
        rcases hv' with hv' | rfl
        · exact hnl v hv'
        · exact hne
  · obtain ⟨zs, x, y, rfl, e, ho1, hz, hnl⟩ := pv
    rw [hvw, List.take_length] at hz
    refine ⟨_, rfl, _, rfl, .ref o, p, st, mapW oneA ws, k, rfl, ⟨o, zs, rfl, ho1, hz⟩, e _ _ hp, by rw [mapW_len]; exact h40, mapW_few h60, fun w' hw' r hr => ?_, fun w' hw' r hr => ?_, by rw [mapW_len]; exact hpos, by rw [mapW_len]; exact h81, fun B H2 bl e2 hb hnd hbl => q B H2 bl (e.trans e2) hb hnd fun z => (hbl z).trans reach_ones⟩
    · obtain ⟨w1, _, rfl⟩ := mapW_mem hw'
      obtain ⟨r1, _, rfl⟩ := List.mem_map.mp hr
      rfl
    · obtain ⟨w1, h1, rfl⟩ := mapW_mem hw'
      obtain ⟨r1, h2, rfl⟩ := List.mem_map.mp hr
      exact hst w1 h1 r1 h2


theorem keys_tda {H : Hp} : ∀ {kvs : List (List L2.Key × V)} {bs : List Addr} {bl : List (List Int)}, IsKeys H kvs bs → kvs.map (·.1) = bl.map kk → TdA H (bs.map V.ref) (bl.map dTI)
  | [], _, [], .nil, _ => .nil
  | [], _, b :: bl, _, e => by cases e
  | kv :: kvs, _, [], _, e => by cases e
  | kv :: kvs, _, b :: bl, .cons h t, e => by
    have h1 : kv.1 = kk b := (List.cons.inj e).1
    have h2 : kvs.map (·.1) = bl.map kk := (List.cons.inj e).2
    refine .cons (td_ti' ?_) (keys_tda t h2)
    rw [h, h1, kk_kV]
theorem srt_tis {bl : List (List Int)} {n : Nat} (hnd : bl.Nodup) (hl : ∀ q ∈ bl, q.length = n) (hs : bl.length ≤ 81) : Srt (bl.map dTI) := by
  refine ⟨fun d hd d' hd' => ?_, ?_, by rw [List.length_map]; omega, fun d hd => ?_⟩
  · obtain ⟨g, _, rfl⟩ := List.mem_map.mp hd
    obtain ⟨g', _, rfl⟩ := List.mem_map.mp hd'
    exact alike_ti g g'
  · cases n with
    | zero =>
      refine .inr ⟨?_, fun d hd => ?_⟩
      · rw [List.length_map]
        have : bl.length ≤ [([] : List Int)].length := nodup_sub_len hnd fun q hq => by rw [List.mem_singleton]; exact List.length_eq_zero_iff.mp (hl q hq)
        rw [List.length_singleton] at this
        omega
      · obtain ⟨g, _, rfl⟩ := List.mem_map.mp hd
        exact fun z => by cases z
    | succ n =>
      refine .inl (.inl fun d hd => ?_)
      obtain ⟨g, hg, rfl⟩ := List.mem_map.mp hd
      have := hl g hg
      cases hq2 : g with
      | nil => rw [hq2] at this; cases this
      | cons x r => exact ⟨.int x, r.map .int, rfl⟩
  · obtain ⟨g, _, rfl⟩ := List.mem_map.mp hd
    rw [depth_ti]
    omega
theorem srt_tis_eq (bl : List (List Int)) : srtD (bl.map dTI) = (bl.mergeSort fun a b => W.dataLe false id (dTI a) (dTI b)).map dTI := by
  rw [List.map_mergeSort]
  intro a _ b _
  rfl
abbrev s_law_room : Stmt := top 69
abbrev N_law_room : List Str := ["_law_webs_here", "_law_position", "_law_ahead", "_law_turned", "_law_web_here", "_law_back", "_law_row", "_law_arrow"]
theorem sc_law_room : FnScope N_law_room ["_law_webs_here", "_law_position"] (defScope s_law_room) := ⟨rfl, rfl, rfl, by decide +kernel, rfl, by decide +kernel, by decide +kernel⟩
theorem bd_law_room : BindsAll "_law_room" "_law_room" s_law_room ["_law_webs_here", "_law_position"] := fun _ _ _ _ _ _ us hl => match us, hl with | [_, _], _ => rfl
/-- what _law_room promises -/
def sp__law_room (P : Program) (w : World) (CW CG : Addr) : Sp := fun vs H Q _ => ∃ (v : V) (p : Addr) (st : List Int) (ws : Webs) (k : Nat), vs = [v, .ref p] ∧ Rws H v ws ∧ H p = some (.tup (st.map .int)) ∧ ws.length ≤ 40 ∧ (∀ w ∈ ws, w.length ≤ 60) ∧ (∀ w ∈ ws, ∀ r ∈ w, ArrOk k r) ∧ IsPos k ws.length st ∧ k ^ ws.length ≤ 81 ∧ ∀ (r : Addr) H' vr (ms : List (List Int)), H r = none → Ex H H' → H' r = some (.lst vr) → TdA H' vr (ms.map dTI) → ms.length ≤ 81 → (∀ q, q ∈ ms ↔ InRoom ws st q) → Q (.ref r) H'
theorem w__law_room (T : Glb K mg CW CG) (D : Def K mg "_law_room" s_law_room) (c__law_leads : Cal P w K mg base 3 "_law_leads" ["_law_webs_here", "_law_start"] (sp__law_leads P w CW CG)) : Cal P w K mg base 4 "_law_room" ["_law_webs_here", "_law_position"] (sp__law_room P w CW CG) := by
  refine Cal.mk' D sc_law_room bd_law_room (fun vs H Q E h => by obtain ⟨v, p, st, ws, k, rfl, hv, hp, h40, h60, hok, hpos, h81, q⟩ := h; rfl) fun f cdv A outer s H vs Q E hr h => ?_
  obtain ⟨v, p, st, ws, k, rfl, hv, hp, h40, h60, hok, hpos, h81, q⟩ := h
  refine ⟨_, (pss_cons (ps_set (i := 2) sc_law_room.nd rfl (Or.inl rfl) (pe_c c__law_leads hr (by rfl) (pa_cons (pv 0) (pa_cons (pv 1) pa_nil))))
  (pss_cons (ps_set (i := 3) sc_law_room.nd rfl (Or.inl rfl) (pe_lst pa_nil))
  (pss_cons (ps_for PassesOwn.never rfl (ki_list (K := K) rfl (pv 0)) (pg_name (i := 4) sc_law_room.nd rfl (Or.inl rfl))
  (pss_one (ps_expr (pe_bm PySem.F.plainAttrs_list PySem.F.slot_list_append PySem.F.type_list_append mt_append (pv 3) (pa_cons (pe_lc (own := [("_law_arrow", 7)]) (g := gName 7) (tt := tYes) rfl sc_law_room.nd (ki_list (K := K) rfl (pv 4)) (blkOk_by (N := N_law_room) (sc := defScope s_law_room) (by decide +kernel)) (fun _ _ _ _ _ => (pg_name (i := 7) sc_law_room.nd rfl (Or.inl rfl))) (fun _ _ _ _ _ => pts_nil) (fun _ _ _ _ _ => (pe_tup (pa_cons (pe_ix (kix_tup (K := K) rfl) (pv 7) pe_int (fun _ _ => rfl)) (pa_cons (pe_ix (kix_tup (K := K) rfl) (pv 7) pe_int (fun _ _ => rfl)) (pa_cons (pe_ix (kix_tup (K := K) rfl) (pv 7) pe_int (fun _ _ => rfl)) (pa_cons (pe_ix (kix_tup (K := K) rfl) (pv 7) pe_int (fun _ _ => rfl)) pa_nil))))))) pa_nil)))))
  (pss_cons (ps_set (i := 5) sc_law_room.nd rfl (Or.inr rfl) (pe_c c__law_leads hr (by rfl) (pa_cons (pv 3) (pa_cons (pv 1) pa_nil))))
  (pss_one (ps_ret (pe_callB (cr_sortL (hr.u 32)) (by rfl) T.n_sorted bt_sorted (pa_cons (pe_lc (own := [("_law_row", 6)]) (g := gName 6) rfl sc_law_room.nd (ki_list (K := K) rfl (pe_callTy (call_list_dT rfl) (by rfl) T.n_list bt_list (pa_cons (pv 2) pa_nil))) (blkOk_by (N := N_law_room) (sc := defScope s_law_room) (by decide +kernel)) (fun _ _ _ _ _ => (pg_name (i := 6) sc_law_room.nd rfl (Or.inl rfl))) (fun _ _ _ _ _ => (pts_one (pt_cmp (pc_din (hr.u 1) (pv 6) (pv 5))))) (fun _ _ _ _ _ => (pv 6))) pa_nil)))))))), ?_⟩
  have hv0 := hv
  have hst : StopsOk k ws := fun w hw r hr => (hok w hw r hr).hb
  obtain ⟨lw, vw, rfl, hlw, hws⟩ := hv
  have hvw : vw.length = ws.length := Paired.length hws
  refine ⟨_, rfl, _, rfl, _, p, st, ws, k, rfl, hv0, hp, h40, h60, hst, hpos, h81, fun B H1 bl e1 hB hnd hbl => ?_⟩
  refine ⟨by decide, fun o ho => ?_⟩
  have hoH : H o = none := fresh_back e1 ho
  have E0 : Ex H _ := e1.trans (Ex.new (o := .lst []) ho)
  have hB0 := hB.mk (Ex.new (o := .lst []) ho)
  refine ⟨_, rfl, lw, rfl, ⟨_, .of (E0 _ _ hlw)⟩, ?_⟩
  have hBo : B ≠ o := fun z => by
    obtain ⟨kvs, k1, _⟩ := hB
    rw [z, ho] at k1
    cases k1
  refine for_list (xs := vw) (fun i σ H' => ∃ (zs : List V) (x y z u : Option V), σ = [some (.ref lw), some (.ref p), some (.ref B), some (.ref o), x, y, z, u] ∧ Ex H H' ∧ CsB B bl H' ∧ H' o = some (.lst zs) ∧ RowsV H' zs (mapW turnA (ws.take i)) ∧ (∀ v ∈ zs, v ≠ .ref o)) ⟨[], none, none, none, none, rfl, E0, hB0, upd_same, .nil, by simp⟩ (fun i σ H' _ pv => ?_) (fun i v σ H' hv pv => ?_) fun σ H' pv => ?_
  · obtain ⟨zs, x, y, z, u, rfl, e, _⟩ := pv
    exact .of (e _ _ hlw)
  · obtain ⟨zs, x, y, z, u, rfl, e, hB, ho1, hz, hnl⟩ := pv
    obtain ⟨wa, hwa, hli⟩ := paired_get hws hv
    obtain ⟨l0, vs0, rfl, hl0, tv⟩ := Li.mk hli e
    refine ⟨_, rfl, .inl ⟨rfl, _, .of ho1⟩, _, rfl, l0, rfl, ⟨_, .of hl0⟩, fun D hD => ?_⟩
    have hDo : D ≠ o := fun z => by rw [z, ho1] at hD; cases hD
    refine lc_list (xs := vs0) (fun j H3 => Ex H' H3 ∧ ∃ ys, H3 D = some (.lst ys) ∧ TdA H3 ys ((wa.take j).map fun r => dAR (turnA r))) ⟨Ex.new hD, [], upd_same, .nil⟩ (fun j H3 _ p => .of (p.1 _ _ hl0)) (fun j v H3 hv p => ?_) fun H3 p => ?_
    · obtain ⟨e3, ys, hD2, hy⟩ := p
      obtain ⟨dd, hdd, td⟩ := (tv.mk e3).get hv
      rw [List.getElem?_map, Option.map_eq_some_iff] at hdd
      obtain ⟨r, hrr, rfl⟩ := hdd
      obtain ⟨m, g, rfl, hm, hg⟩ := td_ar td
      have htk : wa.take (j + 1) = wa.take j ++ [r] := take_next hrr
      refine ⟨rfl, _, rfl, m, _, 1, _, rfl, rfl, .of hm, rfl, _, rfl, m, _, 0, _, rfl, rfl, .of hm, rfl, _, rfl, m, _, 2, _, rfl, rfl, .of hm, rfl, _, rfl, m, _, 3, _, rfl, rfl, .of hm, rfl, line_ok (by simp), fun t ht => ?_⟩
      have e4 := Ex.new (o := .tup [.int r.b, .int r.a, .ref g, .int r.c]) ht
      have hyl : ys.length ≤ 1000 := by
        have := hy.len
        have h2 := h60 wa (List.mem_of_getElem? hwa)
        rw [List.length_map, List.length_take] at this
        omega
      have hD4 := e4 _ _ hD2
      have tk := Tk.mut (Tk.refl _) (no_tupL hD4) (o := .lst (ys ++ [V.ref t]))
      refine ⟨ys, hD4, small1000 hyl, (e3.trans e4).mut hD, _, upd_same, ?_⟩
      rw [htk, List.map_append]
      exact TdA.snoc ((hy.mk e4).mono tk) ((td_ar' (r := turnA r) upd_same (hg.mk e4)).mono tk)
    · obtain ⟨e3, ys, hD2, hy⟩ := p
      have hvs : vs0.length = wa.length := by rw [tv.len, List.length_map]
      rw [hvs, List.take_length] at hy
      have ho3 := e3 _ _ ho1
      have hzl : zs.length ≤ 1000 := by
        have := Paired.length hz
        rw [mapW_len, List.length_take] at this
        omega
      have hne : V.ref D ≠ V.ref o := fun z => hDo (by cases z; rfl)
      refine ⟨o, zs, _, rfl, rfl, ho3, small1000 hzl, ?_⟩
      refine ⟨_, _, _, _, _, rfl, (e.trans e3).mut hoH, ?_, upd_same, ?_, fun v hv' => ?_⟩
      · obtain ⟨kvs, k1, k2⟩ := hB.mk e3
        exact ⟨kvs, by rw [upd_ne hBo]; exact k1, k2⟩
      · rw [mapW_take hwa]
        refine paired_snoc (RowsV.mut ho3 (RowsV.mk hz e3) hnl) (Li.mut ⟨D, ys, rfl, hD2, ?_⟩ hne ho3)
        rw [List.map_map]
        exact hy
      · rw [List.mem_append, List.mem_singleton] at hv'
        rcases hv' with hv' | rfl
        · exact hnl v hv'
        · exact hne
  · obtain ⟨zs, x, y, z, u, rfl, e, hB, ho1, hz, hnl⟩ := pv
    rw [hvw, List.take_length] at hz
    refine ⟨_, rfl, _, rfl, .ref o, p, st, mapW turnA ws, k, rfl, ⟨o, zs, rfl, ho1, hz⟩, e _ _ hp, by rw [mapW_len]; exact h40, mapW_few h60, fun w' hw' r hr => ?_, by rw [mapW_len]; exact hpos, by rw [mapW_len]; exact h81, fun B2 H2 bl2 e2 hB2 hnd2 hbl2 => ?_⟩
    · obtain ⟨w1, h1, rfl⟩ := mapW_mem hw'
      obtain ⟨r1, h2, rfl⟩ := List.mem_map.mp hr
      exact (hok w1 h1 r1 h2).ha
    · have hB2' := hB2
      obtain ⟨kvs, k1, k2⟩ := hB.mk e2
      obtain ⟨kvs2, j1, j2⟩ := hB2'
      refine ⟨_, rfl, B, kvs, rfl, .inl k1, fun l bs hl isk => ?_⟩
      have hla := Ex.new (o := .lst (bs.map V.ref)) hl
      have tb := (keys_tda isk k2).mk hla
      refine ⟨l, rfl, ⟨_, .of upd_same⟩, fun D hD => ?_⟩
      have hbs : (bs.map V.ref).length = bl.length := by rw [tb.len, List.length_map]
      refine lc_list (xs := bs.map V.ref) (fun j H3 => Ex (upd H2 l (.lst (bs.map V.ref))) H3 ∧ ∃ ys, H3 D = some (.lst ys) ∧ TdA H3 ys (((bl.take j).filter fun q => decide (q ∈ bl2)).map dTI)) ⟨Ex.new hD, [], upd_same, .nil⟩ (fun j H3 _ p => .of (p.1 _ _ upd_same)) (fun j v H3 hv p => ?_) fun H3 p => ?_
      · obtain ⟨e3, ys, hD2, hy⟩ := p
        obtain ⟨dd, hdd, td⟩ := (tb.mk e3).get hv
        rw [List.getElem?_map, Option.map_eq_some_iff] at hdd
        obtain ⟨qq, hqq, rfl⟩ := hdd
        obtain ⟨t, rfl, ht⟩ := td_ti td
        have htk : bl.take (j + 1) = bl.take j ++ [qq] := take_next hqq
        have hlt : j < bl.length := (List.getElem?_eq_some_iff.mp hqq).1
        have few : bl.length ≤ 81 := Nat.le_trans (pos_few hnd fun q hq => ((hbl q).mp hq).pos hst hpos) h81
        refine ⟨rfl, _, rfl, _, rfl, B2, _, rfl, DGet.t (e3 _ _ (hla _ _ j1)) (key_at ht), _, rfl, ?_⟩
        rw [kv_in j2]
        refine ite2 (fun hn => ?_) fun hn => ?_
        · have hn : qq ∈ bl2 := by simpa using hn
          have hyl : ys.length ≤ 1000 := by
            have := hy.len
            have h2 := List.length_filter_le (fun q => decide (q ∈ bl2)) (bl.take j)
            rw [List.length_take] at h2
            rw [List.length_map] at this
            omega
          have tk := Tk.mut (Tk.refl _) (no_tupL hD2) (o := .lst (ys ++ [V.ref t]))
          refine ⟨_, rfl, ys, hD2, small1000 hyl, e3.mut hD, _, upd_same, ?_⟩
          rw [htk, List.filter_append, List.map_append]
          have h1 : List.filter (fun q => decide (q ∈ bl2)) [qq] = [qq] := by simp [hn]
          rw [h1]
          exact TdA.snoc (hy.mono tk) (td.mono tk)
        · have hn : qq ∉ bl2 := by simpa using hn
          refine ⟨e3, ys, hD2, ?_⟩
          rw [htk, List.filter_append, List.map_append]
          have h1 : List.filter (fun q => decide (q ∈ bl2)) [qq] = [] := by simp [hn]
          rw [h1]
          simpa using hy
      · obtain ⟨e3, ys, hD2, hy⟩ := p
        rw [hbs, List.take_length] at hy
        have few : bl.length ≤ 81 := Nat.le_trans (pos_few hnd fun q hq => ((hbl q).mp hq).pos hst hpos) h81
        have h2 := List.length_filter_le (fun q => decide (q ∈ bl2)) bl
        have hnd3 : (bl.filter fun q => decide (q ∈ bl2)).Nodup := hnd.filter _
        refine ⟨D, ys, _, rfl, .inl (.of hD2), hy, srt_tis (n := ws.length) hnd3 (fun z hz => (((hbl z).mp (List.mem_filter.mp hz).1).pos hst hpos).1) (by omega), fun r vr hr hvr => ?_⟩
        rw [srt_tis_eq] at hvr
        have E3 : Ex H H3 := ((e.trans e2).trans hla).trans e3
        have er := Ex.new (o := .lst vr) hr
        refine q r _ vr _ (fresh_back E3 hr) (E3.trans er) upd_same (hvr.mk er) (by rw [List.length_mergeSort]; omega) fun z => ?_
        rw [List.mem_mergeSort, List.mem_filter, hbl z, decide_eq_true_iff, hbl2 z]
        exact and_congr_right fun _ => (reach_turn (ws := ws))


/-- names: each position's first of its room -/
def NmB (B : Addr) (ws : Webs) (l : List (List Int)) (H : Hp) : Prop := ∃ kvs, H B = some (.dT kvs) ∧ ∀ q, match repF ws l q with
  | none => valV kvs (kk q) = none
  | some r => ∃ a, valV kvs (kk q) = some (.ref a) ∧ H a = some (.tup (r.map V.int))
theorem NmB.mk {B : Addr} {ws : Webs} {l : List (List Int)} {H H' : Hp} (h : NmB B ws l H) (e : Ex H H') : NmB B ws l H' := by
  obtain ⟨kvs, h1, h2⟩ := h
  refine ⟨kvs, e _ _ h1, fun q => ?_⟩
  have := h2 q
  split at this
  · exact this
  · obtain ⟨a, h3, h4⟩ := this
    exact ⟨a, h3, e _ _ h4⟩
theorem putK_few {κ : Type} [DecidableEq κ] (c : List (κ × V)) (k : κ) (x : V) : (putK c k x).length ≤ c.length + 1 := by
  unfold putK
  split
  · rw [List.length_map]; omega
  · rw [List.length_append, List.length_singleton]; omega
theorem kk_iff {p q : List Int} : kk p = kk q ↔ p = q := ⟨kk_inj, fun e => by rw [e]⟩
abbrev s_law_room_names : Stmt := top 71
abbrev N_law_room_names : List Str := ["_law_webs_here", "_law_positions", "_law_names", "_law_position", "_law_other"]
theorem sc_law_room_names : FnScope N_law_room_names ["_law_webs_here", "_law_positions"] (defScope s_law_room_names) := ⟨rfl, rfl, rfl, by decide +kernel, rfl, by decide +kernel, by decide +kernel⟩
theorem bd_law_room_names : BindsAll "_law_room_names" "_law_room_names" s_law_room_names ["_law_webs_here", "_law_positions"] := fun _ _ _ _ _ _ us hl => match us, hl with | [_, _], _ => rfl
/-- what _law_room_names promises -/
def sp__law_room_names (P : Program) (w : World) (CW CG : Addr) : Sp := fun vs H Q _ => ∃ (v : V) (lp : Addr) (vp : List V) (ps : List (List Int)) (ws : Webs) (k : Nat), vs = [v, .ref lp] ∧ Rws H v ws ∧ H lp = some (.lst vp) ∧ TdA H vp (ps.map dTI) ∧ ws.length ≤ 40 ∧ (∀ w ∈ ws, w.length ≤ 60) ∧ (∀ w ∈ ws, ∀ r ∈ w, ArrOk k r) ∧ (∀ q ∈ ps, IsPos k ws.length q) ∧ ps.length ≤ 81 ∧ k ^ ws.length ≤ 81 ∧ ∀ (B : Addr) H', H B = none → Ex H H' → NmB B ws ps H' → Q (.ref B) H'
theorem w__law_room_names (T : Glb K mg CW CG) (D : Def K mg "_law_room_names" s_law_room_names) (c__law_room : Cal P w K mg base 4 "_law_room" ["_law_webs_here", "_law_position"] (sp__law_room P w CW CG)) : Cal P w K mg base 5 "_law_room_names" ["_law_webs_here", "_law_positions"] (sp__law_room_names P w CW CG) := by
  refine Cal.mk' D sc_law_room_names bd_law_room_names (fun vs H Q E h => by obtain ⟨v, lp, vp, ps, ws, k, rfl, hv, hlp, tvp, h40, h60, hok, hps, hpl, h81, q⟩ := h; rfl) fun f cdv A outer s H vs Q E hr h => ?_
  obtain ⟨v, lp, vp, ps, ws, k, rfl, hv, hlp, tvp, h40, h60, hok, hps, hpl, h81, q⟩ := h
  refine ⟨_, (pss_cons (ps_set (i := 2) sc_law_room_names.nd rfl (Or.inl rfl) pe_dnewT)
  (pss_cons (ps_for PassesOwn.never rfl (ki_list (K := K) rfl (pv 1)) (pg_name (i := 3) sc_law_room_names.nd rfl (Or.inl rfl))
  (pss_one (ps_if (pt_cmp (pc_dnotin (hr.u 1) (pv 3) (pv 2))) (pss_one (ps_for PassesOwn.never rfl (ki_list (K := K) rfl (pe_c c__law_room hr (by rfl) (pa_cons (pv 0) (pa_cons (pv 3) pa_nil)))) (pg_name (i := 4) sc_law_room_names.nd rfl (Or.inl rfl))
  (pss_one (ps_dput (hr.u 1) (pv 2) (pv 4) (pv 3) rfl)))) pss_nil)))
  (pss_one (ps_ret (pv 2))))), ?_⟩
  intro B hB
  have E0 := Ex.new (o := .dT []) hB
  have hvl : vp.length = ps.length := by rw [tvp.len, List.length_map]
  refine ⟨_, rfl, lp, rfl, ⟨_, .of (E0 _ _ hlp)⟩, ?_⟩
  have key0 : ∀ (kvs : List (List L2.Key × V)) (H : Hp) (l : List (List Int)) (p : List Int), (∀ q, match repF ws l q with
    | none => valV kvs (kk q) = none
    | some r => ∃ a, valV kvs (kk q) = some (.ref a) ∧ H a = some (.tup (r.map V.int))) → (valV kvs (kk p)).isSome = (repF ws l p).isSome := fun kvs H l p h => by
    have := h p
    split at this
    · next e => rw [this, e]; rfl
    · next r e => 
      obtain ⟨a, h3, _⟩ := this
      rw [h3, e]; rfl
  refine for_list (xs := vp) (fun i σ H' => ∃ (kvs : List (List L2.Key × V)) (x y : Option V), σ = [some v, some (.ref lp), some (.ref B), x, y] ∧ Ex H H' ∧ H' B = some (.dT kvs) ∧ kvs.length ≤ 81 * i ∧ (∀ q, match repF ws (ps.take i) q with
    | none => valV kvs (kk q) = none
    | some r => ∃ a, valV kvs (kk q) = some (.ref a) ∧ H' a = some (.tup (r.map V.int)))) ⟨[], none, none, rfl, E0, upd_same, by simp, fun q => by rw [List.take_zero, repF_nil]; rfl⟩ (fun i σ H' _ pv => ?_) (fun i v' σ H' hv' pv => ?_) fun σ H' pv => ?_
  · obtain ⟨kvs, x, y, rfl, e, _⟩ := pv
    exact .of (e _ _ hlp)
  · obtain ⟨kvs, x, y, rfl, e, hb, hkl, hn⟩ := pv
    obtain ⟨dd, hdd, td⟩ := (tvp.mk e).get hv'
    rw [List.getElem?_map, Option.map_eq_some_iff] at hdd
    obtain ⟨pp, hpp, rfl⟩ := hdd
    obtain ⟨t, rfl, ht⟩ := td_ti td
    have htk : ps.take (i + 1) = ps.take i ++ [pp] := take_next hpp
    have hil : i < ps.length := (List.getElem?_eq_some_iff.mp hpp).1
    have hpos := hps pp (List.mem_of_getElem? hpp)
    refine ⟨_, rfl, _, rfl, B, _, rfl, DGet.t hb (key_at ht), _, rfl, ?_⟩
    rw [key0 kvs H' (ps.take i) pp hn]
    refine ite2 (fun hnn => ?_) fun hnn => ?_
    · have hnone : repF ws (ps.take i) pp = none := by
        cases z : repF ws (ps.take i) pp with
        | none => rfl
        | some r => rw [z] at hnn; cases hnn
      refine ⟨_, rfl, _, rfl, v, t, pp, ws, k, rfl, hv.mk e, ht, h40, h60, hok, hpos, h81, fun r H1 vr ms hr e1 hr1 tvr hml hms => ?_⟩
      have hrB : r ≠ B := fun z => by rw [z, hb] at hr; cases hr
      refine ⟨r, rfl, ⟨_, .of hr1⟩, ?_⟩
      have hvr : vr.length = ms.length := by rw [tvr.len, List.length_map]
      refine for_list (xs := vr) (fun j σ H2 => ∃ (kvs2 : List (List L2.Key × V)) (y : Option V), σ = [some v, some (.ref lp), some (.ref B), some (.ref t), y] ∧ Ex H H2 ∧ H2 B = some (.dT kvs2) ∧ kvs2.length ≤ 81 * i + j ∧ H2 r = some (.lst vr) ∧ TdA H2 vr (ms.map dTI) ∧ H2 t = some (.tup (pp.map V.int)) ∧ (∀ q, q ∈ ms.take j → valV kvs2 (kk q) = some (.ref t)) ∧ (∀ q, q ∉ ms.take j → valV kvs2 (kk q) = valV kvs (kk q)) ∧ Tk H1 H2) ⟨kvs, y, rfl, e.trans e1, e1 _ _ hb, by omega, hr1, tvr, e1 _ _ ht, by simp, fun q _ => rfl, Tk.refl _⟩ (fun j σ H2 _ pv => ?_) (fun j v2 σ H2 hv2 pv => ?_) fun σ H2 pv => ?_
      · obtain ⟨kvs2, y, rfl, _, _, _, h, _⟩ := pv
        exact .of h
      · obtain ⟨kvs2, y, rfl, e2, hb2, hkl2, hr2, tv2, ht2, hin, hout, tk2⟩ := pv
        obtain ⟨dd, hdd, td⟩ := tv2.get hv2
        rw [List.getElem?_map, Option.map_eq_some_iff] at hdd
        obtain ⟨qq, hqq, rfl⟩ := hdd
        obtain ⟨u, rfl, hu⟩ := td_ti td
        have htk2 : ms.take (j + 1) = ms.take j ++ [qq] := take_next hqq
        have hjl : j < ms.length := (List.getElem?_eq_some_iff.mp hqq).1
        have hkl3 : kvs2.length < sizeLine := by
          have : (1000000 : Nat) < sizeLine := by decide
          omega
        refine ⟨_, rfl, _, rfl, _, rfl, B, _, rfl, DPut.t hb2 (key_at hu) hkl3, ?_⟩
        have tk3 := Tk.mut (Tk.refl _) (no_tup hb2 fun xs q => by cases q) (o := .dT (putK kvs2 (kk qq) (.ref t)))
        refine ⟨_, _, rfl, e2.mut hB, upd_same, Nat.le_trans (putK_few _ _ _) (by omega), by rw [upd_ne hrB]; exact hr2, tv2.mono tk3, tk3 _ _ ht2, fun q hq => ?_, fun q hq => ?_, fun a xs h => tk3 _ _ (tk2 _ _ h)⟩
        · rw [valV_put]
          by_cases z : kk q = kk qq
          · rw [if_pos z]
          · rw [if_neg z]
            rw [htk2, List.mem_append, List.mem_singleton] at hq
            exact hin q (hq.resolve_right fun e => z (by rw [e]))
        · rw [htk2, List.mem_append, List.mem_singleton, not_or] at hq
          rw [valV_put, if_neg fun z => hq.2 (kk_inj z)]
          exact hout q hq.1
      · obtain ⟨kvs2, y, rfl, e2, hb2, hkl2, hr2, tv2, ht2, hin, hout, tk2⟩ := pv
        rw [hvr, List.take_length] at hin hout
        refine ⟨kvs2, _, _, rfl, e2, hb2, by omega, fun q => ?_⟩
        rw [htk, repF_snoc_new hnone]
        by_cases z : InRoom ws pp q
        · rw [if_pos z]
          exact ⟨t, hin q ((hms q).mpr z), ht2⟩
        · rw [if_neg z, hout q fun h => z ((hms q).mp h)]
          have := hn q
          split at this
          · exact this
          · obtain ⟨a, h3, h4⟩ := this
            exact ⟨a, h3, tk2 _ _ (e1 _ _ h4)⟩
    · obtain ⟨r, hr⟩ : ∃ r, repF ws (ps.take i) pp = some r := by
        cases z : repF ws (ps.take i) pp with
        | none => rw [z] at hnn; exact absurd rfl hnn
        | some r => exact ⟨r, rfl⟩
      refine ⟨kvs, _, _, rfl, e, hb, by omega, fun q => ?_⟩
      rw [htk, repF_snoc_old hr]
      exact hn q
  · obtain ⟨kvs, x, y, rfl, e, hb, hkl, hn⟩ := pv
    rw [hvl, List.take_length] at hn
    exact ⟨_, rfl, q B H' hB e ⟨kvs, hb, hn⟩⟩


end
end K07
end K07_part_W11

section K07_part_R8
set_option Elab.async false
set_option linter.all false
set_option maxRecDepth 100000
set_option maxHeartbeats 4000000
namespace K07
open PySem PySem.Spec PyProof.Rows L2 Evl

/-! ### a def that is called where no repr is under way -/
structure FnG (P : Program) (w : World) (K : PySem.W.Frag) (mg : Str → Option Value) (base : Heap) (k : Nat) (f : Addr) (fd : FuncData) (ps : List Str) (sp : Sp) : Prop where
  len : ∀ vs H Q E, sp vs H Q E → vs.length = ps.length
  run : ∀ (B : Around) (above : List Env) (s : Shared) (H : Hp) (us : List Value) (vs : List V) (Q : VK), Room k B → B.guards = some [] → Env0 P w K mg base B above s H →
    BindsTo s fd ⟨us, []⟩ (ps.zip us) → Vals vs us → sp vs H Q E0 → codeAny (model P w) B (.call (.ref f) ⟨us, []⟩) (CR CX0 above P w H s Q E0) s
structure CalG (P : Program) (w : World) (K : PySem.W.Frag) (mg : Str → Option Value) (base : Heap) (k : Nat) (x : Str) (ps : List Str) (sp : Sp) : Prop where
  ex : ∃ f fd, FnG P w K mg base k f fd ps sp ∧ mg x = some (.ref f) ∧ PySem.W.keepIn K (.ref f) = true ∧ Binds K fd ps []
section
variable {P : Program} {w : World} {K : PySem.W.Frag} {mg : Str → Option Value} {base : Heap}
theorem fnG_of {x qual : Str} {st : Stmt} {f : Addr} {fd : FuncData} {N ps : List Str} {k : Nat} {sp : Sp} (F : L2.Fun K x qual st f fd) (S : FnScope N ps (defScope st)) (len : ∀ vs H Q E, sp vs H Q E → vs.length = ps.length)
    (body : ∀ (cdv : Value) (B : Around) (above : List Env) (s : Shared) (H : Hp) (vs : List V) (Q : VK), Room k (B.deeper (envOfC qual (defScope st) s.heap.objs.size f cdv)) → B.guards = some [] → sp vs H Q E0 →
      ∃ t, PSs (cxOf CX0 P w K mg base N qual (defScope st) f cdv B above s H E0).nox (defBody st) t ∧ t { nx := fun _ H' => Q .non H', rt := Q } (start N vs) H) : FnG P w K mg base (k + 1) f fd ps sp := by
  obtain ⟨oc, od, kV, doc, pm, an, cdv, ct, osl, rfl, lk, hc⟩ := F.ex
  refine ⟨len, fun B above s H us vs Q room hg en bd rel want => ?_⟩
  have hlen := len _ _ _ _ want
  have K1 : K.In s.heap := en.mod.kin.keeps fun b o q => (en.bs b o q).1
  have lim1 : s.heap.NoLimit := en.mod.nolimit.keeps fun b o q => (en.bs b o q).1
  have kinds : ∀ z ∈ ps.zip us, (defScope st).names.lookup z.1 = some .local ∨ ((defScope st).names.lookup z.1 = some .cell ∧ ((cellsFrom (s.heap.objs.size + 1) (defScope st).names []).lookup z.1).isSome = true) := by
    rintro ⟨n, v⟩ hz
    exact (S.par n (List.of_mem_zip hz).1).imp id fun q => ⟨q, PySem.W.cellsFrom_some _ _ _ (.inl q)⟩
  refine codeAny_call_function room.depth (K1 _ _ lk) rfl S.co S.gen rfl (PySem.W.codeRec_of K1 hc) (bd _ _ _ _ (wpAny_newFunctionEnv_cells S.kind kinds fun env ee s1 entered => ?_))
  subst ee
  refine ⟨lim1.keeps entered.toInCall.keep, codeAny_func ?_⟩
  obtain ⟨t, ht, hq⟩ := body cdv B above s H vs Q (room.deeper _) hg want
  refine wpAny_mono (ht.nox.run [] s1 (start N vs) H _ (inv_start S room.hd en hlen rel entered) hq) (fun fl s2 hs => ?_) fun e s2 hs => hs
  cases fl with
  | next => 
    obtain ⟨σ2, H2, J, q⟩ := hs
    exact ⟨.non, H2, J.os, J.bare, J.base, J.hok, rfl, q⟩
  | ret u =>
    obtain ⟨v, σ2, H2, J, rv, q⟩ := hs
    exact ⟨v, H2, J.os, J.bare, J.base, J.hok, rv, q⟩
  | brk => exact hs.elim fun _ h => h.elim fun _ h => False.elim h.2
  | cont => exact hs.elim fun _ h => h.elim fun _ h => False.elim h.2
theorem CalG.mk' {x : Str} {st : Stmt} {N ps : List Str} {k : Nat} {sp : Sp} (F : Def K mg x st) (S : FnScope N ps (defScope st)) (bd : BindsAll x x st ps) (len : ∀ vs H Q E, sp vs H Q E → vs.length = ps.length)
    (body : ∀ (f : Addr) (cdv : Value) (B : Around) (above : List Env) (s : Shared) (H : Hp) (vs : List V) (Q : VK), Room k (B.deeper (envOfC x (defScope st) s.heap.objs.size f cdv)) → (B.deeper (envOfC x (defScope st) s.heap.objs.size f cdv)).guards = some [] → sp vs H Q E0 →
      ∃ t, PSs (cxOf CX0 P w K mg base N x (defScope st) f cdv B above s H E0).nox (defBody st) t ∧ t { nx := fun _ H' => Q .non H', rt := Q } (start N vs) H) : CalG P w K mg base (k + 1) x ps sp := by
  obtain ⟨f, fd, F, g⟩ := F.ex
  exact ⟨f, fd, fnG_of F S len fun cdv B above s H vs Q r hg => body f cdv B above s H vs Q r hg, g, F.kp, F.binds bd⟩
end
section
variable {X : Cx} {k n : Nat} {x : Str} {ps : List Str} {sp : Sp} {p pos : Pos} {e : Expr} {es : List Expr} {t : TA}
theorem pe_g (c : CalG X.prog X.w X.K X.mg X.base k x ps sp) (hr : Room n X.A) (hgd : X.A.guards = some []) (hg : Gl X x) (ha : PA X (e :: es) t) (hk : k ≤ n := by decide) (hdb : (x == ("__debug__" : Str)) = false := by decide)
    (he : starEach (e :: es) X.env = (false, eval e X.env) :: starEach es X.env := by rfl) (hpl : (backTo pos (starEach es X.env)).any (·.1) = false := by rfl) :
    PE X (.Call (.Name x p) (e :: es) [] pos) (tCall sp [] E0 t) := by
  obtain ⟨f, fd, F, g, kp, b⟩ := c.ex
  refine ⟨fun pins s σ H Q I h => wpAny_Call_Name_kw (ld_glob I hg g ?_ hdb)⟩
  refine PySem.W.callWith_K (h₀ := X.base) I.ok.mod.kin kp (thn (ha.run pos pins s σ H _ I h) fun us s1 ⟨vs, H1, J, r, q⟩ => ⟨J.kIn, ?_⟩) he hpl
  have q : sp (vs ++ []) H1 Q E0 := q
  rw [List.append_nil] at q
  show wpAny _ _ (call (Value.ref f) us) _ _ _
  have hl : us.length = ps.length := by rw [← r.length]; exact F.len _ _ _ _ q
  have bd := b s1 us J.kIn (by rw [List.append_nil]; exact hl)
  rw [List.append_nil] at bd
  refine wpAny_call (codeAny_mono (F.run X.A X.stack s1 H1 us vs Q (hr.mono hk) hgd J.env0 bd r q) fun res s2 hq => ?_)
  match res, hq with
  | .ok (.ret u), hq => exact J.after hq
end

/-! ### the law's call at the heap behind the top -/
theorem lawG {P : Program} {w : World} {K : PySem.W.Frag} {mg mb : Str → Option Value} {k : Nat} {fa a : Addr} {x : Str} {sp : Sp} {t : Shared} {vs : List Value} {ns : List Int}
    (KX : K.In t.heap) (gl : t.heap.Ns mainGlobals mg) (bu : t.heap.Ns builtinsNs mb) (bb : ∀ x : Str, x ≠ "__name__" → mb x = bootBuiltins x) (lim : t.heap.NoLimit) (noGen : t.gens = #[])
    (at_ : t.heap.get? a = some { cls := .type "list", data := .seq vs.toArray }) (numb : IntsAre vs ns) (few : ns.length ≤ sizeLine) (room : Room k callerA) (gd : callerA.guards = some [])
    (F : ∀ base : Heap, K.In base → base.Ns mainGlobals mg → ∃ fd, FnG P w K mg base k fa fd [x] sp ∧ Binds K fd [x] [])
    (noL : ∀ o, K.lookup a = some o → o.cls ≠ .type "list") (want : ∀ H : Hp, Rd H a (.lst (ns.map V.int)) → sp [.ref a] H (fun v _ => v = .bl true) E0) :
    codeAny (model P w) callerA (.call (.ref fa) ⟨[.ref a], []⟩) (fun r u => r = .ok (.ret (.bool true)) ∧ OldK t.heap u.heap ∧ u.os = t.os ∧ AllBare u.gens) t := by
  have rv := vals_ints numb
  have key : ∀ H : Hp, (∀ b, H b = none ∨ (b = a ∧ ∃ o xs, H b = some (.frz o (.lst xs)))) → Rd H a (.lst (ns.map V.int)) → HOk P w H t.heap → (H a ≠ none → K.lookup a = none) →
      codeAny (model P w) callerA (.call (.ref fa) ⟨[.ref a], []⟩) (fun r u => r = .ok (.ret (.bool true)) ∧ OldK t.heap u.heap ∧ u.os = t.os ∧ AllBare u.gens) t := by
    intro H only sq ok own
    have free : ∀ {b : Addr} {o : Obj} {es : Array DictEntry} {ep : Nat}, t.heap.get? b = some o → o.data = .dict es ep → H b = none := by
      intro b o es ep e d
      refine (only b).resolve_right fun ⟨eb, _⟩ => ?_
      subst eb
      rw [at_] at e
      cases e
      have d2 : Data.seq vs.toArray _ = Data.dict es ep := d
      cases d2
    have ns2 : ∀ {b : Addr} {m : Str → Option Value}, t.heap.Ns b m → (hidT t.heap H).Ns b m := by
      rintro b m ⟨o, es, ep, e, d, r⟩
      exact ⟨o, es, ep, hidT_get e (free e d), d, r⟩
    have kb : K.In (hidT t.heap H) := by
      intro b o e
      refine hidT_get (KX b o e) ((only b).resolve_right fun ⟨eb, o2, xs, q⟩ => ?_)
      subst eb
      rw [own (by rw [q]; simp)] at e
      cases e
    have md : Mod K mg (hidT t.heap H) := ⟨kb, ns2 gl, ⟨mb, ns2 bu, bb⟩, by
      obtain ⟨mc, h1, h2⟩ := lim
      exact ⟨mc, ns2 h1, h2⟩⟩
    have en : Env0 P w K mg (hidT t.heap H) callerA [] t H := ⟨rfl, md, fun b o e => of_hidT e, Nat.le_of_eq (hidT_size _ _), trivial, fun b hb => (by cases hb), ok, .of_eq noGen⟩
    obtain ⟨fd, G, bd⟩ := F _ kb (ns2 gl)
    have bd1 := bd t [.ref a] KX rfl
    refine codeAny_mono (G.run callerA [] t H [.ref a] [.ref a] _ room gd en bd1 (.cons rfl .nil) (want H sq)) fun r u h => ?_
    match r, h with
    | .ok (.ret y), h =>
      obtain ⟨v, H2, os, bare, un, ok2, ry, q⟩ := h
      have q2 : v = .bl true := q
      subst q2
      have ey : y = Value.bool true := ry
      subst ey
      refine ⟨rfl, OldK.of_keep fun b o e => ?_, os, bare⟩
      rcases only b with z | ⟨_, o2, xs, z⟩
      · exact un.keep b o e z (by intro z; cases z) (by simp)
      · obtain ⟨e1, _⟩ := ok b _ z
        obtain ⟨e2, _⟩ := ok2 b _ (un.frzs b o2 _ z)
        rw [e] at e1
        cases e1
        exact e2
  cases hk : K.lookup a with
  | some o =>
    have e := KX a o hk
    rw [at_] at e
    cases e
    exact absurd rfl (noL _ hk)
  | none =>
    have hsame : upd (fun _ => none : Hp) a (.frz { cls := .type "list", data := .seq vs.toArray } (.lst (ns.map V.int))) a = _ := upd_same
    refine key (upd (fun _ => none) a (.frz { cls := .type "list", data := .seq vs.toArray } (.lst (ns.map V.int)))) (fun b => ?_) (.inr ⟨_, hsame⟩) (fun b u z => ?_) fun _ => hk
    · by_cases hb : b = a
      · subst hb
        exact .inr ⟨rfl, _, _, hsame⟩
      · exact .inl (upd_ne hb)
    · by_cases hb : b = a
      · subst hb
        rw [hsame] at z
        cases z
        exact ⟨at_, by rw [List.length_map]; exact few, vs, _, rv, at_⟩
      · rw [upd_ne hb] at z
        cases z
end K07
end K07_part_R8

section K07_part_W12
set_option Elab.async false
set_option linter.all false
set_option maxRecDepth 100000
set_option maxHeartbeats 4000000
namespace K07
open PySem PySem.Spec PyProof.Rows L2 Evl
section
variable {P : Program} {w : World} {K : PySem.W.Frag} {mg : Str → Option Value} {base : Heap} {CW CG : Addr}

/-! ### small data: may be shown -/
structure Sm (d : PyData) (e w : Nat) : Prop where
  lay : d.canLay0 = true
  dp : d.depth ≤ e
  wt : d.weight ≤ w
  sh : d.intsShort 13 = true
  sw : d.showable = true
  nd : d.hasDict = false
structure SmA (ds : List PyData) (e w : Nat) : Prop where
  lay : PyData.canLayAll0 ds = true
  dp : PyData.depthAll ds ≤ e
  wt : PyData.weightAll ds ≤ w
  sh : PyData.intsShortAll 13 ds = true
  sw : PyData.showableAll ds = true
  nd : PyData.hasDictAll ds = false
theorem SmA.of {e w : Nat} : ∀ {ds : List PyData}, (∀ d ∈ ds, Sm d e w) → SmA ds e (ds.length * (w + 1))
  | [], _ => ⟨by rw [PyData.canLayAll0], by rw [PyData.depthAll]; omega, by rw [PyData.weightAll]; omega, by rw [PyData.intsShortAll], by rw [PyData.showableAll], by rw [PyData.hasDictAll]⟩
  | d :: ds, h => by
    have a := h d List.mem_cons_self
    have b := SmA.of fun x hx => h x (List.mem_cons_of_mem _ hx)
    refine ⟨by rw [PyData.canLayAll0, a.lay, b.lay]; rfl, ?_, ?_, by rw [PyData.intsShortAll, a.sh, b.sh]; rfl, by rw [PyData.showableAll, a.sw, b.sw]; rfl, by rw [PyData.hasDictAll, a.nd, b.nd]; rfl⟩
    · rw [PyData.depthAll]
      exact Nat.max_le.mpr ⟨a.dp, b.dp⟩
    · have h1 := a.wt
      have h2 := b.wt
      rw [PyData.weightAll, List.length_cons, Nat.add_mul, Nat.one_mul]
      omega
theorem SmA.tup {ds : List PyData} {e w : Nat} (h : SmA ds e w) : Sm (.tuple ds) (e + 1) w :=
  ⟨by rw [PyData.canLay0]; exact h.lay, by rw [PyData.depth]; have := h.dp; omega, by rw [PyData.weight]; exact h.wt, by rw [PyData.intsShort]; exact h.sh, by rw [PyData.showable]; exact h.sw, by rw [PyData.hasDict]; exact h.nd⟩
theorem SmA.lst {ds : List PyData} {e w : Nat} (h : SmA ds e w) : Sm (.list ds) (e + 1) w :=
  ⟨by rw [PyData.canLay0]; exact h.lay, by rw [PyData.depth]; have := h.dp; omega, by rw [PyData.weight]; exact h.wt, by rw [PyData.intsShort]; exact h.sh, by rw [PyData.showable]; exact h.sw, by rw [PyData.hasDict]; exact h.nd⟩
theorem sm_int {n : Nat} (h : n < 100) : Sm (.int (n : Int)) 0 7 := by
  have key : ∀ m : Fin 100, ((PyData.shown (.int ((m : Nat) : Int))).length ≤ 13 ∧ PyData.weight (.int ((m : Nat) : Int)) ≤ 7) ∧ PyData.showable (.int ((m : Nat) : Int)) = true := by decide +kernel
  have k := key ⟨n, h⟩
  exact ⟨by rw [PyData.canLay0], by rw [PyData.depth]; exact Nat.le_refl 0, k.1.2, by rw [PyData.intsShort]; exact decide_eq_true k.1.1, k.2, by rw [PyData.hasDict]⟩
theorem sm_bl (b : Bool) : Sm (.bool b) 0 0 := ⟨by rw [PyData.canLay0], by rw [PyData.depth]; exact Nat.le_refl 0, by rw [PyData.weight]; exact Nat.le_refl 0, by rw [PyData.intsShort], by rw [PyData.showable], by rw [PyData.hasDict]⟩
theorem sm_ti {ns : List Int} (h : ∀ x ∈ ns, 0 ≤ x ∧ x < (100 : Int)) (hl : ns.length ≤ 100) : Sm (dTI ns) 1 800 := by
  have := (SmA.of (e := 0) (w := 7) (ds := ns.map PyData.int) fun d hd => by
    obtain ⟨x, hx, rfl⟩ := List.mem_map.mp hd
    have h1 := h x hx
    have : x = ((x.toNat : Nat) : Int) := by omega
    rw [this]
    exact sm_int (by omega)).tup
  exact ⟨this.lay, this.dp, Nat.le_trans this.wt (by rw [List.length_map]; omega), this.sh, this.sw, this.nd⟩
theorem sm_box {box : List (List Int)} (h : ∀ S ∈ box, ∀ x ∈ S, 0 ≤ x ∧ x < (100 : Int)) (hl : ∀ S ∈ box, S.length ≤ 100) (hb : box.length ≤ 50) : Sm (.tuple (box.map dTI)) 2 70000 := by
  have := (SmA.of (e := 1) (w := 800) (ds := box.map dTI) fun d hd => by
    obtain ⟨S, hS, rfl⟩ := List.mem_map.mp hd
    exact sm_ti (h S hS) (hl S hS)).tup
  exact ⟨this.lay, this.dp, Nat.le_trans this.wt (by rw [List.length_map]; omega), this.sh, this.sw, this.nd⟩
theorem Sm.mono {d : PyData} {e w e' w' : Nat} (h : Sm d e w) (he : e ≤ e') (hw : w ≤ w') : Sm d e' w' := ⟨h.lay, Nat.le_trans h.dp he, Nat.le_trans h.wt hw, h.sh, h.sw, h.nd⟩
theorem Sm.shw {d : PyData} (h : Sm d 4 70000) : Shw d := by
  have h1 := h.dp
  have h2 := h.wt
  have lay : d.layable0 = true := by
    show (PyData.canLay0 d && decide (PyData.depth d ≤ 64) && decide (PyData.weight d ≤ 2 ^ 20)) = true
    rw [h.lay, decide_eq_true (by omega), decide_eq_true (Nat.le_trans h2 (by decide))]
    rfl
  exact ⟨h.sw, h.nd, by omega, Nat.le_trans (PyProof.Rows.shown_le13 lay h.sh) (by decide)⟩
theorem Sm.shaped {d : PyData} (h : Sm d 4 70000) : SeqAt.shaped d = true := by
  have h1 := h.dp
  show (d.canLay0 && decide (d.depth ≤ 64)) = true
  rw [h.lay, decide_eq_true (by omega)]
  rfl
/-- data, or a list of data -/
def Tl (H : Hp) (v : V) (d : PyData) : Prop := Td H v d ∨ ∃ ds, d = .list ds ∧ Li H v ds
theorem Tl.dp {K : PySem.W.Frag} {H : Hp} {v : V} {d : PyData} (h : Tl H v d) : Dp K H v d := by
  rcases h with h | ⟨ds, rfl, h⟩
  · exact h.dp
  · exact h.dp

abbrev s_law_like : Stmt := top 70
abbrev N_law_like : List Str := ["_law_thing", "_law_due"]
theorem sc_law_like : FnScope N_law_like ["_law_thing", "_law_due"] (defScope s_law_like) := ⟨rfl, rfl, rfl, by decide +kernel, rfl, by decide +kernel, by decide +kernel⟩
theorem bd_law_like : BindsAll "_law_like" "_law_like" s_law_like ["_law_thing", "_law_due"] := fun _ _ _ _ _ _ us hl => match us, hl with | [_, _], _ => rfl
/-- what _law_like promises -/
def sp__law_like (P : Program) (w : World) (CW CG : Addr) : Sp := fun vs H Q _ => ∃ (x y : V) (d : PyData), vs = [x, y] ∧ Tl H x d ∧ Tl H y d ∧ ((∃ i, d = .int i) ∨ ∃ a b, x = .ref a ∧ y = .ref b) ∧ Sm d 4 70000 ∧ Q (.bl true) H
theorem w__law_like (T : Glb K mg CW CG) (D : Def K mg "_law_like" s_law_like) : CalG P w K mg base 1 "_law_like" ["_law_thing", "_law_due"] (sp__law_like P w CW CG) := by
  refine CalG.mk' D sc_law_like bd_law_like (fun vs H Q E h => by obtain ⟨x, y, d, rfl, hx, hy, href, hsm, q⟩ := h; rfl) fun f cdv A outer s H vs Q hr hg h => ?_
  obtain ⟨x, y, d, rfl, hx, hy, href, hsm, q⟩ := h
  refine ⟨_, (pss_one (ps_ret (pe_and (pe_cmpR op_eq (pe_callB (cr_repr hg (hr.u 32)) (by rfl) T.n_repr bt_repr (pa_cons (pv 0) pa_nil)) (pe_callB (cr_repr hg (hr.u 32)) (by rfl) T.n_repr bt_repr (pa_cons (pv 1) pa_nil)) (nomark _)) (pe_one (pe_cmpR (keqD (K := K) rfl (hr.u 64)) (pv 0) (pv 1) (nomark _)))))), ?_⟩
  have s1 := hsm.shw
  have r1 : (∃ i, d = .int i) ∨ ∃ a, x = .ref a := href.imp id fun ⟨a, _, h, _⟩ => ⟨a, h⟩
  have r2 : (∃ i, d = .int i) ∨ ∃ a, y = .ref a := href.imp id fun ⟨_, a, _, h⟩ => ⟨a, h⟩
  refine ⟨_, rfl, x, d, rfl, hx.dp, s1, r1, _, rfl, y, d, rfl, hy.dp, s1, r2, rfl, ?_⟩
  rw [decide_eq_true rfl]
  refine ⟨true, rfl, ?_⟩
  refine ⟨_, rfl, _, rfl, d, d, hx.dp, hy.dp, hsm.shaped, hsm.shaped, ?_⟩
  rw [eqv_self hsm.shaped]
  exact q


abbrev s_law_lesser_agree : Stmt := top 73
abbrev N_law_lesser_agree : List Str := ["_law_game", "_law_pegs", "_law_webs_here", "_law_position", "_law_box", "_law_many", "_law_lower"]
theorem sc_law_lesser_agree : FnScope N_law_lesser_agree ["_law_game", "_law_pegs", "_law_webs_here", "_law_position", "_law_box"] (defScope s_law_lesser_agree) := ⟨rfl, rfl, rfl, by decide +kernel, rfl, by decide +kernel, by decide +kernel⟩
theorem bd_law_lesser_agree : BindsAll "_law_lesser_agree" "_law_lesser_agree" s_law_lesser_agree ["_law_game", "_law_pegs", "_law_webs_here", "_law_position", "_law_box"] := fun _ _ _ _ _ _ us hl => match us, hl with | [_, _, _, _, _], _ => rfl
/-- what _law_lesser_agree promises -/
def sp__law_lesser_agree (P : Program) (w : World) (CW CG : Addr) : Sp := fun vs H Q _ => ∃ (g v : V) (p b : Addr) (ps : List Int) (k : Nat) (ws : Webs), vs = [g, .int k, v, .ref p, .ref b] ∧ GameV CW CG k H g (gws ws) ∧ Rws H v ws ∧ H p = some (.tup (ps.map .int)) ∧ Td H (.ref b) (.tuple ((sets k (gws ws) ps).map dTI)) ∧ 3 ≤ k ∧ k ≤ 5 ∧ ws.length ≤ 40 ∧ (∀ w ∈ ws, WOk k w) ∧ ps.length = ws.length ∧ (∀ x ∈ ps, 0 ≤ x ∧ x < (k : Int)) ∧ ∀ H', Ex H H' → Q (.bl true) H'
theorem w__law_lesser_agree (T : Glb K mg CW CG) (D : Def K mg "_law_lesser_agree" s_law_lesser_agree) (c_Game_lower : CalM P w K mg base 5 CG "lower" ["self", "many"] (sp_Game_lower P w CW CG)) (c__law_built : Cal P w K mg base 9 "_law_built" ["_law_pegs", "_law_webs_here"] (sp__law_built P w CW CG)) (c__law_like : CalG P w K mg base 1 "_law_like" ["_law_thing", "_law_due"] (sp__law_like P w CW CG)) (c_sets_of : Cal P w K mg base 4 "sets_of" ["game", "position"] (sp_sets_of P w CW CG)) (c_Game_eq : CalE P w K mg base 3 CG ["self", "other"] (sp_Game_eq P w CW CG)) : CalG P w K mg base 10 "_law_lesser_agree" ["_law_game", "_law_pegs", "_law_webs_here", "_law_position", "_law_box"] (sp__law_lesser_agree P w CW CG) := by
  refine CalG.mk' D sc_law_lesser_agree bd_law_lesser_agree (fun vs H Q E h => by obtain ⟨g, v, p, b, ps, k, ws, rfl, hgm, hv, hp, hb, hk3, hk, hlen, hok, hpl, hpk, q⟩ := h; rfl) fun f cdv A outer s H vs Q hr hg h => ?_
  obtain ⟨g, v, p, b, ps, k, ws, rfl, hgm, hv, hp, hb, hk3, hk, hlen, hok, hpl, hpk, q⟩ := h
  refine ⟨_, (pss_cons (ps_for PassesOwn.never rfl (pi_range1 (by rfl) T.n_range (pa_cons (pe_op op_add (pe_callB (klen (K := K) rfl) (by rfl) T.n_len bt_len (pa_cons (pv 2) pa_nil)) pe_int) pa_nil)) (pg_name (i := 5) sc_law_lesser_agree.nd rfl (Or.inl rfl))
  (pss_cons (ps_set (i := 6) sc_law_lesser_agree.nd rfl (Or.inl rfl) (pe_cm (pv 0) c_Game_lower hr (pa_cons (pv 5) pa_nil)))
  (pss_cons (ps_if (pt_not (pt_cmpR (CalE.op (R := EqGm CW CG) c_Game_eq hr) (pv 6) (pe_c c__law_built hr (by rfl) (pa_cons (pv 1) (pa_cons (pe_slice (kslL (K := K) rfl) (pv 2) po_none (po_some (pv 5))) pa_nil))) (nomark _))) (pss_one (ps_ret pe_bl)) pss_nil)
  (pss_one (ps_if (pt_not (pt_val (pe_g c__law_like hr hg (by rfl) (pa_cons (pe_c c_sets_of hr (by rfl) (pa_cons (pv 6) (pa_cons (pe_callTy (klist_of (K := K) rfl) (by rfl) T.n_list bt_list (pa_cons (pe_slice (kslA (K := K) rfl) (pv 3) po_none (po_some (pv 5))) pa_nil)) pa_nil))) (pa_cons (pe_slice (kslA (K := K) rfl) (pv 4) po_none (po_some (pv 5))) pa_nil))))) (pss_one (ps_ret pe_bl)) pss_nil)))))
  (pss_one (ps_ret pe_bl))), ?_⟩
  have hv0 := hv
  obtain ⟨l, vl, rfl, hl, hws⟩ := hv
  have hvl : vl.length = ws.length := Paired.length hws
  have hgl : (gws ws).length = ws.length := List.length_map ..
  have hsl : (sets k (gws ws) ps).length = ws.length := by rw [sets_len (by rw [hgl]; exact hpl), hgl]
  refine ⟨_, rfl, l, _, rfl, .inl (.of hl), _, 1, rfl, rfl, (vl.length : Int) + 1, rfl, by omega, by omega, ?_⟩
  refine for_range (fun i σ H' => ∃ (x5 x6 : Option V), σ = [some g, some (.int k), some (.ref l), some (.ref p), some (.ref b), x5, x6] ∧ Ex H H') ⟨none, none, rfl, Ex.refl H⟩ (fun i σ H' hi pv => ?_) fun σ H' pv => ?_
  · obtain ⟨x5, x6, rfl, e⟩ := pv
    have hi : i ≤ ws.length := by omega
    rw [Int.zero_add]
    obtain ⟨ga, gdx, gt, gvs, rfl, hga, _, _⟩ := id (GameV.mk hgm e)
    refine ⟨_, rfl, ga, gdx, _, rfl, hga, rfl, _, rfl, .ref ga, k, gws ws, i, rfl, GameV.mk hgm e, hk3, hk, by rw [hgl]; exact hlen, by rw [hgl]; exact hi, fun r2 H2 e2 hr2 => ?_⟩
    have he2 : (gws ws).take i = gws (ws.take i) := by rw [gws, gws, List.map_take]
    rw [he2] at hr2
    have E2 := e.trans e2
    refine ⟨_, rfl, _, rfl, _, rfl, _, rfl, _, rfl, ?_⟩
    refine slice_toL (K := K) (m := i) (E2 _ _ hl) (by omega) fun r3 H3 _ e3 hr3 => ?_
    refine ⟨k, .ref r3, ws.take i, rfl, ⟨r3, _, rfl, hr3, paired_take i (RowsV.mk hws (E2.trans e3))⟩, hk3, hk, by rw [List.length_take]; omega, fun w' hw' => hok w' (List.mem_of_mem_take hw'), fun r4 H4 e4 hr4 => ?_⟩
    have hr2' := GameV.mk hr2 (e3.trans e4)
    obtain ⟨a2, dx2, _, _, rfl, h2, _⟩ := id hr2'
    obtain ⟨a4, dx4, _, _, rfl, h4, _⟩ := id hr4
    refine ⟨⟨a2, a4, dx2, dx4, _, _, rfl, rfl, h2, h4, k, gws (ws.take i), hr2', hr4⟩, fun H5 e5 => ?_⟩
    have E5 : Ex H H5 := ((E2.trans e3).trans e4).trans e5
    refine ⟨true, rfl, ite2 (fun h => by cases h) fun _ => ?_⟩
    have hr5 := GameV.mk hr2' e5
    have hps5 := E5 _ _ hp
    refine ⟨_, rfl, _, rfl, _, rfl, _, rfl, ?_⟩
    refine slice_to (K := K) (m := i) hps5 (by rw [List.length_map]; omega) fun r6 H6 e6 hr6 => ?_
    refine ⟨r6, _, rfl, .inr (.of hr6), fun l7 hl7 => ?_⟩
    have e7 := Ex.new (o := .lst ((ps.map V.int).take i)) hl7
    have hps7 : (ps.map V.int).take i = (ps.take i).map V.int := by rw [List.map_take]
    have gm : GmOk k (gws (ws.take i)) := gws_ok hk3 hk (by rw [List.length_take]; omega) fun w' hw' => hok w' (List.mem_of_mem_take hw')
    refine ⟨.ref a2, l7, ps.take i, k, gws (ws.take i), rfl, GameV.mk hr5 (e6.trans e7), .inl (by rw [upd_same, hps7]), by rw [gws, List.length_map, List.length_take, List.length_take, hpl], fun x hx => hpk x (List.mem_of_mem_take hx), gm, fun s8 H8 e8 hs8 => ?_⟩
    have E8 : Ex H H8 := ((E5.trans e6).trans e7).trans e8
    have hb8 := hb.mk E8
    obtain ⟨ba, bx, eba, hbx, tbx⟩ := Td.tup_inv hb8
    cases eba
    have hbl : bx.length = ws.length := by rw [tbx.len, List.length_map, hsl]
    refine ⟨_, rfl, _, rfl, _, rfl, ?_⟩
    refine slice_to (K := K) (m := i) hbx (by omega) fun r9 H9 e9 hr9 => ?_
    have hset : sets k (gws (ws.take i)) (ps.take i) = (sets k (gws ws) ps).take i := by rw [← he2]; exact sets_take i
    rw [hset] at hs8
    have hs9 := hs8.mk e9
    obtain ⟨s8a, rfl⟩ : ∃ a, s8 = .ref a := by
      cases hs8
      exact ⟨_, rfl⟩
    have sub := sets_sub k (gws ws) ps
    have hsm := sm_box (box := (sets k (gws ws) ps).take i) (fun S hS x hx => by
      have := (sub_asc sub (List.mem_of_mem_take hS)).2 x hx
      omega) (fun S hS => by
      have h := sub S (List.mem_of_mem_take hS)
      have h2 := List.length_filter_le (fun x => decide (x ∈ S)) (pegs k)
      rw [h, pegs_len] at h2
      omega) (by rw [List.length_take]; omega)
    refine ⟨.ref s8a, .ref r9, _, rfl, .inl hs9, .inl (.tup hr9 ?_), .inr ⟨_, _, rfl, rfl⟩, hsm.mono (by decide) (Nat.le_refl _), ?_⟩
    · rw [List.map_take]
      exact (tbx.mk e9).take i
    · refine ⟨true, rfl, ite2 (fun h => by cases h) fun _ => ?_⟩
      exact ⟨_, _, rfl, E8.trans e9⟩
  · obtain ⟨x5, x6, rfl, e⟩ := pv
    exact q H' e


end
end K07
end K07_part_W12

section K07_part_W13
set_option Elab.async false
set_option linter.all false
set_option maxRecDepth 100000
set_option maxHeartbeats 4000000
namespace K07
open PySem PySem.Spec PyProof.Rows L2 Evl
section
variable {P : Program} {w : World} {K : PySem.W.Frag} {mg : Str → Option Value} {base : Heap} {CW CG : Addr}

theorem reach_gws {ws : Webs} {p q : List Int} : Reach (gws ws) p q ↔ Reach ws p q := by
  constructor
  · refine reach_le fun d w r hw hr => ?_
    rw [gws, List.getElem?_map, Option.map_eq_some_iff] at hw
    obtain ⟨w0, h1, rfl⟩ := hw
    exact ⟨w0, r, h1, mem_webF.mp hr, rfl, rfl, rfl⟩
  · refine reach_le fun d w r hw hr => ?_
    exact ⟨webF w, r, by rw [gws, List.getElem?_map, hw]; rfl, mem_webF.mpr hr, rfl, rfl, rfl⟩
theorem room_gws {ws : Webs} {p q : List Int} : InRoom (gws ws) p q ↔ InRoom ws p q := and_congr reach_gws reach_gws
theorem gws_stops {k : Nat} {ws : Webs} (hok : ∀ w ∈ ws, WOk k w) : StopsOk k (gws ws) := fun w hw r hr => by
  obtain ⟨w', hw', rfl⟩ := List.mem_map.mp hw
  exact ((hok w' hw').ok r (mem_webF.mp hr)).hb
theorem gws_len {ws : Webs} : (gws ws).length = ws.length := List.length_map ..
section
variable {k n : Nat} {ws : Webs} (hok : ∀ w ∈ ws, WOk k w) (hn : ws.length = n)
include hok hn
/-- of one room: in the box of the other -/
theorem rep_box {p q : List Int} (hp : IsPos k n p) (hq : IsPos k n q) : repF ws (allP k n) q = repF ws (allP k n) p ↔ InBox (sets k (gws ws) p) q := by
  rw [repF_eq_iff (mem_allP.mpr hq)]
  refine ⟨fun h => ?_, fun h => ?_⟩
  · exact (room_rule (gws_stops hok) (by rw [gws_len, hn]; exact hp) (by rw [gws_len, hn]; exact hq.1)).mp (room_gws.mpr h.symm)
  · exact (room_gws.mp ((room_rule (gws_stops hok) (by rw [gws_len, hn]; exact hp) (by rw [gws_len, hn]; exact hq.1)).mpr h)).symm
theorem rows_eq {p : List Int} (hp : IsPos k n p) : ((allP k n).filter fun q => decide (repF ws (allP k n) q = repF ws (allP k n) p)) = prodL (sets k (gws ws) p) := by
  rw [prod_filter (sets_sub k (gws ws) p), sets_len (by rw [gws_len, hn]; exact hp.1), gws_len, hn]
  refine List.filter_congr fun q hq => ?_
  unfold inBoxB
  exact decide_eq_decide.mpr (rep_box hok hn hp (mem_allP.mp hq))
theorem sets_rep {p r : List Int} (hp : IsPos k n p) (h : repF ws (allP k n) p = some r) : sets k (gws ws) r = sets k (gws ws) p :=
  sets_same (gws_stops hok) (by rw [gws_len, hn]; exact hp) (room_gws.mpr (repF_some h).2.symm)
end
theorem nm_at {B : Addr} {ws : Webs} {l : List (List Int)} {H : Hp} {q : List Int} (h : NmB B ws l H) (hq : q ∈ l) : ∃ r a, (∀ t, H t = some (.tup (q.map V.int)) → DGet H B (.ref t) (some (.ref a))) ∧ H a = some (.tup (r.map V.int)) ∧ repF ws l q = some r := by
  obtain ⟨kvs, h1, h2⟩ := h
  obtain ⟨r, hr⟩ := repF_of_mem (ws := ws) hq
  have := h2 q
  rw [hr] at this
  obtain ⟨a, h3, h4⟩ := this
  exact ⟨r, a, fun t ht => by rw [← h3]; exact DGet.t h1 (key_at ht), h4, hr⟩
theorem NmB.tk {B : Addr} {ws : Webs} {l : List (List Int)} {H : Hp} {x : Addr} {o : HO} {kvs : List (List L2.Key × V)} (h : NmB B ws l H) (hx : H x = some (.dT kvs)) (hBx : B ≠ x) : NmB B ws l (upd H x o) := by
  obtain ⟨ks, h1, h2⟩ := h
  have tk := Tk.mut (Tk.refl H) (no_tup hx fun xs q => by cases q) (o := o)
  refine ⟨ks, by rw [upd_ne hBx]; exact h1, fun q => ?_⟩
  have := h2 q
  split at this
  · exact this
  · obtain ⟨a, h3, h4⟩ := this
    exact ⟨a, h3, tk _ _ h4⟩
/-- the boxes kept so far -/
def BxB (X : Addr) (k : Nat) (G : Webs) (l : List (List Int)) (H : Hp) : Prop := ∃ kvs, H X = some (.dT kvs) ∧ kvs.length ≤ l.length ∧ ∀ q ∈ l, ∃ b, valV kvs (kk q) = some (.ref b) ∧ Td H (.ref b) (.tuple ((sets k G q).map dTI))
theorem BxB.mk {X : Addr} {k : Nat} {G : Webs} {l : List (List Int)} {H H' : Hp} (h : BxB X k G l H) (e : Ex H H') : BxB X k G l H' := by
  obtain ⟨kvs, h1, h2, h3⟩ := h
  exact ⟨kvs, e _ _ h1, h2, fun q hq => let ⟨b, h4, h5⟩ := h3 q hq; ⟨b, h4, h5.mk e⟩⟩
theorem bx_at {X : Addr} {k : Nat} {G : Webs} {l : List (List Int)} {H : Hp} {q : List Int} (h : BxB X k G l H) (hq : q ∈ l) : ∃ b, (∀ t, H t = some (.tup (q.map V.int)) → DGet H X (.ref t) (some (.ref b))) ∧ Td H (.ref b) (.tuple ((sets k G q).map dTI)) := by
  obtain ⟨kvs, h1, h2, h3⟩ := h
  obtain ⟨b, h4, h5⟩ := h3 q hq
  exact ⟨b, fun t ht => by rw [← h4]; exact DGet.t h1 (key_at ht), h5⟩
theorem sm_sets {k : Nat} (hk : k ≤ 5) (G : Webs) (p : List Int) (hl : (sets k G p).length ≤ 50) : Sm (.tuple ((sets k G p).map dTI)) 4 70000 :=
  (sm_box (fun S hS x hx => by
    have := (sub_asc (sets_sub k G p) hS).2 x hx
    omega) (fun S hS => Nat.le_trans (sets_few hk G p S hS) (by decide)) hl).mono (by decide) (Nat.le_refl _)
theorem shp_rows {k n : Nat} (hk : k ≤ 5) (hn : n ≤ 4) (l : List (List Int)) (h : ∀ q ∈ l, IsPos k n q) (hl : l.length ≤ 81) : Sm (.list (l.map dTI)) 4 70000 := by
  have := (SmA.of (e := 1) (w := 800) (ds := l.map dTI) fun d hd => by
    obtain ⟨q, hq, rfl⟩ := List.mem_map.mp hd
    have hp := h q hq
    exact sm_ti (fun x hx => by have := hp.2 x hx; omega) (by have := hp.1; omega)).lst
  exact this.mono (by decide) (by rw [List.length_map]; omega)

abbrev slaw : Stmt := top 74
abbrev Nlaw : List Str := ["_law_script", "_law_draws_here", "_law_most", "_law_size", "_law_pegs", "_law_webs_here", "_law_game", "_law_positions", "_law_names", "_law_boxes", "_law_position", "_law_rows", "_law_box", "_law_row", "_law_turn", "_law_one", "_law_two", "_law_same", "_law_other"]
theorem sclaw : FnScope Nlaw ["_law_script"] (defScope slaw) := ⟨rfl, rfl, rfl, by decide +kernel, rfl, by decide +kernel, by decide +kernel⟩
theorem bdlaw : BindsAll "law" "law" slaw ["_law_script"] := fun _ _ _ _ _ _ us hl => match us, hl with | [_], _ => rfl
/-- what law promises -/
def sp_law (P : Program) (w : World) (CW CG : Addr) : Sp := fun vs H Q _ => ∃ (a : Addr) (xs : List Int), vs = [.ref a] ∧ Rd H a (.lst (xs.map .int)) ∧ ∀ H', Q (.bl true) H'
theorem w_law (T : Glb K mg CW CG) (D : Def K mg "law" slaw) (c__law_draws : Cal P w K mg base 1 "_law_draws" ["_law_script"] (sp__law_draws P w CW CG)) (c__law_take : Cal P w K mg base 1 "_law_take" ["_law_draws_here", "_law_many"] (sp__law_take P w CW CG)) (c__law_sizes : Cal P w K mg base 2 "_law_sizes" ["_law_draws_here", "_law_most"] (sp__law_sizes P w CW CG)) (c__law_kind : Cal P w K mg base 2 "_law_kind" ["_law_draws_here"] (sp__law_kind P w CW CG)) (c__law_webs : Cal P w K mg base 4 "_law_webs" ["_law_draws_here", "_law_pegs", "_law_discs", "_law_kind_here"] (sp__law_webs P w CW CG)) (c__law_built : Cal P w K mg base 9 "_law_built" ["_law_pegs", "_law_webs_here"] (sp__law_built P w CW CG)) (c__law_all : Cal P w K mg base 1 "_law_all" ["_law_pegs", "_law_discs"] (sp__law_all P w CW CG)) (c__law_room_names : Cal P w K mg base 5 "_law_room_names" ["_law_webs_here", "_law_positions"] (sp__law_room_names P w CW CG)) (c_sets_of : Cal P w K mg base 4 "sets_of" ["game", "position"] (sp_sets_of P w CW CG)) (c__law_is_row : Cal P w K mg base 1 "_law_is_row" ["_law_thing", "_law_many"] (sp__law_is_row P w CW CG)) (c__law_like : CalG P w K mg base 1 "_law_like" ["_law_thing", "_law_due"] (sp__law_like P w CW CG)) (c_room_size : Cal P w K mg base 5 "room_size" ["game", "position"] (sp_room_size P w CW CG)) (c__law_is_pegs : Cal P w K mg base 2 "_law_is_pegs" ["_law_thing", "_law_pegs"] (sp__law_is_pegs P w CW CG)) (c__law_box_rows : Cal P w K mg base 1 "_law_box_rows" ["_law_box"] (sp__law_box_rows P w CW CG)) (c_towers_in : Cal P w K mg base 5 "towers_in" ["game", "position"] (sp_towers_in P w CW CG)) (c__law_common : Cal P w K mg base 1 "_law_common" ["_law_pegs", "_law_box"] (sp__law_common P w CW CG)) (c_in_room : Cal P w K mg base 5 "in_room" ["game", "position", "other"] (sp_in_room P w CW CG)) (c__law_lesser_agree : CalG P w K mg base 10 "_law_lesser_agree" ["_law_game", "_law_pegs", "_law_webs_here", "_law_position", "_law_box"] (sp__law_lesser_agree P w CW CG)) : CalG P w K mg base 11 "law" ["_law_script"] (sp_law P w CW CG) := by
  refine CalG.mk' D sclaw bdlaw (fun vs H Q E h => by obtain ⟨a, xs, rfl, hra, q⟩ := h; rfl) fun f cdv A outer s H vs Q hr hg h => ?_
  obtain ⟨a, xs, rfl, hra, q⟩ := h
  refine ⟨_, (pss_cons (ps_set (i := 1) sclaw.nd rfl (Or.inl rfl) (pe_c c__law_draws hr (by rfl) (pa_cons (pv 0) pa_nil)))
  (pss_cons (ps_set (i := 2) sclaw.nd rfl (Or.inl rfl) (pe_ix (kix_list (K := K) rfl) (pe_lst (pa_cons pe_int (pa_cons pe_int (pa_cons pe_int (pa_cons pe_int pa_nil))))) (pe_c c__law_take hr (by rfl) (pa_cons (pv 1) (pa_cons pe_int pa_nil))) (fun _ _ => rfl)))
  (pss_cons (ps_set (i := 3) sclaw.nd rfl (Or.inl rfl) (pe_c c__law_sizes hr (by rfl) (pa_cons (pv 1) (pa_cons (pv 2) pa_nil))))
  (pss_cons (ps_set (i := 4) sclaw.nd rfl (Or.inl rfl) (pe_ix (kix_list (K := K) rfl) (pv 3) pe_int (fun _ _ => rfl)))
  (pss_cons (ps_set (i := 5) sclaw.nd rfl (Or.inl rfl) (pe_c c__law_webs hr (by rfl) (pa_cons (pv 1) (pa_cons (pv 4) (pa_cons (pe_ix (kix_list (K := K) rfl) (pv 3) pe_int (fun _ _ => rfl)) (pa_cons (pe_c c__law_kind hr (by rfl) (pa_cons (pv 1) pa_nil)) pa_nil))))))
  (pss_cons (ps_set (i := 6) sclaw.nd rfl (Or.inl rfl) (pe_c c__law_built hr (by rfl) (pa_cons (pv 4) (pa_cons (pv 5) pa_nil))))
  (pss_cons (ps_set (i := 7) sclaw.nd rfl (Or.inl rfl) (pe_c c__law_all hr (by rfl) (pa_cons (pv 4) (pa_cons (pe_ix (kix_list (K := K) rfl) (pv 3) pe_int (fun _ _ => rfl)) pa_nil))))
  (pss_cons (ps_set (i := 8) sclaw.nd rfl (Or.inr rfl) (pe_c c__law_room_names hr (by rfl) (pa_cons (pv 5) (pa_cons (pv 7) pa_nil))))
  (pss_cons (ps_set (i := 9) sclaw.nd rfl (Or.inl rfl) pe_dnewT)
  (pss_cons (ps_for PassesOwn.never rfl (ki_list (K := K) rfl (pv 7)) (pg_name (i := 10) sclaw.nd rfl (Or.inr rfl))
  (pss_cons (ps_setLc (i := 11) (own := [("_law_other", 18)]) (g := gName 18) rfl sclaw.nd rfl rfl (sw_true rfl rfl rfl (by decide +kernel)) (ki_list (K := K) rfl (pv 7)) (blkOk_by (N := Nlaw) (sc := defScope slaw) (by decide +kernel)) (fun _ _ _ _ _ => (pg_name (i := 18) sclaw.nd rfl (Or.inl rfl))) (fun _ _ _ _ _ => (pts_one (pt_cmpR (keqD (K := K) rfl (hr.u 64)) (pe_dget (hr.u 1) (pv 8) (pv 18) (fun _ _ => rfl)) (pe_dget (hr.u 1) (pv 8) (pv 10) (fun _ _ => rfl)) (nomark _)))) (fun _ _ _ _ _ => (pv 18)))
  (pss_cons (ps_set (i := 12) sclaw.nd rfl (Or.inl rfl) (pe_c c_sets_of hr (by rfl) (pa_cons (pv 6) (pa_cons (pv 10) pa_nil))))
  (pss_cons (ps_dput (hr.u 1) (pv 9) (pv 10) (pv 12) rfl)
  (pss_cons (ps_if (PW.pt (pw_or (pt_not (pt_val (pe_c c__law_is_row hr (by rfl) (pa_cons (pv 12) (pa_cons (pe_ix (kix_list (K := K) rfl) (pv 3) pe_int (fun _ _ => rfl)) pa_nil))))) (pw_or1 (pt_not (pt_val (pe_g c__law_like hr hg (by rfl) (pa_cons (pe_c c_room_size hr (by rfl) (pa_cons (pv 6) (pa_cons (pe_callTy (klist_of (K := K) rfl) (by rfl) T.n_list bt_list (pa_cons (pv 10) pa_nil)) pa_nil))) (pa_cons (pe_callB (klen (K := K) rfl) (by rfl) T.n_len bt_len (pa_cons (pv 11) pa_nil)) pa_nil)))))))) (pss_one (ps_ret pe_bl)) pss_nil)
  (pss_cons (ps_for PassesOwn.never rfl (ki_tup (K := K) rfl (pv 12)) (pg_name (i := 13) sclaw.nd rfl (Or.inl rfl))
  (pss_one (ps_if (pt_not (pt_val (pe_c c__law_is_pegs hr (by rfl) (pa_cons (pv 13) (pa_cons (pv 4) pa_nil))))) (pss_one (ps_ret pe_bl)) pss_nil)))
  (pss_cons (ps_if (PW.pt (pw_or (pt_cmpR (kneD (K := K) rfl (hr.u 64)) (pv 12) (pe_dget (hr.u 1) (pv 9) (pe_dget (hr.u 1) (pv 8) (pv 10) (fun _ _ => rfl)) (fun _ _ => rfl)) (nomark _)) (pw_or1 (pt_cmpR (kneD (K := K) rfl (hr.u 64)) (pe_c c__law_box_rows hr (by rfl) (pa_cons (pv 12) pa_nil)) (pv 11) (nomark _))))) (pss_one (ps_ret pe_bl)) pss_nil)
  (pss_one (ps_if (pt_not (pt_val (pe_g c__law_like hr hg (by rfl) (pa_cons (pe_c c_towers_in hr (by rfl) (pa_cons (pv 6) (pa_cons (pv 10) pa_nil))) (pa_cons (pe_c c__law_common hr (by rfl) (pa_cons (pv 4) (pa_cons (pv 12) pa_nil))) pa_nil))))) (pss_one (ps_ret pe_bl)) pss_nil)))))))))
  (pss_cons (ps_for PassesOwn.never rfl (pi_range1 (by rfl) T.n_range (pa_cons pe_int pa_nil)) (pg_name (i := 14) sclaw.nd rfl (Or.inl rfl))
  (pss_cons (ps_set (i := 15) sclaw.nd rfl (Or.inl rfl) (pe_ix (kix_list (K := K) rfl) (pv 7) (pe_c c__law_take hr (by rfl) (pa_cons (pv 1) (pa_cons (pe_callB (klen (K := K) rfl) (by rfl) T.n_len bt_len (pa_cons (pv 7) pa_nil)) pa_nil))) (fun _ _ => rfl)))
  (pss_cons (ps_set (i := 16) sclaw.nd rfl (Or.inl rfl) (pe_ix (kix_list (K := K) rfl) (pv 7) (pe_c c__law_take hr (by rfl) (pa_cons (pv 1) (pa_cons (pe_callB (klen (K := K) rfl) (by rfl) T.n_len bt_len (pa_cons (pv 7) pa_nil)) pa_nil))) (fun _ _ => rfl)))
  (pss_cons (ps_set (i := 17) sclaw.nd rfl (Or.inl rfl) (pe_cmpR (keqD (K := K) rfl (hr.u 64)) (pe_dget (hr.u 1) (pv 8) (pv 15) (fun _ _ => rfl)) (pe_dget (hr.u 1) (pv 8) (pv 16) (fun _ _ => rfl)) (nomark _)))
  (pss_cons (ps_if (pt_not (pt_val (pe_g c__law_like hr hg (by rfl) (pa_cons (pe_lst (pa_cons (pe_c c_in_room hr (by rfl) (pa_cons (pv 6) (pa_cons (pv 15) (pa_cons (pv 16) pa_nil)))) (pa_cons (pe_c c_in_room hr (by rfl) (pa_cons (pv 6) (pa_cons (pv 16) (pa_cons (pv 15) pa_nil)))) pa_nil))) (pa_cons (pe_lst (pa_cons (pv 17) (pa_cons (pv 17) pa_nil))) pa_nil))))) (pss_one (ps_ret pe_bl)) pss_nil)
  (pss_one (ps_if (PW.pt (pw_and (pt_cmpR op_lt (pv 14) pe_int (nomark _)) (pw_and1 (pt_not (pt_val (pe_g c__law_lesser_agree hr hg (by rfl) (pa_cons (pv 6) (pa_cons (pv 4) (pa_cons (pv 5) (pa_cons (pv 16) (pa_cons (pe_dget (hr.u 1) (pv 9) (pv 16) (fun _ _ => rfl)) pa_nil))))))))))) (pss_one (ps_ret pe_bl)) pss_nil)))))))
  (pss_one (ps_ret pe_bl))))))))))))), ?_⟩
  refine ⟨_, rfl, a, xs, rfl, hra, fun d H1 e1 hd => ?_⟩
  refine ⟨by decide, fun pl hpl => ?_⟩
  have e2 := Ex.new (o := .lst [.int 27, .int 27, .int 9, .int 81]) hpl
  refine ⟨_, rfl, d, 4, rfl, hd.mk e2, by decide, fun j h0 h1 => ?_⟩
  have hmost : ∃ m : Int, atI [V.int 27, .int 27, .int 9, .int 81] j = some (.int m) ∧ 1 ≤ m ∧ m ≤ 81 := by
    have h : j = 0 ∨ j = 1 ∨ j = 2 ∨ j = 3 := by omega
    rcases h with rfl | rfl | rfl | rfl
    · exact ⟨27, rfl, by omega, by omega⟩
    · exact ⟨27, rfl, by omega, by omega⟩
    · exact ⟨9, rfl, by omega, by omega⟩
    · exact ⟨81, rfl, by omega, by omega⟩
  obtain ⟨most, hat, hm1, hm81⟩ := hmost
  refine ⟨pl, _, j, .int most, rfl, rfl, .of upd_same, hat, ?_⟩
  have hd2 := hd.mk e2
  generalize upd H1 pl (.lst [.int 27, .int 27, .int 9, .int 81]) = H2 at e2 hd2
  clear e2 hpl
  refine ⟨_, rfl, _, rfl, d, most, rfl, hd2, hm1, hm81, fun sz H3 k n e3 hsz hk3 hk5 hn4 hkn => ?_⟩
  have hd3 := hd2.mk e3
  refine ⟨_, rfl, sz, _, 0, .int (k : Nat), rfl, rfl, .of hsz, rfl, ?_⟩
  refine ⟨_, rfl, _, rfl, _, rfl, sz, _, 1, .int (n : Nat), rfl, rfl, .of hsz, rfl, _, rfl, d, rfl, hd3, fun kd H4 e4 => ?_⟩
  refine ⟨d, k, n, kd, rfl, hd3.mk e4, hk3, hk5, hn4, fun wv H5 ws e5 hwv hwl hok => ?_⟩
  have E5 := e4.trans e5
  have hok60 : ∀ w ∈ ws, w.length ≤ 60 := fun w hw => (hok w hw).few
  have hokA : ∀ w ∈ ws, ∀ r ∈ w, ArrOk k r := fun w hw => (hok w hw).ok
  refine ⟨_, rfl, _, rfl, k, wv, ws, rfl, hwv, hk3, hk5, by omega, hok, fun gv H6 e6 hgv => ?_⟩
  have E6 := E5.trans e6
  have hsz6 := E6 _ _ hsz
  refine ⟨_, rfl, _, rfl, sz, _, 1, .int (n : Nat), rfl, rfl, .of hsz6, rfl, k, n, rfl, hk5, hn4, fun lp H7 vp hlp0 e7 hlp tvp => ?_⟩
  have E7 := E6.trans e7
  have hL : (allP k n).length ≤ 81 := by rw [length_allP]; exact hkn
  have hL1 : 1 ≤ (allP k n).length := by
    rw [length_allP]
    exact Nat.pow_pos (by omega)
  have hpos : ∀ p ∈ allP k n, IsPos k n p := fun p hp => mem_allP.mp hp
  refine ⟨_, rfl, _, rfl, wv, lp, vp, allP k n, ws, k, rfl, hwv.mk (e6.trans e7), hlp, tvp, by omega, hok60, hokA, by rw [hwl]; exact hpos, hL, by rw [hwl]; exact hkn, fun B H8 hB0 e8 hB => ?_⟩
  have hd8 := hd3.mk (E7.trans e8)
  have hsz8 := (E7.trans e8) _ _ hsz
  have hwv8 := hwv.mk ((e6.trans e7).trans e8)
  have hgv8 := GameV.mk hgv (e7.trans e8)
  have hlp8 := e8 _ _ hlp
  have tvp8 := tvp.mk e8
  clear hd hd2 hd3 hsz hsz6 hwv hgv hlp tvp
  intro X hX
  have eX := Ex.new (o := .dT []) hX
  have hvl : vp.length = (allP k n).length := by rw [tvp8.len, List.length_map]
  have gm : GmOk k (gws ws) := gws_ok hk3 hk5 (by omega) hok
  have gl : (gws ws).length = n := by rw [gws_len, hwl]
  refine ⟨_, rfl, lp, rfl, ⟨_, .of (eX _ _ hlp8)⟩, ?_⟩
  refine for_list (xs := vp) (fun i σ H' => ∃ (x10 x11 x12 x13 x14 x15 x16 x17 x18 : Option V), σ = [some (.ref a), some d, some (.int most), some (.ref sz), some (.int k), some wv, some gv, some (.ref lp), some (.ref B), some (.ref X), x10, x11, x12, x13, x14, x15, x16, x17, x18] ∧ Ex H8 H' ∧ BxB X k (gws ws) ((allP k n).take i) H') ⟨none, none, none, none, none, none, none, none, none, rfl, eX, [], upd_same, by simp, by simp⟩ (fun i σ H' _ pv => ?_) (fun i v σ H' hv pv => ?_) fun σ H' pv => ?_
  · obtain ⟨x10, x11, x12, x13, x14, x15, x16, x17, x18, rfl, e, _⟩ := pv
    exact .of (e _ _ hlp8)
  · obtain ⟨x10, x11, x12, x13, x14, x15, x16, x17, x18, rfl, e, hbx⟩ := pv
    obtain ⟨dd, hdd, td⟩ := (tvp8.mk e).get hv
    rw [List.getElem?_map, Option.map_eq_some_iff] at hdd
    obtain ⟨p, hpp, rfl⟩ := hdd
    obtain ⟨t, rfl, ht⟩ := td_ti td
    have hpm : p ∈ allP k n := List.mem_of_getElem? hpp
    have hp := hpos p hpm
    have htk : (allP k n).take (i + 1) = (allP k n).take i ++ [p] := take_next hpp
    have hil : i < (allP k n).length := (List.getElem?_eq_some_iff.mp hpp).1
    obtain ⟨r, ra, hdr, hrr, hrep⟩ := nm_at (hB.mk e) hpm
    have hsl : (sets k (gws ws) p).length = n := by rw [sets_len (by rw [gl]; exact hp.1), gl]
    have hrows := rows_eq hok hwl hp
    refine ⟨_, rfl, lp, rfl, ⟨_, .of (e _ _ hlp8)⟩, fun D hD => ?_⟩
    refine lc_list (xs := vp) (fun j H3 => Ex H' H3 ∧ ∃ zs, H3 D = some (.lst zs) ∧ TdA H3 zs ((((allP k n).take j).filter fun q => decide (repF ws (allP k n) q = repF ws (allP k n) p)).map dTI)) ⟨Ex.new hD, [], upd_same, .nil⟩ (fun j H3 _ p => .of (p.1 _ _ (e _ _ hlp8))) (fun j v H3 hv pv => ?_) fun H3 pv => ?_
    · obtain ⟨e3, zs, hD2, hy⟩ := pv
      obtain ⟨dd, hdd, td⟩ := (tvp8.mk (e.trans e3)).get hv
      rw [List.getElem?_map, Option.map_eq_some_iff] at hdd
      obtain ⟨o, hoo, rfl⟩ := hdd
      obtain ⟨u, rfl, hu⟩ := td_ti td
      have htk2 : (allP k n).take (j + 1) = (allP k n).take j ++ [o] := take_next hoo
      obtain ⟨r1, a1, hd1, hr1, hrep1⟩ := nm_at (hB.mk (e.trans e3)) (List.mem_of_getElem? hoo)
      obtain ⟨r2, a2, hd2, hr2, hrep2⟩ := nm_at (hB.mk (e.trans e3)) hpm
      refine ⟨rfl, _, rfl, _, rfl, B, .ref a1, rfl, hd1 _ hu, _, rfl, _, rfl, B, .ref a2, rfl, hd2 _ (e3 _ _ ht), dTI r1, dTI r2, (td_ti' hr1).dp, (td_ti' hr2).dp, shp_ti _, shp_ti _, _, rfl, ?_⟩
      have hdec : PyData.eqv (dTI r1) (dTI r2) = decide (repF ws (allP k n) o = repF ws (allP k n) p) := by
        rw [eqv_ti, hrep1, hrep2]
        exact decide_eq_decide.mpr ⟨fun h => by rw [h], fun h => Option.some.inj h⟩
      rw [hdec]
      have hzl : zs.length ≤ 1000 := by
        have := hy.len
        have h2 := List.length_filter_le (fun q => decide (repF ws (allP k n) q = repF ws (allP k n) p)) ((allP k n).take j)
        rw [List.length_take] at h2
        rw [List.length_map] at this
        omega
      refine ite2 (fun hc => ?_) fun hc => ?_
      · have tk := Tk.mut (Tk.refl _) (no_tupL hD2) (o := .lst (zs ++ [V.ref u]))
        refine ⟨_, rfl, zs, hD2, small1000 hzl, e3.mut hD, _, upd_same, ?_⟩
        rw [htk2, List.filter_append, List.map_append]
        have h1 : List.filter (fun q => decide (repF ws (allP k n) q = repF ws (allP k n) p)) [o] = [o] := by rw [List.filter_cons, if_pos hc]; rfl
        rw [h1]
        exact TdA.snoc (hy.mono tk) (td.mono tk)
      · refine ⟨e3, zs, hD2, ?_⟩
        rw [htk2, List.filter_append, List.map_append]
        have h1 : List.filter (fun q => decide (repF ws (allP k n) q = repF ws (allP k n) p)) [o] = [] := by rw [List.filter_cons, if_neg hc]; rfl
        rw [h1]
        simpa using hy
    · obtain ⟨e3, zs, hD2, hy⟩ := pv
      rw [hvl, List.take_length, hrows] at hy
      have E3 := e.trans e3
      refine ⟨_, rfl, _, rfl, gv, t, p, k, gws ws, rfl, GameV.mk hgv8 E3, .inr (e3 _ _ ht), by rw [gl]; exact hp.1, hp.2, gm, fun s H4 e4 hs => ?_⟩
      obtain ⟨sa, bx, rfl, hsa, tbx⟩ := Td.tup_inv hs
      obtain ⟨kvs, k1, k2, k3⟩ := (hbx.mk e3).mk e4
      have hkl : kvs.length < sizeLine := by
        rw [List.length_take] at k2
        exact small1000 (by omega)
      refine ⟨_, rfl, _, rfl, _, rfl, X, _, rfl, DPut.t k1 (key_at (e4 _ _ (e3 _ _ ht))) hkl, ?_⟩
      have tk := Tk.mut (Tk.refl _) (no_tup k1 fun xs q => by cases q) (o := .dT (putK kvs (kk p) (.ref sa)))
      have E4 := E3.trans e4
      have E5 : Ex H8 (upd H4 X (.dT (putK kvs (kk p) (.ref sa)))) := E4.mut hX
      have hDX : D ≠ X := fun z => by
        have h := e4 _ _ hD2
        rw [z, k1] at h
        cases h
      have hD5 : upd H4 X (.dT (putK kvs (kk p) (.ref sa))) D = some (.lst zs) := by rw [upd_ne hDX]; exact e4 _ _ hD2
      have hy5 := (hy.mk e4).mono tk
      have hs5 := hs.mono tk
      have hsa5 := tk _ _ hsa
      have tbx5 := tbx.mono tk
      have ht5 := tk _ _ (e4 _ _ (e3 _ _ ht))
      have hbx5 : BxB X k (gws ws) ((allP k n).take (i + 1)) (upd H4 X (.dT (putK kvs (kk p) (.ref sa)))) := by
        refine ⟨_, upd_same, Nat.le_trans (putK_few _ _ _) (by rw [htk, List.length_append, List.length_singleton]; omega), fun o ho => ?_⟩
        rw [valV_put]
        by_cases z : kk o = kk p
        · rw [if_pos z]
          rw [kk_inj z]
          exact ⟨sa, rfl, hs5⟩
        · rw [if_neg z]
          rw [htk, List.mem_append, List.mem_singleton] at ho
          obtain ⟨b, h4, h5⟩ := k3 o (ho.resolve_right fun h => z (by rw [h]))
          exact ⟨b, h4, h5.mono tk⟩
      generalize upd H4 X (.dT (putK kvs (kk p) (.ref sa))) = H5 at E5 hD5 hy5 hs5 hsa5 tbx5 ht5 hbx5
      clear hy hs hsa tbx tk k1 k3
      have hbl : bx.length = n := by rw [tbx5.len, List.length_map, hsl]
      have hman : manyL (sets k (gws ws) p) = zs.length := by rw [hy5.len, List.length_map, length_prodL]
      have hzl : zs.length ≤ 81 := by
        rw [hy5.len, List.length_map, ← hrows]
        exact Nat.le_trans (List.length_filter_le _ _) hL
      refine ⟨_, rfl, _, rfl, sz, _, 1, .int (n : Nat), rfl, rfl, .of (E5 _ _ hsz8), rfl, sa, bx, n, rfl, hsa5, hbl, ?_⟩
      refine ⟨true, rfl, ?_⟩
      refine iteF ?_
      refine ⟨_, rfl, _, rfl, t, _, rfl, .inr (.of ht5), fun l6 hl6 => ?_⟩
      have e6 := Ex.new (o := .lst (p.map V.int)) hl6
      refine ⟨gv, l6, p, k, gws ws, rfl, GameV.mk hgv8 (E5.trans e6), .inl upd_same, by rw [gl]; exact hp.1, hp.2, gm, fun H7 e7 => ?_⟩
      have E7 := (E5.trans e6).trans e7
      have e67 := e6.trans e7
      refine ⟨_, rfl, D, zs, rfl, .inl (.of (e67 _ _ hD5)), ?_⟩
      refine ⟨_, _, .int (manyL (sets k (gws ws) p) : Nat), rfl, .inl (.int _), .inl (by rw [hman]; exact .int _), .inl ⟨_, rfl⟩, (sm_int (by omega)).mono (by decide) (by decide), true, rfl, ?_⟩
      refine iteF ?_
      have hsa7 := e67 _ _ hsa5
      refine ⟨_, rfl, sa, rfl, ⟨_, .of hsa7⟩, ?_⟩
      refine for_tup (xs := bx) (fun j σ H' => H' = H7 ∧ ∃ x13, σ = [some (.ref a), some d, some (.int most), some (.ref sz), some (.int k), some wv, some gv, some (.ref lp), some (.ref B), some (.ref X), some (.ref t), some (.ref D), some (.ref sa), x13, x14, x15, x16, x17, x18]) ⟨rfl, _, rfl⟩ (fun j σ H' _ pv => by rw [pv.1]; exact .of hsa7) (fun j v σ H' hv pv => ?_) fun σ H' pv => ?_
      · obtain ⟨rfl, x13, rfl⟩ := pv
        obtain ⟨dd, hdd, td⟩ := (tbx5.mk e67).get hv
        rw [List.getElem?_map, Option.map_eq_some_iff] at hdd
        obtain ⟨S, hSS, rfl⟩ := hdd
        obtain ⟨u, rfl, hu⟩ := td_ti td
        have hS := sub_asc (sets_sub k (gws ws) p) (List.mem_of_getElem? hSS)
        refine ⟨_, rfl, _, rfl, u, S, k, rfl, hu, hS.1, hS.2, true, rfl, ?_⟩
        refine iteF ?_
        exact ⟨rfl, _, rfl⟩
      · obtain ⟨rfl, x13, rfl⟩ := pv
        have ht7 := e67 _ _ ht5
        have hs7 := hs5.mk e67
        obtain ⟨r2, ra2, hdr2, hrr2, hrep2⟩ := nm_at (hB.mk E7) hpm
        have hr2m : r2 ∈ (allP k n).take (i + 1) := by
          obtain ⟨r3, h3, h4⟩ := repF_take (ws := ws) hpp
          rw [hrep2] at h3
          cases h3
          exact h4
        obtain ⟨b2, hdb2, hb2⟩ := bx_at (hbx5.mk e67) hr2m
        rw [sets_rep hok hwl hp hrep2] at hb2
        have hsm := sm_sets hk5 (gws ws) p (by omega)
        refine ⟨_, rfl, _, rfl, _, rfl, _, rfl, B, .ref ra2, rfl, hdr2 _ ht7, X, .ref b2, rfl, hdb2 _ hrr2, _, _, hs7.dp, hb2.dp, hsm.shaped, hsm.shaped, ?_⟩
        rw [eqv_self hsm.shaped]
        refine ⟨_, rfl, ?_⟩
        refine iteF ?_
        refine ⟨_, rfl, sa, sets k (gws ws) p, rfl, hs7, by omega, sets_few hk5 _ _, fun rr H9 vr hrr0 e9 hrr tvr => ?_⟩
        refine ⟨_, rfl, _, _, Li.dp ⟨rr, vr, rfl, hrr, tvr⟩, Li.dp ⟨D, zs, rfl, e9 _ _ (e67 _ _ hD5), (hy5.mk e67).mk e9⟩, shp_tiL _, shp_tiL _, ?_⟩
        rw [eqv_self (shp_tiL _)]
        refine ⟨_, rfl, ?_⟩
        refine iteF ?_
        have E9 := E7.trans e9
        refine ⟨_, rfl, _, rfl, gv, t, p, k, gws ws, rfl, GameV.mk hgv8 E9, .inr (e9 _ _ ht7), by rw [gl]; exact hp.1, hp.2, gm, fun tw H10 e10 htw => ?_⟩
        refine ⟨_, rfl, _, rfl, k, sa, sets k (gws ws) p, rfl, (hs7.mk e9).mk e10, hk5, by omega, fun cm H11 e11 hcm => ?_⟩
        have hsm2 := (sm_ti (ns := (pegs k).filter fun x => (sets k (gws ws) p).all fun S => decide (x ∈ S)) (fun x hx => by
          have := mem_pegs.mp (List.mem_filter.mp hx).1
          omega) (by
          have := List.length_filter_le (fun x => (sets k (gws ws) p).all fun S => decide (x ∈ S)) (pegs k)
          rw [pegs_len] at this
          omega)).mono (e' := 4) (w' := 70000) (by decide) (by decide)
        refine ⟨.ref tw, .ref cm, _, rfl, .inl ((td_ti' htw).mk e11), .inl (td_ti' hcm), .inr ⟨_, _, rfl, rfl⟩, hsm2, true, rfl, ?_⟩
        refine iteF ?_
        exact ⟨_, _, _, _, _, _, _, _, _, rfl, (E9.trans e10).trans e11, hbx5.mk ((e67.trans e9).trans (e10.trans e11))⟩
  · obtain ⟨x10, x11, x12, x13, x14, x15, x16, x17, x18, rfl, e, hbx⟩ := pv
    rw [hvl, List.take_length] at hbx
    refine ⟨12, rfl, by decide, by decide, ?_⟩
    refine for_range (fun i σ H2 => ∃ (x10 x11 x12 x13 x14 x15 x16 x17 x18 : Option V), σ = [some (.ref a), some d, some (.int most), some (.ref sz), some (.int k), some wv, some gv, some (.ref lp), some (.ref B), some (.ref X), x10, x11, x12, x13, x14, x15, x16, x17, x18] ∧ Ex H' H2) ⟨_, _, _, _, _, _, _, _, _, rfl, Ex.refl H'⟩ (fun i σ H2 hi pv => ?_) fun σ H2 pv => ?_
    · obtain ⟨x10, x11, x12, x13, x14, x15, x16, x17, x18, rfl, e2⟩ := pv
      have E2 := e.trans e2
      have hlp2 := E2 _ _ hlp8
      have hvp : 0 < (vp.length : Int) := by omega
      have pick : ∀ m : Int, 0 ≤ m → m < (vp.length : Int) → ∃ p u, atI vp m = some (.ref u) ∧ p ∈ allP k n ∧ H2 u = some (.tup (p.map V.int)) := by
        intro m h0 h1
        obtain ⟨m', rfl⟩ : ∃ m' : Nat, m = m' := ⟨m.toNat, by omega⟩
        have hm : m' < vp.length := by omega
        have hv : vp[m']? = some vp[m'] := List.getElem?_eq_getElem hm
        obtain ⟨dd, hdd, td⟩ := (tvp8.mk E2).get hv
        rw [List.getElem?_map, Option.map_eq_some_iff] at hdd
        obtain ⟨p, hpp, rfl⟩ := hdd
        obtain ⟨u, hu, ht⟩ := td_ti td
        rw [hu] at hv
        exact ⟨p, u, atI_nat hv, List.mem_of_getElem? hpp, ht⟩
      refine ⟨_, rfl, _, rfl, _, rfl, lp, vp, rfl, .inl (.of hlp2), d, _, rfl, hd8.mk E2, hvp, fun m1 h01 h11 => ?_⟩
      obtain ⟨p1, u1, hat1, hp1, hu1⟩ := pick m1 h01 h11
      refine ⟨lp, vp, m1, .ref u1, rfl, rfl, .of hlp2, hat1, ?_⟩
      refine ⟨_, rfl, _, rfl, _, rfl, lp, vp, rfl, .inl (.of hlp2), d, _, rfl, hd8.mk E2, hvp, fun m2 h02 h12 => ?_⟩
      obtain ⟨p2, u2, hat2, hp2, hu2⟩ := pick m2 h02 h12
      refine ⟨lp, vp, m2, .ref u2, rfl, rfl, .of hlp2, hat2, ?_⟩
      have q1 := hpos p1 hp1
      have q2 := hpos p2 hp2
      obtain ⟨r1, a1, hd1, hr1, hrep1⟩ := nm_at (hB.mk E2) hp1
      obtain ⟨r2, a2, hd2, hr2, hrep2⟩ := nm_at (hB.mk E2) hp2
      refine ⟨_, rfl, _, rfl, B, .ref a1, rfl, hd1 _ hu1, _, rfl, _, rfl, B, .ref a2, rfl, hd2 _ hu2, dTI r1, dTI r2, (td_ti' hr1).dp, (td_ti' hr2).dp, shp_ti _, shp_ti _, ?_⟩
      rw [eqv_ti]
      have hsame : ∀ b : Bool, (b = true ↔ repF ws (allP k n) p1 = repF ws (allP k n) p2) → b = decide (r1 = r2) := fun b h => by
        rw [hrep1, hrep2] at h
        rw [Bool.eq_iff_iff, h, decide_eq_true_iff]
        exact ⟨fun h => Option.some.inj h, fun h => by rw [h]⟩
      refine ⟨_, rfl, _, rfl, _, rfl, gv, u1, u2, p1, p2, k, gws ws, rfl, GameV.mk hgv8 E2, .inr hu1, .inr hu2, by rw [gl]; exact q1.1, by rw [gl]; exact q2.1, q1.2, q2.2, gm, fun b1 H3 e3 hb1 => ?_⟩
      refine ⟨_, rfl, _, rfl, _, rfl, gv, u2, u1, p2, p1, k, gws ws, rfl, GameV.mk hgv8 (E2.trans e3), .inr (e3 _ _ hu2), .inr (e3 _ _ hu1), by rw [gl]; exact q2.1, by rw [gl]; exact q1.1, q2.2, q1.2, gm, fun b2 H4 e4 hb2 => ?_⟩
      have f1 := hsame b1 (hb1.trans ((rep_box hok hwl q1 q2).symm.trans eq_comm))
      have f2 := hsame b2 (hb2.trans (rep_box hok hwl q2 q1).symm)
      subst f1
      subst f2
      refine ⟨line_ok (by simp), fun l5 hl5 => ?_⟩
      have e5 := Ex.new (o := .lst [.bl (decide (r1 = r2)), .bl (decide (r1 = r2))]) hl5
      refine ⟨_, rfl, _, rfl, line_ok (by simp), fun l6 hl6 => ?_⟩
      have e6 := Ex.new (o := .lst [.bl (decide (r1 = r2)), .bl (decide (r1 = r2))]) hl6
      have hsm : Sm (.list [.bool (decide (r1 = r2)), .bool (decide (r1 = r2))]) 4 70000 := ((SmA.of (e := 0) (w := 0) (ds := [.bool (decide (r1 = r2)), .bool (decide (r1 = r2))]) fun x hx => by
        have : x = .bool (decide (r1 = r2)) := by simpa using hx
        rw [this]
        exact sm_bl _).lst).mono (by decide) (by simp)
      have E6 : Ex H2 _ := ((e3.trans e4).trans e5).trans e6
      have hbls : TdA H4 [.bl (decide (r1 = r2)), .bl (decide (r1 = r2))] [.bool (decide (r1 = r2)), .bool (decide (r1 = r2))] := .cons (.bl _) (.cons (.bl _) .nil)
      refine ⟨.ref l5, .ref l6, _, rfl, .inr ⟨_, rfl, l5, _, rfl, e6 _ _ upd_same, (hbls.mk e5).mk e6⟩, .inr ⟨_, rfl, l6, _, rfl, upd_same, (hbls.mk e5).mk e6⟩, .inr ⟨_, _, rfl, rfl⟩, hsm, true, rfl, ?_⟩
      refine iteF ?_
      refine ⟨_, rfl, _, 3, rfl, rfl, _, rfl, ?_⟩
      have E7 := E2.trans E6
      have e27 := e2.trans E6
      refine ite2 (fun _ => ?_) fun _ => ?_
      · have hu2' := E6 _ _ hu2
        obtain ⟨bb, hdb, hbb⟩ := bx_at (hbx.mk e27) hp2
        refine ⟨_, rfl, _, rfl, _, rfl, _, rfl, _, rfl, _, rfl, X, .ref bb, rfl, hdb _ hu2', gv, wv, u2, bb, p2, k, ws, rfl, GameV.mk hgv8 E7, hwv8.mk E7, hu2', hbb, hk3, hk5, by omega, hok, by rw [hwl]; exact q2.1, q2.2, fun H7 e7 => ?_⟩
        refine ⟨true, rfl, ?_⟩
        refine iteF ?_
        exact ⟨_, _, _, _, _, _, _, _, _, rfl, e27.trans e7⟩
      · refine iteF ?_
        exact ⟨_, _, _, _, _, _, _, _, _, rfl, e27⟩
    · obtain ⟨x10, x11, x12, x13, x14, x15, x16, x17, x18, rfl, e2⟩ := pv
      exact q H2


end
end K07
end K07_part_W13

section K07_part_Head
set_option Elab.async false
set_option linter.all false
set_option maxRecDepth 100000
set_option maxHeartbeats 0
namespace K07H
open PySem PySem.Spec PyProof.Rows L2
abbrev top := K07.top
abbrev dOf (a : PySem.Str × Option PySem.Str) (x q : PySem.Str) (s : Stmt) : He.DefD := ⟨a, x, q, defArgs s, defBody s, defScope s, [], []⟩

def d0 : He.DefD := dOf ("is_integer", none) "is_integer" "is_integer" (top 13)
-- d0 is_integer
def d1 : He.DefD := dOf ("is_below", none) "is_below" "is_below" (top 14)
-- d1 is_below
def d2 : He.DefD := dOf ("check_pegs", none) "check_pegs" "check_pegs" (top 15)
-- d2 check_pegs
def d3 : He.DefD := dOf ("set_of", none) "set_of" "set_of" (top 17)
-- d3 set_of
def d4 : He.DefD := dOf ("mark_of", none) "mark_of" "mark_of" (top 18)
-- d4 mark_of
def d5 : He.DefD := dOf ("arrow_of", none) "arrow_of" "arrow_of" (top 19)
-- d5 arrow_of
def d6 : He.DefD := dOf ("meets", none) "meets" "meets" (top 20)
-- d6 meets
def d7 : He.DefD := dOf ("Web", some "__init__") "__init__" "Web.__init__" (inClass (top 23) 0)
-- d7 Web.__init__
def d8 : He.DefD := dOf ("Web", some "__eq__") "__eq__" "Web.__eq__" (inClass (top 23) 16)
-- d8 Web.__eq__
def d9 : He.DefD := dOf ("costs_of", none) "costs_of" "costs_of" (top 24)
-- d9 costs_of
def d10 : He.DefD := dOf ("Game", some "__init__") "__init__" "Game.__init__" (inClass (top 33) 0)
-- d10 Game.__init__
def d11 : He.DefD := dOf ("Game", some "lower") "lower" "Game.lower" (inClass (top 33) 8)
-- d11 Game.lower
def d12 : He.DefD := dOf ("Game", some "guards") "guards" "Game.guards" (inClass (top 33) 14)
-- d12 Game.guards
def d13 : He.DefD := dOf ("Game", some "__eq__") "__eq__" "Game.__eq__" (inClass (top 33) 15)
-- d13 Game.__eq__
def d14 : He.DefD := dOf ("check_game", none) "check_game" "check_game" (top 34)
-- d14 check_game
def d15 : He.DefD := dOf ("check_position", none) "check_position" "check_position" (top 35)
-- d15 check_position
def d16 : He.DefD := dOf ("led", none) "led" "led" (top 37)
-- d16 led
def d17 : He.DefD := dOf ("tied_by", none) "tied_by" "tied_by" (top 38)
-- d17 tied_by
def d18 : He.DefD := dOf ("ends_of", none) "ends_of" "ends_of" (top 39)
-- d18 ends_of
def d19 : He.DefD := dOf ("sets_at", none) "sets_at" "sets_at" (top 41)
-- d19 sets_at
def d20 : He.DefD := dOf ("sets_of", none) "sets_of" "sets_of" (top 42)
-- d20 sets_of
def d21 : He.DefD := dOf ("many_in", none) "many_in" "many_in" (top 43)
-- d21 many_in
def d22 : He.DefD := dOf ("room_size", none) "room_size" "room_size" (top 44)
-- d22 room_size
def d23 : He.DefD := dOf ("is_within", none) "is_within" "is_within" (top 45)
-- d23 is_within
def d24 : He.DefD := dOf ("in_room", none) "in_room" "in_room" (top 46)
-- d24 in_room
def d25 : He.DefD := dOf ("towers_in", none) "towers_in" "towers_in" (top 47)
-- d25 towers_in
def d26 : He.DefD := dOf ("_law_draws", none) "_law_draws" "_law_draws" (top 49)
-- d26 _law_draws
def d27 : He.DefD := dOf ("_law_take", none) "_law_take" "_law_take" (top 50)
-- d27 _law_take
def d28 : He.DefD := dOf ("_law_is_int", none) "_law_is_int" "_law_is_int" (top 51)
-- d28 _law_is_int
def d29 : He.DefD := dOf ("_law_is_row", none) "_law_is_row" "_law_is_row" (top 52)
-- d29 _law_is_row
def d30 : He.DefD := dOf ("_law_is_pegs", none) "_law_is_pegs" "_law_is_pegs" (top 53)
-- d30 _law_is_pegs
def d31 : He.DefD := dOf ("_law_guards", none) "_law_guards" "_law_guards" (top 54)
-- d31 _law_guards
def d32 : He.DefD := dOf ("_law_guard", none) "_law_guard" "_law_guard" (top 55)
-- d32 _law_guard
def d33 : He.DefD := dOf ("_law_cost", none) "_law_cost" "_law_cost" (top 56)
-- d33 _law_cost
def d34 : He.DefD := dOf ("_law_pairs", none) "_law_pairs" "_law_pairs" (top 57)
-- d34 _law_pairs
def d35 : He.DefD := dOf ("_law_web", none) "_law_web" "_law_web" (top 58)
-- d35 _law_web
def d36 : He.DefD := dOf ("_law_kind", none) "_law_kind" "_law_kind" (top 59)
-- d36 _law_kind
def d37 : He.DefD := dOf ("_law_webs", none) "_law_webs" "_law_webs" (top 60)
-- d37 _law_webs
def d38 : He.DefD := dOf ("_law_sizes", none) "_law_sizes" "_law_sizes" (top 61)
-- d38 _law_sizes
def d39 : He.DefD := dOf ("_law_built", none) "_law_built" "_law_built" (top 62)
-- d39 _law_built
def d40 : He.DefD := dOf ("_law_open", none) "_law_open" "_law_open" (top 63)
-- d40 _law_open
def d41 : He.DefD := dOf ("_law_behind", none) "_law_behind" "_law_behind" (top 64)
-- d41 _law_behind
def d42 : He.DefD := dOf ("_law_costs", none) "_law_costs" "_law_costs" (top 65)
-- d42 _law_costs
def d43 : He.DefD := dOf ("_law_leads", none) "_law_leads" "_law_leads" (top 66)
-- d43 _law_leads
def d44 : He.DefD := dOf ("_law_all", none) "_law_all" "_law_all" (top 67)
-- d44 _law_all
def d45 : He.DefD := dOf ("_law_box_rows", none) "_law_box_rows" "_law_box_rows" (top 68)
-- d45 _law_box_rows
def d46 : He.DefD := dOf ("_law_room", none) "_law_room" "_law_room" (top 69)
-- d46 _law_room
def d47 : He.DefD := dOf ("_law_like", none) "_law_like" "_law_like" (top 70)
-- d47 _law_like
def d48 : He.DefD := dOf ("_law_room_names", none) "_law_room_names" "_law_room_names" (top 71)
-- d48 _law_room_names
def d49 : He.DefD := dOf ("_law_common", none) "_law_common" "_law_common" (top 72)
-- d49 _law_common
def d50 : He.DefD := dOf ("_law_lesser_agree", none) "_law_lesser_agree" "_law_lesser_agree" (top 73)
-- d50 _law_lesser_agree
def d51 : He.DefD := dOf ("law", none) "law" "law" (top 74)
-- d51 law
def fn0 : List He.DefD := [d0, d1, d2, d3, d4, d5, d6, d7, d8, d9, d10, d11]
def fn1 : List He.DefD := [d12, d13, d14, d15, d16, d17, d18, d19, d20, d21, d22, d23]
def fn2 : List He.DefD := [d24, d25, d26, d27, d28, d29, d30, d31, d32, d33, d34, d35]
def fn3 : List He.DefD := [d36, d37, d38, d39, d40, d41, d42, d43, d44, d45, d46, d47]
def fn4 : List He.DefD := [d48, d49, d50, d51]
def fn : List He.DefD := fn0 ++ fn1 ++ fn2 ++ fn3 ++ fn4
def fa0 : List He.Fa := [.glo "is_integer", .glo "is_below", .glo "check_pegs", .glo "set_of", .glo "mark_of", .glo "arrow_of", .glo "meets", .glo "costs_of", .glo "check_game", .glo "check_position", .glo "led", .glo "tied_by"]
def fa1 : List He.Fa := [.glo "ends_of", .glo "sets_at", .glo "sets_of", .glo "many_in", .glo "room_size", .glo "is_within", .glo "in_room", .glo "towers_in", .glo "_law_draws", .glo "_law_take", .glo "_law_is_int", .glo "_law_is_row"]
def fa2 : List He.Fa := [.glo "_law_is_pegs", .glo "_law_guards", .glo "_law_guard", .glo "_law_cost", .glo "_law_pairs", .glo "_law_web", .glo "_law_kind", .glo "_law_webs", .glo "_law_sizes", .glo "_law_built", .glo "_law_open", .glo "_law_behind"]
def fa3 : List He.Fa := [.glo "_law_costs", .glo "_law_leads", .glo "_law_all", .glo "_law_box_rows", .glo "_law_room", .glo "_law_like", .glo "_law_room_names", .glo "_law_common", .glo "_law_lesser_agree", .glo "law", .glo "Web", .glo "Game"]
def fa4 : List He.Fa := [.free "all", .free "enumerate", .free "int", .free "isinstance", .free "len", .free "list", .free "min", .free "range", .free "repr", .free "set", .free "sorted", .free "tuple"]
def fa5 : List He.Fa := [.free "zip", .free "bool", .int "MOST_COST" 1000000000000000000000000000000000000000000000000000000000000, .int "MOST_DISCS" 40, .cls "Web", .mkr "Web", .noat "Web" "pegs", .noat "Web" "_costs", .noat "Web" "arrows", .cls "Game", .mkr "Game", .noat "Game" "pegs"]
def fa6 : List He.Fa := [.noat "Game" "webs", .noat "Game" "discs", .meth "Web" "__eq__", .meth "Game" "__eq__", .meth "Game" "guards", .meth "Game" "lower"]
def fa : List He.Fa := fa0 ++ fa1 ++ fa2 ++ fa3 ++ fa4 ++ fa5 ++ fa6
/-- what an own class answers of its own class -/
def insB (K : PySem.W.Frag) (x : PySem.Str) : Bool := He.eqO (PySem.W.findIn K (.ref (He.ga K x)) "__class__") (some (some (.builtin "object.__class__"))) &&
  (He.eqO (PySem.W.specialIn K (.builtin "object.__class__") "__get__") (some (some (.builtin "getset_descriptor.__get__"))) &&
  (decide (PySem.W.takesIn K (.builtin "object.__class__") = some true) && decide (PySem.W.mroIn K (He.ga K x) (.type "object") = some true)))
/-- no list among what is known -/
def noLB (K : PySem.W.Frag) : Bool := K.all fun p => match p.2.cls with
  | .type n => !(n == "list")
  | _ => true
theorem noLB_ok {K : PySem.W.Frag} (h : noLB K = true) (a : Addr) (o : Obj) (l : K.lookup a = some o) : o.cls ≠ .type "list" := by
  intro e
  have mem : ∀ K : List (Addr × Obj), K.lookup a = some o → (a, o) ∈ K := by
    intro K
    induction K with
    | nil => intro z; cases z
    | cons p K ih =>
      intro z
      obtain ⟨b, u⟩ := p
      rw [List.lookup_cons] at z
      cases hb : a == b with
      | true =>
        rw [hb] at z
        have e1 : a = b := by simpa using hb
        cases z
        rw [e1]
        exact List.mem_cons_self
      | false =>
        rw [hb] at z
        exact List.mem_cons_of_mem _ (ih z)
  have := List.all_eq_true.mp h _ (mem K l)
  rw [e] at this
  simp at this
def moreB (K : PySem.W.Frag) : Bool := insB K "Web" && (insB K "Game" && noLB K)
/-! ### a compact fragment: the module's names, what they name, the classes' dicts, their defs, the code objects -/
def refsG (g : Addr → Option Obj) (as : List Addr) : List Addr := as.flatMap fun a => match g a with
  | some o => He.refsO o
  | none => []
def gloN : List PySem.Str := (fn.filterMap fun d => match d.at_.2 with
  | none => some d.at_.1
  | some _ => none) ++ [("Web" : PySem.Str), "Game"]
def metN : List (PySem.Str × PySem.Str) := fn.filterMap fun d => match d.at_.2 with
  | none => none
  | some m => some (d.at_.1, m)
def forceA {α : Type} : List Addr → (List Addr → α) → α
  | [], k => k []
  | a :: r, k => HandSHeadRun.frNat a fun a => forceA r fun l => k (a :: l)
theorem forceA_eq {α : Type} : ∀ (as : List Addr) (k : List Addr → α), forceA as k = k as
  | [], _ => rfl
  | a :: r, k => by
    show HandSHeadRun.frNat a (fun a => forceA r fun l => k (a :: l)) = _
    rw [HandSHeadRun.frNat_eq, forceA_eq r]
def frG1 {α : Type} (g : Addr → Option Obj) : List Addr → (PySem.W.Frag → α) → α
  | [], k => k []
  | a :: r, k => HandSHeadRun.frNat a fun a => match g a with
    | some o => frG1 g r fun l => k ((a, o) :: l)
    | none => frG1 g r k
theorem frG1_eq {α : Type} (g : Addr → Option Obj) : ∀ (as : List Addr) (k : PySem.W.Frag → α), frG1 g as k = k (He.frG g as)
  | [], _ => rfl
  | a :: r, k => by
    show HandSHeadRun.frNat a (fun a => match g a with
      | some o => frG1 g r fun l => k ((a, o) :: l)
      | none => frG1 g r k) = _
    rw [HandSHeadRun.frNat_eq]
    unfold He.frG
    rw [List.filterMap_cons]
    cases e : g a with
    | none => exact frG1_eq g r k
    | some o => exact frG1_eq g r _
/-- the fragment, step by step -/
def withK {α : Type} (g : Addr → Option Obj) (k : PySem.W.Frag → α) : α :=
  frG1 g [mainGlobals] fun K1 => forceA (gloN.map (He.ga K1)) fun a2 => forceA (refsG g a2) fun a3 =>
  frG1 g (mainGlobals :: a2 ++ a3) fun K2 => forceA (metN.map fun p => He.ma K2 (He.ga K2 p.1) p.2) fun a4 => forceA (refsG g a4) fun a5 =>
  frG1 g (mainGlobals :: a2 ++ a3 ++ a4 ++ a5) k
theorem withK_is {α : Type} (g : Addr → Option Obj) (k : PySem.W.Frag → α) : ∃ as, withK g k = k (He.frG g as) := by
  unfold withK
  simp only [frG1_eq, forceA_eq]
  exact ⟨_, rfl⟩
abbrev AlX : Type := Bool × He.AlD
def obsX (K : PySem.W.Frag) : AlX := (moreB K, He.obsD fa fn K)
def valX : AlX := (true, He.valD fn)
def SaysX (K : PySem.W.Frag) : Prop := obsX K = valX
def hookX : PySem.W.Hook where
  α := AlX
  obs := fun s => withK s.heap.get? obsX
  val := fun _ => valX
  says := fun _ h => ∃ K : PySem.W.Frag, K.In h ∧ SaysX K
  of := fun _ s e => by
    obtain ⟨as, e2⟩ := withK_is s.heap.get? obsX
    exact ⟨He.frG s.heap.get? as, He.frG_in, e2.symm.trans e⟩
  keeps := fun _ _ _ ⟨K, hK, c⟩ k => ⟨K, PySem.W.Frag.In.keeps hK k, c⟩
def ob (s : PySem.W.SharedT) : AlX := withK (HandSHeadRun.getT s) obsX
theorem ob_eq (s : PySem.W.SharedT) : ob s = hookX.obs s.abs := by
  have e : HandSHeadRun.getT s = s.abs.heap.get? := funext (HandSHeadRun.getT_eq s)
  unfold ob
  rw [e] <;> rfl
abbrev R : PySem.W.OpenRow := PySem.W.OpenLaw.row PySem.Challenge.rw_pegwebs_k07_whole_rooms_part_all

def names : List PySem.Str := [("_wall" : PySem.Str), ("PegError" : PySem.Str), ("BadNumber" : PySem.Str), ("BadArrow" : PySem.Str), ("BadWeb" : PySem.Str), ("BadPosition" : PySem.Str), ("NoArrow" : PySem.Str), ("OtherPegs" : PySem.Str), ("OtherGame" : PySem.Str), ("BadText" : PySem.Str), ("MOST_COST" : PySem.Str), ("is_integer" : PySem.Str)] ++ [("is_below" : PySem.Str), ("check_pegs" : PySem.Str), ("check_cost" : PySem.Str), ("set_of" : PySem.Str), ("mark_of" : PySem.Str), ("arrow_of" : PySem.Str), ("meets" : PySem.Str), ("number_in" : PySem.Str), ("Web" : PySem.Str), ("costs_of" : PySem.Str), ("least_of" : PySem.Str), ("pair_of" : PySem.Str)] ++ [("rows_of" : PySem.Str), ("pegs_in" : PySem.Str), ("arrow_in" : PySem.Str), ("row_of" : PySem.Str), ("MOST_DISCS" : PySem.Str), ("Game" : PySem.Str), ("check_game" : PySem.Str), ("check_position" : PySem.Str), ("led" : PySem.Str), ("tied_by" : PySem.Str), ("ends_of" : PySem.Str), ("sets_at" : PySem.Str)] ++ [("sets_of" : PySem.Str), ("many_in" : PySem.Str), ("room_size" : PySem.Str), ("is_within" : PySem.Str), ("in_room" : PySem.Str), ("towers_in" : PySem.Str), ("_law_draws" : PySem.Str), ("_law_take" : PySem.Str), ("_law_is_int" : PySem.Str), ("_law_is_row" : PySem.Str), ("_law_is_pegs" : PySem.Str), ("_law_guards" : PySem.Str)] ++ [("_law_guard" : PySem.Str), ("_law_cost" : PySem.Str), ("_law_pairs" : PySem.Str), ("_law_web" : PySem.Str), ("_law_kind" : PySem.Str), ("_law_webs" : PySem.Str), ("_law_sizes" : PySem.Str), ("_law_built" : PySem.Str), ("_law_open" : PySem.Str), ("_law_behind" : PySem.Str), ("_law_costs" : PySem.Str), ("_law_leads" : PySem.Str)] ++ [("_law_all" : PySem.Str), ("_law_box_rows" : PySem.Str), ("_law_room" : PySem.Str), ("_law_like" : PySem.Str), ("_law_room_names" : PySem.Str), ("_law_common" : PySem.Str), ("_law_lesser_agree" : PySem.Str)]
theorem run (w : World) : HandSHeadRun.RunEq R (PySem.W.view R.prog [74]) hookX ob 20000 names w := by
  intro os
  kernel_rfl
end K07H
end K07_part_Head

section K07_part_End
set_option Elab.async false
set_option linter.all false
set_option maxRecDepth 100000
set_option maxHeartbeats 4000000
namespace K07H
open PySem PySem.Spec PyProof.Rows L2 K07
section
variable {P : Program} {w : World} {K : PySem.W.Frag} {h base : Heap} {mg : Str → Option Value}
theorem says1 (c : SaysX K) : He.SaysD fa fn K := congrArg (fun z : AlX => z.2) c
theorem says2 (c : SaysX K) : insB K "Web" = true ∧ insB K "Game" = true ∧ noLB K = true := by
  have z : (insB K "Web" && (insB K "Game" && noLB K)) = true := congrArg (fun z : AlX => z.1) c
  rw [Bool.and_eq_true, Bool.and_eq_true] at z
  exact z
theorem insB_ok {x : Str} (z : insB K x = true) (c : Cls K (He.ga K x)) : ClsF K (He.ga K x) := by
  obtain ⟨a, z⟩ := He.ba z
  obtain ⟨b, z⟩ := He.ba z
  obtain ⟨d, e⟩ := He.ba z
  exact ⟨c, He.eqO_ok a, He.eqO_ok b, of_decide_eq_true d, of_decide_eq_true e⟩
theorem def_at {x : Str} {st : Stmt} (X : K.In h) (G : h.Ns mainGlobals mg) (c : SaysX K) (i j : Nat) (hd : fn[i]? = some (dOf (x, none) x x st)) (hf : fa[j]? = some (.glo x)) : Def K mg x st := by
  obtain ⟨fd, F⟩ := (says1 c).def_ i hd
  exact ⟨_, fd, He5.fun_of F, He.glo_ok X G ((says1 c).fact j hf)⟩
theorem meth_at {C m qual : Str} {st : Stmt} (c : SaysX K) (i : Nat) (hd : fn[i]? = some (dOf (C, some m) m qual st)) : DefM K m qual st (He.ma K (He.ga K C) m) := by
  obtain ⟨fd, F⟩ := (says1 c).def_ i hd
  exact ⟨fd, He5.fun_of F⟩
theorem eq_at {C : Str} (c : SaysX K) (i : Nat) (hd : fa[i]? = some (.meth C "__eq__")) : PySem.W.findIn K (.ref (He.ga K C)) "__eq__" = some (some (.ref (He.ma K (He.ga K C) "__eq__"))) ∧ PySem.W.isFn K (.ref (He.ma K (He.ga K C) "__eq__")) = true := by
  have z := (says1 c).fact i hd
  obtain ⟨a, z⟩ := He.ba z
  obtain ⟨b, _⟩ := He.ba z
  exact ⟨He.eqO_ok a, b⟩
theorem law_cal (X : K.In h) (G : h.Ns mainGlobals mg) (c : SaysX K) : CalG P w K mg base 11 "law" ["_law_script"] (sp_law P w (He.ga K "Web") (He.ga K "Game")) := by
  have c1 := says1 c
  obtain ⟨cw, cg, _⟩ := says2 c
  have T : Glb K mg (He.ga K "Web") (He.ga K "Game") := ⟨⟨He.free_ok X G (c1.fact 48 (f := .free "all") rfl), He.free_ok X G (c1.fact 49 (f := .free "enumerate") rfl), He.free_ok X G (c1.fact 50 (f := .free "int") rfl), He.free_ok X G (c1.fact 51 (f := .free "isinstance") rfl), He.free_ok X G (c1.fact 52 (f := .free "len") rfl), He.free_ok X G (c1.fact 53 (f := .free "list") rfl), He.free_ok X G (c1.fact 54 (f := .free "min") rfl), He.free_ok X G (c1.fact 55 (f := .free "range") rfl), He.free_ok X G (c1.fact 56 (f := .free "repr") rfl), He.free_ok X G (c1.fact 57 (f := .free "set") rfl), He.free_ok X G (c1.fact 58 (f := .free "sorted") rfl), He.free_ok X G (c1.fact 59 (f := .free "tuple") rfl), He.free_ok X G (c1.fact 60 (f := .free "zip") rfl), He.free_ok X G (c1.fact 61 (f := .free "bool") rfl)⟩, by
    obtain ⟨t, e⟩ := He.int_ok X G (c1.fact 62 (f := .int "MOST_COST" 1000000000000000000000000000000000000000000000000000000000000) rfl)
    exact ⟨t, e⟩, by
    obtain ⟨t, e⟩ := He.int_ok X G (c1.fact 63 (f := .int "MOST_DISCS" 40) rfl)
    exact ⟨t, e⟩, He.glo_ok X G (c1.fact 46 (f := .glo "Web") rfl), He.glo_ok X G (c1.fact 47 (f := .glo "Game") rfl), insB_ok cw (He.cls_ok (c1.fact 64 (f := .cls "Web") rfl)), insB_ok cg (He.cls_ok (c1.fact 69 (f := .cls "Game") rfl)), He.noat_ok (c1.fact 66 (f := .noat "Web" "pegs") rfl), He.noat_ok (c1.fact 67 (f := .noat "Web" "_costs") rfl), He.noat_ok (c1.fact 68 (f := .noat "Web" "arrows") rfl), He.noat_ok (c1.fact 71 (f := .noat "Game" "pegs") rfl), He.noat_ok (c1.fact 72 (f := .noat "Game" "webs") rfl), He.noat_ok (c1.fact 73 (f := .noat "Game" "discs") rfl)⟩
  have D_led : Def K mg "led" sled := def_at X G c 16 10 rfl rfl
  have c_led := w_led (P := P) (w := w) (base := base) T D_led
  have D_ends_of : Def K mg "ends_of" sends_of := def_at X G c 18 12 rfl rfl
  have c_ends_of := w_ends_of (P := P) (w := w) (base := base) T D_ends_of
  have D_meets : Def K mg "meets" smeets := def_at X G c 6 6 rfl rfl
  have c_meets := w_meets (P := P) (w := w) (base := base) T D_meets
  have D_tied_by : Def K mg "tied_by" stied_by := def_at X G c 17 11 rfl rfl
  have c_tied_by := w_tied_by (P := P) (w := w) (base := base) T D_tied_by c_led
  have D_is_integer : Def K mg "is_integer" sis_integer := def_at X G c 0 0 rfl rfl
  have c_is_integer := w_is_integer (P := P) (w := w) (base := base) T D_is_integer
  have D_is_below : Def K mg "is_below" sis_below := def_at X G c 1 1 rfl rfl
  have c_is_below := w_is_below (P := P) (w := w) (base := base) T D_is_below c_is_integer
  have D_check_pegs : Def K mg "check_pegs" scheck_pegs := def_at X G c 2 2 rfl rfl
  have c_check_pegs := w_check_pegs (P := P) (w := w) (base := base) T D_check_pegs c_is_integer
  have D_set_of : Def K mg "set_of" sset_of := def_at X G c 3 3 rfl rfl
  have c_set_of := w_set_of (P := P) (w := w) (base := base) T D_set_of c_is_below
  have D_mark_of : Def K mg "mark_of" smark_of := def_at X G c 4 4 rfl rfl
  have c_mark_of := w_mark_of (P := P) (w := w) (base := base) T D_mark_of c_is_below c_set_of
  have D_arrow_of : Def K mg "arrow_of" sarrow_of := def_at X G c 5 5 rfl rfl
  have c_arrow_of := w_arrow_of (P := P) (w := w) (base := base) T D_arrow_of c_mark_of c_is_integer
  have D_costs_of : Def K mg "costs_of" scosts_of := def_at X G c 9 7 rfl rfl
  have c_costs_of := w_costs_of (P := P) (w := w) (base := base) T D_costs_of c_arrow_of
  have D_Web_init : DefM K "__init__" "Web.__init__" sWeb_init (He.ma K (He.ga K "Web") "__init__") := meth_at c 7 rfl
  have F_Web_init := w_Web_init (P := P) (w := w) (base := base) T D_Web_init c_check_pegs c_costs_of
  have c_Web_init : CalI P w K mg base 7 "Web" (He.ga K "Web") ["self", "pegs", "arrows"] (sp_Web_init P w (He.ga K "Web") (He.ga K "Game")) := by
    obtain ⟨fd, F, b⟩ := F_Web_init
    exact ⟨⟨_, fd, F, He.mkr_ok (c1.fact 65 (f := .mkr "Web") rfl), b⟩, He.glo_ok X G (c1.fact 46 (f := .glo "Web") rfl)⟩
  have D_Web_eq : DefM K "__eq__" "Web.__eq__" sWeb_eq (He.ma K (He.ga K "Web") "__eq__") := meth_at c 8 rfl
  have F_Web_eq := w_Web_eq (P := P) (w := w) (base := base) T D_Web_eq
  have c_Web_eq : CalE P w K mg base 1 (He.ga K "Web") ["self", "other"] (sp_Web_eq P w (He.ga K "Web") (He.ga K "Game")) := by
    obtain ⟨fd, F, b⟩ := F_Web_eq
    obtain ⟨e1, e2⟩ := eq_at c 74 rfl
    exact ⟨⟨_, fd, F, e1, e2, b⟩⟩
  have D_check_game : Def K mg "check_game" scheck_game := def_at X G c 14 8 rfl rfl
  have c_check_game := w_check_game (P := P) (w := w) (base := base) T D_check_game
  have D_check_position : Def K mg "check_position" scheck_position := def_at X G c 15 9 rfl rfl
  have c_check_position := w_check_position (P := P) (w := w) (base := base) T D_check_position c_check_game c_is_below
  have D_Game_init : DefM K "__init__" "Game.__init__" sGame_init (He.ma K (He.ga K "Game") "__init__") := meth_at c 10 rfl
  have F_Game_init := w_Game_init (P := P) (w := w) (base := base) T D_Game_init c_check_pegs
  have c_Game_init : CalI P w K mg base 3 "Game" (He.ga K "Game") ["self", "pegs", "webs"] (sp_Game_init P w (He.ga K "Web") (He.ga K "Game")) := by
    obtain ⟨fd, F, b⟩ := F_Game_init
    exact ⟨⟨_, fd, F, He.mkr_ok (c1.fact 70 (f := .mkr "Game") rfl), b⟩, He.glo_ok X G (c1.fact 47 (f := .glo "Game") rfl)⟩
  have D_Game_eq : DefM K "__eq__" "Game.__eq__" sGame_eq (He.ma K (He.ga K "Game") "__eq__") := meth_at c 13 rfl
  have F_Game_eq := w_Game_eq (P := P) (w := w) (base := base) T D_Game_eq c_Web_eq
  have c_Game_eq : CalE P w K mg base 3 (He.ga K "Game") ["self", "other"] (sp_Game_eq P w (He.ga K "Web") (He.ga K "Game")) := by
    obtain ⟨fd, F, b⟩ := F_Game_eq
    obtain ⟨e1, e2⟩ := eq_at c 75 rfl
    exact ⟨⟨_, fd, F, e1, e2, b⟩⟩
  have D_Game_lower : DefM K "lower" "Game.lower" sGame_lower (He.ma K (He.ga K "Game") "lower") := meth_at c 11 rfl
  have F_Game_lower := w_Game_lower (P := P) (w := w) (base := base) T D_Game_lower c_is_below c_Game_init
  have c_Game_lower : CalM P w K mg base 5 (He.ga K "Game") "lower" ["self", "many"] (sp_Game_lower P w (He.ga K "Web") (He.ga K "Game")) := by
    obtain ⟨fd, F, b⟩ := F_Game_lower
    exact ⟨⟨_, fd, F, He.meth_ok (c1.fact 77 (f := .meth "Game" "lower") rfl), b⟩, He.cls_ok (c1.fact 69 (f := .cls "Game") rfl)⟩
  have D_Game_guards : DefM K "guards" "Game.guards" sGame_guards (He.ma K (He.ga K "Game") "guards") := meth_at c 12 rfl
  have F_Game_guards := w_Game_guards (P := P) (w := w) (base := base) T D_Game_guards
  have c_Game_guards : CalM P w K mg base 1 (He.ga K "Game") "guards" ["self"] (sp_Game_guards P w (He.ga K "Web") (He.ga K "Game")) := by
    obtain ⟨fd, F, b⟩ := F_Game_guards
    exact ⟨⟨_, fd, F, He.meth_ok (c1.fact 76 (f := .meth "Game" "guards") rfl), b⟩, He.cls_ok (c1.fact 69 (f := .cls "Game") rfl)⟩
  have D_sets_at : Def K mg "sets_at" ssets_at := def_at X G c 19 13 rfl rfl
  have c_sets_at := w_sets_at (P := P) (w := w) (base := base) T D_sets_at c_Game_guards c_tied_by c_ends_of c_meets
  have D_sets_of : Def K mg "sets_of" ssets_of := def_at X G c 20 14 rfl rfl
  have c_sets_of := w_sets_of (P := P) (w := w) (base := base) T D_sets_of c_sets_at c_check_position
  have D_many_in : Def K mg "many_in" smany_in := def_at X G c 21 15 rfl rfl
  have c_many_in := w_many_in (P := P) (w := w) (base := base) T D_many_in
  have D_room_size : Def K mg "room_size" sroom_size := def_at X G c 22 16 rfl rfl
  have c_room_size := w_room_size (P := P) (w := w) (base := base) T D_room_size c_many_in c_sets_of
  have D_is_within : Def K mg "is_within" sis_within := def_at X G c 23 17 rfl rfl
  have c_is_within := w_is_within (P := P) (w := w) (base := base) T D_is_within
  have D_in_room : Def K mg "in_room" sin_room := def_at X G c 24 18 rfl rfl
  have c_in_room := w_in_room (P := P) (w := w) (base := base) T D_in_room c_sets_of c_is_within c_check_position
  have D_towers_in : Def K mg "towers_in" stowers_in := def_at X G c 25 19 rfl rfl
  have c_towers_in := w_towers_in (P := P) (w := w) (base := base) T D_towers_in c_sets_of
  have D__law_draws : Def K mg "_law_draws" s_law_draws := def_at X G c 26 20 rfl rfl
  have c__law_draws := w__law_draws (P := P) (w := w) (base := base) T D__law_draws
  have D__law_take : Def K mg "_law_take" s_law_take := def_at X G c 27 21 rfl rfl
  have c__law_take := w__law_take (P := P) (w := w) (base := base) T D__law_take
  have D__law_is_int : Def K mg "_law_is_int" s_law_is_int := def_at X G c 28 22 rfl rfl
  have c__law_is_int := w__law_is_int (P := P) (w := w) (base := base) T D__law_is_int
  have D__law_is_row : Def K mg "_law_is_row" s_law_is_row := def_at X G c 29 23 rfl rfl
  have c__law_is_row := w__law_is_row (P := P) (w := w) (base := base) T D__law_is_row
  have D__law_is_pegs : Def K mg "_law_is_pegs" s_law_is_pegs := def_at X G c 30 24 rfl rfl
  have c__law_is_pegs := w__law_is_pegs (P := P) (w := w) (base := base) T D__law_is_pegs c__law_is_int
  have D__law_guards : Def K mg "_law_guards" s_law_guards := def_at X G c 31 25 rfl rfl
  have c__law_guards := w__law_guards (P := P) (w := w) (base := base) T D__law_guards
  have D__law_guard : Def K mg "_law_guard" s_law_guard := def_at X G c 32 26 rfl rfl
  have c__law_guard := w__law_guard (P := P) (w := w) (base := base) T D__law_guard c__law_guards c__law_take
  have D__law_cost : Def K mg "_law_cost" s_law_cost := def_at X G c 33 27 rfl rfl
  have c__law_cost := w__law_cost (P := P) (w := w) (base := base) T D__law_cost c__law_take
  have D__law_kind : Def K mg "_law_kind" s_law_kind := def_at X G c 36 30 rfl rfl
  have c__law_kind := w__law_kind (P := P) (w := w) (base := base) T D__law_kind c__law_take
  have D__law_sizes : Def K mg "_law_sizes" s_law_sizes := def_at X G c 38 32 rfl rfl
  have c__law_sizes := w__law_sizes (P := P) (w := w) (base := base) T D__law_sizes c__law_take
  have D__law_pairs : Def K mg "_law_pairs" s_law_pairs := def_at X G c 34 28 rfl rfl
  have c__law_pairs := w__law_pairs (P := P) (w := w) (base := base) T D__law_pairs c__law_take
  have D__law_web : Def K mg "_law_web" s_law_web := def_at X G c 35 29 rfl rfl
  have c__law_web := w__law_web (P := P) (w := w) (base := base) T D__law_web c__law_pairs c__law_guard c__law_cost c__law_take
  have D__law_webs : Def K mg "_law_webs" s_law_webs := def_at X G c 37 31 rfl rfl
  have c__law_webs := w__law_webs (P := P) (w := w) (base := base) T D__law_webs c__law_web c__law_take
  have D__law_built : Def K mg "_law_built" s_law_built := def_at X G c 39 33 rfl rfl
  have c__law_built := w__law_built (P := P) (w := w) (base := base) T D__law_built c_Game_init c_Web_init
  have D__law_open : Def K mg "_law_open" s_law_open := def_at X G c 40 34 rfl rfl
  have c__law_open := w__law_open (P := P) (w := w) (base := base) T D__law_open
  have D__law_behind : Def K mg "_law_behind" s_law_behind := def_at X G c 41 35 rfl rfl
  have c__law_behind := w__law_behind (P := P) (w := w) (base := base) T D__law_behind
  have D__law_all : Def K mg "_law_all" s_law_all := def_at X G c 44 38 rfl rfl
  have c__law_all := w__law_all (P := P) (w := w) (base := base) T D__law_all
  have D__law_box_rows : Def K mg "_law_box_rows" s_law_box_rows := def_at X G c 45 39 rfl rfl
  have c__law_box_rows := w__law_box_rows (P := P) (w := w) (base := base) T D__law_box_rows
  have D__law_common : Def K mg "_law_common" s_law_common := def_at X G c 49 43 rfl rfl
  have c__law_common := w__law_common (P := P) (w := w) (base := base) T D__law_common
  have D__law_costs : Def K mg "_law_costs" s_law_costs := def_at X G c 42 36 rfl rfl
  have c__law_costs := w__law_costs (P := P) (w := w) (base := base) T D__law_costs c__law_open c__law_behind
  have D__law_leads : Def K mg "_law_leads" s_law_leads := def_at X G c 43 37 rfl rfl
  have c__law_leads := w__law_leads (P := P) (w := w) (base := base) T D__law_leads c__law_costs
  have D__law_room : Def K mg "_law_room" s_law_room := def_at X G c 46 40 rfl rfl
  have c__law_room := w__law_room (P := P) (w := w) (base := base) T D__law_room c__law_leads
  have D__law_room_names : Def K mg "_law_room_names" s_law_room_names := def_at X G c 48 42 rfl rfl
  have c__law_room_names := w__law_room_names (P := P) (w := w) (base := base) T D__law_room_names c__law_room
  have D__law_like : Def K mg "_law_like" s_law_like := def_at X G c 47 41 rfl rfl
  have c__law_like := w__law_like (P := P) (w := w) (base := base) T D__law_like
  have D__law_lesser_agree : Def K mg "_law_lesser_agree" s_law_lesser_agree := def_at X G c 50 44 rfl rfl
  have c__law_lesser_agree := w__law_lesser_agree (P := P) (w := w) (base := base) T D__law_lesser_agree c_Game_lower c__law_built c__law_like c_sets_of c_Game_eq
  have D_law : Def K mg "law" slaw := def_at X G c 51 45 rfl rfl
  have c_law := w_law (P := P) (w := w) (base := base) T D_law c__law_draws c__law_take c__law_sizes c__law_kind c__law_webs c__law_built c__law_all c__law_room_names c_sets_of c__law_is_row c__law_like c_room_size c__law_is_pegs c__law_box_rows c_towers_in c__law_common c_in_room c__law_lesser_agree
  exact c_law
end
end K07H
open PySem PySem.W PySem.Calls PyProof.Rows
theorem PySem.Challenge.cw_pegwebs_k07_whole_rooms_part_all_holds : PySem.Challenge.rw_pegwebs_k07_whole_rooms_part_all.Holds := by
  w_on; o_law
  refine HandSHeadRun.head_any (r := K07H.R) (q := view K07H.R.prog [74]) (H := K07H.hookX) (ob := K07H.ob) (M := 20000) (loose := K07H.names) (d := HandSHeadRun.topDef K07H.R.prog 74) (kwd := []) K07H.ob_eq
    (by kernel_rfl) (fun s => by kernel_rfl) K07H.run (by kernel_rfl) (by kernel_rfl) (by kernel_rfl) (by rfl) (by first | assumption | decide +kernel) (by decide +kernel) ⟨rfl, rfl, rfl, rfl, rfl, by decide +kernel⟩ ?hw ?hc
  case hw => w_witness2
  case hc =>
    refine Att.attach_call (l := PySem.Challenge.rw_pegwebs_k07_whole_rooms_part_all) (n := 63) rfl (by kernel_rfl) fun w s₀ s₁ mg mb fa o pm cd doc a vs ns G Y ho hd hcd hmg0 hobj hints hlen hg => ?_
    obtain ⟨K, KX, c⟩ := Y
    have hmg : mg ("law" : PySem.Str) = some (.ref fa) := by
      have e : (HandSHeadRun.topDef K07H.R.prog 74).name = ("law" : PySem.Str) := by kernel_rfl
      rw [← e]
      exact hmg0
    refine K07.lawG (k := 11) (x := "_law_script") (sp := K07.sp_law K07H.R.prog w (He.ga K "Web") (He.ga K "Game")) KX G.T.g G.T.b G.T.builtins G.T.nolimit hg hobj hints (Nat.le_trans hlen (by decide)) ⟨rfl, by decide, by decide⟩ rfl (fun base hb hn => ?_) (K07H.noLB_ok (K07H.says2 c).2.2 a) fun H hr => ⟨a, ns, rfl, hr, fun _ => rfl⟩
    obtain ⟨f, fd, F, g, _, b⟩ := (K07H.law_cal (P := K07H.R.prog) (w := w) (base := base) KX G.T.g c).ex
    have e := hmg.symm.trans g
    cases e
    exact ⟨fd, F, b⟩
end K07_part_End
