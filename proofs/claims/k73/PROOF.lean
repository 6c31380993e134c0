import PyProof.Rows.All
import Wide.All
import OpenK.AllK
import Wide.FinOn
import HandS.ForMost
import HandS.Exc
import HandS.IsInst
import HandS.TupAny
import HandS.WordsExc
import HandS.Style
import HandS.AnyAll
import KE.KExcSuper
import KE.KSuper
import HandS.ExcInit
import HandS.ExcSuper
import HandS.HeadWalk
import HandS.ExcOwn
import PySem.Challenge.RW_onelot_k73_trees_as_texts
import KE.RegKSuper
set_option Elab.async false
set_option linter.all false
set_option maxRecDepth 100000
set_option maxHeartbeats 2000000
/-! DL1: plain data over the abstract heap: what a value stands for (RF), what a slot owns (RO), the state of a body (St). -/
namespace DL
open PySem PySem.Spec PyProof.Rows L2

abbrev AS := Addr → Prop
/-- plain data, without addresses -/
inductive D where
  | non | bl (b : Bool) | int (i : Int) | str (s : Str) | tup (xs : List D) | lst (xs : List D) | dk (ks : List Key) (xs : List D)

mutual
/-- the value v stands for d; no list or dict in it lies in O -/
def RF (H : Hp) (O : AS) : D → V → Prop
  | .non, v => v = .non
  | .bl b, v => v = .bl b
  | .int i, v => v = .int i
  | .str s, v => v = .str s
  | .tup ds, v => ∃ a vs, v = .ref a ∧ H a = some (.tup vs) ∧ RFs H O ds vs
  | .lst ds, v => ∃ a vs, v = .ref a ∧ H a = some (.lst vs) ∧ ¬ O a ∧ RFs H O ds vs
  | .dk ks ds, v => ∃ a vs, v = .ref a ∧ H a = some (.dK (ks.zip vs)) ∧ ¬ O a ∧ vs.length = ks.length ∧ RFs H O ds vs
def RFs (H : Hp) (O : AS) : List D → List V → Prop
  | [], vs => vs = []
  | d :: ds, vs => ∃ v r, vs = v :: r ∧ RF H O d v ∧ RFs H O ds r
end

/-- all objects stand as they were -/
def Ext (H H' : Hp) : Prop := ∀ a o, H a = some o → H' a = some o
theorem Ext.refl (H : Hp) : Ext H H := fun _ _ h => h
theorem Ext.trans {H H1 H2 : Hp} (a : Ext H H1) (b : Ext H1 H2) : Ext H H2 := fun x o h => b x o (a x o h)
theorem Ext.new {H : Hp} {p : Addr} {o : HO} (h : H p = none) : Ext H (upd H p o) := fun a u e => by
  rw [upd_ne (ne_of_none e h)]
  exact e

/-- the lists, tuples, dicts of d stay -/
structure Stays (H : Hp) (O : AS) (H' : Hp) (O' : AS) : Prop where
  tup : ∀ a vs, H a = some (.tup vs) → H' a = some (.tup vs)
  lst : ∀ a vs, H a = some (.lst vs) → ¬ O a → H' a = some (.lst vs) ∧ ¬ O' a
  dk : ∀ a kvs, H a = some (.dK kvs) → ¬ O a → H' a = some (.dK kvs) ∧ ¬ O' a
  fz : ∀ a u xs, H a = some (.frz u (.lst xs)) → ¬ O a → H' a = some (.frz u (.lst xs)) ∧ ¬ O' a

mutual
theorem RF.stay {H H' : Hp} {O O' : AS} (s : Stays H O H' O') : ∀ (d : D) (v : V), RF H O d v → RF H' O' d v
  | .non, _, h => h
  | .bl _, _, h => h
  | .int _, _, h => h
  | .str _, _, h => h
  | .tup ds, v, h => by
    obtain ⟨a, vs, e, ha, hs⟩ := h
    exact ⟨a, vs, e, s.tup a vs ha, RFs.stay s ds vs hs⟩
  | .lst ds, v, h => by
    obtain ⟨a, vs, e, ha, ho, hs⟩ := h
    obtain ⟨h1, h2⟩ := s.lst a vs ha ho
    exact ⟨a, vs, e, h1, h2, RFs.stay s ds vs hs⟩
  | .dk ks ds, v, h => by
    obtain ⟨a, vs, e, ha, ho, hl, hs⟩ := h
    obtain ⟨h1, h2⟩ := s.dk a _ ha ho
    exact ⟨a, vs, e, h1, h2, hl, RFs.stay s ds vs hs⟩
theorem RFs.stay {H H' : Hp} {O O' : AS} (s : Stays H O H' O') : ∀ (ds : List D) (vs : List V), RFs H O ds vs → RFs H' O' ds vs
  | [], _, h => h
  | d :: ds, vs, h => by
    obtain ⟨v, r, e, h1, h2⟩ := h
    exact ⟨v, r, e, RF.stay s d v h1, RFs.stay s ds r h2⟩
end

theorem RFs.iff {H : Hp} {O : AS} : ∀ {ds : List D} {vs : List V}, RFs H O ds vs ↔ (vs.length = ds.length ∧ ∀ (i : Nat) d v, ds[i]? = some d → vs[i]? = some v → RF H O d v)
  | [], vs => by
    constructor
    · intro h
      have e : vs = [] := h
      subst e
      exact ⟨rfl, fun i d v h => by simp at h⟩
    · rintro ⟨h, _⟩
      exact List.eq_nil_of_length_eq_zero h
  | d :: ds, vs => by
    constructor
    · rintro ⟨v, r, e, h1, h2⟩
      subst e
      obtain ⟨hl, hi⟩ := (RFs.iff (ds := ds) (vs := r)).mp h2
      refine ⟨by simp [hl], fun i d' v' a b => ?_⟩
      cases i with
      | zero =>
        simp at a b
        subst a b
        exact h1
      | succ i =>
        simp at a b
        exact hi i d' v' a b
    · rintro ⟨hl, hi⟩
      cases vs with
      | nil => simp at hl
      | cons v r =>
        refine ⟨v, r, rfl, hi 0 d v rfl rfl, RFs.iff.mpr ⟨by simpa using hl, fun i d' v' a b => hi (i + 1) d' v' (by simpa using a) (by simpa using b)⟩⟩
theorem RFs.len {H : Hp} {O : AS} {ds : List D} {vs : List V} (h : RFs H O ds vs) : vs.length = ds.length := (RFs.iff.mp h).1
theorem RFs.get {H : Hp} {O : AS} {ds : List D} {vs : List V} (h : RFs H O ds vs) {i : Nat} {d : D} (e : ds[i]? = some d) : ∃ v, vs[i]? = some v ∧ RF H O d v := by
  obtain ⟨hl, hi⟩ := RFs.iff.mp h
  have hlt : i < vs.length := by
    obtain ⟨z, _⟩ := List.getElem?_eq_some_iff.mp e
    omega
  exact ⟨vs[i], List.getElem?_eq_getElem hlt, hi i d _ e (List.getElem?_eq_getElem hlt)⟩
theorem RFs.nil {H : Hp} {O : AS} : RFs H O [] [] := rfl
theorem RFs.cons {H : Hp} {O : AS} {d : D} {v : V} {ds : List D} {vs : List V} (h : RF H O d v) (t : RFs H O ds vs) : RFs H O (d :: ds) (v :: vs) := ⟨v, vs, rfl, h, t⟩
theorem RFs.append {H : Hp} {O : AS} : ∀ {ds es : List D} {vs ws : List V}, RFs H O ds vs → RFs H O es ws → RFs H O (ds ++ es) (vs ++ ws)
  | [], es, vs, ws, h, k => by
    have e : vs = [] := h
    subst e
    exact k
  | d :: ds, es, vs, ws, h, k => by
    obtain ⟨v, r, e, h1, h2⟩ := h
    subst e
    exact ⟨v, r ++ ws, rfl, h1, RFs.append h2 k⟩
theorem RFs.take {H : Hp} {O : AS} (n : Nat) {ds : List D} {vs : List V} (h : RFs H O ds vs) : RFs H O (ds.take n) (vs.take n) := by
  obtain ⟨hl, hi⟩ := RFs.iff.mp h
  refine RFs.iff.mpr ⟨by simp [hl], fun i d v a b => ?_⟩
  rw [List.getElem?_take] at a b
  by_cases c : i < n
  · rw [if_pos c] at a b
    exact hi i d v a b
  · rw [if_neg c] at a
    cases a
theorem RFs.drop {H : Hp} {O : AS} (n : Nat) {ds : List D} {vs : List V} (h : RFs H O ds vs) : RFs H O (ds.drop n) (vs.drop n) := by
  obtain ⟨hl, hi⟩ := RFs.iff.mp h
  refine RFs.iff.mpr ⟨by simp [hl], fun i d v a b => ?_⟩
  rw [List.getElem?_drop] at a b
  exact hi _ d v a b
theorem RFs.set {H : Hp} {O : AS} {ds : List D} {vs : List V} (h : RFs H O ds vs) (n : Nat) {d : D} {v : V} (hd : RF H O d v) : RFs H O (ds.set n d) (vs.set n v) := by
  obtain ⟨hl, hi⟩ := RFs.iff.mp h
  refine RFs.iff.mpr ⟨by simp [hl], fun i d' v' a b => ?_⟩
  rw [List.getElem?_set] at a b
  by_cases c : n = i
  · rw [if_pos c] at a b
    split at a
    · split at b
      · cases a; cases b; exact hd
      · cases b
    · cases a
  · rw [if_neg c] at a b
    exact hi i d' v' a b
theorem RFs.dropLast {H : Hp} {O : AS} {ds : List D} {vs : List V} (h : RFs H O ds vs) : RFs H O ds.dropLast vs.dropLast := by
  rw [List.dropLast_eq_take, List.dropLast_eq_take, h.len]
  exact h.take _
theorem RFs.reverse {H : Hp} {O : AS} : ∀ {ds : List D} {vs : List V}, RFs H O ds vs → RFs H O ds.reverse vs.reverse
  | [], vs, h => by
    have e : vs = [] := h
    subst e
    exact h
  | d :: ds, vs, h => by
    obtain ⟨v, r, e, h1, h2⟩ := h
    subst e
    rw [List.reverse_cons, List.reverse_cons]
    exact (RFs.reverse h2).append (.cons h1 .nil)
theorem RFs.strs {H : Hp} {O : AS} : ∀ {ss : List Str} {vs : List V}, RFs H O (ss.map D.str) vs → vs = ss.map V.str
  | [], vs, h => h
  | s :: ss, vs, h => by
    obtain ⟨v, r, e, h1, h2⟩ := h
    have e1 : v = V.str s := h1
    rw [e, e1, RFs.strs h2]
    rfl
theorem RFs.ofStrs {H : Hp} {O : AS} : ∀ (ss : List Str), RFs H O (ss.map D.str) (ss.map V.str)
  | [] => rfl
  | s :: ss => ⟨_, _, rfl, rfl, RFs.ofStrs ss⟩
theorem RFs.ofInts {H : Hp} {O : AS} : ∀ (ss : List Int), RFs H O (ss.map D.int) (ss.map V.int)
  | [] => rfl
  | s :: ss => ⟨_, _, rfl, rfl, RFs.ofInts ss⟩

/-! ### what a slot owns -/
/-- a slot's way: fixed data, or a list of its own (F i: whether item i is a list of its own, too) -/
inductive OM where
  | no | own (F : Nat → Bool) | pin (F : Nat → Bool)
/-- an item: fixed, or an own list of fixed ones -/
def RI (H : Hp) (O : AS) : Bool → D → V → List Addr → Prop
  | false, d, v, f => f = [] ∧ RF H O d v
  | true, .lst es, v, f => ∃ a ws, v = .ref a ∧ f = [a] ∧ H a = some (.lst ws) ∧ RFs H O es ws
  | true, _, _, _ => False
def RIs (H : Hp) (O : AS) : (Nat → Bool) → List D → List V → List Addr → Prop
  | _, [], vs, f => vs = [] ∧ f = []
  | F, d :: ds, vs, f => ∃ v r f1 f2, vs = v :: r ∧ f = f1 ++ f2 ∧ RI H O (F 0) d v f1 ∧ RIs H O (fun i => F (i + 1)) ds r f2
def RO (H : Hp) (O : AS) : OM → D → V → List Addr → Prop
  | .no, d, v, f => f = [] ∧ RF H O d v
  | .own F, .lst ds, v, f => ∃ a vs f', v = .ref a ∧ f = a :: f' ∧ H a = some (.lst vs) ∧ RIs H O F ds vs f'
  | .own F, .dk ks ds, v, f => ∃ a vs f', v = .ref a ∧ f = a :: f' ∧ H a = some (.dK (ks.zip vs)) ∧ vs.length = ks.length ∧ RIs H O F ds vs f'
  | .own _, _, _, _ => False
  | .pin F, .lst ds, v, f => ∃ a vs f', v = .ref a ∧ f = a :: f' ∧ H a = some (.lst vs) ∧ RIs H O F ds vs f'
  | .pin F, .dk ks ds, v, f => ∃ a vs f', v = .ref a ∧ f = a :: f' ∧ H a = some (.dK (ks.zip vs)) ∧ vs.length = ks.length ∧ RIs H O F ds vs f'
  | .pin _, _, _, _ => False
theorem RO.pin {H : Hp} {O : AS} {F : Nat → Bool} {d : D} {v : V} {f : List Addr} : RO H O (.pin F) d v f ↔ RO H O (.own F) d v f := by
  cases d <;> exact Iff.rfl

/-- the items that are fixed stay; the own lists at f stay -/
theorem RI.stay {H H' : Hp} {O O' : AS} (s : Stays H O H' O') {b : Bool} {d : D} {v : V} {f : List Addr} (k : ∀ a ∈ f, H' a = H a) (h : RI H O b d v f) : RI H' O' b d v f := by
  cases b with
  | false => exact ⟨h.1, RF.stay s d v h.2⟩
  | true =>
    cases d with
    | lst es =>
      obtain ⟨a, ws, e, ef, ha, hs⟩ := h
      exact ⟨a, ws, e, ef, (k a (by rw [ef]; simp)).trans ha, RFs.stay s es ws hs⟩
    | _ => exact h.elim
theorem RIs.stay {H H' : Hp} {O O' : AS} (s : Stays H O H' O') : ∀ {F : Nat → Bool} {ds : List D} {vs : List V} {f : List Addr}, (∀ a ∈ f, H' a = H a) → RIs H O F ds vs f → RIs H' O' F ds vs f
  | _, [], _, _, _, h => h
  | F, d :: ds, vs, f, k, h => by
    obtain ⟨v, r, f1, f2, e, ef, h1, h2⟩ := h
    subst ef
    exact ⟨v, r, f1, f2, e, rfl, h1.stay s fun a ha => k a (List.mem_append_left _ ha), RIs.stay s (fun a ha => k a (List.mem_append_right _ ha)) h2⟩
theorem RO.stay {H H' : Hp} {O O' : AS} (s : Stays H O H' O') {m : OM} {d : D} {v : V} {f : List Addr} (k : ∀ a ∈ f, H' a = H a) (h : RO H O m d v f) : RO H' O' m d v f := by
  cases m with
  | no => exact ⟨h.1, RF.stay s d v h.2⟩
  | own F =>
    cases d with
    | lst ds =>
      obtain ⟨a, vs, f', e, ef, ha, hs⟩ := h
      subst ef
      exact ⟨a, vs, f', e, rfl, (k a (by simp)).trans ha, hs.stay s fun b hb => k b (by simp [hb])⟩
    | dk ks ds =>
      obtain ⟨a, vs, f', e, ef, ha, hl, hs⟩ := h
      subst ef
      exact ⟨a, vs, f', e, rfl, (k a (by simp)).trans ha, hl, hs.stay s fun b hb => k b (by simp [hb])⟩
    | _ => exact h.elim
  | pin F =>
    cases d with
    | lst ds =>
      obtain ⟨a, vs, f', e, ef, ha, hs⟩ := h
      subst ef
      exact ⟨a, vs, f', e, rfl, (k a (by simp)).trans ha, hs.stay s fun b hb => k b (by simp [hb])⟩
    | dk ks ds =>
      obtain ⟨a, vs, f', e, ef, ha, hl, hs⟩ := h
      subst ef
      exact ⟨a, vs, f', e, rfl, (k a (by simp)).trans ha, hl, hs.stay s fun b hb => k b (by simp [hb])⟩
    | _ => exact h.elim
theorem RI.there {H : Hp} {O : AS} {b : Bool} {d : D} {v : V} {f : List Addr} (h : RI H O b d v f) : ∀ a ∈ f, (∃ ws, H a = some (.lst ws)) ∨ ∃ kvs, H a = some (.dK kvs) := by
  cases b with
  | false =>
    rw [h.1]
    simp
  | true =>
    cases d with
    | lst es =>
      obtain ⟨a, ws, e, ef, ha, hs⟩ := h
      subst ef
      intro b hb
      have : b = a := by simpa using hb
      subst this
      exact .inl ⟨ws, ha⟩
    | _ => exact h.elim
theorem RIs.there {H : Hp} {O : AS} : ∀ {F : Nat → Bool} {ds : List D} {vs : List V} {f : List Addr}, RIs H O F ds vs f → ∀ a ∈ f, (∃ ws, H a = some (.lst ws)) ∨ ∃ kvs, H a = some (.dK kvs)
  | _, [], _, _, h => by
    rw [h.2]
    simp
  | F, d :: ds, vs, f, h => by
    obtain ⟨v, r, f1, f2, e, ef, h1, h2⟩ := h
    subst ef
    intro a ha
    rcases List.mem_append.mp ha with z | z
    · exact h1.there a z
    · exact RIs.there h2 a z
theorem RO.there {H : Hp} {O : AS} {m : OM} {d : D} {v : V} {f : List Addr} (h : RO H O m d v f) : ∀ a ∈ f, (∃ ws, H a = some (.lst ws)) ∨ ∃ kvs, H a = some (.dK kvs) := by
  cases m with
  | no =>
    rw [h.1]
    simp
  | own F =>
    cases d with
    | lst ds =>
      obtain ⟨a, vs, f', e, ef, ha, hs⟩ := h
      subst ef
      intro b hb
      rcases List.mem_cons.mp hb with z | z
      · subst z
        exact .inl ⟨vs, ha⟩
      · exact hs.there b z
    | dk ks ds =>
      obtain ⟨a, vs, f', e, ef, ha, hl, hs⟩ := h
      subst ef
      intro b hb
      rcases List.mem_cons.mp hb with z | z
      · subst z
        exact .inr ⟨_, ha⟩
      · exact hs.there b z
    | _ => exact h.elim
  | pin F =>
    cases d with
    | lst ds =>
      obtain ⟨a, vs, f', e, ef, ha, hs⟩ := h
      subst ef
      intro b hb
      rcases List.mem_cons.mp hb with z | z
      · subst z
        exact .inl ⟨vs, ha⟩
      · exact hs.there b z
    | dk ks ds =>
      obtain ⟨a, vs, f', e, ef, ha, hl, hs⟩ := h
      subst ef
      intro b hb
      rcases List.mem_cons.mp hb with z | z
      · subst z
        exact .inr ⟨_, ha⟩
      · exact hs.there b z
    | _ => exact h.elim
/-- what is owned, given up: fixed with regard to a lesser O -/
theorem RI.free {H : Hp} {O O' : AS} (s : Stays H O H O') {b : Bool} {d : D} {v : V} {f : List Addr} (k : ∀ a ∈ f, ¬ O' a) (h : RI H O b d v f) : RF H O' d v := by
  cases b with
  | false => exact RF.stay s d v h.2
  | true =>
    cases d with
    | lst es =>
      obtain ⟨a, ws, e, ef, ha, hs⟩ := h
      exact ⟨a, ws, e, ha, k a (by rw [ef]; simp), RFs.stay s es ws hs⟩
    | _ => exact h.elim
theorem RIs.free {H : Hp} {O O' : AS} (s : Stays H O H O') : ∀ {F : Nat → Bool} {ds : List D} {vs : List V} {f : List Addr}, (∀ a ∈ f, ¬ O' a) → RIs H O F ds vs f → RFs H O' ds vs
  | _, [], _, _, _, h => h.1
  | F, d :: ds, vs, f, k, h => by
    obtain ⟨v, r, f1, f2, e, ef, h1, h2⟩ := h
    subst ef
    exact ⟨v, r, e, h1.free s fun a ha => k a (List.mem_append_left _ ha), RIs.free s (fun a ha => k a (List.mem_append_right _ ha)) h2⟩
theorem RO.free {H : Hp} {O O' : AS} (s : Stays H O H O') {m : OM} {d : D} {v : V} {f : List Addr} (k : ∀ a ∈ f, ¬ O' a) (h : RO H O m d v f) : RF H O' d v := by
  cases m with
  | no => exact RF.stay s d v h.2
  | own F =>
    cases d with
    | lst ds =>
      obtain ⟨a, vs, f', e, ef, ha, hs⟩ := h
      subst ef
      exact ⟨a, vs, e, ha, k a (by simp), hs.free s fun b hb => k b (by simp [hb])⟩
    | dk ks ds =>
      obtain ⟨a, vs, f', e, ef, ha, hl, hs⟩ := h
      subst ef
      exact ⟨a, vs, e, ha, k a (by simp), hl, hs.free s fun b hb => k b (by simp [hb])⟩
    | _ => exact h.elim
  | pin F =>
    cases d with
    | lst ds =>
      obtain ⟨a, vs, f', e, ef, ha, hs⟩ := h
      subst ef
      exact ⟨a, vs, e, ha, k a (by simp), hs.free s fun b hb => k b (by simp [hb])⟩
    | dk ks ds =>
      obtain ⟨a, vs, f', e, ef, ha, hl, hs⟩ := h
      subst ef
      exact ⟨a, vs, e, ha, k a (by simp), hl, hs.free s fun b hb => k b (by simp [hb])⟩
    | _ => exact h.elim
/-- nothing is avoided -/
abbrev noO : AS := fun _ => False
theorem Stays.lower (H : Hp) {O O' : AS} (h : ∀ a, O' a → O a) : Stays H O H O' := ⟨fun _ _ e => e, fun a _ e n => ⟨e, fun z => n (h a z)⟩, fun a _ e n => ⟨e, fun z => n (h a z)⟩, fun a _ _ e n => ⟨e, fun z => n (h a z)⟩⟩
theorem RO.look {H : Hp} {O : AS} {m : OM} {d : D} {v : V} {f : List Addr} (h : RO H O m d v f) : RF H noO d v := h.free (Stays.lower H fun _ z => z.elim) fun _ _ z => z
theorem RF.look {H : Hp} {O : AS} {d : D} {v : V} (h : RF H O d v) : RF H noO d v := RF.stay (Stays.lower H fun _ z => z.elim) d v h

/-! ### slots, the state of a body -/
/-- a slot: not told, data, the script (read only) -/
inductive Sl where
  | un | va (m : OM) (d : D) | sc (ns : List Int)
abbrev Env := List Sl
def RS (K : PySem.W.Frag) (H : Hp) (O : AS) : Sl → Option V → List Addr → Prop
  | .un, _, f => f = []
  | .va m d, o, f => ∃ v, o = some v ∧ RO H O m d v f
  | .sc ns, o, f => f = [] ∧ ∃ a, o = some (.ref a) ∧ ((Rd H a (.lst (ns.map V.int)) ∧ ¬ O a) ∨ ∀ H', SqL K H' a (ns.map V.int))
def RE (K : PySem.W.Frag) (H : Hp) (O : AS) : Env → L2.St → List (List Addr) → Prop
  | [], σ, fs => σ = [] ∧ fs = []
  | s :: env, σ, fs => ∃ o r f g, σ = o :: r ∧ fs = f :: g ∧ RS K H O s o f ∧ RE K H O env r g
/-- the heap goes on: but for what is at f (and the tables) all stands; what is owned then was owned or is new -/
structure Ev (tb : AS) (H : Hp) (f : List Addr) (H' : Hp) (f' : List Addr) : Prop where
  keep : ∀ a o, H a = some o → a ∉ f → ¬ tb a → H' a = some o
  own : ∀ a, a ∈ f' → a ∈ f ∨ H a = none
  dom : ∀ a, H' a = none → H a = none
theorem Ev.refl {tb : AS} {H : Hp} {f : List Addr} : Ev tb H f H f := ⟨fun _ _ h _ _ => h, fun _ h => .inl h, fun _ h => h⟩
theorem Ev.trans {tb : AS} {H H1 H2 : Hp} {f f1 f2 : List Addr} (a : Ev tb H f H1 f1) (b : Ev tb H1 f1 H2 f2) : Ev tb H f H2 f2 := by
  refine ⟨fun x o h hf ht => b.keep x o (a.keep x o h hf ht) (fun z => ?_) ht, fun x hx => ?_, fun x h => a.dom x (b.dom x h)⟩
  · rcases a.own x z with q | q
    · exact hf q
    · rw [q] at h
      cases h
  · rcases b.own x hx with q | q
    · exact a.own x q
    · exact .inr (a.dom x q)
/-- the tables that may grow -/
class Tbs where
  tb : AS
/-- what a body is told: ex, what callers own; H0, f0, args, the entry -/
structure Gh where
  ex : AS
  H0 : Hp
  f0 : List Addr
  args : L2.St
def ownO (G : Gh) (f : List (List Addr)) : AS := fun a => G.ex a ∨ a ∈ f.flatten
def TabAt (H : Hp) (a : Addr) : Prop := ∃ ps : Array Value, H a = some (.tbl ps) ∧ TriplesOk ps.toList
structure St [Tbs] (K : PySem.W.Frag) (G : Gh) (σ : L2.St) (H : Hp) (env : Env) (f : List (List Addr)) : Prop where
  rep : RE K H (ownO G f) env σ f
  nd : f.flatten.Nodup
  exd : ∀ a, G.ex a → H a ≠ none
  exf : ∀ a ∈ f.flatten, ¬ G.ex a
  tbl : ∀ a, Tbs.tb a → TabAt H a
  ev : Ev Tbs.tb G.H0 G.f0 H f.flatten
  io : ∀ (i : Nat) F d, env[i]? = some (.va (.pin F) d) → σ[i]? = G.args[i]?
end DL

set_option Elab.async false
set_option linter.all false
set_option maxRecDepth 100000
set_option maxHeartbeats 2000000
/-! DL2: how the state goes on; what expressions mean. -/
namespace DL
open PySem PySem.Spec PyProof.Rows L2
section
variable [Tbs] {K : PySem.W.Frag} {G : Gh} {σ : L2.St} {H H' : Hp} {env : Env} {f f' : List (List Addr)} {O O' : AS}
/-! ### lists of slots -/
theorem RE.len : ∀ {env : Env} {σ : L2.St} {f : List (List Addr)}, RE K H O env σ f → σ.length = env.length ∧ f.length = env.length
  | [], _, _, h => by rw [h.1, h.2]; exact ⟨rfl, rfl⟩
  | s :: env, _, _, h => by
    obtain ⟨o, r, f1, g, e1, e2, _, t⟩ := h
    obtain ⟨a, b⟩ := RE.len t
    subst e1 e2
    simp [a, b]
theorem RE.get : ∀ {env : Env} {σ : L2.St} {f : List (List Addr)} {i : Nat} {s : Sl}, RE K H O env σ f → env[i]? = some s → ∃ o g, σ[i]? = some o ∧ f[i]? = some g ∧ RS K H O s o g
  | [], _, _, _, _, _, e => by simp at e
  | s :: env, _, _, 0, _, h, e => by
    obtain ⟨o, r, f1, g, e1, e2, h1, t⟩ := h
    subst e1 e2
    simp at e
    subst e
    exact ⟨o, f1, rfl, rfl, h1⟩
  | s :: env, _, _, i + 1, _, h, e => by
    obtain ⟨o, r, f1, g, e1, e2, h1, t⟩ := h
    subst e1 e2
    simpa using RE.get (i := i) t (by simpa using e)
theorem RE.set : ∀ {env : Env} {σ : L2.St} {f : List (List Addr)} (i : Nat) {s : Sl} {o : Option V} {g : List Addr}, RE K H O env σ f → RS K H O s o g → RE K H O (env.set i s) (σ.set i o) (f.set i g)
  | [], _, _, _, _, _, _, h, _ => by rw [h.1, h.2]; exact ⟨rfl, rfl⟩
  | s :: env, _, _, 0, _, _, _, h, k => by
    obtain ⟨o, r, f1, g, e1, e2, h1, t⟩ := h
    subst e1 e2
    exact ⟨_, _, _, _, rfl, rfl, k, t⟩
  | s :: env, _, _, i + 1, _, _, _, h, k => by
    obtain ⟨o, r, f1, g, e1, e2, h1, t⟩ := h
    subst e1 e2
    exact ⟨_, _, _, _, rfl, rfl, h1, RE.set i t k⟩
theorem RS.there {s : Sl} {o : Option V} {g : List Addr} (h : RS K H O s o g) : ∀ a ∈ g, (∃ ws, H a = some (.lst ws)) ∨ ∃ kvs, H a = some (.dK kvs) := by
  cases s with
  | un =>
    have e : g = [] := h
    rw [e]
    simp
  | va m d =>
    obtain ⟨v, _, h⟩ := h
    exact h.there
  | sc ns =>
    have e : g = [] := h.1
    rw [e]
    simp
theorem RE.there : ∀ {env : Env} {σ : L2.St} {f : List (List Addr)}, RE K H O env σ f → ∀ a ∈ f.flatten, (∃ ws, H a = some (.lst ws)) ∨ ∃ kvs, H a = some (.dK kvs)
  | [], _, _, h => by
    rw [h.2]
    simp
  | s :: env, _, _, h => by
    obtain ⟨o, r, f1, g, e1, e2, h1, t⟩ := h
    subst e1 e2
    intro a ha
    rcases List.mem_append.mp (show a ∈ f1 ++ g.flatten by simpa using ha) with z | z
    · exact h1.there a z
    · exact RE.there t a z
/-- all slots but i stay -/
theorem RS.stay (s : Stays H O H' O') (sf : ∀ a u, H a = some (.frz u (.lst ([] : List V))) → True) {sl : Sl} {o : Option V} {g : List Addr} (hz : ∀ a u xs, H a = some (.frz u (.lst xs)) → ¬ O a → H' a = some (.frz u (.lst xs)) ∧ ¬ O' a) (k : ∀ a ∈ g, H' a = H a) (h : RS K H O sl o g) : RS K H' O' sl o g := by
  cases sl with
  | un => exact h
  | va m d =>
    obtain ⟨v, e, h⟩ := h
    exact ⟨v, e, h.stay s k⟩
  | sc ns =>
    obtain ⟨e, a, ea, h⟩ := h
    refine ⟨e, a, ea, ?_⟩
    rcases h with ⟨h | ⟨u, h⟩, ho⟩ | h
    · obtain ⟨q1, q2⟩ := s.lst a _ h ho
      exact .inl ⟨.inl q1, q2⟩
    · obtain ⟨q1, q2⟩ := hz a u _ h ho
      exact .inl ⟨.inr ⟨u, q1⟩, q2⟩
    · exact .inr h
theorem RE.stay (s : Stays H O H' O') (hz : ∀ a u xs, H a = some (.frz u (.lst xs)) → ¬ O a → H' a = some (.frz u (.lst xs)) ∧ ¬ O' a) : ∀ {env : Env} {σ : L2.St} {f : List (List Addr)}, (∀ a ∈ f.flatten, H' a = H a) → RE K H O env σ f → RE K H' O' env σ f
  | [], _, _, _, h => h
  | sl :: env, _, _, k, h => by
    obtain ⟨o, r, f1, g, e1, e2, h1, t⟩ := h
    subst e1 e2
    exact ⟨o, r, f1, g, rfl, rfl, h1.stay s (fun _ _ _ => trivial) hz fun a ha => k a (by simp [ha]), RE.stay s hz (fun a ha => k a (by simp at ha ⊢; exact .inr ha)) t⟩
/-- a slot taken out of the row: its own reading, and what the others need -/
theorem RE.swap (s : Stays H O H' O') (hz : ∀ a u xs, H a = some (.frz u (.lst xs)) → ¬ O a → H' a = some (.frz u (.lst xs)) ∧ ¬ O' a) : ∀ {env : Env} {σ : L2.St} {f : List (List Addr)} {i : Nat} {g : List Addr} {sl : Sl} {o : Option V} {g' : List Addr},
    f[i]? = some g → f.flatten.Nodup → (∀ a ∈ f.flatten, a ∉ g → H' a = H a) → RE K H O env σ f → RS K H' O' sl o g' → RE K H' O' (env.set i sl) (σ.set i o) (f.set i g')
  | [], _, _, i, _, _, _, _, e, _, _, h, _ => by rw [h.2] at e; simp at e
  | s0 :: env, _, _, 0, g, _, _, _, e, nd, k, h, q => by
    obtain ⟨o, r, f1, gs, e1, e2, h1, t⟩ := h
    subst e1 e2
    simp at e
    subst e
    refine ⟨_, _, _, _, rfl, rfl, q, RE.stay s hz (fun a ha => k a (by simp at ha ⊢; exact .inr ha) fun z => ?_) t⟩
    rw [List.flatten_cons, List.nodup_append] at nd
    exact nd.2.2 a z a ha rfl
  | s0 :: env, _, _, i + 1, g, _, _, _, e, nd, k, h, q => by
    obtain ⟨o, r, f1, gs, e1, e2, h1, t⟩ := h
    subst e1 e2
    have e' : gs[i]? = some g := by simpa using e
    have nd' := nd
    rw [List.flatten_cons, List.nodup_append] at nd'
    have hg : ∀ a ∈ g, a ∈ gs.flatten := fun a ha => List.mem_flatten.mpr ⟨g, List.mem_of_getElem? e', ha⟩
    refine ⟨_, _, _, _, rfl, rfl, h1.stay s (fun _ _ _ => trivial) hz fun a ha => k a (by simp [ha]) fun z => ?_, RE.swap s hz e' nd'.2.1 (fun a ha hn => k a (by simp at ha ⊢; exact .inr ha) hn) t q⟩
    exact nd'.2.2 a ha a (hg a z) rfl
theorem mem_set_flatten {f : List (List Addr)} {i : Nat} {g : List Addr} {a : Addr} (h : a ∈ (f.set i g).flatten) : a ∈ f.flatten ∨ a ∈ g := by
  obtain ⟨l, hl, ha⟩ := List.mem_flatten.mp h
  rcases List.mem_or_eq_of_mem_set hl with z | z
  · exact .inl (List.mem_flatten.mpr ⟨l, z, ha⟩)
  · subst z
    exact .inr ha
theorem nodup_set : ∀ {f : List (List Addr)} {i : Nat} {g g' : List Addr}, f[i]? = some g → f.flatten.Nodup → g'.Nodup → (∀ a ∈ g', a ∈ g ∨ a ∉ f.flatten) → (f.set i g').flatten.Nodup
  | [], _, _, _, e, _, _, _ => by simp at e
  | l :: f, 0, g, g', e, nd, nd', h => by
    simp at e
    subst e
    rw [List.flatten_cons, List.nodup_append] at nd
    show (g' :: f).flatten.Nodup
    rw [List.flatten_cons, List.nodup_append]
    refine ⟨nd', nd.2.1, fun a ha b hb e => ?_⟩
    subst e
    rcases h a ha with z | z
    · exact nd.2.2 a z a hb rfl
    · exact z (by simp at hb ⊢; exact .inr hb)
  | l :: f, i + 1, g, g', e, nd, nd', h => by
    have e' : f[i]? = some g := by simpa using e
    rw [List.flatten_cons, List.nodup_append] at nd
    show (l :: f.set i g').flatten.Nodup
    rw [List.flatten_cons, List.nodup_append]
    have hg : ∀ a ∈ g, a ∈ f.flatten := fun a ha => List.mem_flatten.mpr ⟨g, List.mem_of_getElem? e', ha⟩
    refine ⟨nd.1, nodup_set e' nd.2.1 nd' fun a ha => ?_, fun a ha b hb e => ?_⟩
    · rcases h a ha with z | z
      · exact .inl z
      · exact .inr fun q => z (by simp at q ⊢; exact .inr q)
    · subst e
      rcases mem_set_flatten hb with z | z
      · exact nd.2.2 a ha a z rfl
      · rcases h a z with q | q
        · exact nd.2.2 a ha a (hg a q) rfl
        · exact q (by simp [ha])

theorem dis {f : List (List Addr)} (nd : f.flatten.Nodup) {i j : Nat} {g h : List Addr} (hi : f[i]? = some g) (hj : f[j]? = some h) (ne : i ≠ j) {a : Addr} (ha : a ∈ g) (hb : a ∈ h) : False := by
  induction f generalizing i j with
  | nil => simp at hi
  | cons l f ih =>
    rw [List.flatten_cons, List.nodup_append] at nd
    cases i with
    | zero =>
      cases j with
      | zero => exact ne rfl
      | succ j =>
        simp at hi hj
        subst hi
        exact nd.2.2 a ha a (List.mem_flatten.mpr ⟨h, List.mem_of_getElem? hj, hb⟩) rfl
    | succ i =>
      cases j with
      | zero =>
        simp at hi hj
        subst hj
        exact nd.2.2 a hb a (List.mem_flatten.mpr ⟨g, List.mem_of_getElem? hi, ha⟩) rfl
      | succ j => exact ih nd.2.1 (by simpa using hi) (by simpa using hj) (fun e => ne (by rw [e]))
/-! ### the state goes on -/
theorem Ev.ofExt {tb : AS} {f : List Addr} (e : Ext H H') : Ev tb H f H' f := ⟨fun a o h _ _ => e a o h, fun a h => .inl h, fun a h => by
  cases q : H a with
  | none => rfl
  | some o =>
    rw [e a o q] at h
    cases h⟩
theorem Stays.ofExt (e : Ext H H') : Stays H O H' O := ⟨fun a vs h => e a _ h, fun a vs h n => ⟨e a _ h, n⟩, fun a vs h n => ⟨e a _ h, n⟩, fun a u vs h n => ⟨e a _ h, n⟩⟩
theorem RF.ext (e : Ext H H') {d : D} {v : V} (h : RF H O d v) : RF H' O d v := RF.stay (Stays.ofExt e) d v h
theorem RFs.ext (e : Ext H H') {d : List D} {v : List V} (h : RFs H O d v) : RFs H' O d v := RFs.stay (Stays.ofExt e) d v h
theorem St.there (S : St K G σ H env f) : ∀ a ∈ f.flatten, (∃ ws, H a = some (.lst ws)) ∨ ∃ kvs, H a = some (.dK kvs) := S.rep.there
theorem St.dom (S : St K G σ H env f) : ∀ a, ownO G f a → H a ≠ none := fun a h => by
  rcases h with h | h
  · exact S.exd a h
  · rcases S.there a h with ⟨ws, z⟩ | ⟨ws, z⟩ <;> (rw [z]; simp)
theorem St.ntb (S : St K G σ H env f) : ∀ a ∈ f.flatten, ¬ Tbs.tb a := fun a h t => by
  obtain ⟨ps, q, _⟩ := S.tbl a t
  rcases S.there a h with ⟨ws, z⟩ | ⟨ws, z⟩ <;> (rw [q] at z; cases z)
theorem TabAt.not {a : Addr} {o : HO} (t : TabAt H a) (h : H a = some o) (n : ∀ ps, o ≠ .tbl ps) : False := by
  obtain ⟨ps, q, _⟩ := t
  rw [h] at q
  exact n ps (Option.some.inj q)
theorem St.stays (S : St K G σ H env f) (E : Ev Tbs.tb H f.flatten H' f'.flatten) : Stays H (ownO G f) H' (ownO G f') := by
  have nf : ∀ a vs, H a = some (.tup vs) → a ∉ f.flatten := fun a vs h z => by
    rcases S.there a z with ⟨ws, q⟩ | ⟨ws, q⟩ <;> (rw [h] at q; cases q)
  have av : ∀ a o, H a = some o → ¬ ownO G f a → ¬ ownO G f' a := fun a o h n z => by
    rcases z with z | z
    · exact n (.inl z)
    · rcases E.own a z with q | q
      · exact n (.inr q)
      · rw [q] at h
        cases h
  refine ⟨fun a vs h => E.keep a _ h (nf a vs h) fun t => (S.tbl a t).not h fun ps z => (by cases z), fun a vs h n => ⟨E.keep a _ h (fun z => n (.inr z)) fun t => (S.tbl a t).not h fun ps z => (by cases z), av a _ h n⟩,
    fun a vs h n => ⟨E.keep a _ h (fun z => n (.inr z)) fun t => (S.tbl a t).not h fun ps z => (by cases z), av a _ h n⟩, fun a u vs h n => ⟨E.keep a _ h (fun z => n (.inr z)) fun t => (S.tbl a t).not h fun ps z => (by cases z), av a _ h n⟩⟩
theorem St.fstays (S : St K G σ H env f) (E : Ev Tbs.tb H f.flatten H' f'.flatten) : ∀ a u xs, H a = some (.frz u (.lst xs)) → ¬ ownO G f a → H' a = some (.frz u (.lst xs)) ∧ ¬ ownO G f' a := fun a u xs h n => by
  refine ⟨E.keep a _ h (fun z => n (.inr z)) fun t => (S.tbl a t).not h fun ps z => (by cases z), fun z => ?_⟩
  rcases z with z | z
  · exact n (.inl z)
  · rcases E.own a z with q | q
    · exact n (.inr q)
    · rw [q] at h
      cases h
theorem TabAt.ext (e : Ext H H') {a : Addr} (h : TabAt H a) : TabAt H' a := let ⟨ps, q, t⟩ := h; ⟨ps, e a _ q, t⟩
/-- new objects alone -/
theorem St.ext (S : St K G σ H env f) (e : Ext H H') : St K G σ H' env f := by
  refine ⟨RE.stay (Stays.ofExt e) (fun a u xs h n => ⟨e a _ h, n⟩) (fun a ha => ?_) S.rep, S.nd, fun a h z => ?_, S.exf, fun a h => (S.tbl a h).ext e, S.ev.trans (Ev.ofExt e), S.io⟩
  · rcases S.there a ha with ⟨ws, q⟩ | ⟨ws, q⟩ <;> rw [q, e a _ q]
  · have := S.exd a h
    cases q : H a with
    | none => exact this q
    | some o =>
      rw [e a o q] at z
      cases z
/-- slot i is told anew -/
theorem St.put (S : St K G σ H env f) {i : Nat} {sl : Sl} {o : Option V} {g g' : List Addr} (hg : f[i]? = some g) (st : Stays H (ownO G f) H' (ownO G (f.set i g'))) (fz : ∀ a u xs, H a = some (.frz u (.lst xs)) → ¬ ownO G f a → H' a = some (.frz u (.lst xs)) ∧ ¬ ownO G (f.set i g') a)
    (dom : ∀ a, H' a = none → H a = none) (ev : Ev Tbs.tb G.H0 G.f0 H' (f.set i g').flatten) (q : RS K H' (ownO G (f.set i g')) sl o g')
    (k : ∀ a ∈ f.flatten, a ∉ g → H' a = H a) (nd : g'.Nodup) (hn : ∀ a ∈ g', a ∈ g ∨ (a ∉ f.flatten ∧ ¬ G.ex a)) (tb : ∀ a, Tbs.tb a → TabAt H' a)
    (io : ∀ F d, sl = .va (.pin F) d → some o = G.args[i]?) : St K G (σ.set i o) H' (env.set i sl) (f.set i g') := by
  refine ⟨RE.swap st fz hg S.nd k S.rep q, nodup_set hg S.nd nd (fun a ha => (hn a ha).imp id And.left), fun a h z => S.exd a h (dom a z), fun a ha hx => ?_, tb, ev, fun j F d hj => ?_⟩
  · rcases mem_set_flatten ha with z | z
    · exact S.exf a z hx
    · rcases hn a z with y | y
      · exact S.exf a (List.mem_flatten.mpr ⟨g, List.mem_of_getElem? hg, y⟩) hx
      · exact y.2 hx
  · by_cases hji : j = i
    · subst hji
      have hl : j < env.length := by
        obtain ⟨z, _⟩ := List.getElem?_eq_some_iff.mp hj
        simpa using z
      rw [List.getElem?_set_self hl] at hj
      rw [List.getElem?_set_self (by rw [(S.rep.len).1]; exact hl)]
      exact io F d (Option.some.inj hj)
    · rw [List.getElem?_set_ne (Ne.symm hji)] at hj ⊢
      exact S.io j F d hj
/-- .. by what happened between -/
theorem St.putE (S : St K G σ H env f) {i : Nat} {sl : Sl} {o : Option V} {g g' : List Addr} (hg : f[i]? = some g) (E : Ev Tbs.tb H f.flatten H' (f.set i g').flatten) (q : RS K H' (ownO G (f.set i g')) sl o g')
    (k : ∀ a ∈ f.flatten, a ∉ g → H' a = H a) (nd : g'.Nodup) (hn : ∀ a ∈ g', a ∈ g ∨ a ∉ f.flatten) (tb : ∀ a, Tbs.tb a → TabAt H' a)
    (io : ∀ F d, sl = .va (.pin F) d → some o = G.args[i]?) : St K G (σ.set i o) H' (env.set i sl) (f.set i g') := by
  refine S.put hg (S.stays E) (S.fstays E) E.dom (S.ev.trans E) q k nd (fun a ha => ?_) tb io
  by_cases z : a ∈ g
  · exact .inl z
  · refine .inr ⟨(hn a ha).resolve_left z, fun hx => ?_⟩
    have hm : a ∈ (f.set i g').flatten := by
      have hi : i < f.length := (List.getElem?_eq_some_iff.mp hg).1
      exact List.mem_flatten.mpr ⟨g', List.mem_set hi g', ha⟩
    rcases E.own a hm with y | y
    · exact (hn a ha).resolve_left z y
    · exact S.exd a hx y
/-- a slot takes a fixed value, or forgets -/
theorem St.setFz (S : St K G σ H env f) {i : Nat} {d : D} {v : V} (hi : i < env.length) (h : RF H (ownO G f) d v) : St K G (σ.set i (some v)) H (env.set i (.va .no d)) (f.set i []) := by
  have hf : f[i]? = some f[i]! := by
    have : i < f.length := by rw [(S.rep.len).2]; exact hi
    simp [this]
  have lo : ∀ a, ownO G (f.set i []) a → ownO G f a := fun a z => z.imp id fun z => (mem_set_flatten z).resolve_right (by simp)
  refine S.put hf (Stays.lower H lo) (fun a u xs h n => ⟨h, fun z => n (lo a z)⟩) (fun _ h => h) ⟨fun a o h1 h2 h3 => S.ev.keep a o h1 h2 h3, fun a ha => S.ev.own a ((mem_set_flatten ha).resolve_right (by simp)), S.ev.dom⟩ ⟨v, rfl, rfl, RF.stay (Stays.lower H lo) d v h⟩ (fun _ _ _ => rfl) (by simp) (by simp) S.tbl (fun F e z => by cases z)
/-- a slot gives up what it owns -/
theorem St.giveUp (S : St K G σ H env f) {i : Nat} {F : Nat → Bool} {d : D} (he : env[i]? = some (.va (.own F) d)) : ∃ v, σ[i]? = some (some v) ∧ St K G σ H (env.set i (.va .no d)) (f.set i []) ∧ RF H (ownO G (f.set i [])) d v := by
  obtain ⟨o, g, h1, h2, v, e, hr⟩ := S.rep.get he
  subst e
  have lo : ∀ a, ownO G (f.set i []) a → ownO G f a := fun a z => z.imp id fun z => (mem_set_flatten z).resolve_right (by simp)
  have av : ∀ a ∈ g, ¬ ownO G (f.set i []) a := fun a ha z => by
    have hm : a ∈ f.flatten := List.mem_flatten.mpr ⟨g, List.mem_of_getElem? h2, ha⟩
    rcases z with z | z
    · exact S.exf a hm z
    · obtain ⟨l, hl, hal⟩ := List.mem_flatten.mp z
      obtain ⟨j, hj⟩ := List.getElem?_of_mem hl
      by_cases hji : i = j
      · subst hji
        rw [List.getElem?_set_self (List.getElem?_eq_some_iff.mp h2).1] at hj
        cases hj
        cases hal
      · rw [List.getElem?_set_ne hji] at hj
        exact dis S.nd h2 hj hji ha hal
  have R : RF H (ownO G (f.set i [])) d v := hr.free (Stays.lower H lo) av
  have q := S.put (i := i) (sl := .va .no d) (o := some v) h2 (Stays.lower H lo) (fun a u xs h n => ⟨h, fun z => n (lo a z)⟩) (fun _ h => h) ⟨fun a o h1 h2 h3 => S.ev.keep a o h1 h2 h3, fun a ha => S.ev.own a ((mem_set_flatten ha).resolve_right (by simp)), S.ev.dom⟩ ⟨v, rfl, rfl, R⟩ (fun _ _ _ => rfl) (by simp) (by simp) S.tbl (fun F e z => by cases z)
  refine ⟨v, h1, ?_, R⟩
  have e : σ.set i (some v) = σ := by
    apply List.ext_getElem?
    intro j
    by_cases c : i = j
    · subst c
      rw [List.getElem?_set_self (List.getElem?_eq_some_iff.mp h1).1, h1]
    · rw [List.getElem?_set_ne c]
  rw [e] at q
  exact q
/-- one more that others own -/
abbrev Gh.add (G : Gh) (p : Addr) : Gh := { G with ex := fun a => G.ex a ∨ a = p }
/-- a new object is laid: nothing that stands has it -/
theorem St.new (S : St K G σ H env f) {p : Addr} {o : HO} (hp : H p = none) : St K (G.add p) σ (upd H p o) env f := by
  have e : Ext H (upd H p o) := Ext.new hp
  have st : Stays H (ownO G f) (upd H p o) (ownO (G.add p) f) := by
    have av : ∀ a u, H a = some u → ¬ ownO G f a → ¬ ownO (G.add p) f a := fun a u h n z => by
      rcases z with (z | z) | z
      · exact n (.inl z)
      · rw [z, hp] at h
        cases h
      · exact n (.inr z)
    exact ⟨fun a vs h => e a _ h, fun a vs h n => ⟨e a _ h, av a _ h n⟩, fun a vs h n => ⟨e a _ h, av a _ h n⟩, fun a u vs h n => ⟨e a _ h, av a _ h n⟩⟩
  refine ⟨RE.stay st (fun a u xs h n => ⟨e a _ h, fun z => ?_⟩) (fun a ha => ?_) S.rep, S.nd, fun a h z => ?_, fun a ha z => ?_, fun a h => (S.tbl a h).ext e, S.ev.trans (Ev.ofExt e), S.io⟩
  · rcases z with (z | z) | z
    · exact n (.inl z)
    · rw [z, hp] at h
      cases h
    · exact n (.inr z)
  · rcases S.there a ha with ⟨ws, q⟩ | ⟨ws, q⟩ <;> rw [q, e a _ q]
  · rcases h with h | h
    · have := S.exd a h
      cases q : H a with
      | none => exact this q
      | some o =>
        rw [e a o q] at z
        cases z
    · subst h
      rw [upd_same] at z
      cases z
  · rcases z with z | z
    · exact S.exf a ha z
    · subst z
      rcases S.there a ha with ⟨ws, q⟩ | ⟨ws, q⟩ <;> (rw [hp] at q; cases q)
theorem St.drop {p : Addr} (S : St K (G.add p) σ H env f) : St K G σ H env f := by
  have lo : ∀ a, ownO G f a → ownO (G.add p) f a := fun a z => z.imp Or.inl id
  exact ⟨RE.stay (Stays.lower H lo) (fun a u xs h n => ⟨h, fun z => n (lo a z)⟩) (fun _ _ => rfl) S.rep, S.nd, fun a h => S.exd a (.inl h), fun a ha z => S.exf a ha (.inl z), S.tbl, S.ev, S.io⟩
/-- what others own, by more -/
abbrev Gh.addL (G : Gh) (l : List Addr) : Gh := { G with ex := fun a => G.ex a ∨ a ∈ l }
/-- the same but for what others own -/
theorem St.exLess {G' : Gh} (S : St K G' σ H env f) (h0 : G'.H0 = G.H0) (hf : G'.f0 = G.f0) (ha : G'.args = G.args) (hx : ∀ a, G.ex a → G'.ex a) : St K G σ H env f := by
  have lo : ∀ a, ownO G f a → ownO G' f a := fun a z => z.imp (hx a) id
  exact ⟨RE.stay (Stays.lower H lo) (fun a u xs h n => ⟨h, fun z => n (lo a z)⟩) (fun _ _ => rfl) S.rep, S.nd, fun a h => S.exd a (hx a h), fun a ha z => S.exf a ha (hx a z), S.tbl, by rw [← h0, ← hf]; exact S.ev, by rw [← ha]; exact S.io⟩
/-- what is new (or was owned and is held apart) becomes the slot's own -/
theorem St.adoptX {l : List Addr} {d : D} {v : V} (S : St K (G.addL l) σ H env f) {i : Nat} {m : OM} (hm : ∀ F, m ≠ .pin F) (hi : i < env.length) (h0 : ∀ a ∈ l, a ∈ G.f0 ∨ G.H0 a = none) (hxp : ∀ a ∈ l, ¬ G.ex a) (nd : l.Nodup) (hr : RO H (ownO (G.addL l) f) m d v l) :
    St K G (σ.set i (some v)) H (env.set i (.va m d)) (f.set i l) := by
  have hf : f[i]? = some f[i]! := by
    have : i < f.length := by rw [(S.rep.len).2]; exact hi
    simp [this]
  have lo : ∀ a, ownO G (f.set i l) a → ownO (G.addL l) f a := fun a z => by
    rcases z with z | z
    · exact .inl (.inl z)
    · rcases mem_set_flatten z with y | y
      · exact .inr y
      · exact .inl (.inr y)
  have S' : St K G σ H env f := S.exLess rfl rfl rfl fun _ => .inl
  refine ⟨RE.swap (Stays.lower H lo) (fun a u xs h n => ⟨h, fun z => n (lo a z)⟩) hf S.nd (fun _ _ _ => rfl) S.rep ⟨v, rfl, hr.stay (Stays.lower H lo) fun _ _ => rfl⟩, ?_, S'.exd, fun a ha hx => ?_, S.tbl, ⟨S.ev.keep, fun a ha => ?_, S.ev.dom⟩, fun j F' d hj => ?_⟩
  · exact nodup_set hf S.nd nd fun a ha => .inr fun z => S.exf a z (.inr ha)
  · rcases mem_set_flatten ha with z | z
    · exact S'.exf a z hx
    · exact hxp a z hx
  · rcases mem_set_flatten ha with z | z
    · exact S.ev.own a z
    · exact h0 a z
  · by_cases hji : j = i
    · subst hji
      rw [List.getElem?_set_self hi] at hj
      cases hj
      exact absurd rfl (hm F')
    · rw [List.getElem?_set_ne (Ne.symm hji)] at hj ⊢
      exact S.io j F' d hj
/-- the new list becomes the slot's own -/
theorem St.adopt {p : Addr} {vs : List V} {F : Nat → Bool} {ds : List D} (S : St K (G.add p) σ H env f) {i : Nat} (hi : i < env.length) (hp : H p = some (.lst vs)) (h0 : G.H0 p = none) (hxp : ¬ G.ex p) (hr : RFs H (ownO (G.add p) f) ds vs) (hF : ∀ j, j < ds.length → F j = false) :
    St K G (σ.set i (some (.ref p))) H (env.set i (.va (.own F) (.lst ds))) (f.set i [p]) := by
  have hf : f[i]? = some f[i]! := by
    have : i < f.length := by rw [(S.rep.len).2]; exact hi
    simp [this]
  have lo : ∀ a, ownO G (f.set i [p]) a → ownO (G.add p) f a := fun a z => by
    rcases z with z | z
    · exact .inl (.inl z)
    · rcases mem_set_flatten z with y | y
      · exact .inr y
      · exact .inl (.inr (by simpa using y))
  have fix : ∀ {F : Nat → Bool} {ds : List D} {vs : List V}, (∀ j, j < ds.length → F j = false) → RFs H (ownO G (f.set i [p])) ds vs → RIs H (ownO G (f.set i [p])) F ds vs [] := by
    intro F ds
    induction ds generalizing F with
    | nil => intro vs _ h; exact ⟨h, rfl⟩
    | cons d ds ih =>
      intro vs hF h
      obtain ⟨v, r, e, a, b⟩ := h
      refine ⟨v, r, [], [], e, rfl, ?_, ih (fun j hj => hF (j + 1) (by simpa using hj)) b⟩
      rw [hF 0 (by simp)]
      exact ⟨rfl, a⟩
  have S' : St K G σ H env f := S.drop
  have key : ∀ a, H a = none → G.H0 a = none := S.ev.dom
  refine ⟨RE.swap (Stays.lower H lo) (fun a u xs h n => ⟨h, fun z => n (lo a z)⟩) hf S.nd (fun _ _ _ => rfl) S.rep ⟨.ref p, rfl, p, vs, [], rfl, rfl, hp, fix hF (RFs.stay (Stays.lower H lo) ds vs hr)⟩, ?_, S'.exd, fun a ha hx => ?_, S.tbl, ⟨S.ev.keep, fun a ha => ?_, S.ev.dom⟩, fun j F' d hj => ?_⟩
  · refine nodup_set hf S.nd (by simp) fun a ha => .inr fun z => ?_
    have : a = p := by simpa using ha
    subst this
    exact S.exf a z (.inr rfl)
  · rcases mem_set_flatten ha with z | z
    · exact S'.exf a z hx
    · have : a = p := by simpa using z
      subst this
      exact hxp hx
  · rcases mem_set_flatten ha with z | z
    · exact S.ev.own a z
    · have : a = p := by simpa using z
      subst this
      exact .inr h0
  · by_cases hji : j = i
    · subst hji
      rw [List.getElem?_set_self hi] at hj
      cases hj
    · rw [List.getElem?_set_ne (Ne.symm hji)] at hj ⊢
      exact S.io j F' d hj
end
end DL

set_option Elab.async false
set_option linter.all false
set_option maxRecDepth 100000
set_option maxHeartbeats 2000000
/-! DL3: expressions: their meaning over slots of plain data, and the rules. -/
namespace DL
open PySem PySem.Spec PyProof.Rows L2

/-- the greatest length that is made here -/
def big : Nat := 4000000
theorem big_le {n : Nat} (h : n ≤ big) : n ≤ sizeLine := Nat.le_trans h (by decide)
theorem big_lt {n : Nat} (h : n < big) : n < sizeLine := Nat.lt_of_lt_of_le h (by decide)
/-- what is avoided by a fixed value (true), a looked at one (false) -/
def avO (b : Bool) (G : Gh) (f : List (List Addr)) : AS := fun a => b = true ∧ ownO G f a
abbrev EP1 := Env → Option D
abbrev EV1 := Env → Option (D × Env)
section
variable [Tbs] (K : PySem.W.Frag)
/-- a look at the slots: nothing changes -/
def TP (b : Bool) (e : EP1) : TE := fun σ H Q => ∃ G env fl d, St K G σ H env fl ∧ e env = some d ∧ ∀ v H', Ext H H' → RF H' (avO b G fl) d v → Q v H'
/-- a value; the slots may change -/
def TV (e : EV1) : TE := fun σ H Q => ∃ G env fl d env', St K G σ H env fl ∧ e env = some (d, env') ∧ ∀ v H' fl', St K G σ H' env' fl' → Ev Tbs.tb H fl.flatten H' fl'.flatten → RF H' (ownO G fl') d v → Q v H'
/-- a new list (its items are ds) -/
def TN (e : Env → Option (List D × Env)) : TE := fun σ H Q => ∃ G env fl ds env', St K G σ H env fl ∧ e env = some (ds, env') ∧
  ∀ p vs H' fl', St K (G.add p) σ H' env' fl' → Ev Tbs.tb H fl.flatten H' fl'.flatten → H p = none → H' p = some (.lst vs) → RFs H' (ownO (G.add p) fl') ds vs → Q (.ref p) H'
def TPs (b : Bool) (e : Env → Option (List D)) : TA := fun σ H Q => ∃ G env fl ds, St K G σ H env fl ∧ e env = some ds ∧ ∀ vs H', Ext H H' → RFs H' (avO b G fl) ds vs → Q vs H'
def TVs (e : Env → Option (List D × Env)) : TA := fun σ H Q => ∃ G env fl ds env', St K G σ H env fl ∧ e env = some (ds, env') ∧ ∀ vs H' fl', St K G σ H' env' fl' → Ev Tbs.tb H fl.flatten H' fl'.flatten → RFs H' (ownO G fl') ds vs → Q vs H'
def TT1 (e : Env → Option (Bool × Env)) : TT := fun σ H Q => ∃ G env fl b env', St K G σ H env fl ∧ e env = some (b, env') ∧ ∀ H' fl', St K G σ H' env' fl' → Ev Tbs.tb H fl.flatten H' fl'.flatten → Q b H'
end
theorem PE.wk {X : Cx} {e : Expr} {t t' : TE} (h : PE X e t) (k : ∀ σ H Q, t' σ H Q → t σ H Q) : PE X e t' := ⟨fun pins s σ H Q I q => h.run pins s σ H Q I (k _ _ _ q)⟩
theorem PT.wk {X : Cx} {e : Expr} {t t' : TT} (h : PT X e t) (k : ∀ σ H Q, t' σ H Q → t σ H Q) : PT X e t' := ⟨fun pins s σ H Q I q => h.run pins s σ H Q I (k _ _ _ q)⟩
theorem PW.wk {X : Cx} {e : Expr} {t t' : TT} (h : PW X e t) (k : ∀ σ H Q, t' σ H Q → t σ H Q) : PW X e t' := ⟨fun wh pins s σ H Q I q => h.run wh pins s σ H Q I (k _ _ _ q)⟩
theorem PA.wk {X : Cx} {e : List Expr} {t t' : TA} (h : PA X e t) (k : ∀ σ H Q, t' σ H Q → t σ H Q) : PA X e t' := ⟨fun ps pins s σ H Q I q => h.run ps pins s σ H Q I (k _ _ _ q)⟩
theorem PS.wk {X : Cx} {st : Stmt} {t t' : TS} (h : PS X st t) (k : ∀ D σ H, t' D σ H → t D σ H) : PS X st t' := ⟨fun pins s σ H D I q => h.run pins s σ H D I (k _ _ _ q)⟩
theorem PSs.wk {X : Cx} {st : List Stmt} {t t' : TS} (h : PSs X st t) (k : ∀ D σ H, t' D σ H → t D σ H) : PSs X st t' := ⟨fun pins s σ H D I q => h.run pins s σ H D I (k _ _ _ q)⟩
section
variable [Tbs]
abbrev PP (b : Bool) (X : Cx) (e : Expr) (f : EP1) : Prop := PE X e (TP X.K b f)
abbrev PV (X : Cx) (e : Expr) (f : EV1) : Prop := PE X e (TV X.K f)
abbrev PN (X : Cx) (e : Expr) (f : Env → Option (List D × Env)) : Prop := PE X e (TN X.K f)
abbrev PPs (b : Bool) (X : Cx) (e : List Expr) (f : Env → Option (List D)) : Prop := PA X e (TPs X.K b f)
abbrev PVs (X : Cx) (e : List Expr) (f : Env → Option (List D × Env)) : Prop := PA X e (TVs X.K f)
abbrev PQ (X : Cx) (e : Expr) (f : Env → Option (Bool × Env)) : Prop := PT X e (TT1 X.K f)
end
section
variable [Tbs] {K : PySem.W.Frag} {G : Gh} {σ : L2.St} {H H' : Hp} {env : Env} {f f' : List (List Addr)} {O O' : AS} {b : Bool}
theorem av_dom (S : St K G σ H env f) : ∀ a, avO b G f a → H a ≠ none := fun a h => S.dom a h.2
theorem RF.low {d : D} {v : V} (h : RF H (ownO G f) d v) : RF H (avO b G f) d v := RF.stay (Stays.lower H fun a z => z.2) d v h
theorem RF.of_av {d : D} {v : V} (h : RF H (avO true G f) d v) : RF H (ownO G f) d v := RF.stay (Stays.lower H fun a z => ⟨rfl, z⟩) d v h
theorem RFs.of_av {d : List D} {v : List V} (h : RFs H (avO true G f) d v) : RFs H (ownO G f) d v := RFs.stay (Stays.lower H fun a z => ⟨rfl, z⟩) d v h
theorem RFs.low {d : List D} {v : List V} (h : RFs H (ownO G f) d v) : RFs H (avO b G f) d v := RFs.stay (Stays.lower H fun a z => z.2) d v h
theorem RF.go (S : St K G σ H env f) (E : Ev Tbs.tb H f.flatten H' f'.flatten) {d : D} {v : V} (h : RF H (ownO G f) d v) : RF H' (ownO G f') d v := RF.stay (S.stays E) d v h
theorem RFs.go (S : St K G σ H env f) (E : Ev Tbs.tb H f.flatten H' f'.flatten) {d : List D} {v : List V} (h : RFs H (ownO G f) d v) : RFs H' (ownO G f') d v := RFs.stay (S.stays E) d v h

/-- an operation on values by its reading r, and on data by g -/
def OpD (r : R2) (g : D → D → Option D) : Prop := ∀ {O : AS} {H : Hp} {x y : V} {d1 d2 d : D} {Q : VK}, (∀ a, O a → H a ≠ none) → RF H O d1 x → RF H O d2 y → g d1 d2 = some d → (∀ z H', Ext H H' → RF H' O d z → Q z H') → r x y H Q
def UnD (r : V → Hp → VK → Prop) (g : D → Option D) : Prop := ∀ {O : AS} {H : Hp} {x : V} {d1 d : D} {Q : VK}, (∀ a, O a → H a ≠ none) → RF H O d1 x → g d1 = some d → (∀ z H', Ext H H' → RF H' O d z → Q z H') → r x H Q
def CallD (r : List V → Hp → VK → Prop) (g : List D → Option D) : Prop := ∀ {O : AS} {H : Hp} {xs : List V} {ds : List D} {d : D} {Q : VK}, (∀ a, O a → H a ≠ none) → RFs H O ds xs → g ds = some d → (∀ z H', Ext H H' → RF H' O d z → Q z H') → r xs H Q
def e2 (g : D → D → Option D) (p q : EP1) : EP1 := fun env => (p env).bind fun x => (q env).bind fun y => g x y
def v2 (g : D → D → Option D) (p q : EV1) : EV1 := fun env => (p env).bind fun x => (q x.2).bind fun y => (g x.1 y.1).map fun d => (d, y.2)
theorem tp_op {r : R2} {g : D → D → Option D} {p q : EP1} (h : OpD r g) {Q : VK} (t : TP K b (e2 g p q) σ H Q) : tOp r (TP K b p) (TP K b q) σ H Q := by
  obtain ⟨G, env, fl, d, S, e, k⟩ := t
  obtain ⟨x, ex, e⟩ := Option.bind_eq_some_iff.mp e
  obtain ⟨y, ey, e⟩ := Option.bind_eq_some_iff.mp e
  refine ⟨G, env, fl, x, S, ex, fun v H1 e1 r1 => ⟨G, env, fl, y, S.ext e1, ey, fun w H2 e2 r2 => ?_⟩⟩
  exact h (av_dom ((S.ext e1).ext e2)) (r1.ext e2) r2 e fun z H3 e3 rz => k z H3 ((e1.trans e2).trans e3) rz
theorem tv_op {r : R2} {g : D → D → Option D} {p q : EV1} (h : OpD r g) {Q : VK} (t : TV K (v2 g p q) σ H Q) : tOp r (TV K p) (TV K q) σ H Q := by
  obtain ⟨G, env, fl, d, env', S, e, k⟩ := t
  obtain ⟨⟨x, en1⟩, ex, e⟩ := Option.bind_eq_some_iff.mp e
  obtain ⟨⟨y, en2⟩, ey, e⟩ := Option.bind_eq_some_iff.mp e
  obtain ⟨d', ed, e⟩ := Option.map_eq_some_iff.mp e
  cases e
  refine ⟨G, env, fl, x, en1, S, ex, fun v H1 f1 S1 E1 r1 => ⟨G, en1, f1, y, _, S1, ey, fun w H2 f2 S2 E2 r2 => ?_⟩⟩
  exact h S2.dom (r1.go S1 E2) r2 ed fun z H3 e3 rz => k z H3 f2 (S2.ext e3) ((E1.trans E2).trans (Ev.ofExt e3)) rz
/-! ### argument lists -/
def es0 : Env → Option (List D) := fun _ => some []
def es1 (p : EP1) (q : Env → Option (List D)) : Env → Option (List D) := fun env => (p env).bind fun x => (q env).map fun xs => x :: xs
def vs0 : Env → Option (List D × Env) := fun env => some ([], env)
def vs1 (p : EV1) (q : Env → Option (List D × Env)) : Env → Option (List D × Env) := fun env => (p env).bind fun x => (q x.2).map fun xs => (x.1 :: xs.1, xs.2)
section
variable {X : Cx} {a c : Expr} {es : List Expr} {pos : Pos} {p q : EP1} {pv qv : EV1}
theorem ps_nil' : PPs b X [] es0 := PA.wk pa_nil fun σ H Q h => by
  obtain ⟨G, env, fl, d, S, e, k⟩ := h
  cases e
  exact k [] H (Ext.refl H) rfl
theorem vs_nil : PVs X [] vs0 := PA.wk pa_nil fun σ H Q h => by
  obtain ⟨G, env, fl, d, env', S, e, k⟩ := h
  cases e
  exact k [] H fl S Ev.refl rfl
theorem ps_cons' {qs : Env → Option (List D)} (ha : PP b X a p) (hr : PPs b X es qs) (hs : starEach (a :: es) X.env = (false, eval a X.env) :: starEach es X.env := by rfl) : PPs b X (a :: es) (es1 p qs) :=
  PA.wk (pa_cons ha hr hs) fun σ H Q h => by
    obtain ⟨G, env, fl, d, S, e, k⟩ := h
    obtain ⟨x, ex, e⟩ := Option.bind_eq_some_iff.mp e
    obtain ⟨xs, ey, e⟩ := Option.map_eq_some_iff.mp e
    subst e
    exact ⟨G, env, fl, x, S, ex, fun v H1 e1 r1 => ⟨G, env, fl, xs, S.ext e1, ey, fun vs H2 e2 r2 => k (v :: vs) H2 (e1.trans e2) ⟨v, vs, rfl, r1.ext e2, r2⟩⟩⟩
theorem vs_cons {qs : Env → Option (List D × Env)} (ha : PV X a pv) (hr : PVs X es qs) (hs : starEach (a :: es) X.env = (false, eval a X.env) :: starEach es X.env := by rfl) : PVs X (a :: es) (vs1 pv qs) :=
  PA.wk (pa_cons ha hr hs) fun σ H Q h => by
    obtain ⟨G, env, fl, d, env', S, e, k⟩ := h
    obtain ⟨⟨x, en1⟩, ex, e⟩ := Option.bind_eq_some_iff.mp e
    obtain ⟨⟨xs, en2⟩, ey, e⟩ := Option.map_eq_some_iff.mp e
    cases e
    exact ⟨G, env, fl, x, en1, S, ex, fun v H1 f1 S1 E1 r1 => ⟨G, en1, f1, xs, _, S1, ey, fun vs H2 f2 S2 E2 r2 => k (v :: vs) H2 f2 S2 (E1.trans E2) ⟨v, vs, rfl, r1.go S1 E2, r2⟩⟩⟩
/-! ### constants, names -/
def cst (d : D) : EP1 := fun _ => some d
theorem tp_c {d : D} {v : V} (h : ∀ (H : Hp) O, RF H O d v) {Q : VK} (t : TP K b (cst d) σ H Q) : tC v σ H Q := by
  obtain ⟨G, env, fl, d, S, e, k⟩ := t
  cases e
  exact k v H (Ext.refl H) (h _ _)
theorem p_int {i j} : PP b X (.Constant (.int i) j pos) (cst (.int i)) := PE.wk pe_int fun σ H Q t => tp_c (d := .int i) (v := .int i) (fun _ _ => rfl) t
theorem p_str {i j} : PP b X (.Constant (.str i) j pos) (cst (.str i)) := PE.wk pe_str fun σ H Q t => tp_c (d := .str i) (v := .str i) (fun _ _ => rfl) t
theorem p_bl {i j} : PP b X (.Constant (.bool i) j pos) (cst (.bl i)) := PE.wk pe_bl fun σ H Q t => tp_c (d := .bl i) (v := .bl i) (fun _ _ => rfl) t
theorem p_non {j} : PP b X (.Constant .none j pos) (cst .non) := PE.wk pe_non fun σ H Q t => tp_c (d := .non) (v := .non) (fun _ _ => rfl) t
/-- a constant of the module -/
theorem p_glob {x : Str} {d : D} {v : V} {u : Value} (hg : Gl X x) (hm : X.mg x = some u) (r : RelV v u) (h : ∀ (H : Hp) O, RF H O d v) (hd : (x == ("__debug__" : Str)) = false := by decide) : PP b X (.Name x pos) (cst d) :=
  PE.wk (pe_glob hg hm r hd) fun σ H Q t => tp_c h t
/-- a name with fixed data | any name, looked at | any name, given away -/
def evar (i : Nat) : EP1 := fun env => match env[i]? with
  | some (.va .no d) => some d
  | _ => none
def bvar (i : Nat) : EP1 := fun env => match env[i]? with
  | some (.va _ d) => some d
  | _ => none
def vvar (i : Nat) : EV1 := fun env => match env[i]? with
  | some (.va .no d) => some (d, env)
  | some (.va (.own _) d) => some (d, env.set i (.va .no d))
  | _ => none
theorem p_var {i : Nat} {x : Str} (hN : X.N[i]? = some x) (hv : Vis X.env.scope x) (hd : (x == ("__debug__" : Str)) = false := by decide) (hcd : (x == ("__classdict__" : Str)) = false := by decide) : PP b X (.Name x pos) (evar i) :=
  PE.wk (pe_var hN hv hd hcd) fun σ H Q t => by
    obtain ⟨G, env, fl, d, S, e, k⟩ := t
    unfold evar at e
    split at e
    · rename_i d' he
      cases e
      obtain ⟨o, g, h1, h2, v, eo, hr⟩ := S.rep.get he
      subst eo
      exact ⟨v, h1, k v H (Ext.refl H) hr.2.low⟩
    · cases e
theorem b_var {i : Nat} {x : Str} (hN : X.N[i]? = some x) (hv : Vis X.env.scope x) (hd : (x == ("__debug__" : Str)) = false := by decide) (hcd : (x == ("__classdict__" : Str)) = false := by decide) : PP false X (.Name x pos) (bvar i) :=
  PE.wk (pe_var hN hv hd hcd) fun σ H Q t => by
    obtain ⟨G, env, fl, d, S, e, k⟩ := t
    unfold bvar at e
    split at e
    · rename_i m d' he
      cases e
      obtain ⟨o, g, h1, h2, v, eo, hr⟩ := S.rep.get he
      subst eo
      exact ⟨v, h1, k v H (Ext.refl H) (RF.stay (Stays.lower H fun a z => Bool.noConfusion z.1) _ _ hr.look)⟩
    · cases e
theorem v_var {i : Nat} {x : Str} (hN : X.N[i]? = some x) (hv : Vis X.env.scope x) (hd : (x == ("__debug__" : Str)) = false := by decide) (hcd : (x == ("__classdict__" : Str)) = false := by decide) : PV X (.Name x pos) (vvar i) :=
  PE.wk (pe_var hN hv hd hcd) fun σ H Q t => by
    obtain ⟨G, env, fl, d, env', S, e, k⟩ := t
    unfold vvar at e
    split at e
    · rename_i d' he
      cases e
      obtain ⟨o, g, h1, h2, v, eo, hr⟩ := S.rep.get he
      subst eo
      exact ⟨v, h1, k v H fl S Ev.refl hr.2⟩
    · rename_i F d' he
      cases e
      obtain ⟨v, h1, S', hr⟩ := S.giveUp he
      refine ⟨v, h1, k v H _ S' ⟨fun _ _ h _ _ => h, fun a ha => .inl ((mem_set_flatten ha).resolve_right (by simp)), fun _ h => h⟩ hr⟩
    · cases e
/-! ### between the kinds -/
def lift (p : EP1) : EV1 := fun env => (p env).map fun d => (d, env)
theorem v_of (h : PP true X a p) : PV X a (lift p) := PE.wk h fun σ H Q t => by
  obtain ⟨G, env, fl, d, env', S, e, k⟩ := t
  obtain ⟨d', ed, e⟩ := Option.map_eq_some_iff.mp e
  cases e
  exact ⟨G, env, fl, d, S, ed, fun v H' e r => k v H' fl (S.ext e) (Ev.ofExt e) r.of_av⟩
def isSc : D → Bool
  | .non => true | .bl _ => true | .int _ => true | .str _ => true | _ => false
theorem RF.sc {d : D} {v : V} (h : isSc d = true) (r : RF H O d v) : RF H' O' d v := by
  cases d <;> first | exact r | cases h
def escal (p : EP1) : EP1 := fun env => (p env).bind fun d => if isSc d = true then some d else none
theorem p_sc (h : PP false X a p) : PP b X a (escal p) := PE.wk h fun σ H Q t => by
  obtain ⟨G, env, fl, d, S, e, k⟩ := t
  obtain ⟨d', ed, e⟩ := Option.bind_eq_some_iff.mp e
  split at e
  · rename_i hs
    cases e
    exact ⟨G, env, fl, d, S, ed, fun v H' e r => k v H' e (r.sc hs)⟩
  · cases e
theorem p_low (h : PP true X a p) : PP b X a p := PE.wk h fun σ H Q t => by
  obtain ⟨G, env, fl, d, S, e, k⟩ := t
  exact ⟨G, env, fl, d, S, e, fun v H' e r => k v H' e r.of_av.low⟩
/-! ### operations -/
theorem p_op {op : Operator} {r : R2} {g : D → D → Option D} (ho : OpR X (binaryOp op) r) (hd : OpD r g) (ha : PP b X a p) (hc : PP b X c q) : PP b X (.BinOp a op c pos) (e2 g p q) := PE.wk (pe_op ho ha hc) fun σ H Q t => tp_op hd t
theorem v_op {op : Operator} {r : R2} {g : D → D → Option D} (ho : OpR X (binaryOp op) r) (hd : OpD r g) (ha : PV X a pv) (hc : PV X c qv) : PV X (.BinOp a op c pos) (v2 g pv qv) := PE.wk (pe_op ho ha hc) fun σ H Q t => tv_op hd t
theorem p_cmp {op : CmpOp} {r : R2} {g : D → D → Option D} (ho : OpR X (compareOp op) r) (hd : OpD r g) (ha : PP b X a p) (hc : PP b X c q) (hm : behindInMarks op c = false) : PP b X (.Compare a [op] [c] pos) (e2 g p q) := PE.wk (pe_cmpR ho ha hc hm) fun σ H Q t => tp_op hd t
theorem v_cmp {op : CmpOp} {r : R2} {g : D → D → Option D} (ho : OpR X (compareOp op) r) (hd : OpD r g) (ha : PV X a pv) (hc : PV X c qv) (hm : behindInMarks op c = false) : PV X (.Compare a [op] [c] pos) (v2 g pv qv) := PE.wk (pe_cmpR ho ha hc hm) fun σ H Q t => tv_op hd t
theorem p_ix {r : R2} {g : D → D → Option D} (ho : IxR X r) (hd : OpD r g) (ha : PP b X a p) (hc : PP b X c q) (hs : PlainIx c) : PP b X (.Subscript a c pos) (e2 g p q) := PE.wk (pe_ix ho ha hc hs) fun σ H Q t => tp_op hd t
theorem v_ix {r : R2} {g : D → D → Option D} (ho : IxR X r) (hd : OpD r g) (ha : PV X a pv) (hc : PV X c qv) (hs : PlainIx c) : PV X (.Subscript a c pos) (v2 g pv qv) := PE.wk (pe_ix ho ha hc hs) fun σ H Q t => tv_op hd t
/-- tests -/
def isB : Option (D × Env) → Option (Bool × Env)
  | some (.bl c, env) => some (c, env)
  | _ => none
def tst (p : EV1) : Env → Option (Bool × Env) := fun env => isB (p env)
theorem isB_some {x : Option (D × Env)} {y : Bool × Env} (h : isB x = some y) : x = some (.bl y.1, y.2) := by
  unfold isB at h
  split at h
  · cases h; rfl
  · cases h
theorem tt_of {t : TE} {p : EV1} {Q : Bool → Hp → Prop} (h : ∀ Q, TV K p σ H Q → t σ H Q) (hq : TT1 K (tst p) σ H Q) : tTest t σ H Q := by
  obtain ⟨G, env, fl, c, env', S, e, k⟩ := hq
  refine h _ ⟨G, env, fl, _, env', S, isB_some e, fun v H' fl' S' E r => ⟨c, r, k H' fl' S' E⟩⟩
theorem q_cmp {op : CmpOp} {r : R2} {g : D → D → Option D} (ho : OpR X (compareOp op) r) (hd : OpD r g) (ha : PV X a pv) (hc : PV X c qv) (hm : behindInMarks op c = false) : PQ X (.Compare a [op] [c] pos) (tst (v2 g pv qv)) :=
  PT.wk (pt_cmpR ho ha hc hm) fun σ H Q t => tt_of (fun Q h => tv_op hd h) t
theorem tq_of {p : EP1} {t : TE} {Q : Bool → Hp → Prop} (h : ∀ Q, TP K b p σ H Q → t σ H Q) (hq : TT1 K (tst (lift p)) σ H Q) : tTest t σ H Q := by
  obtain ⟨G, env, fl, c, env', S, e, k⟩ := hq
  obtain ⟨d, ed, e'⟩ := Option.map_eq_some_iff.mp (isB_some e)
  injection e' with e1 e2
  subst e1 e2
  exact h _ ⟨G, env, fl, _, S, ed, fun v H' e r => ⟨c, r, k H' fl (S.ext e) (Ev.ofExt e)⟩⟩
theorem q_cmpB {op : CmpOp} {r : R2} {g : D → D → Option D} (ho : OpR X (compareOp op) r) (hd : OpD r g) (ha : PP b X a p) (hc : PP b X c q) (hm : behindInMarks op c = false) : PQ X (.Compare a [op] [c] pos) (tst (lift (e2 g p q))) :=
  PT.wk (pt_cmpR ho ha hc hm) fun σ H Q t => tq_of (fun Q h => tp_op hd h) t
/-- an expression with a truth value -/
theorem q_val (h : PV X a pv) (he : ∀ whole, isTrue a X.env whole = (do let v ← whole; standAt a.pos; holding [v] (truthy v)) := by intro _; rfl) : PQ X a (tst pv) := PT.wk (pt_val h he) fun σ H Q t => tt_of (t := TV X.K pv) (fun Q h => h) t
theorem q_valB (h : PP b X a p) (he : ∀ whole, isTrue a X.env whole = (do let v ← whole; standAt a.pos; holding [v] (truthy v)) := by intro _; rfl) : PQ X a (tst (lift p)) := PT.wk (pt_val h he) fun σ H Q t => tq_of (t := TP X.K b p) (fun Q h => h) t
/-- by truth -/
def truD : D → Option Bool
  | .non => some false
  | .bl c => some c
  | .int i => some (i != 0)
  | .str s => if s.length ≤ big then some (s.length != 0) else none
  | .lst ds => some (!ds.isEmpty)
  | .tup ds => some (!ds.isEmpty)
  | .dk ks _ => some (!ks.isEmpty)
theorem tru_of {d : D} {v : V} {c : Bool} (h : RF H O d v) (e : truD d = some c) : TruV K v H c := by
  have emp : ∀ {ds : List D} {vs : List V}, RFs H O ds vs → ds.isEmpty = vs.isEmpty := fun {ds vs} q => by
    have := q.len
    cases ds <;> cases vs <;> simp_all
  cases d with
  | non => obtain rfl : v = .non := h; cases e; rfl
  | bl x => obtain rfl : v = .bl x := h; cases e; rfl
  | int x => obtain rfl : v = .int x := h; cases e; rfl
  | str x =>
    obtain rfl : v = .str x := h
    have e' : (if x.length ≤ big then some (x.length != 0) else none) = some c := e
    split at e'
    · rename_i hz
      cases e'
      refine ⟨big_le hz, ?_⟩
      cases q : x.length <;> simp
      omega
    · cases e'
  | tup ds =>
    obtain ⟨p, vs, rfl, hp, hs⟩ := h
    cases e
    rw [emp hs]
    exact .inr (.inl ⟨vs, SqT.of hp, rfl⟩)
  | lst ds =>
    obtain ⟨p, vs, rfl, hp, _, hs⟩ := h
    cases e
    rw [emp hs]
    exact .inl ⟨vs, SqL.of hp, rfl⟩
  | dk ks ds =>
    obtain ⟨p, vs, rfl, hp, _, hl, hs⟩ := h
    cases e
    refine .inr (.inr ⟨_, hp, ?_⟩)
    cases ks <;> cases vs <;> simp_all
def tru (p : EP1) : Env → Option (Bool × Env) := fun env => (p env).bind fun d => (truD d).map fun c => (c, env)
theorem q_tru (h : PP b X a p) (he : ∀ whole, isTrue a X.env whole = (do let v ← whole; standAt a.pos; holding [v] (truthy v)) := by intro _; rfl) : PQ X a (tru p) := PT.wk (pt_truth h he) fun σ H Q t => by
  obtain ⟨G, env, fl, c, env', S, e, k⟩ := t
  obtain ⟨d, ed, e⟩ := Option.bind_eq_some_iff.mp e
  obtain ⟨c', ec, e⟩ := Option.map_eq_some_iff.mp e
  cases e
  exact ⟨G, env, fl, d, S, ed, fun v H' e r => ⟨c, tru_of r ec, k H' fl (S.ext e) (Ev.ofExt e)⟩⟩
/-- and, or, not -/
def qand (p q : Env → Option (Bool × Env)) : Env → Option (Bool × Env) := fun env => (p env).bind fun x => if x.1 = true then q x.2 else some (false, x.2)
def qor (p q : Env → Option (Bool × Env)) : Env → Option (Bool × Env) := fun env => (p env).bind fun x => if x.1 = true then some (true, x.2) else q x.2
def qnot (p : Env → Option (Bool × Env)) : Env → Option (Bool × Env) := fun env => (p env).map fun x => (!x.1, x.2)
variable {tp tq : Env → Option (Bool × Env)} {rest : List Expr}
theorem tq_and {Q : Bool → Hp → Prop} (t : TT1 K (qand tp tq) σ H Q) : tAnd (TT1 K tp) (TT1 K tq) σ H Q := by
  obtain ⟨G, env, fl, c, env', S, e, k⟩ := t
  obtain ⟨⟨x, en1⟩, ex, e⟩ := Option.bind_eq_some_iff.mp e
  refine ⟨G, env, fl, x, en1, S, ex, fun H1 f1 S1 E1 => ?_⟩
  cases x with
  | true => exact ⟨G, en1, f1, c, env', S1, e, fun H2 f2 S2 E2 => k H2 f2 S2 (E1.trans E2)⟩
  | false =>
    cases e
    exact k H1 f1 S1 E1
theorem tq_or {Q : Bool → Hp → Prop} (t : TT1 K (qor tp tq) σ H Q) : tOr (TT1 K tp) (TT1 K tq) σ H Q := by
  obtain ⟨G, env, fl, c, env', S, e, k⟩ := t
  obtain ⟨⟨x, en1⟩, ex, e⟩ := Option.bind_eq_some_iff.mp e
  refine ⟨G, env, fl, x, en1, S, ex, fun H1 f1 S1 E1 => ?_⟩
  cases x with
  | false => exact ⟨G, en1, f1, c, env', S1, e, fun H2 f2 S2 E2 => k H2 f2 S2 (E1.trans E2)⟩
  | true =>
    cases e
    exact k H1 f1 S1 E1
abbrev PQW (X : Cx) (e : Expr) (f : Env → Option (Bool × Env)) : Prop := PW X e (TT1 X.K f)
theorem q_and1 (ha : PQ X a tp) : PQW X (.BoolOp .And [a] pos) tp := pw_and1 ha
theorem q_or1 (ha : PQ X a tp) : PQW X (.BoolOp .Or [a] pos) tp := pw_or1 ha
theorem q_and (ha : PQ X a tp) (hb : PQW X (.BoolOp .And (c :: rest) pos) tq) : PQW X (.BoolOp .And (a :: c :: rest) pos) (qand tp tq) := PW.wk (pw_and ha hb) fun σ H Q t => tq_and t
theorem q_or (ha : PQ X a tp) (hb : PQW X (.BoolOp .Or (c :: rest) pos) tq) : PQW X (.BoolOp .Or (a :: c :: rest) pos) (qor tp tq) := PW.wk (pw_or ha hb) fun σ H Q t => tq_or t
theorem q_bool (h : PQW X a tp) : PQ X a tp := PW.pt h
theorem q_not (ha : PQ X a tp) : PQ X (.UnaryOp .Not a pos) (qnot tp) := PT.wk (pt_not ha) fun σ H Q t => by
  obtain ⟨G, env, fl, c, env', S, e, k⟩ := t
  obtain ⟨⟨x, en1⟩, ex, e⟩ := Option.map_eq_some_iff.mp e
  cases e
  exact ⟨G, env, fl, x, _, S, ex, fun H1 f1 S1 E1 => k H1 f1 S1 E1⟩
/-- .. as values -/
def vand (p q : EV1) : EV1 := fun env => (isB (p env)).bind fun x => if x.1 = true then q x.2 else some (.bl false, x.2)
def vor (p q : EV1) : EV1 := fun env => (isB (p env)).bind fun x => if x.1 = true then some (.bl true, x.2) else q x.2
def vnot (p : EV1) : EV1 := fun env => (isB (p env)).map fun x => (.bl (!x.1), x.2)
theorem v_one {op} (h : PV X a pv) : PV X (.BoolOp op [a] pos) pv := pe_one h
theorem v_and (ha : PV X a pv) (hb : PV X (.BoolOp .And (c :: rest) pos) qv) : PV X (.BoolOp .And (a :: c :: rest) pos) (vand pv qv) := PE.wk (pe_and ha hb) fun σ H Q t => by
  obtain ⟨G, env, fl, d, env', S, e, k⟩ := t
  obtain ⟨⟨x, en1⟩, ex, e⟩ := Option.bind_eq_some_iff.mp e
  refine ⟨G, env, fl, .bl x, en1, S, isB_some ex, fun v H1 f1 S1 E1 r1 => ⟨x, r1, ?_⟩⟩
  cases x with
  | true => exact ⟨G, en1, f1, d, env', S1, e, fun v H2 f2 S2 E2 r2 => k v H2 f2 S2 (E1.trans E2) r2⟩
  | false =>
    cases e
    exact k _ H1 f1 S1 E1 rfl
theorem v_or (ha : PV X a pv) (hb : PV X (.BoolOp .Or (c :: rest) pos) qv) : PV X (.BoolOp .Or (a :: c :: rest) pos) (vor pv qv) := PE.wk (pe_or ha hb) fun σ H Q t => by
  obtain ⟨G, env, fl, d, env', S, e, k⟩ := t
  obtain ⟨⟨x, en1⟩, ex, e⟩ := Option.bind_eq_some_iff.mp e
  refine ⟨G, env, fl, .bl x, en1, S, isB_some ex, fun v H1 f1 S1 E1 r1 => ⟨x, r1, ?_⟩⟩
  cases x with
  | false => exact ⟨G, en1, f1, d, env', S1, e, fun v H2 f2 S2 E2 r2 => k v H2 f2 S2 (E1.trans E2) r2⟩
  | true =>
    cases e
    exact k _ H1 f1 S1 E1 rfl
theorem v_not (ha : PV X a pv) : PV X (.UnaryOp .Not a pos) (vnot pv) := PE.wk (pe_not ha) fun σ H Q t => by
  obtain ⟨G, env, fl, d, env', S, e, k⟩ := t
  obtain ⟨⟨x, en1⟩, ex, e⟩ := Option.map_eq_some_iff.mp e
  cases e
  exact ⟨G, env, fl, .bl x, _, S, isB_some ex, fun v H1 f1 S1 E1 r1 => ⟨x, r1, k _ H1 f1 S1 E1 rfl⟩⟩
def vif (t : Env → Option (Bool × Env)) (p q : EV1) : EV1 := fun env => (t env).bind fun x => if x.1 = true then p x.2 else q x.2
theorem v_if {t : Expr} (ht : PQ X t tp) (ha : PV X a pv) (hb : PV X c qv) : PV X (.IfExp t a c pos) (vif tp pv qv) := PE.wk (pe_ifExp ht ha hb) fun σ H Q h => by
  obtain ⟨G, env, fl, d, env', S, e, k⟩ := h
  obtain ⟨⟨x, en1⟩, ex, e⟩ := Option.bind_eq_some_iff.mp e
  refine ⟨G, env, fl, x, en1, S, ex, fun H1 f1 S1 E1 => ?_⟩
  cases x with
  | true => exact ⟨G, en1, f1, d, env', S1, e, fun v H2 f2 S2 E2 r2 => k v H2 f2 S2 (E1.trans E2) r2⟩
  | false => exact ⟨G, en1, f1, d, env', S1, e, fun v H2 f2 S2 E2 r2 => k v H2 f2 S2 (E1.trans E2) r2⟩
/-! ### tuples, lists, built-ins -/
def etup (p : Env → Option (List D)) : EP1 := fun env => (p env).bind fun ds => if ds.length ≤ big then some (.tup ds) else none
def vtup (p : Env → Option (List D × Env)) : EV1 := fun env => (p env).bind fun ds => if ds.1.length ≤ big then some (.tup ds.1, ds.2) else none
def nlst (p : Env → Option (List D × Env)) : Env → Option (List D × Env) := fun env => (p env).bind fun ds => if ds.1.length ≤ big then some ds else none
theorem p_tup {x1} {ps : Env → Option (List D)} (h : PPs b X es ps) : PP b X (.Tuple es x1 pos) (etup ps) := PE.wk (pe_tup h) fun σ H Q t => by
  obtain ⟨G, env, fl, d, S, e, k⟩ := t
  obtain ⟨ds, ed, e⟩ := Option.bind_eq_some_iff.mp e
  split at e
  · rename_i hz
    cases e
    refine ⟨G, env, fl, ds, S, ed, fun vs H1 e1 r1 => ⟨big_le (by rw [r1.len]; exact hz), fun p hp => ?_⟩⟩
    exact k _ _ (e1.trans (Ext.new hp)) ⟨p, vs, rfl, upd_same, r1.ext (Ext.new hp)⟩
  · cases e
theorem v_tup {x1} {ps : Env → Option (List D × Env)} (h : PVs X es ps) : PV X (.Tuple es x1 pos) (vtup ps) := PE.wk (pe_tup h) fun σ H Q t => by
  obtain ⟨G, env, fl, d, env', S, e, k⟩ := t
  obtain ⟨⟨ds, en1⟩, ed, e⟩ := Option.bind_eq_some_iff.mp e
  split at e
  · rename_i hz
    cases e
    refine ⟨G, env, fl, ds, _, S, ed, fun vs H1 f1 S1 E1 r1 => ⟨big_le (by rw [r1.len]; exact hz), fun p hp => ?_⟩⟩
    exact k _ _ f1 (S1.ext (Ext.new hp)) (E1.trans (Ev.ofExt (Ext.new hp))) ⟨p, vs, rfl, upd_same, r1.ext (Ext.new hp)⟩
  · cases e
/-- what a new list asks -/
theorem tn_end {Q : VK} {ds : List D} {vs : List V} {H1 : Hp} {p : Addr} (S : St K G σ H1 env f) (E : Ev Tbs.tb H f'.flatten H1 f.flatten) (hp : H1 p = none) (r : RFs H1 (ownO G f) ds vs)
    (k : ∀ p vs H' fl', St K (G.add p) σ H' env fl' → Ev Tbs.tb H f'.flatten H' fl'.flatten → H p = none → H' p = some (.lst vs) → RFs H' (ownO (G.add p) fl') ds vs → Q (.ref p) H') : Q (.ref p) (upd H1 p (.lst vs)) := by
  refine k p vs _ f (S.new hp) (E.trans (Ev.ofExt (Ext.new hp))) (E.dom p hp) upd_same ?_
  have e : Ext H1 (upd H1 p (.lst vs)) := Ext.new hp
  have av : ∀ a u, H1 a = some u → ¬ ownO G f a → ¬ ownO (G.add p) f a := fun a u h n z => by
    rcases z with (z | z) | z
    · exact n (.inl z)
    · rw [z, hp] at h
      cases h
    · exact n (.inr z)
  exact RFs.stay ⟨fun a vs h => e a _ h, fun a vs h n => ⟨e a _ h, av a _ h n⟩, fun a vs h n => ⟨e a _ h, av a _ h n⟩, fun a u vs h n => ⟨e a _ h, av a _ h n⟩⟩ _ _ r
theorem n_lst {ps : Env → Option (List D × Env)} (h : PVs X es ps) : PN X (.List es pos) (nlst ps) := PE.wk (pe_lst h) fun σ H Q t => by
  obtain ⟨G, env, fl, d, env', S, e, k⟩ := t
  obtain ⟨⟨ds, en1⟩, ed, e⟩ := Option.bind_eq_some_iff.mp e
  split at e
  · rename_i hz
    cases e
    exact ⟨G, env, fl, _, _, S, ed, fun vs H1 f1 S1 E1 r1 => ⟨big_le (by rw [r1.len]; exact hz), fun p hp => tn_end S1 E1 hp r1 k⟩⟩
  · cases e
def vlst (p : Env → Option (List D × Env)) : EV1 := fun env => (p env).map fun x => (.lst x.1, x.2)
/-- a new list, given away -/
theorem v_new {ps : Env → Option (List D × Env)} (h : PN X a ps) : PV X a (vlst ps) := PE.wk h fun σ H Q t => by
  obtain ⟨G, env, fl, d, env', S, e, k⟩ := t
  obtain ⟨⟨ds, en1⟩, ed, e⟩ := Option.map_eq_some_iff.mp e
  cases e
  refine ⟨G, env, fl, ds, _, S, ed, fun p vs H1 f1 S1 E1 hp h1 r1 => ?_⟩
  have S2 := S1.drop
  refine k _ H1 f1 S2 E1 ⟨p, vs, rfl, h1, fun z => ?_, RFs.stay (Stays.lower H1 fun a z => z.imp Or.inl id) _ _ r1⟩
  rcases z with z | z
  · exact S.exd p z hp
  · exact S1.exf p z (.inr rfl)
def ecall (g : List D → Option D) (p : Env → Option (List D)) : EP1 := fun env => (p env).bind g
def vcall (g : List D → Option D) (p : Env → Option (List D × Env)) : EV1 := fun env => (p env).bind fun x => (g x.1).map fun d => (d, x.2)
theorem tp_call {r : List V → Hp → VK → Prop} {g : List D → Option D} {ps : Env → Option (List D)} (h : CallD r g) {Q : VK} (t : TP K b (ecall g ps) σ H Q) : tCB r (TPs K b ps) σ H Q := by
  obtain ⟨G, env, fl, d, S, e, k⟩ := t
  obtain ⟨ds, ed, e⟩ := Option.bind_eq_some_iff.mp e
  exact ⟨G, env, fl, ds, S, ed, fun vs H1 e1 r1 => h (av_dom (S.ext e1)) r1 e fun z H2 e2 rz => k z H2 (e1.trans e2) rz⟩
theorem tv_call {r : List V → Hp → VK → Prop} {g : List D → Option D} {ps : Env → Option (List D × Env)} (h : CallD r g) {Q : VK} (t : TV K (vcall g ps) σ H Q) : tCB r (TVs K ps) σ H Q := by
  obtain ⟨G, env, fl, d, env', S, e, k⟩ := t
  obtain ⟨⟨ds, en1⟩, ed, e⟩ := Option.bind_eq_some_iff.mp e
  obtain ⟨d', ed', e⟩ := Option.map_eq_some_iff.mp e
  cases e
  exact ⟨G, env, fl, ds, _, S, ed, fun vs H1 f1 S1 E1 r1 => h S1.dom r1 ed' fun z H2 e2 rz => k z H2 f1 (S1.ext e2) (E1.trans (Ev.ofExt e2)) rz⟩
variable {x : Str} {ppos : Pos} {id T : String} {r : List V → Hp → VK → Prop} {g : List D → Option D} {ps : Env → Option (List D)} {vps : Env → Option (List D × Env)}
theorem p_callB (hc : CallR X (.builtin id) r) (hd : CallD r g) (hg : Gl X x) (hm : X.mg x = none) (hv : bootBuiltins x = some (.builtin id)) (ha : PPs b X (a :: es) ps) (hn : x ≠ "__name__" := by decide) (hdb : (x == ("__debug__" : Str)) = false := by decide)
    (he : starEach (a :: es) X.env = (false, eval a X.env) :: starEach es X.env := by rfl) (hpl : (backTo pos (starEach es X.env)).any (·.1) = false := by rfl) : PP b X (.Call (.Name x ppos) (a :: es) [] pos) (ecall g ps) :=
  PE.wk (pe_callB hc hg hm hv ha hn hdb he hpl) fun σ H Q t => tp_call hd t
theorem v_callB (hc : CallR X (.builtin id) r) (hd : CallD r g) (hg : Gl X x) (hm : X.mg x = none) (hv : bootBuiltins x = some (.builtin id)) (ha : PVs X (a :: es) vps) (hn : x ≠ "__name__" := by decide) (hdb : (x == ("__debug__" : Str)) = false := by decide)
    (he : starEach (a :: es) X.env = (false, eval a X.env) :: starEach es X.env := by rfl) (hpl : (backTo pos (starEach es X.env)).any (·.1) = false := by rfl) : PV X (.Call (.Name x ppos) (a :: es) [] pos) (vcall g vps) :=
  PE.wk (pe_callB hc hg hm hv ha hn hdb he hpl) fun σ H Q t => tv_call hd t
theorem p_callT (hc : CallR X (.type T) r) (hd : CallD r g) (hg : Gl X x) (hm : X.mg x = none) (hv : bootBuiltins x = some (.type T)) (ha : PPs b X (a :: es) ps) (hn : x ≠ "__name__" := by decide) (hdb : (x == ("__debug__" : Str)) = false := by decide)
    (he : starEach (a :: es) X.env = (false, eval a X.env) :: starEach es X.env := by rfl) (hpl : (backTo pos (starEach es X.env)).any (·.1) = false := by rfl) : PP b X (.Call (.Name x ppos) (a :: es) [] pos) (ecall g ps) :=
  PE.wk (pe_callTy hc hg hm hv ha hn hdb he hpl) fun σ H Q t => tp_call hd t
theorem v_callT (hc : CallR X (.type T) r) (hd : CallD r g) (hg : Gl X x) (hm : X.mg x = none) (hv : bootBuiltins x = some (.type T)) (ha : PVs X (a :: es) vps) (hn : x ≠ "__name__" := by decide) (hdb : (x == ("__debug__" : Str)) = false := by decide)
    (he : starEach (a :: es) X.env = (false, eval a X.env) :: starEach es X.env := by rfl) (hpl : (backTo pos (starEach es X.env)).any (·.1) = false := by rfl) : PV X (.Call (.Name x ppos) (a :: es) [] pos) (vcall g vps) :=
  PE.wk (pe_callTy hc hg hm hv ha hn hdb he hpl) fun σ H Q t => tv_call hd t
end
end
end DL

set_option Elab.async false
set_option linter.all false
set_option maxRecDepth 100000
set_option maxHeartbeats 2000000
/-! DL4: the operations on plain data, each with its rule. -/
namespace DL
open PySem PySem.Spec PyProof.Rows L2
section
variable [Tbs] {K : PySem.W.Frag} {G : Gh} {σ : L2.St} {H H' : Hp} {env : Env} {f f' : List (List Addr)} {O O' : AS} {b : Bool}
theorem OpD.or {r r' : R2} {g g' : D → D → Option D} (h : OpD r g) (h' : OpD r' g') (k : D → D → Option D) (hk : ∀ x y d, k x y = some d → g x y = some d ∨ g' x y = some d) : OpD (fun x y H Q => r x y H Q ∨ r' x y H Q) k :=
  fun {O H x y d1 d2 d Q} o a c e q => by
    rcases hk _ _ _ e with z | z
    · exact .inl (h o a c z q)
    · exact .inr (h' o a c z q)
/-! ### + -/
def addI : D → D → Option D
  | .int i, .int j => some (.int (i + j))
  | _, _ => none
def addS : D → D → Option D
  | .str i, .str j => if i.length + j.length ≤ big then some (.str (i ++ j)) else none
  | _, _ => none
def addL : D → D → Option D
  | .lst i, .lst j => if i.length + j.length ≤ big then some (.lst (i ++ j)) else none
  | _, _ => none
def addT : D → D → Option D
  | .tup i, .tup j => if i.length + j.length ≤ big then some (.tup (i ++ j)) else none
  | _, _ => none
def oAdd : D → D → Option D
  | .int i, .int j => addI (.int i) (.int j)
  | .str i, .str j => addS (.str i) (.str j)
  | .lst i, .lst j => addL (.lst i) (.lst j)
  | .tup i, .tup j => addT (.tup i) (.tup j)
  | _, _ => none
theorem intOp {g : Int → Int → Int} {C : Int → Int → Prop} {k : D → D → Option D} (hk : ∀ x y d, k x y = some d → ∃ i j, x = .int i ∧ y = .int j ∧ C i j ∧ d = .int (g i j)) : OpD (rI C fun i j => .int (g i j)) k := by
  intro O H x y d1 d2 d Q o hx hy e q
  obtain ⟨i, j, rfl, rfl, hc, rfl⟩ := hk _ _ _ e
  exact ⟨i, j, hx, hy, hc, q _ H (Ext.refl H) rfl⟩
theorem intOp0 {g : Int → Int → Int} {k : D → D → Option D} (hk : ∀ x y d, k x y = some d → ∃ i j, x = .int i ∧ y = .int j ∧ d = .int (g i j)) : OpD (rI0 fun i j => .int (g i j)) k := by
  intro O H x y d1 d2 d Q o hx hy e q
  obtain ⟨i, j, rfl, rfl, rfl⟩ := hk _ _ _ e
  exact ⟨i, j, hx, hy, q _ H (Ext.refl H) rfl⟩
theorem boolOp0 {g : Int → Int → Bool} {k : D → D → Option D} (hk : ∀ x y d, k x y = some d → ∃ i j, x = .int i ∧ y = .int j ∧ d = .bl (g i j)) : OpD (rI0 fun i j => .bl (g i j)) k := by
  intro O H x y d1 d2 d Q o hx hy e q
  obtain ⟨i, j, rfl, rfl, rfl⟩ := hk _ _ _ e
  exact ⟨i, j, hx, hy, q _ H (Ext.refl H) rfl⟩
theorem d_addI : OpD (rI0 fun i j => .int (i + j)) addI := intOp0 (g := fun i j => i + j) fun x y d e => by
  unfold addI at e
  split at e
  · cases e; exact ⟨_, _, rfl, rfl, rfl⟩
  · cases e
def rAddS : R2 := fun x y H Q => ∃ i j, x = .str i ∧ y = .str j ∧ i.length + j.length ≤ sizeLine ∧ Q (.str (i ++ j)) H
theorem d_addS : OpD rAddS addS := by
  intro O H x y d1 d2 d Q o hx hy e q
  unfold addS at e
  split at e
  · split at e
    · rename_i i j hz
      cases e
      exact ⟨_, _, hx, hy, big_le hz, q _ H (Ext.refl H) rfl⟩
    · cases e
  · cases e
theorem d_addL : OpD rCat addL := by
  intro O H x y d1 d2 d Q o hx hy e q
  unfold addL at e
  split at e
  · split at e
    · rename_i i j hz
      cases e
      obtain ⟨a, vs, rfl, ha, _, hs⟩ := hx
      obtain ⟨c, ws, rfl, hc, _, ht⟩ := hy
      refine ⟨a, c, vs, ws, rfl, rfl, ha, hc, big_le (by rw [hs.len, ht.len]; exact hz), fun p hp => ?_⟩
      exact q _ _ (Ext.new hp) ⟨p, vs ++ ws, rfl, upd_same, fun z => o p z hp, (hs.append ht).ext (Ext.new hp)⟩
    · cases e
  · cases e
theorem d_addT : OpD (rCatA K) addT := by
  intro O H x y d1 d2 d Q o hx hy e q
  unfold addT at e
  split at e
  · split at e
    · rename_i i j hz
      cases e
      obtain ⟨a, vs, rfl, ha, hs⟩ := hx
      obtain ⟨c, ws, rfl, hc, ht⟩ := hy
      refine ⟨a, c, vs, ws, rfl, rfl, SqT.of ha, SqT.of hc, big_le (by rw [hs.len, ht.len]; exact hz), fun e => ?_, fun ne e => ?_, fun n1 n2 p hp => ?_⟩
      · subst e
        have : i = [] := List.eq_nil_of_length_eq_zero hs.len.symm
        subst this
        exact q _ H (Ext.refl H) ⟨c, ws, rfl, hc, ht⟩
      · subst e
        have : j = [] := List.eq_nil_of_length_eq_zero ht.len.symm
        subst this
        exact q _ H (Ext.refl H) ⟨a, vs, rfl, ha, by rw [List.append_nil]; exact hs⟩
      · exact q _ _ (Ext.new hp) ⟨p, vs ++ ws, rfl, upd_same, (hs.append ht).ext (Ext.new hp)⟩
    · cases e
  · cases e
def rAdd4 (K : PySem.W.Frag) : R2 := fun x y H Q => (rI0 fun i j => .int (i + j)) x y H Q ∨ (rAddS x y H Q ∨ (rCat x y H Q ∨ rCatA K x y H Q))
theorem o_add {X : Cx} : OpR X (binaryOp .Add) (rAdd4 X.K) := op_add.or (OpR.or (r := rAddS) op_add_str (op_cat.or op_catA))
theorem d_add : OpD (rAdd4 K) oAdd := by
  intro O H x y d1 d2 d Q o hx hy e q
  unfold oAdd at e
  split at e
  · exact .inl (d_addI o hx hy e q)
  · exact .inr (.inl (d_addS o hx hy e q))
  · exact .inr (.inr (.inl (d_addL o hx hy e q)))
  · exact .inr (.inr (.inr (d_addT o hx hy e q)))
  · cases e
/-! ### whole numbers -/
def oSub : D → D → Option D
  | .int i, .int j => some (.int (i - j))
  | _, _ => none
def oMul : D → D → Option D
  | .int i, .int j => if (-(2 ^ 64) < i ∧ i < 2 ^ 64) ∨ (-(2 ^ 64) < j ∧ j < 2 ^ 64) then some (.int (i * j)) else none
  | _, _ => none
def oMod : D → D → Option D
  | .int i, .int j => if 0 < j then some (.int (i % j)) else none
  | _, _ => none
def oDiv : D → D → Option D
  | .int i, .int j => if 0 < j ∧ j < 1073741824 then some (.int (i / j)) else none
  | _, _ => none
def oPow : D → D → Option D
  | .int i, .int j => if 0 ≤ j ∧ j ≤ 1000000 ∧ i.natAbs < 2 ^ 64 then some (.int (i ^ j.toNat)) else none
  | _, _ => none
theorem d_sub : OpD (rI0 fun i j => .int (i - j)) oSub := intOp0 (g := fun i j => i - j) fun x y d e => by
  unfold oSub at e
  split at e
  · cases e; exact ⟨_, _, rfl, rfl, rfl⟩
  · cases e
theorem d_mul : OpD (rI CMul fun i j => .int (i * j)) oMul := intOp (g := fun i j => i * j) fun x y d e => by
  unfold oMul at e
  split at e
  · split at e
    · cases e; exact ⟨_, _, rfl, rfl, by assumption, rfl⟩
    · cases e
  · cases e
theorem d_mod : OpD (rI (fun _ j => 0 < j) fun i j => .int (i % j)) oMod := intOp (g := fun i j => i % j) fun x y d e => by
  unfold oMod at e
  split at e
  · split at e
    · cases e; exact ⟨_, _, rfl, rfl, by assumption, rfl⟩
    · cases e
  · cases e
theorem d_div : OpD (rI CDiv fun i j => .int (i / j)) oDiv := intOp (g := fun i j => i / j) fun x y d e => by
  unfold oDiv at e
  split at e
  · split at e
    · cases e; exact ⟨_, _, rfl, rfl, by assumption, rfl⟩
    · cases e
  · cases e
theorem d_pow : OpD (rI CPow fun i j => .int (i ^ j.toNat)) oPow := intOp (g := fun i j => i ^ j.toNat) fun x y d e => by
  unfold oPow at e
  split at e
  · split at e
    · cases e; exact ⟨_, _, rfl, rfl, by assumption, rfl⟩
    · cases e
  · cases e
/-! ### comparisons -/
def cmpI (p : Int → Int → Bool) : D → D → Option D
  | .int i, .int j => some (.bl (p i j))
  | _, _ => none
theorem d_cmpI {p : Int → Int → Bool} : OpD (rI0 fun i j => .bl (p i j)) (cmpI p) := boolOp0 (g := p) fun x y d e => by
  unfold cmpI at e
  split at e
  · cases e; exact ⟨_, _, rfl, rfl, rfl⟩
  · cases e
abbrev oLt : D → D → Option D := cmpI fun i j => decide (i < j)
abbrev oLe : D → D → Option D := cmpI fun i j => decide (i ≤ j)
abbrev oGt : D → D → Option D := cmpI fun i j => decide (j < i)
abbrev oGe : D → D → Option D := cmpI fun i j => decide (j ≤ i)
/-- a flat value -/
def toV : D → V
  | .bl b => .bl b
  | .int i => .int i
  | .str s => .str s
  | _ => .non
theorem RF.toV {d : D} {v : V} (h : isSc d = true) (r : RF H O d v) : v = toV d := by
  cases d <;> first | exact r | cases h
theorem RFs.toV : ∀ {ds : List D} {vs : List V}, ds.all isSc = true → RFs H O ds vs → vs = ds.map DL.toV
  | [], _, _, r => r
  | d :: ds, _, h, r => by
    obtain ⟨v, q, e, h1, h2⟩ := r
    simp only [List.all_cons, Bool.and_eq_true] at h
    rw [e, h1.toV h.1, RFs.toV h.2 h2]
    rfl
theorem flat_toV (d : D) : flatV (toV d) = true := by cases d <;> rfl
mutual
def toP : D → PyData
  | .non => .none
  | .bl b => .bool b
  | .int i => .int i
  | .str s => .str s
  | .tup ds => .tuple (toPs ds)
  | .lst ds => .list (toPs ds)
  | .dk _ _ => .none
def toPs : List D → List PyData
  | [] => []
  | d :: ds => toP d :: toPs ds
end
mutual
def noDk : D → Bool
  | .tup ds => noDks ds
  | .lst ds => noDks ds
  | .dk _ _ => false
  | _ => true
def noDks : List D → Bool
  | [] => true
  | d :: ds => noDk d && noDks ds
end
mutual
theorem RF.dp : ∀ (d : D) (v : V), noDk d = true → RF H O d v → Dp K H v (toP d)
  | .non, v, _, r => by obtain rfl : v = .non := r; exact .non
  | .bl b, v, _, r => by obtain rfl : v = .bl b := r; exact .bl b
  | .int b, v, _, r => by obtain rfl : v = .int b := r; exact .int b
  | .str b, v, _, r => by obtain rfl : v = .str b := r; exact .str b
  | .tup ds, v, h, r => by
    obtain ⟨a, vs, rfl, ha, hs⟩ := r
    exact .tup (SqT.of ha) (RFs.dp ds vs h hs)
  | .lst ds, v, h, r => by
    obtain ⟨a, vs, rfl, ha, _, hs⟩ := r
    exact .lst (SqL.of ha) (RFs.dp ds vs h hs)
  | .dk _ _, _, h, _ => by cases h
theorem RFs.dp : ∀ (ds : List D) (vs : List V), noDks ds = true → RFs H O ds vs → DpAll K H vs (toPs ds)
  | [], vs, _, r => by
    have e : vs = [] := r
    subst e
    exact .nil
  | d :: ds, vs, h, r => by
    obtain ⟨v, q, e, h1, h2⟩ := r
    subst e
    have h' : (noDk d && noDks ds) = true := h
    rw [Bool.and_eq_true] at h'
    exact .cons (RF.dp d v h'.1 h1) (RFs.dp ds q h'.2 h2)
end
def eqG (x y : D) : Option Bool := if noDk x = true ∧ noDk y = true ∧ SeqAt.shaped (toP x) = true ∧ SeqAt.shaped (toP y) = true then some (PyData.eqv (toP x) (toP y)) else none
def scB (x y : D) : Bool := isSc x && isSc y && L2.scal (toV x) (toV y)
def eqB (x y : D) : Option Bool := if scB x y = true then some (decide (toV x = toV y)) else eqG x y
def oEq (x y : D) : Option D := (eqB x y).map .bl
def oNe (x y : D) : Option D := (eqB x y).map fun c => .bl (!c)
def rEq2 (K : PySem.W.Frag) : R2 := fun x y H Q => L2.rEq x y H Q ∨ rEqD K x y H Q
def rNe2 (K : PySem.W.Frag) : R2 := fun x y H Q => L2.rNe x y H Q ∨ rNeD K x y H Q
theorem o_eq {X : Cx} (hu : X.A.units + 64 < cLine) : OpR X (compareOp .Eq) (rEq2 X.K) := op_eq.or (op_eqD hu)
theorem o_ne {X : Cx} (hu : X.A.units + 64 < cLine) : OpR X (compareOp .NotEq) (rNe2 X.K) := op_ne.or (op_neD hu)
theorem eqB_or {x y : D} {c : Bool} (h : eqB x y = some c) : (isSc x = true ∧ isSc y = true ∧ L2.scal (toV x) (toV y) = true ∧ c = decide (toV x = toV y)) ∨ (noDk x = true ∧ noDk y = true ∧ SeqAt.shaped (toP x) = true ∧ SeqAt.shaped (toP y) = true ∧ c = PyData.eqv (toP x) (toP y)) := by
  unfold eqB at h
  split at h
  · rename_i hs
    unfold scB at hs
    simp only [Bool.and_eq_true] at hs
    cases h
    exact .inl ⟨hs.1.1, hs.1.2, hs.2, rfl⟩
  · unfold eqG at h
    split at h
    · rename_i hs
      cases h
      exact .inr ⟨hs.1, hs.2.1, hs.2.2.1, hs.2.2.2, rfl⟩
    · cases h
theorem d_eq : OpD (rEq2 K) oEq := by
  intro O H x y d1 d2 d Q o hx hy e q
  obtain ⟨c, ec, rfl⟩ := Option.map_eq_some_iff.mp e
  rcases eqB_or ec with ⟨s1, s2, s3, rfl⟩ | ⟨n1, n2, s1, s2, rfl⟩
  · refine .inl ⟨?_, ?_⟩
    · rw [hx.toV s1, hy.toV s2]; exact s3
    · rw [hx.toV s1, hy.toV s2]; exact q _ H (Ext.refl H) rfl
  · exact .inr ⟨_, _, RF.dp _ _ n1 hx, RF.dp _ _ n2 hy, s1, s2, q _ H (Ext.refl H) rfl⟩
theorem d_ne : OpD (rNe2 K) oNe := by
  intro O H x y d1 d2 d Q o hx hy e q
  obtain ⟨c, ec, rfl⟩ := Option.map_eq_some_iff.mp e
  rcases eqB_or ec with ⟨s1, s2, s3, rfl⟩ | ⟨n1, n2, s1, s2, rfl⟩
  · refine .inl ⟨?_, ?_⟩
    · rw [hx.toV s1, hy.toV s2]; exact s3
    · rw [hx.toV s1, hy.toV s2]; exact q _ H (Ext.refl H) rfl
  · exact .inr ⟨_, _, RF.dp _ _ n1 hx, RF.dp _ _ n2 hy, s1, s2, q _ H (Ext.refl H) rfl⟩
/-- in: a flat thing in a row, a sign in a text -/
def inB (x y : D) : Option Bool := match y with
  | .lst ds => if isSc x = true ∧ ds.all isSc = true then some (inV (toV x) (ds.map toV)) else none
  | .tup ds => if isSc x = true ∧ ds.all isSc = true then some (inV (toV x) (ds.map toV)) else none
  | .str z => match x with
    | .str c => if c.length = 1 then some (decide ((c.cps.getD 0 0) ∈ z.cps.toList)) else none
    | _ => none
  | _ => none
def oIn (x y : D) : Option D := (inB x y).map .bl
def oNin (x y : D) : Option D := (inB x y).map fun c => .bl (!c)
def rInS (neg : Bool) : R2 := fun x y H Q => ∃ (c : Nat) (z : Str), x = .str ⟨#[c]⟩ ∧ y = .str z ∧ Q (.bl (if neg then !decide (c ∈ z.cps.toList) else decide (c ∈ z.cps.toList))) H
def rIn2 (K : PySem.W.Frag) (neg : Bool) : R2 := fun x y H Q => rIn K neg x y H Q ∨ rInS neg x y H Q
theorem o_in {X : Cx} : OpR X (compareOp .In) (rIn2 X.K false) := op_in_seq.or (r' := rInS false) op_in_sign
theorem o_nin {X : Cx} : OpR X (compareOp .NotIn) (rIn2 X.K true) := op_notIn_seq.or (r' := rInS true) op_notIn_sign
theorem one_sign {c : Str} (h : c.length = 1) : c = ⟨#[c.cps.getD 0 0]⟩ := by
  obtain ⟨⟨l⟩⟩ := c
  have h' : l.length = 1 := h
  match l, h' with
  | [x], _ => rfl
theorem inB_ok {x y : D} {v w : V} {c neg : Bool} {Q : VK} (hx : RF H O x v) (hy : RF H O y w) (e : inB x y = some c) (q : Q (.bl (if neg then !c else c)) H) : rIn2 K neg v w H Q := by
  unfold inB at e
  split at e
  · rename_i ds
    split at e
    · rename_i h
      cases e
      obtain ⟨a, vs, rfl, ha, _, hs⟩ := hy
      refine .inl ⟨a, vs, rfl, .inl (SqL.of ha), ?_, ?_, ?_⟩
      · rw [hx.toV h.1]; exact flat_toV _
      · rw [hs.toV h.2]; simp [flat_toV]
      · rw [hx.toV h.1, hs.toV h.2]; exact q
    · cases e
  · rename_i ds
    split at e
    · rename_i h
      cases e
      obtain ⟨a, vs, rfl, ha, hs⟩ := hy
      refine .inl ⟨a, vs, rfl, .inr (SqT.of ha), ?_, ?_, ?_⟩
      · rw [hx.toV h.1]; exact flat_toV _
      · rw [hs.toV h.2]; simp [flat_toV]
      · rw [hx.toV h.1, hs.toV h.2]; exact q
    · cases e
  · rename_i z
    split at e
    · rename_i cc
      split at e
      · rename_i hl
        cases e
        have e1 := one_sign hl
        refine .inr ⟨cc.cps.getD 0 0, z, ?_, hy, q⟩
        rw [← e1]
        exact hx
      · cases e
    · cases e
  · cases e
theorem d_in : OpD (rIn2 K false) oIn := by
  intro O H x y d1 d2 d Q o hx hy e q
  obtain ⟨c, ec, rfl⟩ := Option.map_eq_some_iff.mp e
  exact inB_ok hx hy ec (q _ H (Ext.refl H) rfl)
theorem d_nin : OpD (rIn2 K true) oNin := by
  intro O H x y d1 d2 d Q o hx hy e q
  obtain ⟨c, ec, rfl⟩ := Option.map_eq_some_iff.mp e
  exact inB_ok hx hy ec (q _ H (Ext.refl H) rfl)
/-- is None -/
def isN : D → Bool
  | .non => true | _ => false
def oIsN (x y : D) : Option D := if isN y = true then some (.bl (isN x)) else none
def oNotN (x y : D) : Option D := if isN y = true then some (.bl (!isN x)) else none
theorem isN_V {d : D} {v : V} (r : RF H O d v) : decide (v = .non) = isN d := by
  cases d with
  | non => obtain rfl : v = .non := r; rfl
  | bl b => obtain rfl : v = .bl b := r; rfl
  | int b => obtain rfl : v = .int b := r; rfl
  | str b => obtain rfl : v = .str b := r; rfl
  | tup ds => obtain ⟨a, vs, rfl, _⟩ := r; rfl
  | lst ds => obtain ⟨a, vs, rfl, _⟩ := r; rfl
  | dk ks ds => obtain ⟨a, vs, rfl, _⟩ := r; rfl
def rIsN : R2 := fun x y H Q => y = .non ∧ Q (.bl (decide (x = .non))) H
def rNotN : R2 := fun x y H Q => y = .non ∧ Q (.bl (!decide (x = .non))) H
theorem d_isN : OpD rIsN oIsN := by
  intro O H x y d1 d2 d Q o hx hy e q
  unfold oIsN at e
  split at e
  · rename_i h
    cases e
    have e2 : y = .non := of_decide_eq_true ((isN_V hy).trans h)
    exact ⟨e2, by rw [isN_V hx]; exact q _ H (Ext.refl H) rfl⟩
  · cases e
theorem d_notN : OpD rNotN oNotN := by
  intro O H x y d1 d2 d Q o hx hy e q
  unfold oNotN at e
  split at e
  · rename_i h
    cases e
    have e2 : y = .non := of_decide_eq_true ((isN_V hy).trans h)
    exact ⟨e2, by rw [isN_V hx]; exact q _ H (Ext.refl H) rfl⟩
  · cases e
/-! ### an item -/
def oIx : D → D → Option D
  | .lst ds, .int i => atI ds i
  | .tup ds, .int i => atI ds i
  | .str s, .int i => if s.length ≤ big then (atI s.cps.toList i).map fun c => .str ⟨#[c]⟩ else none
  | _, _ => none
theorem atI_RFs {ds : List D} {vs : List V} {i : Int} {d : D} (h : RFs H O ds vs) (e : atI ds i = some d) : ∃ v, atI vs i = some v ∧ RF H O d v := by
  unfold atI at e ⊢
  obtain ⟨j, ej, e⟩ := Option.bind_eq_some_iff.mp e
  rw [h.len, ej]
  exact h.get e
theorem d_ix : OpD (rIx K) oIx := by
  intro O H x y d1 d2 d Q o hx hy e q
  unfold oIx at e
  split at e
  · obtain ⟨a, vs, rfl, ha, _, hs⟩ := hx
    obtain ⟨v, hv, r⟩ := atI_RFs hs e
    exact .inl ⟨a, vs, _, v, rfl, hy, SqL.of ha, hv, q v H (Ext.refl H) r⟩
  · obtain ⟨a, vs, rfl, ha, hs⟩ := hx
    obtain ⟨v, hv, r⟩ := atI_RFs hs e
    exact .inr (.inl ⟨a, vs, _, v, rfl, hy, SqT.of ha, hv, q v H (Ext.refl H) r⟩)
  · split at e
    · rename_i hz
      obtain ⟨c, hc, rfl⟩ := Option.map_eq_some_iff.mp e
      exact .inr (.inr ⟨_, _, c, hx, hy, big_le hz, hc, q _ H (Ext.refl H) rfl⟩)
    · cases e
  · cases e
/-! ### built-ins -/
theorem CallD.or {r r' : List V → Hp → VK → Prop} {g g' : List D → Option D} (h : CallD r g) (h' : CallD r' g') (k : List D → Option D) (hk : ∀ x d, k x = some d → g x = some d ∨ g' x = some d) : CallD (fun x H Q => r x H Q ∨ r' x H Q) k :=
  fun {O H x ds d Q} o a e q => by
    rcases hk _ _ e with z | z
    · exact .inl (h o a z q)
    · exact .inr (h' o a z q)
theorem RFs.one {d : D} {vs : List V} (h : RFs H O [d] vs) : ∃ v, vs = [v] ∧ RF H O d v := by
  obtain ⟨v, r, e, h1, h2⟩ := h
  have e2 : r = [] := h2
  subst e2
  exact ⟨v, e, h1⟩
def gLen : List D → Option D
  | [.lst ds] => some (.int ds.length)
  | [.tup ds] => some (.int ds.length)
  | [.str s] => if s.length ≤ big then some (.int s.length) else none
  | _ => none
def rLenQ (K : PySem.W.Frag) : List V → Hp → VK → Prop := fun xs H Q => ∃ p ys, xs = [.ref p] ∧ (SqL K H p ys ∨ SqT K H p ys) ∧ Q (.int ys.length) H
def rLenT : List V → Hp → VK → Prop := fun xs H Q => ∃ z : Str, xs = [.str z] ∧ z.length ≤ sizeLine ∧ Q (.int z.length) H
def rLen2 (K : PySem.W.Frag) : List V → Hp → VK → Prop := fun xs H Q => rLenQ K xs H Q ∨ rLenT xs H Q
theorem c_len {X : Cx} : CallR X (.builtin "len") (rLen2 X.K) := CallR.or (r := rLenQ X.K) (r' := rLenT) call_len_seq call_len_str
theorem k_len : CallD (rLen2 K) gLen := by
  intro O H xs ds d Q o h e q
  unfold gLen at e
  split at e
  · cases e
    obtain ⟨v, rfl, a, vs, rfl, ha, _, hs⟩ := h.one
    exact .inl ⟨a, vs, rfl, .inl (SqL.of ha), by rw [hs.len]; exact q _ H (Ext.refl H) rfl⟩
  · cases e
    obtain ⟨v, rfl, a, vs, rfl, ha, hs⟩ := h.one
    exact .inl ⟨a, vs, rfl, .inr (SqT.of ha), by rw [hs.len]; exact q _ H (Ext.refl H) rfl⟩
  · split at e
    · rename_i hz
      cases e
      obtain ⟨v, rfl, hv⟩ := h.one
      obtain rfl : v = .str _ := hv
      exact .inr ⟨_, rfl, big_le hz, q _ H (Ext.refl H) rfl⟩
    · cases e
  · cases e
def gAbs : List D → Option D
  | [.int i] => some (.int (if i < 0 then -i else i))
  | _ => none
def rAbs : List V → Hp → VK → Prop := fun xs H Q => ∃ i, xs = [.int i] ∧ Q (.int (if i < 0 then -i else i)) H
theorem k_abs : CallD rAbs gAbs := by
  intro O H xs ds d Q o h e q
  unfold gAbs at e
  split at e
  · cases e
    obtain ⟨v, rfl, hv⟩ := h.one
    obtain rfl : v = .int _ := hv
    exact ⟨_, rfl, q _ H (Ext.refl H) rfl⟩
  · cases e
def gInt : List D → Option D
  | [.int i] => some (.int i)
  | [.bl c] => some (.int (if c then 1 else 0))
  | _ => none
def rInt : List V → Hp → VK → Prop := fun xs H Q => (∃ i, xs = [.int i] ∧ Q (.int i) H) ∨ ∃ k, xs = [.bl k] ∧ Q (.int (if k then 1 else 0)) H
theorem k_int : CallD rInt gInt := by
  intro O H xs ds d Q o h e q
  unfold gInt at e
  split at e
  · cases e
    obtain ⟨v, rfl, hv⟩ := h.one
    obtain rfl : v = .int _ := hv
    exact .inl ⟨_, rfl, q _ H (Ext.refl H) rfl⟩
  · cases e
    obtain ⟨v, rfl, hv⟩ := h.one
    obtain rfl : v = .bl _ := hv
    exact .inr ⟨_, rfl, q _ H (Ext.refl H) rfl⟩
  · cases e
def gStr : List D → Option D
  | [.int i] => if i.natAbs.log2 < 1920 then some (.str (toString i : String)) else none
  | _ => none
def rStr : List V → Hp → VK → Prop := fun xs H Q => ∃ i : Int, xs = [.int i] ∧ i.natAbs.log2 < 1920 ∧ Q (.str (toString i : String)) H
theorem k_str : CallD rStr gStr := by
  intro O H xs ds d Q o h e q
  unfold gStr at e
  split at e
  · split at e
    · cases e
      obtain ⟨v, rfl, hv⟩ := h.one
      obtain rfl : v = .int _ := hv
      exact ⟨_, rfl, by assumption, q _ H (Ext.refl H) rfl⟩
    · cases e
  · cases e
def gTuple : List D → Option D
  | [.lst ds] => some (.tup ds)
  | [.tup ds] => some (.tup ds)
  | _ => none
def rTuple (K : PySem.W.Frag) : List V → Hp → VK → Prop := fun xs H Q => ∃ p ys, xs = [.ref p] ∧ ((SqL K H p ys ∧ ∀ l, H l = none → Q (.ref l) (upd H l (.tup ys))) ∨ (SqT K H p ys ∧ Q (.ref p) H))
theorem k_tuple : CallD (rTuple K) gTuple := by
  intro O H xs ds d Q o h e q
  unfold gTuple at e
  split at e
  · cases e
    obtain ⟨v, rfl, a, vs, rfl, ha, _, hs⟩ := h.one
    exact ⟨a, vs, rfl, .inl ⟨SqL.of ha, fun l hl => q _ _ (Ext.new hl) ⟨l, vs, rfl, upd_same, hs.ext (Ext.new hl)⟩⟩⟩
  · cases e
    obtain ⟨v, rfl, a, vs, rfl, ha, hs⟩ := h.one
    exact ⟨a, vs, rfl, .inr ⟨SqT.of ha, q _ H (Ext.refl H) ⟨a, vs, rfl, ha, hs⟩⟩⟩
  · cases e
/-- isinstance(x, T), T a built-in class by its name -/
def kd : D → String
  | .non => "NoneType" | .bl _ => "bool" | .int _ => "int" | .str _ => "str" | .tup _ => "tuple" | .lst _ => "list" | .dk _ _ => "dict"
def isT (T : String) (d : D) : Bool := kd d == T || (T == "int" && kd d == "bool")
def kinds : List String := ["NoneType", "bool", "int", "str", "tuple", "list", "dict"]
def asked : List String := ["bool", "int", "str", "tuple", "list", "dict"]
theorem kit_all : (asked.all fun T => kinds.all fun k => kitB k T == some (k == T || (T == "int" && k == "bool"))) = true := by decide +kernel
theorem kit_kd {T : String} (hT : T ∈ asked) (d : D) : kitB (kd d) T = some (isT T d) := by
  have h := List.all_eq_true.mp (List.all_eq_true.mp kit_all T hT) (kd d) (by cases d <;> simp [kd, kinds])
  exact beq_iff_eq.mp h
theorem ty_kd {d : D} {v : V} (r : RF H O d v) : TyX K H v (.type (kd d)) := by
  cases d with
  | non => obtain rfl : v = .non := r; exact .base .non
  | bl b => obtain rfl : v = .bl b := r; exact .base (.bl b)
  | int b => obtain rfl : v = .int b := r; exact .base (.int b)
  | str b => obtain rfl : v = .str b := r; exact .base (.str b)
  | tup ds => obtain ⟨a, vs, rfl, ha, _⟩ := r; exact .base (.tup ha)
  | lst ds => obtain ⟨a, vs, rfl, ha, _⟩ := r; exact .base (.lst ha)
  | dk ks ds => obtain ⟨a, vs, rfl, ha, _⟩ := r; exact .base (.dK ha)
section
variable {X : Cx} {a c : Expr} {es : List Expr} {pos p1 p2 : Pos} {p q : EP1} {pv qv : EV1}
def eisi (T : String) (p : EP1) : EP1 := fun env => (p env).map fun d => .bl (isT T d)
theorem p_isi {T : String} {x : Str} (hT : T ∈ asked) (mi : X.mg "isinstance" = none) (mT : X.mg x = none) (hv : bootBuiltins x = some (.type T)) (ha : PP b X a p) (g1 : Gl X "isinstance" := by rfl) (g2 : Gl X x := by rfl) (hn : x ≠ "__name__" := by decide) (hd : (x == ("__debug__" : Str)) = false := by decide)
    (he : starEach (a :: [.Name x p2]) X.env = (false, eval a X.env) :: starEach [.Name x p2] X.env := by rfl) (hpl : (backTo pos (starEach [.Name x p2] X.env)).any (·.1) = false := by rfl) (hs2 : starEach [.Name x p2] X.env = (false, eval (.Name x p2) X.env) :: starEach [] X.env := by rfl) :
    PP b X (.Call (.Name "isinstance" p1) [a, .Name x p2] [] pos) (eisi T p) :=
  PE.wk (pe_callB call_isi g1 mi (by decide +kernel) (pa_cons ha (pa_cons (pe_bltn (v := .ty T) g2 mT hv rfl hn hd) pa_nil hs2) he) (by decide) (by decide) he hpl) fun σ H Q t => by
    obtain ⟨G, env, fl, d, S, e, k⟩ := t
    obtain ⟨d', ed, rfl⟩ := Option.map_eq_some_iff.mp e
    exact ⟨G, env, fl, d', S, ed, fun v H1 e1 r1 => ⟨v, .ty T, _, _, _, rfl, .ty T, ty_kd r1, kit_ty (kit_kd hT d'), k _ H1 e1 rfl⟩⟩
/-! ### slices -/
def cutD (ds : List D) (lo hi : Option Int) : List D := (ds.drop (HT.sIx ds.length 0 lo)).take (HT.sIx ds.length ds.length hi - HT.sIx ds.length 0 lo)
theorem cut_RFs {ds : List D} {vs : List V} (h : RFs H O ds vs) (lo hi : Option Int) : RFs H O (cutD ds lo hi) (cutV vs lo hi) := by
  unfold cutD cutV
  rw [h.len]
  exact (h.drop _).take _
abbrev EO1 := Env → Option (Option Int)
def TO1 (K : PySem.W.Frag) (q : EO1) : TO := fun σ H Q => ∃ G env fl o, St K G σ H env fl ∧ q env = some o ∧ ∀ H', Ext H H' → Q o H'
abbrev PPo (X : Cx) (e : Option Expr) (q : EO1) : Prop := PO X e (TO1 X.K q)
theorem PO.wk {X : Cx} {e : Option Expr} {t t' : TO} (h : PO X e t) (k : ∀ σ H Q, t' σ H Q → t σ H Q) : PO X e t' := ⟨fun pins s σ H Q I q => h.run pins s σ H Q I (k _ _ _ q)⟩
def onone : EO1 := fun _ => some none
def osome (p : EP1) : EO1 := fun env => match p env with
  | some (.int i) => some (some i)
  | _ => none
theorem o_none : PPo X none onone := PO.wk po_none fun σ H Q t => by
  obtain ⟨G, env, fl, o, S, e, k⟩ := t
  cases e
  exact k H (Ext.refl H)
theorem o_some (h : PP b X a p) : PPo X (some a) (osome p) := PO.wk (po_some h) fun σ H Q t => by
  obtain ⟨G, env, fl, o, S, e, k⟩ := t
  unfold osome at e
  split at e
  · rename_i i he
    cases e
    exact ⟨G, env, fl, _, S, he, fun v H1 e1 r1 => ⟨i, r1, k H1 e1⟩⟩
  · cases e
def gSl : D → Option Int → Option Int → Option D
  | .tup ds, lo, hi => some (.tup (cutD ds lo hi))
  | .str s, lo, hi => if s.length ≤ big then some (.str (cutS s lo hi)) else none
  | _, _, _ => none
def esl (p : EP1) (l h : EO1) : EP1 := fun env => (p env).bind fun d => (l env).bind fun x => (h env).bind fun y => gSl d x y
variable {lo hi : Option Expr} {ql qh : EO1}
theorem cut_whole {xs : List D} {lo hi : Option Int} (h : HT.sIx xs.length 0 lo = 0 ∧ HT.sIx xs.length xs.length hi = xs.length) : cutD xs lo hi = xs := by
  unfold cutD
  rw [h.1, h.2]
  simp
theorem p_sl (ha : PP b X a p) (hl : PPo X lo ql) (hh : PPo X hi qh) : PP b X (.Subscript a (.Slice lo hi none p2) pos) (esl p ql qh) :=
  PE.wk (pe_slice (sl_tupA.or sl_str) ha hl hh) fun σ H Q t => by
    obtain ⟨G, env, fl, d, S, e, k⟩ := t
    obtain ⟨d', ed, e⟩ := Option.bind_eq_some_iff.mp e
    obtain ⟨x, ex, e⟩ := Option.bind_eq_some_iff.mp e
    obtain ⟨y, ey, e⟩ := Option.bind_eq_some_iff.mp e
    refine ⟨G, env, fl, d', S, ed, fun v H1 e1 r1 => ⟨G, env, fl, x, S.ext e1, ex, fun H2 e2 => ⟨G, env, fl, y, (S.ext e1).ext e2, ey, fun H3 e3 => ?_⟩⟩⟩
    have r3 := (r1.ext e2).ext e3
    have e13 := (e1.trans e2).trans e3
    unfold gSl at e
    split at e
    · cases e
      obtain ⟨q, vs, rfl, hq, hs⟩ := r3
      refine .inl ⟨q, vs, rfl, SqT.of hq, fun hw => ?_, fun _ p hp => ?_⟩
      · rw [hs.len] at hw
        rw [cut_whole hw] at k
        exact k _ H3 e13 ⟨q, vs, rfl, hq, hs⟩
      · exact k _ _ (e13.trans (Ext.new hp)) ⟨p, _, rfl, upd_same, (cut_RFs hs x y).ext (Ext.new hp)⟩
    · split at e
      · rename_i hz
        cases e
        exact .inr ⟨_, r3, big_le hz, k _ H3 e13 rfl⟩
      · cases e
    · cases e
/-! ### a list looked at from above: its items are fixed -/
def TS1 (K : PySem.W.Frag) (p : Env → Option (List D)) : TE := fun σ H Q => ∃ G env fl ds, St K G σ H env fl ∧ p env = some ds ∧ ∀ a vs H', Ext H H' → H' a = some (.lst vs) → RFs H' (ownO G fl) ds vs → Q (.ref a) H'
abbrev PS1 (X : Cx) (e : Expr) (p : Env → Option (List D)) : Prop := PE X e (TS1 X.K p)
def noF (F : Nat → Bool) : Nat → Bool
  | 0 => true
  | n + 1 => !F n && noF F n
theorem noF_iff {F : Nat → Bool} : ∀ {n : Nat}, noF F n = true ↔ ∀ i, i < n → F i = false
  | 0 => by simp [noF]
  | n + 1 => by
    unfold noF
    rw [Bool.and_eq_true, noF_iff]
    constructor
    · rintro ⟨h1, h2⟩ i hi
      by_cases e : i = n
      · subst e; simpa using h1
      · exact h2 i (by omega)
    · intro h
      exact ⟨by simpa using h n (by omega), fun i hi => h i (by omega)⟩
theorem RIs.fixed : ∀ {F : Nat → Bool} {ds : List D} {vs : List V} {g : List Addr}, (∀ i, i < ds.length → F i = false) → RIs H O F ds vs g → RFs H O ds vs ∧ g = []
  | _, [], _, _, _, h => h
  | F, d :: ds, vs, g, hF, h => by
    obtain ⟨v, r, f1, f2, e, ef, h1, h2⟩ := h
    rw [hF 0 (by simp)] at h1
    obtain ⟨a, c⟩ := RIs.fixed (fun i hi => hF (i + 1) (by simpa using hi)) h2
    refine ⟨⟨v, r, e, h1.2, a⟩, ?_⟩
    rw [ef, h1.1, c]
    rfl
theorem RIs.mk : ∀ {F : Nat → Bool} {ds : List D} {vs : List V}, (∀ i, i < ds.length → F i = false) → RFs H O ds vs → RIs H O F ds vs []
  | _, [], _, _, h => ⟨h, rfl⟩
  | F, d :: ds, vs, hF, h => by
    obtain ⟨v, r, e, h1, h2⟩ := h
    refine ⟨v, r, [], [], e, rfl, ?_, RIs.mk (fun i hi => hF (i + 1) (by simpa using hi)) h2⟩
    rw [hF 0 (by simp)]
    exact ⟨rfl, h1⟩
def svar (i : Nat) : Env → Option (List D) := fun env => match env[i]? with
  | some (.va .no (.lst ds)) => some ds
  | some (.va (.own F) (.lst ds)) => if noF F ds.length = true then some ds else none
  | some (.va (.pin F) (.lst ds)) => if noF F ds.length = true then some ds else none
  | _ => none
theorem s_var {i : Nat} {x : Str} (hN : X.N[i]? = some x) (hv : Vis X.env.scope x) (hd : (x == ("__debug__" : Str)) = false := by decide) (hcd : (x == ("__classdict__" : Str)) = false := by decide) : PS1 X (.Name x pos) (svar i) :=
  PE.wk (pe_var hN hv hd hcd) fun σ H Q t => by
    obtain ⟨G, env, fl, ds, S, e, k⟩ := t
    unfold svar at e
    split at e
    · rename_i ds' he
      cases e
      obtain ⟨o, g, h1, h2, v, eo, hr⟩ := S.rep.get he
      subst eo
      obtain ⟨_, a, vs, rfl, ha, _, hs⟩ := hr
      exact ⟨_, h1, k a vs H (Ext.refl H) ha hs⟩
    · rename_i F ds' he
      split at e
      · rename_i hF
        cases e
        obtain ⟨o, g, h1, h2, v, eo, hr⟩ := S.rep.get he
        subst eo
        obtain ⟨a, vs, g', rfl, _, ha, hs⟩ := hr
        exact ⟨_, h1, k a vs H (Ext.refl H) ha (hs.fixed (noF_iff.mp hF)).1⟩
      · cases e
    · rename_i F ds' he
      split at e
      · rename_i hF
        cases e
        obtain ⟨o, g, h1, h2, v, eo, hr⟩ := S.rep.get he
        subst eo
        obtain ⟨a, vs, g', rfl, _, ha, hs⟩ := hr
        exact ⟨_, h1, k a vs H (Ext.refl H) ha (hs.fixed (noF_iff.mp hF)).1⟩
      · cases e
    · cases e
def eLst : Option D → Option (List D)
  | some (.lst ds) => some ds
  | _ => none
theorem s_of (h : PP true X a p) : PS1 X a (fun env => eLst (p env)) := PE.wk h fun σ H Q t => by
  obtain ⟨G, env, fl, ds, S, e, k⟩ := t
  have e' : p env = some (.lst ds) := by
    change eLst (p env) = some ds at e
    unfold eLst at e
    split at e
    · rename_i h
      cases e
      exact h
    · cases e
  refine ⟨G, env, fl, _, S, e', fun v H1 e1 r1 => ?_⟩
  obtain ⟨q, vs, rfl, hq, _, hs⟩ := r1
  exact k q vs H1 e1 hq hs.of_av
def sIxE (s : Env → Option (List D)) (q : EP1) : EP1 := fun env => (s env).bind fun ds => (q env).bind fun i => oIx (.lst ds) i
theorem p_ixS {s : Env → Option (List D)} (ha : PS1 X a s) (hc : PP false X c q) (hs : PlainIx c) : PP true X (.Subscript a c pos) (sIxE s q) := PE.wk (pe_ix ix_list ha hc hs) fun σ H Q t => by
  obtain ⟨G, env, fl, d, S, e, k⟩ := t
  obtain ⟨ds, ed, e⟩ := Option.bind_eq_some_iff.mp e
  obtain ⟨i, ei, e⟩ := Option.bind_eq_some_iff.mp e
  refine ⟨G, env, fl, ds, S, ed, fun a vs H1 e1 h1 r1 => ⟨G, env, fl, i, S.ext e1, ei, fun w H2 e2 r2 => ?_⟩⟩
  unfold oIx at e
  split at e
  · rename_i j he
    cases he
    obtain ⟨v, hv, r⟩ := atI_RFs (r1.ext e2) e
    exact ⟨a, vs, _, v, rfl, r2, SqL.of (e2 a _ h1), hv, k v H2 (e1.trans e2) (RF.stay (Stays.lower H2 fun _ z => z.2) _ _ r)⟩
  · rename_i h; cases h
  · rename_i h; cases h
  · cases e
def nsl (s : Env → Option (List D)) (l h : EO1) : Env → Option (List D × Env) := fun env => (s env).bind fun ds => (l env).bind fun x => (h env).map fun y => (cutD ds x y, env)
theorem n_sl {s : Env → Option (List D)} (ha : PS1 X a s) (hl : PPo X lo ql) (hh : PPo X hi qh) : PN X (.Subscript a (.Slice lo hi none p2) pos) (nsl s ql qh) :=
  PE.wk (pe_slice sl_list ha hl hh) fun σ H Q t => by
    obtain ⟨G, env, fl, d, env', S, e, k⟩ := t
    obtain ⟨ds, ed, e⟩ := Option.bind_eq_some_iff.mp e
    obtain ⟨x, ex, e⟩ := Option.bind_eq_some_iff.mp e
    obtain ⟨y, ey, e⟩ := Option.map_eq_some_iff.mp e
    cases e
    refine ⟨G, env, fl, ds, S, ed, fun v vs H1 e1 h1 r1 => ⟨G, env, fl, x, S.ext e1, ex, fun H2 e2 => ⟨G, env, fl, y, (S.ext e1).ext e2, ey, fun H3 e3 => ?_⟩⟩⟩
    refine ⟨v, vs, rfl, SqL.of (e3 _ _ (e2 _ _ h1)), fun p hp => ?_⟩
    exact tn_end (((S.ext e1).ext e2).ext e3) (Ev.ofExt ((e1.trans e2).trans e3)) hp (cut_RFs ((r1.ext e2).ext e3) x y) k
/-- list(x) of a row looked at from above, of a fixed row -/
def vLst : Option (D × Env) → Option (List D × Env)
  | some (.lst ds, e) => some (ds, e)
  | some (.tup ds, e) => some (ds, e)
  | _ => none
theorem n_list {x1 : Pos} (mg : X.mg "list" = none) (ha : PV X a pv) (hg : Gl X "list" := by rfl)
    (he : starEach (a :: []) X.env = (false, eval a X.env) :: starEach [] X.env := by rfl) (hpl : (backTo pos (starEach [] X.env)).any (·.1) = false := by rfl) : PN X (.Call (.Name "list" x1) [a] [] pos) (fun env => vLst (pv env)) :=
  PE.wk (pe_callTy call_list_of hg mg (by decide +kernel) (pa_cons ha pa_nil he) (by decide) (by decide) he hpl) fun σ H Q t => by
    obtain ⟨G, env, fl, ds, env', S, e, k⟩ := t
    have e' : pv env = some (.lst ds, env') ∨ pv env = some (.tup ds, env') := by
      change vLst (pv env) = some (ds, env') at e
      unfold vLst at e
      split at e
      · cases e; exact .inl (by assumption)
      · cases e; exact .inr (by assumption)
      · cases e
    rcases e' with e' | e'
    · refine ⟨G, env, fl, _, env', S, e', fun v H1 f1 S1 E1 r1 => ?_⟩
      obtain ⟨q, vs, rfl, hq, _, hs⟩ := r1
      exact ⟨q, vs, rfl, .inl (SqL.of hq), fun l hl => tn_end S1 E1 hl hs k⟩
    · refine ⟨G, env, fl, _, env', S, e', fun v H1 f1 S1 E1 r1 => ?_⟩
      obtain ⟨q, vs, rfl, hq, hs⟩ := r1
      exact ⟨q, vs, rfl, .inr (SqT.of hq), fun l hl => tn_end S1 E1 hl hs k⟩
/-- a list and another one -/
def ncat (p q : EV1) : Env → Option (List D × Env) := fun env => (vLst' (p env)).bind fun x => (vLst' (q x.2)).bind fun y => if x.1.length + y.1.length ≤ big then some (x.1 ++ y.1, y.2) else none
where vLst' : Option (D × Env) → Option (List D × Env)
  | some (.lst ds, e) => some (ds, e)
  | _ => none
theorem vLst'_some {x : Option (D × Env)} {y : List D × Env} (h : ncat.vLst' x = some y) : x = some (.lst y.1, y.2) := by
  unfold ncat.vLst' at h
  split at h
  · cases h; rfl
  · cases h
theorem n_cat (ha : PV X a pv) (hc : PV X c qv) : PN X (.BinOp a .Add c pos) (ncat pv qv) := PE.wk (pe_op op_cat ha hc) fun σ H Q t => by
  obtain ⟨G, env, fl, ds, env', S, e, k⟩ := t
  obtain ⟨⟨x, en1⟩, ex, e⟩ := Option.bind_eq_some_iff.mp e
  obtain ⟨⟨y, en2⟩, ey, e⟩ := Option.bind_eq_some_iff.mp e
  split at e
  · rename_i hz
    cases e
    refine ⟨G, env, fl, _, en1, S, vLst'_some ex, fun v H1 f1 S1 E1 r1 => ⟨G, en1, f1, _, _, S1, vLst'_some ey, fun w H2 f2 S2 E2 r2 => ?_⟩⟩
    obtain ⟨q1, vs, rfl, hq1, _, hs1⟩ := r1.go S1 E2
    obtain ⟨q2, ws, rfl, hq2, _, hs2⟩ := r2
    exact ⟨q1, q2, vs, ws, rfl, rfl, hq1, hq2, big_le (by rw [hs1.len, hs2.len]; exact hz), fun l hl => tn_end S2 (E1.trans E2) hl (hs1.append hs2) k⟩
  · cases e
/-- sep.join(a row of texts) -/
def strsOf : List D → Option (List Str)
  | [] => some []
  | .str s :: ds => (strsOf ds).map fun r => s :: r
  | _ :: _ => none
theorem strsOf_some : ∀ {ds : List D} {ss : List Str}, strsOf ds = some ss → ds = ss.map D.str
  | [], _, h => by cases h; rfl
  | .str s :: ds, _, h => by
    obtain ⟨r, hr, rfl⟩ := Option.map_eq_some_iff.mp h
    rw [strsOf_some hr]
    rfl
  | .non :: _, _, h => by cases h
  | .bl _ :: _, _, h => by cases h
  | .int _ :: _, _, h => by cases h
  | .tup _ :: _, _, h => by cases h
  | .lst _ :: _, _, h => by cases h
  | .dk _ _ :: _, _, h => by cases h
def gJoin : D → D → Option D
  | .str a, .lst ds => (strsOf ds).bind fun ss => if (ss.map (·.length)).sum + ss.length * a.length ≤ big then some (.str (Txt.join a ss)) else none
  | _, _ => none
theorem gJoin_some {x y d : D} (h : gJoin x y = some d) : ∃ a ss, x = .str a ∧ y = .lst (ss.map D.str) ∧ (ss.map (·.length)).sum + ss.length * a.length ≤ big ∧ d = .str (Txt.join a ss) := by
  unfold gJoin at h
  split at h
  · obtain ⟨ss, es, h⟩ := Option.bind_eq_some_iff.mp h
    split at h
    · cases h
      exact ⟨_, ss, rfl, by rw [strsOf_some es], by assumption, rfl⟩
    · cases h
  · cases h
theorem v_join {apos : Pos} (ho : PV X a pv) (hc : PV X c qv) (hs : starEach [c] X.env = [(false, eval c X.env)] := by rfl) (hbase : attributeBase a "join" X.env (eval a X.env) = eval a X.env := by rfl) (hline : (apos.endLine == pos.line) = true := by rfl) :
    PV X (.Call (.Attribute a "join" apos) [c] [] pos) (v2 gJoin pv qv) := PE.wk (pe_join ho hc hs hbase hline) fun σ H Q t => by
  obtain ⟨G, env, fl, d, env', S, e, k⟩ := t
  obtain ⟨⟨x, en1⟩, ex, e⟩ := Option.bind_eq_some_iff.mp e
  obtain ⟨⟨y, en2⟩, ey, e⟩ := Option.bind_eq_some_iff.mp e
  obtain ⟨d', ed, e⟩ := Option.map_eq_some_iff.mp e
  cases e
  obtain ⟨sa, ss, e1, e2, hz, rfl⟩ := gJoin_some ed
  dsimp only at e1 e2
  subst e1 e2
  refine ⟨G, env, fl, _, en1, S, ex, fun v H1 f1 S1 E1 r1 => ?_⟩
  obtain rfl : v = .str sa := r1
  refine ⟨⟨_, rfl⟩, G, en1, f1, _, _, S1, ey, fun w H2 f2 S2 E2 r2 => ?_⟩
  obtain ⟨q, vs, rfl, hq, _, hs2⟩ := r2
  have e3 := hs2.strs
  subst e3
  exact ⟨sa, q, ss, rfl, rfl, .inl (SqL.of hq), big_le hz, k _ H2 f2 S2 (E1.trans E2) rfl⟩
end
end
end DL

set_option Elab.async false
set_option linter.all false
set_option maxRecDepth 100000
set_option maxHeartbeats 2000000
/-! DL5: what is walked, targets, comprehensions, statements. -/
namespace DL
open PySem PySem.Spec PyProof.Rows L2
section
variable [Tbs] {K : PySem.W.Frag} {G : Gh} {σ : L2.St} {H H' : Hp} {env : Env} {f f' : List (List Addr)} {O O' : AS} {b : Bool}
/-! ### what is walked -/
def Gives (J : It) (Src : Hp → AS → Prop) (ds : List D) : Prop :=
  (∀ H1 O1 H2 O2, Stays H1 O1 H2 O2 → Src H1 O1 → Src H2 O2) ∧
  ∀ H O (i : Nat), Src H O → (∀ d, ds[i]? = some d → J.go i H ∧ ∀ x H'', J.yld i H x H'' → H'' = H ∧ RF H O d x) ∧ (ds.length ≤ i → J.stop i H)
def ItD [Tbs] (K : PySem.W.Frag) (wi : TI) (it : Env → Option (List D × Env)) : Prop := ∀ {σ : L2.St} {H : Hp} {R : It → Hp → Prop} {G : Gh} {env env' : Env} {fl : List (List Addr)} {ds : List D}, St K G σ H env fl → it env = some (ds, env') →
  (∀ J H' fl' Src, St K G σ H' env' fl' → Ev Tbs.tb H fl.flatten H' fl'.flatten → Src H' (ownO G fl') → Gives J Src ds → R J H') → wi σ H R
structure PIt [Tbs] (X : Cx) (tg iter : Expr) (wi : TI) (it : Env → Option (List D × Env)) : Prop where
  pi : PI X tg iter wi
  d : ItD X.K wi it
def itL : Option (D × Env) → Option (List D × Env)
  | some (.lst ds, e) => some (ds, e)
  | _ => none
def itT : Option (D × Env) → Option (List D × Env)
  | some (.tup ds, e) => some (ds, e)
  | _ => none
def itS : Option (D × Env) → Option (List D × Env)
  | some (.str s, e) => some (s.cps.toList.map fun c => .str ⟨#[c]⟩, e)
  | _ => none
def rngL (lo : Int) (n : Nat) : List D := (List.range n).map fun (i : Nat) => .int (lo + i)
def itR1 : Option (List D × Env) → Option (List D × Env)
  | some ([.int j], e) => if -(2 ^ 62) ≤ j ∧ j < 2 ^ 62 then some (rngL 0 j.toNat, e) else none
  | _ => none
def itR2 : Option (List D × Env) → Option (List D × Env)
  | some ([.int i, .int j], e) => if -(2 ^ 62) ≤ i ∧ i < 2 ^ 62 ∧ -(2 ^ 62) ≤ j ∧ j < 2 ^ 62 then some (rngL i (j - i).toNat, e) else none
  | _ => none
section
variable {X : Cx} {tg a c : Expr} {es : List Expr} {pos p1 : Pos} {pv : EV1} {vps : Env → Option (List D × Env)}
theorem it_list (h : PV X a pv) : PIt X tg a (iList X.K (TV X.K pv)) (fun env => itL (pv env)) := by
  refine ⟨pi_list h, fun {σ H R G env env' fl ds} S e k => ?_⟩
  have e' : pv env = some (.lst ds, env') := by
    change itL (pv env) = _ at e
    unfold itL at e
    split at e
    · cases e; assumption
    · cases e
  refine ⟨G, env, fl, _, env', S, e', fun v H1 f1 S1 E1 r1 => ?_⟩
  obtain ⟨p, vs, rfl, hp, ho, hs⟩ := r1
  refine ⟨p, rfl, ⟨vs, SqL.of hp⟩, k _ H1 f1 (fun H O => ∃ vs, H p = some (.lst vs) ∧ ¬ O p ∧ RFs H O ds vs) S1 E1 ⟨vs, hp, ho, hs⟩ ⟨fun H1 O1 H2 O2 st ⟨vs, h1, h2, h3⟩ => ?_, fun H O i ⟨vs, h1, h2, h3⟩ => ⟨fun d hd => ?_, fun hl => ?_⟩⟩⟩
  · obtain ⟨q1, q2⟩ := st.lst p vs h1 h2
    exact ⟨vs, q1, q2, RFs.stay st _ _ h3⟩
  · obtain ⟨v, hv, r⟩ := h3.get hd
    refine ⟨⟨vs, v, SqL.of h1, hv⟩, fun x H'' ⟨e1, e2⟩ => ⟨e1, ?_⟩⟩
    rw [e2 vs (SqL.of h1)] at hv
    cases hv
    exact r
  · exact ⟨vs, SqL.of h1, by rw [h3.len]; exact hl⟩
theorem it_tup (h : PV X a pv) : PIt X tg a (iTup X.K (TV X.K pv)) (fun env => itT (pv env)) := by
  refine ⟨pi_tup h, fun {σ H R G env env' fl ds} S e k => ?_⟩
  have e' : pv env = some (.tup ds, env') := by
    change itT (pv env) = _ at e
    unfold itT at e
    split at e
    · cases e; assumption
    · cases e
  refine ⟨G, env, fl, _, env', S, e', fun v H1 f1 S1 E1 r1 => ?_⟩
  obtain ⟨p, vs, rfl, hp, hs⟩ := r1
  refine ⟨p, rfl, ⟨vs, SqT.of hp⟩, k _ H1 f1 (fun H O => ∃ vs, H p = some (.tup vs) ∧ RFs H O ds vs) S1 E1 ⟨vs, hp, hs⟩ ⟨fun H1 O1 H2 O2 st ⟨vs, h1, h3⟩ => ?_, fun H O i ⟨vs, h1, h3⟩ => ⟨fun d hd => ?_, fun hl => ?_⟩⟩⟩
  · exact ⟨vs, st.tup p vs h1, RFs.stay st _ _ h3⟩
  · obtain ⟨v, hv, r⟩ := h3.get hd
    refine ⟨⟨vs, v, SqT.of h1, hv⟩, fun x H'' ⟨e1, e2⟩ => ⟨e1, ?_⟩⟩
    rw [e2 vs (SqT.of h1)] at hv
    cases hv
    exact r
  · exact ⟨vs, SqT.of h1, by rw [h3.len]; exact hl⟩
theorem it_str (h : PV X a pv) : PIt X tg a (iStr (TV X.K pv)) (fun env => itS (pv env)) := by
  refine ⟨pi_str h, fun {σ H R G env env' fl ds} S e k => ?_⟩
  obtain ⟨s, e', rfl⟩ : ∃ s, pv env = some (.str s, env') ∧ ds = s.cps.toList.map fun c => .str ⟨#[c]⟩ := by
    change itS (pv env) = _ at e
    unfold itS at e
    split at e
    · cases e; exact ⟨_, by assumption, rfl⟩
    · cases e
  refine ⟨G, env, fl, _, env', S, e', fun v H1 f1 S1 E1 r1 => ?_⟩
  refine ⟨s, r1, k _ H1 f1 (fun H O => True) S1 E1 trivial ⟨fun _ _ _ _ _ _ => trivial, fun H O i _ => ⟨fun d hd => ?_, fun hl => ?_⟩⟩⟩
  · rw [List.getElem?_map] at hd
    obtain ⟨c, hc, rfl⟩ := Option.map_eq_some_iff.mp hd
    have hc' : s.cps[i]? = some c := by rw [← Array.getElem?_toList]; exact hc
    refine ⟨(Array.getElem?_eq_some_iff.mp hc').1, fun x H'' ⟨e1, c2, h2, e2⟩ => ⟨e1, ?_⟩⟩
    rw [hc'] at h2
    cases h2
    exact e2
  · show s.cps.size ≤ i
    simpa using hl
theorem gives_rng (lo : Int) (n : Nat) : Gives (Itr lo n) (fun _ _ => True) (rngL lo n) := by
  refine ⟨fun _ _ _ _ _ _ => trivial, fun H O i _ => ⟨fun d hd => ?_, fun hl => ?_⟩⟩
  · unfold rngL at hd
    rw [List.getElem?_map] at hd
    obtain ⟨j, hj, rfl⟩ := Option.map_eq_some_iff.mp hd
    obtain ⟨h1, h2⟩ := List.getElem?_eq_some_iff.mp hj
    rw [List.length_range] at h1
    rw [List.getElem_range] at h2
    subst h2
    exact ⟨h1, fun x H'' ⟨e1, e2⟩ => ⟨e1, e2⟩⟩
  · show n ≤ i
    simpa [rngL] using hl
theorem it_rng1 (hm : X.mg "range" = none) (h : PVs X [a] vps) (hg : Gl X "range" := by rfl) (hs : starEach [a] X.env = [(false, eval a X.env)] := by rfl) : PIt X tg (.Call (.Name "range" p1) [a] [] pos) (iRng1 (TVs X.K vps)) (fun env => itR1 (vps env)) := by
  refine ⟨pi_range1 hg hm h hs, fun {σ H R G env env' fl ds} S e k => ?_⟩
  obtain ⟨j, e', hj, rfl⟩ : ∃ j : Int, vps env = some ([.int j], env') ∧ (-(2 ^ 62) ≤ j ∧ j < 2 ^ 62) ∧ ds = rngL 0 j.toNat := by
    change itR1 (vps env) = _ at e
    unfold itR1 at e
    split at e
    · split at e
      · cases e; exact ⟨_, by assumption, by assumption, rfl⟩
      · cases e
    · cases e
  refine ⟨G, env, fl, _, env', S, e', fun v H1 f1 S1 E1 r1 => ?_⟩
  obtain ⟨v', rfl, hv⟩ := r1.one
  obtain rfl : v' = .int j := hv
  exact ⟨j, rfl, hj.1, hj.2, k _ H1 f1 _ S1 E1 trivial (gives_rng 0 j.toNat)⟩
theorem it_rng2 (hm : X.mg "range" = none) (h : PVs X [a, c] vps) (hg : Gl X "range" := by rfl) (hs : starEach [a, c] X.env = [(false, eval a X.env), (false, eval c X.env)] := by rfl) (hs2 : starEach [c] X.env = [(false, eval c X.env)] := by rfl) :
    PIt X tg (.Call (.Name "range" p1) [a, c] [] pos) (iRng2 (TVs X.K vps)) (fun env => itR2 (vps env)) := by
  refine ⟨pi_range2 hg hm h hs hs2, fun {σ H R G env env' fl ds} S e k => ?_⟩
  obtain ⟨i, j, e', hj, rfl⟩ : ∃ i j : Int, vps env = some ([.int i, .int j], env') ∧ (-(2 ^ 62) ≤ i ∧ i < 2 ^ 62 ∧ -(2 ^ 62) ≤ j ∧ j < 2 ^ 62) ∧ ds = rngL i (j - i).toNat := by
    change itR2 (vps env) = _ at e
    unfold itR2 at e
    split at e
    · split at e
      · cases e; exact ⟨_, _, by assumption, by assumption, rfl⟩
      · cases e
    · cases e
  refine ⟨G, env, fl, _, env', S, e', fun v H1 f1 S1 E1 r1 => ?_⟩
  obtain ⟨v1, r, e1, hv1, h2⟩ := r1
  obtain ⟨v2, rfl, hv2⟩ := h2.one
  subst e1
  obtain rfl : v1 = .int i := hv1
  obtain rfl : v2 = .int j := hv2
  exact ⟨i, j, rfl, hj, k _ H1 f1 _ S1 E1 trivial (gives_rng i (j - i).toNat)⟩
end
/-! ### targets -/
def TgD [Tbs] (K : PySem.W.Frag) (g : TG) (ts : List Nat) (tgs : D → Env → Option Env) : Prop := ∀ {σ : L2.St} {H : Hp} {Q : L2.St → Hp → Prop} {G : Gh} {env env' : Env} {fl : List (List Addr)} {d : D} {v : V}, St K G σ H env fl → RF H (ownO G fl) d v → tgs d env = some env' →
  (∀ σ' fl', St K G σ' H env' fl' → (∀ a, a ∈ fl'.flatten → a ∈ fl.flatten) → σ'.length = σ.length → (∀ j, j ∉ ts → σ'[j]? = σ[j]?) → Q σ' H) → g v σ H Q
def tgN (i : Nat) : D → Env → Option Env := fun d env => if i < env.length then some (env.set i (.va .no d)) else none
theorem tg_name (i : Nat) : TgD K (gName i) [i] (tgN i) := by
  intro σ H Q G env env' fl d v S r e k
  unfold tgN at e
  split at e
  · rename_i hi
    cases e
    refine k _ _ (S.setFz hi r) (fun a ha => (mem_set_flatten ha).resolve_right (by simp)) (by simp) fun j hj => ?_
    rw [List.getElem?_set_ne (by intro z; exact hj (by simp [z]))]
  · cases e
def tgNs : List Nat → List D → Env → Option Env
  | [], [], env => some env
  | i :: is, d :: ds, env => (tgN i d env).bind fun e => tgNs is ds e
  | _, _, _ => none
def gNames : List Nat → TGs
  | [] => gNil
  | i :: is => gCons (gName i) (gNames is)
theorem tg_names : ∀ (is : List Nat) {σ : L2.St} {H : Hp} {Q : L2.St → Hp → Prop} {G : Gh} {env env' : Env} {fl : List (List Addr)} {ds : List D} {vs : List V}, St K G σ H env fl → RFs H (ownO G fl) ds vs → tgNs is ds env = some env' →
    (∀ σ' fl', St K G σ' H env' fl' → (∀ a, a ∈ fl'.flatten → a ∈ fl.flatten) → σ'.length = σ.length → (∀ j, j ∉ is → σ'[j]? = σ[j]?) → Q σ' H) → gNames is vs σ H Q
  | [], σ, H, Q, G, env, env', fl, ds, vs, S, r, e, k => by
    cases ds with
    | nil =>
      cases e
      exact ⟨r, k σ fl S (fun _ h => h) rfl fun _ _ => rfl⟩
    | cons d ds => cases e
  | i :: is, σ, H, Q, G, env, env', fl, ds, vs, S, r, e, k => by
    cases ds with
    | nil => cases e
    | cons d ds =>
      obtain ⟨e1, h1, h2⟩ := Option.bind_eq_some_iff.mp e
      obtain ⟨v, vr, rfl, r1, r2⟩ := r
      refine ⟨v, vr, rfl, tg_name i S r1 h1 fun σ1 f1 S1 sub hl hj => ?_⟩
      refine tg_names is S1 (RFs.stay (Stays.lower H fun a z => z.imp id (sub a)) _ _ r2) h2 fun σ2 f2 S2 sub2 hl2 hj2 => ?_
      exact k σ2 f2 S2 (fun a h => sub a (sub2 a h)) (hl2.trans hl) fun j hn => (hj2 j (by simp at hn; simp [hn])).trans (hj j (by simp at hn; simp [hn]))
def tgT (is : List Nat) : D → Env → Option Env := fun d env => match d with
  | .tup ds => tgNs is ds env
  | _ => none
theorem tgNs_len : ∀ {is : List Nat} {ds : List D} {env env' : Env}, tgNs is ds env = some env' → ds.length = is.length
  | [], [], _, _, _ => rfl
  | [], _ :: _, _, _, e => by cases e
  | _ :: _, [], _, _, e => by cases e
  | i :: is, d :: ds, env, env', e => by
    obtain ⟨e1, _, h2⟩ := Option.bind_eq_some_iff.mp e
    simp [tgNs_len h2]
theorem tg_tup (is : List Nat) {n : Nat} (hn : n = is.length) : TgD K (gTup K n (gNames is)) is (tgT is) := by
  intro σ H Q G env env' fl d v S r e k
  unfold tgT at e
  split at e
  · rename_i ds
    obtain ⟨a, vs, rfl, ha, hs⟩ := r
    refine ⟨a, vs, rfl, SqT.of ha, by rw [hs.len, hn]; exact tgNs_len e, tg_names is S hs e k⟩
  · cases e
/-! ### comprehensions -/
def wipeE (env : Env) : List Nat → Env
  | [] => env
  | v :: vs => (wipeE env vs).set v .un
def wipeF (f : List (List Addr)) : List Nat → List (List Addr)
  | [] => f
  | v :: vs => (wipeF f vs).set v []
theorem wipeE_length (env : Env) : ∀ vs, (wipeE env vs).length = env.length
  | [] => rfl
  | v :: vs => by unfold wipeE; rw [List.length_set, wipeE_length env vs]
theorem St.setUn (S : St K G σ H env f) (i : Nat) (o : Option V) (hi : i < env.length) : St K G (σ.set i o) H (env.set i .un) (f.set i []) := by
  have hf : f[i]? = some f[i]! := by
    have : i < f.length := by rw [(S.rep.len).2]; exact hi
    simp [this]
  have lo : ∀ a, ownO G (f.set i []) a → ownO G f a := fun a z => z.imp id fun z => (mem_set_flatten z).resolve_right (by simp)
  exact S.put hf (Stays.lower H lo) (fun a u xs h n => ⟨h, fun z => n (lo a z)⟩) (fun _ h => h) ⟨fun a o h1 h2 h3 => S.ev.keep a o h1 h2 h3, fun a ha => S.ev.own a ((mem_set_flatten ha).resolve_right (by simp)), S.ev.dom⟩ rfl (fun _ _ _ => rfl) (by simp) (by simp) S.tbl (fun F e z => by cases z)
theorem wipeF_sub {f : List (List Addr)} : ∀ {vs : List Nat} {a : Addr}, a ∈ (wipeF f vs).flatten → a ∈ f.flatten
  | [], _, h => h
  | v :: vs, a, h => wipeF_sub ((mem_set_flatten (show a ∈ ((wipeF f vs).set v []).flatten from h)).resolve_right (by simp))
theorem set_big {α : Type} {l : List α} {i : Nat} {x : α} (h : ¬ i < l.length) : l.set i x = l := List.set_eq_of_length_le (by omega)
theorem St.wipe (S : St K G σ H env f) : ∀ vs, St K G (L2.wipe σ vs) H (wipeE env vs) (wipeF f vs)
  | [] => S
  | v :: vs => by
    have h := St.wipe S vs
    by_cases hv : v < (wipeE env vs).length
    · exact h.setUn v none hv
    · have l := h.rep.len
      show St K G ((L2.wipe σ vs).set v none) H ((wipeE env vs).set v .un) ((wipeF f vs).set v [])
      rw [set_big hv, set_big (by rw [l.1]; exact hv), set_big (by rw [l.2]; exact hv)]
      exact h
/-- back to the slots of before -/
theorem St.unwipe : ∀ (vs : List Nat) {σ : L2.St} {env : Env} {f : List (List Addr)}, St K G (L2.wipe σ vs) H env f → St K G σ H (wipeE env vs.reverse) (wipeF f vs.reverse)
  | [], σ, env, f, S => S
  | v :: vs, σ, env, f, S => by
    have S' : St K G ((L2.wipe σ vs).set v none) H env f := S
    have key : St K G (L2.wipe σ vs) H (env.set v .un) (f.set v []) := by
      by_cases hv : v < env.length
      · have l := S'.rep.len
        rw [List.length_set] at l
        have hv' : v < (L2.wipe σ vs).length := by rw [l.1]; exact hv
        have q := S'.setUn v ((L2.wipe σ vs)[v]) hv
        rw [List.set_set, List.set_getElem_self] at q
        exact q
      · have l := S'.rep.len
        rw [List.length_set] at l
        rw [set_big hv, set_big (by rw [l.2]; exact hv)]
        rw [set_big (by rw [l.1]; exact hv)] at S'
        exact S'
    have q := St.unwipe vs key
    have e1 : ∀ (vs : List Nat) (env : Env) v, wipeE (env.set v .un) vs = wipeE env (vs ++ [v]) := by
      intro vs
      induction vs with
      | nil => intro env v; rfl
      | cons w vs ih =>
        intro env v
        show (wipeE (env.set v .un) vs).set w .un = (wipeE env (vs ++ [v])).set w .un
        rw [ih]
    have e2 : ∀ (vs : List Nat) (f : List (List Addr)) v, wipeF (f.set v []) vs = wipeF f (vs ++ [v]) := by
      intro vs
      induction vs with
      | nil => intro f v; rfl
      | cons w vs ih =>
        intro f v
        show (wipeF (f.set v []) vs).set w [] = (wipeF f (vs ++ [v])).set w []
        rw [ih]
    rw [e1, e2, ← List.reverse_cons] at q
    exact q
theorem wipe_eq {σ σ' : L2.St} (hl : σ'.length = σ.length) : ∀ {vs : List Nat}, (∀ j, j ∉ vs → σ'[j]? = σ[j]?) → L2.wipe σ' vs = L2.wipe σ vs := by
  intro vs h
  apply List.ext_getElem?
  intro j
  by_cases hj : j ∈ vs
  · have : ∀ {σ : L2.St} {vs : List Nat}, j ∈ vs → j < σ.length → (L2.wipe σ vs)[j]? = some none := by
      intro σ vs hj hlt
      induction vs with
      | nil => cases hj
      | cons v vs ih =>
        show ((L2.wipe σ vs).set v none)[j]? = some none
        by_cases e : v = j
        · subst e
          rw [List.getElem?_set_self (by rw [L2.wipe_length]; exact hlt)]
        · rw [List.getElem?_set_ne e]
          exact ih ((List.mem_cons.mp hj).resolve_left (fun z => e z.symm))
    by_cases hlt : j < σ.length
    · rw [this hj hlt, this hj (by rw [hl]; exact hlt)]
    · rw [List.getElem?_eq_none (by rw [L2.wipe_length]; omega), List.getElem?_eq_none (by rw [L2.wipe_length]; omega)]
  · have : ∀ {σ : L2.St} {vs : List Nat}, j ∉ vs → (L2.wipe σ vs)[j]? = σ[j]? := fun h => wipe_out h
    rw [this hj, this hj, h j hj]
/-- the names of a comprehension that held something fixed hold it again -/
def restE (env0 : Env) : List Nat → Env → Env
  | [], env => env
  | v :: vs, env => match env0[v]? with
    | some (.va .no d) => (restE env0 vs env).set v (.va .no d)
    | _ => restE env0 vs env
def restF (env0 : Env) : List Nat → List (List Addr) → List (List Addr)
  | [], f => f
  | v :: vs, f => match env0[v]? with
    | some (.va .no _) => (restF env0 vs f).set v []
    | _ => restF env0 vs f
theorem restF_sub {env0 : Env} {f : List (List Addr)} : ∀ {vs : List Nat} {a : Addr}, a ∈ (restF env0 vs f).flatten → a ∈ f.flatten
  | [], _, h => h
  | v :: vs, a, h => by
    unfold restF at h
    split at h
    · exact restF_sub ((mem_set_flatten h).resolve_right (by simp))
    · exact restF_sub h
theorem St.rest {env0 : Env} {σ : L2.St} (hr : ∀ (i : Nat) d, env0[i]? = some (.va .no d) → ∃ v, σ[i]? = some (some v) ∧ RF H (ownO G f) d v) : ∀ (vs : List Nat), St K G σ H env f → St K G σ H (restE env0 vs env) (restF env0 vs f)
  | [], S => S
  | v :: vs, S => by
    have q := St.rest hr vs S
    unfold restE restF
    split
    · rename_i d hd
      obtain ⟨w, h1, h2⟩ := hr v d hd
      have hi : v < (restE env0 vs env).length := by rw [← (q.rep.len).1]; exact (List.getElem?_eq_some_iff.mp h1).1
      have z := q.setFz (i := v) hi (RF.stay (Stays.lower H fun a z => z.imp id restF_sub) d w h2)
      have e : σ.set v (some w) = σ := by
        obtain ⟨hlt, hx⟩ := List.getElem?_eq_some_iff.mp h1
        rw [← hx, List.set_getElem_self]
      rw [e] at z
      exact z
    · exact q
def lcLoop (vs : List Nat) (tgs : D → Env → Option Env) (cond : Env → Option (Bool × Env)) (elt : EV1) : List D → Env → List D → Option (List D × Env)
  | [], env, acc => some (acc, env)
  | d :: ds, env, acc => (tgs d env).bind fun e1 => (cond e1).bind fun c => if c.1 = true then (elt c.2).bind fun y => if acc.length < big then lcLoop vs tgs cond elt ds (wipeE y.2 vs) (acc ++ [y.1]) else none
    else lcLoop vs tgs cond elt ds (wipeE c.2 vs) acc
def nlc (vs : List Nat) (it : Env → Option (List D × Env)) (tgs : D → Env → Option Env) (cond : Env → Option (Bool × Env)) (elt : EV1) : Env → Option (List D × Env) := fun env =>
  (it env).bind fun x => (lcLoop vs tgs cond elt x.1 (wipeE x.2 vs) []).map fun y => (y.1, restE x.2 vs (wipeE y.2 vs.reverse))
/-- an object that others own changes -/
theorem St.exMut {p : Addr} {xs ys : List V} (S : St K G σ H env f) (hx : G.ex p) (hp : H p = some (.lst xs)) (h0 : G.H0 p = none) : St K G σ (upd H p (.lst ys)) env f ∧ Stays H (ownO G f) (upd H p (.lst ys)) (ownO G f) := by
  have st : Stays H (ownO G f) (upd H p (.lst ys)) (ownO G f) := by
    refine ⟨fun a vs h => ?_, fun a vs h n => ⟨?_, n⟩, fun a vs h n => ⟨?_, n⟩, fun a u vs h n => ⟨?_, n⟩⟩
    · rw [upd_ne (fun z => by rw [z, hp] at h; cases h)]; exact h
    · rw [upd_ne (fun z => n (.inl (by rw [z]; exact hx)))]; exact h
    · rw [upd_ne (fun z => n (.inl (by rw [z]; exact hx)))]; exact h
    · rw [upd_ne (fun z => n (.inl (by rw [z]; exact hx)))]; exact h
  refine ⟨⟨RE.stay st (fun a u xs h n => ⟨?_, n⟩) (fun a ha => ?_) S.rep, S.nd, fun a h z => ?_, S.exf, fun a h => ?_, ⟨fun a o h1 h2 h3 => ?_, S.ev.own, fun a h => ?_⟩, S.io⟩, st⟩
  · rw [upd_ne (fun z => by rw [z, hp] at h; cases h)]; exact h
  · exact upd_ne (fun z => S.exf a ha (by rw [z]; exact hx))
  · by_cases e : a = p
    · rw [e, upd_same] at z; cases z
    · rw [upd_ne e] at z; exact S.exd a h z
  · obtain ⟨ps, q, t⟩ := S.tbl a h
    exact ⟨ps, by rw [upd_ne (fun z => by rw [z, hp] at q; cases q)]; exact q, t⟩
  · rw [upd_ne (fun z => by rw [z, h0] at h1; cases h1)]
    exact S.ev.keep a o h1 h2 h3
  · by_cases e : a = p
    · rw [e, upd_same] at h; cases h
    · rw [upd_ne e] at h; exact S.ev.dom a h
theorem Stays.trans {H H1 H2 : Hp} {O O1 O2 : AS} (a : Stays H O H1 O1) (c : Stays H1 O1 H2 O2) : Stays H O H2 O2 :=
  ⟨fun x vs h => c.tup x vs (a.tup x vs h), fun x vs h n => let ⟨h1, n1⟩ := a.lst x vs h n; c.lst x vs h1 n1, fun x vs h n => let ⟨h1, n1⟩ := a.dk x vs h n; c.dk x vs h1 n1, fun x u vs h n => let ⟨h1, n1⟩ := a.fz x u vs h n; c.fz x u vs h1 n1⟩
theorem wipe_wipe (σ : L2.St) (vs : List Nat) : L2.wipe (L2.wipe σ vs) vs = L2.wipe σ vs := wipe_eq (L2.wipe_length σ vs) fun j hj => wipe_out hj
theorem Ev.sub {tb : AS} {H H' : Hp} {f g g' : List Addr} (E : Ev tb H f H' g) (h : ∀ a, a ∈ g' → a ∈ g) : Ev tb H f H' g' := ⟨E.keep, fun a ha => E.own a (h a ha), E.dom⟩
theorem tlc_tn {wi : TI} {g : TG} {tt : TT} {te : TE} {vs : List Nat} {it : Env → Option (List D × Env)} {tgs : D → Env → Option Env} {cond : Env → Option (Bool × Env)} {elt : EV1} (hi : ItD K wi it) (ts : List Nat) (hg : TgD K g ts tgs) (hts : ∀ i ∈ ts, i ∈ vs)
    (ht : ∀ σ H Q, TT1 K cond σ H Q → tt σ H Q) (he : ∀ σ H Q, TV K elt σ H Q → te σ H Q) {Q : VK} (t : TN K (nlc vs it tgs cond elt) σ H Q) : tLc wi g tt te vs σ H Q := by
  obtain ⟨G, env, fl, ys, env', S, e, k⟩ := t
  obtain ⟨⟨ds, en1⟩, ei, e⟩ := Option.bind_eq_some_iff.mp e
  obtain ⟨⟨ys', en2⟩, el, e⟩ := Option.map_eq_some_iff.mp e
  cases e
  refine hi S ei fun J H1 f1 Src S1 E1 src gv => ?_
  intro p hp
  have h0 : H p = none := E1.dom p hp
  have hG : (G.add p).H0 p = none := S.ev.dom p h0
  have hx : (G.add p).ex p := .inr rfl
  let Kp : Hp → AS → Prop := fun H2 O2 => Src H2 O2 ∧ ∀ (i : Nat) d, en1[i]? = some (.va .no d) → ∃ v, σ[i]? = some (some v) ∧ RF H2 O2 d v
  have Kst : ∀ {H1 H2 : Hp} {O1 O2 : AS}, Stays H1 O1 H2 O2 → Kp H1 O1 → Kp H2 O2 := fun st ⟨a, c⟩ => ⟨gv.1 _ _ _ _ st a, fun i d h => let ⟨v, h1, h2⟩ := c i d h; ⟨v, h1, RF.stay st _ _ h2⟩⟩
  let P : Nat → Hp → Prop := fun i H2 => ∃ env2 f2 acc xs, St K (G.add p) (L2.wipe σ vs) H2 env2 f2 ∧ H2 p = some (.lst xs) ∧ RFs H2 (ownO (G.add p) f2) acc xs ∧ Kp H2 (ownO (G.add p) f2) ∧ Ev Tbs.tb H fl.flatten H2 f2.flatten ∧ lcLoop vs tgs cond elt (ds.drop i) env2 acc = some (ys', en2)
  refine ⟨fun i m H2 => m = ds.length - i ∧ i ≤ ds.length ∧ P i H2, ⟨ds.length, by simp, Nat.zero_le _, ?_⟩, ?_⟩
  · have S2 := S1.new (o := .lst []) hp
    have S3 := S2.wipe vs
    have stN : Stays H1 (ownO G f1) (upd H1 p (.lst [])) (ownO (G.add p) (wipeF f1 vs)) := by
      have e : Ext H1 (upd H1 p (.lst [])) := Ext.new hp
      have av : ∀ a u, H1 a = some u → ¬ ownO G f1 a → ¬ ownO (G.add p) (wipeF f1 vs) a := fun a u h n z => by
        rcases z with (z | z) | z
        · exact n (.inl z)
        · rw [z, hp] at h
          cases h
        · exact n (.inr (wipeF_sub z))
      exact ⟨fun a vs h => e a _ h, fun a vs h n => ⟨e a _ h, av a _ h n⟩, fun a vs h n => ⟨e a _ h, av a _ h n⟩, fun a u vs h n => ⟨e a _ h, av a _ h n⟩⟩
    refine ⟨_, _, [], [], S3, upd_same, rfl, Kst stN ⟨src, fun i d h => ?_⟩, ((E1.trans (Ev.ofExt (Ext.new hp))).sub fun a => wipeF_sub), by rw [List.drop_zero]; exact el⟩
    obtain ⟨o, gg, h1, _, v, eo, hr⟩ := S1.rep.get h
    subst eo
    exact ⟨v, h1, hr.2⟩
  · rintro i m H2 ⟨rfl, hile, env2, f2, acc, xs, S2, hpx, racc, kp, E2, hl⟩
    by_cases hlt : i < ds.length
    · have hd : ds[i]? = some ds[i] := List.getElem?_eq_getElem hlt
      obtain ⟨go, yl⟩ := (gv.2 H2 _ i kp.1).1 _ hd
      refine .inr ⟨go, P (i + 1), fun H' q => ⟨ds.length - (i + 1), by omega, rfl, hlt, q⟩, fun x H' hy => ?_⟩
      obtain ⟨rfl, rx⟩ := yl x H' hy
      rw [List.drop_eq_getElem_cons hlt] at hl
      obtain ⟨e1, h1, hl⟩ := Option.bind_eq_some_iff.mp hl
      obtain ⟨⟨c, e2⟩, h2, hl⟩ := Option.bind_eq_some_iff.mp hl
      refine hg S2 rx h1 fun σ' f3 S3 sub hlen hj => ?_
      have hw : L2.wipe σ' vs = L2.wipe σ vs := (wipe_eq hlen fun j hn => hj j fun z => hn (hts j z)).trans (wipe_wipe σ vs)
      refine ⟨hw.trans rfl, ?_⟩
      refine ht _ _ _ ⟨G.add p, e1, f3, c, e2, S3, h2, fun H4 f4 S4 E4 => ?_⟩
      have st24 : Stays H' (ownO (G.add p) f2) H4 (ownO (G.add p) f4) := (Stays.lower H' fun a z => z.imp id (sub a)).trans (S3.stays E4)
      have hp4 : H4 p = some (.lst xs) := E4.keep p _ hpx (fun z => S3.exf p z hx) fun z => (S3.tbl p z).not hpx fun ps q => by cases q
      have E24 : Ev Tbs.tb H fl.flatten H4 f4.flatten := (E2.sub sub).trans E4
      cases c with
      | false =>
        have hl' : lcLoop vs tgs cond elt (ds.drop (i + 1)) (wipeE e2 vs) acc = some (ys', en2) := hl
        have S5 := S4.wipe vs
        rw [hw] at S5
        have lo : Stays H4 (ownO (G.add p) f4) H4 (ownO (G.add p) (wipeF f4 vs)) := Stays.lower H4 fun a z => z.imp id wipeF_sub
        exact ⟨_, _, acc, xs, S5, hp4, RFs.stay (st24.trans lo) _ _ racc, Kst (st24.trans lo) kp, E24.sub fun a => wipeF_sub, hl'⟩
      | true =>
        obtain ⟨⟨y, e3⟩, h3, hl⟩ := Option.bind_eq_some_iff.mp hl
        split at hl
        · rename_i hz
          refine he _ _ _ ⟨G.add p, e2, f4, y, e3, S4, h3, fun v H5 f5 S5 E5 r5 => ?_⟩
          have hp5 : H5 p = some (.lst xs) := E5.keep p _ hp4 (fun z => S4.exf p z hx) fun z => (S4.tbl p z).not hp4 fun ps q => by cases q
          obtain ⟨S6, st6⟩ := S5.exMut (ys := xs ++ [v]) hx hp5 hG
          have S7 := S6.wipe vs
          rw [hw] at S7
          have lo : Stays (upd H5 p (.lst (xs ++ [v]))) (ownO (G.add p) f5) (upd H5 p (.lst (xs ++ [v]))) (ownO (G.add p) (wipeF f5 vs)) := Stays.lower _ fun a z => z.imp id wipeF_sub
          have st57 := st6.trans lo
          have st27 := (st24.trans (S4.stays E5)).trans st57
          have r2 : RFs H5 (ownO (G.add p) f5) acc xs := RFs.stay (st24.trans (S4.stays E5)) _ _ racc
          refine ⟨xs, hp5, big_lt (by rw [r2.len]; exact hz), ?_⟩
          have E25 : Ev Tbs.tb H fl.flatten H5 f5.flatten := E24.trans E5
          have E27 : Ev Tbs.tb H fl.flatten (upd H5 p (.lst (xs ++ [v]))) f5.flatten := ⟨fun a o h1 h2 h3 => by
            rw [upd_ne (fun z => by rw [z, h0] at h1; cases h1)]
            exact E25.keep a o h1 h2 h3, E25.own, fun a h => by
              by_cases z : a = p
              · rw [z, upd_same] at h; cases h
              · rw [upd_ne z] at h; exact E25.dom a h⟩
          exact ⟨_, _, acc ++ [y], xs ++ [v], S7, upd_same, RFs.stay st57 _ _ (r2.append (.cons r5 .nil)), Kst st27 kp, E27.sub fun a => wipeF_sub, hl⟩
        · cases hl
    · have e : i = ds.length := by omega
      subst e
      rw [List.drop_length] at hl
      cases hl
      refine .inl ⟨(gv.2 H2 _ _ kp.1).2 (Nat.le_refl _), ?_⟩
      have Su := St.unwipe vs S2
      have sub2 : ∀ a, ownO (G.add p) (wipeF f2 vs.reverse) a → ownO (G.add p) f2 a := fun a z => z.imp id wipeF_sub
      have Sr := Su.rest (env0 := en1) (fun i d h => let ⟨v, q1, q2⟩ := kp.2 i d h; ⟨v, q1, RF.stay (Stays.lower H2 sub2) _ _ q2⟩) vs
      refine k p xs H2 _ Sr (E2.sub fun a h => wipeF_sub (restF_sub h)) h0 hpx (RFs.stay (Stays.lower H2 fun a z => z.imp id fun h => wipeF_sub (restF_sub h)) _ _ racc)
/-- tests of a comprehension -/
def cYes : Env → Option (Bool × Env) := fun env => some (true, env)
theorem tYes_of {Q : Bool → Hp → Prop} (t : TT1 K cYes σ H Q) : tYes σ H Q := by
  obtain ⟨G, env, fl, c, env', S, e, k⟩ := t
  cases e
  exact k H fl S Ev.refl
section
variable {X : Cx} {elt tg iter : Expr} {ifs : List Expr} {scope : Scope} {own : List (Str × Nat)} {pos : Pos} {wi : TI} {g : TG} {it : Env → Option (List D × Env)} {tgs : D → Env → Option Env} {cond : Env → Option (Bool × Env)} {el : EV1} {ts : List Nat}
theorem n_lc (hc : X.calm = true) (hN : X.N.Nodup) (hi : PIt X tg iter wi it) (ok : BlkOk X.N X.env.scope scope own) (tgd : TgD X.K g ts tgs) (hts : ∀ i ∈ ts, i ∈ own.map (·.2))
    (hg : ∀ (s : Shared) (H : Hp) (C : Addr) (cl : List (Str × Addr)) (fp : List Addr), PG (X.blk s H scope (compEnvC scope cl C X.env) fp) tg g)
    (he : ∀ (s : Shared) (H : Hp) (C : Addr) (cl : List (Str × Addr)) (fp : List Addr), PV (X.blk s H scope (compEnvC scope cl C X.env) fp) elt el) (hs : ∀ x, foldedSetIterable iter X.env x = pure x := by intro _; rfl) :
    PN X (.ListComp elt [⟨tg, iter, [], 0⟩] scope pos) (nlc (own.map (·.2)) it tgs cYes el) :=
  PE.wk (pe_lc (tt := tYes) (te := TV X.K el) hc hN hi.pi ok hg (fun _ _ _ _ _ => pts_nil) he hs) fun σ H Q t => tlc_tn hi.d ts tgd hts (fun _ _ _ => tYes_of) (fun _ _ _ h => h) t
theorem n_lcif {t : Expr} (hc : X.calm = true) (hN : X.N.Nodup) (hi : PIt X tg iter wi it) (ok : BlkOk X.N X.env.scope scope own) (tgd : TgD X.K g ts tgs) (hts : ∀ i ∈ ts, i ∈ own.map (·.2))
    (hg : ∀ (s : Shared) (H : Hp) (C : Addr) (cl : List (Str × Addr)) (fp : List Addr), PG (X.blk s H scope (compEnvC scope cl C X.env) fp) tg g)
    (ht : ∀ (s : Shared) (H : Hp) (C : Addr) (cl : List (Str × Addr)) (fp : List Addr), PQ (X.blk s H scope (compEnvC scope cl C X.env) fp) t cond)
    (he : ∀ (s : Shared) (H : Hp) (C : Addr) (cl : List (Str × Addr)) (fp : List Addr), PV (X.blk s H scope (compEnvC scope cl C X.env) fp) elt el) (hs : ∀ x, foldedSetIterable iter X.env x = pure x := by intro _; rfl) :
    PN X (.ListComp elt [⟨tg, iter, [t], 0⟩] scope pos) (nlc (own.map (·.2)) it tgs cond el) :=
  PE.wk (pe_lc (tt := TT1 X.K cond) (te := TV X.K el) hc hN hi.pi ok hg (fun s H C cl fp => pts_one (ht s H C cl fp)) he hs) fun σ H Q t => tlc_tn hi.d ts tgd hts (fun _ _ _ h => h) (fun _ _ _ h => h) t
end
end
end DL

set_option Elab.async false
set_option linter.all false
set_option maxRecDepth 100000
set_option maxHeartbeats 2000000
/-! DL6: statements; lists that a slot owns are changed. -/
namespace DL
open PySem PySem.Spec PyProof.Rows L2
/-- how a statement ends -/
inductive Out where
  | nx (e : Env) | rt (d : D) (e : Env) | bk (e : Env) | ct (e : Env) | ex (c : Nat) (as : List D) | rx (sl : Sl) (e : Env)
abbrev ES := Env → Option Out
abbrev WXX := Nat → List D → L2.St → Hp → Prop
def EndD [Tbs] (K : PySem.W.Frag) (G : Gh) (W : WXX) (D : Ends) (H0 : Hp) (f0 : List Addr) : Out → Prop
  | .nx e => ∀ σ H fl, St K G σ H e fl → Ev Tbs.tb H0 f0 H fl.flatten → D.nx σ H
  | .rt d e => ∀ v σ H fl, St K G σ H e fl → RF H (ownO G fl) d v → D.rt v H
  | .bk e => ∀ σ H fl, St K G σ H e fl → Ev Tbs.tb H0 f0 H fl.flatten → D.bk σ H
  | .ct e => ∀ σ H fl, St K G σ H e fl → Ev Tbs.tb H0 f0 H fl.flatten → D.ct σ H
  | .ex c as => ∀ σ H e fl, St K G σ H e fl → W c as σ H
  | .rx sl e => ∀ v σ H fl g, St K (G.addL g) σ H e fl → (∀ a ∈ g, a ∈ G.f0 ∨ G.H0 a = none) → (∀ a ∈ g, ¬ G.ex a) → g.Nodup → RS K H (ownO (G.addL g) fl) sl (some v) g → D.rt v H
/-- the same end from a later state -/
theorem EndD.later [Tbs] {K : PySem.W.Frag} {G : Gh} {W : WXX} {D : Ends} {H0 H1 : Hp} {f0 f1 : List Addr} {o : Out} (E : Ev Tbs.tb H0 f0 H1 f1) (h : EndD K G W D H0 f0 o) : EndD K G W D H1 f1 o := by
  cases o with
  | nx e => exact fun σ H fl S E2 => h σ H fl S (E.trans E2)
  | rt d e => exact h
  | bk e => exact fun σ H fl S E2 => h σ H fl S (E.trans E2)
  | ct e => exact fun σ H fl S E2 => h σ H fl S (E.trans E2)
  | ex c as => exact h
  | rx sl e => exact h
def TSv [Tbs] (K : PySem.W.Frag) (W : WXX) (s : ES) : TS := fun D σ H => ∃ G env fl o, St K G σ H env fl ∧ s env = some o ∧ EndD K G W D H fl.flatten o
abbrev PSv [Tbs] (W : WXX) (X : Cx) (st : Stmt) (s : ES) : Prop := PS X st (TSv X.K W s)
abbrev PSsv [Tbs] (W : WXX) (X : Cx) (st : List Stmt) (s : ES) : Prop := PSs X st (TSv X.K W s)
section
variable [Tbs] {K : PySem.W.Frag} {G : Gh} {σ : L2.St} {H H' : Hp} {env : Env} {f f' : List (List Addr)} {O O' : AS} {b : Bool} {W : WXX}
def sNil : ES := fun env => some (.nx env)
def sSeq (s t : ES) : ES := fun env => (s env).bind fun o => match o with
  | .nx e => t e
  | o => some o
def sIf (c : Env → Option (Bool × Env)) (s t : ES) : ES := fun env => (c env).bind fun x => if x.1 = true then s x.2 else t x.2
def sRet (p : EV1) : ES := fun env => (p env).map fun x => .rt x.1 x.2
def sRetN : ES := fun env => some (.rt .non env)
def sExpr (p : EV1) : ES := fun env => (p env).map fun x => .nx x.2
def sBrk : ES := fun env => some (.bk env)
def sCnt : ES := fun env => some (.ct env)
def sSet (i : Nat) (p : EV1) : ES := fun env => (p env).bind fun x => if i < x.2.length then some (.nx (x.2.set i (.va .no x.1))) else none
def nF : Nat → Bool := fun _ => false
def aF : Nat → Bool := fun _ => true
def sSetN (i : Nat) (p : Env → Option (List D × Env)) : ES := fun env => (p env).bind fun x => if i < x.2.length then some (.nx (x.2.set i (.va (.own nF) (.lst x.1)))) else none
def sAug (i : Nat) (g : D → D → Option D) (p : EV1) : ES := fun env => match env[i]? with
  | some (.va .no x) => (p env).bind fun y => (g x y.1).bind fun d => if i < y.2.length then some (.nx (y.2.set i (.va .no d))) else none
  | _ => none
section
variable {X : Cx} {st : Stmt} {rest sa sb : List Stmt} {s t : ES} {a c : Expr} {pos p1 : Pos} {pv : EV1} {pn : Env → Option (List D × Env)} {tq : Env → Option (Bool × Env)}
theorem ss_nil : PSsv W X [] sNil := PSs.wk pss_nil fun D σ H t => by
  obtain ⟨G, env, fl, o, S, e, q⟩ := t
  cases e
  exact q σ H fl S Ev.refl
theorem ss_cons (h1 : PSv W X st s) (h2 : PSsv W X rest t) : PSsv W X (st :: rest) (sSeq s t) := PSs.wk (pss_cons h1 h2) fun D σ H q => by
  obtain ⟨G, env, fl, o, S, e, k⟩ := q
  obtain ⟨o1, h, e⟩ := Option.bind_eq_some_iff.mp e
  refine ⟨G, env, fl, o1, S, h, ?_⟩
  cases o1 with
  | nx e1 => exact fun σ' H' fl' S' E' => ⟨G, e1, fl', o, S', e, k.later E'⟩
  | rt d e1 => cases e; exact k
  | bk e1 => cases e; exact k
  | ct e1 => cases e; exact k
  | ex c as => cases e; exact k
  | rx sl e1 => cases e; exact k
theorem ss_one (h1 : PSv W X st s) : PSsv W X [st] s := pss_one h1
theorem s_if (hc : PQ X a tq) (ha : PSsv W X sa s) (hb : PSsv W X sb t) : PSv W X (.If a sa sb pos) (sIf tq s t) := PS.wk (ps_if hc ha hb) fun D σ H q => by
  obtain ⟨G, env, fl, o, S, e, k⟩ := q
  obtain ⟨⟨x, e1⟩, h, e⟩ := Option.bind_eq_some_iff.mp e
  refine ⟨G, env, fl, x, e1, S, h, fun H1 f1 S1 E1 => ?_⟩
  cases x with
  | true => exact ⟨G, e1, f1, o, S1, e, k.later E1⟩
  | false => exact ⟨G, e1, f1, o, S1, e, k.later E1⟩
theorem s_ret (h : PV X a pv) : PSv W X (.Return (some a) pos) (sRet pv) := PS.wk (ps_ret h) fun D σ H q => by
  obtain ⟨G, env, fl, o, S, e, k⟩ := q
  obtain ⟨⟨d, e1⟩, h, rfl⟩ := Option.map_eq_some_iff.mp e
  exact ⟨G, env, fl, d, e1, S, h, fun v H1 f1 S1 E1 r1 => k v σ H1 f1 S1 r1⟩
theorem s_retN : PSv W X (.Return none pos) sRetN := PS.wk ps_retN fun D σ H q => by
  obtain ⟨G, env, fl, o, S, e, k⟩ := q
  cases e
  exact k .non σ H fl S rfl
theorem s_expr (h : PV X a pv) (hs : swapsWith a none pos.line X.env = pure false := by rfl) : PSv W X (.Expr a pos) (sExpr pv) := PS.wk (ps_expr h hs) fun D σ H q => by
  obtain ⟨G, env, fl, o, S, e, k⟩ := q
  obtain ⟨⟨d, e1⟩, h, rfl⟩ := Option.map_eq_some_iff.mp e
  exact ⟨G, env, fl, d, e1, S, h, fun v H1 f1 S1 E1 r1 => k σ H1 f1 S1 E1⟩
theorem s_brk : PSv W X (.Break pos) sBrk := PS.wk ps_break fun D σ H q => by
  obtain ⟨G, env, fl, o, S, e, k⟩ := q
  cases e
  exact k σ H fl S Ev.refl
theorem s_cnt : PSv W X (.Continue pos) sCnt := PS.wk ps_continue fun D σ H q => by
  obtain ⟨G, env, fl, o, S, e, k⟩ := q
  cases e
  exact k σ H fl S Ev.refl
/-- what is owned may be less at once -/
theorem evSet {tb : AS} {H0 H1 : Hp} {f0 : List Addr} {f1 : List (List Addr)} {i : Nat} (E : Ev tb H0 f0 H1 f1.flatten) : Ev tb H0 f0 H1 (f1.set i []).flatten := E.sub fun a h => (mem_set_flatten h).resolve_right (by simp)
theorem ts_set {i : Nat} {D : Ends} (q : TSv K W (sSet i pv) D σ H) : tAsg (TV K pv) (gName i) D σ H := by
  obtain ⟨G, env, fl, o, S, e, k⟩ := q
  obtain ⟨⟨d, e1⟩, h, e⟩ := Option.bind_eq_some_iff.mp e
  split at e
  · rename_i hi
    cases e
    exact ⟨G, env, fl, d, e1, S, h, fun v H1 f1 S1 E1 r1 => k _ H1 _ (S1.setFz hi r1) (evSet E1)⟩
  · cases e
theorem s_set {i : Nat} {x : Str} {px : Pos} (hN : X.N.Nodup) (hi : X.N[i]? = some x) (hx : Loc X.env.scope x) (h : PV X a pv) (hs : swapsWith a (some (.Name x px)) pos.line X.env = pure false := by rfl) (hf : X.fn x = true ∨ X.env.scope.names.lookup x = some .local := by first | exact .inl rfl | exact .inr rfl | assumption) :
    PSv W X (.Assign [.Name x px] a pos) (sSet i pv) := PS.wk (ps_set hN hi hx h hs hf) fun D σ H q => ts_set q
theorem ts_setN {i : Nat} {D : Ends} (q : TSv K W (sSetN i pn) D σ H) : tAsg (TN K pn) (gName i) D σ H := by
  obtain ⟨G, env, fl, o, S, e, k⟩ := q
  obtain ⟨⟨d, e1⟩, h, e⟩ := Option.bind_eq_some_iff.mp e
  split at e
  · rename_i hi
    cases e
    refine ⟨G, env, fl, d, e1, S, h, fun p vs H1 f1 S1 E1 hp h1 r1 => ?_⟩
    exact k _ H1 _ (S1.adopt hi h1 (S.ev.dom p hp) (fun z => S.exd p z hp) r1 fun _ _ => rfl) ⟨E1.keep, fun a ha => (mem_set_flatten ha).elim (E1.own a) fun z => .inr (by rw [List.mem_singleton.mp z]; exact hp), E1.dom⟩
  · cases e
theorem s_setN {i : Nat} {x : Str} {px : Pos} (hN : X.N.Nodup) (hi : X.N[i]? = some x) (hx : Loc X.env.scope x) (h : PN X a pn) (hs : swapsWith a (some (.Name x px)) pos.line X.env = pure false := by rfl) (hf : X.fn x = true ∨ X.env.scope.names.lookup x = some .local := by first | exact .inl rfl | exact .inr rfl | assumption) :
    PSv W X (.Assign [.Name x px] a pos) (sSetN i pn) := PS.wk (ps_set hN hi hx h hs hf) fun D σ H q => ts_setN q
theorem ts_vn {i : Nat} {D : Ends} (q : TSv K W (sSet i (vlst pn)) D σ H) : tAsg (TN K pn) (gName i) D σ H := by
  obtain ⟨G, env, fl, o, S, e, k⟩ := q
  obtain ⟨⟨d, e1⟩, h, e⟩ := Option.bind_eq_some_iff.mp e
  obtain ⟨⟨ds, e2⟩, hq, h2⟩ := Option.map_eq_some_iff.mp h
  cases h2
  split at e
  · rename_i hi
    cases e
    refine ⟨G, env, fl, ds, _, S, hq, fun p vs H1 f1 S1 E1 hp h1 r1 => ?_⟩
    have S2 := S1.drop
    refine k _ H1 _ (S2.setFz hi ⟨p, vs, rfl, h1, fun z => ?_, RFs.stay (Stays.lower H1 fun a z => z.imp Or.inl id) _ _ r1⟩) (evSet E1)
    rcases z with z | z
    · exact S.exd p z hp
    · exact S1.exf p z (.inr rfl)
  · cases e
section
variable {elt tg iter : Expr} {ifs : List Expr} {scope : Scope} {own : List (Str × Nat)} {wi : TI} {g : TG} {it : Env → Option (List D × Env)} {tgs : D → Env → Option Env} {cond : Env → Option (Bool × Env)} {el : EV1} {ts : List Nat} {i : Nat} {y : Str} {py spos : Pos}
/-- name = [..], kept fixed | as one's own -/
theorem s_setLc (hy : X.N[i]? = some y) (hyl : X.env.scope.names.lookup y = some .local) (hsw : swapsWith (.ListComp elt [⟨tg, iter, [], 0⟩] scope pos) (some (.Name y py)) spos.line X.env = pure true) (hc : X.calm = true) (hN : X.N.Nodup) (hi : PIt X tg iter wi it) (ok : BlkOk X.N X.env.scope scope own) (tgd : TgD X.K g ts tgs) (hts : ∀ i ∈ ts, i ∈ own.map (·.2))
    (hg : ∀ (s : Shared) (H : Hp) (C : Addr) (cl : List (Str × Addr)) (fp : List Addr), PG (X.blk s H scope (compEnvC scope cl C X.env) fp) tg g)
    (he : ∀ (s : Shared) (H : Hp) (C : Addr) (cl : List (Str × Addr)) (fp : List Addr), PV (X.blk s H scope (compEnvC scope cl C X.env) fp) elt el) (hs : ∀ x, foldedSetIterable iter X.env x = pure x := by intro _; rfl) :
    PSv W X (.Assign [.Name y py] (.ListComp elt [⟨tg, iter, [], 0⟩] scope pos) spos) (sSet i (vlst (nlc (own.map (·.2)) it tgs cYes el))) :=
  PS.wk (ps_setLc (tt := tYes) (te := TV X.K el) hc hN hy hyl hsw hi.pi ok hg (fun _ _ _ _ _ => pts_nil) he hs) fun D σ H q => by
    have q' := ts_vn q
    exact tlc_tn hi.d ts tgd hts (fun _ _ _ => tYes_of) (fun _ _ _ h => h) q'
theorem s_setLcN (hy : X.N[i]? = some y) (hyl : X.env.scope.names.lookup y = some .local) (hsw : swapsWith (.ListComp elt [⟨tg, iter, [], 0⟩] scope pos) (some (.Name y py)) spos.line X.env = pure true) (hc : X.calm = true) (hN : X.N.Nodup) (hi : PIt X tg iter wi it) (ok : BlkOk X.N X.env.scope scope own) (tgd : TgD X.K g ts tgs) (hts : ∀ i ∈ ts, i ∈ own.map (·.2))
    (hg : ∀ (s : Shared) (H : Hp) (C : Addr) (cl : List (Str × Addr)) (fp : List Addr), PG (X.blk s H scope (compEnvC scope cl C X.env) fp) tg g)
    (he : ∀ (s : Shared) (H : Hp) (C : Addr) (cl : List (Str × Addr)) (fp : List Addr), PV (X.blk s H scope (compEnvC scope cl C X.env) fp) elt el) (hs : ∀ x, foldedSetIterable iter X.env x = pure x := by intro _; rfl) :
    PSv W X (.Assign [.Name y py] (.ListComp elt [⟨tg, iter, [], 0⟩] scope pos) spos) (sSetN i (nlc (own.map (·.2)) it tgs cYes el)) :=
  PS.wk (ps_setLc (tt := tYes) (te := TV X.K el) hc hN hy hyl hsw hi.pi ok hg (fun _ _ _ _ _ => pts_nil) he hs) fun D σ H q => by
    have q' := ts_setN q
    exact tlc_tn hi.d ts tgd hts (fun _ _ _ => tYes_of) (fun _ _ _ h => h) q'
theorem s_setLcif {t : Expr} (hy : X.N[i]? = some y) (hyl : X.env.scope.names.lookup y = some .local) (hsw : swapsWith (.ListComp elt [⟨tg, iter, [t], 0⟩] scope pos) (some (.Name y py)) spos.line X.env = pure true) (hc : X.calm = true) (hN : X.N.Nodup) (hi : PIt X tg iter wi it) (ok : BlkOk X.N X.env.scope scope own) (tgd : TgD X.K g ts tgs) (hts : ∀ i ∈ ts, i ∈ own.map (·.2))
    (hg : ∀ (s : Shared) (H : Hp) (C : Addr) (cl : List (Str × Addr)) (fp : List Addr), PG (X.blk s H scope (compEnvC scope cl C X.env) fp) tg g)
    (ht : ∀ (s : Shared) (H : Hp) (C : Addr) (cl : List (Str × Addr)) (fp : List Addr), PQ (X.blk s H scope (compEnvC scope cl C X.env) fp) t cond)
    (he : ∀ (s : Shared) (H : Hp) (C : Addr) (cl : List (Str × Addr)) (fp : List Addr), PV (X.blk s H scope (compEnvC scope cl C X.env) fp) elt el) (hs : ∀ x, foldedSetIterable iter X.env x = pure x := by intro _; rfl) :
    PSv W X (.Assign [.Name y py] (.ListComp elt [⟨tg, iter, [t], 0⟩] scope pos) spos) (sSet i (vlst (nlc (own.map (·.2)) it tgs cond el))) :=
  PS.wk (ps_setLc (tt := TT1 X.K cond) (te := TV X.K el) hc hN hy hyl hsw hi.pi ok hg (fun s H C cl fp => pts_one (ht s H C cl fp)) he hs) fun D σ H q => by
    have q' := ts_vn q
    exact tlc_tn hi.d ts tgd hts (fun _ _ _ h => h) (fun _ _ _ h => h) q'
theorem s_setLcifN {t : Expr} (hy : X.N[i]? = some y) (hyl : X.env.scope.names.lookup y = some .local) (hsw : swapsWith (.ListComp elt [⟨tg, iter, [t], 0⟩] scope pos) (some (.Name y py)) spos.line X.env = pure true) (hc : X.calm = true) (hN : X.N.Nodup) (hi : PIt X tg iter wi it) (ok : BlkOk X.N X.env.scope scope own) (tgd : TgD X.K g ts tgs) (hts : ∀ i ∈ ts, i ∈ own.map (·.2))
    (hg : ∀ (s : Shared) (H : Hp) (C : Addr) (cl : List (Str × Addr)) (fp : List Addr), PG (X.blk s H scope (compEnvC scope cl C X.env) fp) tg g)
    (ht : ∀ (s : Shared) (H : Hp) (C : Addr) (cl : List (Str × Addr)) (fp : List Addr), PQ (X.blk s H scope (compEnvC scope cl C X.env) fp) t cond)
    (he : ∀ (s : Shared) (H : Hp) (C : Addr) (cl : List (Str × Addr)) (fp : List Addr), PV (X.blk s H scope (compEnvC scope cl C X.env) fp) elt el) (hs : ∀ x, foldedSetIterable iter X.env x = pure x := by intro _; rfl) :
    PSv W X (.Assign [.Name y py] (.ListComp elt [⟨tg, iter, [t], 0⟩] scope pos) spos) (sSetN i (nlc (own.map (·.2)) it tgs cond el)) :=
  PS.wk (ps_setLc (tt := TT1 X.K cond) (te := TV X.K el) hc hN hy hyl hsw hi.pi ok hg (fun s H C cl fp => pts_one (ht s H C cl fp)) he hs) fun D σ H q => by
    have q' := ts_setN q
    exact tlc_tn hi.d ts tgd hts (fun _ _ _ h => h) (fun _ _ _ h => h) q'
end
theorem s_aug {i : Nat} {x : Str} {px : Pos} {op : Operator} {r : R2} {g : D → D → Option D} (ho : OpR X (inplaceOp op) r) (hd : OpD r g) (hN : X.N.Nodup) (hi : X.N[i]? = some x) (hx : Loc X.env.scope x) (h : PV X a pv) (hf : X.fn x = true ∨ X.env.scope.names.lookup x = some .local := by first | exact .inl rfl | exact .inr rfl | assumption) :
    PSv W X (.AugAssign (.Name x px) op a pos) (sAug i g pv) := PS.wk (ps_aug (ti := r) hN hi hx h ho hf) fun D σ H q => by
  obtain ⟨G, env, fl, o, S, e, k⟩ := q
  unfold sAug at e
  split at e
  · rename_i dx he
    obtain ⟨⟨d, e1⟩, h, e⟩ := Option.bind_eq_some_iff.mp e
    obtain ⟨d', hg, e⟩ := Option.bind_eq_some_iff.mp e
    split at e
    · rename_i hi'
      cases e
      obtain ⟨o, g', h1, h2, v, eo, hr⟩ := S.rep.get he
      subst eo
      refine ⟨v, h1, G, env, fl, d, e1, S, h, fun w H1 f1 S1 E1 r1 => ?_⟩
      refine hd S1.dom (hr.2.go S E1) r1 hg fun z H2 e2 rz => ?_
      exact k _ H2 _ ((S1.ext e2).setFz hi' rz) (evSet (E1.trans (Ev.ofExt e2)))
    · cases e
  · cases e
def iAdd : D → D → Option D
  | .int i, .int j => addI (.int i) (.int j)
  | .str i, .str j => addS (.str i) (.str j)
  | _, _ => none
def rIAdd : R2 := fun x y H Q => (rI0 fun i j => .int (i + j)) x y H Q ∨ rAddS x y H Q
theorem o_iadd : OpR X (inplaceOp .Add) rIAdd := iop_add.or (r' := rAddS) iop_add_str
theorem d_iadd : OpD rIAdd iAdd := by
  intro O H x y d1 d2 d Q o hx hy e q
  unfold iAdd at e
  split at e
  · exact .inl (d_addI o hx hy e q)
  · exact .inr (d_addS o hx hy e q)
  · cases e
/-! ### for -/
def loopS (tgs : D → Env → Option Env) (body : ES) : List D → ES
  | [], env => some (.nx env)
  | d :: ds, env => (tgs d env).bind fun e1 => (body e1).bind fun o => match o with
    | .nx e => loopS tgs body ds e
    | .ct e => loopS tgs body ds e
    | .bk e => some (.nx e)
    | .rt d e => some (.rt d e)
    | .ex c as => some (.ex c as)
    | .rx sl e => some (.rx sl e)
def sFor (it : Env → Option (List D × Env)) (tgs : D → Env → Option Env) (body : ES) : ES := fun env => (it env).bind fun x => loopS tgs body x.1 x.2
theorem s_for {tg iter : Expr} {body : List Stmt} {wi : TI} {g : TG} {it : Env → Option (List D × Env)} {tgs : D → Env → Option Env} {ts : List Nat} (hp : PassesOwn (model X.prog X.w) X.A X.env X.xe) (hc : X.calm = true) (hi : PIt X tg iter wi it) (tgd : TgD X.K g ts tgs) (hg : PG X tg g) (hb : PSsv W X body s) (hs : ∀ x, foldedSetIterable iter X.env x = pure x := by intro _; rfl) :
    PSv W X (.For tg iter body [] pos) (sFor it tgs s) := PS.wk (ps_for hp hc hi.pi hg hb hs) fun D σ H q => by
  obtain ⟨G, env, fl, o, S, e, k⟩ := q
  obtain ⟨⟨ds, en1⟩, ei, el⟩ := Option.bind_eq_some_iff.mp e
  refine hi.d S ei fun J H1 f1 Src S1 E1 src gv => ?_
  have k := k.later E1
  let P : Nat → L2.St → Hp → Prop := fun i σ2 H2 => ∃ env2 f2, St X.K G σ2 H2 env2 f2 ∧ Src H2 (ownO G f2) ∧ Ev Tbs.tb H1 f1.flatten H2 f2.flatten ∧ loopS tgs s (ds.drop i) env2 = some o
  refine ⟨fun i m σ2 H2 => m = ds.length - i ∧ i ≤ ds.length ∧ P i σ2 H2, ⟨ds.length, by simp, Nat.zero_le _, _, _, S1, src, Ev.refl, by rw [List.drop_zero]; exact el⟩, ?_⟩
  rintro i m σ2 H2 ⟨rfl, hile, env2, f2, S2, src2, E2, hl⟩
  by_cases hlt : i < ds.length
  · have hd : ds[i]? = some ds[i] := List.getElem?_eq_getElem hlt
    obtain ⟨go, yl⟩ := (gv.2 H2 _ i src2).1 _ hd
    refine .inr ⟨go, P (i + 1), fun σ' H' q => ⟨ds.length - (i + 1), by omega, rfl, hlt, q⟩, fun x H' hy => ?_⟩
    obtain ⟨rfl, rx⟩ := yl x H' hy
    rw [List.drop_eq_getElem_cons hlt] at hl
    obtain ⟨e1, h1, hl⟩ := Option.bind_eq_some_iff.mp hl
    obtain ⟨o1, h2, hl⟩ := Option.bind_eq_some_iff.mp hl
    refine tgd S2 rx h1 fun σ' f3 S3 sub hlen hj => ?_
    have src3 : Src H' (ownO G f3) := gv.1 _ _ _ _ (Stays.lower H' fun a z => z.imp id (sub a)) src2
    have E3 := E2.sub sub
    refine ⟨G, e1, f3, o1, S3, h2, ?_⟩
    have next : ∀ e, loopS tgs s (ds.drop (i + 1)) e = some o → ∀ σ4 H4 f4, St X.K G σ4 H4 e f4 → Ev Tbs.tb H' f3.flatten H4 f4.flatten → P (i + 1) σ4 H4 := fun e he σ4 H4 f4 S4 E4 => ⟨e, f4, S4, gv.1 _ _ _ _ (S3.stays E4) src3, E3.trans E4, he⟩
    cases o1 with
    | nx e => exact next e hl
    | ct e => exact next e hl
    | bk e =>
      cases hl
      exact fun σ4 H4 f4 S4 E4 => k σ4 H4 f4 S4 (E3.trans E4)
    | rt d e =>
      cases hl
      exact k
    | ex c as =>
      cases hl
      exact k
    | rx sl e =>
      cases hl
      exact k
  · have e : i = ds.length := by omega
    subst e
    rw [List.drop_length] at hl
    cases hl
    exact .inl ⟨(gv.2 H2 _ _ src2).2 (Nat.le_refl _), k σ2 H2 f2 S2 E2⟩
end
end
end DL

set_option Elab.async false
set_option linter.all false
set_option maxRecDepth 100000
set_option maxHeartbeats 2000000
/-! DL7: lists that a slot owns are changed. -/
namespace DL
open PySem PySem.Spec PyProof.Rows L2
def OM.fl : OM → Option (Nat → Bool)
  | .no => none
  | .own F => some F
  | .pin F => some F
section
variable [Tbs] {K : PySem.W.Frag} {G : Gh} {σ : L2.St} {H H' : Hp} {env : Env} {f f' : List (List Addr)} {O O' : AS} {b : Bool} {W : WXX}
theorem RO.fl {m : OM} {F : Nat → Bool} (hm : m.fl = some F) {d : D} {v : V} {g : List Addr} : RO H O m d v g ↔ RO H O (.own F) d v g := by
  cases m with
  | no => cases hm
  | own F' => cases hm; exact Iff.rfl
  | pin F' => cases hm; exact RO.pin
theorem setSelf {l : L2.St} {i : Nat} {o : Option V} (h : l[i]? = some o) : l.set i o = l := by
  obtain ⟨hlt, hx⟩ := List.getElem?_eq_some_iff.mp h
  rw [← hx, List.set_getElem_self]
theorem setSelfF {l : List (List Addr)} {i : Nat} {o : List Addr} (h : l[i]? = some o) : l.set i o = l := by
  obtain ⟨hlt, hx⟩ := List.getElem?_eq_some_iff.mp h
  rw [← hx, List.set_getElem_self]
theorem nodup_at {f : List (List Addr)} (nd : f.flatten.Nodup) {i : Nat} {g : List Addr} (h : f[i]? = some g) : g.Nodup := by
  induction f generalizing i with
  | nil => simp at h
  | cons l f ih =>
    rw [List.flatten_cons, List.nodup_append] at nd
    cases i with
    | zero => simp at h; subst h; exact nd.1
    | succ i => exact ih nd.2.1 (by simpa using h)
/-- the list that slot i owns: where it stands, and what it may become -/
theorem St.mut (S : St K G σ H env f) {i : Nat} {m : OM} {F : Nat → Bool} {ds : List D} (he : env[i]? = some (.va m (.lst ds))) (hm : m.fl = some F) :
    ∃ p vs g, σ[i]? = some (some (.ref p)) ∧ H p = some (.lst vs) ∧ f[i]? = some (p :: g) ∧ RIs H (ownO G f) F ds vs g ∧
      ∀ ds' vs' g', (∀ a ∈ g', a ∈ g) → g'.Nodup → RIs H (ownO G f) F ds' vs' g' → St K G σ (upd H p (.lst vs')) (env.set i (.va m (.lst ds'))) (f.set i (p :: g')) ∧ Ev Tbs.tb H f.flatten (upd H p (.lst vs')) (f.set i (p :: g')).flatten := by
  obtain ⟨o, g0, h1, h2, v, eo, hr⟩ := S.rep.get he
  subst eo
  obtain ⟨p, vs, g, rfl, rfl, hp, hs⟩ := (RO.fl hm).mp hr
  refine ⟨p, vs, g, h1, hp, h2, hs, fun ds' vs' g' sub nd hs' => ?_⟩
  have hpf : p ∈ f.flatten := List.mem_flatten.mpr ⟨_, List.mem_of_getElem? h2, by simp⟩
  have ndg := nodup_at S.nd h2
  have hpg : p ∉ g := (List.nodup_cons.mp ndg).1
  have mem : ∀ a ∈ (f.set i (p :: g')).flatten, a ∈ f.flatten := fun a ha => by
    rcases mem_set_flatten ha with z | z
    · exact z
    · rcases List.mem_cons.mp z with y | y
      · rw [y]; exact hpf
      · exact List.mem_flatten.mpr ⟨_, List.mem_of_getElem? h2, List.mem_cons_of_mem _ (sub a y)⟩
  have E : Ev Tbs.tb H f.flatten (upd H p (.lst vs')) (f.set i (p :: g')).flatten := ⟨fun a o h hn _ => by
    rw [upd_ne (fun z => hn (by rw [z]; exact hpf))]
    exact h, fun a ha => .inl (mem a ha), fun a h => by
    by_cases z : a = p
    · rw [z, upd_same] at h; cases h
    · rw [upd_ne z] at h; exact h⟩
  have q : RS K (upd H p (.lst vs')) (ownO G (f.set i (p :: g'))) (.va m (.lst ds')) (some (.ref p)) (p :: g') := by
    refine ⟨_, rfl, (RO.fl hm).mpr ⟨p, vs', g', rfl, rfl, upd_same, hs'.stay (S.stays E) fun a ha => upd_ne fun z => ?_⟩⟩
    exact hpg (by rw [← z]; exact sub a ha)
  have r := S.putE (o := some (.ref p)) h2 E q (fun a ha hn => upd_ne fun z => hn (by rw [z]; simp)) (List.nodup_cons.mpr ⟨fun z => hpg (sub p z), nd⟩) (fun a ha => by
    rcases List.mem_cons.mp ha with y | y
    · exact .inl (by rw [y]; simp)
    · exact .inl (List.mem_cons_of_mem _ (sub a y))) (fun a ha => by
    obtain ⟨ps, q1, t⟩ := S.tbl a ha
    exact ⟨ps, by rw [upd_ne (fun z => by rw [z, hp] at q1; cases q1)]; exact q1, t⟩) (fun F' d' e => by
    cases e
    rw [← S.io i F' _ he, h1])
  rw [setSelf h1] at r
  exact ⟨r, E⟩
theorem RIs.len : ∀ {F : Nat → Bool} {ds : List D} {vs : List V} {g : List Addr}, RIs H O F ds vs g → vs.length = ds.length
  | _, [], _, _, h => by rw [h.1]; rfl
  | F, d :: ds, _, _, h => by
    obtain ⟨v, r, f1, f2, rfl, _, _, h2⟩ := h
    simp [RIs.len h2]
theorem RIs.snoc : ∀ {F : Nat → Bool} {ds : List D} {vs : List V} {g g1 : List Addr} {d : D} {v : V}, RIs H O F ds vs g → RI H O (F ds.length) d v g1 → RIs H O F (ds ++ [d]) (vs ++ [v]) (g ++ g1)
  | F, [], vs, g, g1, d, v, h, k => by
    obtain ⟨rfl, rfl⟩ := h
    exact ⟨v, [], g1, [], rfl, by simp, k, rfl, rfl⟩
  | F, e :: ds, vs, g, g1, d, v, h, k => by
    obtain ⟨w, r, f1, f2, rfl, rfl, h1, h2⟩ := h
    exact ⟨w, r ++ [v], f1, f2 ++ g1, rfl, by simp, h1, RIs.snoc (F := fun i => F (i + 1)) h2 k⟩
/-- item j of an owned list: what it is, and another one in its place -/
theorem RIs.item : ∀ {F : Nat → Bool} {ds : List D} {vs : List V} {g : List Addr} {j : Nat} {d : D}, RIs H O F ds vs g → ds[j]? = some d → ∃ v g1 g2 g3, vs[j]? = some v ∧ g = g1 ++ g2 ++ g3 ∧ RI H O (F j) d v g2 ∧
    ∀ d' v' g2', RI H O (F j) d' v' g2' → RIs H O F (ds.set j d') (vs.set j v') (g1 ++ g2' ++ g3)
  | _, [], _, _, _, _, _, e => by simp at e
  | F, x :: ds, _, _, 0, d, h, e => by
    obtain ⟨v, r, f1, f2, rfl, rfl, h1, h2⟩ := h
    simp at e
    subst e
    exact ⟨v, [], f1, f2, rfl, by simp, h1, fun d' v' g2' q => ⟨v', r, g2', f2, rfl, by simp, q, h2⟩⟩
  | F, x :: ds, _, _, j + 1, d, h, e => by
    obtain ⟨v, r, f1, f2, rfl, rfl, h1, h2⟩ := h
    obtain ⟨w, g1, g2, g3, q1, q2, q3, q4⟩ := RIs.item (j := j) (d := d) h2 (by simpa using e)
    subst q2
    refine ⟨w, f1 ++ g1, g2, g3, by simpa using q1, by simp, q3, fun d' v' g2' q => ?_⟩
    exact ⟨v, r.set j v', f1, g1 ++ g2' ++ g3, rfl, by simp, h1, q4 d' v' g2' q⟩
/-- the list that item j of slot i's list is: where it stands, and what it may become -/
theorem St.mut2 (S : St K G σ H env f) {i j : Nat} {m : OM} {F : Nat → Bool} {ds es : List D} (he : env[i]? = some (.va m (.lst ds))) (hm : m.fl = some F) (hj : ds[j]? = some (.lst es)) (hF : F j = true) :
    ∃ p vs q ws, σ[i]? = some (some (.ref p)) ∧ H p = some (.lst vs) ∧ vs.length = ds.length ∧ vs[j]? = some (.ref q) ∧ H q = some (.lst ws) ∧ RFs H (ownO G f) es ws ∧
      ∀ es' ws', RFs H (ownO G f) es' ws' → St K G σ (upd H q (.lst ws')) (env.set i (.va m (.lst (ds.set j (.lst es'))))) f ∧ Ev Tbs.tb H f.flatten (upd H q (.lst ws')) f.flatten := by
  obtain ⟨o, g0, h1, h2, v, eo, hr⟩ := S.rep.get he
  subst eo
  obtain ⟨p, vs, g, rfl, rfl, hp, hs⟩ := (RO.fl hm).mp hr
  obtain ⟨w, g1, g2, g3, q1, q2, q3, q4⟩ := hs.item hj
  rw [hF] at q3 q4
  obtain ⟨q, ws, rfl, rfl, hq, hws⟩ := q3
  refine ⟨p, vs, q, ws, h1, hp, hs.len, q1, hq, hws, fun es' ws' hes => ?_⟩
  have hqf : q ∈ f.flatten := List.mem_flatten.mpr ⟨_, List.mem_of_getElem? h2, by rw [q2]; simp⟩
  have ndg := nodup_at S.nd h2
  rw [q2, List.nodup_cons] at ndg
  have hqp : p ≠ q := fun z => ndg.1 (by rw [z]; simp)
  have ndg2 := ndg.2
  rw [List.nodup_append, List.nodup_append] at ndg2
  have E : Ev Tbs.tb H f.flatten (upd H q (.lst ws')) f.flatten := ⟨fun a o h hn _ => by
    rw [upd_ne (fun z => hn (by rw [z]; exact hqf))]
    exact h, fun a ha => .inl ha, fun a h => by
    by_cases z : a = q
    · rw [z, upd_same] at h; cases h
    · rw [upd_ne z] at h; exact h⟩
  have eF : f.set i (p :: g) = f := setSelfF h2
  have E' : Ev Tbs.tb H f.flatten (upd H q (.lst ws')) (f.set i (p :: g)).flatten := by rw [eF]; exact E
  have st := S.stays E
  -- the items, one by one
  have others : ∀ {F' : Nat → Bool} {ds' : List D} {vs' : List V} {g' : List Addr}, q ∉ g' → RIs H (ownO G f) F' ds' vs' g' → RIs (upd H q (.lst ws')) (ownO G f) F' ds' vs' g' := fun hn h => h.stay st fun a ha => upd_ne fun z => hn (by rw [← z]; exact ha)
  have items : RIs (upd H q (.lst ws')) (ownO G f) F (ds.set j (.lst es')) vs g := by
    have e0 : vs.set j (.ref q) = vs := by
      obtain ⟨hlt, hx⟩ := List.getElem?_eq_some_iff.mp q1
      rw [← hx, List.set_getElem_self]
    have key : ∀ {F' : Nat → Bool} {ds' : List D} {vs' : List V} {g' : List Addr} {j' : Nat}, F' j' = true → ds'[j']? = some (.lst es) → vs'[j']? = some (.ref q) → g'.Nodup → RIs H (ownO G f) F' ds' vs' g' → RIs (upd H q (.lst ws')) (ownO G f) F' (ds'.set j' (.lst es')) vs' g' := by
      intro F' ds'
      induction ds' generalizing F' with
      | nil => intro vs' g' j' _ e; simp at e
      | cons x ds' ih =>
        intro vs' g' j' hF' e1 e2 nd h
        obtain ⟨v, r, f1, f2, rfl, rfl, a1, a2⟩ := h
        rw [List.nodup_append] at nd
        cases j' with
        | zero =>
          simp at e1 e2
          subst e1 e2
          rw [hF'] at a1
          obtain ⟨q', ws2, eq, rfl, b1, b2⟩ := a1
          cases eq
          refine ⟨_, r, [q], f2, rfl, rfl, ?_, others (fun z => nd.2.2 q (by simp) q z rfl) a2⟩
          rw [hF']
          exact ⟨q, ws', rfl, rfl, upd_same, RFs.stay st _ _ hes⟩
        | succ j' =>
          have e1' : ds'[j']? = some (.lst es) := by simpa using e1
          have e2' : r[j']? = some (.ref q) := by simpa using e2
          obtain ⟨w2, k1, k2, k3, p1, p2, p3, _⟩ := a2.item e1'
          rw [hF'] at p3
          obtain ⟨q3, _, p4, p5, _⟩ := p3
          rw [e2'] at p1
          cases p1
          cases p4
          have hqn : q ∉ f1 := fun z => nd.2.2 q z q (by rw [p2, p5]; simp) rfl
          refine ⟨v, r, f1, f2, rfl, rfl, a1.stay st fun a ha => upd_ne fun z => hqn (by rw [← z]; exact ha), ih (F' := fun i => F' (i + 1)) hF' e1' e2' nd.2.1 a2⟩
    exact key hF hj q1 (by rw [q2]; exact ndg.2) hs
  have qq : RS K (upd H q (.lst ws')) (ownO G (f.set i (p :: g))) (.va m (.lst (ds.set j (.lst es')))) (some (.ref p)) (p :: g) := by
    rw [eF]
    exact ⟨_, rfl, (RO.fl hm).mpr ⟨p, vs, g, rfl, rfl, by rw [upd_ne hqp]; exact hp, items⟩⟩
  have r := S.putE (o := some (.ref p)) h2 E' qq (fun a ha hn => upd_ne fun z => hn (by rw [z, q2]; simp)) (by rw [q2, List.nodup_cons]; exact ndg) (fun a ha => .inl ha) (fun a ha => by
    obtain ⟨ps, z1, t⟩ := S.tbl a ha
    exact ⟨ps, by rw [upd_ne (fun z => by rw [z, hq] at z1; cases z1)]; exact z1, t⟩) (fun F' d' e => by
    cases e
    rw [← S.io i F' _ he, h1])
  rw [setSelf h1, eF] at r
  exact ⟨r, E⟩
/-- a new list becomes an item of slot i's list -/
theorem St.mutN {q : Addr} {ws : List V} {es : List D} (S : St K (G.add q) σ H env f) {i : Nat} {m : OM} {F : Nat → Bool} {ds : List D} (he : env[i]? = some (.va m (.lst ds))) (hm : m.fl = some F) (hF : F ds.length = true)
    (hq : H q = some (.lst ws)) (h0 : G.H0 q = none) (hxq : ¬ G.ex q) (hr : RFs H (ownO (G.add q) f) es ws) :
    ∃ p vs g, σ[i]? = some (some (.ref p)) ∧ H p = some (.lst vs) ∧ vs.length = ds.length ∧ f[i]? = some (p :: g) ∧ St K G σ (upd H p (.lst (vs ++ [.ref q]))) (env.set i (.va m (.lst (ds ++ [.lst es])))) (f.set i (p :: (g ++ [q]))) := by
  obtain ⟨p, vs, g, h1, hp, h2, hs, k⟩ := S.mut he hm
  refine ⟨p, vs, g, h1, hp, hs.len, h2, ?_⟩
  have hpf : p ∈ f.flatten := List.mem_flatten.mpr ⟨_, List.mem_of_getElem? h2, by simp⟩
  have hqf : q ∉ f.flatten := fun z => S.exf q z (.inr rfl)
  have hpq : p ≠ q := fun z => hqf (by rw [← z]; exact hpf)
  have ndg := nodup_at S.nd h2
  have hpg : p ∉ g := (List.nodup_cons.mp ndg).1
  have sub : ∀ a ∈ g, a ∈ f.flatten := fun a ha => List.mem_flatten.mpr ⟨_, List.mem_of_getElem? h2, List.mem_cons_of_mem _ ha⟩
  have lo : ∀ a, ownO G (f.set i (p :: (g ++ [q]))) a → ownO (G.add q) f a := fun a z => by
    rcases z with z | z
    · exact .inl (.inl z)
    · rcases mem_set_flatten z with y | y
      · exact .inr y
      · rcases List.mem_cons.mp y with x | x
        · rw [x]; exact .inr hpf
        · rcases List.mem_append.mp x with w | w
          · exact .inr (sub a w)
          · rw [List.mem_singleton.mp w]; exact .inl (.inr rfl)
  have st : Stays H (ownO (G.add q) f) (upd H p (.lst (vs ++ [.ref q]))) (ownO G (f.set i (p :: (g ++ [q])))) := by
    refine ⟨fun a vs h => ?_, fun a vs h n => ⟨?_, fun z => n (lo a z)⟩, fun a vs h n => ⟨?_, fun z => n (lo a z)⟩, fun a u vs h n => ⟨?_, fun z => n (lo a z)⟩⟩
    · rw [upd_ne (fun z => by rw [z, hp] at h; cases h)]; exact h
    · rw [upd_ne (fun z => n (.inr (by rw [z]; exact hpf)))]; exact h
    · rw [upd_ne (fun z => n (.inr (by rw [z]; exact hpf)))]; exact h
    · rw [upd_ne (fun z => n (.inr (by rw [z]; exact hpf)))]; exact h
  have S' : St K G σ H env f := S.drop
  have items : RIs (upd H p (.lst (vs ++ [.ref q]))) (ownO G (f.set i (p :: (g ++ [q])))) F (ds ++ [.lst es]) (vs ++ [.ref q]) (g ++ [q]) := by
    refine (hs.stay st fun a ha => upd_ne fun z => hpg (by rw [← z]; exact ha)).snoc ?_
    rw [hF]
    exact ⟨q, ws, rfl, rfl, by rw [upd_ne (Ne.symm hpq)]; exact hq, RFs.stay st _ _ hr⟩
  have rr : RE K (upd H p (.lst (vs ++ [.ref q]))) (ownO G (f.set i (p :: (g ++ [q])))) (env.set i (.va m (.lst (ds ++ [.lst es])))) (σ.set i (some (.ref p))) (f.set i (p :: (g ++ [q]))) :=
    RE.swap st (fun a u xs h n => ⟨by rw [upd_ne (fun z => by rw [z, hp] at h; cases h)]; exact h, fun z => n (lo a z)⟩) h2 S.nd (fun a ha hn => upd_ne fun z => hn (by rw [z]; simp)) S.rep ⟨_, rfl, (RO.fl hm).mpr ⟨p, _, _, rfl, rfl, upd_same, items⟩⟩
  rw [setSelf h1] at rr
  have ndn : (p :: (g ++ [q])).Nodup := by
    rw [List.nodup_cons, List.nodup_append]
    refine ⟨fun z => ?_, (List.nodup_cons.mp ndg).2, by simp, fun a ha c hc e => ?_⟩
    · rcases List.mem_append.mp z with w | w
      · exact hpg w
      · exact hpq (List.mem_singleton.mp w)
    · subst e
      rw [List.mem_singleton.mp hc] at ha
      exact hqf (sub q ha)
  refine ⟨rr, nodup_set h2 S.nd ndn fun a ha => ?_, fun a h z => ?_, fun a ha hx => ?_, fun a ha => ?_, ⟨fun a o k1 k2 k3 => ?_, fun a ha => ?_, fun a h => ?_⟩, fun j F' d hj => ?_⟩
  · rcases List.mem_cons.mp ha with x | x
    · exact .inl (by rw [x]; simp)
    · rcases List.mem_append.mp x with w | w
      · exact .inl (List.mem_cons_of_mem _ w)
      · exact .inr (by rw [List.mem_singleton.mp w]; exact hqf)
  · by_cases e : a = p
    · rw [e, upd_same] at z; cases z
    · rw [upd_ne e] at z; exact S'.exd a h z
  · rcases mem_set_flatten ha with y | y
    · exact S'.exf a y hx
    · rcases List.mem_cons.mp y with x | x
      · exact S'.exf p hpf (by rw [← x]; exact hx)
      · rcases List.mem_append.mp x with w | w
        · exact S'.exf a (sub a w) hx
        · exact hxq (by rw [← List.mem_singleton.mp w]; exact hx)
  · obtain ⟨ps, z1, t⟩ := S.tbl a ha
    exact ⟨ps, by rw [upd_ne (fun z => by rw [z, hp] at z1; cases z1)]; exact z1, t⟩
  · have q1 := S'.ev.keep a o k1 k2 k3
    by_cases e : a = p
    · rcases S'.ev.own p hpf with z | z
      · exact absurd (by rw [e]; exact z) k2
      · rw [e, z] at k1; cases k1
    · rw [upd_ne e]; exact q1
  · rcases mem_set_flatten ha with y | y
    · exact S'.ev.own a y
    · rcases List.mem_cons.mp y with x | x
      · exact S'.ev.own a (by rw [x]; exact hpf)
      · rcases List.mem_append.mp x with w | w
        · exact S'.ev.own a (sub a w)
        · exact .inr (by rw [List.mem_singleton.mp w]; exact h0)
  · by_cases e : a = p
    · rw [e, upd_same] at h; cases h
    · rw [upd_ne e] at h; exact S'.ev.dom a h
  · by_cases hji : j = i
    · subst hji
      rw [List.getElem?_set_self (List.getElem?_eq_some_iff.mp he).1] at hj
      cases hj
      exact S'.io j F' _ he
    · rw [List.getElem?_set_ne (Ne.symm hji)] at hj
      exact S'.io j F' d hj
end
end DL

set_option Elab.async false
set_option linter.all false
set_option maxRecDepth 100000
set_option maxHeartbeats 2000000
/-! DL8: the statements and expressions that change owned lists. -/
namespace DL
open PySem PySem.Spec PyProof.Rows L2
def ownL : Option Sl → Option ((Nat → Bool) × OM × List D)
  | some (.va (.own F) (.lst ds)) => some (F, .own F, ds)
  | some (.va (.pin F) (.lst ds)) => some (F, .pin F, ds)
  | _ => none
def isL : Option Sl → Bool
  | some (.va _ (.lst _)) => true
  | _ => false
theorem ownL_some {x : Option Sl} {w : (Nat → Bool) × OM × List D} (h : ownL x = some w) : x = some (.va w.2.1 (.lst w.2.2)) ∧ w.2.1.fl = some w.1 := by
  unfold ownL at h
  split at h
  · cases h; exact ⟨rfl, rfl⟩
  · cases h; exact ⟨rfl, rfl⟩
  · cases h
theorem isL_some {x : Option Sl} (h : isL x = true) : ∃ m ds, x = some (.va m (.lst ds)) := by
  unfold isL at h
  split at h
  · exact ⟨_, _, rfl⟩
  · cases h
/-- an int among the data -/
def asI : Option D → Option Int
  | some (.int k) => some k
  | _ => none
theorem asI_some {x : Option D} {k : Int} (h : asI x = some k) : x = some (.int k) := by
  unfold asI at h
  split at h
  · cases h; rfl
  · cases h
def asL : Option D → Option (List D)
  | some (.lst k) => some k
  | _ => none
theorem asL_some {x : Option D} {k : List D} (h : asL x = some k) : x = some (.lst k) := by
  unfold asL at h
  split at h
  · cases h; rfl
  · cases h
section
variable [Tbs] {K : PySem.W.Frag} {G : Gh} {σ : L2.St} {H H' : Hp} {env : Env} {f f' : List (List Addr)} {O O' : AS} {b : Bool} {W : WXX}
/-- a slot with a list: a value that is a list -/
theorem St.isList (S : St K G σ H env f) {i : Nat} {m : OM} {ds : List D} (he : env[i]? = some (.va m (.lst ds))) : ∃ p vs, σ[i]? = some (some (.ref p)) ∧ H p = some (.lst vs) ∧ vs.length = ds.length := by
  obtain ⟨o, g, h1, h2, v, eo, hr⟩ := S.rep.get he
  subst eo
  cases m with
  | no =>
    obtain ⟨_, p, vs, rfl, hp, _, hs⟩ := hr
    exact ⟨p, vs, h1, hp, hs.len⟩
  | own F =>
    obtain ⟨p, vs, _, rfl, _, hp, hs⟩ := hr
    exact ⟨p, vs, h1, hp, hs.len⟩
  | pin F =>
    obtain ⟨p, vs, _, rfl, _, hp, hs⟩ := hr
    exact ⟨p, vs, h1, hp, hs.len⟩
def sApp (i : Nat) (p : EV1) : ES := fun env => if isL env[i]? = true then (p env).bind fun y => (ownL y.2[i]?).bind fun w => if w.1 w.2.2.length = false ∧ w.2.2.length < big then some (.nx (y.2.set i (.va w.2.1 (.lst (w.2.2 ++ [y.1]))))) else none else none
def sAppN (i : Nat) (p : Env → Option (List D × Env)) : ES := fun env => if isL env[i]? = true then (p env).bind fun y => (ownL y.2[i]?).bind fun w => if w.1 w.2.2.length = true ∧ w.2.2.length < big then some (.nx (y.2.set i (.va w.2.1 (.lst (w.2.2 ++ [.lst y.1]))))) else none else none
def sApp2 (i : Nat) (q p : EP1) : ES := fun env => (ownL env[i]?).bind fun w => (asI (q env)).bind fun k => (ixN w.2.2.length k).bind fun j => if w.1 j = true then (asL w.2.2[j]?).bind fun es => (p env).bind fun d => if es.length < big then some (.nx (env.set i (.va w.2.1 (.lst (w.2.2.set j (.lst (es ++ [d]))))))) else none else none
def sSetIx (i : Nat) (q : EP1) (p : EV1) : ES := fun env => (p env).bind fun y => (ownL y.2[i]?).bind fun w => (asI (q y.2)).bind fun k => (ixN w.2.2.length k).bind fun j => if w.1 j = false then some (.nx (y.2.set i (.va w.2.1 (.lst (w.2.2.set j y.1))))) else none
def sSetIx2 (i : Nat) (q r : EP1) (p : EV1) : ES := fun env => (p env).bind fun y => (ownL y.2[i]?).bind fun w => (asI (q y.2)).bind fun k => (ixN w.2.2.length k).bind fun j => if w.1 j = true then (asL w.2.2[j]?).bind fun es => (asI (r y.2)).bind fun k2 => (ixN es.length k2).bind fun j2 => some (.nx (y.2.set i (.va w.2.1 (.lst (w.2.2.set j (.lst (es.set j2 y.1))))))) else none
def sRev (i : Nat) : ES := fun env => (ownL env[i]?).bind fun w => if noF w.1 w.2.2.length = true then some (.nx (env.set i (.va w.2.1 (.lst w.2.2.reverse)))) else none
def vPop (i : Nat) : EV1 := fun env => (ownL env[i]?).bind fun w => (w.2.2[w.2.2.length - 1]?).map fun d => (d, env.set i (.va w.2.1 (.lst w.2.2.dropLast)))
def vPop2 (i : Nat) (q : EP1) : EV1 := fun env => (ownL env[i]?).bind fun w => (asI (q env)).bind fun k => (ixN w.2.2.length k).bind fun j => if w.1 j = true then (asL w.2.2[j]?).bind fun es => (es[es.length - 1]?).map fun d => (d, env.set i (.va w.2.1 (.lst (w.2.2.set j (.lst es.dropLast))))) else none
/-- x[q] where item q is fixed; x[q][r] where item q is an own list -/
def eIxO (i : Nat) (q : EP1) : EP1 := fun env => (ownL env[i]?).bind fun w => (asI (q env)).bind fun k => (ixN w.2.2.length k).bind fun j => if w.1 j = false then w.2.2[j]? else none
def eIxO2 (i : Nat) (q r : EP1) : EP1 := fun env => (ownL env[i]?).bind fun w => (asI (q env)).bind fun k => (ixN w.2.2.length k).bind fun j => if w.1 j = true then (asL w.2.2[j]?).bind fun es => (asI (r env)).bind fun k2 => atI es k2 else none
theorem atI_ix {α : Type} {xs : List α} {k : Int} {j : Nat} {v : α} (h : ixN xs.length k = some j) (h2 : xs[j]? = some v) : atI xs k = some v := by
  unfold atI
  rw [h]
  exact h2
section
variable {X : Cx} {a c : Expr} {pos p1 p2 p3 px : Pos} {pv : EV1} {pn : Env → Option (List D × Env)} {p q r : EP1} {i : Nat} {x : Str}
theorem p_neg {n : Int} {j : Nat} : PP b X (.UnaryOp .USub (.Constant (.int n) j p1) pos) (cst (.int (-n))) := PE.wk (pe_un un_neg pe_int) fun σ H Q t => by
  obtain ⟨G, env, fl, d, S, e, k⟩ := t
  cases e
  exact ⟨n, rfl, k _ H (Ext.refl H) rfl⟩
theorem s_app (hN : X.N[i]? = some x) (hv : Vis X.env.scope x) (h : PV X a pv) (hd : (x == ("__debug__" : Str)) = false := by decide) (hcd : (x == ("__classdict__" : Str)) = false := by decide)
    (he : starEach (a :: []) X.env = (false, eval a X.env) :: starEach [] X.env := by rfl) (hbase : attributeBase (.Name x px) "append" X.env (eval (.Name x px) X.env) = eval (.Name x px) X.env := by rfl) (hline : (p1.endLine == p2.line) = true := by rfl) (hfew : ((backTo p2 (starEach (a :: []) X.env)).all (fun x => !x.1) && (backToKw p2 (keywordEach [] X.env)).all (fun x => x.1.isSome) && decide ((a :: ([] : List Expr)).length + ([] : List Keyword).length + (if ([] : List Keyword).isEmpty then 0 else 1) < 30)) = true := by rfl) (hpl : (backTo p2 (starEach [] X.env)).any (·.1) = false := by rfl)
    (hs : swapsWith (.Call (.Attribute (.Name x px) "append" p1) [a] [] p2) none pos.line X.env = pure false := by rfl) :
    PSv W X (.Expr (.Call (.Attribute (.Name x px) "append" p1) [a] [] p2) pos) (sApp i pv) :=
  PS.wk (ps_expr (pe_bm PySem.F.plainAttrs_list PySem.F.slot_list_append PySem.F.type_list_append mt_append (pe_var hN hv hd hcd) (pa_cons h pa_nil he) hbase hfew hline he hpl) hs) fun D σ H q => by
    obtain ⟨G, env, fl, o, S, e, k⟩ := q
    unfold sApp at e
    split at e
    · rename_i hl
      obtain ⟨m0, ds0, he0⟩ := isL_some hl
      obtain ⟨⟨d, e1⟩, h1, e⟩ := Option.bind_eq_some_iff.mp e
      obtain ⟨w, hw, e⟩ := Option.bind_eq_some_iff.mp e
      split at e
      · rename_i hF
        cases e
        obtain ⟨w1, w2⟩ := ownL_some hw
        obtain ⟨p, vs, hσ, hp, _⟩ := S.isList he0
        refine ⟨_, hσ, .inl ⟨rfl, vs, SqL.of hp⟩, G, env, fl, d, e1, S, h1, fun v H1 f1 S1 E1 r1 => ?_⟩
        obtain ⟨p', vs', g, hσ', hp', hf', hs', key⟩ := S1.mut w1 w2
        rw [hσ] at hσ'
        cases hσ'
        have hlen := hs'.len
        have ndg := nodup_at S1.nd hf'
        obtain ⟨S2, E2⟩ := key (w.2.2 ++ [d]) (vs' ++ [v]) g (fun a h => h) (List.nodup_cons.mp ndg).2 (by
          have z := hs'.snoc (d := d) (v := v) (g1 := []) (by rw [hF.1]; exact ⟨rfl, r1⟩)
          rwa [List.append_nil] at z)
        exact ⟨p, vs', v, rfl, rfl, hp', big_lt (by rw [hlen]; exact hF.2), k σ _ _ S2 (E1.trans E2)⟩
      · cases e
    · cases e
theorem s_appN (hN : X.N[i]? = some x) (hv : Vis X.env.scope x) (h : PN X a pn) (hd : (x == ("__debug__" : Str)) = false := by decide) (hcd : (x == ("__classdict__" : Str)) = false := by decide)
    (he : starEach (a :: []) X.env = (false, eval a X.env) :: starEach [] X.env := by rfl) (hbase : attributeBase (.Name x px) "append" X.env (eval (.Name x px) X.env) = eval (.Name x px) X.env := by rfl) (hline : (p1.endLine == p2.line) = true := by rfl) (hfew : ((backTo p2 (starEach (a :: []) X.env)).all (fun x => !x.1) && (backToKw p2 (keywordEach [] X.env)).all (fun x => x.1.isSome) && decide ((a :: ([] : List Expr)).length + ([] : List Keyword).length + (if ([] : List Keyword).isEmpty then 0 else 1) < 30)) = true := by rfl) (hpl : (backTo p2 (starEach [] X.env)).any (·.1) = false := by rfl)
    (hs : swapsWith (.Call (.Attribute (.Name x px) "append" p1) [a] [] p2) none pos.line X.env = pure false := by rfl) :
    PSv W X (.Expr (.Call (.Attribute (.Name x px) "append" p1) [a] [] p2) pos) (sAppN i pn) :=
  PS.wk (ps_expr (pe_bm PySem.F.plainAttrs_list PySem.F.slot_list_append PySem.F.type_list_append mt_append (pe_var hN hv hd hcd) (pa_cons h pa_nil he) hbase hfew hline he hpl) hs) fun D σ H q => by
    obtain ⟨G, env, fl, o, S, e, k⟩ := q
    unfold sAppN at e
    split at e
    · rename_i hl
      obtain ⟨m0, ds0, he0⟩ := isL_some hl
      obtain ⟨⟨d, e1⟩, h1, e⟩ := Option.bind_eq_some_iff.mp e
      obtain ⟨w, hw, e⟩ := Option.bind_eq_some_iff.mp e
      split at e
      · rename_i hF
        cases e
        obtain ⟨w1, w2⟩ := ownL_some hw
        obtain ⟨p, vs, hσ, hp, _⟩ := S.isList he0
        refine ⟨_, hσ, .inl ⟨rfl, vs, SqL.of hp⟩, G, env, fl, d, e1, S, h1, fun q ws H1 f1 S1 E1 hq0 hq r1 => ?_⟩
        obtain ⟨p', vs', g, hσ', hp', hlen, hf', S2⟩ := S1.mutN w1 w2 hF.1 hq (S.ev.dom q hq0) (fun z => S.exd q z hq0) r1
        rw [hσ] at hσ'
        cases hσ'
        have hpf : p ∈ f1.flatten := List.mem_flatten.mpr ⟨_, List.mem_of_getElem? hf', by simp⟩
        have E2 : Ev Tbs.tb H fl.flatten (upd H1 p (.lst (vs' ++ [.ref q]))) (f1.set i (p :: (g ++ [q]))).flatten := ⟨fun a o k1 k2 k3 => by
          by_cases z : a = p
          · rcases E1.own p hpf with y | y
            · exact absurd (by rw [z]; exact y) k2
            · rw [z, y] at k1; cases k1
          · rw [upd_ne z]; exact E1.keep a o k1 k2 k3, fun a ha => by
          rcases mem_set_flatten ha with y | y
          · exact E1.own a y
          · rcases List.mem_cons.mp y with z | z
            · exact E1.own a (by rw [z]; exact hpf)
            · rcases List.mem_append.mp z with u | u
              · exact E1.own a (List.mem_flatten.mpr ⟨_, List.mem_of_getElem? hf', List.mem_cons_of_mem _ u⟩)
              · exact .inr (by rw [List.mem_singleton.mp u]; exact hq0), fun a h => by
          by_cases z : a = p
          · rw [z, upd_same] at h; cases h
          · rw [upd_ne z] at h; exact E1.dom a h⟩
        exact ⟨p, vs', .ref q, rfl, rfl, hp', big_lt (by rw [hlen]; exact hF.2), k σ _ _ S2 E2⟩
      · cases e
    · cases e
theorem s_app2 {ps : Pos} (hN : X.N[i]? = some x) (hv : Vis X.env.scope x) (hq : PP false X c q) (hp : PP true X a p) (hix : PlainIx c) (hd : (x == ("__debug__" : Str)) = false := by decide) (hcd : (x == ("__classdict__" : Str)) = false := by decide)
    (he : starEach (a :: []) X.env = (false, eval a X.env) :: starEach [] X.env := by rfl) (hbase : attributeBase (.Subscript (.Name x px) c ps) "append" X.env (eval (.Subscript (.Name x px) c ps) X.env) = eval (.Subscript (.Name x px) c ps) X.env := by rfl) (hline : (p1.endLine == p2.line) = true := by rfl) (hfew : ((backTo p2 (starEach (a :: []) X.env)).all (fun x => !x.1) && (backToKw p2 (keywordEach [] X.env)).all (fun x => x.1.isSome) && decide ((a :: ([] : List Expr)).length + ([] : List Keyword).length + (if ([] : List Keyword).isEmpty then 0 else 1) < 30)) = true := by rfl) (hpl : (backTo p2 (starEach [] X.env)).any (·.1) = false := by rfl)
    (hs : swapsWith (.Call (.Attribute (.Subscript (.Name x px) c ps) "append" p1) [a] [] p2) none pos.line X.env = pure false := by rfl) :
    PSv W X (.Expr (.Call (.Attribute (.Subscript (.Name x px) c ps) "append" p1) [a] [] p2) pos) (sApp2 i q p) :=
  PS.wk (ps_expr (pe_bm PySem.F.plainAttrs_list PySem.F.slot_list_append PySem.F.type_list_append mt_append (pe_ix ix_list (pe_var hN hv hd hcd) hq hix) (pa_cons hp pa_nil he) hbase hfew hline he hpl) hs) fun D σ H qq => by
    obtain ⟨G, env, fl, o, S, e, k⟩ := qq
    obtain ⟨w, hw, e⟩ := Option.bind_eq_some_iff.mp e
    obtain ⟨n, hn, e⟩ := Option.bind_eq_some_iff.mp e
    obtain ⟨j, hj, e⟩ := Option.bind_eq_some_iff.mp e
    split at e
    · rename_i hF
      obtain ⟨es, hes, e⟩ := Option.bind_eq_some_iff.mp e
      obtain ⟨d, hd, e⟩ := Option.bind_eq_some_iff.mp e
      split at e
      · rename_i hz
        cases e
        obtain ⟨w1, w2⟩ := ownL_some hw
        obtain ⟨p0, vs, q0, ws, hσ, hp0, hlen, hvj, hq0, hrs, _⟩ := S.mut2 w1 w2 (asL_some hes) hF
        refine ⟨_, hσ, G, env, fl, _, S, asI_some hn, fun y H1 e1 r1 => ?_⟩
        refine ⟨p0, vs, n, .ref q0, rfl, r1, SqL.of (e1 _ _ hp0), atI_ix (by rw [hlen]; exact hj) hvj, .inl ⟨rfl, ws, SqL.of (e1 _ _ hq0)⟩, G, env, fl, d, S.ext e1, hd, fun v H2 e2 r2 => ?_⟩
        have S2 := (S.ext e1).ext e2
        obtain ⟨p', vs', q', ws', hσ', hp', _, hvj', hq', hrs', key⟩ := S2.mut2 w1 w2 (asL_some hes) hF
        rw [hσ] at hσ'
        cases hσ'
        rw [e2 _ _ (e1 _ _ hp0)] at hp'
        cases hp'
        rw [hvj] at hvj'
        cases hvj'
        obtain ⟨S3, E3⟩ := key (es ++ [d]) (ws' ++ [v]) (hrs'.append (.cons r2.of_av .nil))
        exact ⟨q0, ws', v, rfl, rfl, hq', big_lt (by rw [hrs'.len]; exact hz), k σ _ _ S3 ((Ev.ofExt (e1.trans e2)).trans E3)⟩
      · cases e
    · cases e
theorem s_setIx {ps : Pos} (hN : X.N[i]? = some x) (hv : Vis X.env.scope x) (hq : PP false X c q) (h : PV X a pv) (hd : (x == ("__debug__" : Str)) = false := by decide) (hcd : (x == ("__classdict__" : Str)) = false := by decide)
    (ha : ∀ v, assign (.Subscript (.Name x px) c p1) X.env v = (do
      let ov ← holding [v] (eval (.Name x px) X.env)
      let iv ← holding [v, ov] (eval c X.env)
      standAt p1
      holding [v, ov, iv] (setItem ov iv v)
      release [v, ov, iv] []) := by intro _; rfl)
    (hs : swapsWithSole [.Subscript (.Name x px) c p1] a pos.line X.env = pure false := by rfl) (hw : swappedStores [.Subscript (.Name x px) c p1] a X.env = pure none := by rfl) (h1 : (assignEach [.Subscript (.Name x px) c p1] X.env).map (·.2) = [assign (.Subscript (.Name x px) c p1) X.env] := by rfl) :
    PSv W X (.Assign [.Subscript (.Name x px) c p1] a pos) (sSetIx i q pv) :=
  PS.wk (ps_asg h (pg_sub (pe_var hN hv hd hcd) hq set_list ha) hs hw h1) fun D σ H qq => by
    obtain ⟨G, env, fl, o, S, e, k⟩ := qq
    obtain ⟨⟨d, e1⟩, h1, e⟩ := Option.bind_eq_some_iff.mp e
    obtain ⟨w, hw, e⟩ := Option.bind_eq_some_iff.mp e
    obtain ⟨n, hn, e⟩ := Option.bind_eq_some_iff.mp e
    obtain ⟨j, hj, e⟩ := Option.bind_eq_some_iff.mp e
    split at e
    · rename_i hF
      cases e
      obtain ⟨w1, w2⟩ := ownL_some hw
      refine ⟨G, env, fl, d, e1, S, h1, fun v H1 f1 S1 E1 r1 => ?_⟩
      obtain ⟨p', vs', g, hσ', hp', hf', hs', _⟩ := S1.mut w1 w2
      refine ⟨_, hσ', G, e1, f1, _, S1, asI_some hn, fun y H2 e2 r2 => ?_⟩
      have S2 := S1.ext e2
      obtain ⟨p2, vs2, g2, hσ2, hp2, hf2, hs2, key⟩ := S2.mut w1 w2
      rw [hσ'] at hσ2
      cases hσ2
      have hlt := (ixN_seq hj).2.1
      obtain ⟨v0, g1, g2', g3, q1, q2, q3, q4⟩ := hs2.item (List.getElem?_eq_getElem hlt)
      rw [hF] at q3 q4
      obtain ⟨rfl, _⟩ := q3
      have ndg := nodup_at S2.nd hf2
      obtain ⟨S3, E3⟩ := key _ _ _ (fun a h => h) (List.nodup_cons.mp ndg).2 (by
        have z := q4 d v [] ⟨rfl, r1.ext e2⟩
        rw [← q2] at z
        exact z)
      exact ⟨p', vs2, n, j, rfl, r2, hp2, by rw [hs2.len]; exact hj, k σ _ _ S3 (E1.trans ((Ev.ofExt e2).trans E3))⟩
    · cases e
theorem s_setIx2 {ps : Pos} {c2 : Expr} (hN : X.N[i]? = some x) (hv : Vis X.env.scope x) (hq : PP false X c q) (hq2 : PP false X c2 r) (hix : PlainIx c) (h : PV X a pv) (hd : (x == ("__debug__" : Str)) = false := by decide) (hcd : (x == ("__classdict__" : Str)) = false := by decide)
    (ha : ∀ v, assign (.Subscript (.Subscript (.Name x px) c ps) c2 p1) X.env v = (do
      let ov ← holding [v] (eval (.Subscript (.Name x px) c ps) X.env)
      let iv ← holding [v, ov] (eval c2 X.env)
      standAt p1
      holding [v, ov, iv] (setItem ov iv v)
      release [v, ov, iv] []) := by intro _; rfl)
    (hs : swapsWithSole [.Subscript (.Subscript (.Name x px) c ps) c2 p1] a pos.line X.env = pure false := by rfl) (hw : swappedStores [.Subscript (.Subscript (.Name x px) c ps) c2 p1] a X.env = pure none := by rfl) (h1 : (assignEach [.Subscript (.Subscript (.Name x px) c ps) c2 p1] X.env).map (·.2) = [assign (.Subscript (.Subscript (.Name x px) c ps) c2 p1) X.env] := by rfl) :
    PSv W X (.Assign [.Subscript (.Subscript (.Name x px) c ps) c2 p1] a pos) (sSetIx2 i q r pv) :=
  PS.wk (ps_asg h (pg_sub (pe_ix ix_list (pe_var hN hv hd hcd) hq hix) hq2 set_list ha) hs hw h1) fun D σ H qq => by
    obtain ⟨G, env, fl, o, S, e, k⟩ := qq
    obtain ⟨⟨d, e1⟩, h1, e⟩ := Option.bind_eq_some_iff.mp e
    obtain ⟨w, hw, e⟩ := Option.bind_eq_some_iff.mp e
    obtain ⟨n, hn, e⟩ := Option.bind_eq_some_iff.mp e
    obtain ⟨j, hj, e⟩ := Option.bind_eq_some_iff.mp e
    split at e
    · rename_i hF
      obtain ⟨es, hes, e⟩ := Option.bind_eq_some_iff.mp e
      obtain ⟨n2, hn2, e⟩ := Option.bind_eq_some_iff.mp e
      obtain ⟨j2, hj2, e⟩ := Option.bind_eq_some_iff.mp e
      cases e
      obtain ⟨w1, w2⟩ := ownL_some hw
      refine ⟨G, env, fl, d, e1, S, h1, fun v H1 f1 S1 E1 r1 => ?_⟩
      obtain ⟨p0, vs, q0, ws, hσ, hp0, hlen, hvj, hq0, hrs, _⟩ := S1.mut2 w1 w2 (asL_some hes) hF
      refine ⟨_, hσ, G, e1, f1, _, S1, asI_some hn, fun y H2 e2 r2 => ?_⟩
      refine ⟨p0, vs, n, .ref q0, rfl, r2, SqL.of (e2 _ _ hp0), atI_ix (by rw [hlen]; exact hj) hvj, G, e1, f1, _, S1.ext e2, asI_some hn2, fun y2 H3 e3 r3 => ?_⟩
      have S3 := (S1.ext e2).ext e3
      obtain ⟨p', vs', q', ws', hσ', hp', _, hvj', hq', hrs', key⟩ := S3.mut2 w1 w2 (asL_some hes) hF
      rw [hσ] at hσ'
      cases hσ'
      rw [e3 _ _ (e2 _ _ hp0)] at hp'
      cases hp'
      rw [hvj] at hvj'
      cases hvj'
      obtain ⟨S4, E4⟩ := key (es.set j2 d) (ws'.set j2 v) (hrs'.set j2 ((r1.ext e2).ext e3))
      exact ⟨q0, ws', n2, j2, rfl, r3, hq', by rw [hrs'.len]; exact hj2, k σ _ _ S4 (E1.trans ((Ev.ofExt (e2.trans e3)).trans E4))⟩
    · cases e
theorem RIs.unsnoc : ∀ {F : Nat → Bool} {ds : List D} {vs : List V} {g : List Addr} {d : D}, RIs H O F ds vs g → ds[ds.length - 1]? = some d → ∃ v g1 g2, vs[vs.length - 1]? = some v ∧ g = g1 ++ g2 ∧ RIs H O F ds.dropLast vs.dropLast g1 ∧ RI H O (F (ds.length - 1)) d v g2
  | _, [], _, _, _, _, e => by simp at e
  | F, [x], _, _, d, h, e => by
    obtain ⟨v, r, f1, f2, rfl, rfl, h1, h2⟩ := h
    obtain ⟨rfl, rfl⟩ := h2
    simp at e
    subst e
    exact ⟨v, [], f1, rfl, by simp, ⟨rfl, rfl⟩, h1⟩
  | F, x :: y :: ds, _, _, d, h, e => by
    obtain ⟨v, r, f1, f2, rfl, rfl, h1, h2⟩ := h
    have e' : (y :: ds)[(y :: ds).length - 1]? = some d := by simpa using e
    obtain ⟨w, g1, g2, q1, q2, q3, q4⟩ := RIs.unsnoc h2 e'
    have hl := h2.len
    subst q2
    refine ⟨w, f1 ++ g1, g2, ?_, by simp, ?_, ?_⟩
    · cases r with
      | nil => simp at hl
      | cons a r => simpa using q1
    · cases r with
      | nil => simp at hl
      | cons a r => exact ⟨v, (a :: r).dropLast, f1, g1, rfl, rfl, h1, q3⟩
    · simpa using q4
theorem v_pop (hN : X.N[i]? = some x) (hv : Vis X.env.scope x) (hd : (x == ("__debug__" : Str)) = false := by decide) (hcd : (x == ("__classdict__" : Str)) = false := by decide)
    (hbase : attributeBase (.Name x px) "pop" X.env (eval (.Name x px) X.env) = eval (.Name x px) X.env := by rfl) (hline : (p1.endLine == pos.line) = true := by rfl) :
    PV X (.Call (.Attribute (.Name x px) "pop" p1) [] [] pos) (vPop i) :=
  PE.wk (pe_bm0 PySem.F.plainAttrs_list PySem.F.slot_list_pop PySem.F.type_list_pop mt_pop (pe_var hN hv hd hcd) hbase hline) fun σ H Q qq => by
    obtain ⟨G, env, fl, d, env', S, e, k⟩ := qq
    obtain ⟨w, hw, e⟩ := Option.bind_eq_some_iff.mp e
    obtain ⟨d', hd', e⟩ := Option.map_eq_some_iff.mp e
    cases e
    obtain ⟨w1, w2⟩ := ownL_some hw
    obtain ⟨p, vs, g, hσ, hp, hf, hs, key⟩ := S.mut w1 w2
    obtain ⟨v, g1, g2, q1, q2, q3, q4⟩ := hs.unsnoc hd'
    have ndg := nodup_at S.nd hf
    have ndg' := ndg
    rw [q2, List.nodup_cons, List.nodup_append] at ndg'
    obtain ⟨S2, E2⟩ := key _ _ g1 (fun a h => by rw [q2]; exact List.mem_append_left _ h) ndg'.2.1 q3
    refine ⟨_, hσ, .inl ⟨rfl, vs, SqL.of hp⟩, p, vs, v, rfl, rfl, hp, q1, k v _ _ S2 E2 ?_⟩
    cases hfl : w.1 (w.2.2.length - 1) with
    | false =>
      rw [hfl] at q4
      exact RF.stay (S.stays E2) _ _ q4.2
    | true =>
      rw [hfl] at q4
      cases d with
      | lst es =>
        obtain ⟨z, ws, rfl, rfl, hz, hws⟩ := q4
        have hzf : z ∈ fl.flatten := List.mem_flatten.mpr ⟨_, List.mem_of_getElem? hf, by rw [q2]; simp⟩
        have hzp : z ≠ p := fun y => ndg'.1 (by rw [← y]; simp)
        refine ⟨z, ws, rfl, by rw [upd_ne hzp]; exact hz, fun y => ?_, RFs.stay (S.stays E2) _ _ hws⟩
        rcases y with y | y
        · exact S.exf z hzf y
        · obtain ⟨l, hl, hzl⟩ := List.mem_flatten.mp y
          obtain ⟨j, hj⟩ := List.getElem?_of_mem hl
          by_cases hji : i = j
          · subst hji
            rw [List.getElem?_set_self (List.getElem?_eq_some_iff.mp hf).1] at hj
            cases hj
            rcases List.mem_cons.mp hzl with u | u
            · exact hzp u
            · exact ndg'.2.2.2 z u z (by simp) rfl
          · rw [List.getElem?_set_ne hji] at hj
            exact dis S.nd hf hj hji (by rw [q2]; simp) hzl
      | _ => exact q4.elim
theorem v_pop2 {ps : Pos} (hN : X.N[i]? = some x) (hv : Vis X.env.scope x) (hq : PP false X c q) (hix : PlainIx c) (hd : (x == ("__debug__" : Str)) = false := by decide) (hcd : (x == ("__classdict__" : Str)) = false := by decide)
    (hbase : attributeBase (.Subscript (.Name x px) c ps) "pop" X.env (eval (.Subscript (.Name x px) c ps) X.env) = eval (.Subscript (.Name x px) c ps) X.env := by rfl) (hline : (p1.endLine == pos.line) = true := by rfl) :
    PV X (.Call (.Attribute (.Subscript (.Name x px) c ps) "pop" p1) [] [] pos) (vPop2 i q) :=
  PE.wk (pe_bm0 PySem.F.plainAttrs_list PySem.F.slot_list_pop PySem.F.type_list_pop mt_pop (pe_ix ix_list (pe_var hN hv hd hcd) hq hix) hbase hline) fun σ H Q qq => by
    obtain ⟨G, env, fl, d, env', S, e, k⟩ := qq
    obtain ⟨w, hw, e⟩ := Option.bind_eq_some_iff.mp e
    obtain ⟨n, hn, e⟩ := Option.bind_eq_some_iff.mp e
    obtain ⟨j, hj, e⟩ := Option.bind_eq_some_iff.mp e
    split at e
    · rename_i hF
      obtain ⟨es, hes, e⟩ := Option.bind_eq_some_iff.mp e
      obtain ⟨d', hd', e⟩ := Option.map_eq_some_iff.mp e
      cases e
      obtain ⟨w1, w2⟩ := ownL_some hw
      obtain ⟨p0, vs, q0, ws, hσ, hp0, hlen, hvj, hq0, hrs, _⟩ := S.mut2 w1 w2 (asL_some hes) hF
      refine ⟨_, hσ, G, env, fl, _, S, asI_some hn, fun y H1 e1 r1 => ?_⟩
      have S1 := S.ext e1
      obtain ⟨p', vs', q', ws', hσ', hp', _, hvj', hq', hrs', key⟩ := S1.mut2 w1 w2 (asL_some hes) hF
      rw [hσ] at hσ'
      cases hσ'
      rw [e1 _ _ hp0] at hp'
      cases hp'
      rw [hvj] at hvj'
      cases hvj'
      obtain ⟨v, hv', rv⟩ := hrs'.get hd'
      obtain ⟨S2, E2⟩ := key es.dropLast ws'.dropLast hrs'.dropLast
      refine ⟨p0, vs, n, .ref q0, rfl, r1, SqL.of (e1 _ _ hp0), atI_ix (by rw [hlen]; exact hj) hvj, .inl ⟨rfl, ws', SqL.of hq'⟩, q0, ws', v, rfl, rfl, hq', by rw [hrs'.len]; exact hv', ?_⟩
      exact k v _ _ S2 ((Ev.ofExt e1).trans E2) (RF.go S1 E2 rv)
    · cases e
theorem s_rev (hN : X.N[i]? = some x) (hv : Vis X.env.scope x) (hd : (x == ("__debug__" : Str)) = false := by decide) (hcd : (x == ("__classdict__" : Str)) = false := by decide)
    (hbase : attributeBase (.Name x px) "reverse" X.env (eval (.Name x px) X.env) = eval (.Name x px) X.env := by rfl) (hline : (p1.endLine == p2.line) = true := by rfl)
    (hs : swapsWith (.Call (.Attribute (.Name x px) "reverse" p1) [] [] p2) none pos.line X.env = pure false := by rfl) :
    PSv W X (.Expr (.Call (.Attribute (.Name x px) "reverse" p1) [] [] p2) pos) (sRev i) :=
  PS.wk (ps_expr (pe_bm0 PySem.F.plainAttrs_list PySem.F.slot_list_reverse PySem.F.type_list_reverse mt_reverse (pe_var hN hv hd hcd) hbase hline) hs) fun D σ H qq => by
    obtain ⟨G, env, fl, o, S, e, k⟩ := qq
    obtain ⟨w, hw, e⟩ := Option.bind_eq_some_iff.mp e
    split at e
    · rename_i hF
      cases e
      obtain ⟨w1, w2⟩ := ownL_some hw
      obtain ⟨p, vs, g, hσ, hp, hf, hs, key⟩ := S.mut w1 w2
      obtain ⟨hfx, rfl⟩ := hs.fixed (noF_iff.mp hF)
      obtain ⟨S2, E2⟩ := key w.2.2.reverse vs.reverse [] (by simp) (by simp) (RIs.mk (fun j hj => noF_iff.mp hF j (by simpa using hj)) hfx.reverse)
      exact ⟨_, hσ, .inl ⟨rfl, vs, SqL.of hp⟩, p, vs, rfl, rfl, hp, k σ _ _ S2 E2⟩
    · cases e
theorem p_ixO (hN : X.N[i]? = some x) (hv : Vis X.env.scope x) (hq : PP false X c q) (hix : PlainIx c) (hd : (x == ("__debug__" : Str)) = false := by decide) (hcd : (x == ("__classdict__" : Str)) = false := by decide) :
    PP true X (.Subscript (.Name x px) c pos) (eIxO i q) := PE.wk (pe_ix ix_list (pe_var hN hv hd hcd) hq hix) fun σ H Q qq => by
  obtain ⟨G, env, fl, d, S, e, k⟩ := qq
  obtain ⟨w, hw, e⟩ := Option.bind_eq_some_iff.mp e
  obtain ⟨n, hn, e⟩ := Option.bind_eq_some_iff.mp e
  obtain ⟨j, hj, e⟩ := Option.bind_eq_some_iff.mp e
  split at e
  · rename_i hF
    obtain ⟨w1, w2⟩ := ownL_some hw
    obtain ⟨p, vs, g, hσ, hp, hf, hs, _⟩ := S.mut w1 w2
    obtain ⟨v, g1, g2, g3, q1, q2, q3, _⟩ := hs.item e
    rw [hF] at q3
    refine ⟨_, hσ, G, env, fl, _, S, asI_some hn, fun y H1 e1 r1 => ⟨p, vs, n, v, rfl, r1, SqL.of (e1 _ _ hp), atI_ix (by rw [hs.len]; exact hj) q1, k v H1 e1 ?_⟩⟩
    exact RF.stay (Stays.lower H1 fun _ z => z.2) _ _ (q3.2.ext e1)
  · cases e
theorem p_ixO2 {c2 : Expr} {ps : Pos} (hN : X.N[i]? = some x) (hv : Vis X.env.scope x) (hq : PP false X c q) (hix : PlainIx c) (hr : PP false X c2 r) (hix2 : PlainIx c2) (hd : (x == ("__debug__" : Str)) = false := by decide) (hcd : (x == ("__classdict__" : Str)) = false := by decide) :
    PP true X (.Subscript (.Subscript (.Name x px) c ps) c2 pos) (eIxO2 i q r) := PE.wk (pe_ix ix_list (pe_ix ix_list (pe_var hN hv hd hcd) hq hix) hr hix2) fun σ H Q qq => by
  obtain ⟨G, env, fl, d, S, e, k⟩ := qq
  obtain ⟨w, hw, e⟩ := Option.bind_eq_some_iff.mp e
  obtain ⟨n, hn, e⟩ := Option.bind_eq_some_iff.mp e
  obtain ⟨j, hj, e⟩ := Option.bind_eq_some_iff.mp e
  split at e
  · rename_i hF
    obtain ⟨es, hes, e⟩ := Option.bind_eq_some_iff.mp e
    obtain ⟨n2, hn2, e⟩ := Option.bind_eq_some_iff.mp e
    obtain ⟨w1, w2⟩ := ownL_some hw
    obtain ⟨p0, vs, q0, ws, hσ, hp0, hlen, hvj, hq0, hrs, _⟩ := S.mut2 w1 w2 (asL_some hes) hF
    obtain ⟨v, hv, rv⟩ := atI_RFs hrs e
    refine ⟨_, hσ, G, env, fl, _, S, asI_some hn, fun y H1 e1 r1 => ⟨p0, vs, n, .ref q0, rfl, r1, SqL.of (e1 _ _ hp0), atI_ix (by rw [hlen]; exact hj) hvj, G, env, fl, _, S.ext e1, asI_some hn2, fun y2 H2 e2 r2 => ?_⟩⟩
    refine ⟨q0, ws, n2, v, rfl, r2, SqL.of (e2 _ _ (e1 _ _ hq0)), hv, k v H2 (e1.trans e2) ?_⟩
    exact RF.stay (Stays.lower H2 fun _ z => z.2) _ _ ((rv.ext e1).ext e2)
  · cases e
end
end
end DL

set_option Elab.async false
set_option linter.all false
set_option maxRecDepth 100000
set_option maxHeartbeats 2000000
/-! DL9: defs: what they answer over plain data; calls. -/
namespace DL
open PySem PySem.Spec PyProof.Rows L2
inductive FRes where
  | ret (d : D) (outs : List Sl) | exc (c : Nat) (as : List D)
abbrev FSem := List Sl → Option FRes
/-- what the caller gets back of its own things -/
def kp : Nat → Env → Env
  | 0, _ => []
  | _ + 1, [] => []
  | n + 1, .va (.pin F) d :: env => .va (.pin F) d :: kp n env
  | n + 1, _ :: env => .un :: kp n env
def kpF : Nat → Env → List (List Addr) → List (List Addr)
  | 0, _, _ => []
  | _ + 1, [], _ => []
  | n + 1, .va (.pin F) d :: env, f :: fs => f :: kpF n env fs
  | n + 1, _ :: env, _ :: fs => [] :: kpF n env fs
  | _ + 1, _ :: _, [] => []
/-- what is asked of the wish at an exception -/
abbrev XSp := Nat → List D → XK → Hp → Prop
def noX : XSp := fun _ _ _ _ => False
section
variable [Tbs] {K : PySem.W.Frag} {G : Gh} {σ : L2.St} {H H' : Hp} {env : Env} {f f' : List (List Addr)} {O O' : AS} {b : Bool} {W : WXX}
def spF (XS : XSp) (K : PySem.W.Frag) (n : Nat) (F : FSem) : Sp := fun vs H Q E => ∃ G args fl r, vs.length = n ∧ St K G (vs.map some) H args fl ∧ G.args = vs.map some ∧ F args = some r ∧
  match r with
  | .ret d outs => ∀ v H' fl', St K G (vs.map some) H' outs fl' → Ev Tbs.tb H fl.flatten H' fl'.flatten → RF H' (ownO G fl') d v → Q v H'
  | .exc c as => ∀ H', (∀ a o, H a = some o → a ∉ fl.flatten → ¬ Tbs.tb a → H' a = some o) → (∀ a, Tbs.tb a → TabAt H' a) → XS c as E H'
theorem RE.append : ∀ {e1 e2 : Env} {s1 s2 : L2.St} {f1 f2 : List (List Addr)}, RE K H O e1 s1 f1 → RE K H O e2 s2 f2 → RE K H O (e1 ++ e2) (s1 ++ s2) (f1 ++ f2)
  | [], _, _, _, _, _, h, k => by
    rw [h.1, h.2]
    exact k
  | s :: e1, _, _, _, _, _, h, k => by
    obtain ⟨o, r, f1, g, rfl, rfl, h1, t⟩ := h
    exact ⟨o, r ++ _, f1, g ++ _, rfl, rfl, h1, RE.append t k⟩
theorem RE.uns (n : Nat) : RE K H O (List.replicate n .un) (List.replicate n none) (List.replicate n []) := by
  induction n with
  | zero => exact ⟨rfl, rfl⟩
  | succ n ih => exact ⟨none, _, [], _, rfl, rfl, rfl, ih⟩
theorem flat_nils (n : Nat) : (List.replicate n ([] : List Addr)).flatten = [] := by
  induction n with
  | zero => rfl
  | succ n ih => rw [List.replicate_succ, List.flatten_cons, ih]; rfl
theorem kpF_sub : ∀ {n : Nat} {e : Env} {f : List (List Addr)}, (kpF n e f).flatten.Sublist f.flatten
  | 0, _, _ => by simp [kpF]
  | n + 1, [], _ => by simp [kpF]
  | n + 1, s :: e, [] => by
    cases s with
    | un => simp [kpF]
    | va m d => cases m <;> simp [kpF]
    | sc _ => simp [kpF]
  | n + 1, s :: e, g :: f => by
    have ih := kpF_sub (n := n) (e := e) (f := f)
    have l2 : ([] ++ (kpF n e f).flatten).Sublist (g ++ f.flatten) := (List.nil_sublist g).append ih
    cases s with
    | un => simpa [kpF] using l2
    | sc _ => simpa [kpF] using l2
    | va m d =>
      cases m with
      | no => simpa [kpF] using l2
      | own F => simpa [kpF] using l2
      | pin F => simpa [kpF] using (List.Sublist.refl g).append ih
/-- the pinned slots, at the arguments -/
theorem RE.kp : ∀ {n : Nat} {e : Env} {σ : L2.St} {f : List (List Addr)} {vs : List V}, RE K H O e σ f → vs.length = n → n ≤ e.length → (∀ (i : Nat) F d, e[i]? = some (.va (.pin F) d) → i < n → σ[i]? = (vs.map some)[i]?) → RE K H O (kp n e) (vs.map some) (kpF n e f)
  | 0, _, _, _, vs, h, hl, _, _ => by
    have : vs = [] := List.eq_nil_of_length_eq_zero hl
    subst this
    exact ⟨rfl, rfl⟩
  | n + 1, [], _, _, _, _, _, hn, _ => by simp at hn
  | n + 1, s :: e, _, _, vs, h, hl, hn, io => by
    obtain ⟨o, r, g, fs, rfl, rfl, h1, t⟩ := h
    cases vs with
    | nil => simp at hl
    | cons v vs =>
      have ih := RE.kp (n := n) t (vs := vs) (by simpa using hl) (by simpa using hn) fun i F d hi hlt => by
        have := io (i + 1) F d (by simpa using hi) (by omega)
        simpa using this
      cases s with
      | un => exact ⟨some v, _, [], _, rfl, rfl, rfl, ih⟩
      | sc _ => exact ⟨some v, _, [], _, rfl, rfl, rfl, ih⟩
      | va m d =>
        cases m with
        | no => exact ⟨some v, _, [], _, rfl, rfl, rfl, ih⟩
        | own F => exact ⟨some v, _, [], _, rfl, rfl, rfl, ih⟩
        | pin F =>
          have e1 := io 0 F d (by simp) (by omega)
          simp at e1
          subst e1
          exact ⟨some v, _, g, _, rfl, rfl, h1, ih⟩
def fSem (n N : Nat) (body : ES) : FSem := fun args => (body (args ++ List.replicate (N - n) .un)).bind fun o => match o with
  | .rt d e => if n ≤ e.length then some (.ret d (kp n e)) else none
  | .nx e => if n ≤ e.length then some (.ret .non (kp n e)) else none
  | .ex c as => some (.exc c as)
  | _ => none
theorem body_of {XS : XSp} {body : ES} {N ps : List Str} {t : TS} {vs : List V} {Q : VK} {E : XK} (hps : ps.length ≤ N.length) (h : spF XS K ps.length (fSem ps.length N.length body) vs H Q E) (ht : ∀ D σ H, TSv K (fun c as _ H' => XS c as E H') body D σ H → t D σ H) :
    t { nx := fun _ H' => Q .non H', rt := Q } (L2.start N vs) H := by
  obtain ⟨G, args, fl, r, hl, S, hG, hF, hr⟩ := h
  obtain ⟨o, ho, hF⟩ := Option.bind_eq_some_iff.mp hF
  have la : args.length = vs.length := by rw [← (S.rep.len).1, List.length_map]
  have fe : (fl ++ List.replicate (N.length - ps.length) []).flatten = fl.flatten := by rw [List.flatten_append, flat_nils, List.append_nil]
  let G0 : Gh := { ex := G.ex, H0 := H, f0 := fl.flatten, args := L2.start N vs }
  have S0 : St K G0 (L2.start N vs) H (args ++ List.replicate (N.length - ps.length) .un) (fl ++ List.replicate (N.length - ps.length) []) := by
    refine ⟨?_, by rw [fe]; exact S.nd, S.exd, by rw [fe]; exact S.exf, S.tbl, by rw [fe]; exact Ev.refl, fun _ _ _ _ => rfl⟩
    have o1 : ownO G0 (fl ++ List.replicate (N.length - ps.length) []) = ownO G fl := by
      unfold ownO
      rw [fe]
    rw [o1]
    have := S.rep.append (RE.uns (K := K) (H := H) (O := ownO G fl) (N.length - ps.length))
    unfold L2.start
    rw [hl]
    exact this
  refine ht _ _ _ ⟨G0, _, _, o, S0, ho, ?_⟩
  have back : ∀ (d : D) (e : Env), r = .ret d (kp ps.length e) → ps.length ≤ e.length → ∀ v σ' H' fl', St K G0 σ' H' e fl' → RF H' (ownO G0 fl') d v → Q v H' := by
    intro d e hr' hle v σ' H' fl' S' rf
    subst hr'
    have sub : ∀ a, a ∈ (kpF ps.length e fl').flatten → a ∈ fl'.flatten := fun a h => kpF_sub.subset h
    have lo : ∀ a, ownO G (kpF ps.length e fl') a → ownO G0 fl' a := fun a z => z.imp id (sub a)
    have E' : Ev Tbs.tb H fl.flatten H' (kpF ps.length e fl').flatten := S'.ev.sub sub
    refine hr v H' (kpF ps.length e fl') ⟨?_, S'.nd.sublist kpF_sub, S'.exd, fun a ha => S'.exf a (sub a ha), S'.tbl, S.ev.trans E', fun i F d hi => by rw [hG]⟩ E' (RF.stay (Stays.lower H' lo) _ _ rf)
    refine RE.kp (RE.stay (Stays.lower H' lo) (fun a u xs h n => ⟨h, fun z => n (lo a z)⟩) (fun _ _ => rfl) S'.rep) hl hle fun i F d hi hlt => ?_
    rw [S'.io i F d hi]
    show (L2.start N vs)[i]? = _
    unfold L2.start
    rw [List.getElem?_append_left (by rw [List.length_map, hl]; exact hlt)]
  cases o with
  | rt d e =>
    have hF' : (if ps.length ≤ e.length then some (FRes.ret d (kp ps.length e)) else none) = some r := hF
    split at hF'
    · rename_i hle
      cases hF'
      exact back d e rfl hle
    · cases hF'
  | nx e =>
    have hF' : (if ps.length ≤ e.length then some (FRes.ret .non (kp ps.length e)) else none) = some r := hF
    split at hF'
    · rename_i hle
      cases hF'
      exact fun σ' H' fl' S' _ => back .non e rfl hle .non σ' H' fl' S' rfl
    · cases hF'
  | ex c as =>
    cases hF
    exact fun σ' H' e fl' S' => hr H' (fun a o h1 h2 h3 => S'.ev.keep a o h1 h2 h3) S'.tbl
  | bk e => cases hF
  | ct e => cases hF
  | rx sl e => cases hF
theorem spF.len {XS : XSp} {n : Nat} {F : FSem} {vs : List V} {Q : VK} {E : XK} (h : spF XS K n F vs H Q E) : vs.length = n := by
  obtain ⟨G, args, fl, r, hl, _⟩ := h
  exact hl
/-- a stronger answer is as good -/
theorem spF.mono {XS : XSp} {n : Nat} {F F' : FSem} {vs : List V} {Q : VK} {E : XK} (hF : ∀ a r, F a = some r → F' a = some r) (h : spF XS K n F vs H Q E) : spF XS K n F' vs H Q E := by
  obtain ⟨G, args, fl, r, hl, S, hG, e, k⟩ := h
  exact ⟨G, args, fl, r, hl, S, hG, hF _ _ e, k⟩
section
variable {P : Program} {w : World} {mg : Str → Option Value} {base : Heap} {x qual : Str} {st : Stmt} {f : Addr} {fd : FuncData} {N ps : List Str} {k : Nat}
theorem scLe {sc : Scope} (S : FnScope N ps sc) : ps.length ≤ N.length := by
  have := congrArg List.length S.pre
  rw [List.length_take] at this
  omega
/-- a def that lets nothing out -/
theorem fn_sem {body : ES} (F : Fun K x qual st f fd) (S : FnScope N ps (defScope st))
    (hb : ∀ (cdv : Value) (A : Around) (outer : List PySem.Env) (s : Shared) (H : Hp) (E : XK) (W : WXX), Room k (A.deeper (envOfC qual (defScope st) s.heap.objs.size f cdv)) → PSsv W (cxOf CX0 P w K mg base N qual (defScope st) f cdv A outer s H E).nox (defBody st) body) :
    FnOk P w K mg base CX0 (k + 1) f fd ps (spF noX K ps.length (fSem ps.length N.length body)) :=
  F.ok S (fun vs H Q E h => h.len) fun cdv A outer s H vs Q E hr h => ⟨_, hb cdv A outer s H E _ hr, body_of (scLe S) h fun _ _ _ q => q⟩
/-- a def that may raise -/
theorem fn_semX {XS : XSp} {body : ES} (F : Fun K x qual st f fd) (S : FnScope N ps (defScope st))
    (hb : ∀ (cdv : Value) (A : Around) (outer : List PySem.Env) (s : Shared) (H : Hp) (E : XK), Room k (A.deeper (envOfC qual (defScope st) s.heap.objs.size f cdv)) → PSsv (fun c as _ H' => XS c as E H') (cxOf (L2.CX P w) P w K mg base N qual (defScope st) f cdv A outer s H E) (defBody st) body) :
    FnOk P w K mg base (L2.CX P w) (k + 1) f fd ps (spF XS K ps.length (fSem ps.length N.length body)) :=
  F.okX S (fun vs H Q E h => h.len) fun cdv A outer s H vs Q E hr h => ⟨_, hb cdv A outer s H E hr, body_of (scLe S) h fun _ _ _ q => q⟩
end
/-! ### calls -/
def fz (d : D) : Sl := .va .no d
theorem RE.fz : ∀ {ds : List D} {vs : List V}, RFs H O ds vs → RE K H O (ds.map fz) (vs.map some) (List.replicate ds.length [])
  | [], vs, h => by
    have : vs = [] := h
    subst this
    exact ⟨rfl, rfl⟩
  | d :: ds, vs, h => by
    obtain ⟨v, r, rfl, h1, h2⟩ := h
    exact ⟨some v, _, [], _, rfl, rfl, ⟨v, rfl, rfl, h1⟩, RE.fz h2⟩
/-- all stands as it was, but for the tables -/
theorem St.keeps (S : St K G σ H env f) (E : Ev Tbs.tb H [] H' []) (tb : ∀ a, Tbs.tb a → TabAt H' a) : St K G σ H' env f ∧ Ev Tbs.tb H f.flatten H' f.flatten := by
  have E2 : Ev Tbs.tb H f.flatten H' f.flatten := ⟨fun a o h _ t => E.keep a o h (by simp) t, fun a h => .inl h, E.dom⟩
  refine ⟨⟨RE.stay (S.stays E2) (S.fstays E2) (fun a ha => ?_) S.rep, S.nd, fun a h z => S.exd a h (E.dom a z), S.exf, tb, S.ev.trans E2, S.io⟩, E2⟩
  rcases S.there a ha with ⟨ws, q⟩ | ⟨ws, q⟩ <;> rw [q, E.keep a _ q (by simp) (S.ntb a ha)]
def retD : Option FRes → Option (D × List Sl)
  | some (.ret d outs) => some (d, outs)
  | _ => none
theorem retD_some {x : Option FRes} {y : D × List Sl} (h : retD x = some y) : x = some (.ret y.1 y.2) := by
  unfold retD at h
  split at h
  · cases h; rfl
  · cases h
/-- the number of arguments is right -/
def lenF (n : Nat) (F : FSem) : FSem := fun l => if l.length = n then F l else none
/-- a call over fixed values -/
def vcallF (F : FSem) (ps : Env → Option (List D × Env)) : EV1 := fun env => (ps env).bind fun x => (retD (F (x.1.map fz))).map fun y => (y.1, x.2)
theorem callF {XS : XSp} {n : Nat} {Fs : FSem} {ds : List D} {vs : List V} {d : D} {outs : List Sl} {Q : VK} {E : XK} (S : St K G σ H env f) (r : RFs H (ownO G f) ds vs) (hn : ds.length = n) (e : Fs (ds.map fz) = some (.ret d outs))
    (k : ∀ v H', St K G σ H' env f → Ev Tbs.tb H f.flatten H' f.flatten → RF H' (ownO G f) d v → Q v H') : spF XS K n Fs vs H Q E := by
  let G' : Gh := { ex := ownO G f, H0 := H, f0 := [], args := vs.map some }
  have fe : (List.replicate ds.length ([] : List Addr)).flatten = [] := flat_nils _
  have o1 : ∀ a, ownO G' (List.replicate ds.length []) a → ownO G f a := fun a z => by
    rcases z with z | z
    · exact z
    · rw [fe] at z; cases z
  have S' : St K G' (vs.map some) H (ds.map fz) (List.replicate ds.length []) :=
    ⟨RE.fz (RFs.stay (Stays.lower H o1) _ _ r), by rw [fe]; exact List.nodup_nil, S.dom, by rw [fe]; simp, S.tbl, by rw [fe]; exact Ev.refl, fun _ _ _ _ => rfl⟩
  refine ⟨G', _, _, _, by rw [r.len]; exact hn, S', rfl, e, fun v H' fl' S2 E2 r2 => ?_⟩
  rw [fe] at E2
  have E3 : Ev Tbs.tb H [] H' [] := E2.sub (by simp)
  obtain ⟨S4, E4⟩ := S.keeps E3 S2.tbl
  exact k v H' S4 E4 (RF.stay (Stays.lower H' fun a z => .inl z) _ _ r2)
/-- a call whose first argument is a list of one's own -/
def backL : OM → D → List Sl → Option Sl
  | .own _, _, .va (.pin F') b :: _ => some (.va (.own F') b)
  | .pin _, _, .va (.pin F') b :: _ => some (.va (.pin F') b)
  | _, _, _ => none
def asPin : Option Sl → Option (OM × (Nat → Bool) × D)
  | some (.va (.own F) d) => some (.own F, F, d)
  | some (.va (.pin F) d) => some (.pin F, F, d)
  | _ => none
theorem asPin_some {x : Option Sl} {y : OM × (Nat → Bool) × D} (h : asPin x = some y) : x = some (.va y.1 y.2.2) ∧ y.1.fl = some y.2.1 := by
  unfold asPin at h
  split at h
  · cases h; exact ⟨rfl, rfl⟩
  · cases h; exact ⟨rfl, rfl⟩
  · cases h
def isVa : Option Sl → Bool
  | some (.va _ _) => true
  | _ => false
def vcallIO (F : FSem) (i : Nat) (ps : Env → Option (List D × Env)) : EV1 := fun env => if isVa env[i]? = true then (ps env).bind fun x => (asPin x.2[i]?).bind fun w => (retD (F (.va (.pin w.2.1) w.2.2 :: x.1.map fz))).bind fun y => (backL w.1 w.2.2 y.2).map fun s => (y.1, x.2.set i s) else none
theorem mem_set_flatten' {f : List (List Addr)} (nd : f.flatten.Nodup) {i : Nat} {g g' : List Addr} (hg : f[i]? = some g) {a : Addr} (h : a ∈ (f.set i g').flatten) : (a ∈ f.flatten ∧ a ∉ g) ∨ a ∈ g' := by
  obtain ⟨l, hl, ha⟩ := List.mem_flatten.mp h
  obtain ⟨j, hj⟩ := List.getElem?_of_mem hl
  by_cases hji : i = j
  · subst hji
    rw [List.getElem?_set_self (List.getElem?_eq_some_iff.mp hg).1] at hj
    cases hj
    exact .inr ha
  · rw [List.getElem?_set_ne hji] at hj
    exact .inl ⟨List.mem_flatten.mpr ⟨l, List.mem_of_getElem? hj, ha⟩, fun z => dis nd hg hj hji z ha⟩
theorem callIO {XS : XSp} {n i : Nat} {Fs : FSem} {ds : List D} {vs : List V} {v0 : V} {d : D} {outs : List Sl} {m : OM} {F : Nat → Bool} {bd : D} {sl : Sl} {Q : VK} {E : XK} (S : St K G σ H env f) (he : env[i]? = some (.va m bd)) (hm : m.fl = some F) (hσ : σ[i]? = some (some v0)) (r : RFs H (ownO G f) ds vs) (hn : ds.length + 1 = n)
    (e : Fs (.va (.pin F) bd :: ds.map fz) = some (.ret d outs)) (hb : backL m bd outs = some sl)
    (k : ∀ v H' f', St K G σ H' (env.set i sl) f' → Ev Tbs.tb H f.flatten H' f'.flatten → RF H' (ownO G f') d v → Q v H') : spF XS K n Fs (v0 :: vs) H Q E := by
  obtain ⟨o, g, h1, h2, v, eo, hr⟩ := S.rep.get he
  subst eo
  rw [hσ] at h1
  cases h1
  let G' : Gh := { ex := fun a => ownO G f a ∧ a ∉ g, H0 := H, f0 := g, args := (v0 :: vs).map some }
  have fe : (g :: List.replicate ds.length ([] : List Addr)).flatten = g := by rw [List.flatten_cons, flat_nils, List.append_nil]
  have gf : ∀ a ∈ g, a ∈ f.flatten := fun a ha => List.mem_flatten.mpr ⟨g, List.mem_of_getElem? h2, ha⟩
  have o1 : ∀ a, ownO G' (g :: List.replicate ds.length []) a → ownO G f a := fun a z => by
    rcases z with z | z
    · exact z.1
    · rw [fe] at z; exact .inr (gf a z)
  have S' : St K G' ((v0 :: vs).map some) H (.va (.pin F) bd :: ds.map fz) (g :: List.replicate ds.length []) := by
    refine ⟨⟨some v0, _, g, _, rfl, rfl, ⟨v0, rfl, ?_⟩, RE.fz (RFs.stay (Stays.lower H o1) _ _ r)⟩, by rw [fe]; exact nodup_at S.nd h2, fun a z => S.dom a z.1, ?_, S.tbl, by rw [fe]; exact Ev.refl, fun _ _ _ _ => rfl⟩
    · exact RO.pin.mpr ((RO.fl hm).mp (hr.stay (Stays.lower H o1) fun _ _ => rfl))
    · rw [fe]
      exact fun a ha z => z.2 ha
  refine ⟨G', _, _, _, by rw [List.length_cons, r.len]; exact hn, S', rfl, e, fun v H' fl' S2 E2 r2 => ?_⟩
  rw [fe] at E2
  -- what came back
  obtain ⟨F', b', rest, ho, hsl⟩ : ∃ F' b' rest, outs = .va (.pin F') b' :: rest ∧ ∃ m', m'.fl = some F' ∧ sl = .va m' b' ∧ (∀ F'', m' = .pin F'' → ∃ F3, m = .pin F3) := by
    unfold backL at hb
    split at hb
    · cases hb; exact ⟨_, _, _, rfl, _, rfl, rfl, fun F'' z => by cases z⟩
    · cases hb; exact ⟨_, _, _, rfl, _, rfl, rfl, fun F'' z => ⟨_, rfl⟩⟩
    · cases hb
  obtain ⟨m', hm', rfl, hpin⟩ := hsl
  subst ho
  obtain ⟨o2, r2', g', gs, q1, rfl, q3, q4⟩ := S2.rep
  have q1' : some v0 :: vs.map some = o2 :: r2' := q1
  injection q1' with q5 q6
  subst q5
  obtain ⟨v1, q7, hr'⟩ := q3
  cases q7
  have g'f : ∀ a ∈ g', a ∈ (g' :: gs).flatten := fun a ha => by simp [ha]
  have sub : ∀ a, ownO G (f.set i g') a → ownO G' (g' :: gs) a := fun a z => by
    rcases z with z | z
    · exact .inl ⟨.inl z, fun y => S.exf a (gf a y) z⟩
    · rcases mem_set_flatten' S.nd h2 z with y | y
      · exact .inl ⟨.inr y.1, y.2⟩
      · exact .inr (g'f a y)
  have E3 : Ev Tbs.tb H f.flatten H' (f.set i g').flatten := ⟨fun a o h n t => E2.keep a o h (fun z => n (gf a z)) t, fun a ha => by
    rcases mem_set_flatten ha with y | y
    · exact .inl y
    · rcases E2.own a (g'f a y) with z | z
      · exact .inl (gf a z)
      · exact .inr z, E2.dom⟩
  have S3 := S.putE (sl := .va m' b') (o := some v0) h2 E3 ⟨v0, rfl, (RO.fl hm').mpr (RO.pin.mp (hr'.stay (Stays.lower H' sub) fun _ _ => rfl))⟩ (fun a ha hn => by
    rcases S.there a ha with ⟨ws, q⟩ | ⟨ws, q⟩ <;> rw [q, E2.keep a _ q hn (S.ntb a ha)]) (nodup_at S2.nd (i := 0) rfl) (fun a ha => by
    rcases E2.own a (g'f a ha) with z | z
    · exact .inl z
    · refine .inr fun y => ?_
      rcases S.there a y with ⟨ws, q⟩ | ⟨ws, q⟩ <;> (rw [z] at q; cases q)) S2.tbl (fun F'' d'' z => by
    cases z
    obtain ⟨F3, z⟩ := hpin _ rfl
    subst z
    rw [← S.io i F3 _ he, hσ])
  rw [setSelf hσ] at S3
  exact k v H' _ S3 E3 (RF.stay (Stays.lower H' sub) _ _ r2)
section
variable {X : Cx} {CX : CXT} {XS : XSp} {x y : Str} {p1 p2 pos : Pos} {a : Expr} {es : List Expr} {k n : Nat} {fa : Addr} {fd : FuncData} {ps : List Str} {Fs : FSem} {vps : Env → Option (List D × Env)} {i : Nat}
theorem v_call {E : XK} (Fo : FnOk X.prog X.w X.K X.mg X.base CX k fa fd ps (spF XS X.K ps.length Fs)) (hr : Room k X.A) (hm : X.mg x = some (.ref fa)) (hk : PySem.W.keepIn X.K (.ref fa) = true) (hb : Binds X.K fd ps []) (hx : Passes CX X E) (ha : PVs X (a :: es) vps) (hlen : (a :: es).length = ps.length := by rfl) (hg : Gl X x := by rfl)
    (hdb : (x == ("__debug__" : Str)) = false := by decide) (he : starEach (a :: es) X.env = (false, eval a X.env) :: starEach es X.env := by rfl) (hpl : (backTo pos (starEach es X.env)).any (·.1) = false := by rfl) :
    PV X (.Call (.Name x p1) (a :: es) [] pos) (vcallF (lenF ps.length Fs) vps) :=
  PE.wk (pe_call (E := E) Fo hr hg hm hk hb .nil hx ha hdb he hpl) fun σ H Q t => by
    obtain ⟨G, env, fl, d, env', S, e, q⟩ := t
    obtain ⟨⟨ds, e1⟩, h1, e⟩ := Option.bind_eq_some_iff.mp e
    obtain ⟨⟨d', outs⟩, h2, e⟩ := Option.map_eq_some_iff.mp e
    cases e
    have h3 := retD_some h2
    unfold lenF at h3
    dsimp only at h3
    split at h3
    · rename_i hl
      refine ⟨G, env, fl, ds, _, S, h1, fun vs H1 f1 S1 E1 r1 => ?_⟩
      show spF XS X.K ps.length Fs (vs ++ []) H1 Q E
      rw [List.append_nil]
      exact callF S1 r1 (by simpa using hl) h3 fun v H' S2 E2 r2 => q v H' f1 S2 (E1.trans E2) r2
    · cases h3
theorem v_callIO {E : XK} (Fo : FnOk X.prog X.w X.K X.mg X.base CX k fa fd ps (spF XS X.K ps.length Fs)) (hr : Room k X.A) (hm : X.mg x = some (.ref fa)) (hk : PySem.W.keepIn X.K (.ref fa) = true) (hb : Binds X.K fd ps []) (hx : Passes CX X E) (hN : X.N[i]? = some y) (hv : Vis X.env.scope y) (ha : PVs X es vps) (hg : Gl X x := by rfl)
    (hdb : (x == ("__debug__" : Str)) = false := by decide) (hd : (y == ("__debug__" : Str)) = false := by decide) (hcd : (y == ("__classdict__" : Str)) = false := by decide)
    (he : starEach (.Name y p2 :: es) X.env = (false, eval (.Name y p2) X.env) :: starEach es X.env := by rfl) (hpl : (backTo pos (starEach es X.env)).any (·.1) = false := by rfl) :
    PV X (.Call (.Name x p1) (.Name y p2 :: es) [] pos) (vcallIO (lenF ps.length Fs) i vps) :=
  PE.wk (pe_call (E := E) Fo hr hg hm hk hb .nil hx (pa_cons (pe_var hN hv hd hcd) ha he) hdb he hpl) fun σ H Q t => by
    obtain ⟨G, env, fl, d, env', S, e, q⟩ := t
    unfold vcallIO at e
    split at e
    · rename_i hva
      obtain ⟨v0, hσ⟩ : ∃ v, σ[i]? = some (some v) := by
        unfold isVa at hva
        split at hva
        · rename_i m dd he
          obtain ⟨o, g, h1, h2, v, eo, hr⟩ := S.rep.get he
          exact ⟨v, by rw [h1, eo]⟩
        · cases hva
      obtain ⟨⟨ds, e1⟩, h1, e⟩ := Option.bind_eq_some_iff.mp e
      obtain ⟨w, hw, e⟩ := Option.bind_eq_some_iff.mp e
      obtain ⟨⟨d', outs⟩, h2, e⟩ := Option.bind_eq_some_iff.mp e
      obtain ⟨sl, hb', e⟩ := Option.map_eq_some_iff.mp e
      cases e
      have h3 := retD_some h2
      unfold lenF at h3
      dsimp only at h3
      obtain ⟨w1, w2⟩ := asPin_some hw
      split at h3
      · rename_i hl
        refine ⟨v0, hσ, G, env, fl, ds, e1, S, h1, fun vs H1 f1 S1 E1 r1 => ?_⟩
        show spF XS X.K ps.length Fs ((v0 :: vs) ++ []) H1 Q E
        rw [List.append_nil]
        exact callIO S1 w1 w2 hσ r1 (by simpa using hl) h3 hb' fun v H' f' S2 E2 r2 => q v H' f' S2 (E1.trans E2) r2
      · cases h3
    · cases e
end
end
end DL

set_option Elab.async false
set_option linter.all false
set_option maxRecDepth 100000
set_option maxHeartbeats 2000000
/-! DL10: things of one's own made of several lists; several names at once; two comparisons; keywords; tests of all signs. -/
namespace DL
open PySem PySem.Spec PyProof.Rows L2
/-- a thing of one's own: what it is, for the slot that takes it -/
abbrev EX1 := Env → Option (Sl × Env)
section
variable [Tbs] (K : PySem.W.Frag)
def TX (e : EX1) : TE := fun σ H Q => ∃ G env fl sl env', St K G σ H env fl ∧ e env = some (sl, env') ∧
  ∀ v H' fl' g, St K (G.addL g) σ H' env' fl' → Ev Tbs.tb H fl.flatten H' (fl'.flatten ++ g) → g.Nodup → RS K H' (ownO (G.addL g) fl') sl (some v) g → Q v H'
def TXs (e : Env → Option (List Sl × Env)) : TA := fun σ H Q => ∃ G env fl sls env', St K G σ H env fl ∧ e env = some (sls, env') ∧
  ∀ vs H' fl' gs, St K (G.addL gs.flatten) σ H' env' fl' → Ev Tbs.tb H fl.flatten H' (fl'.flatten ++ gs.flatten) → gs.flatten.Nodup → RE K H' (ownO (G.addL gs.flatten) fl') sls (vs.map some) gs → Q vs H'
end
section
variable [Tbs]
abbrev PX (X : Cx) (e : Expr) (f : EX1) : Prop := PE X e (TX X.K f)
abbrev PXs (X : Cx) (e : List Expr) (f : Env → Option (List Sl × Env)) : Prop := PA X e (TXs X.K f)
end
section
variable [Tbs] {K : PySem.W.Frag} {G : Gh} {σ : L2.St} {H H' : Hp} {env : Env} {f f' : List (List Addr)} {O O' : AS} {b : Bool} {W : WXX}
theorem addL_nil : ∀ a, (G.addL []).ex a ↔ G.ex a := fun a => by simp
section
variable {X : Cx} {a c : Expr} {es : List Expr} {pos p1 p2 px : Pos} {pv : EV1} {pn : Env → Option (List D × Env)} {qx : EX1} {qs : Env → Option (List Sl × Env)} {i : Nat} {x : Str}
def xval (p : EV1) : EX1 := fun env => (p env).map fun y => (.va .no y.1, y.2)
theorem x_val (h : PV X a pv) : PX X a (xval pv) := PE.wk h fun σ H Q t => by
  obtain ⟨G, env, fl, sl, env', S, e, k⟩ := t
  obtain ⟨⟨d, e1⟩, h1, h2⟩ := Option.map_eq_some_iff.mp e
  cases h2
  refine ⟨G, env, fl, d, _, S, h1, fun v H1 f1 S1 E1 r1 => k v H1 f1 [] ?_ (by rw [List.append_nil]; exact E1) List.nodup_nil ?_⟩
  · exact S1.exLess rfl rfl rfl fun a z => (addL_nil a).mp z
  · exact ⟨v, rfl, rfl, RF.stay (Stays.lower H1 fun a z => z.imp (addL_nil a).mp id) _ _ r1⟩
def xnew (p : Env → Option (List D × Env)) : EX1 := fun env => (p env).map fun y => (.va (.own nF) (.lst y.1), y.2)
theorem x_new (h : PN X a pn) : PX X a (xnew pn) := PE.wk h fun σ H Q t => by
  obtain ⟨G, env, fl, sl, env', S, e, k⟩ := t
  obtain ⟨⟨ds, e1⟩, h1, h2⟩ := Option.map_eq_some_iff.mp e
  cases h2
  refine ⟨G, env, fl, ds, _, S, h1, fun p vs H1 f1 S1 E1 hp h1 r1 => k (.ref p) H1 f1 [p] ?_ ⟨E1.keep, fun a ha => ?_, E1.dom⟩ (by simp) ?_⟩
  · exact S1.exLess rfl rfl rfl fun a z => z.imp id fun y => by simpa using y
  · rcases List.mem_append.mp ha with z | z
    · exact E1.own a z
    · exact .inr (by rw [List.mem_singleton.mp z]; exact hp)
  · exact ⟨_, rfl, p, vs, [], rfl, rfl, h1, RIs.mk (fun _ _ => rfl) (RFs.stay (Stays.lower H1 fun a z => z.imp (fun y => y.imp id fun w => by simpa using w) id) _ _ r1)⟩
/-- a name gives away what it owns, and keeps nothing -/
def xvar (i : Nat) : EX1 := fun env => match env[i]? with
  | some (.va (.own F) d) => some (.va (.own F) d, env.set i .un)
  | _ => none
theorem x_var (hN : X.N[i]? = some x) (hv : Vis X.env.scope x) (hd : (x == ("__debug__" : Str)) = false := by decide) (hcd : (x == ("__classdict__" : Str)) = false := by decide) : PX X (.Name x pos) (xvar i) :=
  PE.wk (pe_var hN hv hd hcd) fun σ H Q t => by
    obtain ⟨G, env, fl, sl, env', S, e, k⟩ := t
    unfold xvar at e
    split at e
    · rename_i F d he
      cases e
      obtain ⟨o, g, h1, h2, v, eo, hr⟩ := S.rep.get he
      subst eo
      have gf : ∀ a ∈ g, a ∈ fl.flatten := fun a ha => List.mem_flatten.mpr ⟨g, List.mem_of_getElem? h2, ha⟩
      have lo : ∀ a, ownO (G.addL g) (fl.set i []) a → ownO G fl a := fun a z => by
        rcases z with (z | z) | z
        · exact .inl z
        · exact .inr (gf a z)
        · exact .inr ((mem_set_flatten z).resolve_right (by simp))
      have S1 := S.setUn i (some v) (List.getElem?_eq_some_iff.mp he).1
      rw [setSelf h1] at S1
      have S2 : St X.K (G.addL g) σ H (env.set i .un) (fl.set i []) := by
        have z' : RE X.K H (ownO (G.addL g) (fl.set i [])) (env.set i .un) (σ.set i (some v)) (fl.set i []) := RE.swap (sl := .un) (o := some v) (g' := []) (Stays.lower H lo) (fun a u xs h n => ⟨h, fun z => n (lo a z)⟩) h2 S.nd (fun _ _ _ => rfl) S.rep rfl
        rw [setSelf h1] at z'
        refine ⟨z', S1.nd, fun a z => ?_, fun a ha z => ?_, S1.tbl, S1.ev, S1.io⟩
        · rcases z with z | z
          · exact S.exd a z
          · exact S.dom a (.inr (gf a z))
        · rcases z with z | z
          · exact S1.exf a ha z
          · rcases mem_set_flatten' S.nd h2 ha with y | y
            · exact y.2 z
            · cases y
      refine ⟨v, h1, k v H _ g S2 ⟨fun _ _ h _ _ => h, fun a ha => .inl ?_, fun _ h => h⟩ (nodup_at S.nd h2) ⟨v, rfl, hr.stay (Stays.lower H lo) fun _ _ => rfl⟩⟩
      rcases List.mem_append.mp ha with z | z
      · exact (mem_set_flatten z).resolve_right (by simp)
      · exact gf a z
    · cases e
def xs0 : Env → Option (List Sl × Env) := fun env => some ([], env)
def xs1 (p : EX1) (q : Env → Option (List Sl × Env)) : Env → Option (List Sl × Env) := fun env => (p env).bind fun x => (q x.2).map fun xs => (x.1 :: xs.1, xs.2)
theorem xs_nil : PXs X [] xs0 := PA.wk pa_nil fun σ H Q h => by
  obtain ⟨G, env, fl, d, env', S, e, k⟩ := h
  cases e
  exact k [] H fl [] (S.exLess rfl rfl rfl fun a z => z.elim id (by simp)) (by rw [List.flatten_nil, List.append_nil]; exact Ev.refl) List.nodup_nil ⟨rfl, rfl⟩
theorem xs_cons (ha : PX X a qx) (hr : PXs X es qs) (hs : starEach (a :: es) X.env = (false, eval a X.env) :: starEach es X.env := by rfl) : PXs X (a :: es) (xs1 qx qs) :=
  PA.wk (pa_cons ha hr hs) fun σ H Q h => by
    obtain ⟨G, env, fl, d, env', S, e, k⟩ := h
    obtain ⟨⟨sl, en1⟩, ex, e⟩ := Option.bind_eq_some_iff.mp e
    obtain ⟨⟨sls, en2⟩, ey, e⟩ := Option.map_eq_some_iff.mp e
    cases e
    refine ⟨G, env, fl, sl, en1, S, ex, fun v H1 f1 g1 S1 E1 n1 r1 => ⟨G.addL g1, en1, f1, sls, _, S1, ey, fun vs H2 f2 gs S2 E2 n2 r2 => ?_⟩⟩
    have ed : ∀ a ∈ g1, H1 a ≠ none := fun a ha => S1.exd a (.inr ha)
    have gex : ∀ a ∈ g1, a ∉ f1.flatten := fun a ha z => S1.exf a z (.inr ha)
    have exq : ∀ a, (G.addL (g1 :: gs).flatten).ex a ↔ ((G.addL g1).addL gs.flatten).ex a := fun a => by simp [or_assoc]
    have S3 : St X.K (G.addL (g1 :: gs).flatten) σ H2 en2 f2 := S2.exLess rfl rfl rfl fun a z => (exq a).mp z
    have g1there : ∀ a ∈ g1, (∃ ws, H1 a = some (.lst ws)) ∨ ∃ kvs, H1 a = some (.dK kvs) := r1.there
    have g1same : ∀ a ∈ g1, H2 a = H1 a := fun a ha => by
      have nt : ¬ Tbs.tb a := fun t => by
        obtain ⟨ps, q, _⟩ := S1.tbl a t
        rcases g1there a ha with ⟨ws, z⟩ | ⟨ws, z⟩ <;> (rw [q] at z; cases z)
      rcases g1there a ha with ⟨ws, z⟩ | ⟨ws, z⟩ <;> rw [z, E2.keep a _ z (gex a ha) nt]
    have gsn : ∀ a ∈ gs.flatten, a ∉ g1 := fun a ha z => by
      rcases E2.own a (List.mem_append_right _ ha) with y | y
      · exact gex a z y
      · exact ed a z y
    have E3 : Ev Tbs.tb H1 f1.flatten H2 f2.flatten := E2.sub fun a h => List.mem_append_left _ h
    have loA : ∀ a, ownO (G.addL (g1 :: gs).flatten) f2 a → ownO ((G.addL g1).addL gs.flatten) f2 a := fun a z => z.imp (exq a).mp id
    have st : Stays H1 (ownO (G.addL g1) f1) H2 (ownO (G.addL (g1 :: gs).flatten) f2) := by
      have s0 := S1.stays E3
      have av : ∀ a o, H1 a = some o → ¬ ownO (G.addL g1) f1 a → ¬ ownO (G.addL g1) f2 a → ¬ ownO (G.addL (g1 :: gs).flatten) f2 a := fun a o h n1 n2 z => by
        rcases loA a z with (z | z) | z
        · exact n2 (.inl z)
        · rcases E2.own a (List.mem_append_right _ z) with y | y
          · exact n1 (.inr y)
          · rw [y] at h; cases h
        · exact n2 (.inr z)
      exact ⟨s0.tup, fun a vs h n => let ⟨q1, q2⟩ := s0.lst a vs h n; ⟨q1, av a _ h n q2⟩, fun a vs h n => let ⟨q1, q2⟩ := s0.dk a vs h n; ⟨q1, av a _ h n q2⟩, fun a u vs h n => let ⟨q1, q2⟩ := s0.fz a u vs h n; ⟨q1, av a _ h n q2⟩⟩
    refine k (v :: vs) H2 f2 (g1 :: gs) S3 ⟨fun a o h n t => E2.keep a o (E1.keep a o h n t) (fun z => ?_) t, fun a ha => ?_, fun a h => E1.dom a (E2.dom a h)⟩ ?_ ⟨some v, _, g1, gs, rfl, rfl, r1.stay st (fun _ _ _ => trivial) (fun a u xs h n => ?_) g1same, RE.stay (Stays.lower H2 loA) (fun a u xs h n => ⟨h, fun z => n (loA a z)⟩) (fun _ _ => rfl) r2⟩
    · rcases E1.own a (List.mem_append_left _ z) with y | y
      · exact n y
      · rw [y] at h; cases h
    · rcases List.mem_append.mp ha with z | z
      · rcases E2.own a (List.mem_append_left _ z) with y | y
        · exact E1.own a (List.mem_append_left _ y)
        · exact .inr (E1.dom a y)
      · rw [List.flatten_cons] at z
        rcases List.mem_append.mp z with y | y
        · exact E1.own a (List.mem_append_right _ y)
        · rcases E2.own a (List.mem_append_right _ y) with w | w
          · exact E1.own a (List.mem_append_left _ w)
          · exact .inr (E1.dom a w)
    · rw [List.flatten_cons, List.nodup_append]
      exact ⟨n1, n2, fun a ha b hb e => gsn b hb (by rw [← e]; exact ha)⟩
    · obtain ⟨q1, q2⟩ := S1.fstays E3 a u xs h n
      refine ⟨q1, fun z => ?_⟩
      rcases loA a z with (z | z) | z
      · exact q2 (.inl z)
      · rcases E2.own a (List.mem_append_right _ z) with y | y
        · exact n (.inr y)
        · rw [y] at h; cases h
      · exact q2 (.inr z)
/-- a list of such things -/
def itemOf : Sl → Option (Bool × D)
  | .va .no d => some (false, d)
  | .va (.own F) (.lst es) => if noF F es.length = true then some (true, .lst es) else none
  | _ => none
def itemsOf : List Sl → Option (List Bool × List D)
  | [] => some ([], [])
  | s :: ss => (itemOf s).bind fun x => (itemsOf ss).map fun y => (x.1 :: y.1, x.2 :: y.2)
def flags (l : List Bool) : Nat → Bool := fun i => l.getD i false
theorem items_RIs : ∀ {sls : List Sl} {vs : List V} {gs : List (List Addr)} {fs : List Bool} {ds : List D}, RE K H O sls (vs.map some) gs → itemsOf sls = some (fs, ds) → RIs H O (flags fs) ds vs gs.flatten ∧ ds.length = sls.length
  | [], vs, gs, fs, ds, h, e => by
    cases e
    obtain ⟨h1, rfl⟩ := h
    exact ⟨⟨by simpa using h1, rfl⟩, rfl⟩
  | s :: ss, vs, gs, fs, ds, h, e => by
    obtain ⟨x, hx, e⟩ := Option.bind_eq_some_iff.mp e
    obtain ⟨y, hy, e⟩ := Option.map_eq_some_iff.mp e
    cases e
    obtain ⟨o, r, g, gs', h1, rfl, hs, ht⟩ := h
    cases vs with
    | nil => cases h1
    | cons v vs =>
      have h1' : some v :: vs.map some = o :: r := h1
      injection h1' with q1 q2
      subst q1 q2
      obtain ⟨ih, il⟩ := items_RIs (vs := vs) ht (show itemsOf ss = some (y.1, y.2) from hy)
      refine ⟨⟨v, vs, g, gs'.flatten, rfl, rfl, ?_, ?_⟩, by simp [il]⟩
      · unfold itemOf at hx
        split at hx
        · cases hx
          obtain ⟨w, q, q1, q2⟩ := hs
          cases q
          exact ⟨q1, q2⟩
        · split at hx
          · rename_i F es hF
            cases hx
            obtain ⟨w, q, p, ws, g', rfl, rfl, hp, hi⟩ := hs
            cases q
            obtain ⟨hfx, rfl⟩ := hi.fixed (noF_iff.mp hF)
            exact ⟨p, ws, rfl, rfl, hp, hfx⟩
          · cases hx
        · cases hx
      · have ef : (fun i => flags (x.1 :: y.1) (i + 1)) = flags y.1 := by
          funext i
          simp [flags]
        rw [ef]
        exact ih
theorem RIs.congr : ∀ {F F' : Nat → Bool} {ds : List D} {vs : List V} {g : List Addr}, (∀ i, i < ds.length → F i = F' i) → RIs H O F ds vs g → RIs H O F' ds vs g
  | _, _, [], _, _, _, h => h
  | F, F', d :: ds, vs, g, hF, h => by
    obtain ⟨v, r, f1, f2, e1, e2, h1, h2⟩ := h
    refine ⟨v, r, f1, f2, e1, e2, ?_, RIs.congr (fun i hi => hF (i + 1) (by simpa using hi)) h2⟩
    rw [← hF 0 (by simp)]
    exact h1
theorem items_len : ∀ {sls : List Sl} {fs : List Bool} {ds : List D}, itemsOf sls = some (fs, ds) → fs.length = ds.length
  | [], fs, ds, e => by cases e; rfl
  | s :: ss, fs, ds, e => by
    obtain ⟨x, _, e⟩ := Option.bind_eq_some_iff.mp e
    obtain ⟨⟨a, b⟩, h, e⟩ := Option.map_eq_some_iff.mp e
    cases e
    simp [items_len h]
/-- where every item is a list of one's own, so are those to come -/
def fl2 (fs : List Bool) : Nat → Bool := if fs.all id = true then aF else flags fs
theorem fl2_RIs {fs : List Bool} {ds : List D} {vs : List V} {g : List Addr} (hl : fs.length = ds.length) (h : RIs H O (flags fs) ds vs g) : RIs H O (fl2 fs) ds vs g := by
  unfold fl2
  split
  · rename_i ha
    refine h.congr fun i hi => ?_
    have hi' : i < fs.length := by omega
    have e : flags fs i = fs[i] := by
      unfold flags
      rw [List.getD_eq_getElem?_getD, List.getElem?_eq_getElem hi']
      rfl
    rw [e]
    exact List.all_eq_true.mp ha _ (List.getElem_mem hi')
  · exact h
def xlst (q : Env → Option (List Sl × Env)) : EX1 := fun env => (q env).bind fun y => (itemsOf y.1).bind fun z => if z.2.length ≤ big then some (.va (.own (fl2 z.1)) (.lst z.2), y.2) else none
theorem x_lst (h : PXs X es qs) : PX X (.List es pos) (xlst qs) := PE.wk (pe_lst h) fun σ H Q t => by
  obtain ⟨G, env, fl, sl, env', S, e, k⟩ := t
  obtain ⟨⟨sls, e1⟩, h1, e⟩ := Option.bind_eq_some_iff.mp e
  obtain ⟨⟨fs, ds⟩, h2, e⟩ := Option.bind_eq_some_iff.mp e
  split at e
  · rename_i hz
    cases e
    refine ⟨G, env, fl, sls, _, S, h1, fun vs H1 f1 gs S1 E1 n1 r1 => ?_⟩
    obtain ⟨hi0, hl⟩ := items_RIs r1 h2
    have hi := fl2_RIs (items_len h2) hi0
    refine ⟨big_le (by rw [hi.len]; exact hz), fun p hp => ?_⟩
    have S2 := S1.new (o := .lst vs) hp
    have gp : ∀ a ∈ gs.flatten, a ≠ p := fun a ha z => S1.exd a (.inr ha) (by rw [z]; exact hp)
    have exq : ∀ a, (G.addL (p :: gs.flatten)).ex a ↔ ((G.addL gs.flatten).add p).ex a := fun a => by
      constructor
      · rintro (z | z)
        · exact .inl (.inl z)
        · rcases List.mem_cons.mp z with y | y
          · exact .inr y
          · exact .inl (.inr y)
      · rintro ((z | z) | z)
        · exact .inl z
        · exact .inr (List.mem_cons_of_mem _ z)
        · exact .inr (by rw [z]; simp)
    have S3 : St X.K (G.addL (p :: gs.flatten)) σ (upd H1 p (.lst vs)) e1 f1 := S2.exLess rfl rfl rfl fun a z => (exq a).mp z
    have e0 : Ext H1 (upd H1 p (.lst vs)) := Ext.new hp
    have st : Stays H1 (ownO (G.addL gs.flatten) f1) (upd H1 p (.lst vs)) (ownO (G.addL (p :: gs.flatten)) f1) := by
      have av : ∀ a u, H1 a = some u → ¬ ownO (G.addL gs.flatten) f1 a → ¬ ownO (G.addL (p :: gs.flatten)) f1 a := fun a u h n z => by
        rcases z with z | z
        · rcases (exq a).mp z with y | y
          · exact n (.inl y)
          · rw [y, hp] at h; cases h
        · exact n (.inr z)
      exact ⟨fun a vs h => e0 a _ h, fun a vs h n => ⟨e0 a _ h, av a _ h n⟩, fun a vs h n => ⟨e0 a _ h, av a _ h n⟩, fun a u vs h n => ⟨e0 a _ h, av a _ h n⟩⟩
    refine k (.ref p) _ f1 (p :: gs.flatten) S3 ⟨fun a o h n t => e0 a _ (E1.keep a o h n t), fun a ha => ?_, fun a h => ?_⟩ (List.nodup_cons.mpr ⟨fun z => gp p z rfl, n1⟩) ⟨_, rfl, p, vs, _, rfl, rfl, upd_same, hi.stay st fun a ha => upd_ne (gp a ha)⟩
    · rcases List.mem_append.mp ha with z | z
      · exact E1.own a (List.mem_append_left _ z)
      · rcases List.mem_cons.mp z with y | y
        · exact .inr (E1.dom a (by rw [y]; exact hp))
        · exact E1.own a (List.mem_append_right _ y)
    · by_cases z : a = p
      · rw [z, upd_same] at h; cases h
      · rw [upd_ne z] at h; exact E1.dom a h
  · cases e
/-- name = such a thing; return it -/
def vaO : Sl → Option (OM × D)
  | .va .no d => some (.no, d)
  | .va (.own F) d => some (.own F, d)
  | _ => none
theorem vaO_some {s : Sl} {y : OM × D} (h : vaO s = some y) : s = .va y.1 y.2 ∧ ∀ F, y.1 ≠ .pin F := by
  unfold vaO at h
  split at h
  · cases h; exact ⟨rfl, fun F z => by cases z⟩
  · cases h; exact ⟨rfl, fun F z => by cases z⟩
  · cases h
def sSetX (i : Nat) (q : EX1) : ES := fun env => (q env).bind fun x => (vaO x.1).bind fun y => if i < x.2.length then some (.nx (x.2.set i (.va y.1 y.2))) else none
theorem fresh_of (S : St K G σ H env f) {g : List Addr} {f1 : List (List Addr)} (E : Ev Tbs.tb H f.flatten H' (f1.flatten ++ g)) : (∀ a ∈ g, a ∈ G.f0 ∨ G.H0 a = none) ∧ ∀ a ∈ g, ¬ G.ex a := by
  refine ⟨fun a ha => ?_, fun a ha hx => ?_⟩
  · rcases E.own a (List.mem_append_right _ ha) with z | z
    · exact S.ev.own a z
    · exact .inr (S.ev.dom a z)
  · rcases E.own a (List.mem_append_right _ ha) with z | z
    · exact S.exf a z hx
    · exact S.exd a hx z
theorem s_setX (hN : X.N.Nodup) (hi : X.N[i]? = some x) (hx : Loc X.env.scope x) (h : PX X a qx) (hs : swapsWith a (some (.Name x px)) pos.line X.env = pure false := by rfl) (hf : X.fn x = true ∨ X.env.scope.names.lookup x = some .local := by first | exact .inl rfl | exact .inr rfl | assumption) :
    PSv W X (.Assign [.Name x px] a pos) (sSetX i qx) := PS.wk (ps_set hN hi hx h hs hf) fun D σ H q => by
  obtain ⟨G, env, fl, o, S, e, k⟩ := q
  obtain ⟨⟨sl, e1⟩, h, e⟩ := Option.bind_eq_some_iff.mp e
  obtain ⟨y, hy, e⟩ := Option.bind_eq_some_iff.mp e
  split at e
  · rename_i hi'
    cases e
    refine ⟨G, env, fl, sl, e1, S, h, fun v H1 f1 g S1 E1 n1 r1 => ?_⟩
    obtain ⟨es, hm⟩ := vaO_some hy
    dsimp only at es
    subst es
    obtain ⟨fr, nx⟩ := fresh_of S E1
    obtain ⟨w, q, hr⟩ := r1
    cases q
    refine k _ H1 _ (S1.adoptX hm hi' fr nx n1 hr) ⟨E1.keep, fun a ha => ?_, E1.dom⟩
    rcases mem_set_flatten ha with z | z
    · exact E1.own a (List.mem_append_left _ z)
    · exact E1.own a (List.mem_append_right _ z)
  · cases e
def sRetX (q : EX1) : ES := fun env => (q env).map fun x => .rx x.1 x.2
theorem s_retX (h : PX X a qx) : PSv W X (.Return (some a) pos) (sRetX qx) := PS.wk (ps_ret h) fun D σ H q => by
  obtain ⟨G, env, fl, o, S, e, k⟩ := q
  obtain ⟨⟨sl, e1⟩, h, rfl⟩ := Option.map_eq_some_iff.mp e
  refine ⟨G, env, fl, sl, e1, S, h, fun v H1 f1 g S1 E1 n1 r1 => ?_⟩
  obtain ⟨fr, nx⟩ := fresh_of S E1
  exact k v σ H1 f1 g S1 fr nx n1 r1
/-! ### several names at once -/
def setXs : List Nat → List Sl → Env → Option Env
  | [], [], env => some env
  | i :: is, s :: ss, env => (vaO s).bind fun y => if i < env.length then setXs is ss (env.set i (.va y.1 y.2)) else none
  | _, _, _ => none
def setVs : List Nat → List V → L2.St → L2.St
  | i :: is, v :: vs, σ => setVs is vs (σ.set i (some v))
  | _, _, σ => σ
theorem St.adoptXs : ∀ {is : List Nat} {ss : List Sl} {vs : List V} {gs : List (List Addr)} {σ : L2.St} {env env' : Env} {f : List (List Addr)}, St K (G.addL gs.flatten) σ H env f → (∀ a ∈ gs.flatten, a ∈ G.f0 ∨ G.H0 a = none) → (∀ a ∈ gs.flatten, ¬ G.ex a) → gs.flatten.Nodup → RE K H (ownO (G.addL gs.flatten) f) ss (vs.map some) gs → setXs is ss env = some env' →
    ∃ f', St K G (setVs is vs σ) H env' f' ∧ ∀ a ∈ f'.flatten, a ∈ f.flatten ∨ a ∈ gs.flatten
  | [], [], vs, gs, σ, env, env', f, S, fr, nx, nd, r, e => by
    cases e
    obtain ⟨h1, rfl⟩ := r
    have : vs = [] := by simpa using h1
    subst this
    exact ⟨f, S.exLess rfl rfl rfl fun a z => .inl z, fun a h => .inl h⟩
  | [], _ :: _, _, _, _, _, _, _, _, _, _, _, _, e => by cases e
  | _ :: _, [], _, _, _, _, _, _, _, _, _, _, _, e => by cases e
  | i :: is, s :: ss, vs, gs, σ, env, env', f, S, fr, nx, nd, r, e => by
    obtain ⟨y, hy, e2⟩ := Option.bind_eq_some_iff.mp e
    clear e
    split at e2
    · rename_i hi
      obtain ⟨es, hm⟩ := vaO_some hy
      subst es
      obtain ⟨o, r', g, gs', h1, rfl, hs, ht⟩ := r
      cases vs with
      | nil => cases h1
      | cons v vs =>
        have h1' : some v :: vs.map some = o :: r' := h1
        injection h1' with q1 q2
        subst q1 q2
        obtain ⟨w, q, hr⟩ := hs
        cases q
        rw [List.flatten_cons] at fr nx nd
        rw [List.nodup_append] at nd
        have S1 : St K ((G.addL gs'.flatten).addL g) σ H env f := S.exLess rfl rfl rfl fun a z => by
          rcases z with (z | z) | z
          · exact .inl z
          · exact .inr (by simp [z])
          · exact .inr (by simp [z])
        have oq : ∀ a, ownO ((G.addL gs'.flatten).addL g) f a → ownO (G.addL (g :: gs').flatten) f a := fun a z => z.imp (fun y => by
          rcases y with (y | y) | y
          · exact .inl y
          · exact .inr (by simp [y])
          · exact .inr (by simp [y])) id
        have S2 := S1.adoptX (i := i) (m := y.1) (d := y.2) (v := v) hm hi (fun a ha => fr a (List.mem_append_left _ ha)) (fun a ha z => by
          rcases z with z | z
          · exact nx a (List.mem_append_left _ ha) z
          · exact nd.2.2 a ha a z rfl) nd.1 (hr.stay (Stays.lower H oq) fun _ _ => rfl)
        have lo2 : ∀ a, ownO (G.addL gs'.flatten) (f.set i g) a → ownO (G.addL (g :: gs').flatten) f a := fun a z => by
          rcases z with (z | z) | z
          · exact .inl (.inl z)
          · exact .inl (.inr (by simp [z]))
          · rcases mem_set_flatten z with u | u
            · exact .inr u
            · exact .inl (.inr (by simp [u]))
        obtain ⟨f', S3, sub⟩ := St.adoptXs (is := is) (vs := vs) S2 (fun a ha => fr a (List.mem_append_right _ ha)) (fun a ha => nx a (List.mem_append_right _ ha)) nd.2.1 (RE.stay (Stays.lower H lo2) (fun a u xs h n => ⟨h, fun z => n (lo2 a z)⟩) (fun _ _ => rfl) ht) e2
        refine ⟨f', S3, fun a ha => ?_⟩
        rcases sub a ha with z | z
        · rcases mem_set_flatten z with u | u
          · exact .inl u
          · exact .inr (by simp [u])
        · exact .inr (by simp [z])
    · cases e2
def sPar (is : List Nat) (q : Env → Option (List Sl × Env)) : ES := fun env => (q env).bind fun x => (setXs is x.1 x.2).map fun e => .nx e
theorem RE.vlen {ss : List Sl} {vs : List V} {gs : List (List Addr)} (h : RE K H O ss (vs.map some) gs) : vs.length = ss.length := by
  have := h.len.1
  simpa using this
theorem setXs_len : ∀ {is : List Nat} {ss : List Sl} {env env' : Env}, setXs is ss env = some env' → ss.length = is.length
  | [], [], _, _, _ => rfl
  | [], _ :: _, _, _, e => by cases e
  | _ :: _, [], _, _, e => by cases e
  | i :: is, s :: ss, env, env', e => by
    obtain ⟨y, hy, e⟩ := Option.bind_eq_some_iff.mp e
    split at e
    · simp [setXs_len e]
    · cases e
theorem par_of {is : List Nat} {D : Ends} {Q : List V → Hp → Prop} (q : TSv K W (sPar is qs) D σ H) (hQ : ∀ vs H', vs.length = is.length → D.nx (setVs is vs σ) H' → Q vs H') : TXs K qs σ H Q := by
  obtain ⟨G, env, fl, o, S, e, k⟩ := q
  obtain ⟨⟨ss, e1⟩, h, e⟩ := Option.bind_eq_some_iff.mp e
  obtain ⟨e2, h2, rfl⟩ := Option.map_eq_some_iff.mp e
  refine ⟨G, env, fl, ss, e1, S, h, fun vs H1 f1 gs S1 E1 n1 r1 => hQ vs H1 (by rw [r1.vlen]; exact setXs_len h2) ?_⟩
  obtain ⟨fr, nx⟩ := fresh_of S E1
  obtain ⟨f', S2, sub⟩ := S1.adoptXs fr nx n1 r1 h2
  exact k _ H1 f' S2 ⟨E1.keep, fun a ha => E1.own a (List.mem_append.mpr (sub a ha)), E1.dom⟩
theorem s_par2 {j : Nat} {y : Str} {py pt pt2 : Pos} {kt k2} (hc : X.calm = true) (hN : X.N.Nodup) (hi : X.N[i]? = some x) (hj : X.N[j]? = some y) (hij : i ≠ j)
    (hx : X.env.scope.names.lookup x = some .local) (hy : X.env.scope.names.lookup y = some .local) (ha : PXs X [a, c] qs)
    (hw : swappedStores [.Tuple [.Name x px, .Name y py] kt pt] (.Tuple [a, c] k2 pt2) X.env = pure (some [x, y]))
    (hs : swapsWithSole [.Tuple [.Name x px, .Name y py] kt pt] (.Tuple [a, c] k2 pt2) pos.line X.env = pure false := by rfl) :
    PSv W X (.Assign [.Tuple [.Name x px, .Name y py] kt pt] (.Tuple [a, c] k2 pt2) pos) (sPar [i, j] qs) := PS.wk (ps_par hc hN hi hj hij hx hy ha hw hs) fun D σ H q =>
  par_of q fun vs H' hl h => match vs, hl with
    | [v, w], _ => ⟨v, w, rfl, h⟩
theorem s_par3 {j l : Nat} {y z : Str} {d : Expr} {py pz pt pt2 : Pos} {kt k2} (hc : X.calm = true) (hN : X.N.Nodup) (hi : X.N[i]? = some x) (hj : X.N[j]? = some y) (hl : X.N[l]? = some z) (hij : i ≠ j) (hil : i ≠ l) (hjl : j ≠ l)
    (hx : X.env.scope.names.lookup x = some .local) (hy : X.env.scope.names.lookup y = some .local) (hz : X.env.scope.names.lookup z = some .local) (ha : PXs X [a, c, d] qs)
    (hw : swappedStores [.Tuple [.Name x px, .Name y py, .Name z pz] kt pt] (.Tuple [a, c, d] k2 pt2) X.env = pure (some [x, y, z]))
    (hs : swapsWithSole [.Tuple [.Name x px, .Name y py, .Name z pz] kt pt] (.Tuple [a, c, d] k2 pt2) pos.line X.env = pure false := by rfl) :
    PSv W X (.Assign [.Tuple [.Name x px, .Name y py, .Name z pz] kt pt] (.Tuple [a, c, d] k2 pt2) pos) (sPar [i, j, l] qs) := PS.wk (ps_par3 hc hN hi hj hl hij hil hjl hx hy hz ha hw hs) fun D σ H q =>
  par_of q fun vs H' hl h => match vs, hl with
    | [u, v, w], _ => ⟨u, v, w, rfl, h⟩
end
end
end DL

set_option Elab.async false
set_option linter.all false
set_option maxRecDepth 100000
set_option maxHeartbeats 2000000
/-! DL11: two comparisons, keywords, the script, tests of all signs, defs that hand back a thing of one's own. -/
namespace DL
open PySem PySem.Spec PyProof.Rows L2
section
variable [Tbs] {K : PySem.W.Frag} {G : Gh} {σ : L2.St} {H H' : Hp} {env : Env} {f f' : List (List Addr)} {O O' : AS} {b : Bool} {W : WXX}
/-! ### a < b < c -/
def e3c (g g' : D → D → Option D) (p q r : EP1) : EP1 := fun env => (p env).bind fun x => (q env).bind fun y => match g x y with
  | some (.bl true) => (r env).bind fun z => g' y z
  | some (.bl false) => some (.bl false)
  | _ => none
theorem tp_chain {r r' : R2} {g g' : D → D → Option D} {p q s : EP1} (h : OpD r g) (h' : OpD r' g') {Q : VK} (t : TP K b (e3c g g' p q s) σ H Q) : tChain r r' (TP K b p) (TP K b q) (TP K b s) σ H Q := by
  obtain ⟨G, env, fl, d, S, e, k⟩ := t
  obtain ⟨x, ex, e⟩ := Option.bind_eq_some_iff.mp e
  obtain ⟨y, ey, e⟩ := Option.bind_eq_some_iff.mp e
  refine ⟨G, env, fl, x, S, ex, fun v H1 e1 r1 => ⟨G, env, fl, y, S.ext e1, ey, fun w H2 e2 r2 => ?_⟩⟩
  have S2 := (S.ext e1).ext e2
  cases hg : g x y with
  | none => rw [hg] at e; cases e
  | some c =>
    refine h (av_dom S2) (r1.ext e2) r2 hg fun z H3 e3 rz => ?_
    rw [hg] at e
    cases c with
    | bl c =>
      obtain rfl : z = .bl c := rz
      refine ⟨c, rfl, ?_⟩
      cases c with
      | true =>
        obtain ⟨z, ez, e⟩ := Option.bind_eq_some_iff.mp e
        exact iteT ⟨G, env, fl, z, S2.ext e3, ez, fun u H4 e4 r4 => h' (av_dom ((S2.ext e3).ext e4)) ((r2.ext e3).ext e4) r4 e fun o H5 e5 r5 => k o H5 ((((e1.trans e2).trans e3).trans e4).trans e5) r5⟩
      | false =>
        cases e
        exact iteF (k _ H3 ((e1.trans e2).trans e3) rfl)
    | _ => cases e
section
variable {X : Cx} {a c d : Expr} {es : List Expr} {pos p1 p2 px : Pos} {p q s : EP1} {pv : EV1} {pn : Env → Option (List D × Env)} {i : Nat} {x : Str}
theorem p_chain {op op' : CmpOp} {r r' : R2} {g g' : D → D → Option D} (ho : OpR X (compareOp op) r) (ho' : OpR X (compareOp op') r') (h : OpD r g) (h' : OpD r' g') (ha : PP b X a p) (hc : PP b X c q) (hd : PP b X d s) (hm : lastMarks [op, op'] [c, d] = false := by with_unfolding_all rfl) :
    PP b X (.Compare a [op, op'] [c, d] pos) (e3c g g' p q s) := PE.wk (pe_chain ho ho' ha hc hd hm) fun σ H Q t => tp_chain h h' t
theorem q_chain {op op' : CmpOp} {r r' : R2} {g g' : D → D → Option D} (ho : OpR X (compareOp op) r) (ho' : OpR X (compareOp op') r') (h : OpD r g) (h' : OpD r' g') (ha : PP b X a p) (hc : PP b X c q) (hd : PP b X d s) (hm : lastMarks [op, op'] [c, d] = false := by with_unfolding_all rfl) :
    PQ X (.Compare a [op, op'] [c, d] pos) (tst (lift (e3c g g' p q s))) := PT.wk (pt_chain ho ho' ha hc hd hm) fun σ H Q t => tq_of (fun Q h1 => tp_chain h h' h1) t
/-! ### f(k = e) -/
theorem v_callK1 {CX : CXT} {XS : XSp} {kw : Str} {k : Nat} {fa : Addr} {fd : FuncData} {ps : List Str} {Fs : FSem} {E : XK} {kpos : Pos} (Fo : FnOk X.prog X.w X.K X.mg X.base CX k fa fd ps (spF XS X.K ps.length Fs)) (hr : Room k X.A) (hm : X.mg x = some (.ref fa)) (hk : PySem.W.keepIn X.K (.ref fa) = true)
    (hb : KBinds X.K fd ps [kw] (fun us ws => us ++ ws) (fun vs zs => vs ++ zs)) (hx : Passes CX X E) (ha : PV X a pv) (hg : Gl X x := by rfl) (hdb : (x == ("__debug__" : Str)) = false := by decide)
    (hall : (backToKw pos (keywordEach [⟨some kw, a, kpos⟩] X.env)).all (·.1.isSome) = true := by rfl) (hks : (backToKw pos (keywordEach [⟨some kw, a, kpos⟩] X.env)).filterMap (·.1) = [kw] := by rfl)
    (hpl : ((backTo pos (starEach [] X.env)).any (·.1) || (backToKw pos (keywordEach [⟨some kw, a, kpos⟩] X.env)).any (·.1.isNone)) = false := by rfl) :
    PV X (.Call (.Name x p1) [] [⟨some kw, a, kpos⟩] pos) (vcallF (lenF ps.length Fs) (vs1 pv vs0)) := by
  refine ⟨fun pins s0 σ H Q I t => ?_⟩
  obtain ⟨G, env, fl, d, env', S, e, q⟩ := t
  obtain ⟨⟨ds, e1⟩, h1, e⟩ := Option.bind_eq_some_iff.mp e
  obtain ⟨⟨d', outs⟩, h2, e⟩ := Option.map_eq_some_iff.mp e
  cases e
  obtain ⟨⟨d0, en0⟩, h0, h1⟩ := Option.bind_eq_some_iff.mp h1
  cases h1
  have h3 := retD_some h2
  unfold lenF at h3
  dsimp only at h3
  split at h3
  · rename_i hl
    refine wpAny_Call_Name_kw (ld_glob I hg hm ?_ hdb)
    refine PySem.W.callWith_KW0 (h₀ := X.base) I.ok.mod.kin hk hall (thn ((pk_cons (nm := some kw) (kpos := kpos) ha pk_nil).run pos pins s0 σ H (fun vs H1 => spF XS X.K ps.length Fs vs H1 Q E) I ?_) fun ws s2 ⟨zs, H2, I2, rz, q2⟩ => ⟨I2.kIn, ?_⟩) hpl
    · refine ⟨G, env, fl, d0, _, S, h0, fun v H1 f1 S1 E1 r1 => ?_⟩
      exact callF S1 (.cons r1 .nil) (by simpa using hl) h3 fun v H' S2 E2 r2 => q v H' f1 S2 (E1.trans E2) r2
    · rw [hks]
      exact run_fnk Fo hr hb hx I2 .nil rz q2
  · cases h3
/-! ### the script -/
def itSc (i : Nat) : Env → Option (List D × Env) := fun env => match env[i]? with
  | some (.sc ns) => some (ns.map .int, env)
  | _ => none
theorem it_sc {tg : Expr} (hN : X.N[i]? = some x) (hv : Vis X.env.scope x) (hd : (x == ("__debug__" : Str)) = false := by decide) (hcd : (x == ("__classdict__" : Str)) = false := by decide) : PIt X tg (.Name x pos) (iList X.K (tVar i)) (itSc i) := by
  refine ⟨pi_list (pe_var hN hv hd hcd), fun {σ H R G env env' fl ds} S e k => ?_⟩
  unfold itSc at e
  split at e
  · rename_i ns he
    cases e
    obtain ⟨o, g, h1, h2, hg, p, eo, hs⟩ := S.rep.get he
    subst eo
    have seq : ∀ (H : Hp) (O : AS), ((Rd H p (.lst (ns.map V.int)) ∧ ¬ O p) ∨ ∀ H', SqL X.K H' p (ns.map V.int)) → SqL X.K H p (ns.map V.int) := fun H O h => by
      rcases h with ⟨h, _⟩ | h
      · exact .inl h
      · exact h H
    refine ⟨_, h1, p, rfl, ⟨_, seq _ (ownO G fl) hs⟩, k _ H fl (fun H O => (Rd H p (.lst (ns.map V.int)) ∧ ¬ O p) ∨ ∀ H', SqL X.K H' p (ns.map V.int)) S Ev.refl hs ⟨fun H1 O1 H2 O2 st h => ?_, fun H O i h => ⟨fun d hd => ?_, fun hl => ?_⟩⟩⟩
    · rcases h with ⟨h | ⟨u, h⟩, ho⟩ | h
      · obtain ⟨q1, q2⟩ := st.lst p _ h ho
        exact .inl ⟨.inl q1, q2⟩
      · obtain ⟨q1, q2⟩ := st.fz p u _ h ho
        exact .inl ⟨.inr ⟨u, q1⟩, q2⟩
      · exact .inr h
    · rw [List.getElem?_map] at hd
      obtain ⟨n, hn, rfl⟩ := Option.map_eq_some_iff.mp hd
      have hx : (ns.map V.int)[i]? = some (.int n) := by rw [List.getElem?_map, hn]; rfl
      refine ⟨⟨_, _, seq H O h, hx⟩, fun x H'' ⟨e1, e2⟩ => ⟨e1, ?_⟩⟩
      have := e2 _ (seq H O h)
      rw [hx] at this
      cases this
      rfl
    · exact ⟨_, seq H O h, by simpa using hl⟩
  · cases e
end
end
end DL

set_option Elab.async false
set_option linter.all false
set_option maxRecDepth 100000
set_option maxHeartbeats 2000000
/-! DL12: a def that hands back a thing of its own (made of the script). -/
namespace DL
open PySem PySem.Spec PyProof.Rows L2
abbrev XSem := List Sl → Option Sl
section
variable [Tbs] {K : PySem.W.Frag} {G : Gh} {σ : L2.St} {H H' : Hp} {env : Env} {f f' : List (List Addr)} {O O' : AS} {b : Bool} {W : WXX}
def spX (K : PySem.W.Frag) (n : Nat) (F : XSem) : Sp := fun vs H Q _ => ∃ G args fl sl, vs.length = n ∧ St K G (vs.map some) H args fl ∧ fl.flatten = [] ∧ F args = some sl ∧
  ∀ v H' g, (∀ a o, H a = some o → ¬ Tbs.tb a → H' a = some o) → (∀ a, H' a = none → H a = none) → (∀ a, Tbs.tb a → TabAt H' a) → (∀ a ∈ g, H a = none) → g.Nodup → RS K H' (fun a => G.ex a ∨ a ∈ g) sl (some v) g → Q v H'
def fSemX (n N : Nat) (body : ES) : XSem := fun args => (body (args ++ List.replicate (N - n) .un)).bind fun o => match o with
  | .rx sl _ => some sl
  | _ => none
theorem bodyX_of {body : ES} {N ps : List Str} {t : TS} {vs : List V} {Q : VK} {E : XK} (hps : ps.length ≤ N.length) (h : spX K ps.length (fSemX ps.length N.length body) vs H Q E) (ht : ∀ D σ H, TSv K W body D σ H → t D σ H) :
    t { nx := fun _ H' => Q .non H', rt := Q } (L2.start N vs) H := by
  obtain ⟨G, args, fl, sl, hl, S, hfl, hF, hr⟩ := h
  obtain ⟨o, ho, hF⟩ := Option.bind_eq_some_iff.mp hF
  have fe : (fl ++ List.replicate (N.length - ps.length) []).flatten = [] := by rw [List.flatten_append, flat_nils, List.append_nil, hfl]
  let G0 : Gh := { ex := G.ex, H0 := H, f0 := [], args := L2.start N vs }
  have S0 : St K G0 (L2.start N vs) H (args ++ List.replicate (N.length - ps.length) .un) (fl ++ List.replicate (N.length - ps.length) []) := by
    refine ⟨?_, by rw [fe]; exact List.nodup_nil, S.exd, by rw [fe]; simp, S.tbl, by rw [fe]; exact Ev.refl, fun _ _ _ _ => rfl⟩
    have o1 : ownO G0 (fl ++ List.replicate (N.length - ps.length) []) = ownO G fl := by
      unfold ownO
      rw [fe, hfl]
    rw [o1]
    have := S.rep.append (RE.uns (K := K) (H := H) (O := ownO G fl) (N.length - ps.length))
    unfold L2.start
    rw [hl]
    exact this
  refine ht _ _ _ ⟨G0, _, _, o, S0, ho, ?_⟩
  cases o with
  | rx sl' e =>
    cases hF
    refine fun v σ' H' fl' g S' fr nx nd r => hr v H' g (fun a o h t => S'.ev.keep a o h (show a ∉ ([] : List Addr) by simp) t) S'.ev.dom S'.tbl (fun a ha => (fr a ha).resolve_left (show a ∉ ([] : List Addr) by simp)) nd ?_
    have lo : ∀ a, (G.ex a ∨ a ∈ g) → ownO (G0.addL g) fl' a := fun a z => .inl z
    exact r.stay (Stays.lower H' lo) (fun _ _ _ => trivial) (fun a u xs h n => ⟨h, fun z => n (lo a z)⟩) fun _ _ => rfl
  | _ => cases hF
theorem fn_semX' {P : Program} {w : World} {mg : Str → Option Value} {base : Heap} {x qual : Str} {st : Stmt} {f : Addr} {fd : FuncData} {N ps : List Str} {k : Nat} {body : ES} (F : Fun K x qual st f fd) (S : FnScope N ps (defScope st))
    (hb : ∀ (cdv : Value) (A : Around) (outer : List PySem.Env) (s : Shared) (H : Hp) (E : XK) (W : WXX), Room k (A.deeper (envOfC qual (defScope st) s.heap.objs.size f cdv)) → PSsv W (cxOf CX0 P w K mg base N qual (defScope st) f cdv A outer s H E).nox (defBody st) body) :
    FnOk P w K mg base CX0 (k + 1) f fd ps (spX K ps.length (fSemX ps.length N.length body)) :=
  F.ok S (fun vs H Q E h => let ⟨_, _, _, _, hl, _⟩ := h; hl) fun cdv A outer s H vs Q E hr h => ⟨_, hb cdv A outer s H E (fun _ _ _ _ => True) hr, bodyX_of (scLe S) h fun _ _ _ q => q⟩
/-- new things stand beside -/
theorem St.newL (S : St K G σ H env f) {g : List Addr} (k : ∀ a o, H a = some o → ¬ Tbs.tb a → H' a = some o) (dom : ∀ a, H' a = none → H a = none) (tb : ∀ a, Tbs.tb a → TabAt H' a) (hn : ∀ a ∈ g, H a = none) (ht : ∀ a ∈ g, H' a ≠ none) : St K (G.addL g) σ H' env f ∧ Ev Tbs.tb H f.flatten H' (f.flatten ++ g) := by
  have E0 : Ev Tbs.tb H [] H' [] := ⟨fun a o h _ t => k a o h t, fun a h => by simp at h, dom⟩
  obtain ⟨S1, E1⟩ := S.keeps E0 tb
  have hg : ∀ a ∈ g, a ∉ f.flatten := fun a ha z => by
    rcases S.there a z with ⟨ws, q⟩ | ⟨ws, q⟩ <;> (rw [hn a ha] at q; cases q)
  have st : Stays H (ownO G f) H' (ownO (G.addL g) f) := by
    have s0 := S.stays E1
    have av : ∀ a u, H a = some u → ¬ ownO G f a → ¬ ownO (G.addL g) f a := fun a u h n z => by
      rcases z with (z | z) | z
      · exact n (.inl z)
      · rw [hn a z] at h; cases h
      · exact n (.inr z)
    exact ⟨s0.tup, fun a vs h n => ⟨(s0.lst a vs h n).1, av a _ h n⟩, fun a vs h n => ⟨(s0.dk a vs h n).1, av a _ h n⟩, fun a u vs h n => ⟨(s0.fz a u vs h n).1, av a _ h n⟩⟩
  refine ⟨⟨RE.stay st (fun a u xs h n => st.fz a u xs h n) (fun a ha => ?_) S.rep, S.nd, fun a z h => ?_, fun a ha z => ?_, tb, S1.ev, S.io⟩, ⟨fun a o h _ t => k a o h t, fun a ha => ?_, dom⟩⟩
  · rcases S.there a ha with ⟨ws, q⟩ | ⟨ws, q⟩ <;> rw [q, k a _ q (S.ntb a ha)]
  · rcases z with z | z
    · exact S.exd a z (dom a h)
    · exact ht a z h
  · rcases z with z | z
    · exact S.exf a ha z
    · exact hg a z ha
  · rcases List.mem_append.mp ha with z | z
    · exact .inl z
    · exact .inr (hn a z)
section
variable {X : Cx} {x y : Str} {p1 p2 pos : Pos} {k : Nat} {fa : Addr} {fd : FuncData} {ps : List Str} {Fx : XSem} {i : Nat}
def xcallSc (F : XSem) (i : Nat) : EX1 := fun env => match env[i]? with
  | some (.sc ns) => (F [.sc ns]).map fun s => (s, env)
  | _ => none
theorem x_callSc (Fo : FnOk X.prog X.w X.K X.mg X.base CX0 k fa fd ps (spX X.K ps.length Fx)) (hr : Room k X.A) (hm : X.mg x = some (.ref fa)) (hk : PySem.W.keepIn X.K (.ref fa) = true) (hb : Binds X.K fd ps []) (hN : X.N[i]? = some y) (hv : Vis X.env.scope y) (hlen : ps.length = 1 := by rfl) (hg : Gl X x := by rfl)
    (hdb : (x == ("__debug__" : Str)) = false := by decide) (hd : (y == ("__debug__" : Str)) = false := by decide) (hcd : (y == ("__classdict__" : Str)) = false := by decide)
    (he : starEach (.Name y p2 :: []) X.env = (false, eval (.Name y p2) X.env) :: starEach [] X.env := by rfl) (hpl : (backTo pos (starEach [] X.env)).any (·.1) = false := by rfl) :
    PX X (.Call (.Name x p1) [.Name y p2] [] pos) (xcallSc Fx i) :=
  PE.wk (pe_call Fo hr hg hm hk hb .nil pass0 (pa_cons (pe_var hN hv hd hcd) pa_nil he) hdb he hpl) fun σ H Q t => by
    obtain ⟨G, env, fl, sl, env', S, e, q⟩ := t
    unfold xcallSc at e
    split at e
    · rename_i ns he'
      obtain ⟨s, hs, e⟩ := Option.map_eq_some_iff.mp e
      cases e
      obtain ⟨o, g, h1, h2, hg', a, eo, hsq⟩ := S.rep.get he'
      subst eo
      refine ⟨_, h1, ?_⟩
      show spX X.K ps.length Fx ([.ref a] ++ []) H Q E0
      let G' : Gh := { ex := ownO G fl, H0 := H, f0 := [], args := [some (.ref a)] }
      have o1 : ∀ c, ownO G' [[]] c → ownO G fl c := fun c z => by
        rcases z with z | z
        · exact z
        · simp at z
      refine ⟨G', [.sc ns], [[]], _, by rw [hlen]; rfl, ⟨⟨some (.ref a), [], [], [], rfl, rfl, ⟨rfl, a, rfl, hsq.imp (fun z => ⟨z.1, fun y => z.2 (o1 a y)⟩) id⟩, rfl, rfl⟩, by simp, S.dom, by simp, S.tbl, Ev.refl, fun _ _ _ _ => rfl⟩, rfl, hs, fun v H' g k1 k2 k3 k4 k5 k6 => ?_⟩
      obtain ⟨S2, E2⟩ := S.newL k1 k2 k3 k4 fun c hc => by
        rcases k6.there c hc with ⟨ws, z⟩ | ⟨ws, z⟩ <;> (rw [z]; simp)
      have lo : ∀ c, ownO (G.addL g) fl c → (G'.ex c ∨ c ∈ g) := fun c z => by
        rcases z with (z | z) | z
        · exact .inl (.inl z)
        · exact .inr z
        · exact .inl (.inr z)
      exact q v H' fl g S2 E2 k5 (k6.stay (Stays.lower H' lo) (fun _ _ _ => trivial) (fun a u xs h n => ⟨h, fun z => n (lo a z)⟩) fun _ _ => rfl)
    · cases e
end
end
end DL

set_option Elab.async false
set_option linter.all false
set_option maxRecDepth 100000
set_option maxHeartbeats 4000000
/-! An own error over another own error over ValueError, whose __init__ says super().__init__(f'<words>{line}') and then self.line = line; the number is small. -/
namespace PySem
namespace Bad
open PySem.W PySem.Calls PyProof.Rows PySem.HandSPX
structure Ps where
  (p1 p2 q1 q2 q3 q4 q5 q6 q7 q8 q9 r1 r2 r3 r4 : Pos)
def iA (p : Ps) : Arguments := { posonlyargs := [], args := [{ arg := "self", annotation := none, pos := p.p1 }, { arg := "line", annotation := none, pos := p.p2 }], vararg := none, kwonlyargs := [], kw_defaults := [], kwarg := none, defaults := [] }
def msg (t : Str) (p : Ps) : Expr := .JoinedStr [.Constant (.str t) 0 p.q4, .FormattedValue (.Name "line" p.q5) (-1) none p.q6] p.q7
def iB (t : Str) (p : Ps) : List Stmt := [.Expr (.Call (.Attribute (.Call (.Name "super" p.q1) [] [] p.q2) "__init__" p.q3) [msg t p] [] p.q8) p.q9, .Assign [.Attribute (.Name "self" p.r1) "line" p.r2] (.Name "line" p.r3) p.r4]
def iS : Scope := { kind := .function, names := [(PySem.Str.ofString "self", .local), (PySem.Str.ofString "line", .local), (PySem.Str.ofString "__class__", .free), (PySem.Str.ofString "super", .globalImplicit)], isGenerator := false, isCoroutine := false, more := [] }
/-- what the written part says of the class at C and of its __init__ at fI; t the words ahead of the number -/
structure Txt (prog : Program) (K : Frag) (mg : Str → Option Value) (C fI : Addr) (t : Str) : Prop where
  gC : mg "BadText" = some (.ref C)
  cls : ∃ nm q N bs bm sn sub ab col dd k0 k1 k2 k3 k5, K.lookup C = some (excClassObj nm q C N bs bm true sn sub ab col dd k0 k1 k2 k3 k5 "ValueError.__new__") ∧ refsVE bm = true
  sa : findIn K (.ref C) "__setattr__" = some (some (.builtin "object.__setattr__"))
  ga : findIn K (.ref C) "__getattribute__" = some (some (.builtin "BaseException.__getattribute__"))
  gg : findIn K (.ref C) "__getattr__" = some none
  noN : findIn K (.ref C) "line" = some none
  iC : findIn K (.ref C) "__init__" = some (some (.ref fI))
  tC : typeIn K (.ref fI) = some (.type "function")
  kC : keepIn K (.ref C) = true
  exC : subIn K (.ref C) (.type "BaseException") = some true
  tyC : typeIn K (.ref C) = some (.type "type")
  hdC : hasDictIn K C = true
  te : exmOne K (.ref C) (.ref C) = some true
  sup : mg "super" = none
  alo : ks_superIn K C C "__init__" = some (some (.builtin "ValueError.__init__"))
  opq : nsIn K cStatics "thirdparty.any" = some none
  veC : subIn K (.ref C) (.type "ValueError") = some true
  ccC : mroIn K C (.ref C) = some true
  top : (prog.main.scope.names.lookup ("super" : Str)).isSome = false
  small : t.length ≤ 1000
  fn : ∃ (oc : Value) (od : Option Addr) (doc pm : Value) (an : Option Addr) (cda cc : Addr) (ct : Value) (osl : Array (Option Value)) (p : Ps) (ccl : Value) (cdd : Option Addr) (vs : Array Value) (ccs : Array (Option Value)) (file : Str) (tf : Tok) (cl : Value) (cld : Option Addr) (csl : Array (Option Value)),
    K.lookup fI = some ⟨oc, od, .func (ksFn "__init__" "BadText.__init__" (iA p) (iB t p) iS .none .none doc pm an (.ref cda) ct cc), osl⟩ ∧ codeIn K (.ref cda) "BadText.__init__" = true ∧
    K.lookup cda = some ⟨ccl, cdd, .fields vs, ccs⟩ ∧ vs[2]? = some (.str file tf) ∧ ((prog.main.file : Str) == file) = true ∧ K.lookup cc = some ⟨cl, cld, .cell (some (.ref C)), csl⟩ ∧ (p.q3.endLine == p.q8.line) = true
theorem one_fits (v : Value) : [v].length ≤ sizeLine := by
  rw [sizeLine_eq]
  exact (by decide : 1 ≤ 16777216)
theorem in_but {K : Frag} {h h' : Heap} {x : Addr} (X : K.In h) (hx : K.lookup x = none) (k : ∀ b o, b ≠ x → h.get? b = some o → h'.get? b = some o) : K.In h' := by
  intro a o e
  refine k a o ?_ (X a o e)
  rintro rfl
  rw [hx] at e
  cases e
/-- a fresh exception at x behind its __init__ -/
structure InitEnd (h h' : Heap) (x C dx t1 : Addr) (v : Value) : Prop where
  keep : ∀ b o, b ≠ x → h.get? b = some o → h'.get? b = some o
  obj : h'.get? x = some { cls := .ref C, dict := some dx, data := .fields #[.ref t1, .none, .none, .none, .bool false, .none] }
  dbig : h.objs.size ≤ dx
  dne : dx ≠ x
  ns : h'.Ns1 dx (fun y => if y = "line" then some v else none)
structure Made (h h' : Heap) (e C d : Addr) (v : Value) : Prop where
  keep : ∀ b o, h.get? b = some o → h'.get? b = some o
  new : h.objs.size ≤ e
  obj : ∃ oe vs, h'.get? e = some oe ∧ oe.cls = .ref C ∧ oe.dict = some d ∧ oe.data = .fields vs ∧ vs[1]? = some .none
  dbig : h.objs.size ≤ d
  dne : d ≠ e
  ns : h'.Ns1 d (fun y => if y = "line" then some v else none)
section
variable {prog : Program} {w : World} {A : Around} {E : Value → Shared → Prop} {R : Result → Shared → Prop} {s : Shared} {K : Frag} {mg mb : Str → Option Value} {C fI : Addr} {t : Str}
/-- a name that is a local of the def that runs -/
theorem ld_own {fd : FuncData} {L a : Addr} {m : Str → Option Value} {x : Str} {pos : Pos} {v : Value} {Q : Value → Shared → Prop} (hn : s.heap.Ns L m) (hv : m x = some v) (h : Q v s) (hk : fd.scope.kind = .function) (hl : (callEnv fd L a).kindOf x = some .local)
    (hd : (x == ("__debug__" : Str)) = false := by decide) : wpAny (model prog w) A (eval (.Name x pos) (callEnv fd L a)) Q E s := wpAny_Name (wpAny_loadName_local hk hl hn hv h) hd
/-- ValueError.__init__ bound to the exception at x, called -/
theorem wrap_call {u x t0 : Addr} {rest : List Value} {Q : Value → Shared → Prop} {nm q : Str} {N : Addr} {bs bm : List Value} {hd : Bool} {sn : List Str} {sub : List Value} {ab : Bool} {col : Option Bool} {dd : Option Addr} {k0 k1 k2 k3 k5 : Option Value}
    (hC : s.heap.get? C = some (excClassObj nm q C N bs bm hd sn sub ab col dd k0 k1 k2 k3 k5 "ValueError.__new__")) (hx : s.heap.get? x = some (excO C t0)) (hu : s.heap.get? u = some (kxs_mw "ValueError.__init__" x)) (hz : rest.length ≤ sizeLine)
    (hq : ∀ h' t1, (∀ b o, b ≠ x → s.heap.get? b = some o → h'.get? b = some o) → h'.get? x = some (excO C t1) → Q .none { s with heap := h' }) :
    wpAny (model prog w) A (call (.ref u) rest) Q E s := by
  obtain ⟨h, g, d, tk, os⟩ := s
  refine wpAny_call (codeAny_of_tree ?_)
  show wpAny _ A.in1 (callAny (.ref u) ⟨rest, []⟩) _ _ _
  simp only [callAny]
  refine wpAny_bind (wpAny_load hu ?_)
  simp only [kxs_mw]
  rw [if_pos (by decide)]
  show wpAny _ _ (if _ then _ else _) _ _ _
  rw [if_pos (by decide)]
  refine wpAny_bind (check_bound_init F.excBase_ValueError.toExcCallFacts hC hx rfl ?_)
  refine wpAny_bind (wpAny_pure (wpAny_pure ⟨plainId_quiet F.excBase_ValueError.init.plain _, codeAny_builtin F.excBase_ValueError.initEntry ?_⟩))
  refine exc_init_tree (cls := .ref C) (t0 := t0) (dv := none) (c2 := .none) (c3 := .none) (b4 := .bool false) hx hz fun h' k e2 _ => hq h' h.objs.size k ?_
  exact e2
theorem call_line {o : Expr} {name : Str} {apos pos : Pos} {args : List Expr} {env : Env} (hf : methodCallForm (args.length + 0) (backTo pos (starEach args env)) [] = true) (hl : (apos.endLine == pos.line) = true) :
    eval (.Call (.Attribute o name apos) args [] pos) env = (do
      let ov ← attributeBase o name env (eval o env)
      standAt apos.atName
      let (f, first) ← holding [ov] (getMethod ov name (L2.plainOf o env))
      callWith pos f first (backTo pos (starEach args env)) []) := by
  rw [arm_eval_Call]
  have e : ∀ ov, methodCall o name apos pos env ov (args.length + ([] : List Keyword).length) (backTo pos (starEach args env)) (backToKw pos (keywordEach [] env)) = _ := fun ov => L2.mcall_line hf hl
  simp only [e]
  rfl
theorem bad_init (T : Txt prog K mg C fI t) {x t0 : Addr} {n : Int} {tn : Tok} (hl : (t ++ (toString n : Str)).length ≤ sizeLine) (hn : n.natAbs.log2 < 1920) (X : K.In s.heap) (G : s.heap.Ns mainGlobals mg) (B : s.heap.Ns builtinsNs mb) (hmb : mb "super" = some (.type "super"))
    (hlim : s.heap.NoLimit) (hx : s.heap.get? x = some (excO C t0)) (hnx : K.lookup x = none) (hroom : A.depth < recursionLimit)
    (hq : ∀ h' tk dx t1, InitEnd s.heap h' x C dx t1 (.int n tn) → R (.ok (.ret .none)) { s with heap := h', toks := tk }) :
    codeAny (model prog w) A (.call (.ref fI) ⟨[.ref x, .int n tn], []⟩) R s := by
  obtain ⟨oc, od, doc, pm, an, cda, cc, ct, osl, p, ccl, cdd, vs, ccs, file, tf, cl, cld, csl, ho, hcd, hcode, hvs, hfile, hcell, hln⟩ := T.fn
  obtain ⟨nm, q, N, bs, bm, sn, sub, ab, col, dd, k0, k1, k2, k3, k5, hC, hbm⟩ := T.cls
  have hcl : clsIn K C = some { name := nm, bases := bs, mro := .ref C :: bm, ns := N, qualname := q, hasDict := true, slotNames := sn, subclasses := sub, abstract := ab, collection := col, hasDel := false } := by
    unfold clsIn
    rw [hC] <;> rfl
  have hC' : s.heap.get? C = some _ := X _ _ hC
  have hal : alongIn K "__init__" (((Value.ref C :: bm).dropWhile (· != .ref C)).drop 1) = some (some (.builtin "ValueError.__init__")) := by
    have z := T.alo
    unfold ks_superIn at z
    rw [hcl] at z
    exact z
  refine ks_codeAny_call_defAt (binds := [("self", .ref x), ("line", .int n tn)]) hroom (X _ _ ho) rfl hlim (codeRec_of X hcd) rfl (BindsTo.of_eq rfl) (show ∀ x ∈ iS.names, x.2 ≠ NameKind.cell by decide) (locs rfl) (fun h1 hns k => ?_)
  refine ks_wpAt_execs_cons (ks_wpAt_Expr_any (ks_wpAt_MethodCall (ks_wpAt_super_base (f := fI) (cc := cda) rfl rfl (by decide) rfl (k _ _ (X _ _ ho)) rfl rfl rfl (k _ _ (X _ _ hcode)) rfl hvs hfile T.top ?_) (call_line rfl hln)))
  refine ks_loadName_global rfl rfl (loadGlobal_builtin (mg := mg) (mb := mb) (G.keeps k) T.sup (B.keeps k) hmb ⟨rfl, ?_⟩)
  refine wpAny_loadName_free rfl rfl rfl ⟨_, k _ _ (X _ _ hcell), rfl⟩ ?_
  refine wpAny_loadName_local rfl rfl hns rfl ?_
  refine ks_wpAny_isType_cls (k _ _ (X _ _ hC)) rfl ⟨rfl, ?_⟩
  refine ks_wpAny_call_super (k _ _ (X _ _ hC)) rfl (k _ _ hx) rfl (by intro c e; cases e) (looks_mroIn (X.keeps k) T.ccC) fun h2 so kk => ?_
  have k2' : ∀ b o, s.heap.get? b = some o → h2.get? b = some o := fun b o e => kk b o (k b o e)
  have X2 : K.In h2 := X.keeps k2'
  have I2 : InstAt h2 x (excO C t0) C none := ⟨k2' _ _ hx, rfl, rfl, trivial⟩
  refine kxs_getMethod kxs_ValueError so (looks_opaque X2 T.opq) (l₀ := Value.ref C :: bm) (fun A Q E s k q => wpAny_bind ((looks_clsIn X2 hcl) A _ E s k (wpAny_pure q))) rfl X2 hal (I2.type.andThen (looks_subIn X2 T.veC)) (ks_ne X2 I2 hcl) (by decide) ?_
  refine kxs_callWith (i := "ValueError.__init__") (x := x) rfl (evalArgs_plain (spliced_cons ?_))
  have k3 : ∀ b o, h2.get? b = some o → (h2.push (kxs_mw "ValueError.__init__" x)).get? b = some o := fun b o e => Heap.get?_push_of_some _ e
  have hm : (h2.push (kxs_mw "ValueError.__init__" x)).get? h2.objs.size = some (kxs_mw "ValueError.__init__" x) := Heap.get?_push_at rfl rfl
  have hns3 := (hns.keeps kk).keeps k3
  have l1 : (Str.empty ++ t).length ≤ sizeLine := by
    rw [strLen_append, sizeLine_eq]
    have := T.small
    show 0 + t.length ≤ 16777216
    omega
  have l2 : (Str.empty ++ t ++ (toString n : Str)).length ≤ sizeLine := by
    rw [strLen_append, strLen_append]
    rw [strLen_append] at hl
    show 0 + t.length + _ ≤ _
    omega
  refine JoinedStr_many (pos := p.q7) (joinParts_cons (wpAny_Constant_str ⟨l1, joinParts_cons (FormattedValue_plain (ld_own hns3 rfl (formatField_int_small hn ⟨l2, joinParts_nil ?_ l2⟩) rfl rfl))⟩))
  refine wpAny_pure ⟨hm, ?_⟩
  refine wrap_call (t0 := t0) (k3 _ _ (k2' _ _ hC')) (k3 _ _ (k2' _ _ hx)) hm (one_fits _) fun h4 t1 k4 e4 => ?_
  have k24 : ∀ b o, b ≠ x → s.heap.get? b = some o → h4.get? b = some o := fun b o hb e => k4 b o hb (k3 b o (k2' b o e))
  have X4 : K.In h4 := in_but X hnx k24
  have hLx : s.heap.objs.size ≠ x := Nat.ne_of_gt (Heap.lt_size hx)
  have hns4 := hns3.at (h' := h4) (fun o q => k4 _ o hLx q)
  show wpAt _ _ _ (execs _ _) _ _ _
  refine wpAt_of_wpAny (wpAny_execs_cons (plainObj_wpAny_Assign_Attribute ?_))
  refine ld_own (v := .int n tn) hns4 rfl (ld_own (v := .ref x) hns4 rfl ?_ rfl rfl) rfl rfl
  refine set_plain X4 (ox := excO C t1) (od := none) ⟨e4, rfl, rfl, trivial⟩ T.sa ?_
  refine exc_osa X4 e4 hcl (show refsVE (.ref C :: bm) = true from hbm) rfl T.noN (fun h5 tk5 dx k5' dn dne hx5 hn5 => ?_)
  refine wpAny_execs_nil (hq h5 tk5 dx t1 ⟨fun b o hb e => k5' b o hb (k24 b o hb e), hx5, ?_, dne, hn5⟩)
  exact Nat.le_trans (Nat.le_of_lt hns4.lt) dn
theorem bad_made (T : Txt prog K mg C fI t) {n : Int} {tn : Tok} (hl : (t ++ (toString n : Str)).length ≤ sizeLine) (hn : n.natAbs.log2 < 1920) (X : K.In s.heap) (G : s.heap.Ns mainGlobals mg) (B : s.heap.Ns builtinsNs mb) (hmb : mb "super" = some (.type "super")) (hlim : s.heap.NoLimit) (hroom : A.depth + 1 < recursionLimit)
    (hq : ∀ h' tk e d, Made s.heap h' e C d (.int n tn) → R (.ok (.ret (.ref e))) { s with heap := h', toks := tk }) :
    codeAny (model prog w) A (.call (.ref C) ⟨[.int n tn], []⟩) R s := by
  obtain ⟨nm, q, N, bs, bm, sn, sub, ab, col, dd, k0, k1, k2, k3, k5, hC, hbm⟩ := T.cls
  obtain ⟨hp, g, dr, tk, os⟩ := s
  have up : ∀ b o, hp.get? b = some o → ((hp.push (kdv_tup [Value.int n tn])).push (excO C hp.objs.size)).get? b = some o := fun b o e => Heap.get?_push_of_some _ (Heap.get?_push_of_some _ e)
  have at1 : ((hp.push (kdv_tup [Value.int n tn])).push (excO C hp.objs.size)).get? (hp.objs.size + 1) = some (excO C hp.objs.size) := by heap_get
  have noK : K.lookup (hp.objs.size + 1) = none := by
    rcases e : K.lookup (hp.objs.size + 1) with _ | o
    · rfl
    · exact absurd (Nat.lt_of_succ_lt (Heap.lt_size (show hp.get? _ = some o from X _ _ e))) (Nat.lt_irrefl _)
  refine call_own F.excBase_ValueError (fun Y => refsVE_contains Y bm hbm) (X _ _ hC) (looks_findIn X T.iC) (fun self => bind_fn X self T.tC) (one_fits _) ?_
  refine bad_init (s := ⟨(hp.push (kdv_tup [Value.int n tn])).push (excO C hp.objs.size), g, dr, tk, os⟩) T hl hn (X.keeps up) (G.keeps up) (B.keeps up) hmb (hlim.keeps up) at1 noK hroom fun h' tk' dx t1 D => ?_
  have old : ∀ b o, hp.get? b = some o → h'.get? b = some o := fun b o e => D.keep b o (Nat.ne_of_lt (Nat.lt_succ_of_lt (Heap.lt_size e))) (up b o e)
  have z : hp.objs.size + 1 + 1 ≤ dx := by
    have y := D.dbig
    first
      | simpa only [Heap.size_push] using y
      | exact y
  exact ⟨rfl, hq h' tk' (hp.objs.size + 1) dx ⟨old, Nat.le_succ _, ⟨_, _, D.obj, rfl, rfl, rfl, rfl⟩, (by show hp.objs.size ≤ dx; omega), D.dne, D.ns⟩⟩
end
end Bad
end PySem

set_option Elab.async false
set_option linter.all false
set_option maxRecDepth 100000
set_option maxHeartbeats 2000000
namespace DL
open PySem PySem.Spec PyProof.Rows L2
/-- the wish at an exception: number 0 is BadText with its line -/
def xsBad (t : Str) (C : Addr) : XSp := fun c as E H => c = 0 ∧ ∃ n : Int, as = [.int n] ∧ (t ++ (toString n : Str)).length ≤ sizeLine ∧ n.natAbs.log2 < 1920 ∧ ∀ d : Addr, H d = none → E (.ref C) (some d) (upd H d (.xd [(("line" : Str), .int n)]))
theorem relO_line {v : V} {v' : Value} (r : RelV v v') (f : Str) : RelO (List.lookup f [(("line" : Str), v)]) (if f = "line" then some v' else none) := by
  rw [lookup_put]
  split
  · exact r
  · trivial
section
variable {X : Cx} {C fI : Addr} {t : Str}
/-- BadText(e) -/
def tMkBad (t : Str) (C : Addr) (ta : TA) : L2.St → Hp → XK → Prop := fun σ H Q => ta σ H fun vs H1 => ∃ n : Int, vs = [.int n] ∧ (t ++ (toString n : Str)).length ≤ sizeLine ∧ n.natAbs.log2 < 1920 ∧ ∀ d, H1 d = none → Q (.ref C) (some d) (upd H1 d (.xd [(("line" : Str), .int n)]))
theorem pmk_bad {a : Expr} {ta : TA} {p pos : Pos} {k : Nat} (T : PySem.Bad.Txt X.prog X.K X.mg C fI t) (hr : Room k X.A) (ha : PA X [a] ta) (hg : Gl X "BadText" := by rfl)
    (he : starEach (a :: []) X.env = (false, eval a X.env) :: starEach [] X.env := by rfl) (hpl : (backTo pos (starEach [] X.env)).any (·.1) = false := by rfl) :
    PMk X (.Call (.Name "BadText" p) [a] [] pos) (tMkBad t C ta) := by
  intro pins s σ H Q I h
  refine wpAny_Call_Name_kw (ld_glob I hg T.gC ?_)
  refine PySem.W.callWith_K (h₀ := X.base) I.ok.mod.kin T.kC (thn (ha.run pos pins s σ H _ I h) fun us s1 hh => ?_) he hpl
  obtain ⟨vs, H1, I1, r1, n, rfl, hl, hn, q1⟩ := hh
  refine ⟨I1.kIn, ?_⟩
  obtain ⟨tn, rfl⟩ : ∃ tn, us = [Value.int n tn] := by
    cases r1 with
    | cons rv rn =>
      rename_i v' us'
      cases rn
      obtain ⟨tn, rfl⟩ := rv
      exact ⟨tn, rfl⟩
  obtain ⟨mb, hb1, hb2⟩ := I1.mod.blt
  have hlim := I1.nolimit
  have hG := I1.mod.glob.keeps I1.bk
  have hB := hb1.keeps I1.bk
  have hmb : mb "super" = some (.type "super") := (hb2 "super" (by decide)).trans (by decide +kernel)
  show wpAny _ _ (call (.ref C) [Value.int n tn]) _ _ _
  obtain ⟨hp, g, dr, tk, os⟩ := s1
  refine wpAny_call (PySem.Bad.bad_made T hl hn I1.kIn hG hB hmb hlim (by have := hr.dp; omega) fun h' tk' e d M => ?_)
  show MkP X pins σ Q (.ref e) ⟨h', g, dr, tk', os⟩
  obtain ⟨oe, fv, hoe, hc, hd, hdat, h1⟩ := M.obj
  obtain ⟨G', g1, g2⟩ := restrict h' fun b => decide (b ≠ e)
  have gk : ∀ b, b ≠ e → G'.get? b = h'.get? b := fun b hb => g1 b (decide_eq_true hb)
  have ge : G'.get? e = none := g2 e (by simp)
  have old : ∀ b o, hp.get? b = some o → G'.get? b = some o := fun b o q => (gk b (Nat.ne_of_lt (Nat.lt_of_lt_of_le (Heap.lt_size q) M.new))).trans (M.keep b o q)
  have ob : ObjOk X.prog X.w (upd H1 d (.xd [(("line" : Str), .int n)])) G' d (.xd [(("line" : Str), .int n)]) :=
    ⟨_, M.ns.at (fun o q => (gk d M.dne).trans q), fun f => relO_line (v := .int n) ⟨_, rfl⟩ f⟩
  have J : Inv X pins σ (upd H1 d (.xd [(("line" : Str), .int n)])) ⟨G', g, dr, tk', os⟩ := I1.laid (t' := tk') old M.dbig ob
  refine ⟨e, oe, fv, ⟨G', g, dr, tk', os⟩, _, .ref C, some d, rfl, J, fun b o q => ?_, ge, hoe, ⟨hc, hd⟩, hdat, h1, ?_, rfl, I1.bare, raises_own T.exC T.tyC, q1 d (I1.hok.fresh M.dbig)⟩
  · have q' : G'.get? b = some o := q
    have hb : b ≠ e := fun z => by
      rw [z, ge] at q'
      cases q'
    exact (gk b hb).symm.trans q
  · rw [upd_ne (Ne.symm M.dne)]
    exact I1.hok.fresh M.new
def tRaiseBad (t : Str) (C : Addr) (W : WX) (ta : TA) : TS := fun _ σ H => tMkBad t C ta σ H fun cls d H' => W cls d σ H'
theorem ps_raiseBad {a : Expr} {ta : TA} {W : WX} {p pos pos2 : Pos} {k : Nat} (hc : X.calm = true) (T : PySem.Bad.Txt X.prog X.K X.mg C fI t) (hr : Room k X.A) (tk : Takes X W) (ha : PA X [a] ta) (hg : Gl X "BadText" := by rfl)
    (he : starEach (a :: []) X.env = (false, eval a X.env) :: starEach [] X.env := by rfl) (hpl : (backTo pos (starEach [] X.env)).any (·.1) = false := by rfl) :
    PS X (.Raise (some (.Call (.Name "BadText" p) [a] [] pos)) none pos2) (tRaiseBad t C W ta) := ps_raise hc tk (pmk_bad T hr ha hg he hpl)
/-- low.line, low the exception that the suite holds -/
def tLine (C : Addr) (a : Addr) (cls : Value) (d : Option Addr) (te : TE) : TE := fun σ H Q => te σ H fun x H1 => x = .ref a ∧ cls = .ref C ∧ ∃ (dd : Addr) (v : V), d = some dd ∧ H1 dd = some (.xd [(("line" : Str), v)]) ∧ Q v H1
theorem pe_line {a : Addr} {oe : Obj} {cls : Value} {d : Option Addr} {pn : List (Addr × Obj)} {e : Expr} {te : TE} {pos : Pos} (T : PySem.Bad.Txt X.prog X.K X.mg C fI t) (hz : Zc cls d oe) (hf : ∃ vs, oe.data = .fields vs) (he : PE (X.suite a ((a, oe) :: pn)) e te)
    (hb : attributeBase e "line" X.env (eval e X.env) = eval e X.env := by rfl) :
    PE (X.suite a ((a, oe) :: pn)) (.Attribute e "line" pos) (tLine C a cls d te) := by
  refine ⟨fun pins s σ H Q I h => ?_⟩
  refine attr_of hb (thn (he.run pins s σ H _ I h) fun u s1 hh => ?_)
  obtain ⟨x, H1, I1, rx, rfl, rfl, dd, v, rfl, ea, q⟩ := hh
  obtain rfl : u = Value.ref a := rx
  obtain ⟨ha, _⟩ := I1.pin (a, oe) (List.mem_append_left _ List.mem_cons_self)
  obtain ⟨vs, hd⟩ := hf
  have hx : ObjOk X.prog X.w H1 s1.heap dd (.xd [(("line" : Str), v)]) := I1.hok dd _ ea
  obtain ⟨mA, hns, hr⟩ := hx
  obtain ⟨od, ho, hl⟩ := lookIn_ns hns
  have r1 := hr "line"
  rw [lookup_put, if_pos rfl] at r1
  obtain ⟨u, hu, ru⟩ := RelO.some_of (v := v) (o := mA "line") r1
  have J : PySem.W.InstAt s1.heap a oe C (some od) := ⟨ha, hz.1, by unfold PySem.W.notCls; rw [hd] <;> rfl, by rw [hz.2]; exact ho⟩
  exact HandSPX.exc_get I1.kIn J T.ga T.gg T.exC (PySem.W.findObj_own T.hdC T.noN rfl (by rw [hl, hu])) (handed_of ru) ⟨v, H1, I1.tok _, ru, q⟩
end
section
variable [Tbs] {X : Cx} {C fI : Addr} {t : Str}
/-- raise BadText(..) -/
def sRaise (c : Nat) (p : Env → Option (List D × Env)) : ES := fun env => (p env).map fun x => .ex c x.1
theorem s_raiseBad {a : Expr} {ps : Env → Option (List D × Env)} {E : XK} {p pos pos2 : Pos} {k : Nat} (hc : X.calm = true) (T : PySem.Bad.Txt X.prog X.K X.mg C fI t) (hr : Room k X.A) (tk : Takes X (fun cls d _ H => E cls d H)) (ha : PVs X [a] ps) (hg : Gl X "BadText" := by rfl)
    (he : starEach (a :: []) X.env = (false, eval a X.env) :: starEach [] X.env := by rfl) (hpl : (backTo pos (starEach [] X.env)).any (·.1) = false := by rfl) :
    PSv (fun c as _ H => xsBad t C c as E H) X (.Raise (some (.Call (.Name "BadText" p) [a] [] pos)) none pos2) (sRaise 0 ps) := PS.wk (ps_raiseBad hc T hr tk ha hg he hpl) fun D σ H q => by
  obtain ⟨G, env, fl, o, S, e, k⟩ := q
  obtain ⟨⟨ds, e1⟩, h, rfl⟩ := Option.map_eq_some_iff.mp e
  refine ⟨G, env, fl, ds, e1, S, h, fun vs H1 f1 S1 E1 r1 => ?_⟩
  obtain ⟨-, n, rfl, hl, hn, q⟩ := k σ H1 e1 f1 S1
  obtain ⟨v, vs', rfl, r, r'⟩ := r1
  obtain rfl : vs' = [] := r'
  obtain rfl : v = .int n := r
  exact ⟨n, rfl, hl, hn, q⟩
end
/-! ### a def that may raise, called where it does not -/
section
variable [Tbs] {P : Program} {w : World} {K : PySem.W.Frag} {mg : Str → Option Value} {base : Heap} {k n : Nat} {f : Addr} {fd : FuncData} {ps : List Str} {XS : XSp} {Fs : FSem}
theorem fn_calm (F : FnOk P w K mg base (L2.CX P w) k f fd ps (spF XS K n Fs)) : FnOk P w K mg base CX0 k f fd ps (spF noX K n Fs) := by
  have to : ∀ vs H Q E, spF noX K n Fs vs H Q E → spF XS K n Fs vs H Q E0 := by
    intro vs H Q E ⟨G, args, fl, r, hl, S, hG, e, h⟩
    refine ⟨G, args, fl, r, hl, S, hG, e, ?_⟩
    cases r with
    | ret d outs => exact h
    | exc c as => exact fun H' h1 h2 => (h H' h1 h2).elim
  refine ⟨fun vs H Q E h => F.len vs H Q E0 (to _ _ _ _ h), fun A outer s H args us vs Q E hr he hb hv hs => codeAny_mono (F.run A outer s H args us vs Q E0 hr he hb hv (to _ _ _ _ hs)) fun r s' h => ?_⟩
  rcases r with e | fl
  · obtain ⟨_, _, _, _, _, _, _, _, _, _, _, _, z⟩ := h
    exact z.elim
  · cases fl <;> exact h
end
/-! ### try: return ('told', f(text)) except BadText as wrong: return ('line', wrong.line) -/
section
variable [Tbs] {P : Program} {w : World} {K : PySem.W.Frag} {mg : Str → Option Value} {base : Heap} {k : Nat} {f fr C fI : Addr} {fd fdr : FuncData} {qual : Str} {st : Stmt} {t : Str} {Fs : FSem}
def sTold (Fs : FSem) : FSem := fun args => match args with
  | [.va .no _] => match Fs args with
    | some (.ret d [s]) => some (.ret (.tup [.str "told", d]) [s])
    | some (.exc 0 [.int n]) => if n = 1 then some (.ret (.tup [.str "line", .int n]) [.un]) else none
    | _ => none
  | _ => none
def tTold (t : Str) (K : PySem.W.Frag) (C : Addr) (Fs : FSem) : TS := fun D σ H =>
  tRet (tTup (tCons (tC (.str "told")) (tCons (tCallS (spF (xsBad t C) K 1 Fs) (WE (wAs K (.ref C) 1 (fun a cls d => tRet (tTup (tCons (tC (.str "line")) (tCons (tLine C a cls d (tVar 1)) tNil)))) (fun _ _ _ _ => False) D)) (tCons (tVar 0) tNil)) tNil))) D σ H
theorem pure_told (T : PySem.Bad.Txt P K mg C fI t) (ht : (t ++ (toString (1 : Int) : Str)).length ≤ sizeLine) (vs : List V) (H : Hp) (Q : VK) (E : XK) (h : spF noX K 1 (sTold Fs) vs H Q E) :
    tTold t K C Fs { nx := fun _ H' => Q .non H', rt := Q } (L2.start ["text", "wrong"] vs) H := by
  obtain ⟨G, args, fl, r, hl, S, hG, e, h⟩ := h
  obtain ⟨v, rfl⟩ : ∃ v, vs = [v] := by
    match vs, hl with
    | [v], _ => exact ⟨v, rfl⟩
  unfold sTold at e
  split at e
  · rename_i d0
    obtain ⟨o, r', f1, g, e1, e2, ⟨v', ev, eg, rf0⟩, hnil⟩ := S.rep
    obtain ⟨rfl, rfl⟩ := hnil
    subst eg
    subst e2
    have big2 : ∀ a b : V, [a, b].length ≤ sizeLine := fun a b => by rw [sizeLine_eq]; exact (by decide : 2 ≤ 16777216)
    split at e
    · rename_i d s hF
      cases e
      refine ⟨v, rfl, G, _, _, _, hl, S, hG, hF, fun v' H' fl' S' E' rf' => ⟨big2 _ _, fun p hp => ?_⟩⟩
      exact h _ _ fl' (S'.ext (Ext.new hp)) (E'.trans (Ev.ofExt (Ext.new hp))) ⟨p, _, rfl, upd_same, RFs.ext (Ext.new hp) ⟨_, _, rfl, rfl, _, _, rfl, rf', rfl⟩⟩
    · rename_i n hF
      split at e
      · rename_i hn1
        subst hn1
        cases e
        refine ⟨v, rfl, G, _, _, _, hl, S, hG, hF, fun H' hk hT => ⟨rfl, 1, rfl, ht, by decide, fun dd hd => ?_⟩⟩
        refine ⟨true, T.te, fun _ a ha => ?_, fun q => Bool.noConfusion q⟩
        refine ⟨_, rfl, rfl, rfl, dd, _, rfl, upd_same, big2 _ _, fun p hp => ?_⟩
        have hk' : ∀ a, H a ≠ none → H' a ≠ none := fun a ha => by
          by_cases hb : Tbs.tb a
          · obtain ⟨ps, e, _⟩ := hT a hb
            rw [e]
            exact fun z => by cases z
          · cases e : H a with
            | none => exact absurd e ha
            | some o =>
              rw [hk a o e (by simp) hb]
              exact fun z => by cases z
        have n1 : ∀ a, H' a ≠ none → a ≠ dd := fun a ha z => ha (by rw [z]; exact hd)
        have n2 : ∀ a, H' a ≠ none → a ≠ p := fun a ha z => by
          rw [z] at ha
          have : upd H' dd (HO.xd [(("line" : Str), .int 1)]) p = H' p := upd_ne (fun z => n1 p ha z)
          exact ha (this ▸ hp)
        have up : ∀ (a : Addr) (xs : List V), H' a ≠ none → upd (upd H' dd (HO.xd [(("line" : Str), .int 1)])) p (.tup xs) a = H' a := fun a xs ha => (upd_ne (n2 a ha)).trans (upd_ne (n1 a ha))
        have E2 : ∀ xs, Ev Tbs.tb H ([[]] : List (List Addr)).flatten (upd (upd H' dd (HO.xd [(("line" : Str), .int 1)])) p (.tup xs)) ([[]] : List (List Addr)).flatten := fun xs => by
          refine ⟨fun a o hao hf ht => ?_, fun a ha => .inl ha, fun a ha => ?_⟩
          · have z := hk a o hao hf ht
            rw [up a xs (by rw [z]; exact fun z => by cases z)]
            exact z
          · cases e : H a with
            | none => rfl
            | some o =>
              have z := hk' a (by rw [e]; exact fun z => by cases z)
              rw [up a xs z] at ha
              exact absurd ha z
        refine h (.ref p) _ [[]] ⟨⟨some v, [], [], [], rfl, rfl, rfl, rfl, rfl⟩, by simp, fun a ha => ?_, by simp, fun a ha => ?_, S.ev.trans (E2 _), fun i F d hi => ?_⟩ (E2 _) ⟨p, _, rfl, upd_same, ⟨_, _, rfl, rfl, _, _, rfl, rfl, rfl⟩⟩
        · have z := hk' a (S.exd a ha)
          rw [up a _ z]
          exact z
        · obtain ⟨ps, e, q⟩ := hT a ha
          exact ⟨ps, (up a _ (by rw [e]; exact fun z => by cases z)).trans e, q⟩
        · match i, hi with
          | 0, hi => cases hi
          | i + 1, hi => cases hi
      · cases e
    · cases e
  · cases e
end
end DL

set_option Elab.async false
set_option linter.all false
set_option maxRecDepth 100000
set_option maxHeartbeats 2000000
/-! all(<sign> in <a text of the module> for <sign> in e), e a text: the element reads a name of the module. -/
namespace DL
open PySem PySem.Spec PyProof.Rows L2 GxR
/-- the element tests one sign; the module's names are at hand -/
def EltM (p : Program) (w : World) (mg : Str → Option Value) (sc : Scope) (x : Str) (elt : Expr) (pb : Nat → Bool) : Prop :=
  ∀ (env : PySem.Env) (A : Around) (E : Value → Shared → Prop) (c : Nat) (t : Tok) (s : Shared) (m : Str → Option Value), env.scope = sc → env.globals = mainGlobals → s.heap.Ns mainGlobals mg → s.heap.Ns env.locals m →
    m x = some (.str ⟨#[c]⟩ t) → wpAny (model p w) A (eval elt env) (fun y s' => y = .bool (pb c) ∧ Keeps s s') E s
theorem elt_in {p : Program} {w : World} {mg : Str → Option Value} {sc : Scope} {x g S : Str} {tk : Tok} {p1 p2 p3 : Pos} (hk : sc.kind = .function) (hx : sc.names.lookup x = some .local) (hg : sc.names.lookup g = some .globalImplicit) (hm : mg g = some (.str S tk))
    (d1 : (x == ("__debug__" : Str)) = false := by decide) (d2 : (g == ("__debug__" : Str)) = false := by decide) : EltM p w mg sc x (.Compare (.Name x p1) [.In] [.Name g p2] p3) (fun c => decide (c ∈ S.cps.toList)) := by
  intro env A E c t s m hs hgl G hn hmx
  subst hs
  refine wpAny_Compare1 (wpAny_Name (wpAny_loadName_local hk hx hn hmx ?_) d1)
  refine Calls.Name_function_global hk hg (Calls.loadGlobal_global (by rw [hgl]; exact G) hm (PyProof.Rows.in_str ?_)) d2
  exact ⟨by rw [PySem.StrLaws.found_one S c], s.heap, s.toks, rfl, fun _ _ e => e⟩
section
variable {X : Cx} {pins : List (Addr × Obj)} {σ : L2.St} {s : Shared} {c P : Addr} {elt iter : Expr} {x : Str} {px gpos : Pos} {sc : Scope} {pb : Nat → Bool} {H1 : Hp}
/-- the generator's code object stands (heap hc): the generator over the signs of a is made, and may be walked -/
theorem gen_made (TB : TabB X.base X.mg c P) (hel : EltM X.prog X.w X.mg sc x elt pb) {a : Str} {ps ps' : Array Value} {s1 : Shared} {o : Obj} {St0 : Nat → Heap → Prop} {Q' : Value → Shared → Prop} (hh : X.A.handled = none) (I1 : Inv X pins σ H1 s1) (hP : H1 P = some (.tbl ps))
    (W : ∀ A' : Around, A'.handled = none → Walks X.prog X.w A' s1.heap.objs.size [s1.heap.objs.size] [s1.heap.objs.size] a.cps.size (SignAt a) St0) (w0 : St0 0 (s1.heap.push o)) {code : Value} {hc : Heap} {tk : Nat}
    (hx : Heap.ExtBut P (s1.heap.push o) hc) (hsz : (s1.heap.push o).objs.size ≤ hc.objs.size) (hcP : hc.get? P = some { cls := .none, data := .fields ps' }) (hm : ∃ more, ps' = ps ++ more) (h3 : TriplesOk ps'.toList)
    (hQ : ∀ g s5, Ready X pins σ H1 P a pb g s5 → Q' (.ref g) s5) :
    wpAny (model X.prog X.w) X.A (builtinsFor X.env.globals X.env.builtins) (fun bi s4 =>
      ∃ Ia fp wr n₀ Pf Sf pz F, Value.ref s1.heap.objs.size = .ref Ia ∧ (∀ A' : Around, A'.handled = none → Walks X.prog X.w A' Ia fp wr n₀ Pf Sf) ∧ Sf 0 s4.heap ∧ (∀ b ∈ fp, b < s4.heap.objs.size) ∧ s4.heap.NoLimit ∧ cStatics ∉ wr ∧
        (∀ hr : Heap, (∀ b u, s4.heap.get? b = some u → hr.get? b = some u) → QuietGen X.prog X.w (genEnv sc (cloFrom X.env.cells sc.names []) s4.heap.objs.size code bi X.env) x [] elt (List.range s4.heap.objs.size) wr Pf pz F hr) ∧
        (∀ g h5 t5 gs, gs.bare = true → s4.heap.objs.size < g → h5.objs.size = g + 1 → (∀ b u, s4.heap.get? b = some u → h5.get? b = some u) →
          WalksS X.prog X.w X.A.in4 g (g :: s4.heap.objs.size :: List.range s4.heap.objs.size) (s4.heap.objs.size :: wr) (GenOnlyQ s4.gens.size) (passing pz n₀ 0).length
            (fun j y => ∃ i, (passing pz n₀ 0)[j]? = some i ∧ F i y) (GenAt X.prog X.w X.A.in4 g s4.gens.size s4.heap.objs.size (List.range s4.heap.objs.size) wr pz n₀ F) →
          GenAt X.prog X.w X.A.in4 g s4.gens.size s4.heap.objs.size (List.range s4.heap.objs.size) wr pz n₀ F 0 { s4 with gens := s4.gens.push gs, toks := t5, heap := h5 } →
          Q' (.ref g) { s4 with gens := s4.gens.push gs, toks := t5, heap := h5 })) X.xe { s1 with heap := hc, toks := tk } := by
  obtain ⟨more, rfl⟩ := hm
  obtain ⟨bm, ob, b1, b2, b3, b4, b5, b6, b7, b8⟩ := TB.bm
  have hPs : s1.heap.get? P = some { cls := .none, data := .fields ps } := I1.hok P _ hP
  have hPlt := Heap.lt_size hPs
  have hst : cStatics ≠ P ∧ cStatics < s1.heap.objs.size := by
    obtain ⟨_, hns, _⟩ := I1.nolimit
    refine ⟨fun z => ?_, hns.lt⟩
    obtain ⟨u, _, _, hu, hd, _⟩ := hns
    rw [z, hPs] at hu
    cases hu
    cases hd
  have szP : (s1.heap.push o).objs.size = s1.heap.objs.size + 1 := Heap.size_push ..
  have szC : s1.heap.objs.size < hc.objs.size := by
    rw [szP] at hsz
    exact hsz
  have kept : ∀ b u, b ≠ P → s1.heap.get? b = some u → hc.get? b = some u := fun b u hb e => hx b u hb (Heap.get?_push_of_some _ e)
  have gl1 : s1.heap.Ns mainGlobals X.mg := I1.mod.glob.keeps I1.bk
  have glc : hc.Ns mainGlobals X.mg := (gl1.push o).extBut hx TB.gP
  refine wpAny_builtinsFor (m := X.mg) (by rw [I1.ok.glob]; exact glc) b1 b2 (kept _ _ b4 (I1.bk _ _ b5)) b6 b7 b8 ?_
  refine ⟨s1.heap.objs.size, [s1.heap.objs.size], [s1.heap.objs.size], a.cps.size, SignAt a, St0, (fun _ => true), (fun i y => ∃ cc, a.cps[i]? = some cc ∧ y = .bool (pb cc)), rfl, W, ?_, ?_, (I1.nolimit.push o).extBut hx hst.1, ?_, fun hr hkr => ⟨?_, ?_⟩, ?_⟩
  · refine (W X.A hh).frame _ _ _ w0 fun b hb u e => hx b u (fun z => ?_) e
    have e1 : b = s1.heap.objs.size := by simpa using hb
    exact absurd hPlt (by rw [← z, e1]; exact Nat.lt_irrefl _)
  · intro b hb
    have e1 : b = s1.heap.objs.size := by simpa using hb
    rw [e1]
    exact szC
  · intro z
    have : cStatics = s1.heap.objs.size := by simpa using z
    exact absurd hst.2 (by rw [this]; exact Nat.lt_irrefl _)
  · intro A' E' i v s2 m2 _ _ _ _ _
    simp only [List.forIn_nil]
    exact wpAny_pure ⟨rfl, s2.heap, s2.toks, rfl, fun _ _ e => e⟩
  · intro A' E' i v s2 m2 _ hv _ hn hmx hk
    obtain ⟨cc, u, hcc, rfl⟩ := hv
    have g2 : s2.heap.Ns mainGlobals X.mg := glc.at fun ob hob => hk mainGlobals (List.mem_range.mpr (Heap.lt_size hob)) (fun z => by
      have : mainGlobals = s1.heap.objs.size := by simpa using z
      exact absurd gl1.lt (by rw [this]; exact Nat.lt_irrefl _)) _ (hkr _ _ hob)
    exact wpAny_mono (hel _ A' E' cc u s2 m2 rfl I1.ok.glob g2 hn hmx) (fun y s3 r => ⟨⟨cc, hcc, r.1⟩, r.2⟩) fun _ _ e => e
  · intro g h5 t5 gs hgb _ _ hk5 W5 hat
    simp only [GxR.passing_true, List.length_range] at W5
    refine hQ g _ ⟨_, _, _, _, _, W5.in4_1, hat, fun j y sj Qj Ej hy hq => ?_, fun s' hmv => ?_⟩
    · obtain ⟨i, hij, cc, hcc, rfl⟩ := hy
      obtain ⟨hj, ej⟩ := List.getElem?_eq_some_iff.mp hij
      rw [List.getElem_range] at ej
      subst ej
      have q : Qj (trF pb a.cps.toList j) sj := hq
      rw [trF_some (b := cc) (by rw [Array.getElem?_toList]; exact hcc)] at q
      exact wpAny_truthy_bool q
    · have out : ∀ b u, s1.heap.get? b = some u → b ∉ hc.objs.size :: [s1.heap.objs.size] := fun b u e hb => by
        have l := Heap.lt_size e
        have : b = hc.objs.size ∨ b = s1.heap.objs.size := by simpa using hb
        rcases this with z | z
        · rw [z] at l
          exact absurd (Nat.lt_trans l szC) (Nat.lt_irrefl _)
        · rw [z] at l
          exact Nat.lt_irrefl _ l
      have J := inv_tab (more := more) (h' := s'.heap) (g' := s'.gens) (d' := s'.drawn) (t' := s'.toks) I1 hP (fun b u hb e => hmv.heap b u (out b u e) (hk5 b u (kept b u hb e))) (hmv.heap P _ (out P _ hPs) (hk5 P _ hcP)) (AllBare.movedS (I1.bare.push hgb) hmv)
      rw [sh_eta s1 s' hmv.os] at J
      exact ⟨upd H1 P (.tbl (ps ++ more)), ⟨⟨ps ++ more, upd_same, h3⟩, fun b hb => upd_ne hb⟩, J⟩
theorem pe_allM {p pos : Pos} {te : TE} {k : Nat} (hr : Room k X.A) (hg : Gl X "all") (hm : X.mg "all" = none) (TB : TabB X.base X.mg c P) (hcode : X.env.code = .ref c) (S : GenS X.env sc x) (hi : PE X iter te) (hel : EltM X.prog X.w X.mg sc x elt pb)
    (hs : ∀ v, genFold iter X.env v = pure v) (he : starEach [.GeneratorExp elt [⟨.Name x px, iter, [], 0⟩] sc gpos] X.env = (false, eval (.GeneratorExp elt [⟨.Name x px, iter, [], 0⟩] sc gpos) X.env) :: starEach [] X.env := by rfl) :
    PE X (.Call (.Name "all" p) [.GeneratorExp elt [⟨.Name x px, iter, [], 0⟩] sc gpos] [] pos) (tAllS P pb te) := by
  refine ⟨fun pins s σ H Q I h => wpAny_Call_Name_kw (ld_blt I hg hm (show bootBuiltins "all" = some (.builtin "all") by decide +kernel) (PyProof.Rows.callWith_builtin1 ?_ he (by rfl)))⟩
  rw [he]
  show wpAny _ _ (spliced ((false, eval (.GeneratorExp elt [⟨.Name x px, iter, [], 0⟩] sc gpos) X.env) :: backTo pos (starEach [] X.env))) _ _ s
  refine Calls.spliced_cons (wpAny_GeneratorExp_walksQ hr.hd S.co (closure_ok S.free) S.cell S.dot S.loc S.kind (by have := hr.dp; omega) ?_ hs)
  refine thn (hi.run pins s σ H _ I h) fun xv s1 q => ?_
  obtain ⟨v, H1, I1, rv, a, rfl, ⟨ps, hP, h3⟩, q⟩ := q
  obtain ⟨t, rfl⟩ := _root_.id rv
  have fin : ∀ g s5, Ready X pins σ H1 P a pb g s5 → wpAny (model X.prog X.w) X.A (spliced (backTo pos (starEach [] X.env))) (fun vs s' => wpAny (model X.prog X.w) X.A (call (.builtin "all") (.ref g :: vs)) (EP X pins σ Q) X.xe s') X.xe s5 := by
    intro g s5 ⟨fp, wr, G, F, St, W, w0, tr, hI⟩
    refine Calls.spliced_nil (call_all_walkS (W.self 0 _ _ _ w0 ⟨g, fp, wr, G, _, F, St, _, rfl, W, w0, tr, fun s' hmv => ?_⟩))
    obtain ⟨H2, hT, J⟩ := hI s' hmv
    refine ⟨.bl _, H2, J, rfl, ?_⟩
    rw [all_signs a pb]
    exact q H2 hT
  refine wpAny_pyIter_str fun o St0 W w0 => ⟨I1.nolimit.push o, ?_⟩
  have hPs : s1.heap.get? P = some { cls := .none, data := .fields ps } := I1.hok P _ hP
  have hPo : (s1.heap.push o).get? P = some { cls := .none, data := .fields ps } := Heap.get?_push_of_some _ hPs
  have cd : PySem.W.CodeHd (s1.heap.push o) c P := TB.code.keeps fun b u e => Heap.get?_push_of_some _ (I1.bk b u e)
  rcases hf : codeAmong gpos ps.toList with _ | cv
  · refine wpAny_genexprCodeX hcode (cd.code hPo h3) (cd.tab hPo) hf fun c' hc tk hx hge hlt hco _ htab _ => ?_
    obtain ⟨_, _, _, _, _, _, _, _, _, _, _, _, _, _, _, _, _, _, _, h3', _⟩ := hco
    exact gen_made (Q' := fun v s5 => wpAny (model X.prog X.w) X.A (spliced (backTo pos (starEach [] X.env))) (fun vs s' => wpAny (model X.prog X.w) X.A (call (.builtin "all") (v :: vs)) (EP X pins σ Q) X.xe s') X.xe s5) TB hel hr.hd I1 hP W w0 hx (Nat.le_trans hge (Nat.le_of_lt hlt)) htab.2 ⟨_, rfl⟩ h3' fin
  · refine wpAny_genexprCode_hit hcode (cd.code hPo h3) hf ?_
    exact gen_made (Q' := fun v s5 => wpAny (model X.prog X.w) X.A (spliced (backTo pos (starEach [] X.env))) (fun vs s' => wpAny (model X.prog X.w) X.A (call (.builtin "all") (v :: vs)) (EP X pins σ Q) X.xe s') X.xe s5) TB hel hr.hd I1 hP W w0 (Heap.ExtBut.refl _ _) (Nat.le_refl _) hPo ⟨#[], by simp⟩ h3 fin
end
section
variable [Tbs] {K : PySem.W.Frag} {G : Gh} {σ : L2.St} {H H' : Hp} {env : Env} {f : List (List Addr)} {P : Addr}
theorem Ev.tab (h : Tabbed P H H') (hT : Tbs.tb P) {l : List Addr} : Ev Tbs.tb H l H' l := by
  refine ⟨fun a o e _ ht => ?_, fun a ha => .inl ha, fun a e => ?_⟩
  · rw [h.2 a fun z => ht (z ▸ hT)]
    exact e
  · by_cases z : a = P
    · obtain ⟨ps, q, _⟩ := h.1
      rw [z, q] at e
      cases e
    · rw [← h.2 a z]
      exact e
theorem St.tab (S : St K G σ H env f) (h : Tabbed P H H') (hT : Tbs.tb P) : St K G σ H' env f := by
  have E := Ev.tab h hT (l := f.flatten)
  refine ⟨RE.stay (S.stays E) (S.fstays E) (fun a ha => h.2 a fun z => S.ntb a ha (z ▸ hT)) S.rep, S.nd, fun a ha z => S.exd a ha (E.dom a z), S.exf, fun a ha => ?_, S.ev.trans E, S.io⟩
  by_cases z : a = P
  · rw [z]
    exact h.1
  · obtain ⟨ps, q, r⟩ := S.tbl a ha
    exact ⟨ps, (h.2 a z).trans q, r⟩
/-- all(test for sign in e) -/
def vAllS (pb : Nat → Bool) (p : EP1) : EV1 := fun env => match p env with
  | some (.str a) => some (.bl (a.cps.toList.all pb), env)
  | _ => none
theorem v_allM {X : Cx} {c : Addr} {elt iter : Expr} {x : Str} {px gpos p pos : Pos} {sc : Scope} {pb : Nat → Bool} {ip : EP1} {b : Bool} {k : Nat} (hT : Tbs.tb P) (hr : Room k X.A) (hg : Gl X "all") (hm : X.mg "all" = none) (TB : TabB X.base X.mg c P) (hcode : X.env.code = .ref c) (S : GenS X.env sc x) (hi : PP b X iter ip) (hel : EltM X.prog X.w X.mg sc x elt pb)
    (hs : ∀ v, genFold iter X.env v = pure v) (he : starEach [.GeneratorExp elt [⟨.Name x px, iter, [], 0⟩] sc gpos] X.env = (false, eval (.GeneratorExp elt [⟨.Name x px, iter, [], 0⟩] sc gpos) X.env) :: starEach [] X.env := by rfl) :
    PV X (.Call (.Name "all" p) [.GeneratorExp elt [⟨.Name x px, iter, [], 0⟩] sc gpos] [] pos) (vAllS pb ip) := PE.wk (pe_allM hr hg hm TB hcode S hi hel hs he) fun σ H Q t => by
  obtain ⟨G, env, fl, d, env', S, e, k⟩ := t
  unfold vAllS at e
  split at e
  · rename_i a ea
    cases e
    refine ⟨G, env, fl, .str a, S, ea, fun v H1 e1 r1 => ?_⟩
    obtain rfl : v = .str a := r1
    have S1 := S.ext e1
    exact ⟨a, rfl, S1.tbl P hT, fun H2 h2 => k _ H2 fl (S1.tab h2 hT) ((Ev.ofExt e1).trans (Ev.tab h2 hT)) rfl⟩
  · cases e
end
theorem genS_plain {env : PySem.Env} {sc : Scope} {x : Str} (k : sc.kind = .function) (co : sc.isCoroutine = false) (h : sc.names.all (fun y => y.2 != .cell && y.2 != .free) = true) (d : sc.names.lookup (".0" : Str) = some NameKind.local) (l : sc.names.lookup x = some .local) : GenS env sc x := by
  have h' : ∀ y ∈ sc.names, y.2 ≠ .cell ∧ y.2 ≠ .free := fun y hy => by
    have := List.all_eq_true.mp h y hy
    simpa using this
  exact ⟨k, co, fun y hy => (h' y hy).1, d, l, fun y hy z => absurd z (h' y hy).2⟩
/-- a def of the text whose code object lies at cc -/
structure FunC (K : PySem.W.Frag) (x qual : Str) (st : Stmt) (f : Addr) (fd : FuncData) (cc : Addr) : Prop where
  ex : ∃ (oc : Value) (od : Option Addr) (kV doc pm : Value) (an : Option Addr) (ct : Value) (osl : Array (Option Value)),
    fd = PySem.W.fnOf x qual (defArgs st) (defBody st) (defScope st) .none kV doc pm an (.ref cc) ct ∧ K.lookup f = some ⟨oc, od, .func fd, osl⟩ ∧ PySem.W.codeIn K (.ref cc) qual = true
theorem fn_semC [Tbs] {P : Program} {w : World} {K : PySem.W.Frag} {mg : Str → Option Value} {base : Heap} {x qual : Str} {st : Stmt} {f cc : Addr} {fd : FuncData} {N ps : List Str} {k : Nat} {body : ES} (F : FunC K x qual st f fd cc) (S : FnScope N ps (defScope st))
    (hb : ∀ (A : Around) (outer : List PySem.Env) (s : Shared) (H : Hp) (E : XK) (W : WXX), Room k (A.deeper (envOfC qual (defScope st) s.heap.objs.size f (.ref cc))) → PSsv W (cxOf CX0 P w K mg base N qual (defScope st) f (.ref cc) A outer s H E).nox (defBody st) body) :
    FnOk P w K mg base CX0 (k + 1) f fd ps (spF noX K ps.length (fSem ps.length N.length body)) := by
  obtain ⟨oc, od, kV, doc, pm, an, ct, osl, rfl, lk, hcd⟩ := F.ex
  exact fn_of lk hcd S (fun vs H Q E h => h.len) fun A outer s H vs Q E hr hsp => ⟨_, (hb A outer s H E _ hr).nox, body_of (scLe S) hsp fun _ _ _ q => q⟩
end DL

set_option Elab.async false
set_option linter.all false
set_option maxRecDepth 100000
set_option maxHeartbeats 2000000
namespace T73
open PySem L2 DL
def SIGNS : Str := "abcdefghijklmnopqrstuvwxyzABCDEFGHIJKLMNOPQRSTUVWXYZ0123456789"
def nm_is_name : List Str := ["value"]
def b_is_name : ES :=
  sSeq (sIf (qor (qnot (tst (lift (eisi "str" (evar 0))))) (qnot (tst (lift (e3c oLe oLe (cst (.int 1)) (ecall gLen (es1 (evar 0) (es0))) (cst (.int 8)))))))
  (sRet (lift (cst (.bl false))))
  (sNil))
  (sRet (vAllS (fun c => decide (c ∈ SIGNS.cps.toList)) (evar 0)))
def s_is_name : FSem := fSem 1 1 b_is_name
def nm_show_tree : List Str := ["tree", "part"]
def b_show_tree (s_show_tree : FSem) : ES :=
  sSeq (sIf (tst (lift (e2 oEq (ecall gLen (es1 (evar 0) (es0))) (cst (.int 1)))))
  (sRet (lift (e2 oIx (evar 0) (cst (.int 0)))))
  (sNil))
  (sRet (v2 oAdd (v2 oAdd (lift (e2 oAdd (e2 oIx (evar 0) (cst (.int 0))) (cst (.str (PySem.Str.ofString "("))))) (v2 gJoin (lift (cst (.str (PySem.Str.ofString ",")))) (vlst (nlc [1] ((fun env => itT ((lift (esl (evar 0) (osome (cst (.int 1))) (onone))) env))) (tgN 1) cYes (vcallF (lenF 1 s_show_tree) (vs1 (lift (evar 1)) (vs0))))))) (lift (cst (.str (PySem.Str.ofString ")"))))))
def s_show_tree : Nat → FSem
  | 0 => fun _ => none
  | n + 1 => fSem 1 2 (b_show_tree (s_show_tree n))
def nm_pieces_of : List Str := ["text", "found", "name", "sign"]
def b_pieces_of : ES :=
  sSeq (sSetN 1 (nlst (vs0)))
  (sSeq (sSet 2 (lift (cst (.str (PySem.Str.ofString "")))))
  (sSeq (sFor ((fun env => itS ((lift (evar 0)) env))) (tgN 3)
  (sIf (tst (lift (e2 oIn (evar 3) (cst (.str (PySem.Str.ofString "(),"))))))
  (sSeq (sIf (tst (lift (e2 oNe (evar 2) (cst (.str (PySem.Str.ofString ""))))))
  (sApp 1 (lift (evar 2)))
  (sNil))
  (sSeq (sApp 1 (lift (evar 3)))
  (sSet 2 (lift (cst (.str (PySem.Str.ofString "")))))))
  (sAug 2 iAdd (lift (evar 3)))))
  (sSeq (sIf (tst (lift (e2 oNe (evar 2) (cst (.str (PySem.Str.ofString ""))))))
  (sApp 1 (lift (evar 2)))
  (sNil))
  (sRet (vvar 1)))))
def s_pieces_of : FSem := fSem 1 4 b_pieces_of
def nm_read_tree : List Str := ["text", "open_rows", "wants_name", "piece", "parts"]
def b_read_tree : ES :=
  sSeq (sSetX 1 (xlst (xs1 (xnew (nlst (vs0))) (xs0))))
  (sSeq (sSet 2 (lift (cst (.bl true))))
  (sSeq (sFor ((fun env => itL ((vcallF (lenF 1 s_pieces_of) (vs1 (lift (evar 0)) (vs0))) env))) (tgN 3)
  (sIf (tru (evar 2))
  (sSeq (sIf (qor (qnot (tst (vcallF (lenF 1 s_is_name) (vs1 (lift (evar 3)) (vs0))))) (qand (tst (lift (e2 oEq (ecall gLen (es1 (bvar 1) (es0))) (cst (.int 1))))) (tru (e2 oIx (bvar 1) (cst (.int 0))))))
  (sRaise 0 (vs1 (lift (cst (.int 1))) (vs0)))
  (sNil))
  (sSeq (sApp2 1 (cst (.int (-1))) (etup (es1 (evar 3) (es0))))
  (sSet 2 (lift (cst (.bl false))))))
  (sIf (qand (tst (lift (e2 oEq (evar 3) (cst (.str (PySem.Str.ofString "(")))))) (tst (lift (e2 oEq (ecall gLen (es1 (e2 oIx (e2 oIx (bvar 1) (cst (.int (-1)))) (cst (.int (-1)))) (es0))) (cst (.int 1))))))
  (sSeq (sAppN 1 (nlst (vs0)))
  (sSet 2 (lift (cst (.bl true)))))
  (sIf (qand (tst (lift (e2 oEq (evar 3) (cst (.str (PySem.Str.ofString ",")))))) (tst (lift (e2 oGt (ecall gLen (es1 (bvar 1) (es0))) (cst (.int 1))))))
  (sSet 2 (lift (cst (.bl true))))
  (sIf (qand (tst (lift (e2 oEq (evar 3) (cst (.str (PySem.Str.ofString ")")))))) (tst (lift (e2 oGt (ecall gLen (es1 (bvar 1) (es0))) (cst (.int 1))))))
  (sSeq (sSet 4 (vPop 1))
  (sSetIx2 1 (cst (.int (-1))) (cst (.int (-1))) (lift (e2 oAdd (eIxO2 1 (cst (.int (-1))) (cst (.int (-1)))) (ecall gTuple (es1 (evar 4) (es0)))))))
  (sRaise 0 (vs1 (lift (cst (.int 1))) (vs0))))))))
  (sSeq (sIf (qor (tru (evar 2)) (tst (lift (e2 oGt (ecall gLen (es1 (bvar 1) (es0))) (cst (.int 1))))))
  (sRaise 0 (vs1 (lift (cst (.int 1))) (vs0)))
  (sNil))
  (sRet (lift (eIxO2 1 (cst (.int 0)) (cst (.int 0))))))))
def s_read_tree : FSem := fSem 1 5 b_read_tree
def nm__law_bag : List Str := ["script", "cells", "cell", "great"]
def b__law_bag : ES :=
  sSeq (sSet 1 (vlst (ncat (vlst (nlc [2] (itSc 0) (tgN 2) cYes (lift (ecall gAbs (es1 (ecall gInt (es1 (evar 2) (es0))) (es0)))))) (vlst (nlst (vs1 (lift (cst (.int 7))) (vs0)))))))
  (sSeq (sSetN 3 (nlst (vs0)))
  (sSeq (sIf (tst (lift (e2 oEq (e2 oMod (ecall gInt (es1 (e2 oIx (evar 1) (cst (.int 0))) (es0))) (cst (.int 2))) (cst (.int 0)))))
  (sSeq (sSetN 3 (nlc [2] ((fun env => itL ((lift (evar 1)) env))) (tgN 2) (tst (lift (e2 oGe (evar 2) (e2 oPow (cst (.int 10)) (cst (.int 18)))))) (lift (e2 oDiv (evar 2) (cst (.int 2))))))
  (sRev 3))
  (sNil))
  (sRetX (xlst (xs1 (xval (lift (cst (.int 0)))) (xs1 (xval (lift (cst (.int 0)))) (xs1 (xvar 3) (xs1 (xval (vlst (nlc [2] ((fun env => itL ((lift (evar 1)) env))) (tgN 2) cYes (lift (e2 oMod (ecall gInt (es1 (evar 2) (es0))) (cst (.int 2147483647))))))) (xs0)))))))))
def s__law_bag : XSem := fSemX 1 4 b__law_bag
def nm__law_draw : List Str := ["bag", "many", "digit", "cell", "mixed"]
def b__law_draw : ES :=
  sSeq (sSetIx 0 (cst (.int 1)) (lift (e2 oAdd (eIxO 0 (cst (.int 1))) (cst (.int 1)))))
  (sSeq (sIf (qand (tst (lift (e2 oEq (e2 oIx (bvar 0) (cst (.int 0))) (cst (.int 0))))) (tst (lift (e2 oGt (ecall gLen (es1 (e2 oIx (bvar 0) (cst (.int 2))) (es0))) (cst (.int 0))))))
  (sSetIx 0 (cst (.int 0)) (vPop2 0 (cst (.int 2))))
  (sNil))
  (sSeq (sIf (tst (lift (e2 oGt (e2 oIx (bvar 0) (cst (.int 0))) (cst (.int 0)))))
  (sSeq (sSet 2 (lift (e2 oMod (ecall gInt (es1 (eIxO 0 (cst (.int 0))) (es0))) (evar 1))))
  (sSeq (sSetIx 0 (cst (.int 0)) (lift (e2 oDiv (eIxO 0 (cst (.int 0))) (evar 1))))
  (sRet (lift (evar 2)))))
  (sNil))
  (sSeq (sSet 3 (lift (e2 oIx (eIxO 0 (cst (.int 3))) (e2 oMod (ecall gInt (es1 (eIxO 0 (cst (.int 1))) (es0))) (ecall gLen (es1 (eIxO 0 (cst (.int 3))) (es0)))))))
  (sSeq (sSet 4 (lift (e2 oMod (ecall gInt (es1 (e2 oAdd (e2 oAdd (e2 oMul (evar 3) (cst (.int 48271))) (e2 oMul (eIxO 0 (cst (.int 1))) (cst (.int 69621)))) (cst (.int 1))) (es0))) (cst (.int 2147483647)))))
  (sRet (lift (e2 oMod (e2 oDiv (e2 oMod (ecall gInt (es1 (e2 oAdd (e2 oAdd (e2 oMul (evar 4) (evar 4)) (e2 oMul (evar 4) (cst (.int 16807)))) (e2 oMul (eIxO 0 (cst (.int 1))) (cst (.int 40014)))) (es0))) (cst (.int 2147483629))) (cst (.int 32))) (evar 1))))))))
def s__law_draw : FSem := fSem 2 5 b__law_draw
def nm__law_pick : List Str := ["bag", "some"]
def b__law_pick : ES :=
  sRet (v2 oIx (lift (evar 1)) (vcallIO (lenF 2 s__law_draw) 0 (vs1 (lift (ecall gLen (es1 (evar 1) (es0)))) (vs0))))
def s__law_pick : FSem := fSem 2 2 b__law_pick
def nm__law_same : List Str := ["found", "due", "k"]
def b__law_same (s__law_same : FSem) : ES :=
  sSeq (sIf (tst (lift (e2 oIsN (evar 1) (cst .non))))
  (sRet (lift (e2 oIsN (evar 0) (cst .non))))
  (sNil))
  (sSeq (sIf (qor (tst (lift (eisi "bool" (evar 1)))) (tst (lift (eisi "bool" (evar 0)))))
  (sRet (vand (lift (eisi "bool" (evar 1))) (vand (lift (eisi "bool" (evar 0))) (lift (e2 oEq (evar 0) (evar 1))))))
  (sNil))
  (sSeq (sIf (tst (lift (eisi "int" (evar 1))))
  (sRet (vand (lift (eisi "int" (evar 0))) (lift (e2 oEq (evar 0) (evar 1)))))
  (sNil))
  (sSeq (sIf (tst (lift (eisi "str" (evar 1))))
  (sRet (vand (lift (eisi "str" (evar 0))) (lift (e2 oEq (evar 0) (evar 1)))))
  (sNil))
  (sSeq (sIf (qor (qnot (tst (lift (eisi "tuple" (evar 1))))) (qor (qnot (tst (lift (eisi "tuple" (evar 0))))) (tst (lift (e2 oNe (ecall gLen (es1 (evar 0) (es0))) (ecall gLen (es1 (evar 1) (es0))))))))
  (sRet (lift (cst (.bl false))))
  (sNil))
  (sSeq (sFor ((fun env => itR1 ((vs1 (lift (ecall gLen (es1 (evar 1) (es0)))) (vs0)) env))) (tgN 2)
  (sIf (qnot (tst (vcallF (lenF 2 s__law_same) (vs1 (lift (e2 oIx (evar 0) (evar 2))) (vs1 (lift (e2 oIx (evar 1) (evar 2))) (vs0))))))
  (sRet (lift (cst (.bl false))))
  (sNil)))
  (sRet (lift (cst (.bl true)))))))))
def s__law_same : Nat → FSem
  | 0 => fun _ => none
  | n + 1 => fSem 2 3 (b__law_same (s__law_same n))
def nm__law_names : List Str := ["bag", "many", "size", "signs", "made", "k", "name", "j"]
def b__law_names : ES :=
  sSeq (sSet 3 (lift (cst (.str (PySem.Str.ofString "abcdefghijklmnopqrstuvwxyz0123456789")))))
  (sSeq (sSetN 4 (nlst (vs0)))
  (sSeq (sFor ((fun env => itR1 ((vs1 (lift (evar 1)) (vs0)) env))) (tgN 5)
  (sSeq (sSet 6 (v2 gJoin (lift (cst (.str (PySem.Str.ofString "")))) (vlst (nlc [7] ((fun env => itR1 ((vs1 (lift (evar 2)) (vs0)) env))) (tgN 7) cYes (v2 oIx (lift (evar 3)) (vcallIO (lenF 2 s__law_draw) 0 (vs1 (lift (cst (.int 36))) (vs0))))))))
  (sSeq (sFor ((fun env => itR1 ((vs1 (lift (cst (.int 999))) (vs0)) env))) (tgN 7)
  (sSeq (sIf (tst (lift (e2 oNin (evar 6) (bvar 4))))
  (sBrk)
  (sNil))
  (sSet 6 (lift (e2 oAdd (cst (.str (PySem.Str.ofString "n"))) (ecall gStr (es1 (evar 7) (es0))))))))
  (sApp 4 (lift (evar 6))))))
  (sRet (vvar 4))))
def s__law_names : FSem := fSem 3 8 b__law_names
def nm__law_is_name : List Str := ["word", "signs", "sign"]
def b__law_is_name : ES :=
  sSeq (sSet 1 (lift (cst (.str (PySem.Str.ofString "abcdefghijklmnopqrstuvwxyzABCDEFGHIJKLMNOPQRSTUVWXYZ0123456789")))))
  (sRet (vand (lift (e3c oLt oLt (cst (.int 0)) (ecall gLen (es1 (evar 0) (es0))) (cst (.int 9)))) (v2 oEq (vcall gLen (vs1 (vlst (nlc [2] ((fun env => itS ((lift (evar 0)) env))) (tgN 2) (tst (lift (e2 oNin (evar 2) (evar 1)))) (lift (evar 2)))) (vs0))) (lift (cst (.int 0))))))
def s__law_is_name : FSem := fSem 1 3 b__law_is_name
def nm__law_shown : List Str := ["tree", "part"]
def b__law_shown (s__law_shown : FSem) : ES :=
  sRet (vif (tst (lift (e2 oEq (ecall gLen (es1 (evar 0) (es0))) (cst (.int 1))))) (lift (e2 oIx (evar 0) (cst (.int 0)))) (v2 oAdd (v2 oAdd (lift (e2 oAdd (e2 oIx (evar 0) (cst (.int 0))) (cst (.str (PySem.Str.ofString "("))))) (v2 gJoin (lift (cst (.str (PySem.Str.ofString ",")))) (vlst (nlc [1] ((fun env => itT ((lift (esl (evar 0) (osome (cst (.int 1))) (onone))) env))) (tgN 1) cYes (vcallF (lenF 1 s__law_shown) (vs1 (lift (evar 1)) (vs0))))))) (lift (cst (.str (PySem.Str.ofString ")"))))))
def s__law_shown : Nat → FSem
  | 0 => fun _ => none
  | n + 1 => fSem 1 2 (b__law_shown (s__law_shown n))
def nm__law_drawn_tree : List Str := ["bag", "parts", "name", "turn", "many"]
def b__law_drawn_tree : ES :=
  sSeq (sSetN 1 (nlc [2] ((fun env => itL ((vcallIO (lenF 3 s__law_names) 0 (vs1 (v2 oAdd (lift (cst (.int 1))) (vcallIO (lenF 2 s__law_draw) 0 (vs1 (lift (cst (.int 8))) (vs0)))) (vs1 (vcallIO (lenF 2 s__law_pick) 0 (vs1 (vlst (nlst (vs1 (lift (cst (.int 1))) (vs1 (lift (cst (.int 2))) (vs1 (lift (cst (.int 8))) (vs0)))))) (vs0))) (vs0)))) env))) (tgN 2) cYes (lift (etup (es1 (evar 2) (es0))))))
  (sSeq (sIf (tst (v2 oEq (vcallIO (lenF 2 s__law_draw) 0 (vs1 (lift (cst (.int 4))) (vs0))) (lift (cst (.int 0)))))
  (sFor ((fun env => itR1 ((vs1 (vcallIO (lenF 2 s__law_draw) 0 (vs1 (lift (cst (.int 30))) (vs0))) (vs0)) env))) (tgN 3)
  (sSetIx 1 (cst (.int 0)) (vtup (vs1 (vcallIO (lenF 2 s__law_pick) 0 (vs1 (vlst (nlst (vs1 (lift (cst (.str (PySem.Str.ofString "f")))) (vs1 (lift (cst (.str (PySem.Str.ofString "G7")))) (vs1 (lift (cst (.str (PySem.Str.ofString "0")))) (vs0)))))) (vs0))) (vs1 (lift (eIxO 1 (cst (.int 0)))) (vs0))))))
  (sNil))
  (sSeq (sFor ((fun env => itR1 ((vs1 (lift (cst (.int 8))) (vs0)) env))) (tgN 3)
  (sIf (tst (lift (e2 oGt (ecall gLen (es1 (bvar 1) (es0))) (cst (.int 1)))))
  (sSeq (sSet 4 (v2 oAdd (lift (cst (.int 1))) (vcallIO (lenF 2 s__law_draw) 0 (vs1 (lift (escal (ecall gLen (es1 (bvar 1) (es0))))) (vs0)))))
  (sSetN 1 (ncat (vlst (nlst (vs1 (v2 oAdd (vtup (vs1 (vcallIO (lenF 2 s__law_pick) 0 (vs1 (vlst (nlst (vs1 (lift (cst (.str (PySem.Str.ofString "f")))) (vs1 (lift (cst (.str (PySem.Str.ofString "Q")))) (vs1 (lift (cst (.str (PySem.Str.ofString "abcdEFGH")))) (vs1 (lift (cst (.str (PySem.Str.ofString "1")))) (vs1 (lift (cst (.str (PySem.Str.ofString "x")))) (vs0)))))))) (vs0))) (vs0))) (vcall gTuple (vs1 (vlst (nsl (svar 1) (onone) (osome (evar 4)))) (vs0)))) (vs0)))) (vlst (nsl (svar 1) (osome (evar 4)) (onone))))))
  (sNil)))
  (sRet (vif (tst (lift (e2 oEq (ecall gLen (es1 (bvar 1) (es0))) (cst (.int 1))))) (lift (eIxO 1 (cst (.int 0)))) (v2 oAdd (lift (etup (es1 (cst (.str (PySem.Str.ofString "all"))) (es0)))) (vcall gTuple (vs1 (vvar 1) (vs0))))))))
def s__law_drawn_tree : FSem := fSem 1 5 b__law_drawn_tree
def nm__law_read : List Str := ["text", "heap", "k", "is_begun", "turn", "j", "step", "made"]
def b__law_read : ES :=
  sSeq (sPar [1, 2, 3] (xs1 (xlst (xs1 (xnew (nlst (vs0))) (xs0))) (xs1 (xval (lift (cst (.int 0)))) (xs1 (xval (lift (cst (.bl false)))) (xs0)))))
  (sSeq (sFor ((fun env => itR1 ((vs1 (lift (e2 oAdd (e2 oMul (cst (.int 2)) (ecall gLen (es1 (evar 0) (es0)))) (cst (.int 2)))) (vs0)) env))) (tgN 4)
  (sSeq (sIf (tst (lift (e2 oGe (evar 2) (ecall gLen (es1 (evar 0) (es0))))))
  (sBrk)
  (sNil))
  (sIf (qnot (tru (evar 3)))
  (sSeq (sSet 5 (lift (evar 2)))
  (sSeq (sFor ((fun env => itR1 ((vs1 (lift (cst (.int 9))) (vs0)) env))) (tgN 6)
  (sIf (qand (tst (lift (e2 oLt (evar 5) (ecall gLen (es1 (evar 0) (es0)))))) (tst (vcallF (lenF 1 s__law_is_name) (vs1 (lift (e2 oIx (evar 0) (evar 5))) (vs0)))))
  (sSet 5 (lift (e2 oAdd (evar 5) (cst (.int 1)))))
  (sNil)))
  (sSeq (sIf (qnot (tst (vcallF (lenF 1 s__law_is_name) (vs1 (lift (esl (evar 0) (osome (evar 2)) (osome (evar 5)))) (vs0)))))
  (sRet (lift (cst .non)))
  (sNil))
  (sIf (tst (lift (e2 oEq (esl (evar 0) (osome (evar 5)) (osome (e2 oAdd (evar 5) (cst (.int 1))))) (cst (.str (PySem.Str.ofString "("))))))
  (sSeq (sAppN 1 (nlst (vs1 (lift (esl (evar 0) (osome (evar 2)) (osome (evar 5)))) (vs0))))
  (sSet 2 (lift (e2 oAdd (evar 5) (cst (.int 1))))))
  (sSeq (sApp2 1 (cst (.int (-1))) (etup (es1 (esl (evar 0) (osome (evar 2)) (osome (evar 5))) (es0))))
  (sPar [2, 3] (xs1 (xval (lift (evar 5))) (xs1 (xval (lift (cst (.bl true)))) (xs0)))))))))
  (sIf (qand (tst (lift (e2 oEq (e2 oIx (evar 0) (evar 2)) (cst (.str (PySem.Str.ofString ",")))))) (tst (lift (e2 oGt (ecall gLen (es1 (bvar 1) (es0))) (cst (.int 1))))))
  (sPar [2, 3] (xs1 (xval (lift (e2 oAdd (evar 2) (cst (.int 1))))) (xs1 (xval (lift (cst (.bl false)))) (xs0))))
  (sIf (qand (tst (lift (e2 oEq (e2 oIx (evar 0) (evar 2)) (cst (.str (PySem.Str.ofString ")")))))) (tst (lift (e2 oGt (ecall gLen (es1 (bvar 1) (es0))) (cst (.int 1))))))
  (sSeq (sSet 7 (vcall gTuple (vs1 (vPop 1) (vs0))))
  (sSeq (sApp2 1 (cst (.int (-1))) (evar 7))
  (sSet 2 (lift (e2 oAdd (evar 2) (cst (.int 1)))))))
  (sRet (lift (cst .non))))))))
  (sRet (vif (qand (tru (evar 3)) (qand (tst (lift (e2 oEq (ecall gLen (es1 (bvar 1) (es0))) (cst (.int 1))))) (tst (lift (e2 oEq (ecall gLen (es1 (e2 oIx (bvar 1) (cst (.int 0))) (es0))) (cst (.int 1))))))) (lift (eIxO2 1 (cst (.int 0)) (cst (.int 0)))) (lift (cst .non)))))
def s__law_read : FSem := fSem 1 8 b__law_read
def nm__law_told : List Str := ["text", "wrong"]
def s__law_told : FSem := sTold s_read_tree
def nm__law_spoilt : List Str := ["bag", "text", "at", "way", "sign"]
def b__law_spoilt : ES :=
  sSeq (sPar [2, 3] (xs1 (xval (vcallIO (lenF 2 s__law_draw) 0 (vs1 (lift (e2 oAdd (ecall gLen (es1 (evar 1) (es0))) (cst (.int 1)))) (vs0)))) (xs1 (xval (vcallIO (lenF 2 s__law_draw) 0 (vs1 (lift (cst (.int 6))) (vs0)))) (xs0))))
  (sSeq (sSet 4 (vcallIO (lenF 2 s__law_pick) 0 (vs1 (vlst (nlst (vs1 (lift (cst (.str (PySem.Str.ofString "(")))) (vs1 (lift (cst (.str (PySem.Str.ofString ")")))) (vs1 (lift (cst (.str (PySem.Str.ofString ",")))) (vs1 (lift (cst (.str (PySem.Str.ofString " ")))) (vs1 (lift (cst (.str (PySem.Str.ofString "a")))) (vs1 (lift (cst (.str (PySem.Str.ofString "Z")))) (vs1 (lift (cst (.str (PySem.Str.ofString "0")))) (vs1 (lift (cst (.str (PySem.Str.ofString "_")))) (vs1 (lift (cst (.str (PySem.Str.ofString "()")))) (vs1 (lift (cst (.str (PySem.Str.ofString ",,")))) (vs1 (lift (cst (.str (PySem.Str.ofString "\n")))) (vs1 (lift (cst (.str (PySem.Str.ofString "abcdefgh")))) (vs1 (lift (cst (.str (PySem.Str.ofString "'")))) (vs0)))))))))))))))) (vs0))))
  (sSeq (sIf (tst (lift (e2 oEq (evar 3) (cst (.int 0)))))
  (sRet (lift (esl (evar 1) (onone) (osome (evar 2)))))
  (sNil))
  (sSeq (sIf (tst (lift (e2 oEq (evar 3) (cst (.int 1)))))
  (sRet (v2 oAdd (lift (evar 1)) (vcallIO (lenF 2 s__law_pick) 0 (vs1 (vlst (nlst (vs1 (lift (cst (.str (PySem.Str.ofString "")))) (vs1 (lift (cst (.str (PySem.Str.ofString ")")))) (vs1 (lift (cst (.str (PySem.Str.ofString ",")))) (vs1 (lift (cst (.str (PySem.Str.ofString " ")))) (vs1 (lift (e2 oAdd (cst (.str (PySem.Str.ofString ","))) (evar 1))) (vs1 (lift (evar 1)) (vs0))))))))) (vs0)))))
  (sNil))
  (sSeq (sIf (tst (lift (e2 oEq (evar 3) (cst (.int 2)))))
  (sRet (lift (esl (evar 1) (osome (cst (.int 1))) (onone))))
  (sNil))
  (sRet (v2 oAdd (v2 oAdd (lift (esl (evar 1) (onone) (osome (evar 2)))) (vif (tst (lift (e2 oLt (evar 3) (cst (.int 5))))) (lift (evar 4)) (lift (cst (.str (PySem.Str.ofString "")))))) (lift (esl (evar 1) (osome (e2 oAdd (evar 2) (ecall gInt (es1 (e2 oGt (evar 3) (cst (.int 3))) (es0))))) (onone)))))))))
def s__law_spoilt : FSem := fSem 2 5 b__law_spoilt
def nm_law : List Str := ["script", "bag", "turn", "tree", "text", "again", "other", "due"]
def b_law : ES :=
  sSeq (sSetX 1 (xcallSc s__law_bag 0))
  (sSeq (sFor ((fun env => itR1 ((vs1 (lift (cst (.int 5))) (vs0)) env))) (tgN 2)
  (sSeq (sSet 3 (vcallIO (lenF 1 s__law_drawn_tree) 1 (vs0)))
  (sSeq (sSet 4 (vif (tst (lift (e2 oGt (evar 2) (cst (.int 0))))) (vcallF (lenF 1 (s_show_tree 64)) (vs1 (lift (evar 3)) (vs0))) (vcallF (lenF 1 (s_show_tree 64)) (vs1 (lift (evar 3)) vs0))))
  (sSeq (sIf (qor (qnot (tst (vcallF (lenF 2 (s__law_same 200)) (vs1 (lift (evar 4)) (vs1 (vcallF (lenF 1 (s__law_shown 64)) (vs1 (lift (evar 3)) (vs0))) (vs0)))))) (qor (tst (v2 oNe (vcallF (lenF 1 s__law_read) (vs1 (lift (evar 4)) (vs0))) (lift (evar 3)))) (qnot (tst (vcallF (lenF 2 (s__law_same 200)) (vs1 (vcallF (lenF 1 s_read_tree) (vs1 (lift (evar 4)) (vs0))) (vs1 (lift (evar 3)) (vs0))))))))
  (sRet (lift (cst (.bl false))))
  (sNil))
  (sSeq (sIf (qnot (tst (vcallF (lenF 2 (s__law_same 200)) (vs1 (vcallF (lenF 1 s_read_tree) (vs1 (lift (evar 4)) vs0)) (vs1 (lift (evar 3)) (vs0))))))
  (sRet (lift (cst (.bl false))))
  (sNil))
  (sFor ((fun env => itR1 ((vs1 (lift (cst (.int 6))) (vs0)) env))) (tgN 5)
  (sSeq (sSet 6 (vcallIO (lenF 2 s__law_spoilt) 1 (vs1 (lift (evar 4)) (vs0))))
  (sSeq (sIf (tst (v2 oEq (vcallIO (lenF 2 s__law_draw) 1 (vs1 (lift (cst (.int 3))) (vs0))) (lift (cst (.int 0)))))
  (sSet 6 (vcallIO (lenF 2 s__law_spoilt) 1 (vs1 (lift (evar 6)) (vs0))))
  (sNil))
  (sSeq (sSet 7 (vcallF (lenF 1 s__law_read) (vs1 (lift (evar 6)) (vs0))))
  (sIf (qnot (tst (vcallF (lenF 2 (s__law_same 200)) (vs1 (vcallF (lenF 1 s__law_told) (vs1 (lift (evar 6)) (vs0))) (vs1 (vif (tst (lift (e2 oIsN (evar 7) (cst .non)))) (lift (etup (es1 (cst (.str (PySem.Str.ofString "line"))) (es1 (cst (.int 1)) (es0))))) (lift (etup (es1 (cst (.str (PySem.Str.ofString "told"))) (es1 (evar 7) (es0)))))) (vs0))))))
  (sRet (lift (cst (.bl false))))
  (sNil)))))))))))
  (sSeq (sFor ((fun env => itL ((vlst (nlst (vs1 (lift (cst (.str (PySem.Str.ofString "")))) (vs1 (lift (cst (.str (PySem.Str.ofString "a(")))) (vs1 (lift (cst (.str (PySem.Str.ofString "a()")))) (vs1 (lift (cst (.str (PySem.Str.ofString "a,b")))) (vs1 (lift (cst (.str (PySem.Str.ofString "(a)")))) (vs1 (lift (cst (.str (PySem.Str.ofString "a(b")))) (vs1 (lift (cst (.str (PySem.Str.ofString "a(b))")))) (vs1 (lift (cst (.str (PySem.Str.ofString "a(b,)")))) (vs1 (lift (cst (.str (PySem.Str.ofString "a b")))) (vs1 (lift (cst (.str (PySem.Str.ofString "abcdefghi")))) (vs1 (lift (cst (.str (PySem.Str.ofString "a(,b)")))) (vs1 (lift (cst (.str (PySem.Str.ofString "a(b)(c)")))) (vs0))))))))))))))) env))) (tgN 4)
  (sIf (qor (tst (v2 oNotN (vcallF (lenF 1 s__law_read) (vs1 (lift (evar 4)) (vs0))) (lift (cst .non)))) (qnot (tst (vcallF (lenF 2 (s__law_same 200)) (vs1 (vcallF (lenF 1 s__law_told) (vs1 (lift (evar 4)) (vs0))) (vs1 (lift (etup (es1 (cst (.str (PySem.Str.ofString "line"))) (es1 (cst (.int 1)) (es0))))) (vs0)))))))
  (sRet (lift (cst (.bl false))))
  (sNil)))
  (sRet (lift (cst (.bl true))))))
def s_law : FSem := fSem 1 8 b_law
end T73

set_option Elab.async false
set_option linter.all false
set_option maxRecDepth 100000
set_option maxHeartbeats 2000000
namespace T73
open PySem L2 DL
def top (i : Nat) : Stmt := PySem.Challenge.pw_onelot_k73_trees_as_texts.main.body.getD i (.Pass ⟨0, 0, 0, 0⟩)
structure Txt (K : PySem.W.Frag) (mg : Str → Option Value) (a : Nat → Addr) (fd : Nat → FuncData) (tk : Tok) : Prop where
  g_is_name : mg "is_name" = some (.ref (a 0))
  k_is_name : PySem.W.keepIn K (.ref (a 0)) = true
  n_is_name : Binds K (fd 0) ["value"] []
  g_show_tree : mg "show_tree" = some (.ref (a 1))
  k_show_tree : PySem.W.keepIn K (.ref (a 1)) = true
  n_show_tree : Binds K (fd 1) ["tree"] []
  g_pieces_of : mg "pieces_of" = some (.ref (a 2))
  k_pieces_of : PySem.W.keepIn K (.ref (a 2)) = true
  n_pieces_of : Binds K (fd 2) ["text"] []
  g_read_tree : mg "read_tree" = some (.ref (a 3))
  k_read_tree : PySem.W.keepIn K (.ref (a 3)) = true
  n_read_tree : Binds K (fd 3) ["text"] []
  g__law_bag : mg "_law_bag" = some (.ref (a 4))
  k__law_bag : PySem.W.keepIn K (.ref (a 4)) = true
  n__law_bag : Binds K (fd 4) ["script"] []
  g__law_draw : mg "_law_draw" = some (.ref (a 5))
  k__law_draw : PySem.W.keepIn K (.ref (a 5)) = true
  n__law_draw : Binds K (fd 5) ["bag", "many"] []
  g__law_pick : mg "_law_pick" = some (.ref (a 6))
  k__law_pick : PySem.W.keepIn K (.ref (a 6)) = true
  n__law_pick : Binds K (fd 6) ["bag", "some"] []
  g__law_same : mg "_law_same" = some (.ref (a 7))
  k__law_same : PySem.W.keepIn K (.ref (a 7)) = true
  n__law_same : Binds K (fd 7) ["found", "due"] []
  g__law_names : mg "_law_names" = some (.ref (a 8))
  k__law_names : PySem.W.keepIn K (.ref (a 8)) = true
  n__law_names : Binds K (fd 8) ["bag", "many", "size"] []
  g__law_is_name : mg "_law_is_name" = some (.ref (a 9))
  k__law_is_name : PySem.W.keepIn K (.ref (a 9)) = true
  n__law_is_name : Binds K (fd 9) ["word"] []
  g__law_shown : mg "_law_shown" = some (.ref (a 10))
  k__law_shown : PySem.W.keepIn K (.ref (a 10)) = true
  n__law_shown : Binds K (fd 10) ["tree"] []
  g__law_drawn_tree : mg "_law_drawn_tree" = some (.ref (a 11))
  k__law_drawn_tree : PySem.W.keepIn K (.ref (a 11)) = true
  n__law_drawn_tree : Binds K (fd 11) ["bag"] []
  g__law_read : mg "_law_read" = some (.ref (a 12))
  k__law_read : PySem.W.keepIn K (.ref (a 12)) = true
  n__law_read : Binds K (fd 12) ["text"] []
  g__law_told : mg "_law_told" = some (.ref (a 13))
  k__law_told : PySem.W.keepIn K (.ref (a 13)) = true
  n__law_told : Binds K (fd 13) ["text"] []
  g__law_spoilt : mg "_law_spoilt" = some (.ref (a 14))
  k__law_spoilt : PySem.W.keepIn K (.ref (a 14)) = true
  n__law_spoilt : Binds K (fd 14) ["bag", "text"] []
  g_law : mg "law" = some (.ref (a 15))
  k_law : PySem.W.keepIn K (.ref (a 15)) = true
  n_law : Binds K (fd 15) ["script"] []
  kw_read_tree : KBinds K (fd 3) ["text"] ["text"] (fun us ws => us ++ ws) (fun vs zs => vs ++ zs)
  kw_show_tree : KBinds K (fd 1) ["tree"] ["tree"] (fun us ws => us ++ ws) (fun vs zs => vs ++ zs)
  b_abs : mg "abs" = none
  b_all : mg "all" = none
  b_bool : mg "bool" = none
  b_int : mg "int" = none
  b_isinstance : mg "isinstance" = none
  b_len : mg "len" = none
  b_range : mg "range" = none
  b_str : mg "str" = none
  b_super : mg "super" = none
  b_tuple : mg "tuple" = none
  c_SIGNS : mg "SIGNS" = some (.str SIGNS tk)
end T73

set_option Elab.async false
set_option linter.all false
set_option maxRecDepth 100000
set_option maxHeartbeats 2000000
namespace T73
open PySem L2 DL
section
variable [Tbs]
theorem sc__law_told : FnScope nm__law_told ["text"] (defScope (top 20)) := ⟨rfl, rfl, rfl, by decide +kernel, rfl, by decide +kernel, by decide +kernel⟩
theorem ok__law_told {P : Program} {w : World} {K : PySem.W.Frag} {mg : Str → Option Value} {base : Heap} {a : Nat → Addr} {fd : Nat → FuncData} {tk : Tok} {C fI : Addr} {tx : Str} (T : Txt K mg a fd tk) (B : PySem.Bad.Txt P K mg C fI tx) (ht : (tx ++ (toString (1 : Int) : Str)).length ≤ sizeLine) (F : Fun K "_law_told" "_law_told" (top 20) (a 13) (fd 13))
    (GR : FnOk P w K mg base (L2.CX P w) 6 (a 3) (fd 3) ["text"] (spF (xsBad tx C) K (["text"] : List Str).length s_read_tree)) :
    FnOk P w K mg base CX0 7 (a 13) (fd 13) ["text"] (spF noX K (["text"] : List Str).length s__law_told) := by
  have sc := sc__law_told
  refine F.ok sc (fun vs H Q E h => h.len) (fun cdv A outer s H vs Q E hr h => ⟨tTold tx K C s_read_tree, ?_, pure_told B ht vs H Q E h⟩)
  exact pss_one (ps_try_as (i := 1) (tb := fun W => tRet (tTup (tCons (tC (.str "told")) (tCons (tCallS (spF (xsBad tx C) K 1 s_read_tree) (WE W) (tCons (tVar 0) tNil)) tNil)))) (ts := fun a cls d => tRet (tTup (tCons (tC (.str "line")) (tCons (tLine C a cls d (tVar 1)) tNil)))) (Wout := fun _ _ _ _ => False) rfl rfl sc.nd rfl rfl ⟨rfl, by decide, Or.inl B.gC⟩ takes0
    (fun W pn xe tk _ => pss_one (ps_ret (by exact pe_tup (by exact pa_cons pe_str (by exact pa_cons (by exact pe_callS GR hr rfl T.g_read_tree T.k_read_tree T.n_read_tree (fun σ => passAt tk σ) (by exact pa_cons (by exact pe_var (i := 0) rfl (Or.inl rfl)) pa_nil)) pa_nil)))))
    (fun a oe cls d pn hz hf => pss_one (ps_ret (by exact pe_tup (by exact pa_cons pe_str (by exact pa_cons (by exact pe_line B hz hf (by exact pe_var (i := 1) rfl (Or.inl rfl))) pa_nil))))))
end
end T73

set_option Elab.async false
set_option linter.all false
set_option maxRecDepth 100000
set_option maxHeartbeats 2000000
namespace T73
open PySem L2 DL
section
variable [Tbs]
theorem sc_is_name : FnScope nm_is_name ["value"] (defScope (top 5)) := ⟨rfl, rfl, rfl, by decide +kernel, rfl, by decide +kernel, by decide +kernel⟩
theorem ok_is_name {P : Program} {w : World} {K : PySem.W.Frag} {mg : Str → Option Value} {base : Heap} {a : Nat → Addr} {fd : Nat → FuncData} {tk : Tok} {cc pt : Addr} (T : Txt K mg a fd tk) (F : FunC K "is_name" "is_name" (top 5) (a 0) (fd 0) cc) (TB : GxR.TabB base mg cc pt) (hT : Tbs.tb pt) :
    FnOk P w K mg base CX0 1 (a 0) (fd 0) ["value"] (spF noX K (["value"] : List Str).length s_is_name) := by
  have sc := sc_is_name
  refine fn_semC F sc fun A outer s H E W hr => ?_
  exact ss_cons (by exact s_if (by exact q_bool (by exact q_or (by exact q_not (by exact q_valB (b := false) (by exact p_isi (T := "str") (by decide) T.b_isinstance T.b_str (by decide +kernel) (by exact p_var (i := 0) rfl (by first | exact Or.inl rfl | exact Or.inr (Or.inl rfl) | exact Or.inr (Or.inr rfl)))))) (by exact q_or1 (by exact q_not (by exact q_chain (b := false) op_le op_le d_cmpI d_cmpI (by exact p_int) (by exact p_callB c_len k_len rfl T.b_len PySem.boot_len (by exact ps_cons' (by exact p_var (i := 0) rfl (by first | exact Or.inl rfl | exact Or.inr (Or.inl rfl) | exact Or.inr (Or.inr rfl))) (by exact ps_nil'))) (by exact p_int)))))) (by exact ss_one (by exact s_ret (by exact v_of (by exact p_bl)))) (by exact ss_nil)) (by exact ss_one (by exact s_ret (by exact v_allM (b := false) hT hr rfl T.b_all TB rfl (genS_plain rfl rfl (by decide +kernel) (by decide +kernel) (by decide +kernel)) (by exact p_var (i := 0) rfl (by first | exact Or.inl rfl | exact Or.inr (Or.inl rfl) | exact Or.inr (Or.inr rfl))) (elt_in rfl rfl rfl T.c_SIGNS) (fun _ => rfl))))
theorem sc_show_tree : FnScope nm_show_tree ["tree"] (defScope (top 7)) := ⟨rfl, rfl, rfl, by decide +kernel, rfl, by decide +kernel, by decide +kernel⟩
theorem st_show_tree {P : Program} {w : World} {K : PySem.W.Frag} {mg : Str → Option Value} {base : Heap} {a : Nat → Addr} {fd : Nat → FuncData} {tk : Tok} (T : Txt K mg a fd tk) (F : Fun K "show_tree" "show_tree" (top 7) (a 1) (fd 1))  {n : Nat} (G_show_tree : FnOk P w K mg base CX0 (n + 1) (a 1) (fd 1) ["tree"] (spF noX K (["tree"] : List Str).length (s_show_tree n))) :
    FnOk P w K mg base CX0 (n + 2) (a 1) (fd 1) ["tree"] (spF noX K (["tree"] : List Str).length (s_show_tree (n + 1))) := by
  have sc := sc_show_tree
  refine fn_sem F sc fun cdv A outer s H E W hr => ?_
  exact ss_cons (by exact s_if (by exact q_cmpB (b := false) (o_eq hr.units) d_eq (by exact p_callB c_len k_len rfl T.b_len PySem.boot_len (by exact ps_cons' (by exact p_var (i := 0) rfl (by first | exact Or.inl rfl | exact Or.inr (Or.inl rfl) | exact Or.inr (Or.inr rfl))) (by exact ps_nil'))) (by exact p_int) (nomark _)) (by exact ss_one (by exact s_ret (by exact v_of (by exact p_ix ix_seq d_ix (by exact p_var (i := 0) rfl (by first | exact Or.inl rfl | exact Or.inr (Or.inl rfl) | exact Or.inr (Or.inr rfl))) (by exact p_int) (fun _ _ => rfl))))) (by exact ss_nil)) (by exact ss_one (by exact s_ret (by exact v_op o_add d_add (by exact v_op o_add d_add (by exact v_of (by exact p_op o_add d_add (by exact p_ix ix_seq d_ix (by exact p_var (i := 0) rfl (by first | exact Or.inl rfl | exact Or.inr (Or.inl rfl) | exact Or.inr (Or.inr rfl))) (by exact p_int) (fun _ _ => rfl)) (by exact p_str))) (by exact v_join (by exact v_of (by exact p_str)) (by exact v_new (by exact n_lc (own := [("part", 1)]) rfl sc.nd (by exact it_tup (by exact v_of (by exact p_sl (by exact p_var (i := 0) rfl (by first | exact Or.inl rfl | exact Or.inr (Or.inl rfl) | exact Or.inr (Or.inr rfl))) (by exact o_some (b := false) (by exact p_int)) (by exact o_none)))) (blkOk_by (own := [("part", 1)]) (N := nm_show_tree) (sc := defScope (top 7)) (by decide +kernel)) (by exact tg_name 1) (by decide) (fun _ _ _ _ _ => by exact pg_name (i := 1) sc.nd rfl (by first | exact Or.inl rfl | exact Or.inr rfl)) (fun _ _ _ _ _ => by exact v_call (ps := ["tree"]) G_show_tree (hr.mono (by omega)) T.g_show_tree T.k_show_tree T.n_show_tree pass0 (by exact vs_cons (by exact v_of (by exact p_var (i := 1) rfl (by first | exact Or.inl rfl | exact Or.inr (Or.inl rfl) | exact Or.inr (Or.inr rfl)))) (by exact vs_nil))))))) (by exact v_of (by exact p_str)))))
theorem sc_pieces_of : FnScope nm_pieces_of ["text"] (defScope (top 8)) := ⟨rfl, rfl, rfl, by decide +kernel, rfl, by decide +kernel, by decide +kernel⟩
theorem ok_pieces_of {P : Program} {w : World} {K : PySem.W.Frag} {mg : Str → Option Value} {base : Heap} {a : Nat → Addr} {fd : Nat → FuncData} {tk : Tok} (T : Txt K mg a fd tk) (F : Fun K "pieces_of" "pieces_of" (top 8) (a 2) (fd 2))  :
    FnOk P w K mg base CX0 1 (a 2) (fd 2) ["text"] (spF noX K (["text"] : List Str).length s_pieces_of) := by
  have sc := sc_pieces_of
  refine fn_sem F sc fun cdv A outer s H E W hr => ?_
  exact ss_cons (by exact s_setN (i := 1) sc.nd rfl (by first | exact Or.inl rfl | exact Or.inr rfl) (by exact n_lst (by exact vs_nil))) (by exact ss_cons (by exact s_set (i := 2) sc.nd rfl (by first | exact Or.inl rfl | exact Or.inr rfl) (by exact v_of (by exact p_str))) (by exact ss_cons (by exact s_for PassesOwn.never rfl (by exact it_str (by exact v_of (by exact p_var (i := 0) rfl (by first | exact Or.inl rfl | exact Or.inr (Or.inl rfl) | exact Or.inr (Or.inr rfl))))) (by exact tg_name 3) (by exact pg_name (i := 3) sc.nd rfl (by first | exact Or.inl rfl | exact Or.inr rfl)) (by exact ss_one (by exact s_if (by exact q_cmpB (b := false) o_in d_in (by exact p_var (i := 3) rfl (by first | exact Or.inl rfl | exact Or.inr (Or.inl rfl) | exact Or.inr (Or.inr rfl))) (by exact p_str) (by rfl)) (by exact ss_cons (by exact s_if (by exact q_cmpB (b := false) (o_ne hr.units) d_ne (by exact p_var (i := 2) rfl (by first | exact Or.inl rfl | exact Or.inr (Or.inl rfl) | exact Or.inr (Or.inr rfl))) (by exact p_str) (nomark _)) (by exact ss_one (by exact s_app (i := 1) rfl (by first | exact Or.inl rfl | exact Or.inr (Or.inl rfl) | exact Or.inr (Or.inr rfl)) (by exact v_of (by exact p_var (i := 2) rfl (by first | exact Or.inl rfl | exact Or.inr (Or.inl rfl) | exact Or.inr (Or.inr rfl)))))) (by exact ss_nil)) (by exact ss_cons (by exact s_app (i := 1) rfl (by first | exact Or.inl rfl | exact Or.inr (Or.inl rfl) | exact Or.inr (Or.inr rfl)) (by exact v_of (by exact p_var (i := 3) rfl (by first | exact Or.inl rfl | exact Or.inr (Or.inl rfl) | exact Or.inr (Or.inr rfl))))) (by exact ss_one (by exact s_set (i := 2) sc.nd rfl (by first | exact Or.inl rfl | exact Or.inr rfl) (by exact v_of (by exact p_str)))))) (by exact ss_one (by exact s_aug (i := 2) o_iadd d_iadd sc.nd rfl (by first | exact Or.inl rfl | exact Or.inr rfl) (by exact v_of (by exact p_var (i := 3) rfl (by first | exact Or.inl rfl | exact Or.inr (Or.inl rfl) | exact Or.inr (Or.inr rfl))))))))) (by exact ss_cons (by exact s_if (by exact q_cmpB (b := false) (o_ne hr.units) d_ne (by exact p_var (i := 2) rfl (by first | exact Or.inl rfl | exact Or.inr (Or.inl rfl) | exact Or.inr (Or.inr rfl))) (by exact p_str) (nomark _)) (by exact ss_one (by exact s_app (i := 1) rfl (by first | exact Or.inl rfl | exact Or.inr (Or.inl rfl) | exact Or.inr (Or.inr rfl)) (by exact v_of (by exact p_var (i := 2) rfl (by first | exact Or.inl rfl | exact Or.inr (Or.inl rfl) | exact Or.inr (Or.inr rfl)))))) (by exact ss_nil)) (by exact ss_one (by exact s_ret (by exact v_var (i := 1) rfl (by first | exact Or.inl rfl | exact Or.inr (Or.inl rfl) | exact Or.inr (Or.inr rfl))))))))
theorem sc_read_tree : FnScope nm_read_tree ["text"] (defScope (top 9)) := ⟨rfl, rfl, rfl, by decide +kernel, rfl, by decide +kernel, by decide +kernel⟩
theorem ok_read_tree {P : Program} {w : World} {K : PySem.W.Frag} {mg : Str → Option Value} {base : Heap} {a : Nat → Addr} {fd : Nat → FuncData} {tk : Tok} {C fI : Addr} {tx : Str} (T : Txt K mg a fd tk) (B : PySem.Bad.Txt P K mg C fI tx) (F : Fun K "read_tree" "read_tree" (top 9) (a 3) (fd 3)) (G_pieces_of : FnOk P w K mg base CX0 1 (a 2) (fd 2) ["text"] (spF noX K (["text"] : List Str).length s_pieces_of)) (G_is_name : FnOk P w K mg base CX0 1 (a 0) (fd 0) ["value"] (spF noX K (["value"] : List Str).length s_is_name)) :
    FnOk P w K mg base (L2.CX P w) 6 (a 3) (fd 3) ["text"] (spF (xsBad tx C) K (["text"] : List Str).length s_read_tree) := by
  have sc := sc_read_tree
  refine fn_semX F sc fun cdv A outer s H E hr => ?_
  exact ss_cons (by exact s_setX (i := 1) sc.nd rfl (by first | exact Or.inl rfl | exact Or.inr rfl) (by exact x_lst (by exact xs_cons (by exact x_new (by exact n_lst (by exact vs_nil))) (by exact xs_nil)))) (by exact ss_cons (by exact s_set (i := 2) sc.nd rfl (by first | exact Or.inl rfl | exact Or.inr rfl) (by exact v_of (by exact p_bl))) (by exact ss_cons (by exact s_for PassesOwn.leaving rfl (by exact it_list (by exact v_call (ps := ["text"]) G_pieces_of (hr.mono (by decide)) T.g_pieces_of T.k_pieces_of T.n_pieces_of pass0 (by exact vs_cons (by exact v_of (by exact p_var (i := 0) rfl (by first | exact Or.inl rfl | exact Or.inr (Or.inl rfl) | exact Or.inr (Or.inr rfl)))) (by exact vs_nil)))) (by exact tg_name 3) (by exact pg_name (i := 3) sc.nd rfl (by first | exact Or.inl rfl | exact Or.inr rfl)) (by exact ss_one (by exact s_if (by exact q_tru (b := false) (by exact p_var (i := 2) rfl (by first | exact Or.inl rfl | exact Or.inr (Or.inl rfl) | exact Or.inr (Or.inr rfl)))) (by exact ss_cons (by exact s_if (by exact q_bool (by exact q_or (by exact q_not (by exact q_val (by exact v_call (ps := ["value"]) G_is_name (hr.mono (by decide)) T.g_is_name T.k_is_name T.n_is_name pass0 (by exact vs_cons (by exact v_of (by exact p_var (i := 3) rfl (by first | exact Or.inl rfl | exact Or.inr (Or.inl rfl) | exact Or.inr (Or.inr rfl)))) (by exact vs_nil))))) (by exact q_or1 (by exact q_bool (by exact q_and (by exact q_cmpB (b := false) (o_eq hr.units) d_eq (by exact p_callB c_len k_len rfl T.b_len PySem.boot_len (by exact ps_cons' (b_var (i := 1) rfl (by first | exact Or.inl rfl | exact Or.inr (Or.inl rfl) | exact Or.inr (Or.inr rfl))) (by exact ps_nil'))) (by exact p_int) (nomark _)) (by exact q_and1 (by exact q_tru (b := false) (by exact p_ix ix_seq d_ix (b_var (i := 1) rfl (by first | exact Or.inl rfl | exact Or.inr (Or.inl rfl) | exact Or.inr (Or.inr rfl))) (by exact p_int) (fun _ _ => rfl))))))))) (by exact ss_one (by exact s_raiseBad rfl B hr (takes_of rfl rfl rfl rfl) (by exact vs_cons (by exact v_of (by exact p_int)) (by exact vs_nil)))) (by exact ss_nil)) (by exact ss_cons (by exact s_app2 (i := 1) rfl (by first | exact Or.inl rfl | exact Or.inr (Or.inl rfl) | exact Or.inr (Or.inr rfl)) (by exact p_neg) (by exact p_tup (by exact ps_cons' (by exact p_var (i := 3) rfl (by first | exact Or.inl rfl | exact Or.inr (Or.inl rfl) | exact Or.inr (Or.inr rfl))) (by exact ps_nil'))) (fun _ _ => rfl)) (by exact ss_one (by exact s_set (i := 2) sc.nd rfl (by first | exact Or.inl rfl | exact Or.inr rfl) (by exact v_of (by exact p_bl)))))) (by exact ss_one (by exact s_if (by exact q_bool (by exact q_and (by exact q_cmpB (b := false) (o_eq hr.units) d_eq (by exact p_var (i := 3) rfl (by first | exact Or.inl rfl | exact Or.inr (Or.inl rfl) | exact Or.inr (Or.inr rfl))) (by exact p_str) (nomark _)) (by exact q_and1 (by exact q_cmpB (b := false) (o_eq hr.units) d_eq (by exact p_callB c_len k_len rfl T.b_len PySem.boot_len (by exact ps_cons' (by exact p_ix ix_seq d_ix (by exact p_ix ix_seq d_ix (b_var (i := 1) rfl (by first | exact Or.inl rfl | exact Or.inr (Or.inl rfl) | exact Or.inr (Or.inr rfl))) (by exact p_neg) (fun _ _ => rfl)) (by exact p_neg) (fun _ _ => rfl)) (by exact ps_nil'))) (by exact p_int) (nomark _))))) (by exact ss_cons (by exact s_appN (i := 1) rfl (by first | exact Or.inl rfl | exact Or.inr (Or.inl rfl) | exact Or.inr (Or.inr rfl)) (by exact n_lst (by exact vs_nil))) (by exact ss_one (by exact s_set (i := 2) sc.nd rfl (by first | exact Or.inl rfl | exact Or.inr rfl) (by exact v_of (by exact p_bl))))) (by exact ss_one (by exact s_if (by exact q_bool (by exact q_and (by exact q_cmpB (b := false) (o_eq hr.units) d_eq (by exact p_var (i := 3) rfl (by first | exact Or.inl rfl | exact Or.inr (Or.inl rfl) | exact Or.inr (Or.inr rfl))) (by exact p_str) (nomark _)) (by exact q_and1 (by exact q_cmpB (b := false) op_gt d_cmpI (by exact p_callB c_len k_len rfl T.b_len PySem.boot_len (by exact ps_cons' (b_var (i := 1) rfl (by first | exact Or.inl rfl | exact Or.inr (Or.inl rfl) | exact Or.inr (Or.inr rfl))) (by exact ps_nil'))) (by exact p_int) (nomark _))))) (by exact ss_one (by exact s_set (i := 2) sc.nd rfl (by first | exact Or.inl rfl | exact Or.inr rfl) (by exact v_of (by exact p_bl)))) (by exact ss_one (by exact s_if (by exact q_bool (by exact q_and (by exact q_cmpB (b := false) (o_eq hr.units) d_eq (by exact p_var (i := 3) rfl (by first | exact Or.inl rfl | exact Or.inr (Or.inl rfl) | exact Or.inr (Or.inr rfl))) (by exact p_str) (nomark _)) (by exact q_and1 (by exact q_cmpB (b := false) op_gt d_cmpI (by exact p_callB c_len k_len rfl T.b_len PySem.boot_len (by exact ps_cons' (b_var (i := 1) rfl (by first | exact Or.inl rfl | exact Or.inr (Or.inl rfl) | exact Or.inr (Or.inr rfl))) (by exact ps_nil'))) (by exact p_int) (nomark _))))) (by exact ss_cons (by exact s_set (i := 4) sc.nd rfl (by first | exact Or.inl rfl | exact Or.inr rfl) (by exact v_pop (i := 1) rfl (by first | exact Or.inl rfl | exact Or.inr (Or.inl rfl) | exact Or.inr (Or.inr rfl)))) (by exact ss_one (by exact s_setIx2 (i := 1) rfl (by first | exact Or.inl rfl | exact Or.inr (Or.inl rfl) | exact Or.inr (Or.inr rfl)) (by exact p_neg) (by exact p_neg) (fun _ _ => rfl) (by exact v_of (by exact p_op o_add d_add (by exact p_ixO2 (i := 1) rfl (by first | exact Or.inl rfl | exact Or.inr (Or.inl rfl) | exact Or.inr (Or.inr rfl)) (by exact p_neg) (fun _ _ => rfl) (by exact p_neg) (fun _ _ => rfl)) (by exact p_callT call_tuple_of k_tuple rfl T.b_tuple (by decide +kernel) (by exact ps_cons' (by exact p_var (i := 4) rfl (by first | exact Or.inl rfl | exact Or.inr (Or.inl rfl) | exact Or.inr (Or.inr rfl))) (by exact ps_nil')))))))) (by exact ss_one (by exact s_raiseBad rfl B hr (takes_of rfl rfl rfl rfl) (by exact vs_cons (by exact v_of (by exact p_int)) (by exact vs_nil))))))))))))) (by exact ss_cons (by exact s_if (by exact q_bool (by exact q_or (by exact q_tru (b := false) (by exact p_var (i := 2) rfl (by first | exact Or.inl rfl | exact Or.inr (Or.inl rfl) | exact Or.inr (Or.inr rfl)))) (by exact q_or1 (by exact q_cmpB (b := false) op_gt d_cmpI (by exact p_callB c_len k_len rfl T.b_len PySem.boot_len (by exact ps_cons' (b_var (i := 1) rfl (by first | exact Or.inl rfl | exact Or.inr (Or.inl rfl) | exact Or.inr (Or.inr rfl))) (by exact ps_nil'))) (by exact p_int) (nomark _))))) (by exact ss_one (by exact s_raiseBad rfl B hr (takes_of rfl rfl rfl rfl) (by exact vs_cons (by exact v_of (by exact p_int)) (by exact vs_nil)))) (by exact ss_nil)) (by exact ss_one (by exact s_ret (by exact v_of (by exact p_ixO2 (i := 1) rfl (by first | exact Or.inl rfl | exact Or.inr (Or.inl rfl) | exact Or.inr (Or.inr rfl)) (by exact p_int) (fun _ _ => rfl) (by exact p_int) (fun _ _ => rfl))))))))
theorem sc__law_bag : FnScope nm__law_bag ["script"] (defScope (top 11)) := ⟨rfl, rfl, rfl, by decide +kernel, rfl, by decide +kernel, by decide +kernel⟩
theorem ok__law_bag {P : Program} {w : World} {K : PySem.W.Frag} {mg : Str → Option Value} {base : Heap} {a : Nat → Addr} {fd : Nat → FuncData} {tk : Tok} (T : Txt K mg a fd tk) (F : Fun K "_law_bag" "_law_bag" (top 11) (a 4) (fd 4))  :
    FnOk P w K mg base CX0 1 (a 4) (fd 4) ["script"] (spX K (["script"] : List Str).length s__law_bag) := by
  have sc := sc__law_bag
  refine fn_semX' F sc fun cdv A outer s H E W hr => ?_
  exact ss_cons (by exact s_set (i := 1) sc.nd rfl (by first | exact Or.inl rfl | exact Or.inr rfl) (by exact v_new (by exact n_cat (by exact v_new (by exact n_lc (own := [("cell", 2)]) rfl sc.nd (by exact it_sc (i := 0) rfl (by first | exact Or.inl rfl | exact Or.inr (Or.inl rfl) | exact Or.inr (Or.inr rfl))) (blkOk_by (own := [("cell", 2)]) (N := nm__law_bag) (sc := defScope (top 11)) (by decide +kernel)) (by exact tg_name 2) (by decide) (fun _ _ _ _ _ => by exact pg_name (i := 2) sc.nd rfl (by first | exact Or.inl rfl | exact Or.inr rfl)) (fun _ _ _ _ _ => by exact v_of (by exact p_callB call_abs k_abs rfl T.b_abs (by decide +kernel) (by exact ps_cons' (by exact p_callT call_int1 k_int rfl T.b_int (by decide +kernel) (by exact ps_cons' (by exact p_var (i := 2) rfl (by first | exact Or.inl rfl | exact Or.inr (Or.inl rfl) | exact Or.inr (Or.inr rfl))) (by exact ps_nil'))) (by exact ps_nil')))))) (by exact v_new (by exact n_lst (by exact vs_cons (by exact v_of (by exact p_int)) (by exact vs_nil))))))) (by exact ss_cons (by exact s_setN (i := 3) sc.nd rfl (by first | exact Or.inl rfl | exact Or.inr rfl) (by exact n_lst (by exact vs_nil))) (by exact ss_cons (by exact s_if (by exact q_cmpB (b := false) (o_eq hr.units) d_eq (by exact p_op op_mod d_mod (by exact p_callT call_int1 k_int rfl T.b_int (by decide +kernel) (by exact ps_cons' (by exact p_ix ix_seq d_ix (by exact p_var (i := 1) rfl (by first | exact Or.inl rfl | exact Or.inr (Or.inl rfl) | exact Or.inr (Or.inr rfl))) (by exact p_int) (fun _ _ => rfl)) (by exact ps_nil'))) (by exact p_int)) (by exact p_int) (nomark _)) (by exact ss_cons (by exact s_setLcifN (i := 3) (own := [("cell", 2)]) rfl rfl (sw_true rfl rfl rfl (by decide +kernel)) rfl sc.nd (by exact it_list (by exact v_of (by exact p_var (i := 1) rfl (by first | exact Or.inl rfl | exact Or.inr (Or.inl rfl) | exact Or.inr (Or.inr rfl))))) (blkOk_by (own := [("cell", 2)]) (N := nm__law_bag) (sc := defScope (top 11)) (by decide +kernel)) (by exact tg_name 2) (by decide) (fun _ _ _ _ _ => by exact pg_name (i := 2) sc.nd rfl (by first | exact Or.inl rfl | exact Or.inr rfl)) (fun _ _ _ _ _ => by exact q_cmpB (b := false) op_ge d_cmpI (by exact p_var (i := 2) rfl (by first | exact Or.inl rfl | exact Or.inr (Or.inl rfl) | exact Or.inr (Or.inr rfl))) (by exact p_op op_pow d_pow (by exact p_int) (by exact p_int)) (nomark _)) (fun _ _ _ _ _ => by exact v_of (by exact p_op op_fdiv d_div (by exact p_var (i := 2) rfl (by first | exact Or.inl rfl | exact Or.inr (Or.inl rfl) | exact Or.inr (Or.inr rfl))) (by exact p_int)))) (by exact ss_one (by exact s_rev (i := 3) rfl (by first | exact Or.inl rfl | exact Or.inr (Or.inl rfl) | exact Or.inr (Or.inr rfl))))) (by exact ss_nil)) (by exact ss_one (by exact s_retX (by exact x_lst (by exact xs_cons (by exact x_val (by exact v_of (by exact p_int))) (by exact xs_cons (by exact x_val (by exact v_of (by exact p_int))) (by exact xs_cons (by exact x_var (i := 3) rfl (by first | exact Or.inl rfl | exact Or.inr (Or.inl rfl) | exact Or.inr (Or.inr rfl))) (by exact xs_cons (by exact x_val (by exact v_new (by exact n_lc (own := [("cell", 2)]) rfl sc.nd (by exact it_list (by exact v_of (by exact p_var (i := 1) rfl (by first | exact Or.inl rfl | exact Or.inr (Or.inl rfl) | exact Or.inr (Or.inr rfl))))) (blkOk_by (own := [("cell", 2)]) (N := nm__law_bag) (sc := defScope (top 11)) (by decide +kernel)) (by exact tg_name 2) (by decide) (fun _ _ _ _ _ => by exact pg_name (i := 2) sc.nd rfl (by first | exact Or.inl rfl | exact Or.inr rfl)) (fun _ _ _ _ _ => by exact v_of (by exact p_op op_mod d_mod (by exact p_callT call_int1 k_int rfl T.b_int (by decide +kernel) (by exact ps_cons' (by exact p_var (i := 2) rfl (by first | exact Or.inl rfl | exact Or.inr (Or.inl rfl) | exact Or.inr (Or.inr rfl))) (by exact ps_nil'))) (by exact p_int)))))) (by exact xs_nil))))))))))
theorem sc__law_draw : FnScope nm__law_draw ["bag", "many"] (defScope (top 12)) := ⟨rfl, rfl, rfl, by decide +kernel, rfl, by decide +kernel, by decide +kernel⟩
theorem ok__law_draw {P : Program} {w : World} {K : PySem.W.Frag} {mg : Str → Option Value} {base : Heap} {a : Nat → Addr} {fd : Nat → FuncData} {tk : Tok} (T : Txt K mg a fd tk) (F : Fun K "_law_draw" "_law_draw" (top 12) (a 5) (fd 5))  :
    FnOk P w K mg base CX0 1 (a 5) (fd 5) ["bag", "many"] (spF noX K (["bag", "many"] : List Str).length s__law_draw) := by
  have sc := sc__law_draw
  refine fn_sem F sc fun cdv A outer s H E W hr => ?_
  exact ss_cons (by exact s_setIx (i := 0) (ps := ⟨0, 0, 0, 0⟩) rfl (by first | exact Or.inl rfl | exact Or.inr (Or.inl rfl) | exact Or.inr (Or.inr rfl)) (by exact p_int) (by exact v_of (by exact p_op o_add d_add (by exact p_ixO (i := 0) rfl (by first | exact Or.inl rfl | exact Or.inr (Or.inl rfl) | exact Or.inr (Or.inr rfl)) (by exact p_int) (fun _ _ => rfl)) (by exact p_int)))) (by exact ss_cons (by exact s_if (by exact q_bool (by exact q_and (by exact q_cmpB (b := false) (o_eq hr.units) d_eq (by exact p_ix ix_seq d_ix (b_var (i := 0) rfl (by first | exact Or.inl rfl | exact Or.inr (Or.inl rfl) | exact Or.inr (Or.inr rfl))) (by exact p_int) (fun _ _ => rfl)) (by exact p_int) (nomark _)) (by exact q_and1 (by exact q_cmpB (b := false) op_gt d_cmpI (by exact p_callB c_len k_len rfl T.b_len PySem.boot_len (by exact ps_cons' (by exact p_ix ix_seq d_ix (b_var (i := 0) rfl (by first | exact Or.inl rfl | exact Or.inr (Or.inl rfl) | exact Or.inr (Or.inr rfl))) (by exact p_int) (fun _ _ => rfl)) (by exact ps_nil'))) (by exact p_int) (nomark _))))) (by exact ss_one (by exact s_setIx (i := 0) (ps := ⟨0, 0, 0, 0⟩) rfl (by first | exact Or.inl rfl | exact Or.inr (Or.inl rfl) | exact Or.inr (Or.inr rfl)) (by exact p_int) (by exact v_pop2 (i := 0) rfl (by first | exact Or.inl rfl | exact Or.inr (Or.inl rfl) | exact Or.inr (Or.inr rfl)) (by exact p_int) (fun _ _ => rfl)))) (by exact ss_nil)) (by exact ss_cons (by exact s_if (by exact q_cmpB (b := false) op_gt d_cmpI (by exact p_ix ix_seq d_ix (b_var (i := 0) rfl (by first | exact Or.inl rfl | exact Or.inr (Or.inl rfl) | exact Or.inr (Or.inr rfl))) (by exact p_int) (fun _ _ => rfl)) (by exact p_int) (nomark _)) (by exact ss_cons (by exact s_set (i := 2) sc.nd rfl (by first | exact Or.inl rfl | exact Or.inr rfl) (by exact v_of (by exact p_op op_mod d_mod (by exact p_callT call_int1 k_int rfl T.b_int (by decide +kernel) (by exact ps_cons' (by exact p_ixO (i := 0) rfl (by first | exact Or.inl rfl | exact Or.inr (Or.inl rfl) | exact Or.inr (Or.inr rfl)) (by exact p_int) (fun _ _ => rfl)) (by exact ps_nil'))) (by exact p_var (i := 1) rfl (by first | exact Or.inl rfl | exact Or.inr (Or.inl rfl) | exact Or.inr (Or.inr rfl)))))) (by exact ss_cons (by exact s_setIx (i := 0) (ps := ⟨0, 0, 0, 0⟩) rfl (by first | exact Or.inl rfl | exact Or.inr (Or.inl rfl) | exact Or.inr (Or.inr rfl)) (by exact p_int) (by exact v_of (by exact p_op op_fdiv d_div (by exact p_ixO (i := 0) rfl (by first | exact Or.inl rfl | exact Or.inr (Or.inl rfl) | exact Or.inr (Or.inr rfl)) (by exact p_int) (fun _ _ => rfl)) (by exact p_var (i := 1) rfl (by first | exact Or.inl rfl | exact Or.inr (Or.inl rfl) | exact Or.inr (Or.inr rfl)))))) (by exact ss_one (by exact s_ret (by exact v_of (by exact p_var (i := 2) rfl (by first | exact Or.inl rfl | exact Or.inr (Or.inl rfl) | exact Or.inr (Or.inr rfl)))))))) (by exact ss_nil)) (by exact ss_cons (by exact s_set (i := 3) sc.nd rfl (by first | exact Or.inl rfl | exact Or.inr rfl) (by exact v_of (by exact p_ix ix_seq d_ix (by exact p_ixO (i := 0) rfl (by first | exact Or.inl rfl | exact Or.inr (Or.inl rfl) | exact Or.inr (Or.inr rfl)) (by exact p_int) (fun _ _ => rfl)) (by exact p_op op_mod d_mod (by exact p_callT call_int1 k_int rfl T.b_int (by decide +kernel) (by exact ps_cons' (by exact p_ixO (i := 0) rfl (by first | exact Or.inl rfl | exact Or.inr (Or.inl rfl) | exact Or.inr (Or.inr rfl)) (by exact p_int) (fun _ _ => rfl)) (by exact ps_nil'))) (by exact p_callB c_len k_len rfl T.b_len PySem.boot_len (by exact ps_cons' (by exact p_ixO (i := 0) rfl (by first | exact Or.inl rfl | exact Or.inr (Or.inl rfl) | exact Or.inr (Or.inr rfl)) (by exact p_int) (fun _ _ => rfl)) (by exact ps_nil')))) (fun _ _ => rfl)))) (by exact ss_cons (by exact s_set (i := 4) sc.nd rfl (by first | exact Or.inl rfl | exact Or.inr rfl) (by exact v_of (by exact p_op op_mod d_mod (by exact p_callT call_int1 k_int rfl T.b_int (by decide +kernel) (by exact ps_cons' (by exact p_op o_add d_add (by exact p_op o_add d_add (by exact p_op op_mul d_mul (by exact p_var (i := 3) rfl (by first | exact Or.inl rfl | exact Or.inr (Or.inl rfl) | exact Or.inr (Or.inr rfl))) (by exact p_int)) (by exact p_op op_mul d_mul (by exact p_ixO (i := 0) rfl (by first | exact Or.inl rfl | exact Or.inr (Or.inl rfl) | exact Or.inr (Or.inr rfl)) (by exact p_int) (fun _ _ => rfl)) (by exact p_int))) (by exact p_int)) (by exact ps_nil'))) (by exact p_int)))) (by exact ss_one (by exact s_ret (by exact v_of (by exact p_op op_mod d_mod (by exact p_op op_fdiv d_div (by exact p_op op_mod d_mod (by exact p_callT call_int1 k_int rfl T.b_int (by decide +kernel) (by exact ps_cons' (by exact p_op o_add d_add (by exact p_op o_add d_add (by exact p_op op_mul d_mul (by exact p_var (i := 4) rfl (by first | exact Or.inl rfl | exact Or.inr (Or.inl rfl) | exact Or.inr (Or.inr rfl))) (by exact p_var (i := 4) rfl (by first | exact Or.inl rfl | exact Or.inr (Or.inl rfl) | exact Or.inr (Or.inr rfl)))) (by exact p_op op_mul d_mul (by exact p_var (i := 4) rfl (by first | exact Or.inl rfl | exact Or.inr (Or.inl rfl) | exact Or.inr (Or.inr rfl))) (by exact p_int))) (by exact p_op op_mul d_mul (by exact p_ixO (i := 0) rfl (by first | exact Or.inl rfl | exact Or.inr (Or.inl rfl) | exact Or.inr (Or.inr rfl)) (by exact p_int) (fun _ _ => rfl)) (by exact p_int))) (by exact ps_nil'))) (by exact p_int)) (by exact p_int)) (by exact p_var (i := 1) rfl (by first | exact Or.inl rfl | exact Or.inr (Or.inl rfl) | exact Or.inr (Or.inr rfl)))))))))))
theorem sc__law_pick : FnScope nm__law_pick ["bag", "some"] (defScope (top 13)) := ⟨rfl, rfl, rfl, by decide +kernel, rfl, by decide +kernel, by decide +kernel⟩
theorem ok__law_pick {P : Program} {w : World} {K : PySem.W.Frag} {mg : Str → Option Value} {base : Heap} {a : Nat → Addr} {fd : Nat → FuncData} {tk : Tok} (T : Txt K mg a fd tk) (F : Fun K "_law_pick" "_law_pick" (top 13) (a 6) (fd 6)) (G__law_draw : FnOk P w K mg base CX0 1 (a 5) (fd 5) ["bag", "many"] (spF noX K (["bag", "many"] : List Str).length s__law_draw)) :
    FnOk P w K mg base CX0 2 (a 6) (fd 6) ["bag", "some"] (spF noX K (["bag", "some"] : List Str).length s__law_pick) := by
  have sc := sc__law_pick
  refine fn_sem F sc fun cdv A outer s H E W hr => ?_
  exact ss_one (by exact s_ret (by exact v_ix ix_seq d_ix (by exact v_of (by exact p_var (i := 1) rfl (by first | exact Or.inl rfl | exact Or.inr (Or.inl rfl) | exact Or.inr (Or.inr rfl)))) (by exact v_callIO (ps := ["bag", "many"]) (i := 0) G__law_draw (hr.mono (by decide)) T.g__law_draw T.k__law_draw T.n__law_draw pass0 rfl (by first | exact Or.inl rfl | exact Or.inr (Or.inl rfl) | exact Or.inr (Or.inr rfl)) (by exact vs_cons (by exact v_of (by exact p_callB c_len k_len rfl T.b_len PySem.boot_len (by exact ps_cons' (by exact p_var (i := 1) rfl (by first | exact Or.inl rfl | exact Or.inr (Or.inl rfl) | exact Or.inr (Or.inr rfl))) (by exact ps_nil')))) (by exact vs_nil))) (fun _ _ => rfl)))
theorem sc__law_same : FnScope nm__law_same ["found", "due"] (defScope (top 14)) := ⟨rfl, rfl, rfl, by decide +kernel, rfl, by decide +kernel, by decide +kernel⟩
theorem st__law_same {P : Program} {w : World} {K : PySem.W.Frag} {mg : Str → Option Value} {base : Heap} {a : Nat → Addr} {fd : Nat → FuncData} {tk : Tok} (T : Txt K mg a fd tk) (F : Fun K "_law_same" "_law_same" (top 14) (a 7) (fd 7))  {n : Nat} (G__law_same : FnOk P w K mg base CX0 (n + 1) (a 7) (fd 7) ["found", "due"] (spF noX K (["found", "due"] : List Str).length (s__law_same n))) :
    FnOk P w K mg base CX0 (n + 2) (a 7) (fd 7) ["found", "due"] (spF noX K (["found", "due"] : List Str).length (s__law_same (n + 1))) := by
  have sc := sc__law_same
  refine fn_sem F sc fun cdv A outer s H E W hr => ?_
  exact ss_cons (by exact s_if (by exact q_cmpB (b := false) op_isN d_isN (by exact p_var (i := 1) rfl (by first | exact Or.inl rfl | exact Or.inr (Or.inl rfl) | exact Or.inr (Or.inr rfl))) (by exact p_non) (nomark _)) (by exact ss_one (by exact s_ret (by exact v_of (by exact p_cmp op_isN d_isN (by exact p_var (i := 0) rfl (by first | exact Or.inl rfl | exact Or.inr (Or.inl rfl) | exact Or.inr (Or.inr rfl))) (by exact p_non) (nomark _))))) (by exact ss_nil)) (by exact ss_cons (by exact s_if (by exact q_bool (by exact q_or (by exact q_valB (b := false) (by exact p_isi (T := "bool") (by decide) T.b_isinstance T.b_bool (by decide +kernel) (by exact p_var (i := 1) rfl (by first | exact Or.inl rfl | exact Or.inr (Or.inl rfl) | exact Or.inr (Or.inr rfl))))) (by exact q_or1 (by exact q_valB (b := false) (by exact p_isi (T := "bool") (by decide) T.b_isinstance T.b_bool (by decide +kernel) (by exact p_var (i := 0) rfl (by first | exact Or.inl rfl | exact Or.inr (Or.inl rfl) | exact Or.inr (Or.inr rfl)))))))) (by exact ss_one (by exact s_ret (by exact v_and (by exact v_of (by exact p_isi (T := "bool") (by decide) T.b_isinstance T.b_bool (by decide +kernel) (by exact p_var (i := 1) rfl (by first | exact Or.inl rfl | exact Or.inr (Or.inl rfl) | exact Or.inr (Or.inr rfl))))) (by exact v_and (by exact v_of (by exact p_isi (T := "bool") (by decide) T.b_isinstance T.b_bool (by decide +kernel) (by exact p_var (i := 0) rfl (by first | exact Or.inl rfl | exact Or.inr (Or.inl rfl) | exact Or.inr (Or.inr rfl))))) (by exact v_one (by exact v_of (by exact p_cmp (o_eq hr.units) d_eq (by exact p_var (i := 0) rfl (by first | exact Or.inl rfl | exact Or.inr (Or.inl rfl) | exact Or.inr (Or.inr rfl))) (by exact p_var (i := 1) rfl (by first | exact Or.inl rfl | exact Or.inr (Or.inl rfl) | exact Or.inr (Or.inr rfl))) (nomark _)))))))) (by exact ss_nil)) (by exact ss_cons (by exact s_if (by exact q_valB (b := false) (by exact p_isi (T := "int") (by decide) T.b_isinstance T.b_int (by decide +kernel) (by exact p_var (i := 1) rfl (by first | exact Or.inl rfl | exact Or.inr (Or.inl rfl) | exact Or.inr (Or.inr rfl))))) (by exact ss_one (by exact s_ret (by exact v_and (by exact v_of (by exact p_isi (T := "int") (by decide) T.b_isinstance T.b_int (by decide +kernel) (by exact p_var (i := 0) rfl (by first | exact Or.inl rfl | exact Or.inr (Or.inl rfl) | exact Or.inr (Or.inr rfl))))) (by exact v_one (by exact v_of (by exact p_cmp (o_eq hr.units) d_eq (by exact p_var (i := 0) rfl (by first | exact Or.inl rfl | exact Or.inr (Or.inl rfl) | exact Or.inr (Or.inr rfl))) (by exact p_var (i := 1) rfl (by first | exact Or.inl rfl | exact Or.inr (Or.inl rfl) | exact Or.inr (Or.inr rfl))) (nomark _))))))) (by exact ss_nil)) (by exact ss_cons (by exact s_if (by exact q_valB (b := false) (by exact p_isi (T := "str") (by decide) T.b_isinstance T.b_str (by decide +kernel) (by exact p_var (i := 1) rfl (by first | exact Or.inl rfl | exact Or.inr (Or.inl rfl) | exact Or.inr (Or.inr rfl))))) (by exact ss_one (by exact s_ret (by exact v_and (by exact v_of (by exact p_isi (T := "str") (by decide) T.b_isinstance T.b_str (by decide +kernel) (by exact p_var (i := 0) rfl (by first | exact Or.inl rfl | exact Or.inr (Or.inl rfl) | exact Or.inr (Or.inr rfl))))) (by exact v_one (by exact v_of (by exact p_cmp (o_eq hr.units) d_eq (by exact p_var (i := 0) rfl (by first | exact Or.inl rfl | exact Or.inr (Or.inl rfl) | exact Or.inr (Or.inr rfl))) (by exact p_var (i := 1) rfl (by first | exact Or.inl rfl | exact Or.inr (Or.inl rfl) | exact Or.inr (Or.inr rfl))) (nomark _))))))) (by exact ss_nil)) (by exact ss_cons (by exact s_if (by exact q_bool (by exact q_or (by exact q_not (by exact q_valB (b := false) (by exact p_isi (T := "tuple") (by decide) T.b_isinstance T.b_tuple (by decide +kernel) (by exact p_var (i := 1) rfl (by first | exact Or.inl rfl | exact Or.inr (Or.inl rfl) | exact Or.inr (Or.inr rfl)))))) (by exact q_or (by exact q_not (by exact q_valB (b := false) (by exact p_isi (T := "tuple") (by decide) T.b_isinstance T.b_tuple (by decide +kernel) (by exact p_var (i := 0) rfl (by first | exact Or.inl rfl | exact Or.inr (Or.inl rfl) | exact Or.inr (Or.inr rfl)))))) (by exact q_or1 (by exact q_cmpB (b := false) (o_ne hr.units) d_ne (by exact p_callB c_len k_len rfl T.b_len PySem.boot_len (by exact ps_cons' (by exact p_var (i := 0) rfl (by first | exact Or.inl rfl | exact Or.inr (Or.inl rfl) | exact Or.inr (Or.inr rfl))) (by exact ps_nil'))) (by exact p_callB c_len k_len rfl T.b_len PySem.boot_len (by exact ps_cons' (by exact p_var (i := 1) rfl (by first | exact Or.inl rfl | exact Or.inr (Or.inl rfl) | exact Or.inr (Or.inr rfl))) (by exact ps_nil'))) (nomark _)))))) (by exact ss_one (by exact s_ret (by exact v_of (by exact p_bl)))) (by exact ss_nil)) (by exact ss_cons (by exact s_for PassesOwn.never rfl (by exact it_rng1 T.b_range (by exact vs_cons (by exact v_of (by exact p_callB c_len k_len rfl T.b_len PySem.boot_len (by exact ps_cons' (by exact p_var (i := 1) rfl (by first | exact Or.inl rfl | exact Or.inr (Or.inl rfl) | exact Or.inr (Or.inr rfl))) (by exact ps_nil')))) (by exact vs_nil))) (by exact tg_name 2) (by exact pg_name (i := 2) sc.nd rfl (by first | exact Or.inl rfl | exact Or.inr rfl)) (by exact ss_one (by exact s_if (by exact q_not (by exact q_val (by exact v_call (ps := ["found", "due"]) G__law_same (hr.mono (by omega)) T.g__law_same T.k__law_same T.n__law_same pass0 (by exact vs_cons (by exact v_of (by exact p_ix ix_seq d_ix (by exact p_var (i := 0) rfl (by first | exact Or.inl rfl | exact Or.inr (Or.inl rfl) | exact Or.inr (Or.inr rfl))) (by exact p_var (i := 2) rfl (by first | exact Or.inl rfl | exact Or.inr (Or.inl rfl) | exact Or.inr (Or.inr rfl))) (fun _ _ => rfl))) (by exact vs_cons (by exact v_of (by exact p_ix ix_seq d_ix (by exact p_var (i := 1) rfl (by first | exact Or.inl rfl | exact Or.inr (Or.inl rfl) | exact Or.inr (Or.inr rfl))) (by exact p_var (i := 2) rfl (by first | exact Or.inl rfl | exact Or.inr (Or.inl rfl) | exact Or.inr (Or.inr rfl))) (fun _ _ => rfl))) (by exact vs_nil)))))) (by exact ss_one (by exact s_ret (by exact v_of (by exact p_bl)))) (by exact ss_nil)))) (by exact ss_one (by exact s_ret (by exact v_of (by exact p_bl)))))))))
theorem sc__law_names : FnScope nm__law_names ["bag", "many", "size"] (defScope (top 15)) := ⟨rfl, rfl, rfl, by decide +kernel, rfl, by decide +kernel, by decide +kernel⟩
theorem ok__law_names {P : Program} {w : World} {K : PySem.W.Frag} {mg : Str → Option Value} {base : Heap} {a : Nat → Addr} {fd : Nat → FuncData} {tk : Tok} (T : Txt K mg a fd tk) (F : Fun K "_law_names" "_law_names" (top 15) (a 8) (fd 8)) (G__law_draw : FnOk P w K mg base CX0 1 (a 5) (fd 5) ["bag", "many"] (spF noX K (["bag", "many"] : List Str).length s__law_draw)) :
    FnOk P w K mg base CX0 2 (a 8) (fd 8) ["bag", "many", "size"] (spF noX K (["bag", "many", "size"] : List Str).length s__law_names) := by
  have sc := sc__law_names
  refine fn_sem F sc fun cdv A outer s H E W hr => ?_
  exact ss_cons (by exact s_set (i := 3) sc.nd rfl (by first | exact Or.inl rfl | exact Or.inr rfl) (by exact v_of (by exact p_str))) (by exact ss_cons (by exact s_setN (i := 4) sc.nd rfl (by first | exact Or.inl rfl | exact Or.inr rfl) (by exact n_lst (by exact vs_nil))) (by exact ss_cons (by exact s_for PassesOwn.never rfl (by exact it_rng1 T.b_range (by exact vs_cons (by exact v_of (by exact p_var (i := 1) rfl (by first | exact Or.inl rfl | exact Or.inr (Or.inl rfl) | exact Or.inr (Or.inr rfl)))) (by exact vs_nil))) (by exact tg_name 5) (by exact pg_name (i := 5) sc.nd rfl (by first | exact Or.inl rfl | exact Or.inr rfl)) (by exact ss_cons (by exact s_set (i := 6) sc.nd rfl (by first | exact Or.inl rfl | exact Or.inr rfl) (by exact v_join (by exact v_of (by exact p_str)) (by exact v_new (by exact n_lc (own := [("j", 7)]) rfl sc.nd (by exact it_rng1 T.b_range (by exact vs_cons (by exact v_of (by exact p_var (i := 2) rfl (by first | exact Or.inl rfl | exact Or.inr (Or.inl rfl) | exact Or.inr (Or.inr rfl)))) (by exact vs_nil))) (blkOk_by (own := [("j", 7)]) (N := nm__law_names) (sc := defScope (top 15)) (by decide +kernel)) (by exact tg_name 7) (by decide) (fun _ _ _ _ _ => by exact pg_name (i := 7) sc.nd rfl (by first | exact Or.inl rfl | exact Or.inr rfl)) (fun _ _ _ _ _ => by exact v_ix ix_seq d_ix (by exact v_of (by exact p_var (i := 3) rfl (by first | exact Or.inl rfl | exact Or.inr (Or.inl rfl) | exact Or.inr (Or.inr rfl)))) (by exact v_callIO (ps := ["bag", "many"]) (i := 0) G__law_draw (hr.mono (by decide)) T.g__law_draw T.k__law_draw T.n__law_draw pass0 rfl (by first | exact Or.inl rfl | exact Or.inr (Or.inl rfl) | exact Or.inr (Or.inr rfl)) (by exact vs_cons (by exact v_of (by exact p_int)) (by exact vs_nil))) (fun _ _ => rfl)))))) (by exact ss_cons (by exact s_for PassesOwn.never rfl (by exact it_rng1 T.b_range (by exact vs_cons (by exact v_of (by exact p_int)) (by exact vs_nil))) (by exact tg_name 7) (by exact pg_name (i := 7) sc.nd rfl (by first | exact Or.inl rfl | exact Or.inr rfl)) (by exact ss_cons (by exact s_if (by exact q_cmpB (b := false) o_nin d_nin (by exact p_var (i := 6) rfl (by first | exact Or.inl rfl | exact Or.inr (Or.inl rfl) | exact Or.inr (Or.inr rfl))) (b_var (i := 4) rfl (by first | exact Or.inl rfl | exact Or.inr (Or.inl rfl) | exact Or.inr (Or.inr rfl))) (by rfl)) (by exact ss_one (by exact s_brk)) (by exact ss_nil)) (by exact ss_one (by exact s_set (i := 6) sc.nd rfl (by first | exact Or.inl rfl | exact Or.inr rfl) (by exact v_of (by exact p_op o_add d_add (by exact p_str) (by exact p_callT call_str_int k_str rfl T.b_str (by decide +kernel) (by exact ps_cons' (by exact p_var (i := 7) rfl (by first | exact Or.inl rfl | exact Or.inr (Or.inl rfl) | exact Or.inr (Or.inr rfl))) (by exact ps_nil'))))))))) (by exact ss_one (by exact s_app (i := 4) rfl (by first | exact Or.inl rfl | exact Or.inr (Or.inl rfl) | exact Or.inr (Or.inr rfl)) (by exact v_of (by exact p_var (i := 6) rfl (by first | exact Or.inl rfl | exact Or.inr (Or.inl rfl) | exact Or.inr (Or.inr rfl))))))))) (by exact ss_one (by exact s_ret (by exact v_var (i := 4) rfl (by first | exact Or.inl rfl | exact Or.inr (Or.inl rfl) | exact Or.inr (Or.inr rfl)))))))
theorem sc__law_is_name : FnScope nm__law_is_name ["word"] (defScope (top 16)) := ⟨rfl, rfl, rfl, by decide +kernel, rfl, by decide +kernel, by decide +kernel⟩
theorem ok__law_is_name {P : Program} {w : World} {K : PySem.W.Frag} {mg : Str → Option Value} {base : Heap} {a : Nat → Addr} {fd : Nat → FuncData} {tk : Tok} (T : Txt K mg a fd tk) (F : Fun K "_law_is_name" "_law_is_name" (top 16) (a 9) (fd 9))  :
    FnOk P w K mg base CX0 1 (a 9) (fd 9) ["word"] (spF noX K (["word"] : List Str).length s__law_is_name) := by
  have sc := sc__law_is_name
  refine fn_sem F sc fun cdv A outer s H E W hr => ?_
  exact ss_cons (by exact s_set (i := 1) sc.nd rfl (by first | exact Or.inl rfl | exact Or.inr rfl) (by exact v_of (by exact p_str))) (by exact ss_one (by exact s_ret (by exact v_and (by exact v_of (by exact p_chain op_lt op_lt d_cmpI d_cmpI (by exact p_int) (by exact p_callB c_len k_len rfl T.b_len PySem.boot_len (by exact ps_cons' (by exact p_var (i := 0) rfl (by first | exact Or.inl rfl | exact Or.inr (Or.inl rfl) | exact Or.inr (Or.inr rfl))) (by exact ps_nil'))) (by exact p_int))) (by exact v_one (by exact v_cmp (o_eq hr.units) d_eq (by exact v_callB c_len k_len rfl T.b_len PySem.boot_len (by exact vs_cons (by exact v_new (by exact n_lcif (own := [("sign", 2)]) rfl sc.nd (by exact it_str (by exact v_of (by exact p_var (i := 0) rfl (by first | exact Or.inl rfl | exact Or.inr (Or.inl rfl) | exact Or.inr (Or.inr rfl))))) (blkOk_by (own := [("sign", 2)]) (N := nm__law_is_name) (sc := defScope (top 16)) (by decide +kernel)) (by exact tg_name 2) (by decide) (fun _ _ _ _ _ => by exact pg_name (i := 2) sc.nd rfl (by first | exact Or.inl rfl | exact Or.inr rfl)) (fun _ _ _ _ _ => by exact q_cmpB (b := false) o_nin d_nin (by exact p_var (i := 2) rfl (by first | exact Or.inl rfl | exact Or.inr (Or.inl rfl) | exact Or.inr (Or.inr rfl))) (by exact p_var (i := 1) rfl (by first | exact Or.inl rfl | exact Or.inr (Or.inl rfl) | exact Or.inr (Or.inr rfl))) (by rfl)) (fun _ _ _ _ _ => by exact v_of (by exact p_var (i := 2) rfl (by first | exact Or.inl rfl | exact Or.inr (Or.inl rfl) | exact Or.inr (Or.inr rfl)))))) (by exact vs_nil))) (by exact v_of (by exact p_int)) (nomark _))))))
theorem sc__law_shown : FnScope nm__law_shown ["tree"] (defScope (top 17)) := ⟨rfl, rfl, rfl, by decide +kernel, rfl, by decide +kernel, by decide +kernel⟩
theorem st__law_shown {P : Program} {w : World} {K : PySem.W.Frag} {mg : Str → Option Value} {base : Heap} {a : Nat → Addr} {fd : Nat → FuncData} {tk : Tok} (T : Txt K mg a fd tk) (F : Fun K "_law_shown" "_law_shown" (top 17) (a 10) (fd 10))  {n : Nat} (G__law_shown : FnOk P w K mg base CX0 (n + 1) (a 10) (fd 10) ["tree"] (spF noX K (["tree"] : List Str).length (s__law_shown n))) :
    FnOk P w K mg base CX0 (n + 2) (a 10) (fd 10) ["tree"] (spF noX K (["tree"] : List Str).length (s__law_shown (n + 1))) := by
  have sc := sc__law_shown
  refine fn_sem F sc fun cdv A outer s H E W hr => ?_
  exact ss_one (by exact s_ret (by exact v_if (by exact q_cmpB (b := false) (o_eq hr.units) d_eq (by exact p_callB c_len k_len rfl T.b_len PySem.boot_len (by exact ps_cons' (by exact p_var (i := 0) rfl (by first | exact Or.inl rfl | exact Or.inr (Or.inl rfl) | exact Or.inr (Or.inr rfl))) (by exact ps_nil'))) (by exact p_int) (nomark _)) (by exact v_of (by exact p_ix ix_seq d_ix (by exact p_var (i := 0) rfl (by first | exact Or.inl rfl | exact Or.inr (Or.inl rfl) | exact Or.inr (Or.inr rfl))) (by exact p_int) (fun _ _ => rfl))) (by exact v_op o_add d_add (by exact v_op o_add d_add (by exact v_of (by exact p_op o_add d_add (by exact p_ix ix_seq d_ix (by exact p_var (i := 0) rfl (by first | exact Or.inl rfl | exact Or.inr (Or.inl rfl) | exact Or.inr (Or.inr rfl))) (by exact p_int) (fun _ _ => rfl)) (by exact p_str))) (by exact v_join (by exact v_of (by exact p_str)) (by exact v_new (by exact n_lc (own := [("part", 1)]) rfl sc.nd (by exact it_tup (by exact v_of (by exact p_sl (by exact p_var (i := 0) rfl (by first | exact Or.inl rfl | exact Or.inr (Or.inl rfl) | exact Or.inr (Or.inr rfl))) (by exact o_some (b := false) (by exact p_int)) (by exact o_none)))) (blkOk_by (own := [("part", 1)]) (N := nm__law_shown) (sc := defScope (top 17)) (by decide +kernel)) (by exact tg_name 1) (by decide) (fun _ _ _ _ _ => by exact pg_name (i := 1) sc.nd rfl (by first | exact Or.inl rfl | exact Or.inr rfl)) (fun _ _ _ _ _ => by exact v_call (ps := ["tree"]) G__law_shown (hr.mono (by omega)) T.g__law_shown T.k__law_shown T.n__law_shown pass0 (by exact vs_cons (by exact v_of (by exact p_var (i := 1) rfl (by first | exact Or.inl rfl | exact Or.inr (Or.inl rfl) | exact Or.inr (Or.inr rfl)))) (by exact vs_nil))))))) (by exact v_of (by exact p_str)))))
theorem sc__law_drawn_tree : FnScope nm__law_drawn_tree ["bag"] (defScope (top 18)) := ⟨rfl, rfl, rfl, by decide +kernel, rfl, by decide +kernel, by decide +kernel⟩
theorem ok__law_drawn_tree {P : Program} {w : World} {K : PySem.W.Frag} {mg : Str → Option Value} {base : Heap} {a : Nat → Addr} {fd : Nat → FuncData} {tk : Tok} (T : Txt K mg a fd tk) (F : Fun K "_law_drawn_tree" "_law_drawn_tree" (top 18) (a 11) (fd 11)) (G__law_pick : FnOk P w K mg base CX0 2 (a 6) (fd 6) ["bag", "some"] (spF noX K (["bag", "some"] : List Str).length s__law_pick)) (G__law_draw : FnOk P w K mg base CX0 1 (a 5) (fd 5) ["bag", "many"] (spF noX K (["bag", "many"] : List Str).length s__law_draw)) (G__law_names : FnOk P w K mg base CX0 2 (a 8) (fd 8) ["bag", "many", "size"] (spF noX K (["bag", "many", "size"] : List Str).length s__law_names)) :
    FnOk P w K mg base CX0 3 (a 11) (fd 11) ["bag"] (spF noX K (["bag"] : List Str).length s__law_drawn_tree) := by
  have sc := sc__law_drawn_tree
  refine fn_sem F sc fun cdv A outer s H E W hr => ?_
  exact ss_cons (by exact s_setLcN (i := 1) (own := [("name", 2)]) rfl rfl (sw_true rfl rfl rfl (by decide +kernel)) rfl sc.nd (by exact it_list (by exact v_callIO (ps := ["bag", "many", "size"]) (i := 0) G__law_names (hr.mono (by decide)) T.g__law_names T.k__law_names T.n__law_names pass0 rfl (by first | exact Or.inl rfl | exact Or.inr (Or.inl rfl) | exact Or.inr (Or.inr rfl)) (by exact vs_cons (by exact v_op o_add d_add (by exact v_of (by exact p_int)) (by exact v_callIO (ps := ["bag", "many"]) (i := 0) G__law_draw (hr.mono (by decide)) T.g__law_draw T.k__law_draw T.n__law_draw pass0 rfl (by first | exact Or.inl rfl | exact Or.inr (Or.inl rfl) | exact Or.inr (Or.inr rfl)) (by exact vs_cons (by exact v_of (by exact p_int)) (by exact vs_nil)))) (by exact vs_cons (by exact v_callIO (ps := ["bag", "some"]) (i := 0) G__law_pick (hr.mono (by decide)) T.g__law_pick T.k__law_pick T.n__law_pick pass0 rfl (by first | exact Or.inl rfl | exact Or.inr (Or.inl rfl) | exact Or.inr (Or.inr rfl)) (by exact vs_cons (by exact v_new (by exact n_lst (by exact vs_cons (by exact v_of (by exact p_int)) (by exact vs_cons (by exact v_of (by exact p_int)) (by exact vs_cons (by exact v_of (by exact p_int)) (by exact vs_nil)))))) (by exact vs_nil))) (by exact vs_nil))))) (blkOk_by (own := [("name", 2)]) (N := nm__law_drawn_tree) (sc := defScope (top 18)) (by decide +kernel)) (by exact tg_name 2) (by decide) (fun _ _ _ _ _ => by exact pg_name (i := 2) sc.nd rfl (by first | exact Or.inl rfl | exact Or.inr rfl)) (fun _ _ _ _ _ => by exact v_of (by exact p_tup (by exact ps_cons' (by exact p_var (i := 2) rfl (by first | exact Or.inl rfl | exact Or.inr (Or.inl rfl) | exact Or.inr (Or.inr rfl))) (by exact ps_nil'))))) (by exact ss_cons (by exact s_if (by exact q_cmp (o_eq hr.units) d_eq (by exact v_callIO (ps := ["bag", "many"]) (i := 0) G__law_draw (hr.mono (by decide)) T.g__law_draw T.k__law_draw T.n__law_draw pass0 rfl (by first | exact Or.inl rfl | exact Or.inr (Or.inl rfl) | exact Or.inr (Or.inr rfl)) (by exact vs_cons (by exact v_of (by exact p_int)) (by exact vs_nil))) (by exact v_of (by exact p_int)) (nomark _)) (by exact ss_one (by exact s_for PassesOwn.never rfl (by exact it_rng1 T.b_range (by exact vs_cons (by exact v_callIO (ps := ["bag", "many"]) (i := 0) G__law_draw (hr.mono (by decide)) T.g__law_draw T.k__law_draw T.n__law_draw pass0 rfl (by first | exact Or.inl rfl | exact Or.inr (Or.inl rfl) | exact Or.inr (Or.inr rfl)) (by exact vs_cons (by exact v_of (by exact p_int)) (by exact vs_nil))) (by exact vs_nil))) (by exact tg_name 3) (by exact pg_name (i := 3) sc.nd rfl (by first | exact Or.inl rfl | exact Or.inr rfl)) (by exact ss_one (by exact s_setIx (i := 1) (ps := ⟨0, 0, 0, 0⟩) rfl (by first | exact Or.inl rfl | exact Or.inr (Or.inl rfl) | exact Or.inr (Or.inr rfl)) (by exact p_int) (by exact v_tup (by exact vs_cons (by exact v_callIO (ps := ["bag", "some"]) (i := 0) G__law_pick (hr.mono (by decide)) T.g__law_pick T.k__law_pick T.n__law_pick pass0 rfl (by first | exact Or.inl rfl | exact Or.inr (Or.inl rfl) | exact Or.inr (Or.inr rfl)) (by exact vs_cons (by exact v_new (by exact n_lst (by exact vs_cons (by exact v_of (by exact p_str)) (by exact vs_cons (by exact v_of (by exact p_str)) (by exact vs_cons (by exact v_of (by exact p_str)) (by exact vs_nil)))))) (by exact vs_nil))) (by exact vs_cons (by exact v_of (by exact p_ixO (i := 1) rfl (by first | exact Or.inl rfl | exact Or.inr (Or.inl rfl) | exact Or.inr (Or.inr rfl)) (by exact p_int) (fun _ _ => rfl))) (by exact vs_nil)))))))) (by exact ss_nil)) (by exact ss_cons (by exact s_for PassesOwn.never rfl (by exact it_rng1 T.b_range (by exact vs_cons (by exact v_of (by exact p_int)) (by exact vs_nil))) (by exact tg_name 3) (by exact pg_name (i := 3) sc.nd rfl (by first | exact Or.inl rfl | exact Or.inr rfl)) (by exact ss_one (by exact s_if (by exact q_cmpB (b := false) op_gt d_cmpI (by exact p_callB c_len k_len rfl T.b_len PySem.boot_len (by exact ps_cons' (b_var (i := 1) rfl (by first | exact Or.inl rfl | exact Or.inr (Or.inl rfl) | exact Or.inr (Or.inr rfl))) (by exact ps_nil'))) (by exact p_int) (nomark _)) (by exact ss_cons (by exact s_set (i := 4) sc.nd rfl (by first | exact Or.inl rfl | exact Or.inr rfl) (by exact v_op o_add d_add (by exact v_of (by exact p_int)) (by exact v_callIO (ps := ["bag", "many"]) (i := 0) G__law_draw (hr.mono (by decide)) T.g__law_draw T.k__law_draw T.n__law_draw pass0 rfl (by first | exact Or.inl rfl | exact Or.inr (Or.inl rfl) | exact Or.inr (Or.inr rfl)) (by exact vs_cons (by exact v_of (by exact p_sc (by exact p_callB c_len k_len rfl T.b_len PySem.boot_len (by exact ps_cons' (b_var (i := 1) rfl (by first | exact Or.inl rfl | exact Or.inr (Or.inl rfl) | exact Or.inr (Or.inr rfl))) (by exact ps_nil'))))) (by exact vs_nil))))) (by exact ss_one (by exact s_setN (i := 1) sc.nd rfl (by first | exact Or.inl rfl | exact Or.inr rfl) (by exact n_cat (by exact v_new (by exact n_lst (by exact vs_cons (by exact v_op o_add d_add (by exact v_tup (by exact vs_cons (by exact v_callIO (ps := ["bag", "some"]) (i := 0) G__law_pick (hr.mono (by decide)) T.g__law_pick T.k__law_pick T.n__law_pick pass0 rfl (by first | exact Or.inl rfl | exact Or.inr (Or.inl rfl) | exact Or.inr (Or.inr rfl)) (by exact vs_cons (by exact v_new (by exact n_lst (by exact vs_cons (by exact v_of (by exact p_str)) (by exact vs_cons (by exact v_of (by exact p_str)) (by exact vs_cons (by exact v_of (by exact p_str)) (by exact vs_cons (by exact v_of (by exact p_str)) (by exact vs_cons (by exact v_of (by exact p_str)) (by exact vs_nil)))))))) (by exact vs_nil))) (by exact vs_nil))) (by exact v_callT call_tuple_of k_tuple rfl T.b_tuple (by decide +kernel) (by exact vs_cons (by exact v_new (by exact n_sl (by exact s_var (i := 1) rfl (by first | exact Or.inl rfl | exact Or.inr (Or.inl rfl) | exact Or.inr (Or.inr rfl))) (by exact o_none) (by exact o_some (b := false) (by exact p_var (i := 4) rfl (by first | exact Or.inl rfl | exact Or.inr (Or.inl rfl) | exact Or.inr (Or.inr rfl)))))) (by exact vs_nil)))) (by exact vs_nil)))) (by exact v_new (by exact n_sl (by exact s_var (i := 1) rfl (by first | exact Or.inl rfl | exact Or.inr (Or.inl rfl) | exact Or.inr (Or.inr rfl))) (by exact o_some (b := false) (by exact p_var (i := 4) rfl (by first | exact Or.inl rfl | exact Or.inr (Or.inl rfl) | exact Or.inr (Or.inr rfl)))) (by exact o_none))))))) (by exact ss_nil)))) (by exact ss_one (by exact s_ret (by exact v_if (by exact q_cmpB (b := false) (o_eq hr.units) d_eq (by exact p_callB c_len k_len rfl T.b_len PySem.boot_len (by exact ps_cons' (b_var (i := 1) rfl (by first | exact Or.inl rfl | exact Or.inr (Or.inl rfl) | exact Or.inr (Or.inr rfl))) (by exact ps_nil'))) (by exact p_int) (nomark _)) (by exact v_of (by exact p_ixO (i := 1) rfl (by first | exact Or.inl rfl | exact Or.inr (Or.inl rfl) | exact Or.inr (Or.inr rfl)) (by exact p_int) (fun _ _ => rfl))) (by exact v_op o_add d_add (by exact v_of (by exact p_tup (by exact ps_cons' (by exact p_str) (by exact ps_nil')))) (by exact v_callT call_tuple_of k_tuple rfl T.b_tuple (by decide +kernel) (by exact vs_cons (by exact v_var (i := 1) rfl (by first | exact Or.inl rfl | exact Or.inr (Or.inl rfl) | exact Or.inr (Or.inr rfl))) (by exact vs_nil)))))))))
theorem sc__law_read : FnScope nm__law_read ["text"] (defScope (top 19)) := ⟨rfl, rfl, rfl, by decide +kernel, rfl, by decide +kernel, by decide +kernel⟩
theorem ok__law_read {P : Program} {w : World} {K : PySem.W.Frag} {mg : Str → Option Value} {base : Heap} {a : Nat → Addr} {fd : Nat → FuncData} {tk : Tok} (T : Txt K mg a fd tk) (F : Fun K "_law_read" "_law_read" (top 19) (a 12) (fd 12)) (G__law_is_name : FnOk P w K mg base CX0 1 (a 9) (fd 9) ["word"] (spF noX K (["word"] : List Str).length s__law_is_name)) :
    FnOk P w K mg base CX0 2 (a 12) (fd 12) ["text"] (spF noX K (["text"] : List Str).length s__law_read) := by
  have sc := sc__law_read
  refine fn_sem F sc fun cdv A outer s H E W hr => ?_
  exact ss_cons (by exact s_par3 (i := 1) (j := 2) (l := 3) rfl sc.nd rfl rfl rfl (by decide) (by decide) (by decide) rfl rfl rfl (by exact xs_cons (by exact x_lst (by exact xs_cons (by exact x_new (by exact n_lst (by exact vs_nil))) (by exact xs_nil))) (by exact xs_cons (by exact x_val (by exact v_of (by exact p_int))) (by exact xs_cons (by exact x_val (by exact v_of (by exact p_bl))) (by exact xs_nil)))) (by rfl)) (by exact ss_cons (by exact s_for PassesOwn.never rfl (by exact it_rng1 T.b_range (by exact vs_cons (by exact v_of (by exact p_op o_add d_add (by exact p_op op_mul d_mul (by exact p_int) (by exact p_callB c_len k_len rfl T.b_len PySem.boot_len (by exact ps_cons' (by exact p_var (i := 0) rfl (by first | exact Or.inl rfl | exact Or.inr (Or.inl rfl) | exact Or.inr (Or.inr rfl))) (by exact ps_nil')))) (by exact p_int))) (by exact vs_nil))) (by exact tg_name 4) (by exact pg_name (i := 4) sc.nd rfl (by first | exact Or.inl rfl | exact Or.inr rfl)) (by exact ss_cons (by exact s_if (by exact q_cmpB (b := false) op_ge d_cmpI (by exact p_var (i := 2) rfl (by first | exact Or.inl rfl | exact Or.inr (Or.inl rfl) | exact Or.inr (Or.inr rfl))) (by exact p_callB c_len k_len rfl T.b_len PySem.boot_len (by exact ps_cons' (by exact p_var (i := 0) rfl (by first | exact Or.inl rfl | exact Or.inr (Or.inl rfl) | exact Or.inr (Or.inr rfl))) (by exact ps_nil'))) (nomark _)) (by exact ss_one (by exact s_brk)) (by exact ss_nil)) (by exact ss_one (by exact s_if (by exact q_not (by exact q_tru (b := false) (by exact p_var (i := 3) rfl (by first | exact Or.inl rfl | exact Or.inr (Or.inl rfl) | exact Or.inr (Or.inr rfl))))) (by exact ss_cons (by exact s_set (i := 5) sc.nd rfl (by first | exact Or.inl rfl | exact Or.inr rfl) (by exact v_of (by exact p_var (i := 2) rfl (by first | exact Or.inl rfl | exact Or.inr (Or.inl rfl) | exact Or.inr (Or.inr rfl))))) (by exact ss_cons (by exact s_for PassesOwn.never rfl (by exact it_rng1 T.b_range (by exact vs_cons (by exact v_of (by exact p_int)) (by exact vs_nil))) (by exact tg_name 6) (by exact pg_name (i := 6) sc.nd rfl (by first | exact Or.inl rfl | exact Or.inr rfl)) (by exact ss_one (by exact s_if (by exact q_bool (by exact q_and (by exact q_cmpB (b := false) op_lt d_cmpI (by exact p_var (i := 5) rfl (by first | exact Or.inl rfl | exact Or.inr (Or.inl rfl) | exact Or.inr (Or.inr rfl))) (by exact p_callB c_len k_len rfl T.b_len PySem.boot_len (by exact ps_cons' (by exact p_var (i := 0) rfl (by first | exact Or.inl rfl | exact Or.inr (Or.inl rfl) | exact Or.inr (Or.inr rfl))) (by exact ps_nil'))) (nomark _)) (by exact q_and1 (by exact q_val (by exact v_call (ps := ["word"]) G__law_is_name (hr.mono (by decide)) T.g__law_is_name T.k__law_is_name T.n__law_is_name pass0 (by exact vs_cons (by exact v_of (by exact p_ix ix_seq d_ix (by exact p_var (i := 0) rfl (by first | exact Or.inl rfl | exact Or.inr (Or.inl rfl) | exact Or.inr (Or.inr rfl))) (by exact p_var (i := 5) rfl (by first | exact Or.inl rfl | exact Or.inr (Or.inl rfl) | exact Or.inr (Or.inr rfl))) (fun _ _ => rfl))) (by exact vs_nil))))))) (by exact ss_one (by exact s_set (i := 5) sc.nd rfl (by first | exact Or.inl rfl | exact Or.inr rfl) (by exact v_of (by exact p_op o_add d_add (by exact p_var (i := 5) rfl (by first | exact Or.inl rfl | exact Or.inr (Or.inl rfl) | exact Or.inr (Or.inr rfl))) (by exact p_int))))) (by exact ss_nil)))) (by exact ss_cons (by exact s_if (by exact q_not (by exact q_val (by exact v_call (ps := ["word"]) G__law_is_name (hr.mono (by decide)) T.g__law_is_name T.k__law_is_name T.n__law_is_name pass0 (by exact vs_cons (by exact v_of (by exact p_sl (by exact p_var (i := 0) rfl (by first | exact Or.inl rfl | exact Or.inr (Or.inl rfl) | exact Or.inr (Or.inr rfl))) (by exact o_some (b := false) (by exact p_var (i := 2) rfl (by first | exact Or.inl rfl | exact Or.inr (Or.inl rfl) | exact Or.inr (Or.inr rfl)))) (by exact o_some (b := false) (by exact p_var (i := 5) rfl (by first | exact Or.inl rfl | exact Or.inr (Or.inl rfl) | exact Or.inr (Or.inr rfl)))))) (by exact vs_nil))))) (by exact ss_one (by exact s_ret (by exact v_of (by exact p_non)))) (by exact ss_nil)) (by exact ss_one (by exact s_if (by exact q_cmpB (b := false) (o_eq hr.units) d_eq (by exact p_sl (by exact p_var (i := 0) rfl (by first | exact Or.inl rfl | exact Or.inr (Or.inl rfl) | exact Or.inr (Or.inr rfl))) (by exact o_some (b := false) (by exact p_var (i := 5) rfl (by first | exact Or.inl rfl | exact Or.inr (Or.inl rfl) | exact Or.inr (Or.inr rfl)))) (by exact o_some (b := false) (by exact p_op o_add d_add (by exact p_var (i := 5) rfl (by first | exact Or.inl rfl | exact Or.inr (Or.inl rfl) | exact Or.inr (Or.inr rfl))) (by exact p_int)))) (by exact p_str) (nomark _)) (by exact ss_cons (by exact s_appN (i := 1) rfl (by first | exact Or.inl rfl | exact Or.inr (Or.inl rfl) | exact Or.inr (Or.inr rfl)) (by exact n_lst (by exact vs_cons (by exact v_of (by exact p_sl (by exact p_var (i := 0) rfl (by first | exact Or.inl rfl | exact Or.inr (Or.inl rfl) | exact Or.inr (Or.inr rfl))) (by exact o_some (b := false) (by exact p_var (i := 2) rfl (by first | exact Or.inl rfl | exact Or.inr (Or.inl rfl) | exact Or.inr (Or.inr rfl)))) (by exact o_some (b := false) (by exact p_var (i := 5) rfl (by first | exact Or.inl rfl | exact Or.inr (Or.inl rfl) | exact Or.inr (Or.inr rfl)))))) (by exact vs_nil)))) (by exact ss_one (by exact s_set (i := 2) sc.nd rfl (by first | exact Or.inl rfl | exact Or.inr rfl) (by exact v_of (by exact p_op o_add d_add (by exact p_var (i := 5) rfl (by first | exact Or.inl rfl | exact Or.inr (Or.inl rfl) | exact Or.inr (Or.inr rfl))) (by exact p_int)))))) (by exact ss_cons (by exact s_app2 (i := 1) rfl (by first | exact Or.inl rfl | exact Or.inr (Or.inl rfl) | exact Or.inr (Or.inr rfl)) (by exact p_neg) (by exact p_tup (by exact ps_cons' (by exact p_sl (by exact p_var (i := 0) rfl (by first | exact Or.inl rfl | exact Or.inr (Or.inl rfl) | exact Or.inr (Or.inr rfl))) (by exact o_some (b := false) (by exact p_var (i := 2) rfl (by first | exact Or.inl rfl | exact Or.inr (Or.inl rfl) | exact Or.inr (Or.inr rfl)))) (by exact o_some (b := false) (by exact p_var (i := 5) rfl (by first | exact Or.inl rfl | exact Or.inr (Or.inl rfl) | exact Or.inr (Or.inr rfl))))) (by exact ps_nil'))) (fun _ _ => rfl)) (by exact ss_one (by exact s_par2 (i := 2) (j := 3) rfl sc.nd rfl rfl (by decide) rfl rfl (by exact xs_cons (by exact x_val (by exact v_of (by exact p_var (i := 5) rfl (by first | exact Or.inl rfl | exact Or.inr (Or.inl rfl) | exact Or.inr (Or.inr rfl))))) (by exact xs_cons (by exact x_val (by exact v_of (by exact p_bl))) (by exact xs_nil))) (by rfl))))))))) (by exact ss_one (by exact s_if (by exact q_bool (by exact q_and (by exact q_cmpB (b := false) (o_eq hr.units) d_eq (by exact p_ix ix_seq d_ix (by exact p_var (i := 0) rfl (by first | exact Or.inl rfl | exact Or.inr (Or.inl rfl) | exact Or.inr (Or.inr rfl))) (by exact p_var (i := 2) rfl (by first | exact Or.inl rfl | exact Or.inr (Or.inl rfl) | exact Or.inr (Or.inr rfl))) (fun _ _ => rfl)) (by exact p_str) (nomark _)) (by exact q_and1 (by exact q_cmpB (b := false) op_gt d_cmpI (by exact p_callB c_len k_len rfl T.b_len PySem.boot_len (by exact ps_cons' (b_var (i := 1) rfl (by first | exact Or.inl rfl | exact Or.inr (Or.inl rfl) | exact Or.inr (Or.inr rfl))) (by exact ps_nil'))) (by exact p_int) (nomark _))))) (by exact ss_one (by exact s_par2 (i := 2) (j := 3) rfl sc.nd rfl rfl (by decide) rfl rfl (by exact xs_cons (by exact x_val (by exact v_of (by exact p_op o_add d_add (by exact p_var (i := 2) rfl (by first | exact Or.inl rfl | exact Or.inr (Or.inl rfl) | exact Or.inr (Or.inr rfl))) (by exact p_int)))) (by exact xs_cons (by exact x_val (by exact v_of (by exact p_bl))) (by exact xs_nil))) (by rfl))) (by exact ss_one (by exact s_if (by exact q_bool (by exact q_and (by exact q_cmpB (b := false) (o_eq hr.units) d_eq (by exact p_ix ix_seq d_ix (by exact p_var (i := 0) rfl (by first | exact Or.inl rfl | exact Or.inr (Or.inl rfl) | exact Or.inr (Or.inr rfl))) (by exact p_var (i := 2) rfl (by first | exact Or.inl rfl | exact Or.inr (Or.inl rfl) | exact Or.inr (Or.inr rfl))) (fun _ _ => rfl)) (by exact p_str) (nomark _)) (by exact q_and1 (by exact q_cmpB (b := false) op_gt d_cmpI (by exact p_callB c_len k_len rfl T.b_len PySem.boot_len (by exact ps_cons' (b_var (i := 1) rfl (by first | exact Or.inl rfl | exact Or.inr (Or.inl rfl) | exact Or.inr (Or.inr rfl))) (by exact ps_nil'))) (by exact p_int) (nomark _))))) (by exact ss_cons (by exact s_set (i := 7) sc.nd rfl (by first | exact Or.inl rfl | exact Or.inr rfl) (by exact v_callT call_tuple_of k_tuple rfl T.b_tuple (by decide +kernel) (by exact vs_cons (by exact v_pop (i := 1) rfl (by first | exact Or.inl rfl | exact Or.inr (Or.inl rfl) | exact Or.inr (Or.inr rfl))) (by exact vs_nil)))) (by exact ss_cons (by exact s_app2 (i := 1) rfl (by first | exact Or.inl rfl | exact Or.inr (Or.inl rfl) | exact Or.inr (Or.inr rfl)) (by exact p_neg) (by exact p_var (i := 7) rfl (by first | exact Or.inl rfl | exact Or.inr (Or.inl rfl) | exact Or.inr (Or.inr rfl))) (fun _ _ => rfl)) (by exact ss_one (by exact s_set (i := 2) sc.nd rfl (by first | exact Or.inl rfl | exact Or.inr rfl) (by exact v_of (by exact p_op o_add d_add (by exact p_var (i := 2) rfl (by first | exact Or.inl rfl | exact Or.inr (Or.inl rfl) | exact Or.inr (Or.inr rfl))) (by exact p_int))))))) (by exact ss_one (by exact s_ret (by exact v_of (by exact p_non)))))))))))) (by exact ss_one (by exact s_ret (by exact v_if (by exact q_bool (by exact q_and (by exact q_tru (b := false) (by exact p_var (i := 3) rfl (by first | exact Or.inl rfl | exact Or.inr (Or.inl rfl) | exact Or.inr (Or.inr rfl)))) (by exact q_and (by exact q_cmpB (b := false) (o_eq hr.units) d_eq (by exact p_callB c_len k_len rfl T.b_len PySem.boot_len (by exact ps_cons' (b_var (i := 1) rfl (by first | exact Or.inl rfl | exact Or.inr (Or.inl rfl) | exact Or.inr (Or.inr rfl))) (by exact ps_nil'))) (by exact p_int) (nomark _)) (by exact q_and1 (by exact q_cmpB (b := false) (o_eq hr.units) d_eq (by exact p_callB c_len k_len rfl T.b_len PySem.boot_len (by exact ps_cons' (by exact p_ix ix_seq d_ix (b_var (i := 1) rfl (by first | exact Or.inl rfl | exact Or.inr (Or.inl rfl) | exact Or.inr (Or.inr rfl))) (by exact p_int) (fun _ _ => rfl)) (by exact ps_nil'))) (by exact p_int) (nomark _)))))) (by exact v_of (by exact p_ixO2 (i := 1) rfl (by first | exact Or.inl rfl | exact Or.inr (Or.inl rfl) | exact Or.inr (Or.inr rfl)) (by exact p_int) (fun _ _ => rfl) (by exact p_int) (fun _ _ => rfl))) (by exact v_of (by exact p_non))))))
theorem sc__law_spoilt : FnScope nm__law_spoilt ["bag", "text"] (defScope (top 21)) := ⟨rfl, rfl, rfl, by decide +kernel, rfl, by decide +kernel, by decide +kernel⟩
theorem ok__law_spoilt {P : Program} {w : World} {K : PySem.W.Frag} {mg : Str → Option Value} {base : Heap} {a : Nat → Addr} {fd : Nat → FuncData} {tk : Tok} (T : Txt K mg a fd tk) (F : Fun K "_law_spoilt" "_law_spoilt" (top 21) (a 14) (fd 14)) (G__law_pick : FnOk P w K mg base CX0 2 (a 6) (fd 6) ["bag", "some"] (spF noX K (["bag", "some"] : List Str).length s__law_pick)) (G__law_draw : FnOk P w K mg base CX0 1 (a 5) (fd 5) ["bag", "many"] (spF noX K (["bag", "many"] : List Str).length s__law_draw)) :
    FnOk P w K mg base CX0 3 (a 14) (fd 14) ["bag", "text"] (spF noX K (["bag", "text"] : List Str).length s__law_spoilt) := by
  have sc := sc__law_spoilt
  refine fn_sem F sc fun cdv A outer s H E W hr => ?_
  exact ss_cons (by exact s_par2 (i := 2) (j := 3) rfl sc.nd rfl rfl (by decide) rfl rfl (by exact xs_cons (by exact x_val (by exact v_callIO (ps := ["bag", "many"]) (i := 0) G__law_draw (hr.mono (by decide)) T.g__law_draw T.k__law_draw T.n__law_draw pass0 rfl (by first | exact Or.inl rfl | exact Or.inr (Or.inl rfl) | exact Or.inr (Or.inr rfl)) (by exact vs_cons (by exact v_of (by exact p_op o_add d_add (by exact p_callB c_len k_len rfl T.b_len PySem.boot_len (by exact ps_cons' (by exact p_var (i := 1) rfl (by first | exact Or.inl rfl | exact Or.inr (Or.inl rfl) | exact Or.inr (Or.inr rfl))) (by exact ps_nil'))) (by exact p_int))) (by exact vs_nil)))) (by exact xs_cons (by exact x_val (by exact v_callIO (ps := ["bag", "many"]) (i := 0) G__law_draw (hr.mono (by decide)) T.g__law_draw T.k__law_draw T.n__law_draw pass0 rfl (by first | exact Or.inl rfl | exact Or.inr (Or.inl rfl) | exact Or.inr (Or.inr rfl)) (by exact vs_cons (by exact v_of (by exact p_int)) (by exact vs_nil)))) (by exact xs_nil))) (by rfl)) (by exact ss_cons (by exact s_set (i := 4) sc.nd rfl (by first | exact Or.inl rfl | exact Or.inr rfl) (by exact v_callIO (ps := ["bag", "some"]) (i := 0) G__law_pick (hr.mono (by decide)) T.g__law_pick T.k__law_pick T.n__law_pick pass0 rfl (by first | exact Or.inl rfl | exact Or.inr (Or.inl rfl) | exact Or.inr (Or.inr rfl)) (by exact vs_cons (by exact v_new (by exact n_lst (by exact vs_cons (by exact v_of (by exact p_str)) (by exact vs_cons (by exact v_of (by exact p_str)) (by exact vs_cons (by exact v_of (by exact p_str)) (by exact vs_cons (by exact v_of (by exact p_str)) (by exact vs_cons (by exact v_of (by exact p_str)) (by exact vs_cons (by exact v_of (by exact p_str)) (by exact vs_cons (by exact v_of (by exact p_str)) (by exact vs_cons (by exact v_of (by exact p_str)) (by exact vs_cons (by exact v_of (by exact p_str)) (by exact vs_cons (by exact v_of (by exact p_str)) (by exact vs_cons (by exact v_of (by exact p_str)) (by exact vs_cons (by exact v_of (by exact p_str)) (by exact vs_cons (by exact v_of (by exact p_str)) (by exact vs_nil)))))))))))))))) (by exact vs_nil)))) (by exact ss_cons (by exact s_if (by exact q_cmpB (b := false) (o_eq hr.units) d_eq (by exact p_var (i := 3) rfl (by first | exact Or.inl rfl | exact Or.inr (Or.inl rfl) | exact Or.inr (Or.inr rfl))) (by exact p_int) (nomark _)) (by exact ss_one (by exact s_ret (by exact v_of (by exact p_sl (by exact p_var (i := 1) rfl (by first | exact Or.inl rfl | exact Or.inr (Or.inl rfl) | exact Or.inr (Or.inr rfl))) (by exact o_none) (by exact o_some (b := false) (by exact p_var (i := 2) rfl (by first | exact Or.inl rfl | exact Or.inr (Or.inl rfl) | exact Or.inr (Or.inr rfl)))))))) (by exact ss_nil)) (by exact ss_cons (by exact s_if (by exact q_cmpB (b := false) (o_eq hr.units) d_eq (by exact p_var (i := 3) rfl (by first | exact Or.inl rfl | exact Or.inr (Or.inl rfl) | exact Or.inr (Or.inr rfl))) (by exact p_int) (nomark _)) (by exact ss_one (by exact s_ret (by exact v_op o_add d_add (by exact v_of (by exact p_var (i := 1) rfl (by first | exact Or.inl rfl | exact Or.inr (Or.inl rfl) | exact Or.inr (Or.inr rfl)))) (by exact v_callIO (ps := ["bag", "some"]) (i := 0) G__law_pick (hr.mono (by decide)) T.g__law_pick T.k__law_pick T.n__law_pick pass0 rfl (by first | exact Or.inl rfl | exact Or.inr (Or.inl rfl) | exact Or.inr (Or.inr rfl)) (by exact vs_cons (by exact v_new (by exact n_lst (by exact vs_cons (by exact v_of (by exact p_str)) (by exact vs_cons (by exact v_of (by exact p_str)) (by exact vs_cons (by exact v_of (by exact p_str)) (by exact vs_cons (by exact v_of (by exact p_str)) (by exact vs_cons (by exact v_of (by exact p_op o_add d_add (by exact p_str) (by exact p_var (i := 1) rfl (by first | exact Or.inl rfl | exact Or.inr (Or.inl rfl) | exact Or.inr (Or.inr rfl))))) (by exact vs_cons (by exact v_of (by exact p_var (i := 1) rfl (by first | exact Or.inl rfl | exact Or.inr (Or.inl rfl) | exact Or.inr (Or.inr rfl)))) (by exact vs_nil))))))))) (by exact vs_nil)))))) (by exact ss_nil)) (by exact ss_cons (by exact s_if (by exact q_cmpB (b := false) (o_eq hr.units) d_eq (by exact p_var (i := 3) rfl (by first | exact Or.inl rfl | exact Or.inr (Or.inl rfl) | exact Or.inr (Or.inr rfl))) (by exact p_int) (nomark _)) (by exact ss_one (by exact s_ret (by exact v_of (by exact p_sl (by exact p_var (i := 1) rfl (by first | exact Or.inl rfl | exact Or.inr (Or.inl rfl) | exact Or.inr (Or.inr rfl))) (by exact o_some (b := false) (by exact p_int)) (by exact o_none))))) (by exact ss_nil)) (by exact ss_one (by exact s_ret (by exact v_op o_add d_add (by exact v_op o_add d_add (by exact v_of (by exact p_sl (by exact p_var (i := 1) rfl (by first | exact Or.inl rfl | exact Or.inr (Or.inl rfl) | exact Or.inr (Or.inr rfl))) (by exact o_none) (by exact o_some (b := false) (by exact p_var (i := 2) rfl (by first | exact Or.inl rfl | exact Or.inr (Or.inl rfl) | exact Or.inr (Or.inr rfl)))))) (by exact v_if (by exact q_cmpB (b := false) op_lt d_cmpI (by exact p_var (i := 3) rfl (by first | exact Or.inl rfl | exact Or.inr (Or.inl rfl) | exact Or.inr (Or.inr rfl))) (by exact p_int) (nomark _)) (by exact v_of (by exact p_var (i := 4) rfl (by first | exact Or.inl rfl | exact Or.inr (Or.inl rfl) | exact Or.inr (Or.inr rfl)))) (by exact v_of (by exact p_str)))) (by exact v_of (by exact p_sl (by exact p_var (i := 1) rfl (by first | exact Or.inl rfl | exact Or.inr (Or.inl rfl) | exact Or.inr (Or.inr rfl))) (by exact o_some (b := false) (by exact p_op o_add d_add (by exact p_var (i := 2) rfl (by first | exact Or.inl rfl | exact Or.inr (Or.inl rfl) | exact Or.inr (Or.inr rfl))) (by exact p_callT call_int1 k_int rfl T.b_int (by decide +kernel) (by exact ps_cons' (by exact p_cmp op_gt d_cmpI (by exact p_var (i := 3) rfl (by first | exact Or.inl rfl | exact Or.inr (Or.inl rfl) | exact Or.inr (Or.inr rfl))) (by exact p_int) (nomark _)) (by exact ps_nil'))))) (by exact o_none))))))))))
theorem sc_law : FnScope nm_law ["script"] (defScope (top 22)) := ⟨rfl, rfl, rfl, by decide +kernel, rfl, by decide +kernel, by decide +kernel⟩
theorem ok_law {P : Program} {w : World} {K : PySem.W.Frag} {mg : Str → Option Value} {base : Heap} {a : Nat → Addr} {fd : Nat → FuncData} {tk : Tok} (T : Txt K mg a fd tk) (F : Fun K "law" "law" (top 22) (a 15) (fd 15)) (G__law_read : FnOk P w K mg base CX0 2 (a 12) (fd 12) ["text"] (spF noX K (["text"] : List Str).length s__law_read)) (G__law_same : FnOk P w K mg base CX0 201 (a 7) (fd 7) ["found", "due"] (spF noX K (["found", "due"] : List Str).length (s__law_same 200))) (G__law_told : FnOk P w K mg base CX0 7 (a 13) (fd 13) ["text"] (spF noX K (["text"] : List Str).length s__law_told)) (G__law_draw : FnOk P w K mg base CX0 1 (a 5) (fd 5) ["bag", "many"] (spF noX K (["bag", "many"] : List Str).length s__law_draw)) (G__law_spoilt : FnOk P w K mg base CX0 3 (a 14) (fd 14) ["bag", "text"] (spF noX K (["bag", "text"] : List Str).length s__law_spoilt)) (G_read_tree : FnOk P w K mg base CX0 6 (a 3) (fd 3) ["text"] (spF noX K (["text"] : List Str).length s_read_tree)) (G__law_shown : FnOk P w K mg base CX0 65 (a 10) (fd 10) ["tree"] (spF noX K (["tree"] : List Str).length (s__law_shown 64))) (G_show_tree : FnOk P w K mg base CX0 65 (a 1) (fd 1) ["tree"] (spF noX K (["tree"] : List Str).length (s_show_tree 64))) (G__law_drawn_tree : FnOk P w K mg base CX0 3 (a 11) (fd 11) ["bag"] (spF noX K (["bag"] : List Str).length s__law_drawn_tree)) (G__law_bag : FnOk P w K mg base CX0 1 (a 4) (fd 4) ["script"] (spX K (["script"] : List Str).length s__law_bag)) :
    FnOk P w K mg base CX0 202 (a 15) (fd 15) ["script"] (spF noX K (["script"] : List Str).length s_law) := by
  have sc := sc_law
  refine fn_sem F sc fun cdv A outer s H E W hr => ?_
  exact ss_cons (by exact s_setX (i := 1) sc.nd rfl (by first | exact Or.inl rfl | exact Or.inr rfl) (by exact x_callSc (i := 0) G__law_bag (hr.mono (by decide)) T.g__law_bag T.k__law_bag T.n__law_bag rfl (by first | exact Or.inl rfl | exact Or.inr (Or.inl rfl) | exact Or.inr (Or.inr rfl)))) (by exact ss_cons (by exact s_for PassesOwn.never rfl (by exact it_rng1 T.b_range (by exact vs_cons (by exact v_of (by exact p_int)) (by exact vs_nil))) (by exact tg_name 2) (by exact pg_name (i := 2) sc.nd rfl (by first | exact Or.inl rfl | exact Or.inr rfl)) (by exact ss_cons (by exact s_set (i := 3) sc.nd rfl (by first | exact Or.inl rfl | exact Or.inr rfl) (by exact v_callIO (ps := ["bag"]) (i := 1) G__law_drawn_tree (hr.mono (by decide)) T.g__law_drawn_tree T.k__law_drawn_tree T.n__law_drawn_tree pass0 rfl (by first | exact Or.inl rfl | exact Or.inr (Or.inl rfl) | exact Or.inr (Or.inr rfl)) (by exact vs_nil))) (by exact ss_cons (by exact s_set (i := 4) sc.nd rfl (by first | exact Or.inl rfl | exact Or.inr rfl) (by exact v_if (by exact q_cmpB (b := false) op_gt d_cmpI (by exact p_var (i := 2) rfl (by first | exact Or.inl rfl | exact Or.inr (Or.inl rfl) | exact Or.inr (Or.inr rfl))) (by exact p_int) (nomark _)) (by exact v_call (ps := ["tree"]) G_show_tree (hr.mono (by decide)) T.g_show_tree T.k_show_tree T.n_show_tree pass0 (by exact vs_cons (by exact v_of (by exact p_var (i := 3) rfl (by first | exact Or.inl rfl | exact Or.inr (Or.inl rfl) | exact Or.inr (Or.inr rfl)))) (by exact vs_nil))) (by exact v_callK1 (ps := ["tree"]) G_show_tree (hr.mono (by decide)) T.g_show_tree T.k_show_tree T.kw_show_tree pass0 (by exact v_of (by exact p_var (i := 3) rfl (by first | exact Or.inl rfl | exact Or.inr (Or.inl rfl) | exact Or.inr (Or.inr rfl))))))) (by exact ss_cons (by exact s_if (by exact q_bool (by exact q_or (by exact q_not (by exact q_val (by exact v_call (ps := ["found", "due"]) G__law_same (hr.mono (by decide)) T.g__law_same T.k__law_same T.n__law_same pass0 (by exact vs_cons (by exact v_of (by exact p_var (i := 4) rfl (by first | exact Or.inl rfl | exact Or.inr (Or.inl rfl) | exact Or.inr (Or.inr rfl)))) (by exact vs_cons (by exact v_call (ps := ["tree"]) G__law_shown (hr.mono (by decide)) T.g__law_shown T.k__law_shown T.n__law_shown pass0 (by exact vs_cons (by exact v_of (by exact p_var (i := 3) rfl (by first | exact Or.inl rfl | exact Or.inr (Or.inl rfl) | exact Or.inr (Or.inr rfl)))) (by exact vs_nil))) (by exact vs_nil)))))) (by exact q_or (by exact q_cmp (o_ne hr.units) d_ne (by exact v_call (ps := ["text"]) G__law_read (hr.mono (by decide)) T.g__law_read T.k__law_read T.n__law_read pass0 (by exact vs_cons (by exact v_of (by exact p_var (i := 4) rfl (by first | exact Or.inl rfl | exact Or.inr (Or.inl rfl) | exact Or.inr (Or.inr rfl)))) (by exact vs_nil))) (by exact v_of (by exact p_var (i := 3) rfl (by first | exact Or.inl rfl | exact Or.inr (Or.inl rfl) | exact Or.inr (Or.inr rfl)))) (nomark _)) (by exact q_or1 (by exact q_not (by exact q_val (by exact v_call (ps := ["found", "due"]) G__law_same (hr.mono (by decide)) T.g__law_same T.k__law_same T.n__law_same pass0 (by exact vs_cons (by exact v_call (ps := ["text"]) G_read_tree (hr.mono (by decide)) T.g_read_tree T.k_read_tree T.n_read_tree pass0 (by exact vs_cons (by exact v_of (by exact p_var (i := 4) rfl (by first | exact Or.inl rfl | exact Or.inr (Or.inl rfl) | exact Or.inr (Or.inr rfl)))) (by exact vs_nil))) (by exact vs_cons (by exact v_of (by exact p_var (i := 3) rfl (by first | exact Or.inl rfl | exact Or.inr (Or.inl rfl) | exact Or.inr (Or.inr rfl)))) (by exact vs_nil)))))))))) (by exact ss_one (by exact s_ret (by exact v_of (by exact p_bl)))) (by exact ss_nil)) (by exact ss_cons (by exact s_if (by exact q_not (by exact q_val (by exact v_call (ps := ["found", "due"]) G__law_same (hr.mono (by decide)) T.g__law_same T.k__law_same T.n__law_same pass0 (by exact vs_cons (by exact v_callK1 (ps := ["text"]) G_read_tree (hr.mono (by decide)) T.g_read_tree T.k_read_tree T.kw_read_tree pass0 (by exact v_of (by exact p_var (i := 4) rfl (by first | exact Or.inl rfl | exact Or.inr (Or.inl rfl) | exact Or.inr (Or.inr rfl))))) (by exact vs_cons (by exact v_of (by exact p_var (i := 3) rfl (by first | exact Or.inl rfl | exact Or.inr (Or.inl rfl) | exact Or.inr (Or.inr rfl)))) (by exact vs_nil)))))) (by exact ss_one (by exact s_ret (by exact v_of (by exact p_bl)))) (by exact ss_nil)) (by exact ss_one (by exact s_for PassesOwn.never rfl (by exact it_rng1 T.b_range (by exact vs_cons (by exact v_of (by exact p_int)) (by exact vs_nil))) (by exact tg_name 5) (by exact pg_name (i := 5) sc.nd rfl (by first | exact Or.inl rfl | exact Or.inr rfl)) (by exact ss_cons (by exact s_set (i := 6) sc.nd rfl (by first | exact Or.inl rfl | exact Or.inr rfl) (by exact v_callIO (ps := ["bag", "text"]) (i := 1) G__law_spoilt (hr.mono (by decide)) T.g__law_spoilt T.k__law_spoilt T.n__law_spoilt pass0 rfl (by first | exact Or.inl rfl | exact Or.inr (Or.inl rfl) | exact Or.inr (Or.inr rfl)) (by exact vs_cons (by exact v_of (by exact p_var (i := 4) rfl (by first | exact Or.inl rfl | exact Or.inr (Or.inl rfl) | exact Or.inr (Or.inr rfl)))) (by exact vs_nil)))) (by exact ss_cons (by exact s_if (by exact q_cmp (o_eq hr.units) d_eq (by exact v_callIO (ps := ["bag", "many"]) (i := 1) G__law_draw (hr.mono (by decide)) T.g__law_draw T.k__law_draw T.n__law_draw pass0 rfl (by first | exact Or.inl rfl | exact Or.inr (Or.inl rfl) | exact Or.inr (Or.inr rfl)) (by exact vs_cons (by exact v_of (by exact p_int)) (by exact vs_nil))) (by exact v_of (by exact p_int)) (nomark _)) (by exact ss_one (by exact s_set (i := 6) sc.nd rfl (by first | exact Or.inl rfl | exact Or.inr rfl) (by exact v_callIO (ps := ["bag", "text"]) (i := 1) G__law_spoilt (hr.mono (by decide)) T.g__law_spoilt T.k__law_spoilt T.n__law_spoilt pass0 rfl (by first | exact Or.inl rfl | exact Or.inr (Or.inl rfl) | exact Or.inr (Or.inr rfl)) (by exact vs_cons (by exact v_of (by exact p_var (i := 6) rfl (by first | exact Or.inl rfl | exact Or.inr (Or.inl rfl) | exact Or.inr (Or.inr rfl)))) (by exact vs_nil))))) (by exact ss_nil)) (by exact ss_cons (by exact s_set (i := 7) sc.nd rfl (by first | exact Or.inl rfl | exact Or.inr rfl) (by exact v_call (ps := ["text"]) G__law_read (hr.mono (by decide)) T.g__law_read T.k__law_read T.n__law_read pass0 (by exact vs_cons (by exact v_of (by exact p_var (i := 6) rfl (by first | exact Or.inl rfl | exact Or.inr (Or.inl rfl) | exact Or.inr (Or.inr rfl)))) (by exact vs_nil)))) (by exact ss_one (by exact s_if (by exact q_not (by exact q_val (by exact v_call (ps := ["found", "due"]) G__law_same (hr.mono (by decide)) T.g__law_same T.k__law_same T.n__law_same pass0 (by exact vs_cons (by exact v_call (ps := ["text"]) G__law_told (hr.mono (by decide)) T.g__law_told T.k__law_told T.n__law_told pass0 (by exact vs_cons (by exact v_of (by exact p_var (i := 6) rfl (by first | exact Or.inl rfl | exact Or.inr (Or.inl rfl) | exact Or.inr (Or.inr rfl)))) (by exact vs_nil))) (by exact vs_cons (by exact v_if (by exact q_cmpB (b := false) op_isN d_isN (by exact p_var (i := 7) rfl (by first | exact Or.inl rfl | exact Or.inr (Or.inl rfl) | exact Or.inr (Or.inr rfl))) (by exact p_non) (nomark _)) (by exact v_of (by exact p_tup (by exact ps_cons' (by exact p_str) (by exact ps_cons' (by exact p_int) (by exact ps_nil'))))) (by exact v_of (by exact p_tup (by exact ps_cons' (by exact p_str) (by exact ps_cons' (by exact p_var (i := 7) rfl (by first | exact Or.inl rfl | exact Or.inr (Or.inl rfl) | exact Or.inr (Or.inr rfl))) (by exact ps_nil')))))) (by exact vs_nil)))))) (by exact ss_one (by exact s_ret (by exact v_of (by exact p_bl)))) (by exact ss_nil))))))))))))) (by exact ss_cons (by exact s_for PassesOwn.never rfl (by exact it_list (by exact v_new (by exact n_lst (by exact vs_cons (by exact v_of (by exact p_str)) (by exact vs_cons (by exact v_of (by exact p_str)) (by exact vs_cons (by exact v_of (by exact p_str)) (by exact vs_cons (by exact v_of (by exact p_str)) (by exact vs_cons (by exact v_of (by exact p_str)) (by exact vs_cons (by exact v_of (by exact p_str)) (by exact vs_cons (by exact v_of (by exact p_str)) (by exact vs_cons (by exact v_of (by exact p_str)) (by exact vs_cons (by exact v_of (by exact p_str)) (by exact vs_cons (by exact v_of (by exact p_str)) (by exact vs_cons (by exact v_of (by exact p_str)) (by exact vs_cons (by exact v_of (by exact p_str)) (by exact vs_nil)))))))))))))))) (by exact tg_name 4) (by exact pg_name (i := 4) sc.nd rfl (by first | exact Or.inl rfl | exact Or.inr rfl)) (by exact ss_one (by exact s_if (by exact q_bool (by exact q_or (by exact q_cmp op_notN d_notN (by exact v_call (ps := ["text"]) G__law_read (hr.mono (by decide)) T.g__law_read T.k__law_read T.n__law_read pass0 (by exact vs_cons (by exact v_of (by exact p_var (i := 4) rfl (by first | exact Or.inl rfl | exact Or.inr (Or.inl rfl) | exact Or.inr (Or.inr rfl)))) (by exact vs_nil))) (by exact v_of (by exact p_non)) (nomark _)) (by exact q_or1 (by exact q_not (by exact q_val (by exact v_call (ps := ["found", "due"]) G__law_same (hr.mono (by decide)) T.g__law_same T.k__law_same T.n__law_same pass0 (by exact vs_cons (by exact v_call (ps := ["text"]) G__law_told (hr.mono (by decide)) T.g__law_told T.k__law_told T.n__law_told pass0 (by exact vs_cons (by exact v_of (by exact p_var (i := 4) rfl (by first | exact Or.inl rfl | exact Or.inr (Or.inl rfl) | exact Or.inr (Or.inr rfl)))) (by exact vs_nil))) (by exact vs_cons (by exact v_of (by exact p_tup (by exact ps_cons' (by exact p_str) (by exact ps_cons' (by exact p_int) (by exact ps_nil'))))) (by exact vs_nil))))))))) (by exact ss_one (by exact s_ret (by exact v_of (by exact p_bl)))) (by exact ss_nil)))) (by exact ss_one (by exact s_ret (by exact v_of (by exact p_bl))))))
end
end T73

set_option Elab.async false
set_option linter.all false
set_option maxRecDepth 100000
set_option maxHeartbeats 630000
namespace DL
open PySem PySem.Spec PyProof.Rows L2
/-- every def of the text has a code object whose table is empty -/
def Tabs (q : Program) (mg : Str → Option Value) (h : Heap) : Prop := ∀ nm : Str, ((recsOf q).any fun e => e.name == nm) = true → ∃ a o fd c P, mg nm = some (.ref a) ∧ h.get? a = some o ∧ o.data = .func fd ∧ fd.code = .ref c ∧ h.IsCode c P #[] ∧ h.TableAt c P #[]
theorem walk_tabs {l : PySem.W.OpenLaw} {n k : Nat} {q : Program} {loose : List Str} {XP : (Str → Option Value) → Heap → Prop} {YP : World → Heap → Prop} {d : DefRec} {K : Params → PySem.W.Frag} {CX : World → CXT} {x : Str}
    (hn : l.most = some n) (hn2 : n ≤ sizeLine) (hdf : d.params.defaults = []) (hr : Room k callerA) (hY : ∀ (w : World) (h : Heap), YP w h → (K w.params).In h)
    (F : ∀ (w : World) (mg : Str → Option Value) (fa : Addr) (h : Heap), YP w h → (K w.params).In h → h.Ns mainGlobals mg → mg d.name = some (.ref fa) → Tabs q mg h → LamX.LawAtS l w (K w.params) (CX w) k n x mg fa h)
    (hCX : ∀ (w : World) (H : Hp) (s : Shared) (e : Value) (s' : Shared), CX w [] H s (fun _ _ _ => False) e s' → False) :
    PySem.W.WalkO q loose XP YP l.row.toRowW d [] (fun f vs => PySem.call f vs) := by
  refine Att.attach_callB hn hdf fun w s0 s1 mg mb fa o pm cd doc a vs ns G Y ho hd hcd hmg hobj hints hlen hbits hg => ?_
  have KX := hY w _ Y
  have tabs : Tabs q mg s1.heap := fun nm hnm => by
    obtain ⟨e, he, hen⟩ := List.any_eq_true.mp hnm
    rw [← beq_iff_eq.mp hen]
    exact G.T.tab e he
  obtain ⟨fd, cs, sp, hT, nT, C, hb, hsp, hF⟩ := F w mg fa _ Y KX G.T.g hmg tabs
  exact LamX.law_callTs KX G.T.g G.T.b G.T.builtins G.T.nolimit hg hT nT C G.T.bmain hobj hints (Nat.le_trans hlen hn2) hr hF hb (fun H hH hS => hsp H a ns hlen hbits hH hS) fun H e s' => hCX w H s1 e s'
theorem vals_app : ∀ {vs : List V} {us : List Value} {zs : List V} {ws : List Value}, Vals vs us → Vals zs ws → Vals (vs ++ zs) (us ++ ws)
  | _, _, _, _, .nil, h => h
  | _, _, _, _, .cons r t, h => .cons r (vals_app t h)
theorem exm_of {K : PySem.W.Frag} {C : Addr} (h1 : PySem.W.subIn K (.ref C) (.type "BaseException") = some true) (h2 : PySem.W.isClsIn K C = true) (h3 : PySem.W.typeIn K (.ref C) = some (.type "type")) (h4 : PySem.W.subIn K (.ref C) (.ref C) = some true) :
    PySem.W.exmOne K (.ref C) (.ref C) = some true := by
  have h2' : (PySem.W.clsIn K C).isSome = true := h2
  unfold PySem.W.exmOne PySem.W.kitCls
  simp [h1, h2', h3, h4]
end DL
namespace T73
open PySem PySem.Spec PyProof.Rows L2 DL
def bp : PySem.Bad.Ps := ⟨⟨6, 17, 6, 21⟩, ⟨6, 23, 6, 27⟩, ⟨7, 8, 7, 13⟩, ⟨7, 8, 7, 15⟩, ⟨7, 8, 7, 24⟩, ⟨7, 27, 7, 42⟩, ⟨7, 43, 7, 47⟩, ⟨7, 42, 7, 48⟩, ⟨7, 25, 7, 49⟩, ⟨7, 8, 7, 50⟩, ⟨7, 8, 7, 50⟩, ⟨8, 8, 8, 12⟩, ⟨8, 8, 8, 17⟩, ⟨8, 20, 8, 24⟩, ⟨8, 8, 8, 24⟩⟩
theorem rec_show_tree [Tbs] {P : Program} {w : World} {K : PySem.W.Frag} {mg : Str → Option Value} {base : Heap} {a : Nat → Addr} {fd : Nat → FuncData} {tk : Tok} (T : Txt K mg a fd tk) (F : Fun K "show_tree" "show_tree" (top 7) (a 1) (fd 1))  :
    ∀ n : Nat, FnOk P w K mg base CX0 (n + 1) (a 1) (fd 1) ["tree"] (spF noX K (["tree"] : List Str).length (s_show_tree n))
  | 0 => ⟨fun vs H Q E h => h.len, fun A outer s H args us vs Q E hr he hb hv hs => by
    obtain ⟨_, _, _, _, _, _, _, z, _⟩ := hs
    cases z⟩
  | n + 1 => st_show_tree T F  (rec_show_tree T F  n)
theorem rec__law_shown [Tbs] {P : Program} {w : World} {K : PySem.W.Frag} {mg : Str → Option Value} {base : Heap} {a : Nat → Addr} {fd : Nat → FuncData} {tk : Tok} (T : Txt K mg a fd tk) (F : Fun K "_law_shown" "_law_shown" (top 17) (a 10) (fd 10))  :
    ∀ n : Nat, FnOk P w K mg base CX0 (n + 1) (a 10) (fd 10) ["tree"] (spF noX K (["tree"] : List Str).length (s__law_shown n))
  | 0 => ⟨fun vs H Q E h => h.len, fun A outer s H args us vs Q E hr he hb hv hs => by
    obtain ⟨_, _, _, _, _, _, _, z, _⟩ := hs
    cases z⟩
  | n + 1 => st__law_shown T F  (rec__law_shown T F  n)
theorem rec__law_same [Tbs] {P : Program} {w : World} {K : PySem.W.Frag} {mg : Str → Option Value} {base : Heap} {a : Nat → Addr} {fd : Nat → FuncData} {tk : Tok} (T : Txt K mg a fd tk) (F : Fun K "_law_same" "_law_same" (top 14) (a 7) (fd 7))  :
    ∀ n : Nat, FnOk P w K mg base CX0 (n + 1) (a 7) (fd 7) ["found", "due"] (spF noX K (["found", "due"] : List Str).length (s__law_same n))
  | 0 => ⟨fun vs H Q E h => h.len, fun A outer s H args us vs Q E hr he hb hv hs => by
    obtain ⟨_, _, _, _, _, _, _, z, _⟩ := hs
    cases z⟩
  | n + 1 => st__law_same T F  (rec__law_same T F  n)
def LawTrue : Prop := ∀ ns : List Int, ns.length ≤ 63 → (∀ z ∈ ns, Builtin.Int.intBits z ≤ 1048576) → ∃ outs, s_law [.sc ns] = some (.ret (.bl true) outs)
theorem all_mk {l : PySem.W.OpenLaw} {q : Program} {w : World} {K : PySem.W.Frag} {h : Heap} {mg : Str → Option Value} {fa f0 f1 f2 f3 f4 f5 f6 f7 f8 f9 f10 f11 f12 f13 f14 f15 : Addr} (X : K.In h) (G : h.Ns mainGlobals mg) (hfa : mg "law" = some (.ref fa)) (TBS : Tabs q mg h) (LT : LawTrue) (hn : l.most = some 63)
    {cc pt C fI cdI ccI N : Addr} {tk tf : Tok} {file : Str} {ec fc gc : Value} {ed fdd gd : Option Addr} {ev fv : Array Value} {es fs gs : Array (Option Value)} {nm qn : Str} {bs bm : List Value} {sn : List Str} {sub : List Value} {ab : Bool} {col : Option Bool} {dd : Option Addr} {m0 m1 m2 m3 m5 : Option Value}
    {ocI dcI pmI ctI : Value} {odI anI : Option Addr} {slI : Array (Option Value)}
    {od0 an0 : Option Addr} {sl0 : Array (Option Value)} {oc0 kV0 dc0 pm0 ct0 : Value}
    {od1 an1 : Option Addr} {sl1 : Array (Option Value)} {oc1 kV1 dc1 pm1 cd1 ct1 : Value}
    {od2 an2 : Option Addr} {sl2 : Array (Option Value)} {oc2 kV2 dc2 pm2 cd2 ct2 : Value}
    {od3 an3 : Option Addr} {sl3 : Array (Option Value)} {oc3 kV3 dc3 pm3 cd3 ct3 : Value}
    {od4 an4 : Option Addr} {sl4 : Array (Option Value)} {oc4 kV4 dc4 pm4 cd4 ct4 : Value}
    {od5 an5 : Option Addr} {sl5 : Array (Option Value)} {oc5 kV5 dc5 pm5 cd5 ct5 : Value}
    {od6 an6 : Option Addr} {sl6 : Array (Option Value)} {oc6 kV6 dc6 pm6 cd6 ct6 : Value}
    {od7 an7 : Option Addr} {sl7 : Array (Option Value)} {oc7 kV7 dc7 pm7 cd7 ct7 : Value}
    {od8 an8 : Option Addr} {sl8 : Array (Option Value)} {oc8 kV8 dc8 pm8 cd8 ct8 : Value}
    {od9 an9 : Option Addr} {sl9 : Array (Option Value)} {oc9 kV9 dc9 pm9 cd9 ct9 : Value}
    {od10 an10 : Option Addr} {sl10 : Array (Option Value)} {oc10 kV10 dc10 pm10 cd10 ct10 : Value}
    {od11 an11 : Option Addr} {sl11 : Array (Option Value)} {oc11 kV11 dc11 pm11 cd11 ct11 : Value}
    {od12 an12 : Option Addr} {sl12 : Array (Option Value)} {oc12 kV12 dc12 pm12 cd12 ct12 : Value}
    {od13 an13 : Option Addr} {sl13 : Array (Option Value)} {oc13 kV13 dc13 pm13 cd13 ct13 : Value}
    {od14 an14 : Option Addr} {sl14 : Array (Option Value)} {oc14 kV14 dc14 pm14 cd14 ct14 : Value}
    {od15 an15 : Option Addr} {sl15 : Array (Option Value)} {oc15 kV15 dc15 pm15 cd15 ct15 : Value}
    (a0 : PySem.W.nsIn K mainGlobals "is_name" = some (some (.ref f0)))
    (l0 : K.lookup f0 = some ⟨oc0, od0, .func (PySem.W.fnOf "is_name" "is_name" (defArgs (top 5)) (defBody (top 5)) (defScope (top 5)) .none kV0 dc0 pm0 an0 (.ref cc) ct0), sl0⟩)
    (c0 : PySem.W.codeIn K (.ref cc) "is_name" = true)
    (k0 : PySem.W.keepIn K (.ref f0) = true)
    (a1 : PySem.W.nsIn K mainGlobals "show_tree" = some (some (.ref f1)))
    (l1 : K.lookup f1 = some ⟨oc1, od1, .func (PySem.W.fnOf "show_tree" "show_tree" (defArgs (top 7)) (defBody (top 7)) (defScope (top 7)) .none kV1 dc1 pm1 an1 cd1 ct1), sl1⟩)
    (c1 : PySem.W.codeIn K cd1 "show_tree" = true)
    (k1 : PySem.W.keepIn K (.ref f1) = true)
    (a2 : PySem.W.nsIn K mainGlobals "pieces_of" = some (some (.ref f2)))
    (l2 : K.lookup f2 = some ⟨oc2, od2, .func (PySem.W.fnOf "pieces_of" "pieces_of" (defArgs (top 8)) (defBody (top 8)) (defScope (top 8)) .none kV2 dc2 pm2 an2 cd2 ct2), sl2⟩)
    (c2 : PySem.W.codeIn K cd2 "pieces_of" = true)
    (k2 : PySem.W.keepIn K (.ref f2) = true)
    (a3 : PySem.W.nsIn K mainGlobals "read_tree" = some (some (.ref f3)))
    (l3 : K.lookup f3 = some ⟨oc3, od3, .func (PySem.W.fnOf "read_tree" "read_tree" (defArgs (top 9)) (defBody (top 9)) (defScope (top 9)) .none kV3 dc3 pm3 an3 cd3 ct3), sl3⟩)
    (c3 : PySem.W.codeIn K cd3 "read_tree" = true)
    (k3 : PySem.W.keepIn K (.ref f3) = true)
    (a4 : PySem.W.nsIn K mainGlobals "_law_bag" = some (some (.ref f4)))
    (l4 : K.lookup f4 = some ⟨oc4, od4, .func (PySem.W.fnOf "_law_bag" "_law_bag" (defArgs (top 11)) (defBody (top 11)) (defScope (top 11)) .none kV4 dc4 pm4 an4 cd4 ct4), sl4⟩)
    (c4 : PySem.W.codeIn K cd4 "_law_bag" = true)
    (k4 : PySem.W.keepIn K (.ref f4) = true)
    (a5 : PySem.W.nsIn K mainGlobals "_law_draw" = some (some (.ref f5)))
    (l5 : K.lookup f5 = some ⟨oc5, od5, .func (PySem.W.fnOf "_law_draw" "_law_draw" (defArgs (top 12)) (defBody (top 12)) (defScope (top 12)) .none kV5 dc5 pm5 an5 cd5 ct5), sl5⟩)
    (c5 : PySem.W.codeIn K cd5 "_law_draw" = true)
    (k5 : PySem.W.keepIn K (.ref f5) = true)
    (a6 : PySem.W.nsIn K mainGlobals "_law_pick" = some (some (.ref f6)))
    (l6 : K.lookup f6 = some ⟨oc6, od6, .func (PySem.W.fnOf "_law_pick" "_law_pick" (defArgs (top 13)) (defBody (top 13)) (defScope (top 13)) .none kV6 dc6 pm6 an6 cd6 ct6), sl6⟩)
    (c6 : PySem.W.codeIn K cd6 "_law_pick" = true)
    (k6 : PySem.W.keepIn K (.ref f6) = true)
    (a7 : PySem.W.nsIn K mainGlobals "_law_same" = some (some (.ref f7)))
    (l7 : K.lookup f7 = some ⟨oc7, od7, .func (PySem.W.fnOf "_law_same" "_law_same" (defArgs (top 14)) (defBody (top 14)) (defScope (top 14)) .none kV7 dc7 pm7 an7 cd7 ct7), sl7⟩)
    (c7 : PySem.W.codeIn K cd7 "_law_same" = true)
    (k7 : PySem.W.keepIn K (.ref f7) = true)
    (a8 : PySem.W.nsIn K mainGlobals "_law_names" = some (some (.ref f8)))
    (l8 : K.lookup f8 = some ⟨oc8, od8, .func (PySem.W.fnOf "_law_names" "_law_names" (defArgs (top 15)) (defBody (top 15)) (defScope (top 15)) .none kV8 dc8 pm8 an8 cd8 ct8), sl8⟩)
    (c8 : PySem.W.codeIn K cd8 "_law_names" = true)
    (k8 : PySem.W.keepIn K (.ref f8) = true)
    (a9 : PySem.W.nsIn K mainGlobals "_law_is_name" = some (some (.ref f9)))
    (l9 : K.lookup f9 = some ⟨oc9, od9, .func (PySem.W.fnOf "_law_is_name" "_law_is_name" (defArgs (top 16)) (defBody (top 16)) (defScope (top 16)) .none kV9 dc9 pm9 an9 cd9 ct9), sl9⟩)
    (c9 : PySem.W.codeIn K cd9 "_law_is_name" = true)
    (k9 : PySem.W.keepIn K (.ref f9) = true)
    (a10 : PySem.W.nsIn K mainGlobals "_law_shown" = some (some (.ref f10)))
    (l10 : K.lookup f10 = some ⟨oc10, od10, .func (PySem.W.fnOf "_law_shown" "_law_shown" (defArgs (top 17)) (defBody (top 17)) (defScope (top 17)) .none kV10 dc10 pm10 an10 cd10 ct10), sl10⟩)
    (c10 : PySem.W.codeIn K cd10 "_law_shown" = true)
    (k10 : PySem.W.keepIn K (.ref f10) = true)
    (a11 : PySem.W.nsIn K mainGlobals "_law_drawn_tree" = some (some (.ref f11)))
    (l11 : K.lookup f11 = some ⟨oc11, od11, .func (PySem.W.fnOf "_law_drawn_tree" "_law_drawn_tree" (defArgs (top 18)) (defBody (top 18)) (defScope (top 18)) .none kV11 dc11 pm11 an11 cd11 ct11), sl11⟩)
    (c11 : PySem.W.codeIn K cd11 "_law_drawn_tree" = true)
    (k11 : PySem.W.keepIn K (.ref f11) = true)
    (a12 : PySem.W.nsIn K mainGlobals "_law_read" = some (some (.ref f12)))
    (l12 : K.lookup f12 = some ⟨oc12, od12, .func (PySem.W.fnOf "_law_read" "_law_read" (defArgs (top 19)) (defBody (top 19)) (defScope (top 19)) .none kV12 dc12 pm12 an12 cd12 ct12), sl12⟩)
    (c12 : PySem.W.codeIn K cd12 "_law_read" = true)
    (k12 : PySem.W.keepIn K (.ref f12) = true)
    (a13 : PySem.W.nsIn K mainGlobals "_law_told" = some (some (.ref f13)))
    (l13 : K.lookup f13 = some ⟨oc13, od13, .func (PySem.W.fnOf "_law_told" "_law_told" (defArgs (top 20)) (defBody (top 20)) (defScope (top 20)) .none kV13 dc13 pm13 an13 cd13 ct13), sl13⟩)
    (c13 : PySem.W.codeIn K cd13 "_law_told" = true)
    (k13 : PySem.W.keepIn K (.ref f13) = true)
    (a14 : PySem.W.nsIn K mainGlobals "_law_spoilt" = some (some (.ref f14)))
    (l14 : K.lookup f14 = some ⟨oc14, od14, .func (PySem.W.fnOf "_law_spoilt" "_law_spoilt" (defArgs (top 21)) (defBody (top 21)) (defScope (top 21)) .none kV14 dc14 pm14 an14 cd14 ct14), sl14⟩)
    (c14 : PySem.W.codeIn K cd14 "_law_spoilt" = true)
    (k14 : PySem.W.keepIn K (.ref f14) = true)
    (a15 : PySem.W.nsIn K mainGlobals "law" = some (some (.ref f15)))
    (l15 : K.lookup f15 = some ⟨oc15, od15, .func (PySem.W.fnOf "law" "law" (defArgs (top 22)) (defBody (top 22)) (defScope (top 22)) .none kV15 dc15 pm15 an15 cd15 ct15), sl15⟩)
    (c15 : PySem.W.codeIn K cd15 "law" = true)
    (k15 : PySem.W.keepIn K (.ref f15) = true)
    (z_abs : PySem.W.nsIn K mainGlobals "abs" = some none)
    (z_all : PySem.W.nsIn K mainGlobals "all" = some none)
    (z_bool : PySem.W.nsIn K mainGlobals "bool" = some none)
    (z_int : PySem.W.nsIn K mainGlobals "int" = some none)
    (z_isinstance : PySem.W.nsIn K mainGlobals "isinstance" = some none)
    (z_len : PySem.W.nsIn K mainGlobals "len" = some none)
    (z_range : PySem.W.nsIn K mainGlobals "range" = some none)
    (z_str : PySem.W.nsIn K mainGlobals "str" = some none)
    (z_super : PySem.W.nsIn K mainGlobals "super" = some none)
    (z_tuple : PySem.W.nsIn K mainGlobals "tuple" = some none)
    (cs : PySem.W.nsIn K mainGlobals "SIGNS" = some (some (.str SIGNS tk)))
    (xcc : K.lookup cc = some ⟨ec, ed, .fields ev, es⟩)
    (xpt : ev[11]? = some (.ref pt))
    (xno : K.lookup pt = none)
    (rec : ((recsOf q).any fun e => e.name == ("is_name" : Str)) = true)
    (aC : PySem.W.nsIn K mainGlobals "BadText" = some (some (.ref C)))
    (xL : K.lookup C = some (excClassObj nm qn C N bs bm true sn sub ab col dd m0 m1 m2 m3 m5 "ValueError.__new__"))
    (hbm : PySem.HandSPX.refsVE bm = true)
    (sa : PySem.W.findIn K (.ref C) "__setattr__" = some (some (.builtin "object.__setattr__")))
    (ga : PySem.W.findIn K (.ref C) "__getattribute__" = some (some (.builtin "BaseException.__getattribute__")))
    (gg : PySem.W.findIn K (.ref C) "__getattr__" = some none)
    (nb : PySem.W.findIn K (.ref C) "line" = some none)
    (aI : PySem.W.findIn K (.ref C) "__init__" = some (some (.ref fI)))
    (tI : PySem.W.typeIn K (.ref fI) = some (.type "function"))
    (lI : K.lookup fI = some ⟨ocI, odI, .func (PySem.W.ksFn "__init__" "BadText.__init__" (PySem.Bad.iA bp) (PySem.Bad.iB "bad text: line " bp) PySem.Bad.iS .none .none dcI pmI anI (.ref cdI) ctI ccI), slI⟩)
    (cI : PySem.W.codeIn K (.ref cdI) "BadText.__init__" = true)
    (xcd : K.lookup cdI = some ⟨fc, fdd, .fields fv, fs⟩)
    (xfl : fv[2]? = some (.str file tf))
    (xfe : ((l.prog.main.file : Str) == file) = true)
    (xce : K.lookup ccI = some ⟨gc, gd, .cell (some (.ref C)), gs⟩)
    (kC : PySem.W.keepIn K (.ref C) = true)
    (eC : PySem.W.subIn K (.ref C) (.type "BaseException") = some true)
    (tC : PySem.W.typeIn K (.ref C) = some (.type "type"))
    (hC : PySem.W.hasDictIn K C = true)
    (iC : PySem.W.isClsIn K C = true)
    (sC : PySem.W.subIn K (.ref C) (.ref C) = some true)
    (al : PySem.W.ks_superIn K C C "__init__" = some (some (.builtin "ValueError.__init__")))
    (op : PySem.W.nsIn K cStatics "thirdparty.any" = some none)
    (vC : PySem.W.subIn K (.ref C) (.type "ValueError") = some true)
    (mC : PySem.W.mroIn K C (.ref C) = some true)
    (tp : (l.prog.main.scope.names.lookup ("super" : Str)).isSome = false) : LamX.LawAtS l w K CX0 202 63 "script" mg fa h := by
  have e := hfa.symm.trans (PySem.W.mg_of X G a15)
  cases e
  have F0 := fun_mk (st := top 5) l0 c0 k0
  have b0 := F0.binds (ps := ["value"]) fun _ _ _ _ _ _ us hl => match us, hl with | [_], _ => rfl
  let d0 : FuncData := PySem.W.fnOf "is_name" "is_name" (defArgs (top 5)) (defBody (top 5)) (defScope (top 5)) .none kV0 dc0 pm0 an0 (.ref cc) ct0
  have F1 := fun_mk (st := top 7) l1 c1 k1
  have b1 := F1.binds (ps := ["tree"]) fun _ _ _ _ _ _ us hl => match us, hl with | [_], _ => rfl
  let d1 : FuncData := PySem.W.fnOf "show_tree" "show_tree" (defArgs (top 7)) (defBody (top 7)) (defScope (top 7)) .none kV1 dc1 pm1 an1 cd1 ct1
  have F2 := fun_mk (st := top 8) l2 c2 k2
  have b2 := F2.binds (ps := ["text"]) fun _ _ _ _ _ _ us hl => match us, hl with | [_], _ => rfl
  let d2 : FuncData := PySem.W.fnOf "pieces_of" "pieces_of" (defArgs (top 8)) (defBody (top 8)) (defScope (top 8)) .none kV2 dc2 pm2 an2 cd2 ct2
  have F3 := fun_mk (st := top 9) l3 c3 k3
  have b3 := F3.binds (ps := ["text"]) fun _ _ _ _ _ _ us hl => match us, hl with | [_], _ => rfl
  let d3 : FuncData := PySem.W.fnOf "read_tree" "read_tree" (defArgs (top 9)) (defBody (top 9)) (defScope (top 9)) .none kV3 dc3 pm3 an3 cd3 ct3
  have F4 := fun_mk (st := top 11) l4 c4 k4
  have b4 := F4.binds (ps := ["script"]) fun _ _ _ _ _ _ us hl => match us, hl with | [_], _ => rfl
  let d4 : FuncData := PySem.W.fnOf "_law_bag" "_law_bag" (defArgs (top 11)) (defBody (top 11)) (defScope (top 11)) .none kV4 dc4 pm4 an4 cd4 ct4
  have F5 := fun_mk (st := top 12) l5 c5 k5
  have b5 := F5.binds (ps := ["bag", "many"]) fun _ _ _ _ _ _ us hl => match us, hl with | [_, _], _ => rfl
  let d5 : FuncData := PySem.W.fnOf "_law_draw" "_law_draw" (defArgs (top 12)) (defBody (top 12)) (defScope (top 12)) .none kV5 dc5 pm5 an5 cd5 ct5
  have F6 := fun_mk (st := top 13) l6 c6 k6
  have b6 := F6.binds (ps := ["bag", "some"]) fun _ _ _ _ _ _ us hl => match us, hl with | [_, _], _ => rfl
  let d6 : FuncData := PySem.W.fnOf "_law_pick" "_law_pick" (defArgs (top 13)) (defBody (top 13)) (defScope (top 13)) .none kV6 dc6 pm6 an6 cd6 ct6
  have F7 := fun_mk (st := top 14) l7 c7 k7
  have b7 := F7.binds (ps := ["found", "due"]) fun _ _ _ _ _ _ us hl => match us, hl with | [_, _], _ => rfl
  let d7 : FuncData := PySem.W.fnOf "_law_same" "_law_same" (defArgs (top 14)) (defBody (top 14)) (defScope (top 14)) .none kV7 dc7 pm7 an7 cd7 ct7
  have F8 := fun_mk (st := top 15) l8 c8 k8
  have b8 := F8.binds (ps := ["bag", "many", "size"]) fun _ _ _ _ _ _ us hl => match us, hl with | [_, _, _], _ => rfl
  let d8 : FuncData := PySem.W.fnOf "_law_names" "_law_names" (defArgs (top 15)) (defBody (top 15)) (defScope (top 15)) .none kV8 dc8 pm8 an8 cd8 ct8
  have F9 := fun_mk (st := top 16) l9 c9 k9
  have b9 := F9.binds (ps := ["word"]) fun _ _ _ _ _ _ us hl => match us, hl with | [_], _ => rfl
  let d9 : FuncData := PySem.W.fnOf "_law_is_name" "_law_is_name" (defArgs (top 16)) (defBody (top 16)) (defScope (top 16)) .none kV9 dc9 pm9 an9 cd9 ct9
  have F10 := fun_mk (st := top 17) l10 c10 k10
  have b10 := F10.binds (ps := ["tree"]) fun _ _ _ _ _ _ us hl => match us, hl with | [_], _ => rfl
  let d10 : FuncData := PySem.W.fnOf "_law_shown" "_law_shown" (defArgs (top 17)) (defBody (top 17)) (defScope (top 17)) .none kV10 dc10 pm10 an10 cd10 ct10
  have F11 := fun_mk (st := top 18) l11 c11 k11
  have b11 := F11.binds (ps := ["bag"]) fun _ _ _ _ _ _ us hl => match us, hl with | [_], _ => rfl
  let d11 : FuncData := PySem.W.fnOf "_law_drawn_tree" "_law_drawn_tree" (defArgs (top 18)) (defBody (top 18)) (defScope (top 18)) .none kV11 dc11 pm11 an11 cd11 ct11
  have F12 := fun_mk (st := top 19) l12 c12 k12
  have b12 := F12.binds (ps := ["text"]) fun _ _ _ _ _ _ us hl => match us, hl with | [_], _ => rfl
  let d12 : FuncData := PySem.W.fnOf "_law_read" "_law_read" (defArgs (top 19)) (defBody (top 19)) (defScope (top 19)) .none kV12 dc12 pm12 an12 cd12 ct12
  have F13 := fun_mk (st := top 20) l13 c13 k13
  have b13 := F13.binds (ps := ["text"]) fun _ _ _ _ _ _ us hl => match us, hl with | [_], _ => rfl
  let d13 : FuncData := PySem.W.fnOf "_law_told" "_law_told" (defArgs (top 20)) (defBody (top 20)) (defScope (top 20)) .none kV13 dc13 pm13 an13 cd13 ct13
  have F14 := fun_mk (st := top 21) l14 c14 k14
  have b14 := F14.binds (ps := ["bag", "text"]) fun _ _ _ _ _ _ us hl => match us, hl with | [_, _], _ => rfl
  let d14 : FuncData := PySem.W.fnOf "_law_spoilt" "_law_spoilt" (defArgs (top 21)) (defBody (top 21)) (defScope (top 21)) .none kV14 dc14 pm14 an14 cd14 ct14
  have F15 := fun_mk (st := top 22) l15 c15 k15
  have b15 := F15.binds (ps := ["script"]) fun _ _ _ _ _ _ us hl => match us, hl with | [_], _ => rfl
  let d15 : FuncData := PySem.W.fnOf "law" "law" (defArgs (top 22)) (defBody (top 22)) (defScope (top 22)) .none kV15 dc15 pm15 an15 cd15 ct15
  have kw_read_tree : KBinds K d3 ["text"] ["text"] (fun us ws => us ++ ws) (fun vs zs => vs ++ zs) := ⟨fun s us ws _ hl => match us, ws, hl with | [_], [], _ => .of_eq rfl | [], [_], _ => .of_eq rfl, fun r1 r2 => vals_app r1 r2⟩
  have kw_show_tree : KBinds K d1 ["tree"] ["tree"] (fun us ws => us ++ ws) (fun vs zs => vs ++ zs) := ⟨fun s us ws _ hl => match us, ws, hl with | [_], [], _ => .of_eq rfl | [], [_], _ => .of_eq rfl, fun r1 r2 => vals_app r1 r2⟩
  let aa : Nat → Addr := (fun i => match i with | 0 => f0 | 1 => f1 | 2 => f2 | 3 => f3 | 4 => f4 | 5 => f5 | 6 => f6 | 7 => f7 | 8 => f8 | 9 => f9 | 10 => f10 | 11 => f11 | 12 => f12 | 13 => f13 | 14 => f14 | _ => fa)
  let ff : Nat → FuncData := (fun i => match i with | 0 => d0 | 1 => d1 | 2 => d2 | 3 => d3 | 4 => d4 | 5 => d5 | 6 => d6 | 7 => d7 | 8 => d8 | 9 => d9 | 10 => d10 | 11 => d11 | 12 => d12 | 13 => d13 | 14 => d14 | _ => d15)
  have T : Txt K mg aa ff tk := ⟨PySem.W.mg_of X G a0, k0, b0, PySem.W.mg_of X G a1, k1, b1, PySem.W.mg_of X G a2, k2, b2, PySem.W.mg_of X G a3, k3, b3, PySem.W.mg_of X G a4, k4, b4, PySem.W.mg_of X G a5, k5, b5, PySem.W.mg_of X G a6, k6, b6, PySem.W.mg_of X G a7, k7, b7, PySem.W.mg_of X G a8, k8, b8, PySem.W.mg_of X G a9, k9, b9, PySem.W.mg_of X G a10, k10, b10, PySem.W.mg_of X G a11, k11, b11, PySem.W.mg_of X G a12, k12, b12, PySem.W.mg_of X G a13, k13, b13, PySem.W.mg_of X G a14, k14, b14, PySem.W.mg_of X G a15, k15, b15, kw_read_tree, kw_show_tree, PySem.W.mg_none_of X G z_abs, PySem.W.mg_none_of X G z_all, PySem.W.mg_none_of X G z_bool, PySem.W.mg_none_of X G z_int, PySem.W.mg_none_of X G z_isinstance, PySem.W.mg_none_of X G z_len, PySem.W.mg_none_of X G z_range, PySem.W.mg_none_of X G z_str, PySem.W.mg_none_of X G z_super, PySem.W.mg_none_of X G z_tuple, PySem.W.mg_of X G cs⟩
  have B : PySem.Bad.Txt l.prog K mg C fI "bad text: line " :=
    { gC := PySem.W.mg_of X G aC, cls := ⟨nm, qn, N, bs, bm, sn, sub, ab, col, dd, m0, m1, m2, m3, m5, xL, hbm⟩, sa := sa, ga := ga, gg := gg, noN := nb, iC := aI, tC := tI, kC := kC, exC := eC, tyC := tC, hdC := hC, te := exm_of eC iC tC sC, sup := T.b_super, alo := al, opq := op, veC := vC, ccC := mC, top := tp, small := by decide,
      fn := ⟨_, _, _, _, _, _, _, _, _, bp, _, _, _, _, _, _, _, _, _, lI, cI, xcd, xfl, xfe, xce, rfl⟩ }
  obtain ⟨a', o', fd', c', P', h1, h2, h3, h4, h5, h6⟩ := TBS "is_name" rec
  have e1 := (PySem.W.mg_of X G a0).symm.trans h1
  cases e1
  have e2 := (X _ _ l0).symm.trans h2
  cases e2
  cases h3
  have e4 : Value.ref cc = Value.ref c' := h4
  cases e4
  have cd : PySem.W.CodeHd h cc P' := .of h5 h6
  obtain ⟨⟨ox, vx, y1, y2, y3, y4⟩, hPt⟩ := h6
  have e5 := (X _ _ xcc).symm.trans y1
  cases e5
  cases y3
  have e6 := xpt.symm.trans y4
  cases e6
  letI : Tbs := ⟨fun a => a = pt⟩
  refine ⟨d15, [(cc, pt)], spF noX K 1 s_law, fun p hp => ?_, fun p hp => ?_, fun p hp => ?_, fun s v => .of_eq rfl, fun H a ns hl hb hH hS => ?_, fun base KB GB TB => ?_⟩
  · rw [List.mem_singleton.mp hp]
    exact hPt
  · rw [List.mem_singleton.mp hp]
    exact xno
  · rw [List.mem_singleton.mp hp]
    exact cd
  · obtain ⟨outs, e⟩ := LT ns hl hb
    refine ⟨{ ex := fun _ => False, H0 := H, f0 := [], args := [some (.ref a)] }, [.sc ns], [[]], _, rfl, ?_, rfl, e, fun v H' fl' _ _ r => r⟩
    have hs : (Rd H a (.lst (ns.map V.int)) ∧ ¬ ownO { ex := fun _ => False, H0 := H, f0 := [], args := [some (.ref a)] } [[]] a) ∨ ∀ H', SqL K H' a (ns.map V.int) := by
      rcases hS with z | z
      · exact .inl ⟨z, fun y => by rcases y with y | y <;> simp at y⟩
      · exact .inr fun H' => .inr z
    refine ⟨⟨some (.ref a), [], [], [], rfl, rfl, ⟨rfl, a, rfl, hs⟩, rfl, rfl⟩, by simp, fun a z => z.elim, by simp, fun b hb => ?_, Ev.refl, fun i F d hi => ?_⟩
    · have hb' : b = pt := hb
      rw [hb']
      exact ⟨#[], hH (cc, pt) (List.mem_singleton.mpr rfl), by simp [TriplesOk]⟩
    · match i, hi with
      | 0, hi => cases hi
      | i + 1, hi => cases hi
  · have tb0 := TB (cc, pt) (List.mem_singleton.mpr rfl)
    have TBB : GxR.TabB base mg cc pt := ⟨tb0.code, tb0.bm, tb0.gP⟩

    have G_is_name := ok_is_name (P := l.prog) (w := w) (base := base) (a := aa) (fd := ff) T ⟨⟨_, _, _, _, _, _, _, _, rfl, l0, c0⟩⟩ TBB rfl
    have G_show_tree : FnOk l.prog w K mg base CX0 65 (aa 1) (ff 1) ["tree"] (spF noX K (["tree"] : List Str).length (s_show_tree 64)) := rec_show_tree T F1  64
    have G_pieces_of := ok_pieces_of (P := l.prog) (w := w) (base := base) (a := aa) (fd := ff) T F2 
    have R_read_tree := ok_read_tree (P := l.prog) (w := w) (base := base) (a := aa) (fd := ff) T B F3 G_pieces_of G_is_name
    have G_read_tree := fn_calm R_read_tree
    have G__law_bag := ok__law_bag (P := l.prog) (w := w) (base := base) (a := aa) (fd := ff) T F4 
    have G__law_draw := ok__law_draw (P := l.prog) (w := w) (base := base) (a := aa) (fd := ff) T F5 
    have G__law_pick := ok__law_pick (P := l.prog) (w := w) (base := base) (a := aa) (fd := ff) T F6 G__law_draw
    have G__law_same : FnOk l.prog w K mg base CX0 201 (aa 7) (ff 7) ["found", "due"] (spF noX K (["found", "due"] : List Str).length (s__law_same 200)) := rec__law_same T F7  200
    have G__law_names := ok__law_names (P := l.prog) (w := w) (base := base) (a := aa) (fd := ff) T F8 G__law_draw
    have G__law_is_name := ok__law_is_name (P := l.prog) (w := w) (base := base) (a := aa) (fd := ff) T F9 
    have G__law_shown : FnOk l.prog w K mg base CX0 65 (aa 10) (ff 10) ["tree"] (spF noX K (["tree"] : List Str).length (s__law_shown 64)) := rec__law_shown T F10  64
    have G__law_drawn_tree := ok__law_drawn_tree (P := l.prog) (w := w) (base := base) (a := aa) (fd := ff) T F11 G__law_pick G__law_draw G__law_names
    have G__law_read := ok__law_read (P := l.prog) (w := w) (base := base) (a := aa) (fd := ff) T F12 G__law_is_name
    have G__law_told := ok__law_told (P := l.prog) (w := w) (base := base) (a := aa) (fd := ff) T B (by rw [sizeLine_eq]; decide) F13 R_read_tree
    have G__law_spoilt := ok__law_spoilt (P := l.prog) (w := w) (base := base) (a := aa) (fd := ff) T F14 G__law_pick G__law_draw
    have G_law := ok_law (P := l.prog) (w := w) (base := base) (a := aa) (fd := ff) T F15 G__law_read G__law_same G__law_told G__law_draw G__law_spoilt G_read_tree G__law_shown G_show_tree G__law_drawn_tree G__law_bag
    exact G_law
end T73

set_option Elab.async false
set_option linter.all false
set_option maxRecDepth 100000
set_option maxHeartbeats 2000000
/-! M0: how the plain meanings are reckoned: rules of one step, of loops, of calls. -/
namespace DL
open PySem L2
section
variable {env e : Env} {s t body : ES} {d x y : D} {p q : EP1} {v w : EV1} {i : Nat} {b : Bool} {c : Env → Option (Bool × Env)} {g : D → D → Option D} {ds : List D}
theorem R.seq (h : s env = some (.nx e)) : sSeq s t env = t e := by unfold sSeq; rw [h]; rfl
theorem R.seqR (h : s env = some (.rt d e)) : sSeq s t env = some (.rt d e) := by unfold sSeq; rw [h]; rfl
theorem R.seqB (h : s env = some (.bk e)) : sSeq s t env = some (.bk e) := by unfold sSeq; rw [h]; rfl
theorem R.seqX {k : Nat} {as : List D} (h : s env = some (.ex k as)) : sSeq s t env = some (.ex k as) := by unfold sSeq; rw [h]; rfl
theorem R.ifT (h : c env = some (true, e)) : sIf c s t env = s e := by unfold sIf; rw [h]; rfl
theorem R.ifF (h : c env = some (false, e)) : sIf c s t env = t e := by unfold sIf; rw [h]; rfl
theorem R.ifB (h : c env = some (b, e)) : sIf c s t env = if b = true then s e else t e := by unfold sIf; rw [h]; rfl
theorem R.set (h : v env = some (d, e)) (hi : i < e.length) : sSet i v env = some (.nx (e.set i (.va .no d))) := by unfold sSet; rw [h]; exact if_pos hi
theorem R.ret (h : v env = some (d, e)) : sRet v env = some (.rt d e) := by unfold sRet; rw [h]; rfl
theorem R.lift (h : p env = some d) : DL.lift p env = some (d, env) := by unfold DL.lift; rw [h]; rfl
theorem R.tst (h : v env = some (.bl b, e)) : DL.tst v env = some (b, e) := by unfold DL.tst; rw [h]; rfl
theorem R.tstL (h : p env = some (.bl b)) : DL.tst (DL.lift p) env = some (b, env) := R.tst (R.lift h)
theorem R.e2 (hp : p env = some x) (hq : q env = some y) : e2 g p q env = g x y := by unfold DL.e2; rw [hp, Option.bind_some, hq]; rfl
theorem R.v2 {e1 e2 : Env} (hp : v env = some (x, e1)) (hq : w e1 = some (y, e2)) (hg : g x y = some d) : v2 g v w env = some (d, e2) := by unfold DL.v2; rw [hp, Option.bind_some, hq, Option.bind_some, hg]; rfl
theorem R.not (h : c env = some (b, e)) : qnot c env = some (!b, e) := by unfold qnot; rw [h]; rfl
theorem R.andT {c' : Env → Option (Bool × Env)} (h : c env = some (true, e)) : qand c c' env = c' e := by unfold qand; rw [h]; rfl
theorem R.andF {c' : Env → Option (Bool × Env)} (h : c env = some (false, e)) : qand c c' env = some (false, e) := by unfold qand; rw [h]; rfl
theorem R.orT {c' : Env → Option (Bool × Env)} (h : c env = some (true, e)) : qor c c' env = some (true, e) := by unfold qor; rw [h]; rfl
theorem R.orF {c' : Env → Option (Bool × Env)} (h : c env = some (false, e)) : qor c c' env = c' e := by unfold qor; rw [h]; rfl
theorem R.vifT (h : c env = some (true, e)) : vif c v w env = v e := by unfold vif; rw [h]; rfl
theorem R.vifF (h : c env = some (false, e)) : vif c v w env = w e := by unfold vif; rw [h]; rfl
theorem R.vs1 {ps : Env → Option (List D × Env)} {e1 : Env} (h : v env = some (d, e)) (hs : ps e = some (ds, e1)) : vs1 v ps env = some (d :: ds, e1) := by unfold DL.vs1; rw [h, Option.bind_some, hs]; rfl
theorem R.vs0 : vs0 env = some ([], env) := rfl
theorem R.callF {n : Nat} {F : FSem} {ps : Env → Option (List D × Env)} {outs : List Sl} (h : ps env = some (ds, e)) (hn : ds.length = n) (hF : F (ds.map fz) = some (.ret d outs)) : vcallF (lenF n F) ps env = some (d, e) := by
  unfold vcallF
  rw [h, Option.bind_some]
  have : lenF n F (ds.map fz) = some (.ret d outs) := by
    unfold lenF
    rw [if_pos (by rw [List.length_map]; exact hn)]
    exact hF
  rw [this]
  rfl
/-- a call whose first argument is an owned variable -/
theorem R.callO {n : Nat} {F : FSem} {ps : Env → Option (List D × Env)} {outs : List Sl} {G : Nat → Bool} {bd bd' : D} (h : ps env = some (ds, e)) (h0 : isVa env[i]? = true) (he : e[i]? = some (.va (.own G) bd)) (hn : ds.length + 1 = n)
    (hF : F (.va (.pin G) bd :: ds.map fz) = some (.ret d (.va (.pin G) bd' :: outs))) : vcallIO (lenF n F) i ps env = some (d, e.set i (.va (.own G) bd')) := by
  unfold vcallIO
  rw [if_pos h0, h, Option.bind_some]
  dsimp only
  rw [he]
  have : lenF n F (.va (.pin G) bd :: ds.map fz) = some (.ret d (.va (.pin G) bd' :: outs)) := by
    unfold lenF
    rw [if_pos (by rw [List.length_cons, List.length_map]; exact hn)]
    exact hF
  show ((retD (lenF n F (.va (.pin G) bd :: ds.map fz))).bind _) = _
  rw [this]
  rfl
theorem R.callP {n : Nat} {F : FSem} {ps : Env → Option (List D × Env)} {outs : List Sl} {G : Nat → Bool} {bd bd' : D} (h : ps env = some (ds, e)) (h0 : isVa env[i]? = true) (he : e[i]? = some (.va (.pin G) bd)) (hn : ds.length + 1 = n)
    (hF : F (.va (.pin G) bd :: ds.map fz) = some (.ret d (.va (.pin G) bd' :: outs))) : vcallIO (lenF n F) i ps env = some (d, e.set i (.va (.pin G) bd')) := by
  unfold vcallIO
  rw [if_pos h0, h, Option.bind_some]
  dsimp only
  rw [he]
  have : lenF n F (.va (.pin G) bd :: ds.map fz) = some (.ret d (.va (.pin G) bd' :: outs)) := by
    unfold lenF
    rw [if_pos (by rw [List.length_cons, List.length_map]; exact hn)]
    exact hF
  show ((retD (lenF n F (.va (.pin G) bd :: ds.map fz))).bind _) = _
  rw [this]
  rfl
/-- a for loop by an invariant: I, of the items that are left; P, of the way out -/
theorem R.loop {tgs : D → Env → Option Env} {P : Option Out → Prop} (I : List D → Env → Prop)
    (step : ∀ d r e, I (d :: r) e → ∃ e1, tgs d e = some e1 ∧ ((∃ e2, body e1 = some (.nx e2) ∧ I r e2) ∨ (∃ e2, body e1 = some (.ct e2) ∧ I r e2) ∨ (∃ e2, body e1 = some (.bk e2) ∧ P (some (.nx e2))) ∨ (∃ z e2, body e1 = some (.rt z e2) ∧ P (some (.rt z e2))) ∨ (∃ k as, body e1 = some (.ex k as) ∧ P (some (.ex k as)))))
    (fin : ∀ e, I [] e → P (some (.nx e))) : ∀ (ds : List D) (e : Env), I ds e → P (loopS tgs body ds e)
  | [], e, h => fin e h
  | d :: r, e, h => by
    obtain ⟨e1, h1, h2⟩ := step d r e h
    unfold loopS
    rw [h1, Option.bind_some]
    rcases h2 with ⟨e2, hb, h3⟩ | ⟨e2, hb, h3⟩ | ⟨e2, hb, h3⟩ | ⟨z, e2, hb, h3⟩ | ⟨k, as, hb, h3⟩
    · rw [hb]
      exact R.loop I step fin r e2 h3
    · rw [hb]
      exact R.loop I step fin r e2 h3
    · rw [hb]
      exact h3
    · rw [hb]
      exact h3
    · rw [hb]
      exact h3
theorem R.for {it : Env → Option (List D × Env)} {tgs : D → Env → Option Env} {P : Option Out → Prop} (h : it env = some (ds, e)) (k : P (loopS tgs body ds e)) : P (sFor it tgs body env) := by
  unfold sFor
  rw [h]
  exact k
theorem R.rng {k : Nat} {ps : Env → Option (List D × Env)} (h : ps env = some ([.int (k : Int)], e)) (hk : k < 2 ^ 62) : itR1 (ps env) = some (rngL 0 k, e) := by
  rw [h]
  unfold itR1
  dsimp only
  rw [if_pos ⟨by omega, by omega⟩, Int.toNat_natCast]
/-- a comprehension by an invariant on the loop -/
theorem R.lc {vs : List Nat} {tgs : D → Env → Option Env} {cond : Env → Option (Bool × Env)} {elt : EV1} {Q : List D → Env → Prop} (I : List D → Env → List D → Prop)
    (step : ∀ d r e acc, I (d :: r) e acc → ∃ e1 c e2, tgs d e = some e1 ∧ cond e1 = some (c, e2) ∧ ((c = true ∧ ∃ z e3, elt e2 = some (z, e3) ∧ acc.length < big ∧ I r (wipeE e3 vs) (acc ++ [z])) ∨ (c = false ∧ I r (wipeE e2 vs) acc)))
    (fin : ∀ e acc, I [] e acc → Q acc e) : ∀ (ds : List D) (e : Env) (acc : List D), I ds e acc → ∃ l e', lcLoop vs tgs cond elt ds e acc = some (l, e') ∧ Q l e'
  | [], e, acc, h => ⟨acc, e, rfl, fin e acc h⟩
  | d :: r, e, acc, h => by
    obtain ⟨e1, c, e2, h1, h2, h3⟩ := step d r e acc h
    unfold lcLoop
    rw [h1, Option.bind_some, h2, Option.bind_some]
    rcases h3 with ⟨hc, z, e3, hz, hb, h4⟩ | ⟨hc, h4⟩
    · subst hc
      rw [if_pos rfl, hz, Option.bind_some, if_pos hb]
      exact R.lc I step fin r _ _ h4
    · subst hc
      rw [if_neg Bool.false_ne_true]
      exact R.lc I step fin r _ _ h4
theorem R.vlst {ps : Env → Option (List D × Env)} (h : ps env = some (ds, e)) : DL.vlst ps env = some (.lst ds, e) := by unfold DL.vlst; rw [h]; rfl
theorem R.ncat {e1 e2 : Env} {as bs : List D} (h : v env = some (.lst as, e1)) (h2 : w e1 = some (.lst bs, e2)) (hz : as.length + bs.length ≤ big) : DL.ncat v w env = some (as ++ bs, e2) := by
  unfold DL.ncat
  rw [h]
  dsimp only [DL.ncat.vLst', Option.bind_some]
  rw [h2]
  exact if_pos hz
theorem R.nlc {vs : List Nat} {it : Env → Option (List D × Env)} {tgs : D → Env → Option Env} {cond : Env → Option (Bool × Env)} {elt : EV1} {l : List D} {e' : Env} (h : it env = some (ds, e)) (hl : lcLoop vs tgs cond elt ds (wipeE e vs) [] = some (l, e')) :
    DL.nlc vs it tgs cond elt env = some (l, restE e vs (wipeE e' vs.reverse)) := by
  unfold DL.nlc
  rw [h, Option.bind_some, hl]
  rfl
theorem R.setN {ps : Env → Option (List D × Env)} (h : ps env = some (ds, e)) (hi : i < e.length) : sSetN i ps env = some (.nx (e.set i (.va (.own nF) (.lst ds)))) := by unfold sSetN; rw [h]; exact if_pos hi
theorem R.vcall {gg : List D → Option D} {ps : Env → Option (List D × Env)} (h : ps env = some (ds, e)) (hg : gg ds = some d) : DL.vcall gg ps env = some (d, e) := by unfold DL.vcall; rw [h, Option.bind_some, hg]; rfl
theorem R.xs1 {px : EX1} {qs : Env → Option (List Sl × Env)} {e' : Env} {sl : Sl} {sls : List Sl} (h : px env = some (sl, e)) (hs : qs e = some (sls, e')) : DL.xs1 px qs env = some (sl :: sls, e') := by unfold DL.xs1; rw [h, Option.bind_some, hs]; rfl
theorem R.xval (h : v env = some (d, e)) : DL.xval v env = some (.va .no d, e) := by unfold DL.xval; rw [h]; rfl
theorem R.retX {px : EX1} {sl : Sl} (h : px env = some (sl, e)) : sRetX px env = some (.rx sl e) := by unfold sRetX; rw [h]; rfl
theorem R.xlst {qs : Env → Option (List Sl × Env)} {sls : List Sl} {fs : List Bool} (h : qs env = some (sls, e)) (hi : itemsOf sls = some (fs, ds)) (hz : ds.length ≤ big) : DL.xlst qs env = some (.va (.own (fl2 fs)) (.lst ds), e) := by
  unfold DL.xlst
  rw [h, Option.bind_some]
  dsimp only
  rw [hi]
  exact if_pos hz
theorem R.setIx {F : Nat → Bool} {m : OM} {k : Int} {j : Nat} (h : v env = some (d, e)) (ho : ownL e[i]? = some (F, m, ds)) (hk : asI (q e) = some k) (hj : ixN ds.length k = some j) (hF : F j = false) : sSetIx i q v env = some (.nx (e.set i (.va m (.lst (ds.set j d))))) := by
  unfold sSetIx
  rw [h, Option.bind_some]
  dsimp only
  rw [ho, Option.bind_some, hk, Option.bind_some]
  dsimp only
  rw [hj, Option.bind_some, if_pos hF]
theorem R.ixO {F : Nat → Bool} {m : OM} {k : Int} {j : Nat} (ho : ownL env[i]? = some (F, m, ds)) (hk : asI (q env) = some k) (hj : ixN ds.length k = some j) (hF : F j = false) (hd : ds[j]? = some d) : eIxO i q env = some d := by
  unfold eIxO
  rw [ho, Option.bind_some, hk, Option.bind_some]
  dsimp only
  rw [hj, Option.bind_some, if_pos hF]
  exact hd
theorem ixN0 {n : Nat} : ixN (n + 1) 0 = some 0 := by
  unfold ixN
  rw [if_pos (by decide), if_pos (by omega)]
  rfl
theorem ixNlast {n : Nat} : ixN (n + 1) (-1) = some n := by
  unfold ixN
  rw [if_neg (by decide), if_pos (by omega)]
  congr 1
  omega
theorem at0 {α : Type} {a : α} {l : List α} : atI (a :: l) 0 = some a := by
  unfold atI ixN
  rw [if_pos (by decide), if_pos (by simp)]
  rfl
theorem R.fn {n N : Nat} {args : List Sl} (h : body (args ++ List.replicate (N - n) .un) = some (.rt d e)) (hn : n ≤ e.length) : fSem n N body args = some (.ret d (kp n e)) := by
  unfold fSem
  rw [h]
  exact if_pos hn
theorem R.fnX {n N : Nat} {args : List Sl} {k : Nat} {as : List D} (h : body (args ++ List.replicate (N - n) .un) = some (.ex k as)) : fSem n N body args = some (.exc k as) := by
  unfold fSem
  rw [h]
  rfl
end
theorem oMod_pos {i j : Int} (h : 0 < j) : oMod (.int i) (.int j) = some (.int (i % j)) := if_pos h
theorem oDiv_pos {i j : Int} (h : 0 < j) (h2 : j < 1073741824) : oDiv (.int i) (.int j) = some (.int (i / j)) := if_pos ⟨h, h2⟩
theorem oMul_small {i j : Int} (h : -(2 ^ 64) < j ∧ j < 2 ^ 64) : oMul (.int i) (.int j) = some (.int (i * j)) := if_pos (.inr h)
theorem oEq_int {i j : Int} : oEq (.int i) (.int j) = some (.bl (decide (i = j))) := by
  unfold oEq eqB
  rw [if_pos (show scB (.int i) (.int j) = true from rfl)]
  show some (D.bl (decide (V.int i = V.int j))) = _
  congr 2
  simp
end DL

set_option Elab.async false
set_option linter.all false
set_option maxRecDepth 100000
set_option maxHeartbeats 2000000
/-! M1: the bag and its draws. -/
namespace T73
open PySem L2 DL
abbrev bF : Nat → Bool := flags [false, false, true, false]
def bagD (b0 b1 : Int) (gs cs : List Int) : D := .lst [.int b0, .int b1, .lst (gs.map D.int), .lst (cs.map D.int)]
structure BagOk (b0 b1 : Int) (gs cs : List Int) : Prop where
  h0 : 0 ≤ b0
  h1 : 0 ≤ b1
  hg : ∀ g ∈ gs, 0 < g
  hne : cs ≠ []
def Bag (d : D) : Prop := ∃ b0 b1 gs cs, d = bagD b0 b1 gs cs ∧ BagOk b0 b1 gs cs
def dE (b0 b1 : Int) (gs cs : List Int) (many : Int) (x y z : Sl) : DL.Env := [.va (.pin bF) (bagD b0 b1 gs cs), .va .no (.int many), x, y, z]
def Drawn (many : Int) (r : Option FRes) : Prop := ∃ k bag', r = some (.ret (.int k) [.va (.pin bF) bag', .un]) ∧ Bag bag' ∧ 0 ≤ k ∧ k < many
theorem ix_ok {l : List D} {i : Int} (h0 : 0 ≤ i) (h1 : i < l.length) : ∃ d, atI l i = some d ∧ d ∈ l := by
  have hl : i.toNat < l.length := by omega
  refine ⟨l[i.toNat], ?_, List.getElem_mem hl⟩
  unfold atI ixN
  rw [if_pos h0, if_pos h1]
  exact List.getElem?_eq_getElem hl
abbrev dT : ES := sSeq (sIf (tst (lift (e2 oGt (e2 oIx (bvar 0) (cst (.int 0))) (cst (.int 0)))))
      (sSeq (sSet 2 (lift (e2 oMod (ecall gInt (es1 (eIxO 0 (cst (.int 0))) (es0))) (evar 1)))) (sSeq (sSetIx 0 (cst (.int 0)) (lift (e2 oDiv (eIxO 0 (cst (.int 0))) (evar 1)))) (sRet (lift (evar 2))))) sNil)
      (sSeq (sSet 3 (lift (e2 oIx (eIxO 0 (cst (.int 3))) (e2 oMod (ecall gInt (es1 (eIxO 0 (cst (.int 1))) (es0))) (ecall gLen (es1 (eIxO 0 (cst (.int 3))) (es0)))))))
      (sSeq (sSet 4 (lift (e2 oMod (ecall gInt (es1 (e2 oAdd (e2 oAdd (e2 oMul (evar 3) (cst (.int 48271))) (e2 oMul (eIxO 0 (cst (.int 1))) (cst (.int 69621)))) (cst (.int 1))) (es0))) (cst (.int 2147483647)))))
      (sRet (lift (e2 oMod (e2 oDiv (e2 oMod (ecall gInt (es1 (e2 oAdd (e2 oAdd (e2 oMul (evar 4) (evar 4)) (e2 oMul (evar 4) (cst (.int 16807)))) (e2 oMul (eIxO 0 (cst (.int 1))) (cst (.int 40014)))) (es0))) (cst (.int 2147483629))) (cst (.int 32))) (evar 1))))))
theorem R.callI {p : EP1} {env : DL.Env} {i : Int} (h : p env = some (.int i)) : ecall gInt (es1 p es0) env = some (.int i) := by
  unfold ecall es1
  rw [h]
  rfl
theorem draw_tail {b0 b1 : Int} {gs cs : List Int} {many : Int} (hm : 0 < many) (hm2 : many < 1073741824) (B : BagOk b0 b1 gs cs) :
    ∃ k e, dT (dE b0 b1 gs cs many .un .un .un) = some (.rt (.int k) e) ∧ 0 ≤ k ∧ k < many ∧ 2 ≤ e.length ∧ ∃ bag', kp 2 e = [.va (.pin bF) bag', .un] ∧ Bag bag' := by
  have hmne : many ≠ 0 := by omega
  by_cases h : 0 < b0
  · have q1 : (tst (lift (e2 oGt (e2 oIx (bvar 0) (cst (.int 0))) (cst (.int 0))))) (dE b0 b1 gs cs many .un .un .un) = some (true, dE b0 b1 gs cs many .un .un .un) := R.tstL (by
      show some (D.bl (decide (0 < b0))) = _
      rw [decide_eq_true h])
    have q2 : (lift (e2 oMod (ecall gInt (es1 (eIxO 0 (cst (.int 0))) (es0))) (evar 1))) (dE b0 b1 gs cs many .un .un .un) = some (.int (b0 % many), dE b0 b1 gs cs many .un .un .un) := R.lift (oMod_pos hm)
    have q3 : (lift (e2 oDiv (eIxO 0 (cst (.int 0))) (evar 1))) (dE b0 b1 gs cs many (.va .no (.int (b0 % many))) .un .un) = some (.int (b0 / many), dE b0 b1 gs cs many (.va .no (.int (b0 % many))) .un .un) := R.lift (oDiv_pos hm hm2)
    have q4 : (sSetIx 0 (cst (.int 0)) (lift (e2 oDiv (eIxO 0 (cst (.int 0))) (evar 1)))) (dE b0 b1 gs cs many (.va .no (.int (b0 % many))) .un .un) = some (.nx (dE (b0 / many) b1 gs cs many (.va .no (.int (b0 % many))) .un .un)) := by
      unfold sSetIx
      rw [q3]
      rfl
    refine ⟨b0 % many, _, R.seqR ((R.ifT q1).trans ((R.seq (R.set q2 (by show 2 < 5; decide))).trans ((R.seq q4).trans (R.ret (R.lift rfl))))), Int.emod_nonneg _ hmne, Int.emod_lt_of_pos _ hm, (by show 2 ≤ 5; decide), _, rfl, _, _, _, _, rfl, ⟨Int.ediv_nonneg B.h0 (by omega), B.h1, B.hg, B.hne⟩⟩
  · have hL : (0 : Int) < ((cs.map D.int).length : Nat) := by
      have := List.length_pos_iff.mpr B.hne
      rw [List.length_map]
      omega
    obtain ⟨d, hd, hmem⟩ := ix_ok (l := cs.map D.int) (Int.emod_nonneg b1 (by omega)) (Int.emod_lt_of_pos b1 hL)
    obtain ⟨c, _, rfl⟩ := List.mem_map.mp hmem
    obtain ⟨m, em⟩ : ∃ m : Int, m = (c * 48271 + b1 * 69621 + 1) % 2147483647 := ⟨_, rfl⟩
    have m0 : 0 ≤ m := by rw [em]; exact Int.emod_nonneg _ (by decide)
    have m1 : m < 2147483647 := by rw [em]; exact Int.emod_lt_of_pos _ (by decide)
    obtain ⟨r, er⟩ : ∃ r : Int, r = (m * m + m * 16807 + b1 * 40014) % 2147483629 / 32 := ⟨_, rfl⟩
    have q1 : (tst (lift (e2 oGt (e2 oIx (bvar 0) (cst (.int 0))) (cst (.int 0))))) (dE b0 b1 gs cs many .un .un .un) = some (false, dE b0 b1 gs cs many .un .un .un) := R.tstL (by
      show some (D.bl (decide (0 < b0))) = _
      rw [decide_eq_false h])
    have q2 : (lift (e2 oIx (eIxO 0 (cst (.int 3))) (e2 oMod (ecall gInt (es1 (eIxO 0 (cst (.int 1))) (es0))) (ecall gLen (es1 (eIxO 0 (cst (.int 3))) (es0)))))) (dE b0 b1 gs cs many .un .un .un) = some (.int c, dE b0 b1 gs cs many .un .un .un) :=
      R.lift ((R.e2 (x := .lst (cs.map D.int)) (y := .int (b1 % ((cs.map D.int).length : Nat))) rfl (oMod_pos hL)).trans hd)
    have q3 : (lift (e2 oMod (ecall gInt (es1 (e2 oAdd (e2 oAdd (e2 oMul (evar 3) (cst (.int 48271))) (e2 oMul (eIxO 0 (cst (.int 1))) (cst (.int 69621)))) (cst (.int 1))) (es0))) (cst (.int 2147483647)))) (dE b0 b1 gs cs many .un (.va .no (.int c)) .un) = some (.int m, dE b0 b1 gs cs many .un (.va .no (.int c)) .un) := by
      rw [em]
      refine R.lift ((R.e2 (y := .int 2147483647) (R.callI (R.e2 (x := .int (c * 48271 + b1 * 69621)) (y := .int 1) (R.e2 (x := .int (c * 48271)) (y := .int (b1 * 69621)) (oMul_small (by decide)) (oMul_small (by decide))) rfl)) rfl).trans (oMod_pos (by decide)))
    have q4 : (lift (e2 oMod (e2 oDiv (e2 oMod (ecall gInt (es1 (e2 oAdd (e2 oAdd (e2 oMul (evar 4) (evar 4)) (e2 oMul (evar 4) (cst (.int 16807)))) (e2 oMul (eIxO 0 (cst (.int 1))) (cst (.int 40014)))) (es0))) (cst (.int 2147483629))) (cst (.int 32))) (evar 1))) (dE b0 b1 gs cs many .un (.va .no (.int c)) (.va .no (.int m))) = some (.int (r % many), dE b0 b1 gs cs many .un (.va .no (.int c)) (.va .no (.int m))) := by
      rw [er]
      refine R.lift ((R.e2 (y := .int many) ((R.e2 (y := .int 32) ((R.e2 (y := .int 2147483629) (R.callI (R.e2 (x := .int (m * m + m * 16807)) (y := .int (b1 * 40014)) (R.e2 (x := .int (m * m)) (y := .int (m * 16807)) (oMul_small (i := m) (j := m) ⟨by omega, by omega⟩) (oMul_small (by decide))) (oMul_small (by decide)))) rfl).trans (oMod_pos (by decide))) rfl).trans (oDiv_pos (by decide) (by decide))) rfl).trans (oMod_pos hm))
    refine ⟨r % many, _, (R.seq (R.ifF q1)).trans ((R.seq (R.set q2 (by show 3 < 5; decide))).trans ((R.seq (R.set q3 (by show 4 < 5; decide))).trans (R.ret q4))), Int.emod_nonneg _ hmne, Int.emod_lt_of_pos _ hm, (by show 2 ≤ 5; decide), _, rfl, _, _, _, _, rfl, B⟩
theorem draw_ok {b0 b1 : Int} {gs cs : List Int} {many : Int} (B : BagOk b0 b1 gs cs) (hm : 0 < many) (hm2 : many < 1073741824) : Drawn many (s__law_draw [.va (.pin bF) (bagD b0 b1 gs cs), .va .no (.int many)]) := by
  have B1 : BagOk b0 (b1 + 1) gs cs := ⟨B.h0, by have := B.h1; omega, B.hg, B.hne⟩
  have s1 : (sSetIx 0 (cst (.int 1)) (lift (e2 oAdd (eIxO 0 (cst (.int 1))) (cst (.int 1))))) (dE b0 b1 gs cs many .un .un .un) = some (.nx (dE b0 (b1 + 1) gs cs many .un .un .un)) := rfl
  have fin : ∀ (b0' : Int) (gs' : List Int), BagOk b0' (b1 + 1) gs' cs → (sIf (qand (tst (lift (e2 oEq (e2 oIx (bvar 0) (cst (.int 0))) (cst (.int 0))))) (tst (lift (e2 oGt (ecall gLen (es1 (e2 oIx (bvar 0) (cst (.int 2))) (es0))) (cst (.int 0))))))
      (sSetIx 0 (cst (.int 0)) (vPop2 0 (cst (.int 2)))) sNil) (dE b0 (b1 + 1) gs cs many .un .un .un) = some (.nx (dE b0' (b1 + 1) gs' cs many .un .un .un)) → Drawn many (s__law_draw [.va (.pin bF) (bagD b0 b1 gs cs), .va .no (.int many)]) := by
    intro b0' gs' B' s2
    obtain ⟨k, e, h, k0, k1, hl, bag', hk, hb⟩ := draw_tail hm hm2 B'
    have z : s__law_draw [.va (.pin bF) (bagD b0 b1 gs cs), .va .no (.int many)] = some (.ret (.int k) (kp 2 e)) := R.fn ((R.seq s1).trans ((R.seq s2).trans h)) hl
    exact ⟨k, bag', by rw [z, hk], hb, k0, k1⟩
  have t1 : (tst (lift (e2 oEq (e2 oIx (bvar 0) (cst (.int 0))) (cst (.int 0))))) (dE b0 (b1 + 1) gs cs many .un .un .un) = some (decide (b0 = 0), dE b0 (b1 + 1) gs cs many .un .un .un) := R.tstL oEq_int
  have t2 : (tst (lift (e2 oGt (ecall gLen (es1 (e2 oIx (bvar 0) (cst (.int 2))) (es0))) (cst (.int 0))))) (dE b0 (b1 + 1) gs cs many .un .un .un) = some (decide ((0 : Int) < ((gs.map D.int).length : Nat)), dE b0 (b1 + 1) gs cs many .un .un .un) := rfl
  by_cases h : b0 = 0
  · rw [decide_eq_true h] at t1
    by_cases hg : gs = []
    · subst hg
      exact fin b0 [] B1 ((R.ifF ((R.andT t1).trans t2)).trans rfl)
    · have hp := List.length_pos_iff.mpr hg
      rw [decide_eq_true (by rw [List.length_map]; omega)] at t2
      obtain ⟨g, hgl⟩ : ∃ g, gs[gs.length - 1]? = some g := ⟨_, List.getElem?_eq_getElem (by omega)⟩
      refine fin g gs.dropLast ⟨Int.le_of_lt (B.hg g (List.mem_of_getElem? hgl)), B1.h1, fun x hx => B.hg x ((List.dropLast_sublist gs).subset hx), B.hne⟩ ((R.ifT ((R.andT t1).trans t2)).trans ?_)
      have p1 : (vPop2 0 (cst (.int 2))) (dE b0 (b1 + 1) gs cs many .un .un .un) = some (.int g, dE b0 (b1 + 1) gs.dropLast cs many .un .un .un) := by
        show (((gs.map D.int)[(gs.map D.int).length - 1]?).map fun d => (d, _)) = _
        rw [List.length_map, List.getElem?_map, hgl]
        show some (D.int g, _) = _
        unfold dE bagD
        rw [List.map_dropLast]
        rfl
      unfold sSetIx
      rw [p1]
      rfl
  · rw [decide_eq_false h] at t1
    exact fin b0 gs B1 ((R.ifF (R.andF t1)).trans rfl)
end T73

set_option Elab.async false
set_option linter.all false
set_option maxRecDepth 100000
set_option maxHeartbeats 2000000
/-! M2: picks; the bag of a script. -/
namespace T73
open PySem L2 DL
theorem draw_bag {bag : D} {many : Int} (hb : Bag bag) (hm : 0 < many) (hm2 : many < 1073741824) : ∃ k bag', s__law_draw [.va (.pin bF) bag, .va .no (.int many)] = some (.ret (.int k) [.va (.pin bF) bag', .un]) ∧ Bag bag' ∧ 0 ≤ k ∧ k < many := by
  obtain ⟨b0, b1, gs, cs, rfl, B⟩ := hb
  exact draw_ok B hm hm2
/-- the bag at slot i of env, the answer d, the bag behind it -/
def Picked (l : List D) (r : Option FRes) : Prop := ∃ d bag', r = some (.ret d [.va (.pin bF) bag', .un]) ∧ Bag bag' ∧ d ∈ l
theorem pick_bag {bag : D} {l : List D} (hb : Bag bag) (hl : l ≠ []) (hl2 : l.length < 1073741824) : Picked l (s__law_pick [.va (.pin bF) bag, .va .no (.lst l)]) := by
  have hp := List.length_pos_iff.mpr hl
  obtain ⟨k, bag', e, hb', k0, k1⟩ := draw_bag hb (many := (l.length : Int)) (by omega) (by omega)
  obtain ⟨d, hd, hm⟩ := ix_ok k0 k1
  refine ⟨d, bag', ?_, hb', hm⟩
  have c : (vcallIO (lenF 2 s__law_draw) 0 (vs1 (lift (ecall gLen (es1 (evar 1) (es0)))) (vs0))) [.va (.pin bF) bag, .va .no (.lst l)] = some (.int k, [.va (.pin bF) bag', .va .no (.lst l)]) :=
    R.callP (n := 2) (i := 0) (e := [.va (.pin bF) bag, .va .no (.lst l)]) (ds := [.int (l.length : Nat)]) rfl rfl rfl rfl e
  have z : b__law_pick [.va (.pin bF) bag, .va .no (.lst l)] = some (.rt d [.va (.pin bF) bag', .va .no (.lst l)]) := R.ret (R.v2 (g := oIx) (x := .lst l) (y := .int k) (R.lift rfl) c hd)
  exact R.fn (n := 2) (N := 2) (body := b__law_pick) (args := [.va (.pin bF) bag, .va .no (.lst l)]) z (by show 2 ≤ 2; decide)
/-- a draw, at the place of a call -/
theorem draw_at {i : Nat} {env e : DL.Env} {F : Nat → Bool} {bag : D} {many : Int} {ps : DL.Env → Option (List D × DL.Env)} (hb : Bag bag) (hm : 0 < many) (hm2 : many < 1073741824) (h : ps env = some ([.int many], e)) (h0 : env[i]? = some (.va (.own bF) bag)) (he : e[i]? = some (.va (.own bF) bag)) :
    ∃ k bag', vcallIO (lenF 2 s__law_draw) i ps env = some (.int k, e.set i (.va (.own bF) bag')) ∧ Bag bag' ∧ 0 ≤ k ∧ k < many := by
  obtain ⟨k, bag', z, hb', k0, k1⟩ := draw_bag hb hm hm2
  exact ⟨k, bag', R.callO h (by rw [h0]; rfl) he rfl z, hb', k0, k1⟩
theorem draw_pin {i : Nat} {env e : DL.Env} {bag : D} {many : Int} {ps : DL.Env → Option (List D × DL.Env)} (hb : Bag bag) (hm : 0 < many) (hm2 : many < 1073741824) (h : ps env = some ([.int many], e)) (h0 : env[i]? = some (.va (.pin bF) bag)) (he : e[i]? = some (.va (.pin bF) bag)) :
    ∃ k bag', vcallIO (lenF 2 s__law_draw) i ps env = some (.int k, e.set i (.va (.pin bF) bag')) ∧ Bag bag' ∧ 0 ≤ k ∧ k < many := by
  obtain ⟨k, bag', z, hb', k0, k1⟩ := draw_bag hb hm hm2
  exact ⟨k, bag', R.callP h (by rw [h0]; rfl) he rfl z, hb', k0, k1⟩
theorem pick_pin {i : Nat} {env e : DL.Env} {bag : D} {l : List D} {ps : DL.Env → Option (List D × DL.Env)} (hb : Bag bag) (hl : l ≠ []) (hl2 : l.length < 1073741824) (h : ps env = some ([.lst l], e)) (h0 : env[i]? = some (.va (.pin bF) bag)) (he : e[i]? = some (.va (.pin bF) bag)) :
    ∃ d bag', vcallIO (lenF 2 s__law_pick) i ps env = some (d, e.set i (.va (.pin bF) bag')) ∧ Bag bag' ∧ d ∈ l := by
  obtain ⟨d, bag', z, hb', hd⟩ := pick_bag hb hl hl2
  exact ⟨d, bag', R.callP h (by rw [h0]; rfl) he rfl z, hb', hd⟩
/-! ### the bag of a script -/
theorem gAbs_int (i : Int) : gAbs [.int i] = some (.int (if i < 0 then -i else i)) := rfl
/-- a comprehension over whole numbers, its one name in slot v, without a test -/
theorem lc_ints {v : Nat} {elt : EV1} {f : Int → Int} {base : DL.Env} (hv : base[v]? = some .un) (hf : ∀ x : Int, elt (base.set v (.va .no (.int x))) = some (.int (f x), base.set v (.va .no (.int x)))) :
    ∀ (l : List Int) (acc : List D), acc.length + l.length ≤ big → lcLoop [v] (tgN v) cYes elt (l.map D.int) base acc = some (acc ++ (l.map f).map D.int, base)
  | [], acc, _ => by simp [lcLoop]
  | x :: l, acc, hz => by
    have hv' : v < base.length := (List.getElem?_eq_some_iff.mp hv).1
    have hb : (base.set v (.va .no (.int x))).set v .un = base := by
      rw [List.set_set]
      have : base[v]'hv' = .un := (List.getElem?_eq_some_iff.mp hv).2
      rw [← this, List.set_getElem_self]
    have ih := lc_ints hv hf l (acc ++ [.int (f x)]) (by simp at hz ⊢; omega)
    show ((tgN v (.int x) base).bind _) = _
    unfold tgN
    rw [if_pos hv', Option.bind_some]
    show ((cYes _).bind _) = _
    unfold cYes
    rw [Option.bind_some, if_pos (by rfl)]
    dsimp only
    rw [hf x, Option.bind_some, if_pos (by simp at hz; omega)]
    show lcLoop [v] (tgN v) cYes elt (l.map D.int) ((base.set v (.va .no (.int x))).set v .un) (acc ++ [.int (f x)]) = _
    rw [hb, ih]
    simp
end T73

set_option Elab.async false
set_option linter.all false
set_option maxRecDepth 100000
set_option maxHeartbeats 2000000
/-! M3: the bag of a script. -/
namespace T73
open PySem L2 DL
theorem ints_of {p : Int → Prop} : ∀ {l : List D}, (∀ d ∈ l, ∃ g, d = D.int g ∧ p g) → ∃ gs : List Int, l = gs.map D.int ∧ ∀ g ∈ gs, p g
  | [], _ => ⟨[], rfl, fun _ h => by cases h⟩
  | d :: l, h => by
    obtain ⟨g, rfl, hg⟩ := h d (List.mem_cons_self)
    obtain ⟨gs, rfl, hs⟩ := ints_of fun d hd => h d (List.mem_cons_of_mem _ hd)
    exact ⟨g :: gs, rfl, fun x hx => by
      rcases List.mem_cons.mp hx with rfl | hx
      · exact hg
      · exact hs x hx⟩
theorem noF_nF : ∀ n, noF nF n = true
  | 0 => rfl
  | n + 1 => by
    unfold noF
    rw [noF_nF n]
    rfl
def absI (x : Int) : Int := if x < 0 then -x else x
theorem abs_nn (x : Int) : 0 ≤ absI x := by unfold absI; split <;> omega
theorem bag_ok (ns : List Int) (hn : ns.length ≤ 1000) : ∃ bag, s__law_bag [.sc ns] = some (.va (.own bF) bag) ∧ Bag bag := by
  obtain ⟨cells, ec⟩ : ∃ cells : List Int, cells = ns.map absI ++ [7] := ⟨_, rfl⟩
  have hlen : cells.length ≤ 1001 := by rw [ec]; simp; omega
  have hne : cells ≠ [] := by rw [ec]; simp
  have hB : (1001 : Nat) ≤ big := by decide
  -- the cells
  have l1 := lc_ints (v := 2) (elt := lift (ecall gAbs (es1 (ecall gInt (es1 (evar 2) (es0))) (es0)))) (f := absI) (base := [.sc ns, .un, .un, .un]) rfl (fun x => rfl) ns [] (by simp; omega)
  have n1 : (nlc [2] (itSc 0) (tgN 2) cYes (lift (ecall gAbs (es1 (ecall gInt (es1 (evar 2) (es0))) (es0))))) [.sc ns, .un, .un, .un] = some ((ns.map absI).map D.int, [.sc ns, .un, .un, .un]) :=
    R.nlc (env := [.sc ns, .un, .un, .un]) (e := [.sc ns, .un, .un, .un]) (ds := ns.map D.int) rfl l1
  have c1 : (ncat (vlst (nlc [2] (itSc 0) (tgN 2) cYes (lift (ecall gAbs (es1 (ecall gInt (es1 (evar 2) (es0))) (es0)))))) (vlst (nlst (vs1 (lift (cst (.int 7))) (vs0))))) [.sc ns, .un, .un, .un] = some (cells.map D.int, [.sc ns, .un, .un, .un]) := by
    have z := R.ncat (w := vlst (nlst (vs1 (lift (cst (.int 7))) (vs0)))) (bs := [D.int 7]) (e2 := [.sc ns, .un, .un, .un]) (R.vlst n1) rfl (by simp; omega)
    rw [z, ec]
    simp
  have s1 : (sSet 1 (vlst (ncat (vlst (nlc [2] (itSc 0) (tgN 2) cYes (lift (ecall gAbs (es1 (ecall gInt (es1 (evar 2) (es0))) (es0)))))) (vlst (nlst (vs1 (lift (cst (.int 7))) (vs0))))))) [.sc ns, .un, .un, .un] = some (.nx [.sc ns, .va .no (.lst (cells.map D.int)), .un, .un]) :=
    R.set (R.vlst c1) (by show 1 < 4; decide)
  have s2 : (sSetN 3 (nlst (vs0))) [.sc ns, .va .no (.lst (cells.map D.int)), .un, .un] = some (.nx [.sc ns, .va .no (.lst (cells.map D.int)), .un, .va (.own nF) (.lst [])]) := rfl
  -- the end, from any row of great numbers
  have fin : ∀ gs : List Int, (∀ g ∈ gs, 0 < g) → ∃ bag, (sRetX (xlst (xs1 (xval (lift (cst (.int 0)))) (xs1 (xval (lift (cst (.int 0)))) (xs1 (xvar 3) (xs1 (xval (vlst (nlc [2] ((fun env => itL ((lift (evar 1)) env))) (tgN 2) cYes (lift (e2 oMod (ecall gInt (es1 (evar 2) (es0))) (cst (.int 2147483647))))))) (xs0))))))) [.sc ns, .va .no (.lst (cells.map D.int)), .un, .va (.own nF) (.lst (gs.map D.int))] = some (.rx (.va (.own bF) bag) [.sc ns, .va .no (.lst (cells.map D.int)), .un, .un]) ∧ Bag bag := by
    intro gs hg
    have l3 := lc_ints (v := 2) (elt := lift (e2 oMod (ecall gInt (es1 (evar 2) (es0))) (cst (.int 2147483647)))) (f := fun x => x % 2147483647) (base := [.sc ns, .va .no (.lst (cells.map D.int)), .un, .un]) rfl (fun x => R.lift ((R.e2 (x := .int x) (y := .int 2147483647) rfl rfl).trans (oMod_pos (by decide)))) cells [] (by simp; omega)
    have n3 : (nlc [2] ((fun env => itL ((lift (evar 1)) env))) (tgN 2) cYes (lift (e2 oMod (ecall gInt (es1 (evar 2) (es0))) (cst (.int 2147483647))))) [.sc ns, .va .no (.lst (cells.map D.int)), .un, .un] = some ((cells.map fun x => x % 2147483647).map D.int, [.sc ns, .va .no (.lst (cells.map D.int)), .un, .un]) :=
      R.nlc (env := [.sc ns, .va .no (.lst (cells.map D.int)), .un, .un]) (e := [.sc ns, .va .no (.lst (cells.map D.int)), .un, .un]) (ds := cells.map D.int) rfl l3
    refine ⟨bagD 0 0 gs (cells.map fun x => x % 2147483647), ?_, 0, 0, gs, _, rfl, Int.le_refl _, Int.le_refl _, hg, by simpa using hne⟩
    have hnf : noF nF (gs.map D.int).length = true := noF_nF _
    have hit : itemsOf [.va .no (.int 0), .va .no (.int 0), .va (.own nF) (.lst (gs.map D.int)), .va .no (.lst ((cells.map fun x => x % 2147483647).map D.int))] = some ([false, false, true, false], [.int 0, .int 0, .lst (gs.map D.int), .lst ((cells.map fun x => x % 2147483647).map D.int)]) := by
      show ((if noF nF (gs.map D.int).length = true then some (true, D.lst (gs.map D.int)) else none).bind _ |>.map _ |>.map _) = _
      rw [if_pos hnf]
      rfl
    exact R.retX (R.xlst (fs := [false, false, true, false]) (R.xs1 (R.xval (R.lift rfl)) (R.xs1 (R.xval (R.lift rfl)) (R.xs1 (e := [.sc ns, .va .no (.lst (cells.map D.int)), .un, .un]) (sl := .va (.own nF) (.lst (gs.map D.int))) rfl (R.xs1 (R.xval (R.vlst n3)) rfl)))) hit (by show 4 ≤ big; decide))
  have t3 : (tst (lift (e2 oEq (e2 oMod (ecall gInt (es1 (e2 oIx (evar 1) (cst (.int 0))) (es0))) (cst (.int 2))) (cst (.int 0))))) [.sc ns, .va .no (.lst (cells.map D.int)), .un, .va (.own nF) (.lst [])] = some (decide (cells.head hne % 2 = 0), [.sc ns, .va .no (.lst (cells.map D.int)), .un, .va (.own nF) (.lst [])]) := by
    have h0 : (e2 oIx (evar 1) (cst (.int 0))) [.sc ns, .va .no (.lst (cells.map D.int)), .un, .va (.own nF) (.lst [])] = some (.int (cells.head hne)) := by
      match cells, hne with
      | c :: r, _ => exact at0
    exact R.tstL ((R.e2 (x := .int (cells.head hne % 2)) (y := .int 0) ((R.e2 (y := .int 2) (R.callI h0) rfl).trans (oMod_pos (by decide))) rfl).trans oEq_int)
  by_cases hev : cells.head hne % 2 = 0
  · rw [decide_eq_true hev] at t3
    obtain ⟨base, eb⟩ : ∃ b : DL.Env, b = [.sc ns, .va .no (.lst (cells.map D.int)), .un, .va (.own nF) (.lst [])] := ⟨_, rfl⟩
    obtain ⟨l, e', hl, hq, he⟩ := R.lc (vs := [2]) (tgs := tgN 2) (cond := tst (lift (e2 oGe (evar 2) (e2 oPow (cst (.int 10)) (cst (.int 18)))))) (elt := lift (e2 oDiv (evar 2) (cst (.int 2))))
      (Q := fun l e => (∀ d ∈ l, ∃ g, d = D.int g ∧ 0 < g) ∧ e = base) (fun r e acc => e = base ∧ (∀ d ∈ r, ∃ z, d = D.int z) ∧ (∀ d ∈ acc, ∃ g, d = D.int g ∧ 0 < g) ∧ acc.length + r.length ≤ 1001)
      (by
        intro d r e acc ⟨he, hr, ha, hz⟩
        subst he
        obtain ⟨z, rfl⟩ := hr d List.mem_cons_self
        have hr' : ∀ d ∈ r, ∃ z, d = D.int z := fun d hd => hr d (List.mem_cons_of_mem _ hd)
        have hz' : acc.length + (r.length + 1) ≤ 1001 := by simpa using hz
        have wipe : ∀ x : Sl, (wipeE ([.sc ns, .va .no (.lst (cells.map D.int)), x, .va (.own nF) (.lst [])] : DL.Env) [2]) = e := fun x => by rw [eb]; rfl
        refine ⟨[.sc ns, .va .no (.lst (cells.map D.int)), .va .no (.int z), .va (.own nF) (.lst [])], decide (1000000000000000000 ≤ z), [.sc ns, .va .no (.lst (cells.map D.int)), .va .no (.int z), .va (.own nF) (.lst [])], by rw [eb]; rfl, R.tstL ((R.e2 (x := .int z) (y := .int 1000000000000000000) rfl rfl).trans rfl), ?_⟩
        by_cases c : 1000000000000000000 ≤ z
        · refine .inl ⟨decide_eq_true c, .int (z / 2), _, R.lift ((R.e2 (x := .int z) (y := .int 2) rfl rfl).trans (oDiv_pos (by decide) (by decide))), by omega, wipe _, hr', fun d hd => ?_, by simp; omega⟩
          rcases List.mem_append.mp hd with h | h
          · exact ha d h
          · exact ⟨z / 2, List.mem_singleton.mp h, by omega⟩
        · exact .inr ⟨decide_eq_false c, wipe _, hr', ha, by omega⟩)
      (fun e acc h => ⟨h.2.2.1, h.1⟩) (cells.map D.int) base [] ⟨rfl, (fun d hd => by
        obtain ⟨z, _, rfl⟩ := List.mem_map.mp hd
        exact ⟨z, rfl⟩), (fun d hd => absurd hd (by simp)), by simpa using hlen⟩
    obtain ⟨gs, rfl, hg⟩ := ints_of hq
    subst he
    have n4 : (nlc [2] ((fun env => itL ((lift (evar 1)) env))) (tgN 2) (tst (lift (e2 oGe (evar 2) (e2 oPow (cst (.int 10)) (cst (.int 18)))))) (lift (e2 oDiv (evar 2) (cst (.int 2))))) [.sc ns, .va .no (.lst (cells.map D.int)), .un, .va (.own nF) (.lst [])] = some (gs.map D.int, [.sc ns, .va .no (.lst (cells.map D.int)), .un, .va (.own nF) (.lst [])]) := by
      refine (R.nlc (env := [.sc ns, .va .no (.lst (cells.map D.int)), .un, .va (.own nF) (.lst [])]) (e := [.sc ns, .va .no (.lst (cells.map D.int)), .un, .va (.own nF) (.lst [])]) (ds := cells.map D.int) rfl (by rw [eb] at hl; exact hl)).trans ?_
      rfl
    have s4 : (sSetN 3 (nlc [2] ((fun env => itL ((lift (evar 1)) env))) (tgN 2) (tst (lift (e2 oGe (evar 2) (e2 oPow (cst (.int 10)) (cst (.int 18)))))) (lift (e2 oDiv (evar 2) (cst (.int 2)))))) [.sc ns, .va .no (.lst (cells.map D.int)), .un, .va (.own nF) (.lst [])] = some (.nx [.sc ns, .va .no (.lst (cells.map D.int)), .un, .va (.own nF) (.lst (gs.map D.int))]) :=
      R.setN n4 (by show 3 < 4; decide)
    have s5 : (sRev 3) [.sc ns, .va .no (.lst (cells.map D.int)), .un, .va (.own nF) (.lst (gs.map D.int))] = some (.nx [.sc ns, .va .no (.lst (cells.map D.int)), .un, .va (.own nF) (.lst (gs.reverse.map D.int))]) := by
      show (if noF nF (gs.map D.int).length = true then some (Out.nx [.sc ns, .va .no (.lst (cells.map D.int)), .un, .va (.own nF) (.lst (gs.map D.int).reverse)]) else none) = _
      rw [if_pos (noF_nF _), List.map_reverse]
    obtain ⟨bag, h, hb⟩ := fin gs.reverse (fun g hg' => hg g (List.mem_reverse.mp hg'))
    refine ⟨bag, ?_, hb⟩
    have z : b__law_bag [.sc ns, .un, .un, .un] = _ := (R.seq s1).trans ((R.seq s2).trans ((R.seq ((R.ifT t3).trans ((R.seq s4).trans s5))).trans h))
    show ((b__law_bag [.sc ns, .un, .un, .un]).bind _) = _
    rw [z]
    rfl
  · rw [decide_eq_false hev] at t3
    obtain ⟨bag, h, hb⟩ := fin [] (fun _ h => by cases h)
    refine ⟨bag, ?_, hb⟩
    have z : b__law_bag [.sc ns, .un, .un, .un] = _ := (R.seq s1).trans ((R.seq s2).trans ((R.seq ((R.ifF t3).trans rfl)).trans h))
    show ((b__law_bag [.sc ns, .un, .un, .un]).bind _) = _
    rw [z]
    rfl
end T73

set_option Elab.async false
set_option linter.all false
set_option maxRecDepth 100000
set_option maxHeartbeats 4000000
/-! M4: texts as rows of signs; the drawn names. -/
namespace T73
open PySem L2 DL
def mk (l : List Nat) : Str := ⟨l.toArray⟩
def L (s : Str) : List Nat := s.cps.toList
theorem L_mk (l : List Nat) : L (mk l) = l := by simp [L, mk]
theorem mk_L (s : Str) : mk (L s) = s := by
  obtain ⟨⟨l⟩⟩ := s
  rfl
theorem mk_app (a b : List Nat) : mk a ++ mk b = mk (a ++ b) := by
  show (⟨a.toArray ++ b.toArray⟩ : Str) = ⟨(a ++ b).toArray⟩
  simp
theorem mk_len (l : List Nat) : (mk l).length = l.length := by
  show l.toArray.size = l.length
  simp
theorem len_L (s : Str) : s.length = (L s).length := by
  obtain ⟨⟨l⟩⟩ := s
  rfl
theorem app_L (a b : Str) : L (a ++ b) = L a ++ L b := by
  rw [← mk_L a, ← mk_L b, mk_app, L_mk, L_mk, L_mk]
theorem ext_L {a b : Str} (h : L a = L b) : a = b := by rw [← mk_L a, h, mk_L]
def AN (c : Nat) : Prop := c ∈ SIGNS.cps.toList
instance (c : Nat) : Decidable (AN c) := inferInstanceAs (Decidable (c ∈ _))
structure Nm (s : Str) : Prop where
  one : 1 ≤ (L s).length
  eight : (L s).length ≤ 8
  an : ∀ c ∈ L s, AN c
def nmB (s : Str) : Bool := decide (1 ≤ (L s).length) && decide ((L s).length ≤ 8) && (L s).all fun c => decide (AN c)
theorem nm_of {s : Str} (h : nmB s = true) : Nm s := by
  unfold nmB at h
  simp only [Bool.and_eq_true, decide_eq_true_eq, List.all_eq_true] at h
  exact ⟨h.1.1, h.1.2, h.2⟩
theorem addS_ok {a b : Str} (h : a.length + b.length ≤ big) : oAdd (.str a) (.str b) = some (.str (a ++ b)) := if_pos h
/-- joining, on rows of signs -/
def joinL (sep : List Nat) : List (List Nat) → List Nat
  | [] => []
  | [x] => x
  | x :: y :: r => x ++ sep ++ joinL sep (y :: r)
theorem join_L' (sep : Str) : ∀ ss : List Str, L (Str.join sep ss) = joinL (L sep) (ss.map L)
  | [] => rfl
  | [x] => rfl
  | x :: y :: r => by
    show L (x ++ sep ++ Str.join sep (y :: r)) = _
    rw [app_L, app_L, join_L' sep (y :: r)]
    rfl
theorem join_L (sep : Str) (ss : List Str) : L (Txt.join sep ss) = joinL (L sep) (ss.map L) := by
  have e : Txt.join sep ss = Str.join sep ss := PySem.StrLaws.glued_eq_join sep ss
  rw [e, join_L']
theorem joinL_nil : ∀ ls : List (List Nat), joinL [] ls = ls.flatten
  | [] => rfl
  | [x] => by simp [joinL]
  | x :: y :: r => by
    show x ++ [] ++ joinL [] (y :: r) = _
    rw [joinL_nil (y :: r)]
    simp
theorem join_none (ss : List Str) : L (Txt.join (Str.ofString "") ss) = (ss.map L).flatten := by
  rw [join_L]
  exact joinL_nil _
theorem strs_map : ∀ ss : List Str, strsOf (ss.map D.str) = some ss
  | [] => rfl
  | s :: ss => by
    show ((strsOf (ss.map D.str)).map fun r => s :: r) = _
    rw [strs_map ss]
    rfl
theorem strs_of {p : Str → Prop} : ∀ {l : List D}, (∀ d ∈ l, ∃ g, d = D.str g ∧ p g) → ∃ gs : List Str, l = gs.map D.str ∧ ∀ g ∈ gs, p g
  | [], _ => ⟨[], rfl, fun _ h => by cases h⟩
  | d :: l, h => by
    obtain ⟨g, rfl, hg⟩ := h d (List.mem_cons_self)
    obtain ⟨gs, rfl, hs⟩ := strs_of fun d hd => h d (List.mem_cons_of_mem _ hd)
    exact ⟨g :: gs, rfl, fun x hx => by
      rcases List.mem_cons.mp hx with rfl | hx
      · exact hg
      · exact hs x hx⟩
def lowS : Str := Str.ofString "abcdefghijklmnopqrstuvwxyz0123456789"
theorem low_len : lowS.length = 36 := by decide +kernel
theorem low_an : ∀ c ∈ L lowS, AN c := by decide +kernel

end T73

set_option Elab.async false
set_option linter.all false
set_option maxRecDepth 100000
set_option maxHeartbeats 4000000
namespace T73
open PySem L2 DL
theorem numbered : ∀ j : Nat, j < 999 → nmB (Str.ofString "n" ++ Str.ofString (toString (0 + (j : Int)))) = true := by decide +kernel
end T73

set_option Elab.async false
set_option linter.all false
set_option maxRecDepth 100000
set_option maxHeartbeats 4000000
/-! M5: the drawn names. -/
namespace T73
open PySem L2 DL
theorem str_ix {s : Str} {k : Int} (h0 : 0 ≤ k) (h1 : k < (L s).length) (hz : s.length ≤ big) : ∃ c, oIx (.str s) (.int k) = some (.str (mk [c])) ∧ c ∈ L s := by
  have hl : k.toNat < (L s).length := by omega
  refine ⟨(L s)[k.toNat], ?_, List.getElem_mem hl⟩
  show (if s.length ≤ big then (atI (L s) k).map fun c => D.str ⟨#[c]⟩ else none) = _
  rw [if_pos hz]
  have e : atI (L s) k = some ((L s)[k.toNat]) := by
    unfold atI ixN
    rw [if_pos h0, if_pos h1]
    exact List.getElem?_eq_getElem hl
  rw [e]
  rfl
/-- the slots of _law_names -/
def nE (bag : D) (many size : Nat) (l : List Str) (k name j : Sl) : DL.Env := [.va (.pin bF) bag, .va .no (.int (many : Int)), .va .no (.int (size : Int)), .va .no (.str lowS), .va (.own nF) (.lst (l.map D.str)), k, name, j]
theorem rest7 {bag : D} {many size : Nat} {l : List Str} {k name j : Sl} (env0 : DL.Env) : ∃ j', restE env0 [7] (nE bag many size l k name .un) = nE bag many size l k name j' := by
  unfold restE
  split
  · exact ⟨_, rfl⟩
  · exact ⟨.un, rfl⟩
theorem mem_rng {d : D} {n : Nat} (h : d ∈ rngL 0 n) : ∃ j : Nat, j < n ∧ d = .int (0 + (j : Int)) := by
  obtain ⟨j, hj, rfl⟩ := List.mem_map.mp h
  exact ⟨j, List.mem_range.mp hj, rfl⟩
theorem len_rng (n : Nat) : (rngL 0 n).length = n := by
  unfold rngL
  rw [List.length_map, List.length_range]
/-- one drawn name -/
theorem one_name {bag : D} {many size : Nat} {l : List Str} {k name j : Sl} (hb : Bag bag) (z1 : 1 ≤ size) (z8 : size ≤ 8) :
    ∃ bag' s j', (sSet 6 (v2 gJoin (lift (cst (.str (PySem.Str.ofString "")))) (vlst (nlc [7] ((fun env => itR1 ((vs1 (lift (evar 2)) (vs0)) env))) (tgN 7) cYes (v2 oIx (lift (evar 3)) (vcallIO (lenF 2 s__law_draw) 0 (vs1 (lift (cst (.int 36))) (vs0)))))))) (nE bag many size l k name j) = some (.nx (nE bag' many size l k (.va .no (.str s)) j')) ∧ Bag bag' ∧ Nm s := by
  obtain ⟨ds, e', hl, hq⟩ := R.lc (vs := [7]) (tgs := tgN 7) (cond := cYes) (elt := v2 oIx (lift (evar 3)) (vcallIO (lenF 2 s__law_draw) 0 (vs1 (lift (cst (.int 36))) (vs0))))
    (Q := fun acc e => ∃ bag', e = nE bag' many size l k name .un ∧ Bag bag' ∧ acc.length = size ∧ ∀ d ∈ acc, ∃ s, d = D.str s ∧ ∃ c, L s = [c] ∧ AN c)
    (fun r e acc => ∃ bag', e = nE bag' many size l k name .un ∧ Bag bag' ∧ acc.length + r.length = size ∧ ∀ d ∈ acc, ∃ s, d = D.str s ∧ ∃ c, L s = [c] ∧ AN c)
    (by
      rintro d r e acc ⟨bag1, rfl, hb1, hz, ha⟩
      obtain ⟨x, bag2, hc, hb2, x0, x1⟩ := draw_pin (i := 0) (env := nE bag1 many size l k name (.va .no d)) (e := nE bag1 many size l k name (.va .no d)) (ps := vs1 (lift (cst (.int 36))) vs0) hb1 (by decide : (0 : Int) < 36) (by decide) rfl rfl rfl
      have hl36 : (L lowS).length = 36 := by rw [← len_L]; exact low_len
      obtain ⟨c, hix, hcm⟩ := str_ix (s := lowS) x0 (by rw [hl36]; exact x1) (by rw [low_len]; decide)
      refine ⟨nE bag1 many size l k name (.va .no d), true, nE bag1 many size l k name (.va .no d), rfl, rfl, .inl ⟨rfl, .str (mk [c]), nE bag2 many size l k name (.va .no d), R.v2 (R.lift rfl) hc hix, ?_, bag2, rfl, hb2, ?_, ?_⟩⟩
      · have : (8 : Nat) < big := by decide
        simp at hz
        omega
      · simp at hz ⊢
        omega
      · intro d' hd'
        rcases List.mem_append.mp hd' with h | h
        · exact ha d' h
        · exact ⟨mk [c], List.mem_singleton.mp h, c, L_mk _, low_an c hcm⟩)
    (fun e acc ⟨bag', he, hb', hz, ha⟩ => ⟨bag', he, hb', by simpa using hz, ha⟩)
    (rngL 0 size) (nE bag many size l k name .un) [] ⟨bag, rfl, hb, by rw [len_rng]; simp, fun d hd => absurd hd (by simp)⟩
  obtain ⟨bag', rfl, hb', hlen, hch⟩ := hq
  obtain ⟨ss, rfl, hss⟩ := strs_of hch
  have hlen' : ss.length = size := by simpa using hlen
  have it : (fun env => itR1 ((vs1 (lift (evar 2)) (vs0)) env)) (nE bag many size l k name j) = some (rngL 0 size, nE bag many size l k name j) := by
    have h2 : size < 2 ^ 62 := Nat.lt_of_le_of_lt z8 (by decide)
    exact R.rng (ps := vs1 (lift (evar 2)) vs0) (env := nE bag many size l k name j) (k := size) rfl h2
  obtain ⟨j', hj'⟩ := rest7 (bag := bag') (many := many) (size := size) (l := l) (k := k) (name := name) (j := j) (nE bag many size l k name j)
  have hn := R.nlc (it := fun env => itR1 ((vs1 (lift (evar 2)) (vs0)) env)) (vs := [7]) (tgs := tgN 7) (ds := rngL 0 size) (env := nE bag many size l k name j) (e := nE bag many size l k name j) (e' := nE bag' many size l k name .un) it hl
  have hn2 : (nlc [7] ((fun env => itR1 ((vs1 (lift (evar 2)) (vs0)) env))) (tgN 7) cYes (v2 oIx (lift (evar 3)) (vcallIO (lenF 2 s__law_draw) 0 (vs1 (lift (cst (.int 36))) (vs0))))) (nE bag many size l k name j) = some (ss.map D.str, nE bag' many size l k name j') := by
    rw [hn]
    show some (ss.map D.str, restE (nE bag many size l k name j) [7] (nE bag' many size l k name .un)) = _
    rw [hj']
  have lens : ∀ s ∈ ss, s.length = 1 := fun s hs => by
    obtain ⟨c, hc, _⟩ := hss s hs
    rw [len_L, hc]
    rfl
  have sum1 : ∀ l : List Str, (∀ s ∈ l, s.length = 1) → (l.map (·.length)).sum = l.length := by
    intro l
    induction l with
    | nil => intro _; rfl
    | cons a l ih =>
      intro h
      rw [List.map_cons, List.sum_cons, h a List.mem_cons_self, ih fun s hs => h s (List.mem_cons_of_mem _ hs), List.length_cons]
      omega
  have hj : gJoin (.str (Str.ofString "")) (.lst (ss.map D.str)) = some (.str (Txt.join (Str.ofString "") ss)) := by
    show ((strsOf (ss.map D.str)).bind _) = _
    rw [strs_map]
    refine if_pos ?_
    rw [sum1 ss lens]
    have z : (Str.ofString "").length = 0 := by decide
    rw [z, hlen']
    have : (8 : Nat) < big := by decide
    omega
  have flat1 : ∀ l : List Str, (∀ s ∈ l, ∃ c, L s = [c] ∧ AN c) → ((l.map L).flatten).length = l.length ∧ ∀ c ∈ (l.map L).flatten, AN c := by
    intro l
    induction l with
    | nil => intro _; exact ⟨rfl, fun c hc => by cases hc⟩
    | cons a l ih =>
      intro h
      obtain ⟨c, hc, hca⟩ := h a List.mem_cons_self
      obtain ⟨i1, i2⟩ := ih fun s hs => h s (List.mem_cons_of_mem _ hs)
      rw [List.map_cons, List.flatten_cons, hc]
      refine ⟨by simp [i1], fun x hx => ?_⟩
      rcases List.mem_append.mp hx with y | y
      · rw [List.mem_singleton.mp y]; exact hca
      · exact i2 x y
  obtain ⟨f1, f2⟩ := flat1 ss hss
  refine ⟨bag', Txt.join (Str.ofString "") ss, j', R.set (R.v2 (R.lift rfl) (R.vlst hn2) hj) (by show 6 < 8; decide), hb', ?_, ?_, ?_⟩
  · rw [join_none, f1]; omega
  · rw [join_none, f1]; omega
  · rw [join_none]; exact f2
end T73

set_option Elab.async false
set_option linter.all false
set_option maxRecDepth 100000
set_option maxHeartbeats 4000000
/-! M6: the row of drawn names. -/
namespace T73
open PySem L2 DL
theorem not_in {s : Str} {l : List Str} : ∃ b, oNin (.str s) (.lst (l.map D.str)) = some (.bl b) := by
  unfold oNin inB
  dsimp only
  have h : (isSc (.str s) = true ∧ (l.map D.str).all isSc = true) := ⟨rfl, List.all_eq_true.mpr fun d hd => by
    obtain ⟨x, _, rfl⟩ := List.mem_map.mp hd
    rfl⟩
  rw [if_pos h]
  exact ⟨_, rfl⟩
abbrev nB : ES := sSeq (sIf (tst (lift (e2 oNin (evar 6) (bvar 4)))) sBrk sNil) (sSet 6 (lift (e2 oAdd (cst (.str (PySem.Str.ofString "n"))) (ecall gStr (es1 (evar 7) (es0))))))
/-- another name where this one is taken -/
theorem other_name {bag : D} {many size : Nat} {l : List Str} {k j : Sl} {s : Str} (hs : Nm s) :
    ∃ s' j', (sFor ((fun env => itR1 ((vs1 (lift (cst (.int 999))) (vs0)) env))) (tgN 7) nB) (nE bag many size l k (.va .no (.str s)) j) = some (.nx (nE bag many size l k (.va .no (.str s')) j')) ∧ Nm s' := by
  have it : (fun env => itR1 ((vs1 (lift (cst (.int 999))) (vs0)) env)) (nE bag many size l k (.va .no (.str s)) j) = some (rngL 0 999, nE bag many size l k (.va .no (.str s)) j) :=
    R.rng (ps := vs1 (lift (cst (.int 999))) vs0) (env := nE bag many size l k (.va .no (.str s)) j) (k := 999) rfl (by decide)
  refine R.for (P := fun o => ∃ s' j', o = some (.nx (nE bag many size l k (.va .no (.str s')) j')) ∧ Nm s') (it := fun env => itR1 ((vs1 (lift (cst (.int 999))) (vs0)) env)) it ?_
  refine R.loop (tgs := tgN 7) (body := nB) (P := fun o => ∃ s' j', o = some (.nx (nE bag many size l k (.va .no (.str s')) j')) ∧ Nm s') (fun r e => ∃ s' j', e = nE bag many size l k (.va .no (.str s')) j' ∧ Nm s' ∧ ∀ d ∈ r, ∃ q : Nat, q < 999 ∧ d = .int (0 + (q : Int))) ?_ ?_ _ _ ⟨s, j, rfl, hs, fun d hd => mem_rng hd⟩
  · rintro d r e ⟨s1, j1, rfl, h1, hr⟩
    obtain ⟨q, hq, rfl⟩ := hr d List.mem_cons_self
    obtain ⟨b, hb⟩ := not_in (s := s1) (l := l)
    refine ⟨nE bag many size l k (.va .no (.str s1)) (.va .no (.int (0 + (q : Int)))), rfl, ?_⟩
    have t : (tst (lift (e2 oNin (evar 6) (bvar 4)))) (nE bag many size l k (.va .no (.str s1)) (.va .no (.int (0 + (q : Int))))) = some (b, nE bag many size l k (.va .no (.str s1)) (.va .no (.int (0 + (q : Int))))) := R.tstL hb
    cases b with
    | true => exact .inr (.inr (.inl ⟨_, R.seqB ((R.ifT t).trans rfl), s1, _, rfl, h1⟩))
    | false =>
      have hz : (0 + (q : Int)).natAbs.log2 < 1920 := by
        have : (0 + (q : Int)).natAbs = q := by omega
        rw [this]
        have h2 : q.log2 < 10 := by
          rcases Nat.eq_zero_or_pos q with z | z
          · rw [z]; decide
          · exact (Nat.log2_lt (by omega)).mpr (by omega)
        omega
      have g : ecall gStr (es1 (evar 7) es0) (nE bag many size l k (.va .no (.str s1)) (.va .no (.int (0 + (q : Int))))) = some (.str (Str.ofString (toString (0 + (q : Int))))) := by
        show gStr [.int (0 + (q : Int))] = _
        exact if_pos hz
      have nm : Nm (Str.ofString "n" ++ Str.ofString (toString (0 + (q : Int)))) := nm_of (numbered q hq)
      have a : oAdd (.str (Str.ofString "n")) (.str (Str.ofString (toString (0 + (q : Int))))) = some (.str (Str.ofString "n" ++ Str.ofString (toString (0 + (q : Int))))) := addS_ok (by
        have e8 := nm.eight
        rw [← len_L, strLen_append] at e8
        have : (8 : Nat) < big := by decide
        omega)
      exact .inl ⟨_, (R.seq ((R.ifF t).trans rfl)).trans (R.set (R.lift ((R.e2 (x := .str (Str.ofString "n")) rfl g).trans a)) (by show 6 < 8; decide)), _, _, rfl, nm, fun d hd => hr d (List.mem_cons_of_mem _ hd)⟩
  · rintro e ⟨s1, j1, rfl, h1, _⟩
    exact ⟨s1, j1, rfl, h1⟩
theorem names_ok {bag : D} {many size : Nat} (hb : Bag bag) (h8 : many ≤ 8) (z1 : 1 ≤ size) (z8 : size ≤ 8) :
    ∃ (bag' : D) (l : List Str), s__law_names [.va (.pin bF) bag, .va .no (.int (many : Int)), .va .no (.int (size : Int))] = some (.ret (.lst (l.map D.str)) [.va (.pin bF) bag', .un, .un]) ∧ Bag bag' ∧ l.length = many ∧ ∀ s ∈ l, Nm s := by
  have it : (fun env => itR1 ((vs1 (lift (evar 1)) (vs0)) env)) (nE bag many size [] .un .un .un) = some (rngL 0 many, nE bag many size [] .un .un .un) :=
    R.rng (ps := vs1 (lift (evar 1)) vs0) (env := nE bag many size [] .un .un .un) (k := many) rfl (Nat.lt_of_le_of_lt h8 (by decide))
  have lp := R.for (P := fun o => ∃ (bag' : D) (l : List Str) (k n j : Sl), o = some (.nx (nE bag' many size l k n j)) ∧ Bag bag' ∧ l.length = many ∧ ∀ s ∈ l, Nm s) (it := fun env => itR1 ((vs1 (lift (evar 1)) (vs0)) env)) (tgs := tgN 5)
    (body := sSeq (sSet 6 (v2 gJoin (lift (cst (.str (PySem.Str.ofString "")))) (vlst (nlc [7] ((fun env => itR1 ((vs1 (lift (evar 2)) (vs0)) env))) (tgN 7) cYes (v2 oIx (lift (evar 3)) (vcallIO (lenF 2 s__law_draw) 0 (vs1 (lift (cst (.int 36))) (vs0)))))))) (sSeq (sFor ((fun env => itR1 ((vs1 (lift (cst (.int 999))) (vs0)) env))) (tgN 7) nB) (sApp 4 (lift (evar 6))))) it ?_
  · obtain ⟨bag', l, k, n, j, h, hb', hl, hn⟩ := lp
    refine ⟨bag', l, ?_, hb', hl, hn⟩
    have z : b__law_names [.va (.pin bF) bag, .va .no (.int (many : Int)), .va .no (.int (size : Int)), .un, .un, .un, .un, .un] = some (.rt (.lst (l.map D.str)) ((nE bag' many size l k n j).set 4 (.va .no (.lst (l.map D.str))))) := by
      refine (R.seq (e := [.va (.pin bF) bag, .va .no (.int (many : Int)), .va .no (.int (size : Int)), .va .no (.str lowS), .un, .un, .un, .un]) rfl).trans ((R.seq (e := nE bag many size [] .un .un .un) rfl).trans ((R.seq h).trans ?_))
      exact R.ret (v := vvar 4) (e := (nE bag' many size l k n j).set 4 (.va .no (.lst (l.map D.str)))) rfl
    exact R.fn (n := 3) (N := 8) (body := b__law_names) (args := [.va (.pin bF) bag, .va .no (.int (many : Int)), .va .no (.int (size : Int))]) z (by show 3 ≤ 8; decide)
  · refine R.loop (tgs := tgN 5) (P := fun o => ∃ (bag' : D) (l : List Str) (k n j : Sl), o = some (.nx (nE bag' many size l k n j)) ∧ Bag bag' ∧ l.length = many ∧ ∀ s ∈ l, Nm s) (fun r e => ∃ (bag' : D) (l : List Str) (k n j : Sl), e = nE bag' many size l k n j ∧ Bag bag' ∧ l.length + r.length = many ∧ ∀ s ∈ l, Nm s) ?_ ?_ _ _ ⟨bag, [], .un, .un, .un, rfl, hb, (by rw [len_rng]; simp), fun s hs => absurd hs (by simp)⟩
    · rintro d r e ⟨bag1, l1, k1, n1, j1, rfl, hb1, hl1, hn1⟩
      obtain ⟨bag2, s2, j2, e2, hb2, hs2⟩ := one_name (bag := bag1) (many := many) (size := size) (l := l1) (k := .va .no d) (name := n1) (j := j1) hb1 z1 z8
      obtain ⟨s3, j3, e3, hs3⟩ := other_name (bag := bag2) (many := many) (size := size) (l := l1) (k := .va .no d) (j := j2) hs2
      have e4 : (sApp 4 (lift (evar 6))) (nE bag2 many size l1 (.va .no d) (.va .no (.str s3)) j3) = some (.nx (nE bag2 many size (l1 ++ [s3]) (.va .no d) (.va .no (.str s3)) j3)) := by
        have hlt : (l1.map D.str).length < big := by
          have : (8 : Nat) < big := by decide
          rw [List.length_map]
          simp at hl1
          omega
        show (if nF (l1.map D.str).length = false ∧ (l1.map D.str).length < big then some (Out.nx _) else none) = _
        rw [if_pos ⟨rfl, hlt⟩]
        unfold nE
        rw [List.map_append]
        rfl
      refine ⟨nE bag1 many size l1 (.va .no d) n1 j1, rfl, .inl ⟨_, (R.seq e2).trans ((R.seq e3).trans e4), bag2, _, _, _, _, rfl, hb2, ?_, fun s hs => ?_⟩⟩
      · simp at hl1 ⊢
        omega
      · rcases List.mem_append.mp hs with h | h
        · exact hn1 s h
        · rw [List.mem_singleton.mp h]; exact hs3
    · rintro e ⟨bag1, l1, k1, n1, j1, rfl, hb1, hl1, hn1⟩
      exact ⟨bag1, l1, k1, n1, j1, rfl, hb1, by simpa using hl1, hn1⟩
end T73

set_option Elab.async false
set_option linter.all false
set_option maxRecDepth 100000
set_option maxHeartbeats 4000000
/-! M7: trees; the drawn tree. -/
namespace T73
open PySem L2 DL
inductive Tr where
  | node (s : Str) (ks : List Tr)
mutual
def tD : Tr → D
  | .node s ks => .tup (.str s :: tDs ks)
def tDs : List Tr → List D
  | [] => []
  | t :: ts => tD t :: tDs ts
end
mutual
def cnt : Tr → Nat
  | .node _ ks => 1 + cnts ks
def cnts : List Tr → Nat
  | [] => 0
  | t :: ts => cnt t + cnts ts
end
mutual
def OkT : Tr → Prop
  | .node s ks => Nm s ∧ OkTs ks
def OkTs : List Tr → Prop
  | [] => True
  | t :: ts => OkT t ∧ OkTs ts
end
theorem tDs_map : ∀ ts, tDs ts = ts.map tD
  | [] => rfl
  | t :: ts => by rw [tDs, tDs_map ts]; rfl
theorem cnts_app : ∀ a b, cnts (a ++ b) = cnts a + cnts b
  | [], b => by simp [cnts]
  | t :: a, b => by simp [cnts, cnts_app a b]; omega
theorem oks_app : ∀ a b, OkTs (a ++ b) ↔ OkTs a ∧ OkTs b
  | [], b => by simp [OkTs]
  | t :: a, b => by simp [OkTs, oks_app a b, and_assoc]
theorem len_cnts : ∀ ts, ts.length ≤ cnts ts
  | [] => by simp [cnts]
  | .node s ks :: ts => by
    have := len_cnts ts
    simp [cnts, cnt]
    omega
theorem tDs_len (ts : List Tr) : (tDs ts).length = ts.length := by rw [tDs_map, List.length_map]
/-- the slots of _law_drawn_tree -/
def tE (bag : D) (ts : List Tr) (x y z : Sl) : DL.Env := [.va (.pin bF) bag, .va (.own nF) (.lst (tDs ts)), x, y, z]
theorem lcStep {vs : List Nat} {tgs : D → DL.Env → Option DL.Env} {cond : DL.Env → Option (Bool × DL.Env)} {elt : EV1} {d z : D} {r acc : List D} {e e1 e2 e3 : DL.Env} (h1 : tgs d e = some e1) (h2 : cond e1 = some (true, e2)) (h3 : elt e2 = some (z, e3)) (hb : acc.length < big) :
    lcLoop vs tgs cond elt (d :: r) e acc = lcLoop vs tgs cond elt r (wipeE e3 vs) (acc ++ [z]) := by
  rw [lcLoop, h1, Option.bind_some, h2, Option.bind_some, if_pos rfl, h3, Option.bind_some, if_pos hb]
/-- the first row: trees of a name alone -/
theorem lc_names {bag : D} : ∀ (l : List Str) (acc : List D), acc.length + l.length ≤ 100 → lcLoop [2] (tgN 2) cYes (lift (etup (es1 (evar 2) (es0)))) (l.map D.str) [.va (.pin bF) bag, .un, .un, .un, .un] acc = some (acc ++ tDs (l.map fun s => .node s []), [.va (.pin bF) bag, .un, .un, .un, .un])
  | [], acc, _ => by
    show some (acc, _) = some (acc ++ [], _)
    rw [List.append_nil]
  | s :: l, acc, hz => by
    have hb : (100 : Nat) < big := by decide
    have ih := lc_names (bag := bag) l (acc ++ [.tup [.str s]]) (by simp at hz ⊢; omega)
    refine (lcStep (e1 := [.va (.pin bF) bag, .un, .va .no (.str s), .un, .un]) (e2 := [.va (.pin bF) bag, .un, .va .no (.str s), .un, .un]) (e3 := [.va (.pin bF) bag, .un, .va .no (.str s), .un, .un]) (z := .tup [.str s]) rfl rfl rfl (by simp at hz; omega)).trans (Eq.trans ih ?_)
    rw [List.append_assoc]
    rfl
theorem first_parts {bag : D} (hb : Bag bag) : ∃ (bag' : D) (ts : List Tr), (sSetN 1 (nlc [2] ((fun env => itL ((vcallIO (lenF 3 s__law_names) 0 (vs1 (v2 oAdd (lift (cst (.int 1))) (vcallIO (lenF 2 s__law_draw) 0 (vs1 (lift (cst (.int 8))) (vs0)))) (vs1 (vcallIO (lenF 2 s__law_pick) 0 (vs1 (vlst (nlst (vs1 (lift (cst (.int 1))) (vs1 (lift (cst (.int 2))) (vs1 (lift (cst (.int 8))) (vs0)))))) (vs0))) (vs0)))) env))) (tgN 2) cYes (lift (etup (es1 (evar 2) (es0)))))) [.va (.pin bF) bag, .un, .un, .un, .un] = some (.nx (tE bag' ts .un .un .un)) ∧
    Bag bag' ∧ 1 ≤ ts.length ∧ cnts ts ≤ 8 ∧ OkTs ts := by
  obtain ⟨k, bag1, e1, hb1, k0, k1⟩ := draw_pin (i := 0) (env := [.va (.pin bF) bag, .un, .un, .un, .un]) (e := [.va (.pin bF) bag, .un, .un, .un, .un]) (ps := vs1 (lift (cst (.int 8))) vs0) hb (by decide : (0 : Int) < 8) (by decide) rfl rfl rfl
  obtain ⟨d, bag2, e2, hb2, hd⟩ := pick_pin (i := 0) (env := [.va (.pin bF) bag1, .un, .un, .un, .un]) (e := [.va (.pin bF) bag1, .un, .un, .un, .un]) (l := [.int 1, .int 2, .int 8]) (ps := vs1 (vlst (nlst (vs1 (lift (cst (.int 1))) (vs1 (lift (cst (.int 2))) (vs1 (lift (cst (.int 8))) (vs0)))))) vs0) hb1 (by simp) (by decide) rfl rfl rfl
  obtain ⟨size, rfl, z1, z8⟩ : ∃ size : Nat, d = .int (size : Int) ∧ 1 ≤ size ∧ size ≤ 8 := by
    rcases List.mem_cons.mp hd with rfl | hd
    · exact ⟨1, rfl, by decide, by decide⟩
    rcases List.mem_cons.mp hd with rfl | hd
    · exact ⟨2, rfl, by decide, by decide⟩
    rcases List.mem_cons.mp hd with rfl | hd
    · exact ⟨8, rfl, by decide, by decide⟩
    · cases hd
  obtain ⟨many, hmany, m1, m8⟩ : ∃ many : Nat, (1 + k : Int) = (many : Int) ∧ 1 ≤ many ∧ many ≤ 8 := ⟨(1 + k).toNat, by omega, by omega, by omega⟩
  obtain ⟨bag3, l, e3, hb3, hl, hn⟩ := names_ok (many := many) hb2 m8 z1 z8
  have a1 : (v2 oAdd (lift (cst (.int 1))) (vcallIO (lenF 2 s__law_draw) 0 (vs1 (lift (cst (.int 8))) (vs0)))) [.va (.pin bF) bag, .un, .un, .un, .un] = some (.int (many : Int), [.va (.pin bF) bag1, .un, .un, .un, .un]) := by
    rw [← hmany]
    exact R.v2 (R.lift rfl) e1 rfl
  have a2 := R.vs1 a1 (R.vs1 e2 R.vs0)
  have a3 : (vcallIO (lenF 3 s__law_names) 0 (vs1 (v2 oAdd (lift (cst (.int 1))) (vcallIO (lenF 2 s__law_draw) 0 (vs1 (lift (cst (.int 8))) (vs0)))) (vs1 (vcallIO (lenF 2 s__law_pick) 0 (vs1 (vlst (nlst (vs1 (lift (cst (.int 1))) (vs1 (lift (cst (.int 2))) (vs1 (lift (cst (.int 8))) (vs0)))))) (vs0))) (vs0)))) [.va (.pin bF) bag, .un, .un, .un, .un] = some (.lst (l.map D.str), [.va (.pin bF) bag3, .un, .un, .un, .un]) :=
    R.callP (bd := bag2) a2 rfl rfl rfl e3
  have a4 := lc_names (bag := bag3) l [] (by simp; omega)
  have a5 := R.nlc (it := fun env => itL ((vcallIO (lenF 3 s__law_names) 0 (vs1 (v2 oAdd (lift (cst (.int 1))) (vcallIO (lenF 2 s__law_draw) 0 (vs1 (lift (cst (.int 8))) (vs0)))) (vs1 (vcallIO (lenF 2 s__law_pick) 0 (vs1 (vlst (nlst (vs1 (lift (cst (.int 1))) (vs1 (lift (cst (.int 2))) (vs1 (lift (cst (.int 8))) (vs0)))))) (vs0))) (vs0)))) env)) (vs := [2]) (env := [.va (.pin bF) bag, .un, .un, .un, .un]) (e := [.va (.pin bF) bag3, .un, .un, .un, .un]) (ds := l.map D.str) (by show itL _ = _; rw [a3]; rfl) a4
  refine ⟨bag3, l.map fun s => .node s [], R.setN a5 (by show 1 < 5; decide), hb3, by rw [List.length_map]; omega, ?_, ?_⟩
  · have c : ∀ l : List Str, cnts (l.map fun s => .node s []) = l.length := by
      intro l
      induction l with
      | nil => rfl
      | cons a l ih => simp [cnts, cnt, ih]; omega
    rw [c]; omega
  · have c : ∀ l : List Str, (∀ s ∈ l, Nm s) → OkTs (l.map fun s => .node s []) := by
      intro l
      induction l with
      | nil => intro _; trivial
      | cons a l ih => exact fun h => ⟨⟨h a List.mem_cons_self, trivial⟩, ih fun s hs => h s (List.mem_cons_of_mem _ hs)⟩
    exact c l hn
end T73

set_option Elab.async false
set_option linter.all false
set_option maxRecDepth 100000
set_option maxHeartbeats 4000000
/-! M8: the drawn tree, its later turns. -/
namespace T73
open PySem L2 DL
abbrev wrapB : ES := sSetIx 1 (cst (.int 0)) (vtup (vs1 (vcallIO (lenF 2 s__law_pick) 0 (vs1 (vlst (nlst (vs1 (lift (cst (.str (PySem.Str.ofString "f")))) (vs1 (lift (cst (.str (PySem.Str.ofString "G7")))) (vs1 (lift (cst (.str (PySem.Str.ofString "0")))) (vs0)))))) (vs0))) (vs1 (lift (eIxO 1 (cst (.int 0)))) (vs0))))
theorem wrap_step {bag : D} {t : Tr} {ts : List Tr} {x y z : Sl} (hb : Bag bag) : ∃ (bag' : D) (p : Str), wrapB (tE bag (t :: ts) x y z) = some (.nx (tE bag' (.node p [t] :: ts) x y z)) ∧ Bag bag' ∧ Nm p := by
  obtain ⟨d, bag1, e1, hb1, hd⟩ := pick_pin (i := 0) (env := tE bag (t :: ts) x y z) (e := tE bag (t :: ts) x y z) (l := [.str (Str.ofString "f"), .str (Str.ofString "G7"), .str (Str.ofString "0")]) (ps := vs1 (vlst (nlst (vs1 (lift (cst (.str (PySem.Str.ofString "f")))) (vs1 (lift (cst (.str (PySem.Str.ofString "G7")))) (vs1 (lift (cst (.str (PySem.Str.ofString "0")))) (vs0)))))) (vs0)) hb (by simp) (by decide) rfl rfl rfl
  obtain ⟨p, rfl, hp⟩ : ∃ p : Str, d = .str p ∧ Nm p := by
    rcases List.mem_cons.mp hd with rfl | hd
    · exact ⟨_, rfl, nm_of (by decide +kernel)⟩
    rcases List.mem_cons.mp hd with rfl | hd
    · exact ⟨_, rfl, nm_of (by decide +kernel)⟩
    rcases List.mem_cons.mp hd with rfl | hd
    · exact ⟨_, rfl, nm_of (by decide +kernel)⟩
    · cases hd
  have hix : eIxO 1 (cst (.int 0)) (tE bag1 (t :: ts) x y z) = some (tD t) := R.ixO (F := nF) (m := .own nF) (ds := tDs (t :: ts)) (k := 0) (j := 0) rfl rfl ixN0 rfl rfl
  have a : vs1 (vcallIO (lenF 2 s__law_pick) 0 (vs1 (vlst (nlst (vs1 (lift (cst (.str (PySem.Str.ofString "f")))) (vs1 (lift (cst (.str (PySem.Str.ofString "G7")))) (vs1 (lift (cst (.str (PySem.Str.ofString "0")))) (vs0)))))) (vs0))) (vs1 (lift (eIxO 1 (cst (.int 0)))) (vs0)) (tE bag (t :: ts) x y z) = some ([.str p, tD t], tE bag1 (t :: ts) x y z) := R.vs1 e1 (R.vs1 (R.lift hix) R.vs0)
  have v : (vtup (vs1 (vcallIO (lenF 2 s__law_pick) 0 (vs1 (vlst (nlst (vs1 (lift (cst (.str (PySem.Str.ofString "f")))) (vs1 (lift (cst (.str (PySem.Str.ofString "G7")))) (vs1 (lift (cst (.str (PySem.Str.ofString "0")))) (vs0)))))) (vs0))) (vs1 (lift (eIxO 1 (cst (.int 0)))) (vs0)))) (tE bag (t :: ts) x y z) = some (.tup [.str p, tD t], tE bag1 (t :: ts) x y z) := by
    unfold vtup
    rw [a]
    rfl
  exact ⟨bag1, p, R.setIx (F := nF) (m := .own nF) (ds := tDs (t :: ts)) (k := 0) (j := 0) v rfl rfl ixN0 rfl, hb1, hp⟩
/-- the wraps: at most 29 -/
theorem wraps {bag : D} {ts : List Tr} {y z : Sl} (hb : Bag bag) (h1 : 1 ≤ ts.length) (hc : cnts ts ≤ 8) (ho : OkTs ts) :
    ∃ (bag' : D) (ts' : List Tr) (y' : Sl), (sIf (tst (v2 oEq (vcallIO (lenF 2 s__law_draw) 0 (vs1 (lift (cst (.int 4))) (vs0))) (lift (cst (.int 0))))) (sFor ((fun env => itR1 ((vs1 (vcallIO (lenF 2 s__law_draw) 0 (vs1 (lift (cst (.int 30))) (vs0))) (vs0)) env))) (tgN 3) wrapB) sNil) (tE bag ts .un y z) = some (.nx (tE bag' ts' .un y' z)) ∧ Bag bag' ∧ 1 ≤ ts'.length ∧ cnts ts' ≤ 37 ∧ OkTs ts' := by
  obtain ⟨k, bag1, e1, hb1, k0, k1⟩ := draw_pin (i := 0) (env := tE bag ts .un y z) (e := tE bag ts .un y z) (ps := vs1 (lift (cst (.int 4))) vs0) hb (by decide : (0 : Int) < 4) (by decide) rfl rfl rfl
  have t : (tst (v2 oEq (vcallIO (lenF 2 s__law_draw) 0 (vs1 (lift (cst (.int 4))) (vs0))) (lift (cst (.int 0))))) (tE bag ts .un y z) = some (decide (k = 0), tE bag1 ts .un y z) := R.tst (R.v2 e1 (R.lift rfl) oEq_int)
  by_cases hk : k = 0
  · rw [decide_eq_true hk] at t
    obtain ⟨n, bag2, e2, hb2, n0, n1⟩ := draw_pin (i := 0) (env := tE bag1 ts .un y z) (e := tE bag1 ts .un y z) (ps := vs1 (lift (cst (.int 30))) vs0) hb1 (by decide : (0 : Int) < 30) (by decide) rfl rfl rfl
    obtain ⟨m, rfl, hm⟩ : ∃ m : Nat, n = (m : Int) ∧ m < 30 := ⟨n.toNat, by omega, by omega⟩
    have it : (fun env => itR1 ((vs1 (vcallIO (lenF 2 s__law_draw) 0 (vs1 (lift (cst (.int 30))) (vs0))) (vs0)) env)) (tE bag1 ts .un y z) = some (rngL 0 m, tE bag2 ts .un y z) :=
      R.rng (k := m) (R.vs1 e2 R.vs0) (Nat.lt_trans hm (by decide))
    have lp : ∃ (bag' : D) (ts' : List Tr) (y' : Sl), (sFor ((fun env => itR1 ((vs1 (vcallIO (lenF 2 s__law_draw) 0 (vs1 (lift (cst (.int 30))) (vs0))) (vs0)) env))) (tgN 3) wrapB) (tE bag1 ts .un y z) = some (.nx (tE bag' ts' .un y' z)) ∧ Bag bag' ∧ 1 ≤ ts'.length ∧ cnts ts' ≤ 37 ∧ OkTs ts' := by
      refine R.for (P := fun o => ∃ (bag' : D) (ts' : List Tr) (y' : Sl), o = some (.nx (tE bag' ts' .un y' z)) ∧ Bag bag' ∧ 1 ≤ ts'.length ∧ cnts ts' ≤ 37 ∧ OkTs ts') (it := fun env => itR1 ((vs1 (vcallIO (lenF 2 s__law_draw) 0 (vs1 (lift (cst (.int 30))) (vs0))) (vs0)) env)) it ?_
      refine R.loop (tgs := tgN 3) (body := wrapB) (P := fun o => ∃ (bag' : D) (ts' : List Tr) (y' : Sl), o = some (.nx (tE bag' ts' .un y' z)) ∧ Bag bag' ∧ 1 ≤ ts'.length ∧ cnts ts' ≤ 37 ∧ OkTs ts')
        (fun r e => ∃ (bag' : D) (ts' : List Tr) (y' : Sl), e = tE bag' ts' .un y' z ∧ Bag bag' ∧ 1 ≤ ts'.length ∧ cnts ts' + r.length ≤ 37 ∧ OkTs ts') ?_ ?_ _ _ ⟨bag2, ts, y, rfl, hb2, h1, (by rw [len_rng]; omega), ho⟩
      · rintro d r e ⟨bg, us, y1, rfl, hbg, hl, hcn, hok⟩
        match us, hl with
        | u :: us, _ =>
          obtain ⟨bg2, p, e3, hbg2, hp⟩ := wrap_step (t := u) (ts := us) (x := .un) (y := .va .no d) (z := z) hbg
          refine ⟨tE bg (u :: us) .un (.va .no d) z, rfl, .inl ⟨_, e3, bg2, _, _, rfl, hbg2, by simp, ?_, ⟨hp, hok.1, trivial⟩, hok.2⟩⟩
          simp [cnts, cnt] at hcn ⊢
          omega
      · rintro e ⟨bg, us, y1, rfl, hbg, hl, hcn, hok⟩
        exact ⟨bg, us, y1, rfl, hbg, hl, by simpa using hcn, hok⟩
    obtain ⟨bag', ts', y', h, r⟩ := lp
    exact ⟨bag', ts', y', (R.ifT t).trans h, r⟩
  · rw [decide_eq_false hk] at t
    exact ⟨bag1, ts, y, (R.ifF t).trans rfl, hb1, h1, by omega, ho⟩
end T73

set_option Elab.async false
set_option linter.all false
set_option maxRecDepth 100000
set_option maxHeartbeats 4000000
/-! M9: the groups; the drawn tree. -/
namespace T73
open PySem L2 DL
abbrev gpPick : EV1 := vcallIO (lenF 2 s__law_pick) 0 (vs1 (vlst (nlst (vs1 (lift (cst (.str (PySem.Str.ofString "f")))) (vs1 (lift (cst (.str (PySem.Str.ofString "Q")))) (vs1 (lift (cst (.str (PySem.Str.ofString "abcdEFGH")))) (vs1 (lift (cst (.str (PySem.Str.ofString "1")))) (vs1 (lift (cst (.str (PySem.Str.ofString "x")))) (vs0)))))))) (vs0))
abbrev groupB : ES := sIf (tst (lift (e2 oGt (ecall gLen (es1 (bvar 1) (es0))) (cst (.int 1)))))
  (sSeq (sSet 4 (v2 oAdd (lift (cst (.int 1))) (vcallIO (lenF 2 s__law_draw) 0 (vs1 (lift (escal (ecall gLen (es1 (bvar 1) (es0))))) (vs0)))))
  (sSetN 1 (ncat (vlst (nlst (vs1 (v2 oAdd (vtup (vs1 gpPick (vs0))) (vcall gTuple (vs1 (vlst (nsl (svar 1) (onone) (osome (evar 4)))) (vs0)))) (vs0)))) (vlst (nsl (svar 1) (osome (evar 4)) (onone))))))
  (sNil)
theorem gp_pick {bag : D} {ts : List Tr} {x y z : Sl} (hb : Bag bag) : ∃ (bag' : D) (p : Str), gpPick (tE bag ts x y z) = some (.str p, tE bag' ts x y z) ∧ Bag bag' ∧ Nm p := by
  obtain ⟨d, bag1, e1, hb1, hd⟩ := pick_pin (i := 0) (env := tE bag ts x y z) (e := tE bag ts x y z) (l := [.str (Str.ofString "f"), .str (Str.ofString "Q"), .str (Str.ofString "abcdEFGH"), .str (Str.ofString "1"), .str (Str.ofString "x")]) (ps := vs1 (vlst (nlst (vs1 (lift (cst (.str (PySem.Str.ofString "f")))) (vs1 (lift (cst (.str (PySem.Str.ofString "Q")))) (vs1 (lift (cst (.str (PySem.Str.ofString "abcdEFGH")))) (vs1 (lift (cst (.str (PySem.Str.ofString "1")))) (vs1 (lift (cst (.str (PySem.Str.ofString "x")))) (vs0)))))))) (vs0)) hb (by simp) (by decide) rfl rfl rfl
  refine ⟨bag1, ?_⟩
  have : ∃ p : Str, d = .str p ∧ Nm p := by
    rcases List.mem_cons.mp hd with rfl | hd
    · exact ⟨_, rfl, nm_of (by decide +kernel)⟩
    rcases List.mem_cons.mp hd with rfl | hd
    · exact ⟨_, rfl, nm_of (by decide +kernel)⟩
    rcases List.mem_cons.mp hd with rfl | hd
    · exact ⟨_, rfl, nm_of (by decide +kernel)⟩
    rcases List.mem_cons.mp hd with rfl | hd
    · exact ⟨_, rfl, nm_of (by decide +kernel)⟩
    rcases List.mem_cons.mp hd with rfl | hd
    · exact ⟨_, rfl, nm_of (by decide +kernel)⟩
    · cases hd
  obtain ⟨p, rfl, hp⟩ := this
  exact ⟨p, e1, hb1, hp⟩
theorem tDs_take (ts : List Tr) (n : Nat) : (tDs ts).take n = tDs (ts.take n) := by rw [tDs_map, tDs_map, List.map_take]
theorem tDs_drop (ts : List Tr) (n : Nat) : (tDs ts).drop n = tDs (ts.drop n) := by rw [tDs_map, tDs_map, List.map_drop]
theorem tDs_app (a b : List Tr) : tDs (a ++ b) = tDs a ++ tDs b := by rw [tDs_map, tDs_map, tDs_map, List.map_append]
theorem cut_lo {ds : List D} {n : Nat} (h : n ≤ ds.length) : cutD ds none (some (n : Int)) = ds.take n := by
  unfold cutD
  rw [HT.sIx_nat, HT.sIx_none, Nat.min_eq_left h, List.drop_zero, Nat.sub_zero]
theorem cut_hi {ds : List D} {n : Nat} (h : n ≤ ds.length) : cutD ds (some (n : Int)) none = ds.drop n := by
  unfold cutD
  rw [HT.sIx_nat, HT.sIx_none, Nat.min_eq_left h]
  exact List.take_of_length_le (by rw [List.length_drop]; exact Nat.le_refl _)
theorem group_step {bag : D} {ts : List Tr} {x y z : Sl} (hb : Bag bag) (h1 : 1 ≤ ts.length) (hc : cnts ts ≤ 100) (ho : OkTs ts) :
    ∃ (bag' : D) (ts' : List Tr) (z' : Sl), groupB (tE bag ts x y z) = some (.nx (tE bag' ts' x y z')) ∧ Bag bag' ∧ 1 ≤ ts'.length ∧ cnts ts' ≤ cnts ts + 1 ∧ OkTs ts' := by
  have hlc := len_cnts ts
  have hbig : (1000 : Nat) < big := by decide
  have t : (tst (lift (e2 oGt (ecall gLen (es1 (bvar 1) (es0))) (cst (.int 1))))) (tE bag ts x y z) = some (decide ((1 : Int) < ((tDs ts).length : Nat)), tE bag ts x y z) := rfl
  rw [tDs_len] at t
  by_cases h2 : (1 : Int) < (ts.length : Nat)
  · rw [decide_eq_true h2] at t
    have es : (escal (ecall gLen (es1 (bvar 1) (es0)))) (tE bag ts x y z) = some (.int (ts.length : Nat)) := by
      show (if isSc (.int ((tDs ts).length : Nat)) = true then some (D.int ((tDs ts).length : Nat)) else none) = _
      rw [tDs_len]
      rfl
    obtain ⟨k, bag1, e1, hb1, k0, k1⟩ := draw_pin (i := 0) (env := tE bag ts x y z) (e := tE bag ts x y z) (many := (ts.length : Nat)) (ps := vs1 (lift (escal (ecall gLen (es1 (bvar 1) (es0))))) vs0) hb (by omega) (by omega) (R.vs1 (R.lift es) R.vs0) rfl rfl
    obtain ⟨m, hm, hm1, hm2⟩ : ∃ m : Nat, (1 + k : Int) = (m : Int) ∧ 1 ≤ m ∧ m ≤ ts.length := ⟨(1 + k).toNat, by omega, by omega, by omega⟩
    have s1 : (sSet 4 (v2 oAdd (lift (cst (.int 1))) (vcallIO (lenF 2 s__law_draw) 0 (vs1 (lift (escal (ecall gLen (es1 (bvar 1) (es0))))) (vs0))))) (tE bag ts x y z) = some (.nx (tE bag1 ts x y (.va .no (.int (m : Int))))) := by
      rw [← hm]
      exact R.set (R.v2 (x := .int 1) (y := .int k) (e1 := tE bag ts x y z) (e2 := tE bag1 ts x y z) (R.lift rfl) e1 rfl) (by show 4 < 5; decide)
    obtain ⟨bag2, p, e2, hb2, hp⟩ := gp_pick (ts := ts) (x := x) (y := y) (z := .va .no (.int (m : Int))) hb1
    have lt : (ts.take m).length = m := by rw [List.length_take]; omega
    have a1 : (vtup (vs1 gpPick (vs0))) (tE bag1 ts x y (.va .no (.int (m : Int)))) = some (.tup [.str p], tE bag2 ts x y (.va .no (.int (m : Int)))) := by
      unfold vtup
      rw [R.vs1 e2 R.vs0]
      rfl
    have sv : (svar 1) (tE bag2 ts x y (.va .no (.int (m : Int)))) = some (tDs ts) := by
      show (if noF nF (tDs ts).length = true then some (tDs ts) else none) = _
      rw [if_pos (noF_nF _)]
    have n1 : (nsl (svar 1) (onone) (osome (evar 4))) (tE bag2 ts x y (.va .no (.int (m : Int)))) = some (tDs (ts.take m), tE bag2 ts x y (.va .no (.int (m : Int)))) := by
      unfold nsl
      rw [sv, ← tDs_take, ← cut_lo (by rw [tDs_len]; exact hm2)]
      rfl
    have n2 : (nsl (svar 1) (osome (evar 4)) (onone)) (tE bag2 ts x y (.va .no (.int (m : Int)))) = some (tDs (ts.drop m), tE bag2 ts x y (.va .no (.int (m : Int)))) := by
      unfold nsl
      rw [sv, ← tDs_drop, ← cut_hi (by rw [tDs_len]; exact hm2)]
      rfl
    have a2 : (vcall gTuple (vs1 (vlst (nsl (svar 1) (onone) (osome (evar 4)))) (vs0))) (tE bag2 ts x y (.va .no (.int (m : Int)))) = some (.tup (tDs (ts.take m)), tE bag2 ts x y (.va .no (.int (m : Int)))) := R.vcall (R.vs1 (R.vlst n1) R.vs0) rfl
    have a3 : (v2 oAdd (vtup (vs1 gpPick (vs0))) (vcall gTuple (vs1 (vlst (nsl (svar 1) (onone) (osome (evar 4)))) (vs0)))) (tE bag1 ts x y (.va .no (.int (m : Int)))) = some (tD (.node p (ts.take m)), tE bag2 ts x y (.va .no (.int (m : Int)))) := by
      refine R.v2 a1 a2 ?_
      show (if ([D.str p] : List D).length + (tDs (ts.take m)).length ≤ big then some (D.tup ([D.str p] ++ tDs (ts.take m))) else none) = _
      rw [if_pos (by rw [tDs_len, lt]; simp; omega)]
      rw [tD]
      rfl
    have a4 : (nlst (vs1 (v2 oAdd (vtup (vs1 gpPick (vs0))) (vcall gTuple (vs1 (vlst (nsl (svar 1) (onone) (osome (evar 4)))) (vs0)))) (vs0))) (tE bag1 ts x y (.va .no (.int (m : Int)))) = some ([tD (.node p (ts.take m))], tE bag2 ts x y (.va .no (.int (m : Int)))) := by
      unfold nlst
      rw [R.vs1 a3 R.vs0]
      rfl
    have a5 := R.ncat (R.vlst a4) (R.vlst n2) (by rw [tDs_len, List.length_drop]; simp; omega)
    have s2 := R.setN (i := 1) a5 (by show 1 < 5; decide)
    refine ⟨bag2, .node p (ts.take m) :: ts.drop m, .va .no (.int (m : Int)), (R.ifT t).trans ((R.seq s1).trans s2), hb2, by simp, ?_, ?_⟩
    · have e : cnts (ts.take m ++ ts.drop m) = cnts ts := by rw [List.take_append_drop]
      rw [cnts_app] at e
      simp [cnts, cnt]
      omega
    · have e : OkTs (ts.take m ++ ts.drop m) := by rw [List.take_append_drop]; exact ho
      rw [oks_app] at e
      exact ⟨⟨hp, e.1⟩, e.2⟩
  · rw [decide_eq_false h2] at t
    exact ⟨bag, ts, z, (R.ifF t).trans rfl, hb, h1, by omega, ho⟩
theorem drawn_ok {bag : D} (hb : Bag bag) : ∃ (bag' : D) (t : Tr), s__law_drawn_tree [.va (.pin bF) bag] = some (.ret (tD t) [.va (.pin bF) bag']) ∧ Bag bag' ∧ OkT t ∧ cnt t ≤ 46 := by
  obtain ⟨bag1, ts1, w1, hb1, h1, c1, o1⟩ := first_parts hb
  obtain ⟨bag2, ts2, y2, w2, hb2, h2, c2, o2⟩ := wraps (y := .un) (z := .un) hb1 h1 c1 o1
  have it : (fun env => itR1 ((vs1 (lift (cst (.int 8))) (vs0)) env)) (tE bag2 ts2 .un y2 .un) = some (rngL 0 8, tE bag2 ts2 .un y2 .un) := R.rng (k := 8) (ps := vs1 (lift (cst (.int 8))) vs0) (env := tE bag2 ts2 .un y2 .un) rfl (by decide)
  have lp : ∃ (bag' : D) (ts' : List Tr) (y' z' : Sl), (sFor ((fun env => itR1 ((vs1 (lift (cst (.int 8))) (vs0)) env))) (tgN 3) groupB) (tE bag2 ts2 .un y2 .un) = some (.nx (tE bag' ts' .un y' z')) ∧ Bag bag' ∧ 1 ≤ ts'.length ∧ cnts ts' ≤ 45 ∧ OkTs ts' := by
    refine R.for (P := fun o => ∃ (bag' : D) (ts' : List Tr) (y' z' : Sl), o = some (.nx (tE bag' ts' .un y' z')) ∧ Bag bag' ∧ 1 ≤ ts'.length ∧ cnts ts' ≤ 45 ∧ OkTs ts') (it := fun env => itR1 ((vs1 (lift (cst (.int 8))) (vs0)) env)) it ?_
    refine R.loop (tgs := tgN 3) (body := groupB) (P := fun o => ∃ (bag' : D) (ts' : List Tr) (y' z' : Sl), o = some (.nx (tE bag' ts' .un y' z')) ∧ Bag bag' ∧ 1 ≤ ts'.length ∧ cnts ts' ≤ 45 ∧ OkTs ts')
      (fun r e => ∃ (bag' : D) (ts' : List Tr) (y' z' : Sl), e = tE bag' ts' .un y' z' ∧ Bag bag' ∧ 1 ≤ ts'.length ∧ cnts ts' + r.length ≤ 45 ∧ OkTs ts') ?_ ?_ _ _ ⟨bag2, ts2, y2, .un, rfl, hb2, h2, (by rw [len_rng]; omega), o2⟩
    · rintro d r e ⟨bg, us, y1, z1, rfl, hbg, hl, hcn, hok⟩
      simp at hcn
      obtain ⟨bg2, us2, z2, e3, hbg2, hl2, hc2, hok2⟩ := group_step (x := .un) (y := .va .no d) (z := z1) hbg hl (by omega) hok
      exact ⟨tE bg us .un (.va .no d) z1, rfl, .inl ⟨_, e3, bg2, us2, _, z2, rfl, hbg2, hl2, by omega, hok2⟩⟩
    · rintro e ⟨bg, us, y1, z1, rfl, hbg, hl, hcn, hok⟩
      exact ⟨bg, us, y1, z1, rfl, hbg, hl, by simpa using hcn, hok⟩
  obtain ⟨bag3, ts3, y3, z3, w3, hb3, h3, c3, o3⟩ := lp
  have fin : ∃ (t : Tr) (e : DL.Env), (sRet (vif (tst (lift (e2 oEq (ecall gLen (es1 (bvar 1) (es0))) (cst (.int 1))))) (lift (eIxO 1 (cst (.int 0)))) (v2 oAdd (lift (etup (es1 (cst (.str (PySem.Str.ofString "all"))) (es0)))) (vcall gTuple (vs1 (vvar 1) (vs0)))))) (tE bag3 ts3 .un y3 z3) = some (.rt (tD t) e) ∧ OkT t ∧ cnt t ≤ 46 ∧ kp 1 e = [.va (.pin bF) bag3] ∧ 1 ≤ e.length := by
    have t : (tst (lift (e2 oEq (ecall gLen (es1 (bvar 1) (es0))) (cst (.int 1))))) (tE bag3 ts3 .un y3 z3) = some (decide (((tDs ts3).length : Int) = 1), tE bag3 ts3 .un y3 z3) := R.tstL oEq_int
    rw [tDs_len] at t
    by_cases h : (ts3.length : Int) = 1
    · rw [decide_eq_true h] at t
      match ts3, h with
      | [u], _ =>
        have hix : eIxO 1 (cst (.int 0)) (tE bag3 [u] .un y3 z3) = some (tD u) := R.ixO (F := nF) (m := .own nF) (ds := tDs [u]) (k := 0) (j := 0) rfl rfl ixN0 rfl rfl
        refine ⟨u, _, R.ret ((R.vifT t).trans (R.lift hix)), o3.1, ?_, rfl, by show 1 ≤ 5; decide⟩
        simp [cnts] at c3
        omega
    · rw [decide_eq_false h] at t
      have hbig : (1000 : Nat) < big := by decide
      have hlc := len_cnts ts3
      have g : (vcall gTuple (vs1 (vvar 1) (vs0))) (tE bag3 ts3 .un y3 z3) = some (.tup (tDs ts3), [.va (.pin bF) bag3, .va .no (.lst (tDs ts3)), .un, y3, z3]) := rfl
      have a : (v2 oAdd (lift (etup (es1 (cst (.str (PySem.Str.ofString "all"))) (es0)))) (vcall gTuple (vs1 (vvar 1) (vs0)))) (tE bag3 ts3 .un y3 z3) = some (tD (.node (Str.ofString "all") ts3), [.va (.pin bF) bag3, .va .no (.lst (tDs ts3)), .un, y3, z3]) := by
        refine R.v2 (x := .tup [.str (Str.ofString "all")]) (R.lift rfl) g ?_
        show (if ([D.str (Str.ofString "all")] : List D).length + (tDs ts3).length ≤ big then some (D.tup ([D.str (Str.ofString "all")] ++ tDs ts3)) else none) = _
        rw [if_pos (by rw [tDs_len]; simp; omega), tD]
        rfl
      refine ⟨.node (Str.ofString "all") ts3, _, R.ret ((R.vifF t).trans a), ⟨nm_of (by decide +kernel), o3⟩, ?_, rfl, by show 1 ≤ 5; decide⟩
      simp [cnt]
      omega
  obtain ⟨t, e, w4, ot, ct, hkp, hel⟩ := fin
  refine ⟨bag3, t, ?_, hb3, ot, ct⟩
  have z : b__law_drawn_tree [.va (.pin bF) bag, .un, .un, .un, .un] = some (.rt (tD t) e) := (R.seq w1).trans ((R.seq w2).trans ((R.seq w3).trans w4))
  have r := R.fn (n := 1) (N := 5) (body := b__law_drawn_tree) (args := [.va (.pin bF) bag]) z hel
  rw [hkp] at r
  exact r
end T73

set_option Elab.async false
set_option linter.all false
set_option maxRecDepth 100000
set_option maxHeartbeats 4000000
/-! M10: the text of a tree. -/
namespace T73
open PySem L2 DL
mutual
def shown : Tr → List Nat
  | .node s [] => L s
  | .node s (k :: ks) => L s ++ [40] ++ joinL [44] (shows (k :: ks)) ++ [41]
def shows : List Tr → List (List Nat)
  | [] => []
  | t :: ts => shown t :: shows ts
end
theorem shows_map : ∀ ts, shows ts = ts.map shown
  | [] => rfl
  | t :: ts => by rw [shows, shows_map ts]; rfl
theorem cnt_pos : ∀ t, 1 ≤ cnt t
  | .node _ _ => by simp [cnt]
theorem joinL_len (a : Nat) : ∀ ls : List (List Nat), ls ≠ [] → (joinL [a] ls).length + 1 = (ls.map fun l => l.length + 1).sum
  | [], h => (h rfl).elim
  | [x], _ => by simp [joinL]
  | x :: y :: r, _ => by
    have ih := joinL_len a (y :: r) (by simp)
    show (x ++ [a] ++ joinL [a] (y :: r)).length + 1 = _
    rw [List.map_cons, List.sum_cons, ← ih]
    simp
    omega
mutual
theorem shown_len : ∀ t, OkT t → (shown t).length + 1 ≤ 11 * cnt t
  | .node s [], h => by
    have := h.1.eight
    show (L s).length + 1 ≤ 11 * (1 + 0)
    omega
  | .node s (k :: ks), h => by
    have e8 := h.1.eight
    have ih := shows_len (k :: ks) h.2
    have j := joinL_len 44 (shows (k :: ks)) (by simp [shows])
    show (L s ++ [40] ++ joinL [44] (shows (k :: ks)) ++ [41]).length + 1 ≤ 11 * (1 + cnts (k :: ks))
    simp only [List.length_append, List.length_cons, List.length_nil]
    omega
theorem shows_len : ∀ ts, OkTs ts → ((shows ts).map fun l => l.length + 1).sum ≤ 11 * cnts ts
  | [], _ => by simp [shows]
  | t :: ts, h => by
    have a := shown_len t h.1
    have b := shows_len ts h.2
    show (shown t).length + 1 + ((shows ts).map fun l => l.length + 1).sum ≤ 11 * (cnt t + cnts ts)
    omega
end
/-- the text of a tree with parts; F: the def itself, a level below -/
abbrev shX (F : FSem) : EV1 := v2 oAdd (v2 oAdd (lift (e2 oAdd (e2 oIx (evar 0) (cst (.int 0))) (cst (.str (PySem.Str.ofString "("))))) (v2 gJoin (lift (cst (.str (PySem.Str.ofString ",")))) (vlst (nlc [1] ((fun env => itT ((lift (esl (evar 0) (osome (cst (.int 1))) (onone))) env))) (tgN 1) cYes (vcallF (lenF 1 F) (vs1 (lift (evar 1)) (vs0))))))) (lift (cst (.str (PySem.Str.ofString ")"))))
theorem lc_shows {F : FSem} {d0 : D} : ∀ (ks : List Tr) (acc : List D), acc.length + ks.length ≤ 100 → (∀ k ∈ ks, ∃ outs, F [.va .no (tD k)] = some (.ret (.str (mk (shown k))) outs)) →
    lcLoop [1] (tgN 1) cYes (vcallF (lenF 1 F) (vs1 (lift (evar 1)) (vs0))) (tDs ks) [.va .no d0, .un] acc = some (acc ++ ks.map (fun k => D.str (mk (shown k))), [.va .no d0, .un])
  | [], acc, _, _ => by
    show some (acc, _) = some (acc ++ [], _)
    rw [List.append_nil]
  | k :: ks, acc, hz, hF => by
    have hb : (100 : Nat) < big := by decide
    obtain ⟨outs, e⟩ := hF k List.mem_cons_self
    have ih := lc_shows (d0 := d0) ks (acc ++ [D.str (mk (shown k))]) (by simp at hz ⊢; omega) fun x hx => hF x (List.mem_cons_of_mem _ hx)
    refine (lcStep (e1 := [.va .no d0, .va .no (tD k)]) (e2 := [.va .no d0, .va .no (tD k)]) (e3 := [.va .no d0, .va .no (tD k)]) (z := D.str (mk (shown k))) rfl rfl (R.callF (ds := [tD k]) (R.vs1 (R.lift rfl) R.vs0) rfl e) (by simp at hz; omega)).trans (Eq.trans ih ?_)
    rw [List.append_assoc]
    rfl
theorem shX_ok {F : FSem} {s : Str} {k : Tr} {ks : List Tr} (h : OkT (.node s (k :: ks))) (hc : cnt (.node s (k :: ks)) ≤ 46) (hF : ∀ x ∈ k :: ks, ∃ outs, F [.va .no (tD x)] = some (.ret (.str (mk (shown x))) outs)) :
    shX F [.va .no (tD (.node s (k :: ks))), .un] = some (.str (mk (shown (.node s (k :: ks)))), [.va .no (tD (.node s (k :: ks))), .un]) := by
  have hbig : (100000 : Nat) < big := by decide
  have hlen := shown_len _ h
  have hl2 : (shown (.node s (k :: ks))).length = (L s ++ [40] ++ joinL [44] (shows (k :: ks)) ++ [41]).length := rfl
  simp only [List.length_append, List.length_cons, List.length_nil] at hl2
  have hlc : (k :: ks).length ≤ 46 := by
    have := len_cnts (k :: ks)
    have e : cnt (.node s (k :: ks)) = 1 + cnts (k :: ks) := rfl
    omega
  have l := lc_shows (F := F) (d0 := tD (.node s (k :: ks))) (k :: ks) [] (by simp at hlc ⊢; omega) hF
  have cut : cutD (.str s :: tDs (k :: ks)) (some 1) none = tDs (k :: ks) := by
    have := cut_hi (ds := .str s :: tDs (k :: ks)) (n := 1) (by simp)
    exact this
  have it : (fun env => itT ((lift (esl (evar 0) (osome (cst (.int 1))) (onone))) env)) [.va .no (tD (.node s (k :: ks))), .un] = some (tDs (k :: ks), [.va .no (tD (.node s (k :: ks))), .un]) := by
    have e : esl (evar 0) (osome (cst (.int 1))) onone [.va .no (tD (.node s (k :: ks))), .un] = some (.tup (cutD (.str s :: tDs (k :: ks)) (some 1) none)) := by
      rw [tD]
      rfl
    rw [cut] at e
    show itT (lift (esl (evar 0) (osome (cst (.int 1))) onone) _) = _
    rw [R.lift e]
    rfl
  have n := R.vlst (R.nlc (it := fun env => itT ((lift (esl (evar 0) (osome (cst (.int 1))) (onone))) env)) (vs := [1]) it l)
  have m : ((k :: ks).map fun x => D.str (mk (shown x))) = ((k :: ks).map fun x => mk (shown x)).map D.str := by rw [List.map_map]; rfl
  have j : gJoin (.str (Str.ofString ",")) (.lst ([] ++ (k :: ks).map fun x => D.str (mk (shown x)))) = some (.str (mk (joinL [44] (shows (k :: ks))))) := by
    rw [List.nil_append, m]
    show ((strsOf (((k :: ks).map fun x => mk (shown x)).map D.str)).bind _) = _
    rw [strs_map, Option.bind_some]
    have js : Txt.join (Str.ofString ",") ((k :: ks).map fun x => mk (shown x)) = mk (joinL [44] (shows (k :: ks))) := by
      apply ext_L
      rw [join_L, L_mk, shows_map, List.map_map]
      have c1 : L (Str.ofString ",") = [44] := by decide
      rw [c1]
      congr 1
    rw [js]
    refine if_pos ?_
    have e1 : (((k :: ks).map fun x => mk (shown x)).map (·.length)).sum + ((k :: ks).map fun x => mk (shown x)).length * (Str.ofString ",").length = ((shows (k :: ks)).map fun l => l.length + 1).sum := by
      rw [shows_map, show (Str.ofString ",").length = 1 from by decide, Nat.mul_one]
      generalize (k :: ks) = zs
      induction zs with
      | nil => rfl
      | cons a zs ih =>
        simp only [List.map_cons, List.sum_cons, List.length_cons, mk_len] at ih ⊢
        omega
    rw [e1]
    have := shows_len (k :: ks) h.2
    have e : cnt (.node s (k :: ks)) = 1 + cnts (k :: ks) := rfl
    omega
  have p1 : (e2 oAdd (e2 oIx (evar 0) (cst (.int 0))) (cst (.str (PySem.Str.ofString "(")))) [.va .no (tD (.node s (k :: ks))), .un] = some (.str (s ++ Str.ofString "(")) := by
    refine (R.e2 (x := .str s) (y := .str (Str.ofString "(")) ?_ rfl).trans (addS_ok ?_)
    · rw [tD]
      exact at0
    · rw [show (Str.ofString "(").length = 1 from by decide, len_L]
      have := h.1.eight
      omega
  have jl := joinL_len 44 (shows (k :: ks)) (by simp [shows])
  have a1 : oAdd (.str (s ++ Str.ofString "(")) (.str (mk (joinL [44] (shows (k :: ks))))) = some (.str (s ++ Str.ofString "(" ++ mk (joinL [44] (shows (k :: ks))))) := addS_ok (by
    rw [strLen_append, mk_len, show (Str.ofString "(").length = 1 from by decide, len_L]
    omega)
  have a2 : oAdd (.str (s ++ Str.ofString "(" ++ mk (joinL [44] (shows (k :: ks))))) (.str (Str.ofString ")")) = some (.str (s ++ Str.ofString "(" ++ mk (joinL [44] (shows (k :: ks))) ++ Str.ofString ")")) := addS_ok (by
    rw [strLen_append, strLen_append, mk_len, show (Str.ofString "(").length = 1 from by decide, show (Str.ofString ")").length = 1 from by decide, len_L]
    omega)
  have eq : s ++ Str.ofString "(" ++ mk (joinL [44] (shows (k :: ks))) ++ Str.ofString ")" = mk (shown (.node s (k :: ks))) := by
    apply ext_L
    rw [app_L, app_L, app_L, L_mk, L_mk, show L (Str.ofString "(") = [40] from by decide, show L (Str.ofString ")") = [41] from by decide]
    rfl
  rw [← eq]
  exact R.v2 (R.v2 (R.lift p1) (R.v2 (R.lift rfl) n j) a1) (R.lift rfl) a2
theorem one_part {s : Str} : (tst (lift (e2 oEq (ecall gLen (es1 (evar 0) (es0))) (cst (.int 1))))) [.va .no (tD (.node s [])), .un] = some (true, [.va .no (tD (.node s [])), .un]) := R.tstL (by
  have z : (e2 oEq (ecall gLen (es1 (evar 0) (es0))) (cst (.int 1))) [.va .no (tD (.node s [])), .un] = oEq (.int 1) (.int 1) := by
    rw [tD]
    rfl
  rw [z, oEq_int]
  rfl)
theorem many_parts {s : Str} {k : Tr} {ks : List Tr} : (tst (lift (e2 oEq (ecall gLen (es1 (evar 0) (es0))) (cst (.int 1))))) [.va .no (tD (.node s (k :: ks))), .un] = some (false, [.va .no (tD (.node s (k :: ks))), .un]) := R.tstL (by
  have z : (e2 oEq (ecall gLen (es1 (evar 0) (es0))) (cst (.int 1))) [.va .no (tD (.node s (k :: ks))), .un] = oEq (.int ((D.str s :: tDs (k :: ks)).length : Nat)) (.int 1) := by
    rw [tD]
    rfl
  rw [z, oEq_int, decide_eq_false]
  rw [List.length_cons, tDs_len, List.length_cons]
  omega)
theorem first_part {s : Str} {ks : List Tr} : (e2 oIx (evar 0) (cst (.int 0))) [.va .no (tD (.node s ks)), .un] = some (.str s) := by
  refine (R.e2 (x := .tup (.str s :: tDs ks)) (y := .int 0) ?_ rfl).trans at0
  rw [tD]
  rfl
theorem mk_str {s : Str} : mk (shown (.node s [])) = s := mk_L s
theorem mem_cnts {x : Tr} : ∀ {ts : List Tr}, x ∈ ts → cnt x ≤ cnts ts
  | t :: ts, h => by
    rcases List.mem_cons.mp h with rfl | h
    · simp [cnts]
    · have := mem_cnts h
      simp [cnts]
      omega
theorem mem_ok {x : Tr} : ∀ {ts : List Tr}, x ∈ ts → OkTs ts → OkT x
  | t :: ts, h, o => by
    rcases List.mem_cons.mp h with rfl | h
    · exact o.1
    · exact mem_ok h o.2
theorem show_ok : ∀ (n : Nat) (t : Tr), OkT t → cnt t ≤ n → cnt t ≤ 46 → ∃ outs, s_show_tree n [.va .no (tD t)] = some (.ret (.str (mk (shown t))) outs)
  | 0, t, _, h, _ => by have := cnt_pos t; omega
  | n + 1, .node s [], _, _, _ => by
    have z : b_show_tree (s_show_tree n) [.va .no (tD (.node s [])), .un] = some (.rt (.str (mk (shown (.node s [])))) [.va .no (tD (.node s [])), .un]) := by
      rw [mk_str]
      exact R.seqR ((R.ifT one_part).trans (R.ret (R.lift first_part)))
    exact ⟨_, R.fn (n := 1) (N := 2) (body := b_show_tree (s_show_tree n)) (args := [.va .no (tD (.node s []))]) z (by show 1 ≤ 2; decide)⟩
  | n + 1, .node s (k :: ks), o, h, h46 => by
    have e : cnt (.node s (k :: ks)) = 1 + cnts (k :: ks) := rfl
    have z : b_show_tree (s_show_tree n) [.va .no (tD (.node s (k :: ks))), .un] = some (.rt (.str (mk (shown (.node s (k :: ks))))) [.va .no (tD (.node s (k :: ks))), .un]) :=
      (R.seq ((R.ifF many_parts).trans rfl)).trans (R.ret (shX_ok o h46 fun x hx => show_ok n x (mem_ok hx o.2) (by have := mem_cnts hx; omega) (by have := mem_cnts hx; omega)))
    exact ⟨_, R.fn (n := 1) (N := 2) (body := b_show_tree (s_show_tree n)) (args := [.va .no (tD (.node s (k :: ks)))]) z (by show 1 ≤ 2; decide)⟩
theorem lshow_ok : ∀ (n : Nat) (t : Tr), OkT t → cnt t ≤ n → cnt t ≤ 46 → ∃ outs, s__law_shown n [.va .no (tD t)] = some (.ret (.str (mk (shown t))) outs)
  | 0, t, _, h, _ => by have := cnt_pos t; omega
  | n + 1, .node s [], _, _, _ => by
    have z : b__law_shown (s__law_shown n) [.va .no (tD (.node s [])), .un] = some (.rt (.str (mk (shown (.node s [])))) [.va .no (tD (.node s [])), .un]) := by
      rw [mk_str]
      exact R.ret ((R.vifT one_part).trans (R.lift first_part))
    exact ⟨_, R.fn (n := 1) (N := 2) (body := b__law_shown (s__law_shown n)) (args := [.va .no (tD (.node s []))]) z (by show 1 ≤ 2; decide)⟩
  | n + 1, .node s (k :: ks), o, h, h46 => by
    have e : cnt (.node s (k :: ks)) = 1 + cnts (k :: ks) := rfl
    have z : b__law_shown (s__law_shown n) [.va .no (tD (.node s (k :: ks))), .un] = some (.rt (.str (mk (shown (.node s (k :: ks))))) [.va .no (tD (.node s (k :: ks))), .un]) :=
      R.ret ((R.vifF many_parts).trans (shX_ok o h46 fun x hx => lshow_ok n x (mem_ok hx o.2) (by have := mem_cnts hx; omega) (by have := mem_cnts hx; omega)))
    exact ⟨_, R.fn (n := 1) (N := 2) (body := b__law_shown (s__law_shown n)) (args := [.va .no (tD (.node s (k :: ks)))]) z (by show 1 ≤ 2; decide)⟩
end T73

set_option Elab.async false
set_option linter.all false
set_option maxRecDepth 100000
set_option maxHeartbeats 4000000
/-! M11: _law_same of a thing and itself. -/
namespace T73
open PySem L2 DL
/-- plain things, at most n deep -/
def Sm : Nat → D → Prop
  | 0, _ => False
  | _ + 1, .str _ => True
  | _ + 1, .int _ => True
  | n + 1, .tup ds => (∀ d ∈ ds, Sm n d) ∧ ds.length ≤ 1000000
  | _ + 1, _ => False
theorem R.vandT {v w : EV1} {env e : DL.Env} (h : v env = some (.bl true, e)) : vand v w env = w e := by
  unfold vand
  rw [h]
  rfl
theorem oEq_self_str (s : Str) : oEq (.str s) (.str s) = some (.bl true) := by
  unfold oEq eqB
  rw [if_pos (show scB (.str s) (.str s) = true from rfl)]
  show some (D.bl (decide (toV (.str s) = toV (.str s)))) = _
  rw [decide_eq_true rfl]
abbrev sameL (F : FSem) : ES := sIf (qnot (tst (vcallF (lenF 2 F) (vs1 (lift (e2 oIx (evar 0) (evar 2))) (vs1 (lift (e2 oIx (evar 1) (evar 2))) (vs0)))))) (sRet (lift (cst (.bl false)))) sNil
theorem same_ok : ∀ (n : Nat) (d : D), Sm n d → ∃ outs, s__law_same n [.va .no d, .va .no d] = some (.ret (.bl true) outs)
  | 0, _, h => h.elim
  | n + 1, .str s, _ => by
    have z : b__law_same (s__law_same n) [.va .no (.str s), .va .no (.str s), .un] = some (.rt (.bl true) [.va .no (.str s), .va .no (.str s), .un]) := by
      refine (R.seq ((R.ifF (e := [.va .no (.str s), .va .no (.str s), .un]) rfl).trans rfl)).trans ((R.seq ((R.ifF (e := [.va .no (.str s), .va .no (.str s), .un]) rfl).trans rfl)).trans ((R.seq ((R.ifF (e := [.va .no (.str s), .va .no (.str s), .un]) rfl).trans rfl)).trans (R.seqR ((R.ifT (e := [.va .no (.str s), .va .no (.str s), .un]) rfl).trans (R.ret ?_)))))
      have q : (lift (e2 oEq (evar 0) (evar 1))) [.va .no (.str s), .va .no (.str s), .un] = some (.bl true, [.va .no (.str s), .va .no (.str s), .un]) := R.lift (oEq_self_str s)
      exact (R.vandT (e := [.va .no (.str s), .va .no (.str s), .un]) rfl).trans q
    exact ⟨_, R.fn (n := 2) (N := 3) (body := b__law_same (s__law_same n)) (args := [.va .no (.str s), .va .no (.str s)]) z (by show 2 ≤ 3; decide)⟩
  | n + 1, .int i, _ => by
    have z : b__law_same (s__law_same n) [.va .no (.int i), .va .no (.int i), .un] = some (.rt (.bl true) [.va .no (.int i), .va .no (.int i), .un]) := by
      refine (R.seq ((R.ifF (e := [.va .no (.int i), .va .no (.int i), .un]) rfl).trans rfl)).trans ((R.seq ((R.ifF (e := [.va .no (.int i), .va .no (.int i), .un]) rfl).trans rfl)).trans (R.seqR ((R.ifT (e := [.va .no (.int i), .va .no (.int i), .un]) rfl).trans (R.ret ?_))))
      have q : (lift (e2 oEq (evar 0) (evar 1))) [.va .no (.int i), .va .no (.int i), .un] = some (.bl true, [.va .no (.int i), .va .no (.int i), .un]) := R.lift (by
        refine (R.e2 (x := .int i) (y := .int i) rfl rfl).trans ?_
        rw [oEq_int, decide_eq_true rfl])
      exact (R.vandT (e := [.va .no (.int i), .va .no (.int i), .un]) rfl).trans q
    exact ⟨_, R.fn (n := 2) (N := 3) (body := b__law_same (s__law_same n)) (args := [.va .no (.int i), .va .no (.int i)]) z (by show 2 ≤ 3; decide)⟩
  | n + 1, .tup ds, h => by
    obtain ⟨hs, hz⟩ := h
    have q5 : (qor (qnot (tst (lift (eisi "tuple" (evar 1))))) (qor (qnot (tst (lift (eisi "tuple" (evar 0))))) (tst (lift (e2 oNe (ecall gLen (es1 (evar 0) (es0))) (ecall gLen (es1 (evar 1) (es0)))))))) [.va .no (.tup ds), .va .no (.tup ds), .un] = some (false, [.va .no (.tup ds), .va .no (.tup ds), .un]) := by
      have a : (qnot (tst (lift (eisi "tuple" (evar 1))))) [.va .no (.tup ds), .va .no (.tup ds), .un] = some (false, [.va .no (.tup ds), .va .no (.tup ds), .un]) := rfl
      have b : (qnot (tst (lift (eisi "tuple" (evar 0))))) [.va .no (.tup ds), .va .no (.tup ds), .un] = some (false, [.va .no (.tup ds), .va .no (.tup ds), .un]) := rfl
      have c : oNe (.int (ds.length : Nat)) (.int (ds.length : Nat)) = some (.bl false) := by
        unfold oNe eqB
        rw [if_pos (show scB (.int (ds.length : Nat)) (.int (ds.length : Nat)) = true from rfl)]
        show some (D.bl (!decide (toV (.int (ds.length : Nat)) = toV (.int (ds.length : Nat))))) = _
        rw [decide_eq_true rfl]
        rfl
      exact (R.orF a).trans ((R.orF b).trans (R.tstL c))
    have lp : ∃ x : Sl, (sFor ((fun env => itR1 ((vs1 (lift (ecall gLen (es1 (evar 1) (es0)))) (vs0)) env))) (tgN 2) (sameL (s__law_same n))) [.va .no (.tup ds), .va .no (.tup ds), .un] = some (.nx [.va .no (.tup ds), .va .no (.tup ds), x]) := by
      have it : (fun env => itR1 ((vs1 (lift (ecall gLen (es1 (evar 1) (es0)))) (vs0)) env)) [.va .no (.tup ds), .va .no (.tup ds), .un] = some (rngL 0 ds.length, [.va .no (.tup ds), .va .no (.tup ds), .un]) := R.rng (k := ds.length) (ps := vs1 (lift (ecall gLen (es1 (evar 1) (es0)))) vs0) (env := [.va .no (.tup ds), .va .no (.tup ds), .un]) rfl (Nat.lt_of_le_of_lt hz (by decide))
      refine R.for (P := fun o => ∃ x : Sl, o = some (.nx [.va .no (.tup ds), .va .no (.tup ds), x])) (it := fun env => itR1 ((vs1 (lift (ecall gLen (es1 (evar 1) (es0)))) (vs0)) env)) it ?_
      refine R.loop (tgs := tgN 2) (body := sameL (s__law_same n)) (P := fun o => ∃ x : Sl, o = some (.nx [.va .no (.tup ds), .va .no (.tup ds), x])) (fun r e => (∃ x : Sl, e = [.va .no (.tup ds), .va .no (.tup ds), x]) ∧ ∀ d ∈ r, ∃ j : Nat, j < ds.length ∧ d = .int (0 + (j : Int))) ?_ ?_ _ _ ⟨⟨_, rfl⟩, fun d hd => mem_rng hd⟩
      · rintro d r e ⟨⟨x, rfl⟩, hr⟩
        obtain ⟨j, hj, rfl⟩ := hr d List.mem_cons_self
        obtain ⟨y, hy, hm⟩ := ix_ok (l := ds) (i := 0 + (j : Int)) (by omega) (by omega)
        obtain ⟨outs, hF⟩ := same_ok n y (hs y hm)
        have c : (vcallF (lenF 2 (s__law_same n)) (vs1 (lift (e2 oIx (evar 0) (evar 2))) (vs1 (lift (e2 oIx (evar 1) (evar 2))) (vs0)))) [.va .no (.tup ds), .va .no (.tup ds), .va .no (.int (0 + (j : Int)))] = some (.bl true, [.va .no (.tup ds), .va .no (.tup ds), .va .no (.int (0 + (j : Int)))]) :=
          R.callF (ds := [y, y]) (R.vs1 (R.lift hy) (R.vs1 (R.lift hy) R.vs0)) rfl hF
        exact ⟨[.va .no (.tup ds), .va .no (.tup ds), .va .no (.int (0 + (j : Int)))], rfl, .inl ⟨_, (R.ifF (R.not (R.tst c))).trans rfl, ⟨_, rfl⟩, fun d hd => hr d (List.mem_cons_of_mem _ hd)⟩⟩
      · rintro e ⟨⟨x, rfl⟩, _⟩
        exact ⟨x, rfl⟩
    obtain ⟨x, lp⟩ := lp
    have z : b__law_same (s__law_same n) [.va .no (.tup ds), .va .no (.tup ds), .un] = some (.rt (.bl true) [.va .no (.tup ds), .va .no (.tup ds), x]) :=
      (R.seq ((R.ifF (e := [.va .no (.tup ds), .va .no (.tup ds), .un]) rfl).trans rfl)).trans ((R.seq ((R.ifF (e := [.va .no (.tup ds), .va .no (.tup ds), .un]) rfl).trans rfl)).trans ((R.seq ((R.ifF (e := [.va .no (.tup ds), .va .no (.tup ds), .un]) rfl).trans rfl)).trans ((R.seq ((R.ifF (e := [.va .no (.tup ds), .va .no (.tup ds), .un]) rfl).trans rfl)).trans ((R.seq ((R.ifF q5).trans rfl)).trans ((R.seq lp).trans (R.ret (R.lift rfl)))))))
    exact ⟨_, R.fn (n := 2) (N := 3) (body := b__law_same (s__law_same n)) (args := [.va .no (.tup ds), .va .no (.tup ds)]) z (by show 2 ≤ 3; decide)⟩
  | _ + 1, .non, h => h.elim
  | _ + 1, .bl _, h => h.elim
  | _ + 1, .lst _, h => h.elim
  | _ + 1, .dk _ _, h => h.elim
theorem Sm.up {n : Nat} : ∀ {m : Nat} {d : D}, Sm n d → n ≤ m → Sm m d := by
  induction n with
  | zero => intro m d h; exact h.elim
  | succ n ih =>
    intro m d h hm
    match m, hm with
    | m + 1, hm =>
      cases d with
      | str s => trivial
      | int i => trivial
      | tup ds => exact ⟨fun x hx => ih (h.1 x hx) (by omega), h.2⟩
      | non => exact h.elim
      | bl b => exact h.elim
      | lst ds => exact h.elim
      | dk a b => exact h.elim
end T73

set_option Elab.async false
set_option linter.all false
set_option maxRecDepth 100000
set_option maxHeartbeats 4000000
/-! M12: the spoilt texts. -/
namespace T73
open PySem L2 DL
def opens (s : Str) : Nat := (L s).count 40
theorem cut_sub (s : Str) (lo hi : Option Int) : (L (cutS s lo hi)).Sublist (L s) := by
  show (L (mk _)).Sublist _
  rw [L_mk]
  exact (List.take_sublist _ _).trans (List.drop_sublist _ _)
theorem cut_len (s : Str) (lo hi : Option Int) : (cutS s lo hi).length ≤ s.length := by
  rw [len_L, len_L]
  exact (cut_sub s lo hi).length_le
theorem cut_opens (s : Str) (lo hi : Option Int) : opens (cutS s lo hi) ≤ opens s := (cut_sub s lo hi).count_le _
theorem opens_app (a b : Str) : opens (a ++ b) = opens a + opens b := by
  unfold opens
  rw [app_L, List.count_append]
/-- the slots of _law_spoilt -/
def pE (bag : D) (s : Str) (x y z : Sl) : DL.Env := [.va (.pin bF) bag, .va .no (.str s), x, y, z]
def Spoilt (s : Str) (r : Option FRes) : Prop := ∃ (bag' : D) (s' : Str), r = some (.ret (.str s') [.va (.pin bF) bag', .un]) ∧ Bag bag' ∧ s'.length ≤ 2 * s.length + 10 ∧ opens s' ≤ 2 * opens s + 1
abbrev pickA : EV1 := vcallIO (lenF 2 s__law_pick) 0 (vs1 (vlst (nlst (vs1 (lift (cst (.str (PySem.Str.ofString "(")))) (vs1 (lift (cst (.str (PySem.Str.ofString ")")))) (vs1 (lift (cst (.str (PySem.Str.ofString ",")))) (vs1 (lift (cst (.str (PySem.Str.ofString " ")))) (vs1 (lift (cst (.str (PySem.Str.ofString "a")))) (vs1 (lift (cst (.str (PySem.Str.ofString "Z")))) (vs1 (lift (cst (.str (PySem.Str.ofString "0")))) (vs1 (lift (cst (.str (PySem.Str.ofString "_")))) (vs1 (lift (cst (.str (PySem.Str.ofString "()")))) (vs1 (lift (cst (.str (PySem.Str.ofString ",,")))) (vs1 (lift (cst (.str (PySem.Str.ofString "\n")))) (vs1 (lift (cst (.str (PySem.Str.ofString "abcdefgh")))) (vs1 (lift (cst (.str (PySem.Str.ofString "'")))) (vs0)))))))))))))))) (vs0))
def signsA : List Str := ["(", ")", ",", " ", "a", "Z", "0", "_", "()", ",,", "\n", "abcdefgh", "'"]
theorem signsA_ok : ∀ s ∈ signsA, s.length ≤ 8 ∧ opens s ≤ 1 := by decide +kernel
theorem pick_a {bag : D} {s : Str} {x y z : Sl} (hb : Bag bag) : ∃ (bag' : D) (p : Str), pickA (pE bag s x y z) = some (.str p, pE bag' s x y z) ∧ Bag bag' ∧ p.length ≤ 8 ∧ opens p ≤ 1 := by
  obtain ⟨d, bag1, e1, hb1, hd⟩ := pick_pin (i := 0) (env := pE bag s x y z) (e := pE bag s x y z) (l := signsA.map D.str) (ps := vs1 (vlst (nlst (vs1 (lift (cst (.str (PySem.Str.ofString "(")))) (vs1 (lift (cst (.str (PySem.Str.ofString ")")))) (vs1 (lift (cst (.str (PySem.Str.ofString ",")))) (vs1 (lift (cst (.str (PySem.Str.ofString " ")))) (vs1 (lift (cst (.str (PySem.Str.ofString "a")))) (vs1 (lift (cst (.str (PySem.Str.ofString "Z")))) (vs1 (lift (cst (.str (PySem.Str.ofString "0")))) (vs1 (lift (cst (.str (PySem.Str.ofString "_")))) (vs1 (lift (cst (.str (PySem.Str.ofString "()")))) (vs1 (lift (cst (.str (PySem.Str.ofString ",,")))) (vs1 (lift (cst (.str (PySem.Str.ofString "\n")))) (vs1 (lift (cst (.str (PySem.Str.ofString "abcdefgh")))) (vs1 (lift (cst (.str (PySem.Str.ofString "'")))) (vs0)))))))))))))))) (vs0)) hb (by decide) (by decide) rfl rfl rfl
  obtain ⟨p, hp, rfl⟩ := List.mem_map.mp hd
  obtain ⟨a, b⟩ := signsA_ok p hp
  exact ⟨bag1, p, e1, hb1, a, b⟩
abbrev pickB : EV1 := vcallIO (lenF 2 s__law_pick) 0 (vs1 (vlst (nlst (vs1 (lift (cst (.str (PySem.Str.ofString "")))) (vs1 (lift (cst (.str (PySem.Str.ofString ")")))) (vs1 (lift (cst (.str (PySem.Str.ofString ",")))) (vs1 (lift (cst (.str (PySem.Str.ofString " ")))) (vs1 (lift (e2 oAdd (cst (.str (PySem.Str.ofString ","))) (evar 1))) (vs1 (lift (evar 1)) (vs0))))))))) (vs0))
theorem pick_b {bag : D} {s : Str} {x y z : Sl} (hb : Bag bag) (hz : s.length ≤ 100000) : ∃ (bag' : D) (p : Str), pickB (pE bag s x y z) = some (.str p, pE bag' s x y z) ∧ Bag bag' ∧ p.length ≤ s.length + 1 ∧ opens p ≤ opens s := by
  have hbig : (100002 : Nat) < big := by decide
  have c1 : (Str.ofString ",").length = 1 := by decide
  have ea : (e2 oAdd (cst (.str (PySem.Str.ofString ","))) (evar 1)) (pE bag s x y z) = some (.str (Str.ofString "," ++ s)) := addS_ok (by omega)
  have ps : (vs1 (vlst (nlst (vs1 (lift (cst (.str (PySem.Str.ofString "")))) (vs1 (lift (cst (.str (PySem.Str.ofString ")")))) (vs1 (lift (cst (.str (PySem.Str.ofString ",")))) (vs1 (lift (cst (.str (PySem.Str.ofString " ")))) (vs1 (lift (e2 oAdd (cst (.str (PySem.Str.ofString ","))) (evar 1))) (vs1 (lift (evar 1)) (vs0))))))))) (vs0)) (pE bag s x y z) = some ([.lst ([Str.ofString "", Str.ofString ")", Str.ofString ",", Str.ofString " ", Str.ofString "," ++ s, s].map D.str)], pE bag s x y z) := by
    refine R.vs1 (R.vlst ?_) R.vs0
    unfold nlst
    rw [R.vs1 (R.lift (show cst (.str (PySem.Str.ofString "")) (pE bag s x y z) = some (.str (Str.ofString "")) from rfl)) (R.vs1 (R.lift (show cst (.str (PySem.Str.ofString ")")) (pE bag s x y z) = some (.str (Str.ofString ")")) from rfl)) (R.vs1 (R.lift (show cst (.str (PySem.Str.ofString ",")) (pE bag s x y z) = some (.str (Str.ofString ",")) from rfl)) (R.vs1 (R.lift (show cst (.str (PySem.Str.ofString " ")) (pE bag s x y z) = some (.str (Str.ofString " ")) from rfl)) (R.vs1 (R.lift ea) (R.vs1 (R.lift (show evar 1 (pE bag s x y z) = some (.str s) from rfl)) R.vs0)))))]
    rfl
  obtain ⟨d, bag1, e1, hb1, hd⟩ := pick_pin (i := 0) (env := pE bag s x y z) (e := pE bag s x y z) hb (by simp) (by show 6 < 1073741824; decide) ps rfl rfl
  obtain ⟨p, hp, rfl⟩ := List.mem_map.mp hd
  refine ⟨bag1, p, e1, hb1, ?_⟩
  have o1 : opens (Str.ofString ",") = 0 := by decide
  rcases List.mem_cons.mp hp with rfl | hp
  · exact ⟨by rw [show (Str.ofString "").length = 0 from by decide]; omega, by rw [show opens (Str.ofString "") = 0 from by decide]; omega⟩
  rcases List.mem_cons.mp hp with rfl | hp
  · exact ⟨by rw [show (Str.ofString ")").length = 1 from by decide]; omega, by rw [show opens (Str.ofString ")") = 0 from by decide]; omega⟩
  rcases List.mem_cons.mp hp with rfl | hp
  · exact ⟨by rw [c1]; omega, by rw [o1]; omega⟩
  rcases List.mem_cons.mp hp with rfl | hp
  · exact ⟨by rw [show (Str.ofString " ").length = 1 from by decide]; omega, by rw [show opens (Str.ofString " ") = 0 from by decide]; omega⟩
  rcases List.mem_cons.mp hp with rfl | hp
  · exact ⟨by rw [strLen_append, c1]; omega, by rw [opens_app, o1]; omega⟩
  rcases List.mem_cons.mp hp with rfl | hp
  · exact ⟨by omega, Nat.le_refl _⟩
  · cases hp
theorem spoilt_ok {bag : D} {s : Str} (hb : Bag bag) (hz : s.length ≤ 100000) : Spoilt s (s__law_spoilt [.va (.pin bF) bag, .va .no (.str s)]) := by
  have hbig : (1000000 : Nat) < big := by decide
  have gl : (ecall gLen (es1 (evar 1) (es0))) (pE bag s .un .un .un) = some (.int (s.length : Nat)) := if_pos (by omega)
  have pa : (e2 oAdd (ecall gLen (es1 (evar 1) (es0))) (cst (.int 1))) (pE bag s .un .un .un) = some (.int ((s.length : Nat) + 1)) := (R.e2 (y := .int 1) gl rfl).trans rfl
  obtain ⟨at_, bag1, e1, hb1, a0, a1⟩ := draw_pin (i := 0) (env := pE bag s .un .un .un) (e := pE bag s .un .un .un) hb (by omega) (by omega) (R.vs1 (R.lift pa) R.vs0) rfl rfl
  obtain ⟨way, bag2, e2', hb2, w0, w1⟩ := draw_pin (i := 0) (env := pE bag1 s .un .un .un) (e := pE bag1 s .un .un .un) (many := 6) (ps := vs1 (lift (cst (.int 6))) vs0) hb1 (by decide) (by decide) rfl rfl rfl
  have s1 : (sPar [2, 3] (xs1 (xval (vcallIO (lenF 2 s__law_draw) 0 (vs1 (lift (e2 oAdd (ecall gLen (es1 (evar 1) (es0))) (cst (.int 1)))) (vs0)))) (xs1 (xval (vcallIO (lenF 2 s__law_draw) 0 (vs1 (lift (cst (.int 6))) (vs0)))) (xs0)))) (pE bag s .un .un .un) = some (.nx (pE bag2 s (.va .no (.int at_)) (.va .no (.int way)) .un)) := by
    unfold sPar
    rw [R.xs1 (R.xval e1) (R.xs1 (R.xval e2') rfl)]
    rfl
  obtain ⟨bag3, sg, e3, hb3, sl, so⟩ := pick_a (bag := bag2) (s := s) (x := .va .no (.int at_)) (y := .va .no (.int way)) (z := .un) hb2
  have s2 : (sSet 4 pickA) (pE bag2 s (.va .no (.int at_)) (.va .no (.int way)) .un) = some (.nx (pE bag3 s (.va .no (.int at_)) (.va .no (.int way)) (.va .no (.str sg)))) := R.set e3 (by show 4 < 5; decide)
  have fin : ∀ (bg : D) (s' : Str) (e : DL.Env), Bag bg → (e = pE bg s (.va .no (.int at_)) (.va .no (.int way)) (.va .no (.str sg))) → b__law_spoilt [.va (.pin bF) bag, .va .no (.str s), .un, .un, .un] = some (.rt (.str s') e) → s'.length ≤ 2 * s.length + 10 → opens s' ≤ 2 * opens s + 1 → Spoilt s (s__law_spoilt [.va (.pin bF) bag, .va .no (.str s)]) := by
    rintro bg s' e hbg rfl h l o
    exact ⟨bg, s', R.fn (n := 2) (N := 5) (body := b__law_spoilt) (args := [.va (.pin bF) bag, .va .no (.str s)]) h (by show 2 ≤ 5; decide), hbg, l, o⟩
  obtain ⟨E, hE⟩ : ∃ E : DL.Env, E = pE bag3 s (.va .no (.int at_)) (.va .no (.int way)) (.va .no (.str sg)) := ⟨_, rfl⟩
  rw [← hE] at s2
  have t0 : ∀ j : Int, (tst (lift (e2 oEq (evar 3) (cst (.int j))))) E = some (decide (way = j), E) := fun j => R.tstL (by
    refine (R.e2 (x := .int way) (y := .int j) (by rw [hE]; rfl) rfl).trans oEq_int)
  have sl1 : (esl (evar 1) (onone) (osome (evar 2))) E = some (.str (cutS s none (some at_))) := by
    rw [hE]
    exact if_pos (show s.length ≤ big by omega)
  have c1 := cut_len s none (some at_)
  have c2 := cut_opens s none (some at_)
  by_cases h0 : way = 0
  · have t := t0 0
    rw [decide_eq_true h0] at t
    exact fin bag3 (cutS s none (some at_)) E hb3 hE ((R.seq s1).trans ((R.seq s2).trans (R.seqR ((R.ifT t).trans (R.ret (R.lift sl1)))))) (by omega) (by omega)
  have n0 := t0 0
  rw [decide_eq_false h0] at n0
  by_cases h1 : way = 1
  · have t := t0 1
    rw [decide_eq_true h1] at t
    obtain ⟨bag4, p, e4, hb4, pl, po⟩ := pick_b (bag := bag3) (s := s) (x := .va .no (.int at_)) (y := .va .no (.int way)) (z := .va .no (.str sg)) hb3 hz
    have a : oAdd (.str s) (.str p) = some (.str (s ++ p)) := addS_ok (by omega)
    have r : (v2 oAdd (lift (evar 1)) pickB) E = some (.str (s ++ p), pE bag4 s (.va .no (.int at_)) (.va .no (.int way)) (.va .no (.str sg))) := by
      rw [hE]
      exact R.v2 (R.lift rfl) e4 a
    exact fin bag4 (s ++ p) _ hb4 rfl ((R.seq s1).trans ((R.seq s2).trans ((R.seq ((R.ifF n0).trans rfl)).trans (R.seqR ((R.ifT t).trans (R.ret r)))))) (by rw [strLen_append]; omega) (by rw [opens_app]; omega)
  have n1 := t0 1
  rw [decide_eq_false h1] at n1
  by_cases h2 : way = 2
  · have t := t0 2
    rw [decide_eq_true h2] at t
    have sl2 : (esl (evar 1) (osome (cst (.int 1))) (onone)) E = some (.str (cutS s (some 1) none)) := by
      rw [hE]
      exact if_pos (show s.length ≤ big by omega)
    have d1 := cut_len s (some 1) none
    have d2 := cut_opens s (some 1) none
    exact fin bag3 (cutS s (some 1) none) E hb3 hE ((R.seq s1).trans ((R.seq s2).trans ((R.seq ((R.ifF n0).trans rfl)).trans ((R.seq ((R.ifF n1).trans rfl)).trans (R.seqR ((R.ifT t).trans (R.ret (R.lift sl2)))))))) (by omega) (by omega)
  have n2 := t0 2
  rw [decide_eq_false h2] at n2
  have vi : ∃ q : Str, (vif (tst (lift (e2 oLt (evar 3) (cst (.int 5))))) (lift (evar 4)) (lift (cst (.str (PySem.Str.ofString ""))))) E = some (.str q, E) ∧ q.length ≤ 8 ∧ opens q ≤ 1 := by
    have t : (tst (lift (e2 oLt (evar 3) (cst (.int 5))))) E = some (decide (way < 5), E) := by
      rw [hE]
      rfl
    by_cases h : way < 5
    · rw [decide_eq_true h] at t
      exact ⟨sg, (R.vifT t).trans (R.lift (by rw [hE]; rfl)), sl, so⟩
    · rw [decide_eq_false h] at t
      exact ⟨Str.ofString "", (R.vifF t).trans (R.lift rfl), by decide, by decide⟩
  obtain ⟨q, eq, ql, qo⟩ := vi
  have sl3 : ∃ j : Int, (esl (evar 1) (osome (e2 oAdd (evar 2) (ecall gInt (es1 (e2 oGt (evar 3) (cst (.int 3))) (es0))))) (onone)) E = some (.str (cutS s (some j) none)) := by
    refine ⟨at_ + (if decide (3 < way) = true then 1 else 0), ?_⟩
    rw [hE]
    exact if_pos (show s.length ≤ big by omega)
  obtain ⟨j, sl3⟩ := sl3
  have d1 := cut_len s (some j) none
  have d2 := cut_opens s (some j) none
  have u1 : oAdd (.str (cutS s none (some at_))) (.str q) = some (.str (cutS s none (some at_) ++ q)) := addS_ok (by omega)
  have u2 : oAdd (.str (cutS s none (some at_) ++ q)) (.str (cutS s (some j) none)) = some (.str (cutS s none (some at_) ++ q ++ cutS s (some j) none)) := addS_ok (by rw [strLen_append]; omega)
  refine fin bag3 (cutS s none (some at_) ++ q ++ cutS s (some j) none) E hb3 hE ((R.seq s1).trans ((R.seq s2).trans ((R.seq ((R.ifF n0).trans rfl)).trans ((R.seq ((R.ifF n1).trans rfl)).trans ((R.seq ((R.ifF n2).trans rfl)).trans (R.ret (R.v2 (R.v2 (R.lift sl1) eq u1) (R.lift sl3) u2))))))) ?_ ?_
  · rw [strLen_append, strLen_append]; omega
  · rw [opens_app, opens_app]; omega
end T73

set_option Elab.async false
set_option linter.all false
set_option maxRecDepth 100000
set_option maxHeartbeats 4000000
/-! M13: the reader, in plain lists; reading a shown tree. -/
namespace T73
open PySem L2 DL
def isP (c : Nat) : Bool := c == 40 || c == 41 || c == 44
def flush (acc : List Nat) : List (List Nat) := if acc = [] then [] else [acc]
/-- the pieces of a text, acc the name that is begun -/
def toks : List Nat → List Nat → List (List Nat)
  | acc, [] => flush acc
  | acc, c :: r => if isP c = true then flush acc ++ [c] :: toks [] r else toks (acc ++ [c]) r
def nmL (l : List Nat) : Bool := decide (1 ≤ l.length) && decide (l.length ≤ 8) && l.all fun c => decide (AN c)
def leaf (l : List Nat) : Tr := .node (mk l) []
def kids : Tr → List Tr
  | .node _ ks => ks
def att : Tr → List Tr → Tr
  | .node s ks, ps => .node s (ks ++ ps)
/-- the last of a row takes the parts -/
def attL (row : List Tr) (ps : List Tr) : List Tr := match row.getLast? with
  | some t => row.dropLast ++ [att t ps]
  | none => row
/-- wants a name, the row on top, the rows below -/
structure RS where
  w : Bool
  top : List Tr
  low : List (List Tr)
def step (s : RS) (p : List Nat) : Option RS :=
  if s.w = true then (if nmL p = true ∧ ¬ (s.low = [] ∧ s.top ≠ []) then some ⟨false, s.top ++ [leaf p], s.low⟩ else none)
  else if p = [40] ∧ (s.top.getLast?.map fun t => (kids t).length) = some 0 then some ⟨true, [], s.top :: s.low⟩
  else if p = [44] ∧ s.low ≠ [] then some ⟨true, s.top, s.low⟩
  else if p = [41] ∧ s.low ≠ [] then some ⟨false, attL (s.low.headD []) s.top, s.low.tail⟩
  else none
def run : RS → List (List Nat) → Option RS
  | s, [] => some s
  | s, p :: ps => (step s p).bind fun s' => run s' ps
def fin (s : RS) : Option Tr := if s.w = false ∧ s.low = [] then s.top.head? else none
def rd (l : List Nat) : Option Tr := (run ⟨true, [], []⟩ (toks [] l)).bind fin
theorem an_notP {c : Nat} (h : AN c) : isP c = false := by
  have : ∀ c ∈ SIGNS.cps.toList, isP c = false := by decide +kernel
  exact this c h
theorem toks_name : ∀ (l acc rest : List Nat), (∀ c ∈ l, isP c = false) → toks acc (l ++ rest) = toks (acc ++ l) rest
  | [], acc, rest, _ => by simp
  | c :: l, acc, rest, h => by
    have ih := toks_name l (acc ++ [c]) rest fun x hx => h x (List.mem_cons_of_mem _ hx)
    show (if isP c = true then _ else toks (acc ++ [c]) (l ++ rest)) = _
    rw [if_neg (by rw [h c List.mem_cons_self]; exact Bool.false_ne_true), ih]
    simp
/-- what follows a name: nothing, or one of ( ) , -/
def Stop (rest : List Nat) : Prop := rest = [] ∨ ∃ c r, rest = c :: r ∧ isP c = true
theorem toks_stop {acc rest : List Nat} (h : Stop rest) : toks acc rest = flush acc ++ toks [] rest := by
  rcases h with rfl | ⟨c, r, rfl, hc⟩
  · show flush acc = flush acc ++ flush []
    simp [flush]
  · show (if isP c = true then flush acc ++ [c] :: toks [] r else _) = flush acc ++ (if isP c = true then flush [] ++ [c] :: toks [] r else _)
    rw [if_pos hc, if_pos hc]
    simp [flush]
theorem toks_nm {s rest : List Nat} (h : s ≠ []) (ha : ∀ c ∈ s, AN c) (hr : Stop rest) : toks [] (s ++ rest) = s :: toks [] rest := by
  rw [toks_name s [] rest fun c hc => an_notP (ha c hc), List.nil_append, toks_stop hr, flush, if_neg h]
  rfl
theorem toks_p {c : Nat} {rest : List Nat} (h : isP c = true) : toks [] (c :: rest) = [c] :: toks [] rest := by
  show (if isP c = true then flush [] ++ [c] :: toks [] rest else _) = _
  rw [if_pos h]
  rfl
theorem nm_nmL {s : Str} (h : Nm s) : nmL (L s) = true := by
  unfold nmL
  simp only [Bool.and_eq_true, decide_eq_true_eq, List.all_eq_true]
  exact ⟨⟨h.one, h.eight⟩, h.an⟩
theorem run_name {s : Str} {top : List Tr} {low : List (List Tr)} {rest : List Nat} (h : Nm s) (ok : low ≠ [] ∨ top = []) (hr : Stop rest) :
    run ⟨true, top, low⟩ (toks [] (L s ++ rest)) = run ⟨false, top ++ [.node s []], low⟩ (toks [] rest) := by
  have hne : L s ≠ [] := fun z => by have := h.one; rw [z] at this; cases this
  rw [toks_nm hne h.an hr]
  show ((step ⟨true, top, low⟩ (L s)).bind _) = _
  have e : step ⟨true, top, low⟩ (L s) = some ⟨false, top ++ [.node s []], low⟩ := by
    unfold step
    rw [if_pos rfl, if_pos ⟨nm_nmL h, fun z => by rcases ok with o | o; exact o z.1; exact z.2 o⟩]
    unfold leaf
    rw [mk_L]
  rw [e]
  rfl
end T73

set_option Elab.async false
set_option linter.all false
set_option maxRecDepth 100000
set_option maxHeartbeats 4000000
/-! M14: reading a shown tree gives the tree. -/
namespace T73
open PySem L2 DL
theorem step_open {s : Str} {top : List Tr} {low : List (List Tr)} : step ⟨false, top ++ [.node s []], low⟩ [40] = some ⟨true, [], (top ++ [.node s []]) :: low⟩ := by
  unfold step
  rw [if_neg Bool.false_ne_true, if_pos ⟨rfl, by simp [kids]⟩]
theorem step_comma {top : List Tr} {low : List (List Tr)} (h : low ≠ []) : step ⟨false, top, low⟩ [44] = some ⟨true, top, low⟩ := by
  unfold step
  rw [if_neg Bool.false_ne_true, if_neg (fun z => by simp at z), if_pos ⟨rfl, h⟩]
theorem step_close {s : Str} {top ps : List Tr} {low : List (List Tr)} : step ⟨false, ps, (top ++ [.node s []]) :: low⟩ [41] = some ⟨false, top ++ [.node s ps], low⟩ := by
  unfold step
  rw [if_neg Bool.false_ne_true, if_neg (fun z => by simp at z), if_neg (fun z => by simp at z), if_pos ⟨rfl, by simp⟩]
  simp [attL, att]
theorem run_cons {s s' : RS} {p : List Nat} {ps : List (List Nat)} (h : step s p = some s') : run s (p :: ps) = run s' ps := by
  show ((step s p).bind _) = _
  rw [h]
  rfl
mutual
theorem run_shown : ∀ (t : Tr), OkT t → ∀ (top : List Tr) (low : List (List Tr)) (rest : List Nat), (low ≠ [] ∨ top = []) → Stop rest → run ⟨true, top, low⟩ (toks [] (shown t ++ rest)) = run ⟨false, top ++ [t], low⟩ (toks [] rest)
  | .node s [], h, top, low, rest, ok, hr => run_name h.1 ok hr
  | .node s (k :: ks), h, top, low, rest, ok, hr => by
    have e : shown (.node s (k :: ks)) ++ rest = L s ++ (40 :: (joinL [44] (shows (k :: ks)) ++ (41 :: rest))) := by
      show L s ++ [40] ++ joinL [44] (shows (k :: ks)) ++ [41] ++ rest = _
      simp
    rw [e, run_name h.1 ok (.inr ⟨40, _, rfl, rfl⟩), toks_p rfl, run_cons step_open, run_kids (k :: ks) (by simp) h.2 [] _ (41 :: rest) (by simp) (.inr ⟨41, _, rfl, rfl⟩), toks_p rfl, run_cons step_close, List.nil_append]
theorem run_kids : ∀ (ks : List Tr), ks ≠ [] → OkTs ks → ∀ (acc : List Tr) (low : List (List Tr)) (rest : List Nat), low ≠ [] → Stop rest → run ⟨true, acc, low⟩ (toks [] (joinL [44] (shows ks) ++ rest)) = run ⟨false, acc ++ ks, low⟩ (toks [] rest)
  | [], hn, _, _, _, _, _, _ => (hn rfl).elim
  | [k], _, h, acc, low, rest, hl, hr => run_shown k h.1 acc low rest (.inl hl) hr
  | k :: k2 :: ks, _, h, acc, low, rest, hl, hr => by
    have e : joinL [44] (shows (k :: k2 :: ks)) ++ rest = shown k ++ (44 :: (joinL [44] (shows (k2 :: ks)) ++ rest)) := by
      show shown k ++ [44] ++ joinL [44] (shows (k2 :: ks)) ++ rest = _
      simp
    rw [e, run_shown k h.1 acc low _ (.inl hl) (.inr ⟨44, _, rfl, rfl⟩), toks_p rfl, run_cons (step_comma hl), run_kids (k2 :: ks) (by simp) h.2 (acc ++ [k]) low rest hl hr]
    simp
end
theorem rd_shown {t : Tr} (h : OkT t) : rd (shown t) = some t := by
  have := run_shown t h [] [] [] (.inr rfl) (.inl rfl)
  rw [List.append_nil] at this
  unfold rd
  rw [this]
  rfl
end T73

set_option Elab.async false
set_option linter.all false
set_option maxRecDepth 100000
set_option maxHeartbeats 4000000
/-! M15: pieces_of and is_name. -/
namespace T73
open PySem L2 DL
theorem oNe_str (a b : Str) : oNe (.str a) (.str b) = some (.bl (!decide (a = b))) := by
  unfold oNe eqB
  rw [if_pos (show scB (.str a) (.str b) = true from rfl)]
  show some (D.bl (!decide (V.str a = V.str b))) = _
  congr 3
  simp
theorem oEq_str (a b : Str) : oEq (.str a) (.str b) = some (.bl (decide (a = b))) := by
  unfold oEq eqB
  rw [if_pos (show scB (.str a) (.str b) = true from rfl)]
  show some (D.bl (decide (V.str a = V.str b))) = _
  congr 2
  simp
theorem mk_eq {a b : List Nat} : mk a = mk b ↔ a = b := ⟨fun h => by rw [← L_mk a, h, L_mk], fun h => by rw [h]⟩
theorem isP_in (c : Nat) : oIn (.str (mk [c])) (.str (Str.ofString "(),")) = some (.bl (isP c)) := by
  unfold oIn inB
  dsimp only
  rw [if_pos (by rw [mk_len]; rfl)]
  show some (D.bl (decide (c ∈ (Str.ofString "(),").cps.toList))) = _
  have e : (Str.ofString "(),").cps.toList = [40, 41, 44] := by decide
  rw [e]
  congr 2
  unfold isP
  by_cases h1 : c = 40
  · subst h1; rfl
  by_cases h2 : c = 41
  · subst h2; rfl
  by_cases h3 : c = 44
  · subst h3; rfl
  simp [h1, h2, h3]
def dS (l : List Nat) : D := .str (mk l)
/-- the slots of pieces_of -/
def cE (s : Str) (found : List (List Nat)) (acc : List Nat) (x : Sl) : DL.Env := [.va .no (.str s), .va (.own nF) (.lst (found.map dS)), .va .no (dS acc), x]
abbrev flushS : ES := sIf (tst (lift (e2 oNe (evar 2) (cst (.str (PySem.Str.ofString "")))))) (sApp 1 (lift (evar 2))) sNil
abbrev pieceB : ES := sIf (tst (lift (e2 oIn (evar 3) (cst (.str (PySem.Str.ofString "(),")))))) (sSeq flushS (sSeq (sApp 1 (lift (evar 3))) (sSet 2 (lift (cst (.str (PySem.Str.ofString ""))))))) (sAug 2 iAdd (lift (evar 3)))
theorem app1 {s : Str} {found : List (List Nat)} {acc p : List Nat} {x : Sl} {i : Nat} (h : (evar i) (cE s found acc x) = some (dS p)) (hz : found.length < 1000000) : (sApp 1 (lift (evar i))) (cE s found acc x) = some (.nx (cE s (found ++ [p]) acc x)) := by
  have hbig : (1000000 : Nat) < big := by decide
  unfold sApp
  rw [if_pos (by rfl), R.lift h, Option.bind_some]
  show (if nF (found.map dS).length = false ∧ (found.map dS).length < big then some (Out.nx _) else none) = _
  rw [if_pos ⟨rfl, by rw [List.length_map]; omega⟩]
  unfold cE
  rw [List.map_append]
  rfl
theorem flush_ok {s : Str} {found : List (List Nat)} {acc : List Nat} {x : Sl} (hz : found.length < 1000000) : flushS (cE s found acc x) = some (.nx (cE s (found ++ flush acc) acc x)) := by
  have t : (tst (lift (e2 oNe (evar 2) (cst (.str (PySem.Str.ofString "")))))) (cE s found acc x) = some (!decide (acc = []), cE s found acc x) := R.tstL (by
    refine (oNe_str (mk acc) (Str.ofString "")).trans ?_
    have e : Str.ofString "" = mk [] := by decide
    rw [e]
    congr 3
    simp [mk_eq])
  by_cases h : acc = []
  · rw [decide_eq_true h] at t
    rw [flush, if_pos h, List.append_nil]
    exact (R.ifF t).trans rfl
  · rw [decide_eq_false h] at t
    rw [flush, if_neg h]
    exact (R.ifT t).trans (app1 rfl hz)
theorem pieces_ok (s : Str) (hz : s.length ≤ 100000) : ∃ outs, s_pieces_of [.va .no (.str s)] = some (.ret (.lst ((toks [] (L s)).map dS)) outs) := by
  have hbig : (1000000 : Nat) < big := by decide
  have s1 : (sSetN 1 (nlst (vs0))) [.va .no (.str s), .un, .un, .un] = some (.nx [.va .no (.str s), .va (.own nF) (.lst []), .un, .un]) := rfl
  have e0 : Str.ofString "" = mk [] := by decide
  have s2 : (sSet 2 (lift (cst (.str (PySem.Str.ofString ""))))) [.va .no (.str s), .va (.own nF) (.lst []), .un, .un] = some (.nx (cE s [] [] .un)) := by
    rw [e0]
    rfl
  have it : (fun env => itS ((lift (evar 0)) env)) (cE s [] [] .un) = some ((L s).map fun c => dS [c], cE s [] [] .un) := rfl
  have lp : ∃ (found : List (List Nat)) (acc : List Nat) (x : Sl), (sFor ((fun env => itS ((lift (evar 0)) env))) (tgN 3) pieceB) (cE s [] [] .un) = some (.nx (cE s found acc x)) ∧ found ++ flush acc = toks [] (L s) ∧ found.length ≤ 200000 := by
    refine R.for (P := fun o => ∃ (found : List (List Nat)) (acc : List Nat) (x : Sl), o = some (.nx (cE s found acc x)) ∧ found ++ flush acc = toks [] (L s) ∧ found.length ≤ 200000) (it := fun env => itS ((lift (evar 0)) env)) it ?_
    refine R.loop (tgs := tgN 3) (body := pieceB) (P := fun o => ∃ (found : List (List Nat)) (acc : List Nat) (x : Sl), o = some (.nx (cE s found acc x)) ∧ found ++ flush acc = toks [] (L s) ∧ found.length ≤ 200000)
      (fun r e => ∃ (cs : List Nat) (found : List (List Nat)) (acc : List Nat) (x : Sl), r = cs.map (fun c => dS [c]) ∧ e = cE s found acc x ∧ found ++ toks acc cs = toks [] (L s) ∧ found.length + 2 * cs.length ≤ 200000 ∧ acc.length + cs.length ≤ 100000) ?_ ?_ _ _ ⟨L s, [], [], .un, rfl, rfl, rfl, (by rw [← len_L]; simp; omega), (by rw [← len_L]; simp; omega)⟩
    · rintro d r e ⟨cs, found, acc, x, hr, rfl, ht, hf, ha⟩
      match cs, hr with
      | c :: cs, hr =>
        obtain ⟨rfl, rfl⟩ : d = dS [c] ∧ r = cs.map (fun c => dS [c]) := by simpa using hr
        simp at hf ha
        refine ⟨cE s found acc (.va .no (dS [c])), rfl, .inl ?_⟩
        have t : (tst (lift (e2 oIn (evar 3) (cst (.str (PySem.Str.ofString "(),")))))) (cE s found acc (.va .no (dS [c]))) = some (isP c, cE s found acc (.va .no (dS [c]))) := R.tstL (isP_in c)
        by_cases hp : isP c = true
        · rw [hp] at t
          have ht' : found ++ (flush acc ++ [c] :: toks [] cs) = toks [] (L s) := by
            rw [← ht]
            show _ = found ++ (if isP c = true then _ else _)
            rw [if_pos hp]
          have fl : (flush acc).length ≤ 1 := by unfold flush; split <;> simp
          have a2 := app1 (s := s) (found := found ++ flush acc) (acc := acc) (p := [c]) (x := .va .no (dS [c])) (i := 3) rfl (by simp; omega)
          have a3 : (sSet 2 (lift (cst (.str (PySem.Str.ofString ""))))) (cE s (found ++ flush acc ++ [[c]]) acc (.va .no (dS [c]))) = some (.nx (cE s (found ++ flush acc ++ [[c]]) [] (.va .no (dS [c])))) := by
            rw [e0]
            rfl
          refine ⟨_, (R.ifT t).trans ((R.seq (flush_ok (by omega))).trans ((R.seq a2).trans a3)), cs, _, [], _, rfl, rfl, ?_, ?_, ?_⟩
          · rw [← ht']; simp
          · simp; omega
          · simp; omega
        · have hp' : isP c = false := by simpa using hp
          rw [hp'] at t
          have ht' : found ++ toks (acc ++ [c]) cs = toks [] (L s) := by
            rw [← ht]
            show _ = found ++ (if isP c = true then _ else _)
            rw [if_neg hp]
          have a : (sAug 2 iAdd (lift (evar 3))) (cE s found acc (.va .no (dS [c]))) = some (.nx (cE s found (acc ++ [c]) (.va .no (dS [c])))) := by
            show ((iAdd (dS acc) (dS [c])).bind _) = _
            have q : iAdd (dS acc) (dS [c]) = some (dS (acc ++ [c])) := by
              show (if (mk acc).length + (mk [c]).length ≤ big then some (D.str (mk acc ++ mk [c])) else none) = _
              rw [if_pos (by rw [mk_len, mk_len]; simp; omega), mk_app]
              rfl
            rw [q]
            rfl
          exact ⟨_, (R.ifF t).trans a, cs, found, acc ++ [c], _, rfl, rfl, ht', by omega, by simp; omega⟩
    · rintro e ⟨cs, found, acc, x, hr, rfl, ht, hf, ha⟩
      match cs, hr with
      | [], _ => exact ⟨found, acc, x, rfl, ht, by simp at hf; omega⟩
  obtain ⟨found, acc, x, h, ht, hf⟩ := lp
  have z : b_pieces_of [.va .no (.str s), .un, .un, .un] = some (.rt (.lst ((toks [] (L s)).map dS)) ((cE s (found ++ flush acc) acc x).set 1 (.va .no (.lst ((found ++ flush acc).map dS))))) := by
    refine (R.seq s1).trans ((R.seq s2).trans ((R.seq h).trans ((R.seq (flush_ok (by omega))).trans (R.ret (v := vvar 1) ?_))))
    rw [← ht]
    rfl
  exact ⟨_, R.fn (n := 1) (N := 4) (body := b_pieces_of) (args := [.va .no (.str s)]) z (by show 1 ≤ 4; decide)⟩
end T73

set_option Elab.async false
set_option linter.all false
set_option maxRecDepth 100000
set_option maxHeartbeats 4000000
/-! M16: is_name. -/
namespace T73
open PySem L2 DL
theorem is_name_ok (l : List Nat) (hz : l.length ≤ 200000) : ∃ outs, s_is_name [.va .no (dS l)] = some (.ret (.bl (nmL l)) outs) := by
  have hbig : (1000000 : Nat) < big := by decide
  have gl : (ecall gLen (es1 (evar 0) (es0))) [.va .no (dS l)] = some (.int (l.length : Nat)) := by
    show (if (mk l).length ≤ big then some (D.int ((mk l).length : Nat)) else none) = _
    rw [if_pos (by rw [mk_len]; omega), mk_len]
  have q1 : (qnot (tst (lift (eisi "str" (evar 0))))) [.va .no (dS l)] = some (false, [.va .no (dS l)]) := rfl
  have q2 : (tst (lift (e3c oLe oLe (cst (.int 1)) (ecall gLen (es1 (evar 0) (es0))) (cst (.int 8))))) [.va .no (dS l)] = some (decide (1 ≤ l.length) && decide (l.length ≤ 8), [.va .no (dS l)]) := R.tstL (by
    unfold e3c
    rw [show cst (.int 1) [.va .no (dS l)] = some (.int 1) from rfl, Option.bind_some, gl, Option.bind_some]
    by_cases h : 1 ≤ l.length
    · have e : oLe (.int 1) (.int (l.length : Nat)) = some (.bl true) := by
        show some (D.bl (decide ((1 : Int) ≤ (l.length : Nat)))) = _
        rw [decide_eq_true (by omega)]
      rw [e, decide_eq_true h]
      show some (D.bl (decide (((l.length : Nat) : Int) ≤ 8))) = _
      congr 2
      rw [Bool.true_and]
      exact decide_eq_decide.mpr (by omega)
    · have e : oLe (.int 1) (.int (l.length : Nat)) = some (.bl false) := by
        show some (D.bl (decide ((1 : Int) ≤ (l.length : Nat)))) = _
        rw [decide_eq_false (by omega)]
      rw [e, decide_eq_false h]
      rfl)
  have al : (vAllS (fun c => decide (c ∈ SIGNS.cps.toList)) (evar 0)) [.va .no (dS l)] = some (.bl (l.all fun c => decide (AN c)), [.va .no (dS l)]) := by
    show some (D.bl ((mk l).cps.toList.all _), _) = _
    rw [show (mk l).cps.toList = l from L_mk l]
    rfl
  have z : ∃ e, b_is_name [.va .no (dS l)] = some (.rt (.bl (nmL l)) e) ∧ 1 ≤ e.length := by
    unfold nmL
    cases hb : (decide (1 ≤ l.length) && decide (l.length ≤ 8)) with
    | true =>
      rw [hb] at q2
      exact ⟨_, (R.seq ((R.ifF ((R.orF q1).trans (R.not q2))).trans rfl)).trans (R.ret (by rw [Bool.true_and]; exact al)), by show 1 ≤ 1; decide⟩
    | false =>
      rw [hb] at q2
      exact ⟨_, R.seqR ((R.ifT ((R.orF q1).trans (R.not q2))).trans (R.ret (R.lift rfl))), by show 1 ≤ 1; decide⟩
  obtain ⟨e, h, he⟩ := z
  exact ⟨_, R.fn (n := 1) (N := 1) (body := b_is_name) (args := [.va .no (dS l)]) h he⟩
end T73

set_option Elab.async false
set_option linter.all false
set_option maxRecDepth 100000
set_option maxHeartbeats 4000000
/-! M17: read_tree. -/
namespace T73
open PySem L2 DL
def rowD (r : List Tr) : D := .lst (tDs r)
def rowsOf (s : RS) : List D := (s.low.reverse ++ [s.top]).map rowD
/-- the slots of read_tree -/
def rE (t : Str) (s : RS) (x y : Sl) : DL.Env := [.va .no (.str t), .va (.own aF) (.lst (rowsOf s)), .va .no (.bl s.w), x, y]
theorem rows_len (s : RS) : (rowsOf s).length = s.low.length + 1 := by simp [rowsOf]
theorem rows_last (s : RS) : (rowsOf s)[s.low.length]? = some (rowD s.top) := by
  unfold rowsOf
  rw [List.getElem?_map, List.getElem?_append_right (by simp)]
  simp
theorem rows_set (s : RS) (r : List Tr) : (rowsOf s).set s.low.length (rowD r) = rowsOf ⟨s.w, r, s.low⟩ := by
  unfold rowsOf
  rw [List.map_append, List.map_append, List.set_append_right _ _ (by simp)]
  simp
theorem rows_drop (s : RS) (r : List Tr) (low : List (List Tr)) (h : s.low = r :: low) : (rowsOf s).dropLast = rowsOf ⟨s.w, r, low⟩ := by
  unfold rowsOf
  rw [h]
  simp
end T73

set_option Elab.async false
set_option linter.all false
set_option maxRecDepth 100000
set_option maxHeartbeats 4000000
namespace T73
open PySem L2 DL
/-- what holds between the pieces -/
structure SOk (n : Nat) (s : RS) : Prop where
  top : s.w = false → s.top ≠ []
  low : ∀ r ∈ s.low, r ≠ []
  z1 : s.low.length ≤ n
  z2 : s.top.length ≤ n
  z3 : ∀ r ∈ s.low, r.length ≤ n
abbrev wantQ : DL.Env → Option (Bool × DL.Env) := qor (qnot (tst (vcallF (lenF 1 s_is_name) (vs1 (lift (evar 3)) (vs0))))) (qand (tst (lift (e2 oEq (ecall gLen (es1 (bvar 1) (es0))) (cst (.int 1))))) (tru (e2 oIx (bvar 1) (cst (.int 0)))))
theorem len_q {t : Str} {s : RS} {x y : Sl} : (ecall gLen (es1 (bvar 1) (es0))) (rE t s x y) = some (.int ((s.low.length + 1 : Nat) : Int)) := by
  show some (D.int ((rowsOf s).length : Nat)) = _
  rw [rows_len]
theorem want_q {t : Str} {s : RS} {p : List Nat} {y : Sl} (hz : p.length ≤ 200000) : wantQ (rE t s (.va .no (dS p)) y) = some (!(decide (nmL p = true ∧ ¬ (s.low = [] ∧ s.top ≠ []))), rE t s (.va .no (dS p)) y) := by
  obtain ⟨outs, hn⟩ := is_name_ok p hz
  have c : (vcallF (lenF 1 s_is_name) (vs1 (lift (evar 3)) (vs0))) (rE t s (.va .no (dS p)) y) = some (.bl (nmL p), rE t s (.va .no (dS p)) y) := R.callF (ds := [dS p]) (R.vs1 (R.lift rfl) R.vs0) rfl hn
  have q1 := R.not (R.tst c)
  cases hb : nmL p with
  | false =>
    rw [hb] at q1
    refine (R.orT q1).trans ?_
    simp
  | true =>
    rw [hb] at q1
    refine (R.orF q1).trans ?_
    have q2 : (tst (lift (e2 oEq (ecall gLen (es1 (bvar 1) (es0))) (cst (.int 1))))) (rE t s (.va .no (dS p)) y) = some (decide (((s.low.length + 1 : Nat) : Int) = 1), rE t s (.va .no (dS p)) y) := R.tstL ((R.e2 (y := .int 1) len_q rfl).trans oEq_int)
    by_cases hl : s.low = []
    · rw [decide_eq_true (by rw [hl]; rfl)] at q2
      refine (R.andT q2).trans ?_
      have e : (e2 oIx (bvar 1) (cst (.int 0))) (rE t s (.va .no (dS p)) y) = some (rowD s.top) := by
        refine (R.e2 (x := .lst (rowsOf s)) (y := .int 0) rfl rfl).trans ?_
        unfold rowsOf
        rw [hl]
        exact at0
      unfold tru
      rw [e]
      by_cases ht : s.top = []
      · simp [hl, ht, rowD, truD, tDs]
      · obtain ⟨a, b, hab⟩ := List.exists_cons_of_ne_nil ht
        simp [hl, hab, rowD, truD, tDs]
    · rw [decide_eq_false (by have := List.length_pos_iff.mpr hl; omega)] at q2
      refine (R.andF q2).trans ?_
      simp [hl]
end T73

set_option Elab.async false
set_option linter.all false
set_option maxRecDepth 100000
set_option maxHeartbeats 4000000
namespace T73
open PySem L2 DL
abbrev wantB : ES := sSeq (sIf wantQ (sRaise 0 (vs1 (lift (cst (.int 1))) (vs0))) sNil) (sSeq (sApp2 1 (cst (.int (-1))) (etup (es1 (evar 3) (es0)))) (sSet 2 (lift (cst (.bl false)))))
theorem app2_ok {t : Str} {s : RS} {p : List Nat} {y : Sl} (hz : s.top.length < 1000000) : (sApp2 1 (cst (.int (-1))) (etup (es1 (evar 3) (es0)))) (rE t s (.va .no (dS p)) y) = some (.nx (rE t ⟨s.w, s.top ++ [leaf p], s.low⟩ (.va .no (dS p)) y)) := by
  have hbig : (1000000 : Nat) < big := by decide
  unfold sApp2
  show ((ixN (rowsOf s).length (-1)).bind _) = _
  rw [rows_len, ixNlast, Option.bind_some, if_pos (by rfl), rows_last]
  rw [show asL (some (rowD s.top)) = some (tDs s.top) from rfl, Option.bind_some]
  rw [show etup (es1 (evar 3) (es0)) (rE t s (.va .no (dS p)) y) = some (.tup [dS p]) from rfl, Option.bind_some, if_pos (by rw [tDs_len]; omega)]
  have e : (D.lst (tDs s.top ++ [.tup [dS p]])) = rowD (s.top ++ [leaf p]) := by
    unfold rowD
    rw [tDs_app]
    rfl
  rw [e, rows_set]
  rfl
theorem want_step {t : Str} {s : RS} {p : List Nat} {y : Sl} (hw : s.w = true) (hz : p.length ≤ 200000) (h2 : s.top.length < 1000000) :
    (∃ s', step s p = some s' ∧ wantB (rE t s (.va .no (dS p)) y) = some (.nx (rE t s' (.va .no (dS p)) y))) ∨ (step s p = none ∧ wantB (rE t s (.va .no (dS p)) y) = some (.ex 0 [.int 1])) := by
  have q := want_q (t := t) (s := s) (p := p) (y := y) hz
  by_cases h : nmL p = true ∧ ¬ (s.low = [] ∧ s.top ≠ [])
  · rw [decide_eq_true h] at q
    refine .inl ⟨⟨false, s.top ++ [leaf p], s.low⟩, ?_, (R.seq ((R.ifF q).trans rfl)).trans ((R.seq (app2_ok h2)).trans rfl)⟩
    unfold step
    rw [if_pos hw, if_pos h]
  · rw [decide_eq_false h] at q
    refine .inr ⟨?_, R.seqX ((R.ifT q).trans rfl)⟩
    unfold step
    rw [if_pos hw, if_neg h]
end T73

set_option Elab.async false
set_option linter.all false
set_option maxRecDepth 100000
set_option maxHeartbeats 4000000
namespace T73
open PySem L2 DL
theorem is_str {t : Str} {s : RS} {p : List Nat} {y : Sl} (z : String) (q : List Nat) (hq : Str.ofString z = mk q) : (tst (lift (e2 oEq (evar 3) (cst (.str (Str.ofString z)))))) (rE t s (.va .no (dS p)) y) = some (decide (p = q), rE t s (.va .no (dS p)) y) := R.tstL (by
  refine (R.e2 (x := dS p) (y := .str (Str.ofString z)) rfl rfl).trans ((oEq_str (mk p) (Str.ofString z)).trans ?_)
  rw [hq]
  congr 2
  simp [mk_eq])
theorem deep_q {t : Str} {s : RS} {x y : Sl} : (tst (lift (e2 oGt (ecall gLen (es1 (bvar 1) (es0))) (cst (.int 1))))) (rE t s x y) = some (decide (s.low ≠ []), rE t s x y) := R.tstL (by
  refine (R.e2 (y := .int 1) len_q rfl).trans ?_
  show some (D.bl (decide ((1 : Int) < ((s.low.length + 1 : Nat) : Int)))) = _
  congr 2
  by_cases h : s.low = []
  · simp [h]
  · have := List.length_pos_iff.mpr h
    simp [h]
    omega)
end T73

set_option Elab.async false
set_option linter.all false
set_option maxRecDepth 100000
set_option maxHeartbeats 4000000
namespace T73
open PySem L2 DL
theorem at_last {α : Type} {l : List α} {a : α} (h : l.getLast? = some a) : atI l (-1) = some a := by
  have hl : l ≠ [] := fun z => by rw [z] at h; cases h
  obtain ⟨n, hn⟩ : ∃ n, l.length = n + 1 := ⟨l.length - 1, by have := List.length_pos_iff.mpr hl; omega⟩
  unfold atI
  rw [hn, ixNlast, Option.bind_some]
  rw [List.getLast?_eq_getElem?] at h
  rw [← h, hn]
  rfl
theorem last_q {t : Str} {s : RS} {x y : Sl} {u : Tr} (h : s.top.getLast? = some u) : (e2 oIx (e2 oIx (bvar 1) (cst (.int (-1)))) (cst (.int (-1)))) (rE t s x y) = some (tD u) := by
  have h1 : (e2 oIx (bvar 1) (cst (.int (-1)))) (rE t s x y) = some (rowD s.top) := by
    refine (R.e2 (x := .lst (rowsOf s)) (y := .int (-1)) rfl rfl).trans (at_last ?_)
    unfold rowsOf
    simp
  refine (R.e2 (y := .int (-1)) h1 rfl).trans (at_last ?_)
  rw [tDs_map, List.getLast?_map, h]
  rfl
theorem leaf_q {t : Str} {s : RS} {x y : Sl} {u : Tr} (h : s.top.getLast? = some u) : (tst (lift (e2 oEq (ecall gLen (es1 (e2 oIx (e2 oIx (bvar 1) (cst (.int (-1)))) (cst (.int (-1)))) (es0))) (cst (.int 1))))) (rE t s x y) = some (decide ((kids u).length = 0), rE t s x y) := R.tstL (by
  have g : (ecall gLen (es1 (e2 oIx (e2 oIx (bvar 1) (cst (.int (-1)))) (cst (.int (-1)))) (es0))) (rE t s x y) = some (.int (((kids u).length + 1 : Nat) : Int)) := by
    unfold ecall es1
    rw [last_q h]
    cases u with
    | node n ks =>
      rw [tD]
      show some (D.int ((D.str n :: tDs ks).length : Nat)) = _
      rw [List.length_cons, tDs_len]
      rfl
  refine (R.e2 (y := .int 1) g rfl).trans (oEq_int.trans ?_)
  congr 2
  exact decide_eq_decide.mpr (by omega))
end T73

set_option Elab.async false
set_option linter.all false
set_option maxRecDepth 100000
set_option maxHeartbeats 4000000
namespace T73
open PySem L2 DL
abbrev closeB : ES := sSeq (sSet 4 (vPop 1)) (sSetIx2 1 (cst (.int (-1))) (cst (.int (-1))) (lift (e2 oAdd (eIxO2 1 (cst (.int (-1))) (cst (.int (-1)))) (ecall gTuple (es1 (evar 4) (es0))))))
theorem tD_att (u : Tr) (ps : List Tr) : tD (att u ps) = .tup ((match u with | .node n ks => .str n :: tDs ks) ++ tDs ps) := by
  cases u with
  | node n ks =>
    show tD (.node n (ks ++ ps)) = _
    rw [tD, tDs_app]
    rfl
theorem close_ok {t : Str} {w : Bool} {ps r : List Tr} {low : List (List Tr)} {u : Tr} {x y : Sl} (h : r.getLast? = some u) (hz : (kids u).length + ps.length ≤ 1000000) :
    closeB (rE t ⟨w, ps, r :: low⟩ x y) = some (.nx (rE t ⟨w, attL r ps, low⟩ x (.va .no (rowD ps)))) := by
  have hbig : (1000001 : Nat) < big := by decide
  have hr : r ≠ [] := fun z => by rw [z] at h; cases h
  obtain ⟨n, hn⟩ : ∃ n, r.length = n + 1 := ⟨r.length - 1, by have := List.length_pos_iff.mpr hr; omega⟩
  have p1 : (vPop 1) (rE t ⟨w, ps, r :: low⟩ x y) = some (rowD ps, rE t ⟨w, r, low⟩ x y) := by
    show (((rowsOf ⟨w, ps, r :: low⟩)[(rowsOf ⟨w, ps, r :: low⟩).length - 1]?).map _) = _
    rw [rows_len, Nat.add_sub_cancel, rows_last]
    show some (rowD ps, _) = _
    rw [rows_drop ⟨w, ps, r :: low⟩ r low rfl]
    rfl
  have s1 : (sSet 4 (vPop 1)) (rE t ⟨w, ps, r :: low⟩ x y) = some (.nx (rE t ⟨w, r, low⟩ x (.va .no (rowD ps)))) := R.set p1 (by show 4 < 5; decide)
  have l1 : (rowsOf ⟨w, r, low⟩)[low.length]? = some (rowD r) := rows_last ⟨w, r, low⟩
  have e1 : eIxO2 1 (cst (.int (-1))) (cst (.int (-1))) (rE t ⟨w, r, low⟩ x (.va .no (rowD ps))) = some (tD u) := by
    unfold eIxO2
    show ((ixN (rowsOf ⟨w, r, low⟩).length (-1)).bind _) = _
    rw [rows_len, ixNlast, Option.bind_some, if_pos (by rfl), l1, show asL (some (rowD r)) = some (tDs r) from rfl, Option.bind_some]
    show atI (tDs r) (-1) = _
    refine at_last ?_
    rw [tDs_map, List.getLast?_map, h]
    rfl
  have a : oAdd (tD u) (.tup (tDs ps)) = some (tD (att u ps)) := by
    cases u with
    | node nm ks =>
      rw [tD_att, tD]
      refine if_pos ?_
      have hz' : ks.length + ps.length ≤ 1000000 := hz
      rw [List.length_cons, tDs_len, tDs_len]
      omega
  have v : (lift (e2 oAdd (eIxO2 1 (cst (.int (-1))) (cst (.int (-1)))) (ecall gTuple (es1 (evar 4) (es0))))) (rE t ⟨w, r, low⟩ x (.va .no (rowD ps))) = some (tD (att u ps), rE t ⟨w, r, low⟩ x (.va .no (rowD ps))) := R.lift ((R.e2 (y := .tup (tDs ps)) e1 rfl).trans a)
  refine (R.seq s1).trans ?_
  unfold sSetIx2
  rw [v, Option.bind_some]
  show ((ixN (rowsOf ⟨w, r, low⟩).length (-1)).bind _) = _
  rw [rows_len, ixNlast, Option.bind_some, if_pos (by rfl), l1, show asL (some (rowD r)) = some (tDs r) from rfl, Option.bind_some]
  show ((ixN (tDs r).length (-1)).bind _) = _
  rw [tDs_len, hn, ixNlast, Option.bind_some]
  have e : (D.lst ((tDs r).set n (tD (att u ps)))) = rowD (attL r ps) := by
    unfold rowD attL
    rw [h]
    congr 1
    obtain ⟨r', rfl⟩ : ∃ r', r = r' ++ [u] := ⟨r.dropLast, by rw [List.getLast?_eq_some_iff] at h; obtain ⟨ys, rfl⟩ := h; simp⟩
    have : r'.length = n := by simpa using hn
    rw [tDs_app, tDs_app, List.set_append_right _ _ (by rw [tDs_len]; omega), tDs_len, this]
    simp [tDs]
  rw [e]
  have q := rows_set ⟨w, r, low⟩ (attL r ps)
  show some (Out.nx ((rE t ⟨w, r, low⟩ x (.va .no (rowD ps))).set 1 (.va (.own aF) (.lst ((rowsOf ⟨w, r, low⟩).set low.length (rowD (attL r ps))))))) = _
  rw [q]
  rfl
end T73

set_option Elab.async false
set_option linter.all false
set_option maxRecDepth 100000
set_option maxHeartbeats 4000000
namespace T73
open PySem L2 DL
abbrev openB : ES := sSeq (sAppN 1 (nlst (vs0))) (sSet 2 (lift (cst (.bl true))))
theorem open_ok {t : Str} {s : RS} {x y : Sl} (hz : s.low.length < 1000000) : openB (rE t s x y) = some (.nx (rE t ⟨true, [], s.top :: s.low⟩ x y)) := by
  have hbig : (1000001 : Nat) < big := by decide
  have a : (sAppN 1 (nlst (vs0))) (rE t s x y) = some (.nx (rE t ⟨s.w, [], s.top :: s.low⟩ x y)) := by
    unfold sAppN
    rw [if_pos (by rfl)]
    rw [show nlst vs0 (rE t s x y) = some ([], rE t s x y) from rfl, Option.bind_some]
    show (if aF (rowsOf s).length = true ∧ (rowsOf s).length < big then some (Out.nx ((rE t s x y).set 1 (.va (.own aF) (.lst (rowsOf s ++ [.lst []]))))) else none) = _
    rw [if_pos ⟨rfl, by rw [rows_len]; omega⟩]
    have e : rowsOf s ++ [D.lst []] = rowsOf ⟨s.w, [], s.top :: s.low⟩ := by
      unfold rowsOf
      simp [rowD, tDs]
    rw [e]
    rfl
  exact (R.seq a).trans rfl
abbrev otherB : ES := sIf (qand (tst (lift (e2 oEq (evar 3) (cst (.str (PySem.Str.ofString "(")))))) (tst (lift (e2 oEq (ecall gLen (es1 (e2 oIx (e2 oIx (bvar 1) (cst (.int (-1)))) (cst (.int (-1)))) (es0))) (cst (.int 1))))))
  openB
  (sIf (qand (tst (lift (e2 oEq (evar 3) (cst (.str (PySem.Str.ofString ",")))))) (tst (lift (e2 oGt (ecall gLen (es1 (bvar 1) (es0))) (cst (.int 1))))))
  (sSet 2 (lift (cst (.bl true))))
  (sIf (qand (tst (lift (e2 oEq (evar 3) (cst (.str (PySem.Str.ofString ")")))))) (tst (lift (e2 oGt (ecall gLen (es1 (bvar 1) (es0))) (cst (.int 1))))))
  closeB
  (sRaise 0 (vs1 (lift (cst (.int 1))) (vs0)))))
end T73

set_option Elab.async false
set_option linter.all false
set_option maxRecDepth 100000
set_option maxHeartbeats 4000000
namespace T73
open PySem L2 DL
theorem other_step {t : Str} {s : RS} {p : List Nat} {y : Sl} {u : Tr} (hw : s.w = false) (hu : s.top.getLast? = some u) (hlow : ∀ r ∈ s.low, ∃ v, r.getLast? = some v ∧ (kids v).length + s.top.length ≤ 1000000) (hz : s.low.length < 1000000) :
    (∃ s' y', step s p = some s' ∧ otherB (rE t s (.va .no (dS p)) y) = some (.nx (rE t s' (.va .no (dS p)) y'))) ∨ (step s p = none ∧ otherB (rE t s (.va .no (dS p)) y) = some (.ex 0 [.int 1])) := by
  obtain ⟨w, top, low⟩ := s
  dsimp only at hw hu hlow hz
  subst hw
  have q1 := is_str (t := t) (s := ⟨false, top, low⟩) (p := p) (y := y) "(" [40] (by decide)
  have q2 := is_str (t := t) (s := ⟨false, top, low⟩) (p := p) (y := y) "," [44] (by decide)
  have q3 := is_str (t := t) (s := ⟨false, top, low⟩) (p := p) (y := y) ")" [41] (by decide)
  have l1 := leaf_q (t := t) (s := ⟨false, top, low⟩) (x := .va .no (dS p)) (y := y) hu
  have d1 := deep_q (t := t) (s := ⟨false, top, low⟩) (x := .va .no (dS p)) (y := y)
  by_cases h1 : p = [40]
  · subst h1
    rw [decide_eq_true rfl] at q1
    by_cases hk : (kids u).length = 0
    · rw [decide_eq_true hk] at l1
      refine .inl ⟨⟨true, [], top :: low⟩, y, ?_, (R.ifT ((R.andT q1).trans l1)).trans (open_ok hz)⟩
      unfold step
      rw [if_neg Bool.false_ne_true, if_pos ⟨rfl, by rw [hu]; simp [hk]⟩]
    · rw [decide_eq_false hk] at l1
      rw [decide_eq_false (by decide)] at q2 q3
      refine .inr ⟨?_, (R.ifF ((R.andT q1).trans l1)).trans ((R.ifF (R.andF q2)).trans ((R.ifF (R.andF q3)).trans rfl))⟩
      unfold step
      rw [if_neg Bool.false_ne_true, if_neg (fun z => hk (by have := z.2; rw [hu] at this; simpa using this)), if_neg (fun z => by simp at z), if_neg (fun z => by simp at z)]
  · rw [decide_eq_false h1] at q1
    by_cases h2 : p = [44] ∧ low ≠ []
    · obtain ⟨rfl, hl⟩ := h2
      rw [decide_eq_true rfl] at q2
      rw [decide_eq_true hl] at d1
      refine .inl ⟨⟨true, top, low⟩, y, step_comma hl, (R.ifF (R.andF q1)).trans ((R.ifT ((R.andT q2).trans d1)).trans rfl)⟩
    · by_cases h3 : p = [41] ∧ low ≠ []
      · obtain ⟨rfl, hl⟩ := h3
        rw [decide_eq_true rfl] at q3
        rw [decide_eq_false (by decide)] at q2
        rw [decide_eq_true hl] at d1
        match low, hl with
        | r :: low, _ =>
          obtain ⟨v, hv, hvz⟩ := hlow r List.mem_cons_self
          refine .inl ⟨⟨false, attL r top, low⟩, _, ?_, (R.ifF (R.andF q1)).trans ((R.ifF (R.andF q2)).trans ((R.ifT ((R.andT q3).trans d1)).trans (close_ok hv hvz)))⟩
          unfold step
          rw [if_neg Bool.false_ne_true, if_neg (fun z => by simp at z), if_neg (fun z => by simp at z), if_pos ⟨rfl, by simp⟩]
          rfl
      · have g2 : (qand (tst (lift (e2 oEq (evar 3) (cst (.str (PySem.Str.ofString ",")))))) (tst (lift (e2 oGt (ecall gLen (es1 (bvar 1) (es0))) (cst (.int 1)))))) (rE t ⟨false, top, low⟩ (.va .no (dS p)) y) = some (false, rE t ⟨false, top, low⟩ (.va .no (dS p)) y) := by
          by_cases c : p = [44]
          · rw [decide_eq_true c] at q2
            have hl : ¬ low ≠ [] := fun z => h2 ⟨c, z⟩
            rw [decide_eq_false hl] at d1
            exact (R.andT q2).trans d1
          · rw [decide_eq_false c] at q2
            exact R.andF q2
        have g3 : (qand (tst (lift (e2 oEq (evar 3) (cst (.str (PySem.Str.ofString ")")))))) (tst (lift (e2 oGt (ecall gLen (es1 (bvar 1) (es0))) (cst (.int 1)))))) (rE t ⟨false, top, low⟩ (.va .no (dS p)) y) = some (false, rE t ⟨false, top, low⟩ (.va .no (dS p)) y) := by
          by_cases c : p = [41]
          · rw [decide_eq_true c] at q3
            have hl : ¬ low ≠ [] := fun z => h3 ⟨c, z⟩
            rw [decide_eq_false hl] at d1
            exact (R.andT q3).trans d1
          · rw [decide_eq_false c] at q3
            exact R.andF q3
        refine .inr ⟨?_, (R.ifF (R.andF q1)).trans ((R.ifF g2).trans ((R.ifF g3).trans rfl))⟩
        unfold step
        rw [if_neg Bool.false_ne_true, if_neg (fun z => h1 z.1), if_neg h2, if_neg h3]
end T73

set_option Elab.async false
set_option linter.all false
set_option maxRecDepth 100000
set_option maxHeartbeats 4000000
namespace T73
open PySem L2 DL
/-- what holds behind n pieces -/
structure SI (n : Nat) (s : RS) : Prop where
  top : s.w = false → ∃ u, s.top.getLast? = some u
  low : ∀ r ∈ s.low, ∃ v, r.getLast? = some v ∧ (kids v).length = 0
  z1 : s.low.length ≤ n
  z2 : s.top.length ≤ n
  z3 : ∀ r ∈ s.low, r.length ≤ n
theorem si_step {n : Nat} {s s' : RS} {p : List Nat} (h : SI n s) (e : step s p = some s') : SI (n + 1) s' := by
  obtain ⟨w, top, low⟩ := s
  unfold step at e
  dsimp only at e
  split at e
  · split at e
    · cases e
      exact ⟨fun _ => ⟨leaf p, by simp⟩, h.low, Nat.le_succ_of_le h.z1, (by have := h.z2; simpa using this), fun r hr => Nat.le_succ_of_le (h.z3 r hr)⟩
    · cases e
  · rename_i hw
    have hw' : w = false := by simpa using hw
    obtain ⟨u, hu⟩ := h.top hw'
    split at e
    · rename_i hc
      cases e
      have hk : (kids u).length = 0 := by
        have := hc.2
        rw [show top.getLast? = some u from hu] at this
        simpa using this
      refine ⟨(fun z => by cases z), fun r hr => ?_, (by have := h.z1; simpa using this), (by simp), fun r hr => ?_⟩
      · rcases List.mem_cons.mp hr with rfl | hr
        · exact ⟨u, hu, hk⟩
        · exact h.low r hr
      · rcases List.mem_cons.mp hr with rfl | hr
        · exact Nat.le_succ_of_le h.z2
        · exact Nat.le_succ_of_le (h.z3 r hr)
    · split at e
      · cases e
        exact ⟨(fun z => by cases z), h.low, Nat.le_succ_of_le h.z1, Nat.le_succ_of_le h.z2, fun r hr => Nat.le_succ_of_le (h.z3 r hr)⟩
      · split at e
        · rename_i hc
          cases e
          match low, hc.2, h with
          | r :: low, _, h =>
            obtain ⟨v, hv, _⟩ := h.low r List.mem_cons_self
            have e1 : attL r top = r.dropLast ++ [att v top] := by
              unfold attL
              rw [hv]
            refine ⟨fun _ => ⟨att v top, ?_⟩, fun q hq => h.low q (List.mem_cons_of_mem _ hq), ?_, ?_, fun q hq => Nat.le_succ_of_le (h.z3 q (List.mem_cons_of_mem _ hq))⟩
            · show (attL r top).getLast? = _
              rw [e1]; simp
            · have := h.z1
              simp at this ⊢
              omega
            · have := h.z3 r List.mem_cons_self
              show (attL r top).length ≤ _
              rw [e1]
              simp
              omega
        · cases e
end T73

set_option Elab.async false
set_option linter.all false
set_option maxRecDepth 100000
set_option maxHeartbeats 4000000
namespace T73
open PySem L2 DL
abbrev readB : ES := sIf (tru (evar 2)) wantB otherB
theorem read_turn {t : Str} {s : RS} {p : List Nat} {x y : Sl} {n : Nat} (h : SI n s) (hn : n ≤ 400000) (hp : p.length ≤ 200000) :
    (∃ s' y', step s p = some s' ∧ readB (rE t s (.va .no (dS p)) y) = some (.nx (rE t s' (.va .no (dS p)) y'))) ∨ (step s p = none ∧ readB (rE t s (.va .no (dS p)) y) = some (.ex 0 [.int 1])) := by
  have q : tru (evar 2) (rE t s (.va .no (dS p)) y) = some (s.w, rE t s (.va .no (dS p)) y) := rfl
  have z1 := h.z1
  have z2 := h.z2
  cases hw : s.w with
  | true =>
    rw [hw] at q
    rcases want_step (t := t) (y := y) hw hp (by omega) with ⟨s', e, b⟩ | ⟨e, b⟩
    · exact .inl ⟨s', y, e, (R.ifT q).trans b⟩
    · exact .inr ⟨e, (R.ifT q).trans b⟩
  | false =>
    rw [hw] at q
    obtain ⟨u, hu⟩ := h.top hw
    have hl : ∀ r ∈ s.low, ∃ v, r.getLast? = some v ∧ (kids v).length + s.top.length ≤ 1000000 := fun r hr => by
      obtain ⟨v, hv, hk⟩ := h.low r hr
      exact ⟨v, hv, by omega⟩
    rcases other_step (t := t) (p := p) (y := y) hw hu hl (by omega) with ⟨s', y', e, b⟩ | ⟨e, b⟩
    · exact .inl ⟨s', y', e, (R.ifF q).trans b⟩
    · exact .inr ⟨e, (R.ifF q).trans b⟩
theorem read_loop {t : Str} : ∀ (ps : List (List Nat)) (s : RS) (n : Nat) (x y : Sl), SI n s → n + ps.length ≤ 400000 → (∀ p ∈ ps, p.length ≤ 200000) →
    (∃ s' x' y', run s ps = some s' ∧ SI (n + ps.length) s' ∧ loopS (tgN 3) readB (ps.map dS) (rE t s x y) = some (.nx (rE t s' x' y'))) ∨ (run s ps = none ∧ loopS (tgN 3) readB (ps.map dS) (rE t s x y) = some (.ex 0 [.int 1]))
  | [], s, n, x, y, h, _, _ => .inl ⟨s, x, y, rfl, h, rfl⟩
  | p :: ps, s, n, x, y, h, hz, hp => by
    have hz' : n + (ps.length + 1) ≤ 400000 := hz
    rcases read_turn (t := t) (x := x) (y := y) h (by omega) (hp p List.mem_cons_self) with ⟨s', y', e, b⟩ | ⟨e, b⟩
    · have go : loopS (tgN 3) readB ((p :: ps).map dS) (rE t s x y) = loopS (tgN 3) readB (ps.map dS) (rE t s' (.va .no (dS p)) y') := by
        show ((readB (rE t s (.va .no (dS p)) y)).bind _) = _
        rw [b]
        rfl
      rw [go, run_cons e]
      rcases read_loop ps s' (n + 1) (.va .no (dS p)) y' (si_step h e) (by omega) fun q hq => hp q (List.mem_cons_of_mem _ hq) with ⟨s2, x2, y2, e2, h2, b2⟩ | ⟨e2, b2⟩
      · refine .inl ⟨s2, x2, y2, e2, ?_, b2⟩
        have : n + (p :: ps).length = n + 1 + ps.length := by simp; omega
        rw [this]
        exact h2
      · exact .inr ⟨e2, b2⟩
    · refine .inr ⟨?_, ?_⟩
      · show ((step s p).bind _) = _
        rw [e]
        rfl
      · show ((readB (rE t s (.va .no (dS p)) y)).bind _) = _
        rw [b]
        rfl
end T73

set_option Elab.async false
set_option linter.all false
set_option maxRecDepth 100000
set_option maxHeartbeats 4000000
namespace T73
open PySem L2 DL
theorem flush_len (acc : List Nat) : (flush acc).length ≤ 1 ∧ ∀ p ∈ flush acc, p.length ≤ acc.length := by
  unfold flush
  split
  · simp
  · simp
theorem toks_len : ∀ (l acc : List Nat), (toks acc l).length ≤ 2 * l.length + 1 ∧ ∀ p ∈ toks acc l, p.length ≤ acc.length + l.length + 1
  | [], acc => by
    obtain ⟨a, b⟩ := flush_len acc
    exact ⟨by simpa [toks] using a, fun p hp => Nat.le_succ_of_le (b p hp)⟩
  | c :: l, acc => by
    obtain ⟨a, b⟩ := flush_len acc
    show ((if isP c = true then flush acc ++ [c] :: toks [] l else toks (acc ++ [c]) l).length ≤ _) ∧ ∀ p ∈ (if isP c = true then flush acc ++ [c] :: toks [] l else toks (acc ++ [c]) l), _
    split
    · obtain ⟨i1, i2⟩ := toks_len l []
      refine ⟨by simp; omega, fun p hp => ?_⟩
      rcases List.mem_append.mp hp with h | h
      · have := b p h
        simp; omega
      · rcases List.mem_cons.mp h with rfl | h
        · simp
        · have := i2 p h
          simp at this ⊢; omega
    · obtain ⟨i1, i2⟩ := toks_len l (acc ++ [c])
      refine ⟨by simp; omega, fun p hp => ?_⟩
      have := i2 p hp
      simp at this ⊢; omega
theorem read_tree_ok (t : Str) (hz : t.length ≤ 100000) : (∃ tr, rd (L t) = some tr ∧ s_read_tree [.va .no (.str t)] = some (.ret (tD tr) [.un])) ∨ (rd (L t) = none ∧ s_read_tree [.va .no (.str t)] = some (.exc 0 [.int 1])) := by
  obtain ⟨outs, hp⟩ := pieces_ok t hz
  obtain ⟨k1, k2⟩ := toks_len (L t) []
  rw [← len_L] at k1
  have s1 : (sSetX 1 (xlst (xs1 (xnew (nlst (vs0))) (xs0)))) [.va .no (.str t), .un, .un, .un, .un] = some (.nx [.va .no (.str t), .va (.own aF) (.lst (rowsOf ⟨true, [], []⟩)), .un, .un, .un]) := rfl
  have s2 : (sSet 2 (lift (cst (.bl true)))) [.va .no (.str t), .va (.own aF) (.lst (rowsOf ⟨true, [], []⟩)), .un, .un, .un] = some (.nx (rE t ⟨true, [], []⟩ .un .un)) := rfl
  have c : (vcallF (lenF 1 s_pieces_of) (vs1 (lift (evar 0)) (vs0))) (rE t ⟨true, [], []⟩ .un .un) = some (.lst ((toks [] (L t)).map dS), rE t ⟨true, [], []⟩ .un .un) := R.callF (ds := [.str t]) (R.vs1 (R.lift rfl) R.vs0) rfl hp
  have it : (fun env => itL ((vcallF (lenF 1 s_pieces_of) (vs1 (lift (evar 0)) (vs0))) env)) (rE t ⟨true, [], []⟩ .un .un) = some ((toks [] (L t)).map dS, rE t ⟨true, [], []⟩ .un .un) := by
    show itL _ = _
    rw [c]
    rfl
  have f : (sFor ((fun env => itL ((vcallF (lenF 1 s_pieces_of) (vs1 (lift (evar 0)) (vs0))) env))) (tgN 3) readB) (rE t ⟨true, [], []⟩ .un .un) = loopS (tgN 3) readB ((toks [] (L t)).map dS) (rE t ⟨true, [], []⟩ .un .un) :=
    R.for (P := fun o => o = loopS (tgN 3) readB ((toks [] (L t)).map dS) (rE t ⟨true, [], []⟩ .un .un)) (it := fun env => itL ((vcallF (lenF 1 s_pieces_of) (vs1 (lift (evar 0)) (vs0))) env)) it rfl
  have i0 : SI 0 ⟨true, [], []⟩ := ⟨(fun z => by cases z), (fun r hr => by cases hr), Nat.le_refl _, Nat.le_refl _, (fun r hr => by cases hr)⟩
  rcases read_loop (t := t) (toks [] (L t)) ⟨true, [], []⟩ 0 .un .un i0 (by omega) (fun p hp => by
    have := k2 p hp
    rw [← len_L] at this
    simp at this
    omega) with ⟨s', x, y, e, hs, b⟩ | ⟨e, b⟩
  · rw [← f] at b
    have hrd : rd (L t) = fin s' := by unfold rd; rw [e]; rfl
    have q1 : tru (evar 2) (rE t s' x y) = some (s'.w, rE t s' x y) := rfl
    have d1 := deep_q (t := t) (s := s') (x := x) (y := y)
    by_cases h : s'.w = false ∧ s'.low = []
    · obtain ⟨hw, hl⟩ := h
      rw [hw] at q1
      rw [decide_eq_false (show ¬ s'.low ≠ [] from fun z => z hl)] at d1
      obtain ⟨u, hu⟩ := hs.top hw
      obtain ⟨a, r, har⟩ : ∃ a r, s'.top = a :: r := List.exists_cons_of_ne_nil (fun z => by rw [z] at hu; cases hu)
      have ix : eIxO2 1 (cst (.int 0)) (cst (.int 0)) (rE t s' x y) = some (tD a) := by
        unfold eIxO2
        show ((ixN (rowsOf s').length 0).bind _) = _
        rw [rows_len, ixN0, Option.bind_some, if_pos (by rfl)]
        have : (rowsOf s')[0]? = some (rowD s'.top) := by
          have := rows_last s'
          rw [hl] at this
          exact this
        rw [this, show asL (some (rowD s'.top)) = some (tDs s'.top) from rfl, Option.bind_some, har]
        exact at0
      refine .inl ⟨a, ?_, ?_⟩
      · rw [hrd]
        unfold fin
        rw [if_pos ⟨hw, hl⟩, har]
        rfl
      · have z : b_read_tree [.va .no (.str t), .un, .un, .un, .un] = some (.rt (tD a) (rE t s' x y)) :=
          (R.seq s1).trans ((R.seq s2).trans ((R.seq b).trans ((R.seq ((R.ifF ((R.orF q1).trans d1)).trans rfl)).trans (R.ret (R.lift ix)))))
        exact R.fn (n := 1) (N := 5) (body := b_read_tree) (args := [.va .no (.str t)]) z (by show 1 ≤ 5; decide)
    · refine .inr ⟨by rw [hrd]; unfold fin; rw [if_neg h], ?_⟩
      have q : (qor (tru (evar 2)) (tst (lift (e2 oGt (ecall gLen (es1 (bvar 1) (es0))) (cst (.int 1)))))) (rE t s' x y) = some (true, rE t s' x y) := by
        cases hw : s'.w with
        | true => rw [hw] at q1; exact R.orT q1
        | false =>
          rw [hw] at q1
          rw [decide_eq_true (show s'.low ≠ [] from fun z => h ⟨hw, z⟩)] at d1
          exact (R.orF q1).trans d1
      have z : b_read_tree [.va .no (.str t), .un, .un, .un, .un] = some (.ex 0 [.int 1]) :=
        (R.seq s1).trans ((R.seq s2).trans ((R.seq b).trans (R.seqX ((R.ifT q).trans rfl))))
      exact R.fnX (n := 1) (N := 5) (body := b_read_tree) (args := [.va .no (.str t)]) z
  · rw [← f] at b
    refine .inr ⟨by unfold rd; rw [e]; rfl, ?_⟩
    have z : b_read_tree [.va .no (.str t), .un, .un, .un, .un] = some (.ex 0 [.int 1]) := (R.seq s1).trans ((R.seq s2).trans (R.seqX b))
    exact R.fnX (n := 1) (N := 5) (body := b_read_tree) (args := [.va .no (.str t)]) z
end T73

set_option Elab.async false
set_option linter.all false
set_option maxRecDepth 100000
set_option maxHeartbeats 4000000
/-! M18: _law_read. -/
namespace T73
open PySem L2 DL
theorem an_in (c : Nat) : oNin (.str (mk [c])) (.str SIGNS) = some (.bl (!decide (AN c))) := by
  unfold oNin inB
  dsimp only
  rw [if_pos (by rw [mk_len]; rfl)]
  rfl
/-- the signs that are none of a name -/
theorem lc_bad {w : D} : ∀ (l : List Nat) (acc : List D), acc.length + l.length ≤ 100 →
    lcLoop [2] (tgN 2) (tst (lift (e2 oNin (evar 2) (evar 1)))) (lift (evar 2)) (l.map fun c => dS [c]) [.va .no w, .va .no (.str SIGNS), .un] acc = some (acc ++ (l.filter fun c => !decide (AN c)).map (fun c => dS [c]), [.va .no w, .va .no (.str SIGNS), .un])
  | [], acc, _ => by simp [lcLoop]
  | c :: l, acc, hz => by
    have hb : (100 : Nat) < big := by decide
    have t : (tst (lift (e2 oNin (evar 2) (evar 1)))) [.va .no w, .va .no (.str SIGNS), .va .no (dS [c])] = some (!decide (AN c), [.va .no w, .va .no (.str SIGNS), .va .no (dS [c])]) := R.tstL (an_in c)
    by_cases h : AN c
    · rw [decide_eq_true h] at t
      have ih := lc_bad (w := w) l acc (by simp at hz ⊢; omega)
      rw [List.map_cons, lcLoop, show tgN 2 (dS [c]) [.va .no w, .va .no (.str SIGNS), .un] = some [.va .no w, .va .no (.str SIGNS), .va .no (dS [c])] from rfl, Option.bind_some, t, Option.bind_some, if_neg (by simp)]
      refine Eq.trans ih ?_
      simp [h]
    · rw [decide_eq_false h] at t
      have ih := lc_bad (w := w) l (acc ++ [dS [c]]) (by simp at hz ⊢; omega)
      rw [List.map_cons]
      refine (lcStep (e1 := [.va .no w, .va .no (.str SIGNS), .va .no (dS [c])]) (e2 := [.va .no w, .va .no (.str SIGNS), .va .no (dS [c])]) (e3 := [.va .no w, .va .no (.str SIGNS), .va .no (dS [c])]) (z := dS [c]) rfl t rfl (by simp at hz; omega)).trans (Eq.trans ih ?_)
      simp [h]
theorem lname_ok (l : List Nat) (hz : l.length ≤ 200000) : ∃ outs, s__law_is_name [.va .no (dS l)] = some (.ret (.bl (nmL l)) outs) := by
  have hbig : (1000000 : Nat) < big := by decide
  have s1 : (sSet 1 (lift (cst (.str (PySem.Str.ofString "abcdefghijklmnopqrstuvwxyzABCDEFGHIJKLMNOPQRSTUVWXYZ0123456789"))))) [.va .no (dS l), .un, .un] = some (.nx [.va .no (dS l), .va .no (.str SIGNS), .un]) := rfl
  have gl : (ecall gLen (es1 (evar 0) (es0))) [.va .no (dS l), .va .no (.str SIGNS), .un] = some (.int (l.length : Nat)) := by
    show (if (mk l).length ≤ big then some (D.int ((mk l).length : Nat)) else none) = _
    rw [if_pos (by rw [mk_len]; omega), mk_len]
  have q : (lift (e3c oLt oLt (cst (.int 0)) (ecall gLen (es1 (evar 0) (es0))) (cst (.int 9)))) [.va .no (dS l), .va .no (.str SIGNS), .un] = some (.bl (decide (1 ≤ l.length) && decide (l.length ≤ 8)), [.va .no (dS l), .va .no (.str SIGNS), .un]) := R.lift (by
    unfold e3c
    rw [show cst (.int 0) [.va .no (dS l), .va .no (.str SIGNS), .un] = some (.int 0) from rfl, Option.bind_some, gl, Option.bind_some]
    by_cases h : 1 ≤ l.length
    · have e : oLt (.int 0) (.int (l.length : Nat)) = some (.bl true) := by
        show some (D.bl (decide ((0 : Int) < (l.length : Nat)))) = _
        rw [decide_eq_true (by omega)]
      rw [e, decide_eq_true h]
      show some (D.bl (decide (((l.length : Nat) : Int) < 9))) = _
      congr 2
      rw [Bool.true_and]
      exact decide_eq_decide.mpr (by omega)
    · have e : oLt (.int 0) (.int (l.length : Nat)) = some (.bl false) := by
        show some (D.bl (decide ((0 : Int) < (l.length : Nat)))) = _
        rw [decide_eq_false (by omega)]
      rw [e, decide_eq_false h]
      rfl)
  have z : ∃ e, b__law_is_name [.va .no (dS l), .un, .un] = some (.rt (.bl (nmL l)) e) ∧ 1 ≤ e.length := by
    unfold nmL
    cases hb : (decide (1 ≤ l.length) && decide (l.length ≤ 8)) with
    | false =>
      rw [hb] at q
      refine ⟨[.va .no (dS l), .va .no (.str SIGNS), .un], (R.seq s1).trans (R.ret ?_), by show 1 ≤ 3; decide⟩
      unfold vand
      rw [q]
      rfl
    | true =>
      rw [hb] at q
      have h8 : l.length ≤ 8 := by
        have := (Bool.and_eq_true _ _).mp hb
        exact of_decide_eq_true this.2
      have lc := lc_bad (w := dS l) l [] (by simp; omega)
      have n := R.vlst (R.nlc (it := fun env => itS ((lift (evar 0)) env)) (vs := [2]) (env := [.va .no (dS l), .va .no (.str SIGNS), .un]) (e := [.va .no (dS l), .va .no (.str SIGNS), .un]) (ds := l.map fun c => dS [c]) (by
        show itS (some (dS l, _)) = _
        show some ((mk l).cps.toList.map _, _) = _
        rw [show (mk l).cps.toList = l from L_mk l]
        rfl) lc)
      have v := R.vcall (gg := gLen) (R.vs1 n R.vs0) rfl
      refine ⟨[.va .no (dS l), .va .no (.str SIGNS), .un], (R.seq s1).trans (R.ret ((R.vandT q).trans (R.v2 v (R.lift rfl) (oEq_int.trans ?_)))), by show 1 ≤ 3; decide⟩
      congr 2
      rw [Bool.true_and]
      rw [Bool.eq_iff_iff]
      simp only [decide_eq_true_eq, List.all_eq_true, List.nil_append, List.length_map]
      constructor
      · intro h c hc
        by_cases ha : AN c
        · exact ha
        · have : c ∈ l.filter fun c => !decide (AN c) := List.mem_filter.mpr ⟨hc, by simp [ha]⟩
          have := List.length_pos_of_mem this
          omega
      · intro h
        have : l.filter (fun c => !decide (AN c)) = [] := List.filter_eq_nil_iff.mpr fun c hc => by simp [h c hc]
        rw [this]
        rfl
  obtain ⟨e, h, he⟩ := z
  exact ⟨_, R.fn (n := 1) (N := 3) (body := b__law_is_name) (args := [.va .no (dS l)]) h he⟩
end T73

set_option Elab.async false
set_option linter.all false
set_option maxRecDepth 100000
set_option maxHeartbeats 4000000
/-! M18b: the law's own reader, in plain lists, beside the reader of M13. -/
namespace T73
open PySem L2 DL
structure LS where
  b : Bool
  base : List Tr
  fr : List (List Nat × List Tr)
def lows : List Nat → List (List Nat × List Tr) → List Tr → List (List Tr)
  | n, [], base => [base ++ [leaf n]]
  | n, f :: r, base => (f.2 ++ [leaf n]) :: lows f.1 r base
def toRS (s : LS) : RS := match s.fr with
  | [] => ⟨!s.b, s.base, []⟩
  | f :: r => ⟨!s.b, f.2, lows f.1 r s.base⟩
def finL (s : LS) : Option Tr := if s.b = true ∧ s.fr = [] then s.base.head? else none
def push (s : LS) (u : Tr) : LS := match s.fr with
  | [] => ⟨true, s.base ++ [u], []⟩
  | f :: r => ⟨true, s.base, (f.1, f.2 ++ [u]) :: r⟩
def opn (s : LS) (p : List Nat) : LS := ⟨false, s.base, (p, []) :: s.fr⟩
structure LI (n : Nat) (s : LS) : Prop where
  i1 : s.b = false → s.fr = [] → s.base = []
  i2 : s.fr ≠ [] → s.base = []
  i3 : s.b = true → s.fr = [] → ∃ u, s.base = [u]
  i4 : s.b = true → ∀ f r, s.fr = f :: r → f.2 ≠ []
  z1 : s.fr.length ≤ n
  z2 : s.base.length ≤ n
  z3 : ∀ f ∈ s.fr, f.2.length ≤ n
theorem lows_ne (n : List Nat) (r : List (List Nat × List Tr)) (base : List Tr) : lows n r base ≠ [] := by
  cases r <;> simp [lows]
theorem rs_leaf {n : Nat} {s : LS} {p : List Nat} (h : LI n s) (hb : s.b = false) (hp : nmL p = true) : step (toRS s) p = some (toRS (push s (leaf p))) := by
  obtain ⟨b, base, fr⟩ := s
  dsimp only at hb
  subst hb
  cases fr with
  | nil =>
    have h1 : base = [] := h.i1 rfl rfl
    subst h1
    simp [toRS, push, step, hp]
  | cons f r => simp [toRS, push, step, hp, lows_ne]
theorem rs_open {n : Nat} {s : LS} {p : List Nat} {ps : List (List Nat)} (h : LI n s) (hb : s.b = false) (hp : nmL p = true) : run (toRS s) (p :: [40] :: ps) = run (toRS (opn s p)) ps := by
  obtain ⟨b, base, fr⟩ := s
  dsimp only at hb
  subst hb
  cases fr with
  | nil =>
    have h1 : base = [] := h.i1 rfl rfl
    subst h1
    have e1 : step (toRS ⟨false, [], []⟩) p = some ⟨false, [] ++ [leaf p], []⟩ := by simp [toRS, step, hp]
    rw [run_cons e1]
    exact run_cons step_open
  | cons f r =>
    have e1 : step (toRS ⟨false, base, f :: r⟩) p = some ⟨false, f.2 ++ [leaf p], lows f.1 r base⟩ := by simp [toRS, step, hp, lows_ne]
    rw [run_cons e1]
    exact run_cons step_open
theorem rs_comma {s : LS} (hb : s.b = true) (hf : s.fr ≠ []) : step (toRS s) [44] = some (toRS ⟨false, s.base, s.fr⟩) := by
  obtain ⟨b, base, fr⟩ := s
  dsimp only at hb hf
  subst hb
  cases fr with
  | nil => exact (hf rfl).elim
  | cons f r => exact step_comma (lows_ne f.1 r base)
theorem attL_leaf (row ks : List Tr) (n : List Nat) : attL (row ++ [leaf n]) ks = row ++ [.node (mk n) ks] := by
  simp [attL, att, leaf]
theorem rs_close {base : List Tr} {f : List Nat × List Tr} {r : List (List Nat × List Tr)} : step (toRS ⟨true, base, f :: r⟩) [41] = some (toRS (push ⟨true, base, r⟩ (.node (mk f.1) f.2))) := by
  show step ⟨false, f.2, lows f.1 r base⟩ [41] = _
  unfold step
  rw [if_neg Bool.false_ne_true, if_neg (fun z => by simp at z), if_neg (fun z => by simp at z), if_pos ⟨rfl, lows_ne f.1 r base⟩]
  cases r with
  | nil =>
    show some (RS.mk false (attL (base ++ [leaf f.1]) f.2) []) = _
    rw [attL_leaf]
    rfl
  | cons g r =>
    show some (RS.mk false (attL (g.2 ++ [leaf f.1]) f.2) (lows g.1 r base)) = _
    rw [attL_leaf]
    rfl
theorem rs_bad {s : LS} {p : List Nat} (hb : s.b = true) (h40 : p = [40] → ∀ u, (toRS s).top.getLast? = some u → kids u ≠ []) (h44 : ¬ (p = [44] ∧ s.fr ≠ [])) (h41 : ¬ (p = [41] ∧ s.fr ≠ [])) : step (toRS s) p = none := by
  have hw : (toRS s).w = false := by
    unfold toRS
    split <;> simp [hb]
  have hl : (toRS s).low ≠ [] → s.fr ≠ [] := by
    intro z q
    apply z
    unfold toRS
    rw [q]
  unfold step
  rw [hw, if_neg Bool.false_ne_true, if_neg ?_, if_neg (fun z => h44 ⟨z.1, hl z.2⟩), if_neg (fun z => h41 ⟨z.1, hl z.2⟩)]
  rintro ⟨z1, z2⟩
  obtain ⟨u, hu, hk⟩ := Option.map_eq_some_iff.mp z2
  exact h40 z1 u hu (List.length_eq_zero_iff.mp hk)
theorem rs_fin {s : LS} : fin (toRS s) = finL s := by
  obtain ⟨b, base, fr⟩ := s
  cases fr with
  | nil => cases b <;> simp [toRS, fin, finL]
  | cons f r => simp [toRS, fin, finL, lows_ne]
theorem li_leaf {n : Nat} {s : LS} {u : Tr} (h : LI n s) (hb : s.b = false) : LI (n + 1) (push s u) := by
  obtain ⟨b, base, fr⟩ := s
  dsimp only at hb
  subst hb
  cases fr with
  | nil =>
    have h1 : base = [] := h.i1 rfl rfl
    subst h1
    exact ⟨(fun z => by cases z), (fun z => (z rfl).elim), (fun _ _ => ⟨u, rfl⟩), (fun _ f r z => by cases z), Nat.zero_le _, (by show 1 ≤ n + 1; omega), (fun f hf => by cases hf)⟩
  | cons f r =>
    have h2 : base = [] := h.i2 (by simp)
    subst h2
    refine ⟨(fun z => by cases z), (fun _ => rfl), (fun _ z => by cases z), (fun _ g r' z => ?_), (by have := h.z1; simp at this; show r.length + 1 ≤ _; omega), Nat.zero_le _, fun g hg => ?_⟩
    · injection z with z1 z2
      subst z1
      simp
    · rcases List.mem_cons.mp hg with rfl | hg
      · have := h.z3 f List.mem_cons_self
        simp; omega
      · exact Nat.le_succ_of_le (h.z3 g (List.mem_cons_of_mem _ hg))
theorem li_open {n : Nat} {s : LS} {p : List Nat} (h : LI n s) (hb : s.b = false) : LI (n + 1) (opn s p) := by
  have hbase : s.base = [] := by
    by_cases hf : s.fr = []
    · exact h.i1 hb hf
    · exact h.i2 hf
  refine ⟨(fun _ z => by cases z), (fun _ => hbase), (fun z => by cases z), (fun z => by cases z), (by have := h.z1; show s.fr.length + 1 ≤ _; omega), (Nat.le_succ_of_le h.z2), fun g hg => ?_⟩
  rcases List.mem_cons.mp hg with rfl | hg
  · exact Nat.zero_le _
  · exact Nat.le_succ_of_le (h.z3 g hg)
theorem li_comma {n : Nat} {s : LS} (h : LI n s) (hf : s.fr ≠ []) : LI (n + 1) ⟨false, s.base, s.fr⟩ :=
  ⟨(fun _ z => (hf z).elim), (fun _ => h.i2 hf), (fun z => by cases z), (fun z => by cases z), Nat.le_succ_of_le h.z1, Nat.le_succ_of_le h.z2, fun g hg => Nat.le_succ_of_le (h.z3 g hg)⟩
theorem li_close {n : Nat} {base : List Tr} {f : List Nat × List Tr} {r : List (List Nat × List Tr)} {u : Tr} (h : LI n ⟨true, base, f :: r⟩) : LI (n + 1) (push ⟨true, base, r⟩ u) := by
  have h2 : base = [] := h.i2 (by simp)
  subst h2
  cases r with
  | nil => exact ⟨(fun z => by cases z), (fun z => (z rfl).elim), (fun _ _ => ⟨u, rfl⟩), (fun _ f r z => by cases z), Nat.zero_le _, (by show 1 ≤ n + 1; omega), (fun f hf => by cases hf)⟩
  | cons g r =>
    refine ⟨(fun z => by cases z), (fun _ => rfl), (fun _ z => by cases z), (fun _ g r' z => ?_), (by have := h.z1; simp at this; show r.length + 1 ≤ _; omega), Nat.zero_le _, fun q hq => ?_⟩
    · injection z with z1 z2
      subst z1
      simp
    · rcases List.mem_cons.mp hq with rfl | hq
      · have := h.z3 g (List.mem_cons_of_mem _ List.mem_cons_self)
        simp; omega
      · exact Nat.le_succ_of_le (h.z3 q (List.mem_cons_of_mem _ (List.mem_cons_of_mem _ hq)))
theorem push_last {s : LS} {u v : Tr} (h : (toRS (push s u)).top.getLast? = some v) : v = u := by
  unfold push at h
  split at h <;> simp [toRS] at h <;> exact h.symm
/-! the pieces of a text that goes wrong -/
theorem toks_pre : ∀ (l acc : List Nat), acc ≠ [] → ∃ x ps, toks acc l = (acc ++ x) :: ps
  | [], acc, h => ⟨[], [], by simp [toks, flush, h]⟩
  | c :: l, acc, h => by
    by_cases hc : isP c = true
    · exact ⟨[], [c] :: toks [] l, by simp [toks, flush, h, hc]⟩
    · obtain ⟨x, ps, e⟩ := toks_pre l (acc ++ [c]) (by simp)
      exact ⟨c :: x, ps, by
        show (if isP c = true then _ else toks (acc ++ [c]) l) = _
        rw [if_neg hc, e]
        simp⟩
theorem nm_long {p x : List Nat} (h : 8 < p.length) : nmL (p ++ x) = false := by
  unfold nmL
  rw [decide_eq_false (show ¬ (p ++ x).length ≤ 8 by simp; omega)]
  simp
theorem nm_sign {p x : List Nat} {c : Nat} (hc : c ∈ p) (h : ¬ AN c) : nmL (p ++ x) = false := by
  cases hb : nmL (p ++ x) with
  | false => rfl
  | true =>
    unfold nmL at hb
    simp only [Bool.and_eq_true, decide_eq_true_eq, List.all_eq_true] at hb
    exact (h (hb.2 c (List.mem_append_left _ hc))).elim
theorem run_bad {s : RS} {p : List Nat} {ps : List (List Nat)} (h : step s p = none) : (run s (p :: ps)).bind fin = none := by
  show ((step s p).bind _).bind _ = _
  rw [h]
  rfl
theorem step_noname {s : RS} {p : List Nat} (hw : s.w = true) (h : nmL p = false) : step s p = none := by
  unfold step
  rw [if_pos hw, if_neg (fun z => by rw [h] at z; exact Bool.false_ne_true z.1)]
/-- a text that does not begin with a name of one to eight signs -/
theorem bad_name {s : RS} {p r : List Nat} (hw : s.w = true) (hp : ∀ c ∈ p, AN c) (hs : p.length = 9 ∨ p = [] ∧ ∃ c r', r = c :: r' ∧ ¬ AN c) : (run s (toks [] (p ++ r))).bind fin = none := by
  rcases hs with h9 | ⟨rfl, c, r', rfl, hc⟩
  · rw [toks_name p [] r fun c hc => an_notP (hp c hc), List.nil_append]
    obtain ⟨x, ps, e⟩ := toks_pre r p (fun z => by rw [z] at h9; cases h9)
    rw [e]
    exact run_bad (step_noname hw (nm_long (by omega)))
  · rw [List.nil_append]
    by_cases hq : isP c = true
    · rw [toks_p hq]
      refine run_bad (step_noname hw ?_)
      have := nm_sign (p := [c]) (x := []) (List.mem_singleton.mpr rfl) hc
      simpa using this
    · obtain ⟨x, ps, e⟩ := toks_pre r' [c] (by simp)
      have e1 : toks [] (c :: r') = toks [c] r' := by
        show (if isP c = true then _ else toks ([] ++ [c]) r') = _
        rw [if_neg hq]
        rfl
      rw [e1, e]
      exact run_bad (step_noname hw (nm_sign (List.mem_singleton.mpr rfl) hc))
/-- a name with another sign behind it -/
theorem bad_after {s : RS} {p r : List Nat} {c : Nat} (hw : s.w = true) (hp : ∀ c ∈ p, AN c) (h1 : isP c = false) (h2 : ¬ AN c) : (run s (toks [] (p ++ c :: r))).bind fin = none := by
  rw [toks_name p [] (c :: r) fun c hc => an_notP (hp c hc), List.nil_append]
  have e1 : toks p (c :: r) = toks (p ++ [c]) r := by
    show (if isP c = true then _ else toks (p ++ [c]) r) = _
    rw [if_neg (by rw [h1]; exact Bool.false_ne_true)]
  obtain ⟨x, ps, e⟩ := toks_pre r (p ++ [c]) (by simp)
  rw [e1, e]
  exact run_bad (step_noname hw (nm_sign (c := c) (by simp) h2))
/-- another sign where a name has ended -/
theorem bad_turn {s : LS} {c : Nat} {r : List Nat} (hb : s.b = true) (hq : c = 40 → ∀ u, (toRS s).top.getLast? = some u → kids u ≠ []) (h44 : ¬ (c = 44 ∧ s.fr ≠ [])) (h41 : ¬ (c = 41 ∧ s.fr ≠ [])) : (run (toRS s) (toks [] (c :: r))).bind fin = none := by
  by_cases hp : isP c = true
  · rw [toks_p hp]
    refine run_bad (rs_bad hb (fun z => hq (by simpa using z)) (fun z => h44 ⟨by simpa using z.1, z.2⟩) (fun z => h41 ⟨by simpa using z.1, z.2⟩))
  · obtain ⟨x, ps, e⟩ := toks_pre r [c] (by simp)
    have e1 : toks [] (c :: r) = toks [c] r := by
      show (if isP c = true then _ else toks ([] ++ [c]) r) = _
      rw [if_neg hp]
      rfl
    rw [e1, e]
    have n40 : c ≠ 40 := fun z => hp (by rw [z]; rfl)
    have n41 : c ≠ 41 := fun z => hp (by rw [z]; rfl)
    have n44 : c ≠ 44 := fun z => hp (by rw [z]; rfl)
    refine run_bad (rs_bad hb (fun z => ?_) (fun z => ?_) (fun z => ?_))
    · have z := z; simp at z; exact (n40 z.1).elim
    · have z := z.1; simp at z; exact (n44 z.1).elim
    · have z := z.1; simp at z; exact (n41 z.1).elim
/-- how far a name goes, nine signs at most -/
theorem scan_split : ∀ (m : Nat) (rest : List Nat), ∃ p r, rest = p ++ r ∧ (∀ c ∈ p, AN c) ∧ (p.length = m ∨ p.length < m ∧ (r = [] ∨ ∃ c r', r = c :: r' ∧ ¬ AN c))
  | 0, rest => ⟨[], rest, rfl, (fun c hc => by cases hc), .inl rfl⟩
  | m + 1, [] => ⟨[], [], rfl, (fun c hc => by cases hc), .inr ⟨Nat.succ_pos _, .inl rfl⟩⟩
  | m + 1, c :: rest => by
    by_cases h : AN c
    · obtain ⟨p, r, e, h1, h2⟩ := scan_split m rest
      refine ⟨c :: p, r, by rw [e]; rfl, fun x hx => ?_, ?_⟩
      · rcases List.mem_cons.mp hx with rfl | hx
        · exact h
        · exact h1 x hx
      · rcases h2 with h2 | ⟨h2, h3⟩
        · exact .inl (by simp [h2])
        · exact .inr ⟨by simp; omega, h3⟩
    · exact ⟨[], c :: rest, rfl, (fun c hc => by cases hc), .inr ⟨Nat.succ_pos _, .inr ⟨c, rest, rfl, h⟩⟩⟩
end T73

set_option Elab.async false
set_option linter.all false
set_option maxRecDepth 100000
set_option maxHeartbeats 4000000
/-! M18c: the slots of _law_read and its steps. -/
namespace T73
open PySem L2 DL
def frD (f : List Nat × List Tr) : D := .lst (dS f.1 :: tDs f.2)
def heapOf (s : LS) : List D := .lst (tDs s.base) :: s.fr.reverse.map frD
def topL (s : LS) : List D := match s.fr with
  | [] => tDs s.base
  | f :: _ => dS f.1 :: tDs f.2
def lE (t : Str) (s : LS) (k : Nat) (x4 x5 x6 x7 : Sl) : DL.Env := [.va .no (.str t), .va (.own aF) (.lst (heapOf s)), .va .no (.int ((k : Nat) : Int)), .va .no (.bl s.b), x4, x5, x6, x7]
theorem heap_len (s : LS) : (heapOf s).length = s.fr.length + 1 := by simp [heapOf]
theorem heap_last (s : LS) : (heapOf s)[s.fr.length]? = some (.lst (topL s)) := by
  obtain ⟨b, base, fr⟩ := s
  cases fr with
  | nil => rfl
  | cons f r =>
    show (D.lst (tDs base) :: (f :: r).reverse.map frD)[r.length + 1]? = _
    rw [List.getElem?_cons_succ, List.getElem?_map, List.reverse_cons, List.getElem?_append_right (by simp)]
    simp [topL, frD]
theorem heap_push (s : LS) (u : Tr) : (heapOf s).set s.fr.length (.lst (topL s ++ [tD u])) = heapOf (push s u) := by
  obtain ⟨b, base, fr⟩ := s
  cases fr with
  | nil =>
    show [D.lst (tDs base ++ [tD u])] = [D.lst (tDs (base ++ [u]))]
    rw [tDs_app]
    rfl
  | cons f r =>
    show (D.lst (tDs base) :: (f :: r).reverse.map frD).set (r.length + 1) _ = D.lst (tDs base) :: ((f.1, f.2 ++ [u]) :: r).reverse.map frD
    rw [List.set_cons_succ, List.reverse_cons, List.reverse_cons, List.map_append, List.map_append, List.set_append_right _ _ (by simp)]
    simp [topL, frD, tDs_app, tDs]
theorem heap_open (s : LS) (p : List Nat) : heapOf s ++ [.lst [dS p]] = heapOf (opn s p) := by
  unfold heapOf opn
  simp [frD, tDs]
theorem heap_pop (b : Bool) (base : List Tr) (f : List Nat × List Tr) (r : List (List Nat × List Tr)) : (heapOf ⟨b, base, f :: r⟩).dropLast = heapOf ⟨b, base, r⟩ := by
  unfold heapOf
  simp
  rw [← List.cons_append, List.dropLast_concat]
theorem topL_len {n : Nat} {s : LS} (h : LI n s) : (topL s).length ≤ n + 1 := by
  obtain ⟨b, base, fr⟩ := s
  cases fr with
  | nil => have := h.z2; show (tDs base).length ≤ _; rw [tDs_len]; exact Nat.le_succ_of_le this
  | cons f r =>
    have := h.z3 f List.mem_cons_self
    show (dS f.1 :: tDs f.2).length ≤ _
    rw [List.length_cons, tDs_len]
    omega
section
variable {t : Str} {s : LS} {k j : Nat} {x4 x5 x6 x7 : Sl}
theorem ll_text (hz : t.length ≤ 100000) : (ecall gLen (es1 (evar 0) (es0))) (lE t s k x4 x5 x6 x7) = some (.int (((L t).length : Nat) : Int)) := by
  have hbig : (100000 : Nat) < big := by decide
  rw [← len_L]
  exact if_pos (by omega)
theorem ll_heap : (ecall gLen (es1 (bvar 1) (es0))) (lE t s k x4 x5 x6 x7) = some (.int ((s.fr.length + 1 : Nat) : Int)) := by
  show some (D.int ((heapOf s).length : Nat)) = _
  rw [heap_len]
theorem ll_deep : (tst (lift (e2 oGt (ecall gLen (es1 (bvar 1) (es0))) (cst (.int 1))))) (lE t s k x4 x5 x6 x7) = some (decide (s.fr ≠ []), lE t s k x4 x5 x6 x7) := R.tstL (by
  refine (R.e2 (y := .int 1) ll_heap rfl).trans ?_
  show some (D.bl (decide ((1 : Int) < ((s.fr.length + 1 : Nat) : Int)))) = _
  congr 2
  by_cases h : s.fr = []
  · simp [h]
  · have := List.length_pos_iff.mpr h
    simp [h]
    omega)
theorem lstr_ix {pre r : List Nat} {c : Nat} (hz : t.length ≤ 100000) (ht : L t = pre ++ c :: r) : oIx (.str t) (.int ((pre.length : Nat) : Int)) = some (dS [c]) := by
  have hbig : (100000 : Nat) < big := by decide
  show (if t.length ≤ big then (atI t.cps.toList ((pre.length : Nat) : Int)).map fun c => D.str ⟨#[c]⟩ else none) = _
  rw [if_pos (by omega)]
  have e : atI t.cps.toList ((pre.length : Nat) : Int) = some c := by
    rw [show t.cps.toList = pre ++ c :: r from ht]
    unfold atI ixN
    rw [if_pos (by omega), if_pos (by simp; omega), Option.bind_some, Int.toNat_natCast]
    simp
  rw [e]
  rfl
theorem cut_mid {pre m r : List Nat} (ht : L t = pre ++ (m ++ r)) {hi : Int} (hh : hi = ((pre.length + m.length : Nat) : Int)) : cutS t (some ((pre.length : Nat) : Int)) (some hi) = mk m := by
  have e : L (cutS t (some ((pre.length : Nat) : Int)) (some hi)) = m := by
    show L (mk _) = _
    rw [L_mk]
    subst hh
    show ((L t).drop (HT.sIx (L t).length 0 _)).take (HT.sIx (L t).length (L t).length _ - HT.sIx (L t).length 0 _) = m
    rw [HT.sIx_nat, HT.sIx_nat, ht]
    have l : (pre ++ (m ++ r)).length = pre.length + m.length + r.length := by simp; omega
    rw [l, Nat.min_eq_left (by omega), Nat.min_eq_left (by omega), Nat.add_sub_cancel_left, List.drop_left, List.take_left]
  exact ext_L (by rw [e, L_mk])
theorem cut_next {pre r : List Nat} (ht : L t = pre ++ r) : cutS t (some ((pre.length : Nat) : Int)) (some ((pre.length + 1 : Nat) : Int)) = mk (r.take 1) := by
  have e : L (cutS t (some ((pre.length : Nat) : Int)) (some ((pre.length + 1 : Nat) : Int))) = r.take 1 := by
    show L (mk _) = _
    rw [L_mk]
    show ((L t).drop (HT.sIx (L t).length 0 _)).take (HT.sIx (L t).length (L t).length _ - HT.sIx (L t).length 0 _) = _
    rw [HT.sIx_nat, HT.sIx_nat, ht]
    have l : (pre ++ r).length = pre.length + r.length := by simp
    rw [l, Nat.min_eq_left (show pre.length ≤ pre.length + r.length by omega), List.drop_left]
    cases r with
    | nil => simp
    | cons c r =>
      rw [Nat.min_eq_left (by simp), Nat.add_sub_cancel_left]
  exact ext_L (by rw [e, L_mk])
end
end T73

set_option Elab.async false
set_option linter.all false
set_option maxRecDepth 100000
set_option maxHeartbeats 4000000
/-! M18d: how far the name goes. -/
namespace T73
open PySem L2 DL
section
variable {t : Str} {s : LS} {k : Nat} {x4 x5 x6 x7 : Sl}
abbrev scanB : ES := sIf (qand (tst (lift (e2 oLt (evar 5) (ecall gLen (es1 (evar 0) (es0)))))) (tst (vcallF (lenF 1 s__law_is_name) (vs1 (lift (e2 oIx (evar 0) (evar 5))) (vs0))))) (sSet 5 (lift (e2 oAdd (evar 5) (cst (.int 1))))) (sNil)
def hdAN : List Nat → Bool
  | [] => false
  | c :: _ => decide (AN c)
theorem nm_one (c : Nat) : nmL [c] = decide (AN c) := by simp [nmL]
theorem scan_cond {pre rest : List Nat} (hz : t.length ≤ 100000) (ht : L t = pre ++ rest) : (qand (tst (lift (e2 oLt (evar 5) (ecall gLen (es1 (evar 0) (es0)))))) (tst (vcallF (lenF 1 s__law_is_name) (vs1 (lift (e2 oIx (evar 0) (evar 5))) (vs0))))) (lE t s k x4 (.va .no (.int ((pre.length : Nat) : Int))) x6 x7) = some (hdAN rest, lE t s k x4 (.va .no (.int ((pre.length : Nat) : Int))) x6 x7) := by
  have q1 : (tst (lift (e2 oLt (evar 5) (ecall gLen (es1 (evar 0) (es0)))))) (lE t s k x4 (.va .no (.int ((pre.length : Nat) : Int))) x6 x7) = some (decide (((pre.length : Nat) : Int) < (((L t).length : Nat) : Int)), lE t s k x4 (.va .no (.int ((pre.length : Nat) : Int))) x6 x7) := R.tstL ((R.e2 (x := .int ((pre.length : Nat) : Int)) rfl (ll_text hz)).trans rfl)
  cases rest with
  | nil =>
    rw [decide_eq_false (by rw [ht]; simp)] at q1
    exact R.andF q1
  | cons c r =>
    rw [decide_eq_true (by rw [ht]; simp; omega)] at q1
    refine (R.andT q1).trans ?_
    obtain ⟨outs, hn⟩ := lname_ok [c] (by simp)
    have i : (e2 oIx (evar 0) (evar 5)) (lE t s k x4 (.va .no (.int ((pre.length : Nat) : Int))) x6 x7) = some (dS [c]) := (R.e2 (x := .str t) (y := .int ((pre.length : Nat) : Int)) rfl rfl).trans (lstr_ix hz ht)
    have v : (vcallF (lenF 1 s__law_is_name) (vs1 (lift (e2 oIx (evar 0) (evar 5))) (vs0))) (lE t s k x4 (.va .no (.int ((pre.length : Nat) : Int))) x6 x7) = some (.bl (nmL [c]), lE t s k x4 (.va .no (.int ((pre.length : Nat) : Int))) x6 x7) := R.callF (ds := [dS [c]]) (R.vs1 (R.lift i) R.vs0) rfl hn
    rw [nm_one] at v
    exact R.tst v
theorem scan_loop (hz : t.length ≤ 100000) : ∀ (its : List D) (pre p r : List Nat) (x6 : Sl), L t = pre ++ (p ++ r) → (∀ c ∈ p, AN c) → (p.length = its.length ∨ p.length < its.length ∧ (r = [] ∨ ∃ c r', r = c :: r' ∧ ¬ AN c)) →
    ∃ x6', loopS (tgN 6) scanB its (lE t s k x4 (.va .no (.int ((pre.length : Nat) : Int))) x6 x7) = some (.nx (lE t s k x4 (.va .no (.int ((pre.length + p.length : Nat) : Int))) x6' x7))
  | [], pre, p, r, x6, ht, hp, hs => by
    have hp0 : p = [] := by
      rcases hs with h | h
      · exact List.length_eq_zero_iff.mp h
      · exact (Nat.not_lt_zero _ h.1).elim
    subst hp0
    exact ⟨x6, rfl⟩
  | d :: its, pre, [], r, x6, ht, hp, hs => by
    have hr : r = [] ∨ ∃ c r', r = c :: r' ∧ ¬ AN c := by
      rcases hs with h | h
      · cases h
      · exact h.2
    have q := scan_cond (s := s) (k := k) (x4 := x4) (x6 := .va .no d) (x7 := x7) hz (pre := pre) (rest := r) ht
    have q0 : hdAN r = false := by
      rcases hr with rfl | ⟨c, r', rfl, hc⟩
      · rfl
      · exact decide_eq_false hc
    rw [q0] at q
    have b : scanB (lE t s k x4 (.va .no (.int ((pre.length : Nat) : Int))) (.va .no d) x7) = some (.nx (lE t s k x4 (.va .no (.int ((pre.length : Nat) : Int))) (.va .no d) x7)) := (R.ifF q).trans rfl
    obtain ⟨x6', ih⟩ := scan_loop hz its pre [] r (.va .no d) ht hp (by
      by_cases h0 : its.length = 0
      · exact .inl h0.symm
      · exact .inr ⟨Nat.pos_of_ne_zero h0, hr⟩)
    refine ⟨x6', ?_⟩
    show ((scanB (lE t s k x4 (.va .no (.int ((pre.length : Nat) : Int))) (.va .no d) x7)).bind _) = _
    rw [b]
    exact ih
  | d :: its, pre, c :: p, r, x6, ht, hp, hs => by
    have q := scan_cond (s := s) (k := k) (x4 := x4) (x6 := .va .no d) (x7 := x7) hz (pre := pre) (rest := c :: (p ++ r)) ht
    have q0 : decide (AN c) = true := decide_eq_true (hp c List.mem_cons_self)
    have q : _ = some (decide (AN c), _) := q
    rw [q0] at q
    have b : scanB (lE t s k x4 (.va .no (.int ((pre.length : Nat) : Int))) (.va .no d) x7) = some (.nx (lE t s k x4 (.va .no (.int (((pre ++ [c]).length : Nat) : Int))) (.va .no d) x7)) := (R.ifT q).trans (by
      rw [List.length_append]
      rfl)
    obtain ⟨x6', ih⟩ := scan_loop hz its (pre ++ [c]) p r (.va .no d) (by rw [ht]; simp) (fun x hx => hp x (List.mem_cons_of_mem _ hx)) (by
      rcases hs with h | h
      · exact .inl (by simpa using h)
      · exact .inr ⟨by simpa using h.1, h.2⟩)
    refine ⟨x6', ?_⟩
    show ((scanB (lE t s k x4 (.va .no (.int ((pre.length : Nat) : Int))) (.va .no d) x7)).bind _) = _
    rw [b]
    have e : pre.length + (c :: p).length = (pre ++ [c]).length + p.length := by simp; omega
    rw [e]
    exact ih
end
end T73

set_option Elab.async false
set_option linter.all false
set_option maxRecDepth 100000
set_option maxHeartbeats 4000000
/-! M18e: a turn in which a name is wanted. -/
namespace T73
open PySem L2 DL
abbrev slN : EP1 := esl (evar 0) (osome (evar 2)) (osome (evar 5))
abbrev nextQ : DL.Env → Option (Bool × DL.Env) := tst (lift (e2 oEq (esl (evar 0) (osome (evar 5)) (osome (e2 oAdd (evar 5) (cst (.int 1))))) (cst (.str (PySem.Str.ofString "(")))))
abbrev lopenB : ES := sSeq (sAppN 1 (nlst (vs1 (lift slN) (vs0)))) (sSet 2 (lift (e2 oAdd (evar 5) (cst (.int 1)))))
abbrev lleafB : ES := sSeq (sApp2 1 (cst (.int (-1))) (etup (es1 slN (es0)))) (sPar [2, 3] (xs1 (xval (lift (evar 5))) (xs1 (xval (lift (cst (.bl true)))) (xs0))))
abbrev nameB : ES := sSeq (sSet 5 (lift (evar 2)))
  (sSeq (sFor ((fun env => itR1 ((vs1 (lift (cst (.int 9))) (vs0)) env))) (tgN 6) scanB)
  (sSeq (sIf (qnot (tst (vcallF (lenF 1 s__law_is_name) (vs1 (lift slN) (vs0))))) (sRet (lift (cst .non))) (sNil))
  (sIf nextQ lopenB lleafB)))
section
variable {t : Str} {s : LS} {x4 x5 x6 x7 : Sl}
theorem name_head (hz : t.length ≤ 100000) {pre p r : List Nat} (ht : L t = pre ++ (p ++ r)) (hp : ∀ c ∈ p, AN c) (hs : p.length = 9 ∨ p.length < 9 ∧ (r = [] ∨ ∃ c r', r = c :: r' ∧ ¬ AN c)) :
    ∃ x6', ∀ rest : ES, (sSeq (sSet 5 (lift (evar 2))) (sSeq (sFor ((fun env => itR1 ((vs1 (lift (cst (.int 9))) (vs0)) env))) (tgN 6) scanB) rest)) (lE t s pre.length x4 x5 x6 x7) = rest (lE t s pre.length x4 (.va .no (.int ((pre.length + p.length : Nat) : Int))) x6' x7) := by
  have s1 : (sSet 5 (lift (evar 2))) (lE t s pre.length x4 x5 x6 x7) = some (.nx (lE t s pre.length x4 (.va .no (.int ((pre.length : Nat) : Int))) x6 x7)) := rfl
  obtain ⟨x6', lp⟩ := scan_loop (t := t) (s := s) (k := pre.length) (x4 := x4) (x7 := x7) hz (rngL 0 9) pre p r x6 ht hp (by
    rw [show (rngL 0 9).length = 9 from rfl]
    exact hs)
  have f : (sFor ((fun env => itR1 ((vs1 (lift (cst (.int 9))) (vs0)) env))) (tgN 6) scanB) (lE t s pre.length x4 (.va .no (.int ((pre.length : Nat) : Int))) x6 x7) = some (.nx (lE t s pre.length x4 (.va .no (.int ((pre.length + p.length : Nat) : Int))) x6' x7)) :=
    R.for (P := fun o => o = some (.nx (lE t s pre.length x4 (.va .no (.int ((pre.length + p.length : Nat) : Int))) x6' x7))) (it := fun env => itR1 ((vs1 (lift (cst (.int 9))) (vs0)) env)) (ds := rngL 0 9) (e := lE t s pre.length x4 (.va .no (.int ((pre.length : Nat) : Int))) x6 x7) rfl lp
  exact ⟨x6', fun rest => (R.seq s1).trans (R.seq f)⟩
theorem sl_name (hz : t.length ≤ 100000) {pre p r : List Nat} (ht : L t = pre ++ (p ++ r)) : slN (lE t s pre.length x4 (.va .no (.int ((pre.length + p.length : Nat) : Int))) x6 x7) = some (dS p) := by
  have hbig : (100000 : Nat) < big := by decide
  have e := cut_mid (t := t) ht (hi := ((pre.length + p.length : Nat) : Int)) rfl
  show (if t.length ≤ big then some (D.str (cutS t _ _)) else none) = _
  rw [if_pos (by omega), e]
  rfl
theorem name_q (hz : t.length ≤ 100000) {pre p r : List Nat} (ht : L t = pre ++ (p ++ r)) : (qnot (tst (vcallF (lenF 1 s__law_is_name) (vs1 (lift slN) (vs0))))) (lE t s pre.length x4 (.va .no (.int ((pre.length + p.length : Nat) : Int))) x6 x7) = some (!nmL p, lE t s pre.length x4 (.va .no (.int ((pre.length + p.length : Nat) : Int))) x6 x7) := by
  have hl : p.length ≤ 200000 := by
    have := congrArg List.length ht
    rw [← len_L] at this
    simp at this
    omega
  obtain ⟨outs, hn⟩ := lname_ok p hl
  exact R.not (R.tst (R.callF (ds := [dS p]) (R.vs1 (R.lift (sl_name hz ht)) R.vs0) rfl hn))
theorem next_q (hz : t.length ≤ 100000) {pre p r : List Nat} (ht : L t = pre ++ (p ++ r)) : nextQ (lE t s pre.length x4 (.va .no (.int ((pre.length + p.length : Nat) : Int))) x6 x7) = some (decide (r.take 1 = [40]), lE t s pre.length x4 (.va .no (.int ((pre.length + p.length : Nat) : Int))) x6 x7) := R.tstL (by
  have hbig : (100000 : Nat) < big := by decide
  have e := cut_next (t := t) (pre := pre ++ p) (r := r) (by rw [ht]; simp)
  rw [List.length_append] at e
  have i : (esl (evar 0) (osome (evar 5)) (osome (e2 oAdd (evar 5) (cst (.int 1))))) (lE t s pre.length x4 (.va .no (.int ((pre.length + p.length : Nat) : Int))) x6 x7) = some (dS (r.take 1)) := by
    show (if t.length ≤ big then some (D.str (cutS t (some ((pre.length + p.length : Nat) : Int)) (some ((pre.length + p.length + 1 : Nat) : Int)))) else none) = _
    rw [if_pos (by omega), e]
    rfl
  refine (R.e2 (x := dS (r.take 1)) (y := .str (Str.ofString "(")) i rfl).trans ((oEq_str (mk (r.take 1)) (Str.ofString "(")).trans ?_)
  rw [show Str.ofString "(" = mk [40] from by decide]
  congr 2
  simp only [mk_eq])
theorem lopen_ok (hz : t.length ≤ 100000) {n : Nat} (hn : LI n s) (hn2 : n ≤ 400000) {pre p r : List Nat} (ht : L t = pre ++ (p ++ r)) (hb : s.b = false) : lopenB (lE t s pre.length x4 (.va .no (.int ((pre.length + p.length : Nat) : Int))) x6 x7) = some (.nx (lE t (opn s p) (pre.length + p.length + 1) x4 (.va .no (.int ((pre.length + p.length : Nat) : Int))) x6 x7)) := by
  have hbig : (1000001 : Nat) < big := by decide
  have z1 := hn.z1
  have a : (sAppN 1 (nlst (vs1 (lift slN) (vs0)))) (lE t s pre.length x4 (.va .no (.int ((pre.length + p.length : Nat) : Int))) x6 x7) = some (.nx (lE t (opn s p) pre.length x4 (.va .no (.int ((pre.length + p.length : Nat) : Int))) x6 x7)) := by
    unfold sAppN
    rw [if_pos (by rfl)]
    have q : nlst (vs1 (lift slN) (vs0)) (lE t s pre.length x4 (.va .no (.int ((pre.length + p.length : Nat) : Int))) x6 x7) = some ([dS p], lE t s pre.length x4 (.va .no (.int ((pre.length + p.length : Nat) : Int))) x6 x7) := by
      unfold nlst
      rw [R.vs1 (R.lift (sl_name hz ht)) R.vs0]
      rfl
    rw [q, Option.bind_some]
    show (if aF (heapOf s).length = true ∧ (heapOf s).length < big then some (Out.nx ((lE t s pre.length x4 (.va .no (.int ((pre.length + p.length : Nat) : Int))) x6 x7).set 1 (.va (.own aF) (.lst (heapOf s ++ [.lst [dS p]]))))) else none) = _
    rw [if_pos ⟨rfl, by rw [heap_len]; omega⟩, heap_open]
    unfold lE
    rw [hb]
    rfl
  exact (R.seq a).trans rfl
theorem lleaf_ok (hz : t.length ≤ 100000) {n : Nat} (hn : LI n s) (hn2 : n ≤ 400000) {pre p r : List Nat} (ht : L t = pre ++ (p ++ r)) : lleafB (lE t s pre.length x4 (.va .no (.int ((pre.length + p.length : Nat) : Int))) x6 x7) = some (.nx (lE t (push s (leaf p)) (pre.length + p.length) x4 (.va .no (.int ((pre.length + p.length : Nat) : Int))) x6 x7)) := by
  have hbig : (1000001 : Nat) < big := by decide
  have a : (sApp2 1 (cst (.int (-1))) (etup (es1 slN (es0)))) (lE t s pre.length x4 (.va .no (.int ((pre.length + p.length : Nat) : Int))) x6 x7) = some (.nx ((lE t s pre.length x4 (.va .no (.int ((pre.length + p.length : Nat) : Int))) x6 x7).set 1 (.va (.own aF) (.lst (heapOf (push s (leaf p))))))) := by
    unfold sApp2
    show ((ixN (heapOf s).length (-1)).bind _) = _
    rw [heap_len, ixNlast, Option.bind_some, if_pos (by rfl), heap_last]
    rw [show asL (some (D.lst (topL s))) = some (topL s) from rfl, Option.bind_some]
    have q : etup (es1 slN (es0)) (lE t s pre.length x4 (.va .no (.int ((pre.length + p.length : Nat) : Int))) x6 x7) = some (.tup [dS p]) := by
      unfold etup es1
      rw [sl_name hz ht]
      rfl
    rw [q, Option.bind_some, if_pos (by have := topL_len hn; omega)]
    have e := heap_push s (leaf p)
    rw [show tD (leaf p) = .tup [dS p] from rfl] at e
    rw [← e]
  refine (R.seq a).trans ?_
  have hb : (push s (leaf p)).b = true := by unfold push; split <;> rfl
  unfold lE
  rw [hb]
  rfl
/-- one turn in which a name is wanted -/
theorem name_turn (hz : t.length ≤ 100000) {n : Nat} (hn : LI n s) (hn2 : n ≤ 400000) (hb : s.b = false) {pre p r : List Nat} (ht : L t = pre ++ (p ++ r)) (hp : ∀ c ∈ p, AN c) (hs : p.length = 9 ∨ p.length < 9 ∧ (r = [] ∨ ∃ c r', r = c :: r' ∧ ¬ AN c)) :
    (nmL p = false ∧ ∃ e, nameB (lE t s pre.length x4 x5 x6 x7) = some (.rt .non e) ∧ 1 ≤ e.length) ∨
    (nmL p = true ∧ r.take 1 = [40] ∧ ∃ x5' x6', nameB (lE t s pre.length x4 x5 x6 x7) = some (.nx (lE t (opn s p) (pre.length + p.length + 1) x4 x5' x6' x7))) ∨
    (nmL p = true ∧ r.take 1 ≠ [40] ∧ ∃ x5' x6', nameB (lE t s pre.length x4 x5 x6 x7) = some (.nx (lE t (push s (leaf p)) (pre.length + p.length) x4 x5' x6' x7))) := by
  obtain ⟨x6', hd⟩ := name_head (t := t) (s := s) (x4 := x4) (x5 := x5) (x6 := x6) (x7 := x7) hz ht hp hs
  have q := name_q (t := t) (s := s) (x4 := x4) (x6 := x6') (x7 := x7) hz ht
  cases hnm : nmL p with
  | false =>
    rw [hnm] at q
    exact .inl ⟨rfl, _, (hd _).trans (R.seqR ((R.ifT q).trans rfl)), by show 1 ≤ 8; decide⟩
  | true =>
    rw [hnm] at q
    have q2 := next_q (t := t) (s := s) (x4 := x4) (x6 := x6') (x7 := x7) hz ht
    by_cases h : r.take 1 = [40]
    · rw [decide_eq_true h] at q2
      exact .inr (.inl ⟨rfl, h, _, x6', (hd _).trans ((R.seq ((R.ifF q).trans rfl)).trans ((R.ifT q2).trans (lopen_ok hz hn hn2 ht hb)))⟩)
    · rw [decide_eq_false h] at q2
      exact .inr (.inr ⟨rfl, h, _, x6', (hd _).trans ((R.seq ((R.ifF q).trans rfl)).trans ((R.ifF q2).trans (lleaf_ok hz hn hn2 ht)))⟩)
end
end T73

set_option Elab.async false
set_option linter.all false
set_option maxRecDepth 100000
set_option maxHeartbeats 4000000
/-! M18f: a turn of _law_read. -/
namespace T73
open PySem L2 DL
abbrev lcommaB : ES := sPar [2, 3] (xs1 (xval (lift (e2 oAdd (evar 2) (cst (.int 1))))) (xs1 (xval (lift (cst (.bl false)))) (xs0)))
abbrev lcloseB : ES := sSeq (sSet 7 (vcall gTuple (vs1 (vPop 1) (vs0)))) (sSeq (sApp2 1 (cst (.int (-1))) (evar 7)) (sSet 2 (lift (e2 oAdd (evar 2) (cst (.int 1))))))
abbrev commaQ : DL.Env → Option (Bool × DL.Env) := qand (tst (lift (e2 oEq (e2 oIx (evar 0) (evar 2)) (cst (.str (PySem.Str.ofString ",")))))) (tst (lift (e2 oGt (ecall gLen (es1 (bvar 1) (es0))) (cst (.int 1)))))
abbrev closeQ : DL.Env → Option (Bool × DL.Env) := qand (tst (lift (e2 oEq (e2 oIx (evar 0) (evar 2)) (cst (.str (PySem.Str.ofString ")")))))) (tst (lift (e2 oGt (ecall gLen (es1 (bvar 1) (es0))) (cst (.int 1)))))
abbrev turnB : ES := sSeq (sIf (tst (lift (e2 oGe (evar 2) (ecall gLen (es1 (evar 0) (es0)))))) (sBrk) (sNil))
  (sIf (qnot (tru (evar 3))) nameB (sIf commaQ lcommaB (sIf closeQ lcloseB (sRet (lift (cst .non))))))
section
variable {t : Str} {s : LS} {x4 x5 x6 x7 : Sl}
theorem end_q (hz : t.length ≤ 100000) {pre rest : List Nat} (ht : L t = pre ++ rest) : (tst (lift (e2 oGe (evar 2) (ecall gLen (es1 (evar 0) (es0)))))) (lE t s pre.length x4 x5 x6 x7) = some (decide (rest = []), lE t s pre.length x4 x5 x6 x7) := R.tstL (by
  refine (R.e2 (x := .int ((pre.length : Nat) : Int)) rfl (ll_text hz)).trans ?_
  show some (D.bl (decide ((((L t).length : Nat) : Int) ≤ ((pre.length : Nat) : Int)))) = _
  congr 2
  rw [ht]
  refine decide_eq_decide.mpr ⟨fun h => ?_, fun h => ?_⟩
  · simp at h
    exact List.length_eq_zero_iff.mp (by omega)
  · simp [h])
theorem turn_end (hz : t.length ≤ 100000) {pre : List Nat} (ht : L t = pre ++ []) : turnB (lE t s pre.length x4 x5 x6 x7) = some (.bk (lE t s pre.length x4 x5 x6 x7)) := by
  have q := end_q (t := t) (s := s) (x4 := x4) (x5 := x5) (x6 := x6) (x7 := x7) hz ht
  rw [decide_eq_true rfl] at q
  exact R.seqB ((R.ifT q).trans rfl)
theorem turn_on (hz : t.length ≤ 100000) {pre rest : List Nat} (ht : L t = pre ++ rest) (hr : rest ≠ []) : turnB (lE t s pre.length x4 x5 x6 x7) = (if s.b = false then nameB (lE t s pre.length x4 x5 x6 x7) else (sIf commaQ lcommaB (sIf closeQ lcloseB (sRet (lift (cst .non))))) (lE t s pre.length x4 x5 x6 x7)) := by
  have q := end_q (t := t) (s := s) (x4 := x4) (x5 := x5) (x6 := x6) (x7 := x7) hz ht
  rw [decide_eq_false hr] at q
  have q2 : (qnot (tru (evar 3))) (lE t s pre.length x4 x5 x6 x7) = some (!s.b, lE t s pre.length x4 x5 x6 x7) := R.not (b := s.b) rfl
  cases hb : s.b with
  | false =>
    rw [hb] at q2
    exact (R.seq ((R.ifF q).trans rfl)).trans (R.ifT q2)
  | true =>
    rw [hb] at q2
    exact (R.seq ((R.ifF q).trans rfl)).trans (R.ifF q2)
theorem sign_q (z : String) (a : Nat) (hq : Str.ofString z = mk [a]) (hz : t.length ≤ 100000) {pre r : List Nat} {c : Nat} (ht : L t = pre ++ c :: r) : (tst (lift (e2 oEq (e2 oIx (evar 0) (evar 2)) (cst (.str (Str.ofString z)))))) (lE t s pre.length x4 x5 x6 x7) = some (decide (c = a), lE t s pre.length x4 x5 x6 x7) := R.tstL (by
  have i : (e2 oIx (evar 0) (evar 2)) (lE t s pre.length x4 x5 x6 x7) = some (dS [c]) := (R.e2 (x := .str t) (y := .int ((pre.length : Nat) : Int)) rfl rfl).trans (lstr_ix hz ht)
  refine (R.e2 (x := dS [c]) (y := .str (Str.ofString z)) i rfl).trans ((oEq_str (mk [c]) (Str.ofString z)).trans ?_)
  rw [hq]
  congr 2
  simp [mk_eq])
theorem comma_q (hz : t.length ≤ 100000) {pre r : List Nat} {c : Nat} (ht : L t = pre ++ c :: r) : commaQ (lE t s pre.length x4 x5 x6 x7) = some (decide (c = 44 ∧ s.fr ≠ []), lE t s pre.length x4 x5 x6 x7) := by
  have q := sign_q (t := t) (s := s) (x4 := x4) (x5 := x5) (x6 := x6) (x7 := x7) "," 44 (by decide) hz ht
  by_cases h : c = 44
  · rw [decide_eq_true h] at q
    refine (R.andT q).trans (ll_deep.trans ?_)
    simp [h]
  · rw [decide_eq_false h] at q
    refine (R.andF q).trans ?_
    simp [h]
theorem close_q (hz : t.length ≤ 100000) {pre r : List Nat} {c : Nat} (ht : L t = pre ++ c :: r) : closeQ (lE t s pre.length x4 x5 x6 x7) = some (decide (c = 41 ∧ s.fr ≠ []), lE t s pre.length x4 x5 x6 x7) := by
  have q := sign_q (t := t) (s := s) (x4 := x4) (x5 := x5) (x6 := x6) (x7 := x7) ")" 41 (by decide) hz ht
  by_cases h : c = 41
  · rw [decide_eq_true h] at q
    refine (R.andT q).trans (ll_deep.trans ?_)
    simp [h]
  · rw [decide_eq_false h] at q
    refine (R.andF q).trans ?_
    simp [h]
theorem turn_none (hz : t.length ≤ 100000) {pre r : List Nat} {c : Nat} (ht : L t = pre ++ c :: r) (hb : s.b = true) (h44 : ¬ (c = 44 ∧ s.fr ≠ [])) (h41 : ¬ (c = 41 ∧ s.fr ≠ [])) : ∃ e, turnB (lE t s pre.length x4 x5 x6 x7) = some (.rt .non e) ∧ 1 ≤ e.length := by
  have q1 := comma_q (t := t) (s := s) (x4 := x4) (x5 := x5) (x6 := x6) (x7 := x7) hz ht
  have q2 := close_q (t := t) (s := s) (x4 := x4) (x5 := x5) (x6 := x6) (x7 := x7) hz ht
  rw [decide_eq_false h44] at q1
  rw [decide_eq_false h41] at q2
  rw [turn_on hz ht (by simp), if_neg (by rw [hb]; decide)]
  exact ⟨_, (R.ifF q1).trans ((R.ifF q2).trans rfl), by show 1 ≤ 8; decide⟩
theorem turn_comma (hz : t.length ≤ 100000) {pre r : List Nat} (ht : L t = pre ++ 44 :: r) (hb : s.b = true) (hf : s.fr ≠ []) : turnB (lE t s pre.length x4 x5 x6 x7) = some (.nx (lE t ⟨false, s.base, s.fr⟩ (pre ++ [44]).length x4 x5 x6 x7)) := by
  have q1 := comma_q (t := t) (s := s) (x4 := x4) (x5 := x5) (x6 := x6) (x7 := x7) hz ht
  rw [decide_eq_true ⟨rfl, hf⟩] at q1
  rw [turn_on hz ht (by simp), if_neg (by rw [hb]; decide)]
  refine (R.ifT q1).trans ?_
  rw [List.length_append]
  rfl
theorem topL_pop {b : Bool} {base : List Tr} {f : List Nat × List Tr} {r : List (List Nat × List Tr)} : topL ⟨b, base, f :: r⟩ = dS f.1 :: tDs f.2 := rfl
theorem lclose_ok {k : Nat} {b : Bool} {base : List Tr} {f : List Nat × List Tr} {r : List (List Nat × List Tr)} {n : Nat} (hn : LI n ⟨true, base, f :: r⟩) (hn2 : n ≤ 400000) : lcloseB (lE t ⟨true, base, f :: r⟩ k x4 x5 x6 x7) = some (.nx (lE t (push ⟨true, base, r⟩ (.node (mk f.1) f.2)) (k + 1) x4 x5 x6 (.va .no (tD (.node (mk f.1) f.2))))) := by
  have hbig : (1000001 : Nat) < big := by decide
  have p1 : (vPop 1) (lE t ⟨true, base, f :: r⟩ k x4 x5 x6 x7) = some (.lst (dS f.1 :: tDs f.2), lE t ⟨true, base, r⟩ k x4 x5 x6 x7) := by
    show (((heapOf ⟨true, base, f :: r⟩)[(heapOf ⟨true, base, f :: r⟩).length - 1]?).map _) = _
    rw [heap_len, Nat.add_sub_cancel, heap_last]
    show some (D.lst (topL ⟨true, base, f :: r⟩), _) = _
    rw [heap_pop]
    rfl
  have s1 : (sSet 7 (vcall gTuple (vs1 (vPop 1) (vs0)))) (lE t ⟨true, base, f :: r⟩ k x4 x5 x6 x7) = some (.nx (lE t ⟨true, base, r⟩ k x4 x5 x6 (.va .no (tD (.node (mk f.1) f.2))))) := by
    refine (R.set (R.vcall (d := tD (.node (mk f.1) f.2)) (R.vs1 p1 R.vs0) ?_) (by show 7 < 8; decide)).trans rfl
    rw [tD]
    rfl
  have hl : (topL ⟨true, base, r⟩).length < big := by
    cases r with
    | nil =>
      have := hn.z2
      show (tDs base).length < _
      rw [tDs_len]
      dsimp only at this
      omega
    | cons g r =>
      have := hn.z3 g (List.mem_cons_of_mem _ List.mem_cons_self)
      show (dS g.1 :: tDs g.2).length < _
      rw [List.length_cons, tDs_len]
      omega
  have s2 : (sApp2 1 (cst (.int (-1))) (evar 7)) (lE t ⟨true, base, r⟩ k x4 x5 x6 (.va .no (tD (.node (mk f.1) f.2)))) = some (.nx (lE t (push ⟨true, base, r⟩ (.node (mk f.1) f.2)) k x4 x5 x6 (.va .no (tD (.node (mk f.1) f.2))))) := by
    unfold sApp2
    show ((ixN (heapOf ⟨true, base, r⟩).length (-1)).bind _) = _
    rw [heap_len, ixNlast, Option.bind_some, if_pos (by rfl), heap_last]
    rw [show asL (some (D.lst (topL ⟨true, base, r⟩))) = some (topL ⟨true, base, r⟩) from rfl, Option.bind_some]
    rw [show evar 7 (lE t ⟨true, base, r⟩ k x4 x5 x6 (.va .no (tD (.node (mk f.1) f.2)))) = some (tD (.node (mk f.1) f.2)) from rfl, Option.bind_some, if_pos hl]
    have e := heap_push ⟨true, base, r⟩ (.node (mk f.1) f.2)
    dsimp only at e
    rw [e]
    unfold lE push
    cases r <;> rfl
  exact (R.seq s1).trans ((R.seq s2).trans rfl)
theorem turn_close (hz : t.length ≤ 100000) {base : List Tr} {f : List Nat × List Tr} {fr : List (List Nat × List Tr)} {n : Nat} (hn : LI n ⟨true, base, f :: fr⟩) (hn2 : n ≤ 400000) {pre r : List Nat} (ht : L t = pre ++ 41 :: r) : turnB (lE t ⟨true, base, f :: fr⟩ pre.length x4 x5 x6 x7) = some (.nx (lE t (push ⟨true, base, fr⟩ (.node (mk f.1) f.2)) (pre ++ [41]).length x4 x5 x6 (.va .no (tD (.node (mk f.1) f.2))))) := by
  have q1 := comma_q (t := t) (s := ⟨true, base, f :: fr⟩) (x4 := x4) (x5 := x5) (x6 := x6) (x7 := x7) hz ht
  rw [decide_eq_false (by simp)] at q1
  have q2 := close_q (t := t) (s := ⟨true, base, f :: fr⟩) (x4 := x4) (x5 := x5) (x6 := x6) (x7 := x7) hz ht
  rw [decide_eq_true (by simp)] at q2
  rw [turn_on hz ht (by simp), if_neg (fun z => by cases z)]
  refine (R.ifF q1).trans ((R.ifT q2).trans ((lclose_ok (b := true) hn hn2).trans ?_))
  rw [List.length_append]
  rfl
end
end T73

set_option Elab.async false
set_option linter.all false
set_option maxRecDepth 100000
set_option maxHeartbeats 4000000
/-! M18g: _law_read, whole. -/
namespace T73
open PySem L2 DL
def NoOpen (s : LS) (rest : List Nat) : Prop := s.b = true → ∀ r, rest = 40 :: r → ∀ u, (toRS s).top.getLast? = some u → kids u ≠ []
def Ends (t : Str) (o : Option Out) (r : Option Tr) : Prop := (∃ s' n k x4 x5 x6 x7, LI n s' ∧ o = some (.nx (lE t s' k x4 x5 x6 x7)) ∧ r = finL s') ∨ (r = none ∧ ∃ e, o = some (.rt .non e) ∧ 1 ≤ e.length)
section
variable {t : Str}
/-- one turn before the end -/
theorem turn_any (hz : t.length ≤ 100000) {n : Nat} {s : LS} (hn : LI n s) (hn2 : n ≤ 400000) {pre rest : List Nat} (hr : rest ≠ []) (ht : L t = pre ++ rest) (ho : NoOpen s rest) (x4 x5 x6 x7 : Sl) :
    ((run (toRS s) (toks [] rest)).bind fin = none ∧ ∃ e, turnB (lE t s pre.length x4 x5 x6 x7) = some (.rt .non e) ∧ 1 ≤ e.length) ∨
    (∃ s' pre' rest' x5' x6' x7', turnB (lE t s pre.length x4 x5 x6 x7) = some (.nx (lE t s' pre'.length x4 x5' x6' x7')) ∧ L t = pre' ++ rest' ∧ rest'.length < rest.length ∧ LI (n + 1) s' ∧ NoOpen s' rest' ∧ (run (toRS s) (toks [] rest)).bind fin = (run (toRS s') (toks [] rest')).bind fin) ∨
    (∃ s' pre' c r' x5' x6' x7', turnB (lE t s pre.length x4 x5 x6 x7) = some (.nx (lE t s' pre'.length x4 x5' x6' x7')) ∧ L t = pre' ++ c :: r' ∧ r'.length + 1 < rest.length ∧ s'.b = true ∧ c ≠ 44 ∧ c ≠ 41 ∧ (run (toRS s) (toks [] rest)).bind fin = none) := by
  have hw : (toRS s).w = !s.b := by unfold toRS; split <;> rfl
  cases hb : s.b with
  | false =>
    rw [hb] at hw
    have hw : (toRS s).w = true := hw
    obtain ⟨p, r, rfl, hp, hs⟩ := scan_split 9 rest
    have to := turn_on (t := t) (s := s) (x4 := x4) (x5 := x5) (x6 := x6) (x7 := x7) hz ht hr
    rw [if_pos hb] at to
    rcases name_turn (x4 := x4) (x5 := x5) (x6 := x6) (x7 := x7) hz hn hn2 hb ht hp hs with ⟨hm, e, he, hl⟩ | ⟨hm, hq, x5', x6', he⟩ | ⟨hm, hq, x5', x6', he⟩
    · refine .inl ⟨bad_name hw hp ?_, e, to.trans he, hl⟩
      rcases hs with hs | ⟨hs1, hs2⟩
      · exact .inl hs
      · have hp0 : p = [] := by
          refine List.eq_nil_iff_length_eq_zero.mpr ?_
          refine Classical.byContradiction fun hne => ?_
          have : nmL p = true := by
            unfold nmL
            simp only [Bool.and_eq_true, decide_eq_true_eq, List.all_eq_true]
            exact ⟨⟨by omega, by omega⟩, hp⟩
          rw [this] at hm
          cases hm
        refine .inr ⟨hp0, ?_⟩
        rcases hs2 with h | h
        · exact (hr (by rw [hp0, h]; rfl)).elim
        · exact h
    · obtain ⟨r', rfl⟩ : ∃ r', r = 40 :: r' := by
        cases r with
        | nil => cases hq
        | cons c r => simp at hq; subst hq; exact ⟨r, rfl⟩
      have hne : p ≠ [] := fun z => by rw [z] at hm; exact absurd hm (by decide)
      refine .inr (.inl ⟨opn s p, pre ++ p ++ [40], r', x5', x6', x7, ?_, ?_, ?_, li_open hn hb, (fun z => by cases z), ?_⟩)
      · rw [to, he, List.length_append, List.length_append]
        rfl
      · rw [ht]; simp
      · simp; omega
      · rw [toks_nm hne hp (.inr ⟨40, r', rfl, rfl⟩), toks_p rfl, rs_open hn hb hm]
    · have hne : p ≠ [] := fun z => by rw [z] at hm; exact absurd hm (by decide)
      have hpl : 0 < p.length := List.length_pos_iff.mpr hne
      have go : turnB (lE t s pre.length x4 x5 x6 x7) = some (.nx (lE t (push s (leaf p)) (pre ++ p).length x4 x5' x6' x7)) := by
        rw [to, he, List.length_append]
      have ht' : L t = (pre ++ p) ++ r := by rw [ht]; simp
      have good : Stop r → (run (toRS s) (toks [] (p ++ r))).bind fin = (run (toRS (push s (leaf p))) (toks [] r)).bind fin := fun h => by
        rw [toks_nm hne hp h, run_cons (rs_leaf hn hb hm)]
      have no : NoOpen (push s (leaf p)) r := fun _ r' h => (hq (by rw [h]; rfl)).elim
      have hs2 : r = [] ∨ ∃ c r', r = c :: r' ∧ ¬ AN c := by
        rcases hs with h9 | ⟨_, h⟩
        · have : p.length ≤ 8 := by
            unfold nmL at hm
            simp only [Bool.and_eq_true, decide_eq_true_eq] at hm
            exact hm.1.2
          omega
        · exact h
      rcases hs2 with rfl | ⟨c, r', rfl, hc⟩
      · exact .inr (.inl ⟨_, _, _, _, _, _, go, ht', by simp; omega, li_leaf hn hb, no, good (.inl rfl)⟩)
      · by_cases hpc : isP c = true
        · exact .inr (.inl ⟨_, _, _, _, _, _, go, ht', by simp; omega, li_leaf hn hb, no, good (.inr ⟨c, r', rfl, hpc⟩)⟩)
        · have hpc' : isP c = false := by simpa using hpc
          exact .inr (.inr ⟨_, _, c, r', _, _, _, go, ht', by simp; omega, (by unfold push; split <;> rfl), (fun z => hpc (by rw [z]; rfl)), (fun z => hpc (by rw [z]; rfl)), bad_after hw hp hpc' hc⟩)
  | true =>
    obtain ⟨c, r, rfl⟩ := List.exists_cons_of_ne_nil hr
    by_cases h44 : c = 44 ∧ s.fr ≠ []
    · obtain ⟨rfl, hf⟩ := h44
      refine .inr (.inl ⟨⟨false, s.base, s.fr⟩, pre ++ [44], r, x5, x6, x7, turn_comma hz ht hb hf, by rw [ht]; simp, by simp, li_comma hn hf, (fun z => by cases z), ?_⟩)
      rw [toks_p rfl, run_cons (rs_comma hb hf)]
    · by_cases h41 : c = 41 ∧ s.fr ≠ []
      · obtain ⟨rfl, hf⟩ := h41
        obtain ⟨b, base, fr⟩ := s
        dsimp only at hb hf
        subst hb
        obtain ⟨f, fr, rfl⟩ := List.exists_cons_of_ne_nil hf
        refine .inr (.inl ⟨push ⟨true, base, fr⟩ (.node (mk f.1) f.2), pre ++ [41], r, x5, x6, _, turn_close hz hn hn2 ht, by rw [ht]; simp, by simp, li_close hn, ?_, ?_⟩)
        · intro _ r' _ u hu
          rw [push_last hu]
          exact hn.i4 rfl f fr rfl
        · rw [toks_p rfl, run_cons rs_close]
      · refine .inl ⟨bad_turn hb (fun z u hu => ?_) h44 h41, turn_none hz ht hb h44 h41⟩
        exact ho hb r (by rw [z]) u hu
theorem lread_loop (hz : t.length ≤ 100000) : ∀ (its : List D) (pre rest : List Nat) (s : LS) (n : Nat) (x4 x5 x6 x7 : Sl), L t = pre ++ rest → rest.length + 1 ≤ its.length → LI n s → n + its.length ≤ 400000 → NoOpen s rest →
    Ends t (loopS (tgN 4) turnB its (lE t s pre.length x4 x5 x6 x7)) ((run (toRS s) (toks [] rest)).bind fin)
  | [], pre, rest, s, n, x4, x5, x6, x7, ht, hl, hn, hn2, ho => by cases hl
  | d :: its, pre, rest, s, n, x4, x5, x6, x7, ht, hl, hn, hn2, ho => by
    have un : loopS (tgN 4) turnB (d :: its) (lE t s pre.length x4 x5 x6 x7) = (turnB (lE t s pre.length (.va .no d) x5 x6 x7)).bind fun o => match o with
      | .nx e => loopS (tgN 4) turnB its e
      | .ct e => loopS (tgN 4) turnB its e
      | .bk e => some (.nx e)
      | .rt d e => some (.rt d e)
      | .ex c as => some (.ex c as)
      | .rx sl e => some (.rx sl e) := rfl
    rw [List.length_cons] at hl hn2
    by_cases hr : rest = []
    · subst hr
      rw [un, turn_end hz ht]
      exact .inl ⟨s, n, pre.length, _, _, _, _, hn, rfl, (by show (run (toRS s) []).bind fin = _; exact rs_fin)⟩
    · rcases turn_any hz hn (by omega) hr ht ho (.va .no d) x5 x6 x7 with ⟨hno, e, he, hle⟩ | ⟨s', pre', rest', x5', x6', x7', he, ht', hl', hn', ho', hrun⟩ | ⟨s', pre', c, r', x5', x6', x7', he, ht', hl', hb', h44, h41, hrun⟩
      · rw [un, he]
        exact .inr ⟨hno, e, rfl, hle⟩
      · rw [un, he, hrun]
        exact lread_loop hz its pre' rest' s' (n + 1) _ _ _ _ ht' (by omega) hn' (by omega) ho'
      · rw [un, he]
        refine .inr ⟨hrun, ?_⟩
        match its, hl with
        | [], hl => exact absurd hl (by simp; omega)
        | d2 :: its, _ =>
          obtain ⟨e, he2, hle⟩ := turn_none (t := t) (s := s') (x4 := .va .no d2) (x5 := x5') (x6 := x6') (x7 := x7') hz ht' hb' (fun z => h44 z.1) (fun z => h41 z.1)
          refine ⟨e, ?_, hle⟩
          show ((turnB (lE t s' pre'.length (.va .no d2) x5' x6' x7')).bind _) = _
          rw [he2]
          rfl
end
theorem lread_ok (t : Str) (hz : t.length ≤ 100000) : ∃ outs, s__law_read [.va .no (.str t)] = some (.ret (match rd (L t) with | some tr => tD tr | none => .non) outs) := by
  have s1 : (sPar [1, 2, 3] (xs1 (xlst (xs1 (xnew (nlst (vs0))) (xs0))) (xs1 (xval (lift (cst (.int 0)))) (xs1 (xval (lift (cst (.bl false)))) (xs0))))) [.va .no (.str t), .un, .un, .un, .un, .un, .un, .un] = some (.nx (lE t ⟨false, [], []⟩ ([] : List Nat).length .un .un .un .un)) := rfl
  have hbig : (1000000 : Nat) < big := by decide
  have hl : (L t).length ≤ 100000 := by rw [← len_L]; exact hz
  have len := ll_text (t := t) (s := ⟨false, [], []⟩) (k := ([] : List Nat).length) (x4 := .un) (x5 := .un) (x6 := .un) (x7 := .un) hz
  have ln : (lift (e2 oAdd (e2 oMul (cst (.int 2)) (ecall gLen (es1 (evar 0) (es0)))) (cst (.int 2)))) (lE t ⟨false, [], []⟩ ([] : List Nat).length .un .un .un .un) = some (.int ((2 * (L t).length + 2 : Nat) : Int), lE t ⟨false, [], []⟩ ([] : List Nat).length .un .un .un .un) := by
    refine R.lift ((R.e2 (x := .int (2 * (((L t).length : Nat) : Int))) (y := .int 2) ((R.e2 (x := .int 2) rfl len).trans (oMul_small ⟨by omega, by omega⟩)) rfl).trans ?_)
    show some (D.int (2 * (((L t).length : Nat) : Int) + 2)) = _
    congr 2
  have it : (fun env => itR1 ((vs1 (lift (e2 oAdd (e2 oMul (cst (.int 2)) (ecall gLen (es1 (evar 0) (es0)))) (cst (.int 2)))) (vs0)) env)) (lE t ⟨false, [], []⟩ ([] : List Nat).length .un .un .un .un) = some (rngL 0 (2 * (L t).length + 2), lE t ⟨false, [], []⟩ ([] : List Nat).length .un .un .un .un) := R.rng (k := 2 * (L t).length + 2) (R.vs1 ln R.vs0) (by omega)
  have rl : (rngL 0 (2 * (L t).length + 2)).length = 2 * (L t).length + 2 := by simp [rngL]
  have i0 : LI 0 ⟨false, [], []⟩ := ⟨(fun _ _ => rfl), (fun _ => rfl), (fun z => by cases z), (fun z => by cases z), Nat.le_refl _, Nat.le_refl _, (fun f hf => by cases hf)⟩
  have lp := lread_loop hz (rngL 0 (2 * (L t).length + 2)) [] (L t) ⟨false, [], []⟩ 0 .un .un .un .un rfl (by rw [rl]; omega) i0 (by rw [rl]; omega) (fun z => by cases z)
  have hrd : (run (toRS ⟨false, [], []⟩) (toks [] (L t))).bind fin = rd (L t) := rfl
  rw [hrd] at lp
  have f : (sFor ((fun env => itR1 ((vs1 (lift (e2 oAdd (e2 oMul (cst (.int 2)) (ecall gLen (es1 (evar 0) (es0)))) (cst (.int 2)))) (vs0)) env))) (tgN 4) turnB) (lE t ⟨false, [], []⟩ ([] : List Nat).length .un .un .un .un) = loopS (tgN 4) turnB (rngL 0 (2 * (L t).length + 2)) (lE t ⟨false, [], []⟩ ([] : List Nat).length .un .un .un .un) :=
    R.for (P := fun o => o = loopS (tgN 4) turnB (rngL 0 (2 * (L t).length + 2)) (lE t ⟨false, [], []⟩ ([] : List Nat).length .un .un .un .un)) (it := fun env => itR1 ((vs1 (lift (e2 oAdd (e2 oMul (cst (.int 2)) (ecall gLen (es1 (evar 0) (es0)))) (cst (.int 2)))) (vs0)) env)) it rfl
  have done : ∀ (d : D) (e : DL.Env), b__law_read [.va .no (.str t), .un, .un, .un, .un, .un, .un, .un] = some (.rt d e) → 1 ≤ e.length → ∃ outs, s__law_read [.va .no (.str t)] = some (.ret d outs) := fun d e h he => ⟨_, R.fn (n := 1) (N := 8) (body := b__law_read) (args := [.va .no (.str t)]) h he⟩
  rcases lp with ⟨s', n, k, x4, x5, x6, x7, hn, ho, hr⟩ | ⟨hr, e, ho, he⟩
  · rw [← f] at ho
    rw [hr]
    have q1 : tru (evar 3) (lE t s' k x4 x5 x6 x7) = some (s'.b, lE t s' k x4 x5 x6 x7) := rfl
    have q2 : (tst (lift (e2 oEq (ecall gLen (es1 (bvar 1) (es0))) (cst (.int 1))))) (lE t s' k x4 x5 x6 x7) = some (decide (((s'.fr.length + 1 : Nat) : Int) = 1), lE t s' k x4 x5 x6 x7) := R.tstL ((R.e2 (y := .int 1) ll_heap rfl).trans oEq_int)
    have no : (qand (tru (evar 3)) (qand (tst (lift (e2 oEq (ecall gLen (es1 (bvar 1) (es0))) (cst (.int 1))))) (tst (lift (e2 oEq (ecall gLen (es1 (e2 oIx (bvar 1) (cst (.int 0))) (es0))) (cst (.int 1))))))) (lE t s' k x4 x5 x6 x7) = some (false, lE t s' k x4 x5 x6 x7) → finL s' = none → ∃ outs, s__law_read [.va .no (.str t)] = some (.ret (match finL s' with | some tr => tD tr | none => .non) outs) := fun h1 h2 => by
      rw [h2]
      exact done .non _ ((R.seq s1).trans ((R.seq (f.symm ▸ ho)).trans (R.ret ((R.vifF h1).trans rfl)))) (by show 1 ≤ 8; decide)
    cases hb : s'.b with
    | false =>
      rw [hb] at q1
      exact no (R.andF q1) (by unfold finL; rw [if_neg (fun z => by rw [hb] at z; exact Bool.false_ne_true z.1)])
    | true =>
      rw [hb] at q1
      by_cases hf : s'.fr = []
      · rw [decide_eq_true (by rw [hf]; rfl)] at q2
        obtain ⟨u, hu⟩ := hn.i3 hb hf
        have hd : heapOf s' = [.lst [tD u]] := by
          unfold heapOf
          rw [hf, hu]
          rfl
        have i1 : (e2 oIx (bvar 1) (cst (.int 0))) (lE t s' k x4 x5 x6 x7) = some (.lst [tD u]) := by
          refine (R.e2 (x := .lst (heapOf s')) (y := .int 0) rfl rfl).trans ?_
          rw [hd]
          exact at0
        have g : (ecall gLen (es1 (e2 oIx (bvar 1) (cst (.int 0))) (es0))) (lE t s' k x4 x5 x6 x7) = some (.int 1) := by
          unfold ecall es1
          rw [i1]
          rfl
        have q3 : (tst (lift (e2 oEq (ecall gLen (es1 (e2 oIx (bvar 1) (cst (.int 0))) (es0))) (cst (.int 1))))) (lE t s' k x4 x5 x6 x7) = some (true, lE t s' k x4 x5 x6 x7) := R.tstL ((R.e2 (x := .int 1) (y := .int 1) g rfl).trans rfl)
        have ix : eIxO2 1 (cst (.int 0)) (cst (.int 0)) (lE t s' k x4 x5 x6 x7) = some (tD u) := by
          unfold eIxO2
          show ((ixN (heapOf s').length 0).bind fun j => if aF j = true then (asL (heapOf s')[j]?).bind _ else none) = _
          rw [hd]
          rfl
        have hfin : finL s' = some u := by
          unfold finL
          rw [if_pos ⟨hb, hf⟩, hu]
          rfl
        rw [hfin]
        exact done (tD u) _ ((R.seq s1).trans ((R.seq (f.symm ▸ ho)).trans (R.ret ((R.vifT ((R.andT q1).trans ((R.andT q2).trans q3))).trans (R.lift ix))))) (by show 1 ≤ 8; decide)
      · rw [decide_eq_false (by have := List.length_pos_iff.mpr hf; omega)] at q2
        exact no ((R.andT q1).trans (R.andF q2)) (by unfold finL; rw [if_neg (fun z => hf z.2)])
  · rw [← f] at ho
    rw [hr]
    exact done .non e ((R.seq s1).trans (R.seqR ho)) he
end T73

set_option Elab.async false
set_option linter.all false
set_option maxRecDepth 100000
set_option maxHeartbeats 4000000
/-! M19: how deep a tree that is read may be; a tree equals itself; the texts told. -/
namespace T73
open PySem L2 DL
structure DS (o : Nat) (s : RS) : Prop where
  ex : ∃ B, B + s.low.length = o + 2 ∧ 2 ≤ B ∧ (∀ u ∈ s.top, Sm B (tD u)) ∧ ∀ r ∈ s.low, ∀ u ∈ r, Sm B (tD u)
theorem sm_leaf (p : List Nat) : Sm 2 (tD (leaf p)) := by
  show Sm 2 (.tup [dS p])
  refine ⟨fun d hd => ?_, by simp⟩
  rw [List.mem_singleton.mp hd]
  exact trivial
theorem ds_mono {o o' : Nat} {s : RS} (h : DS o s) (ho : o ≤ o') : DS o' s := by
  obtain ⟨B, h1, h2, h3, h4⟩ := h.ex
  exact ⟨B + (o' - o), by omega, by omega, fun u hu => (h3 u hu).up (by omega), fun r hr u hu => (h4 r hr u hu).up (by omega)⟩
theorem sm_att {B : Nat} {v : Tr} {ks : List Tr} (hB : 1 ≤ B) (hv : (kids v).length = 0) (hk : ∀ u ∈ ks, Sm B (tD u)) (hz : ks.length < 1000000) : Sm (B + 1) (tD (att v ks)) := by
  cases v with
  | node nm qs =>
    have hq : qs = [] := List.length_eq_zero_iff.mp hv
    subst hq
    show Sm (B + 1) (tD (.node nm ([] ++ ks)))
    rw [List.nil_append, tD, tDs_map]
    refine ⟨fun d hd => ?_, by simp; omega⟩
    rcases List.mem_cons.mp hd with rfl | hd
    · match B, hB with
      | B + 1, _ => exact trivial
    · obtain ⟨u, hu, rfl⟩ := List.mem_map.mp hd
      exact hk u hu
theorem ds_step {n o : Nat} {s s' : RS} {p : List Nat} (hs : SI n s) (hn : n < 1000000) (h : DS o s) (e : step s p = some s') : DS (o + p.count 40) s' := by
  obtain ⟨w, top, low⟩ := s
  obtain ⟨B, h1, h2, h3, h4⟩ := h.ex
  dsimp only at h1 h3 h4
  unfold step at e
  dsimp only at e
  split at e
  · split at e
    · cases e
      refine ds_mono (o := o) ⟨B, h1, h2, fun u hu => ?_, h4⟩ (Nat.le_add_right _ _)
      rcases List.mem_append.mp hu with hu | hu
      · exact h3 u hu
      · rw [List.mem_singleton.mp hu]
        exact (sm_leaf p).up h2
    · cases e
  · split at e
    · rename_i hc
      cases e
      rw [hc.1]
      refine ⟨B, by show B + (low.length + 1) = _; simp; omega, h2, (fun u hu => by cases hu), fun r hr u hu => ?_⟩
      rcases List.mem_cons.mp hr with rfl | hr
      · exact h3 u hu
      · exact h4 r hr u hu
    · split at e
      · cases e
        exact ds_mono (o := o) ⟨B, h1, h2, h3, h4⟩ (Nat.le_add_right _ _)
      · split at e
        · rename_i hc
          cases e
          match low, hc.2, hs, h1, h4 with
          | r :: low, _, hs, h1, h4 =>
            obtain ⟨v, hv, hk⟩ := hs.low r List.mem_cons_self
            have e1 : attL r top = r.dropLast ++ [att v top] := by
              unfold attL
              rw [hv]
            have z2 : top.length ≤ n := hs.z2
            refine ds_mono (o := o) ⟨B + 1, (by show B + 1 + low.length = _; simp at h1; omega), by omega, fun u hu => ?_, fun q hq u hu => (h4 q (List.mem_cons_of_mem _ hq) u hu).up (by omega)⟩ (Nat.le_add_right _ _)
            have hu : u ∈ attL r top := hu
            rw [e1] at hu
            rcases List.mem_append.mp hu with hu | hu
            · exact (h4 r List.mem_cons_self u ((List.dropLast_sublist r).subset hu)).up (by omega)
            · rw [List.mem_singleton.mp hu]
              exact sm_att (by omega) hk h3 (by omega)
        · cases e
theorem ds_run : ∀ (ps : List (List Nat)) (n o : Nat) (s s' : RS), SI n s → n + ps.length < 1000000 → DS o s → run s ps = some s' → DS (o + ps.flatten.count 40) s'
  | [], n, o, s, s', hs, hn, h, e => by
    cases e
    simpa using h
  | p :: ps, n, o, s, s', hs, hn, h, e => by
    obtain ⟨s1, e1, e2⟩ := Option.bind_eq_some_iff.mp (show (step s p).bind (fun s' => run s' ps) = some s' from e)
    rw [List.length_cons] at hn
    have := ds_run ps (n + 1) _ s1 s' (si_step hs e1) (by omega) (ds_step hs (by omega) h e1) e2
    rw [List.flatten_cons, List.count_append, ← Nat.add_assoc]
    exact this
theorem flush_flat (acc : List Nat) : (flush acc).flatten = acc := by
  unfold flush
  split
  · rename_i h; simp [h]
  · simp
theorem toks_flat : ∀ (l acc : List Nat), (toks acc l).flatten = acc ++ l
  | [], acc => by rw [toks, flush_flat, List.append_nil]
  | c :: l, acc => by
    show (if isP c = true then flush acc ++ [c] :: toks [] l else toks (acc ++ [c]) l).flatten = _
    split
    · rw [List.flatten_append, flush_flat, List.flatten_cons, toks_flat l []]
      simp
    · rw [toks_flat l]
      simp
theorem rd_deep {l : List Nat} {u : Tr} (h : rd l = some u) (hz : l.length ≤ 100000) : Sm (l.count 40 + 2) (tD u) := by
  obtain ⟨s', e1, e2⟩ := Option.bind_eq_some_iff.mp h
  have i0 : SI 0 ⟨true, [], []⟩ := ⟨(fun z => by cases z), (fun r hr => by cases hr), Nat.le_refl _, Nat.le_refl _, (fun r hr => by cases hr)⟩
  have d0 : DS 0 ⟨true, [], []⟩ := ⟨2, rfl, Nat.le_refl _, (fun u hu => by cases hu), (fun r hr => by cases hr)⟩
  have tl := (toks_len l []).1
  have d := ds_run (toks [] l) 0 0 _ s' i0 (by omega) d0 e1
  rw [toks_flat, List.nil_append, Nat.zero_add] at d
  obtain ⟨B, h1, h2, h3, h4⟩ := d.ex
  unfold fin at e2
  split at e2
  · rename_i hc
    rw [hc.2] at h1
    have hb : B = l.count 40 + 2 := by simpa using h1
    rw [← hb]
    refine h3 u ?_
    cases ht : s'.top with
    | nil => rw [ht] at e2; cases e2
    | cons a r =>
      rw [ht] at e2
      cases e2
      exact List.mem_cons_self
  · cases e2
/-! ### a tree equals itself -/
mutual
theorem eqv_self : ∀ d : D, noDk d = true → PyData.eqv (toP d) (toP d) = true
  | .non, _ => rfl
  | .bl b, _ => by simp [toP, PyData.eqv]
  | .int i, _ => by simp [toP, PyData.eqv]
  | .str s, _ => by simp [toP, PyData.eqv]
  | .tup ds, h => by rw [toP, PyData.eqv]; exact eqvs_self ds h
  | .lst ds, h => by rw [toP, PyData.eqv]; exact eqvs_self ds h
  | .dk _ _, h => by cases h
theorem eqvs_self : ∀ ds : List D, noDks ds = true → PyData.eqvAll (toPs ds) (toPs ds) = true
  | [], _ => rfl
  | d :: ds, h => by
    have h' : noDk d = true ∧ noDks ds = true := by
      rw [noDks] at h
      simpa using h
    rw [toPs, PyData.eqvAll, eqv_self d h'.1, eqvs_self ds h'.2]
    rfl
end
mutual
theorem nodk_t : ∀ t : Tr, noDk (tD t) = true
  | .node s ks => by
    rw [tD, noDk, noDks, nodk_ts ks]
    rfl
theorem nodk_ts : ∀ ts : List Tr, noDks (tDs ts) = true
  | [] => rfl
  | t :: ts => by rw [tDs, noDks, nodk_t t, nodk_ts ts]; rfl
end
theorem an_small {c : Nat} (h : AN c) : c < 0x110000 := by
  have : ∀ c ∈ SIGNS.cps.toList, c < 0x110000 := by decide +kernel
  exact this c h
theorem nm_ok {s : Str} (h : Nm s) : PyData.strOk s = true := by
  unfold PyData.strOk
  rw [Array.all_eq_true']
  intro c hc
  exact decide_eq_true (an_small (h.an c (Array.mem_toList_iff.mpr hc)))
mutual
theorem lay_t : ∀ t : Tr, OkT t → (toP (tD t)).canLay0 = true ∧ (toP (tD t)).depth ≤ cnt t
  | .node s ks, h => by
    obtain ⟨a, b⟩ := lay_ts ks h.2
    rw [tD, toP, toPs, toP]
    constructor
    · rw [PyData.canLay0, PyData.canLayAll0, PyData.canLay0, nm_ok h.1, a]
      rfl
    · rw [PyData.depth, PyData.depthAll, PyData.depth, cnt]
      omega
theorem lay_ts : ∀ ts : List Tr, OkTs ts → PyData.canLayAll0 (toPs (tDs ts)) = true ∧ PyData.depthAll (toPs (tDs ts)) ≤ cnts ts
  | [], _ => ⟨rfl, Nat.le_refl _⟩
  | t :: ts, h => by
    obtain ⟨a1, b1⟩ := lay_t t h.1
    obtain ⟨a, b⟩ := lay_ts ts h.2
    rw [tDs, toPs]
    constructor
    · rw [PyData.canLayAll0, a1, a]
      rfl
    · rw [PyData.depthAll, cnts]
      omega
end
theorem oNe_tree {t : Tr} (h : OkT t) (hc : cnt t ≤ 64) : oNe (tD t) (tD t) = some (.bl false) := by
  obtain ⟨a, b⟩ := lay_t t h
  have hs : SeqAt.shaped (toP (tD t)) = true := by
    unfold SeqAt.shaped
    rw [a, decide_eq_true (by omega)]
    rfl
  have hb : scB (tD t) (tD t) = false := by
    cases t with
    | node s ks => rw [tD]; rfl
  unfold oNe eqB
  rw [if_neg (by rw [hb]; exact Bool.false_ne_true)]
  unfold eqG
  rw [if_pos ⟨nodk_t t, nodk_t t, hs, hs⟩, eqv_self _ (nodk_t t)]
  rfl
/-! ### how many ( a shown tree has -/
theorem joinL_count : ∀ ls : List (List Nat), (joinL [44] ls).count 40 = (ls.map fun l => l.count 40).sum
  | [] => rfl
  | [x] => by simp [joinL]
  | x :: y :: r => by
    show (x ++ [44] ++ joinL [44] (y :: r)).count 40 = _
    rw [List.count_append, List.count_append, joinL_count (y :: r)]
    simp
theorem nm_count {s : Str} (h : Nm s) : (L s).count 40 = 0 := by
  refine List.count_eq_zero.mpr fun z => ?_
  have := an_notP (h.an 40 z)
  cases this
mutual
theorem shown_opens : ∀ t, OkT t → (shown t).count 40 ≤ cnt t
  | .node s [], h => by
    show (L s).count 40 ≤ _
    rw [nm_count h.1]
    exact Nat.zero_le _
  | .node s (k :: ks), h => by
    have ih := shows_opens (k :: ks) h.2
    show (L s ++ [40] ++ joinL [44] (shows (k :: ks)) ++ [41]).count 40 ≤ _
    rw [List.count_append, List.count_append, List.count_append, nm_count h.1, joinL_count, cnt]
    simp only [List.count_singleton]
    have e1 : (if (40 : Nat) == 40 then 1 else 0) = 1 := rfl
    have e2 : (if (41 : Nat) == 40 then 1 else 0) = 0 := rfl
    rw [e1, e2]
    omega
theorem shows_opens : ∀ ts, OkTs ts → ((shows ts).map fun l => l.count 40).sum ≤ cnts ts
  | [], _ => Nat.le_refl _
  | t :: ts, h => by
    have a := shown_opens t h.1
    have b := shows_opens ts h.2
    rw [shows, cnts, List.map_cons, List.sum_cons]
    omega
end
/-! ### what _law_told answers -/
theorem told_ok (t : Str) (hz : t.length ≤ 100000) : ∃ outs, s__law_told [.va .no (.str t)] = some (.ret (match rd (L t) with | some tr => .tup [.str (Str.ofString "told"), tD tr] | none => .tup [.str (Str.ofString "line"), .int 1]) outs) := by
  rcases read_tree_ok t hz with ⟨tr, h1, h2⟩ | ⟨h1, h2⟩
  · rw [h1]
    refine ⟨[.un], ?_⟩
    unfold s__law_told sTold
    dsimp only
    rw [h2]
  · rw [h1]
    refine ⟨[.un], ?_⟩
    unfold s__law_told sTold
    dsimp only
    rw [h2]
    rfl
theorem sm_line : Sm 200 (.tup [.str (Str.ofString "line"), .int 1]) := by
  refine ⟨fun d hd => ?_, by decide⟩
  rcases List.mem_cons.mp hd with rfl | hd
  · exact trivial
  · rw [List.mem_singleton.mp hd]
    exact trivial
theorem sm_told {u : Tr} {n : Nat} (h : Sm n (tD u)) (hn : n ≤ 199) : Sm 200 (.tup [.str (Str.ofString "told"), tD u]) := by
  refine ⟨fun d hd => ?_, by simp⟩
  rcases List.mem_cons.mp hd with rfl | hd
  · exact trivial
  · rw [List.mem_singleton.mp hd]
    exact h.up hn
end T73

set_option Elab.async false
set_option linter.all false
set_option maxRecDepth 100000
set_option maxHeartbeats 4000000
/-! M20: the law. -/
namespace T73
open PySem L2 DL
def oE (ns : List Int) (bag : D) (x2 x3 x4 x5 x6 x7 : Sl) : DL.Env := [.sc ns, .va (.own bF) bag, x2, x3, x4, x5, x6, x7]
theorem call1 {F : FSem} {p : EP1} {env : DL.Env} {x d : D} {outs : List Sl} (hp : p env = some x) (hF : F [.va .no x] = some (.ret d outs)) : vcallF (lenF 1 F) (vs1 (lift p) vs0) env = some (d, env) := R.callF (ds := [x]) (R.vs1 (R.lift hp) R.vs0) rfl hF
theorem same2 {v w : EV1} {env e1 e2 : DL.Env} {d : D} (h : Sm 200 d) (hv : v env = some (d, e1)) (hw : w e1 = some (d, e2)) : (qnot (tst (vcallF (lenF 2 (s__law_same 200)) (vs1 v (vs1 w vs0))))) env = some (false, e2) := by
  obtain ⟨outs, hs⟩ := same_ok 200 d h
  exact R.not (R.tst (R.callF (ds := [d, d]) (R.vs1 hv (R.vs1 hw R.vs0)) rfl hs))
abbrev otherBs : ES := sSeq (sSet 6 (vcallIO (lenF 2 s__law_spoilt) 1 (vs1 (lift (evar 4)) (vs0))))
  (sSeq (sIf (tst (v2 oEq (vcallIO (lenF 2 s__law_draw) 1 (vs1 (lift (cst (.int 3))) (vs0))) (lift (cst (.int 0)))))
  (sSet 6 (vcallIO (lenF 2 s__law_spoilt) 1 (vs1 (lift (evar 6)) (vs0))))
  (sNil))
  (sSeq (sSet 7 (vcallF (lenF 1 s__law_read) (vs1 (lift (evar 6)) (vs0))))
  (sIf (qnot (tst (vcallF (lenF 2 (s__law_same 200)) (vs1 (vcallF (lenF 1 s__law_told) (vs1 (lift (evar 6)) (vs0))) (vs1 (vif (tst (lift (e2 oIsN (evar 7) (cst .non)))) (lift (etup (es1 (cst (.str (PySem.Str.ofString "line"))) (es1 (cst (.int 1)) (es0))))) (lift (etup (es1 (cst (.str (PySem.Str.ofString "told"))) (es1 (evar 7) (es0)))))) (vs0))))))
  (sRet (lift (cst (.bl false))))
  (sNil))))
section
variable {ns : List Int} {bag : D} {x2 x3 x4 x5 x6 x7 : Sl}
theorem spoil_at {bag : D} {s : Str} {i : Nat} (hb : Bag bag) (hz : s.length ≤ 100000) (hi : evar i (oE ns bag x2 x3 x4 x5 x6 x7) = some (.str s)) : ∃ (bag' : D) (s' : Str), (sSet 6 (vcallIO (lenF 2 s__law_spoilt) 1 (vs1 (lift (evar i)) (vs0)))) (oE ns bag x2 x3 x4 x5 x6 x7) = some (.nx (oE ns bag' x2 x3 x4 x5 (.va .no (.str s')) x7)) ∧ Bag bag' ∧ s'.length ≤ 2 * s.length + 10 ∧ opens s' ≤ 2 * opens s + 1 := by
  obtain ⟨bag', s', e, hb', h1, h2⟩ := spoilt_ok hb hz
  have c := R.callO (n := 2) (i := 1) (env := oE ns bag x2 x3 x4 x5 x6 x7) (e := oE ns bag x2 x3 x4 x5 x6 x7) (ds := [.str s]) (ps := vs1 (lift (evar i)) vs0) (R.vs1 (R.lift hi) R.vs0) rfl rfl rfl e
  exact ⟨bag', s', R.set c (by show 6 < 8; decide), hb', h1, h2⟩
/-- what is told of a text, and what is due -/
theorem due_q {s : Str} (hz : s.length ≤ 100000) (ho : opens s ≤ 197) : ∃ x7', (∀ rest : ES, (sSeq (sSet 7 (vcallF (lenF 1 s__law_read) (vs1 (lift (evar 6)) (vs0)))) rest) (oE ns bag x2 x3 x4 x5 (.va .no (.str s)) x7) = rest (oE ns bag x2 x3 x4 x5 (.va .no (.str s)) x7')) ∧
    (qnot (tst (vcallF (lenF 2 (s__law_same 200)) (vs1 (vcallF (lenF 1 s__law_told) (vs1 (lift (evar 6)) (vs0))) (vs1 (vif (tst (lift (e2 oIsN (evar 7) (cst .non)))) (lift (etup (es1 (cst (.str (PySem.Str.ofString "line"))) (es1 (cst (.int 1)) (es0))))) (lift (etup (es1 (cst (.str (PySem.Str.ofString "told"))) (es1 (evar 7) (es0)))))) (vs0)))))) (oE ns bag x2 x3 x4 x5 (.va .no (.str s)) x7') = some (false, oE ns bag x2 x3 x4 x5 (.va .no (.str s)) x7') := by
  obtain ⟨o1, h1⟩ := lread_ok s hz
  obtain ⟨o2, h2⟩ := told_ok s hz
  have hl : (L s).length ≤ 100000 := by rw [← len_L]; exact hz
  cases hr : rd (L s) with
  | none =>
    rw [hr] at h1 h2
    refine ⟨.va .no .non, fun rest => R.seq (R.set (call1 (x := .str s) rfl h1) (by show 7 < 8; decide)), same2 sm_line (call1 (x := .str s) rfl h2) ((R.vifT (e := oE ns bag x2 x3 x4 x5 (.va .no (.str s)) (.va .no .non)) rfl).trans rfl)⟩
  | some u =>
    rw [hr] at h1 h2
    have hd := rd_deep hr hl
    have hi : isN (tD u) = false := by
      cases u with
      | node a b => rw [tD]; rfl
    have q : (tst (lift (e2 oIsN (evar 7) (cst .non)))) (oE ns bag x2 x3 x4 x5 (.va .no (.str s)) (.va .no (tD u))) = some (false, oE ns bag x2 x3 x4 x5 (.va .no (.str s)) (.va .no (tD u))) := R.tstL ((R.e2 (x := tD u) (y := .non) rfl rfl).trans (by
      unfold oIsN
      rw [hi]
      rfl))
    refine ⟨.va .no (tD u), fun rest => R.seq (R.set (call1 (x := .str s) rfl h1) (by show 7 < 8; decide)), same2 (sm_told hd (by show opens s + 2 ≤ 199; omega)) (call1 (x := .str s) rfl h2) ((R.vifF q).trans rfl)⟩
theorem other_ok {s : Str} (hb : Bag bag) (hz : s.length ≤ 506) (ho : opens s ≤ 46) : ∃ bag' x6' x7', otherBs (oE ns bag x2 x3 (.va .no (.str s)) x5 x6 x7) = some (.nx (oE ns bag' x2 x3 (.va .no (.str s)) x5 x6' x7')) ∧ Bag bag' := by
  obtain ⟨bag1, s1, e1, hb1, l1, p1⟩ := spoil_at (ns := ns) (x2 := x2) (x3 := x3) (x4 := .va .no (.str s)) (x5 := x5) (x6 := x6) (x7 := x7) (i := 4) hb (by omega) rfl
  obtain ⟨k, bag2, e2', hb2, k0, k1⟩ := draw_at (i := 1) (F := bF) (env := oE ns bag1 x2 x3 (.va .no (.str s)) x5 (.va .no (.str s1)) x7) (e := oE ns bag1 x2 x3 (.va .no (.str s)) x5 (.va .no (.str s1)) x7) (many := 3) (ps := vs1 (lift (cst (.int 3))) vs0) hb1 (by decide) (by decide) rfl rfl rfl
  have q : (tst (v2 oEq (vcallIO (lenF 2 s__law_draw) 1 (vs1 (lift (cst (.int 3))) (vs0))) (lift (cst (.int 0))))) (oE ns bag1 x2 x3 (.va .no (.str s)) x5 (.va .no (.str s1)) x7) = some (decide (k = 0), oE ns bag2 x2 x3 (.va .no (.str s)) x5 (.va .no (.str s1)) x7) := R.tst (R.v2 e2' (R.lift rfl) oEq_int)
  have mid : ∃ (bag3 : D) (s2 : Str), (sIf (tst (v2 oEq (vcallIO (lenF 2 s__law_draw) 1 (vs1 (lift (cst (.int 3))) (vs0))) (lift (cst (.int 0))))) (sSet 6 (vcallIO (lenF 2 s__law_spoilt) 1 (vs1 (lift (evar 6)) (vs0)))) (sNil)) (oE ns bag1 x2 x3 (.va .no (.str s)) x5 (.va .no (.str s1)) x7) = some (.nx (oE ns bag3 x2 x3 (.va .no (.str s)) x5 (.va .no (.str s2)) x7)) ∧ Bag bag3 ∧ s2.length ≤ 3000 ∧ opens s2 ≤ 197 := by
    by_cases h : k = 0
    · rw [decide_eq_true h] at q
      obtain ⟨bag3, s2, e3, hb3, l3, p3⟩ := spoil_at (ns := ns) (x2 := x2) (x3 := x3) (x4 := .va .no (.str s)) (x5 := x5) (x6 := .va .no (.str s1)) (x7 := x7) (i := 6) hb2 (s := s1) (by omega) rfl
      exact ⟨bag3, s2, (R.ifT q).trans e3, hb3, by omega, by omega⟩
    · rw [decide_eq_false h] at q
      exact ⟨bag2, s1, (R.ifF q).trans rfl, hb2, by omega, by omega⟩
  obtain ⟨bag3, s2, e3, hb3, l3, p3⟩ := mid
  obtain ⟨x7', d1, d2⟩ := due_q (ns := ns) (bag := bag3) (x2 := x2) (x3 := x3) (x4 := .va .no (.str s)) (x5 := x5) (x7 := x7) (s := s2) (by omega) p3
  exact ⟨bag3, _, x7', (R.seq e1).trans ((R.seq e3).trans ((d1 _).trans ((R.ifF d2).trans rfl))), hb3⟩
abbrev treeB : ES := sSeq (sSet 3 (vcallIO (lenF 1 s__law_drawn_tree) 1 (vs0)))
  (sSeq (sSet 4 (vif (tst (lift (e2 oGt (evar 2) (cst (.int 0))))) (vcallF (lenF 1 (s_show_tree 64)) (vs1 (lift (evar 3)) (vs0))) (vcallF (lenF 1 (s_show_tree 64)) (vs1 (lift (evar 3)) vs0))))
  (sSeq (sIf (qor (qnot (tst (vcallF (lenF 2 (s__law_same 200)) (vs1 (lift (evar 4)) (vs1 (vcallF (lenF 1 (s__law_shown 64)) (vs1 (lift (evar 3)) (vs0))) (vs0)))))) (qor (tst (v2 oNe (vcallF (lenF 1 s__law_read) (vs1 (lift (evar 4)) (vs0))) (lift (evar 3)))) (qnot (tst (vcallF (lenF 2 (s__law_same 200)) (vs1 (vcallF (lenF 1 s_read_tree) (vs1 (lift (evar 4)) (vs0))) (vs1 (lift (evar 3)) (vs0))))))))
  (sRet (lift (cst (.bl false))))
  (sNil))
  (sSeq (sIf (qnot (tst (vcallF (lenF 2 (s__law_same 200)) (vs1 (vcallF (lenF 1 s_read_tree) (vs1 (lift (evar 4)) vs0)) (vs1 (lift (evar 3)) (vs0))))))
  (sRet (lift (cst (.bl false))))
  (sNil))
  (sFor ((fun env => itR1 ((vs1 (lift (cst (.int 6))) (vs0)) env))) (tgN 5) otherBs))))
theorem tree_ok {i : Int} (hb : Bag bag) : ∃ bag' x3' x4' x5' x6' x7', treeB (oE ns bag (.va .no (.int i)) x3 x4 x5 x6 x7) = some (.nx (oE ns bag' (.va .no (.int i)) x3' x4' x5' x6' x7')) ∧ Bag bag' := by
  obtain ⟨bag1, u, hd, hb1, hok, hc⟩ := drawn_ok hb
  have c1 := R.callO (n := 1) (i := 1) (env := oE ns bag (.va .no (.int i)) x3 x4 x5 x6 x7) (e := oE ns bag (.va .no (.int i)) x3 x4 x5 x6 x7) (ds := []) (ps := vs0) rfl rfl rfl rfl hd
  have s1 : (sSet 3 (vcallIO (lenF 1 s__law_drawn_tree) 1 (vs0))) (oE ns bag (.va .no (.int i)) x3 x4 x5 x6 x7) = some (.nx (oE ns bag1 (.va .no (.int i)) (.va .no (tD u)) x4 x5 x6 x7)) := R.set c1 (by show 3 < 8; decide)
  obtain ⟨o1, hs⟩ := show_ok 64 u hok (by omega) hc
  obtain ⟨o2, hl⟩ := lshow_ok 64 u hok (by omega) hc
  obtain ⟨t, et⟩ : ∃ t, t = mk (shown u) := ⟨_, rfl⟩
  rw [← et] at hs hl
  have hLt : L t = shown u := by rw [et, L_mk]
  have hlen := shown_len u hok
  have tz : t.length ≤ 506 := by rw [len_L, hLt]; omega
  have to : opens t ≤ 46 := by
    have := shown_opens u hok
    unfold opens
    rw [hLt]
    omega
  have hrd : rd (L t) = some u := by rw [hLt]; exact rd_shown hok
  obtain ⟨o3, hr⟩ := lread_ok t (by omega)
  rw [hrd] at hr
  have hrt : s_read_tree [.va .no (.str t)] = some (.ret (tD u) [.un]) := by
    rcases read_tree_ok t (by omega) with ⟨tr, h1, h2⟩ | ⟨h1, h2⟩
    · rw [hrd] at h1
      cases h1
      exact h2
    · rw [hrd] at h1
      cases h1
  have smu : Sm 200 (tD u) := by
    have := rd_deep hrd (by rw [← len_L]; omega)
    exact this.up (by show opens t + 2 ≤ 200; omega)
  have s2 : (sSet 4 (vif (tst (lift (e2 oGt (evar 2) (cst (.int 0))))) (vcallF (lenF 1 (s_show_tree 64)) (vs1 (lift (evar 3)) (vs0))) (vcallF (lenF 1 (s_show_tree 64)) (vs1 (lift (evar 3)) vs0)))) (oE ns bag1 (.va .no (.int i)) (.va .no (tD u)) x4 x5 x6 x7) = some (.nx (oE ns bag1 (.va .no (.int i)) (.va .no (tD u)) (.va .no (.str t)) x5 x6 x7)) := by
    have c : (vcallF (lenF 1 (s_show_tree 64)) (vs1 (lift (evar 3)) (vs0))) (oE ns bag1 (.va .no (.int i)) (.va .no (tD u)) x4 x5 x6 x7) = some (.str t, oE ns bag1 (.va .no (.int i)) (.va .no (tD u)) x4 x5 x6 x7) := call1 (x := tD u) rfl hs
    have q : (tst (lift (e2 oGt (evar 2) (cst (.int 0))))) (oE ns bag1 (.va .no (.int i)) (.va .no (tD u)) x4 x5 x6 x7) = some (decide (0 < i), oE ns bag1 (.va .no (.int i)) (.va .no (tD u)) x4 x5 x6 x7) := rfl
    have v : (vif (tst (lift (e2 oGt (evar 2) (cst (.int 0))))) (vcallF (lenF 1 (s_show_tree 64)) (vs1 (lift (evar 3)) (vs0))) (vcallF (lenF 1 (s_show_tree 64)) (vs1 (lift (evar 3)) vs0))) (oE ns bag1 (.va .no (.int i)) (.va .no (tD u)) x4 x5 x6 x7) = some (.str t, oE ns bag1 (.va .no (.int i)) (.va .no (tD u)) x4 x5 x6 x7) := by
      by_cases h : 0 < i
      · rw [decide_eq_true h] at q
        exact (R.vifT q).trans c
      · rw [decide_eq_false h] at q
        exact (R.vifF q).trans c
    exact R.set v (by show 4 < 8; decide)
  obtain ⟨E, hE⟩ : ∃ E, E = oE ns bag1 (.va .no (.int i)) (.va .no (tD u)) (.va .no (.str t)) x5 x6 x7 := ⟨_, rfl⟩
  have v3 : evar 3 E = some (tD u) := by rw [hE]; rfl
  have v4 : evar 4 E = some (.str t) := by rw [hE]; rfl
  have q1 : (qnot (tst (vcallF (lenF 2 (s__law_same 200)) (vs1 (lift (evar 4)) (vs1 (vcallF (lenF 1 (s__law_shown 64)) (vs1 (lift (evar 3)) (vs0))) (vs0)))))) E = some (false, E) := same2 (d := .str t) trivial (R.lift v4) (call1 v3 hl)
  have q2 : (tst (v2 oNe (vcallF (lenF 1 s__law_read) (vs1 (lift (evar 4)) (vs0))) (lift (evar 3)))) E = some (false, E) := R.tst (R.v2 (call1 v4 hr) (R.lift v3) (oNe_tree hok (by omega)))
  have q3 : (qnot (tst (vcallF (lenF 2 (s__law_same 200)) (vs1 (vcallF (lenF 1 s_read_tree) (vs1 (lift (evar 4)) (vs0))) (vs1 (lift (evar 3)) (vs0)))))) E = some (false, E) := same2 smu (call1 v4 hrt) (R.lift v3)
  rw [← hE] at s2
  have lp : ∃ bag' x5' x6' x7', (sFor ((fun env => itR1 ((vs1 (lift (cst (.int 6))) (vs0)) env))) (tgN 5) otherBs) E = some (.nx (oE ns bag' (.va .no (.int i)) (.va .no (tD u)) (.va .no (.str t)) x5' x6' x7')) ∧ Bag bag' := by
    have it : (fun env => itR1 ((vs1 (lift (cst (.int 6))) (vs0)) env)) E = some (rngL 0 6, E) := rfl
    refine R.for (P := fun o => ∃ bag' x5' x6' x7', o = some (.nx (oE ns bag' (.va .no (.int i)) (.va .no (tD u)) (.va .no (.str t)) x5' x6' x7')) ∧ Bag bag') (it := fun env => itR1 ((vs1 (lift (cst (.int 6))) (vs0)) env)) it ?_
    refine R.loop (tgs := tgN 5) (body := otherBs) (P := fun o => ∃ bag' x5' x6' x7', o = some (.nx (oE ns bag' (.va .no (.int i)) (.va .no (tD u)) (.va .no (.str t)) x5' x6' x7')) ∧ Bag bag')
      (fun r e => ∃ bag' x5' x6' x7', e = oE ns bag' (.va .no (.int i)) (.va .no (tD u)) (.va .no (.str t)) x5' x6' x7' ∧ Bag bag') ?_ ?_ _ _ ⟨bag1, x5, x6, x7, hE, hb1⟩
    · rintro d r e ⟨bg, y5, y6, y7, rfl, hbg⟩
      obtain ⟨bg2, z6, z7, h, hbg2⟩ := other_ok (ns := ns) (x2 := .va .no (.int i)) (x3 := .va .no (tD u)) (x5 := .va .no d) (x6 := y6) (x7 := y7) hbg tz to
      exact ⟨_, rfl, .inl ⟨_, h, bg2, _, _, _, rfl, hbg2⟩⟩
    · rintro e ⟨bg, y5, y6, y7, rfl, hbg⟩
      exact ⟨bg, y5, y6, y7, rfl, hbg⟩
  obtain ⟨bag', x5', x6', x7', hlp, hb'⟩ := lp
  exact ⟨bag', _, _, x5', x6', x7', (R.seq s1).trans ((R.seq s2).trans ((R.seq ((R.ifF ((R.orF q1).trans ((R.orF q2).trans q3))).trans rfl)).trans ((R.seq ((R.ifF q3).trans rfl)).trans hlp))), hb'⟩
abbrev wrongB : ES := sIf (qor (tst (v2 oNotN (vcallF (lenF 1 s__law_read) (vs1 (lift (evar 4)) (vs0))) (lift (cst .non)))) (qnot (tst (vcallF (lenF 2 (s__law_same 200)) (vs1 (vcallF (lenF 1 s__law_told) (vs1 (lift (evar 4)) (vs0))) (vs1 (lift (etup (es1 (cst (.str (PySem.Str.ofString "line"))) (es1 (cst (.int 1)) (es0))))) (vs0)))))))
  (sRet (lift (cst (.bl false))))
  (sNil)
def wrongs : List Str := ["", "a(", "a()", "a,b", "(a)", "a(b", "a(b))", "a(b,)", "a b", "abcdefghi", "a(,b)", "a(b)(c)"]
def isNo (s : Str) : Bool := match rd (L s) with | none => true | some _ => false
theorem wrongs_ok : ∀ s ∈ wrongs, isNo s = true ∧ s.length ≤ 100 := by decide +kernel
theorem wrong_ok {s : Str} (h : isNo s = true) (hz : s.length ≤ 100) : wrongB (oE ns bag x2 x3 (.va .no (.str s)) x5 x6 x7) = some (.nx (oE ns bag x2 x3 (.va .no (.str s)) x5 x6 x7)) := by
  have hr : rd (L s) = none := by
    unfold isNo at h
    split at h
    · assumption
    · cases h
  obtain ⟨o1, h1⟩ := lread_ok s (by omega)
  obtain ⟨o2, h2⟩ := told_ok s (by omega)
  rw [hr] at h1 h2
  have q1 : (tst (v2 oNotN (vcallF (lenF 1 s__law_read) (vs1 (lift (evar 4)) (vs0))) (lift (cst .non)))) (oE ns bag x2 x3 (.va .no (.str s)) x5 x6 x7) = some (false, oE ns bag x2 x3 (.va .no (.str s)) x5 x6 x7) := R.tst (R.v2 (call1 (x := .str s) rfl h1) (R.lift rfl) rfl)
  have q2 := same2 (v := vcallF (lenF 1 s__law_told) (vs1 (lift (evar 4)) (vs0))) (w := lift (etup (es1 (cst (.str (PySem.Str.ofString "line"))) (es1 (cst (.int 1)) (es0))))) (env := oE ns bag x2 x3 (.va .no (.str s)) x5 x6 x7) sm_line (call1 (x := .str s) rfl h2) (R.lift rfl)
  exact (R.ifF ((R.orF q1).trans q2)).trans rfl
end
theorem law_true : LawTrue := by
  intro ns hn _
  obtain ⟨bag, eb, hb⟩ := bag_ok ns (by omega)
  have s1 : (sSetX 1 (xcallSc s__law_bag 0)) [.sc ns, .un, .un, .un, .un, .un, .un, .un] = some (.nx (oE ns bag .un .un .un .un .un .un)) := by
    unfold sSetX xcallSc
    show (((s__law_bag [.sc ns]).map _).bind _) = _
    rw [eb]
    rfl
  have lp1 : ∃ bag' x2 x3 x4 x5 x6 x7, (sFor ((fun env => itR1 ((vs1 (lift (cst (.int 5))) (vs0)) env))) (tgN 2) treeB) (oE ns bag .un .un .un .un .un .un) = some (.nx (oE ns bag' x2 x3 x4 x5 x6 x7)) ∧ Bag bag' := by
    have it : (fun env => itR1 ((vs1 (lift (cst (.int 5))) (vs0)) env)) (oE ns bag .un .un .un .un .un .un) = some (rngL 0 5, oE ns bag .un .un .un .un .un .un) := rfl
    refine R.for (P := fun o => ∃ bag' x2 x3 x4 x5 x6 x7, o = some (.nx (oE ns bag' x2 x3 x4 x5 x6 x7)) ∧ Bag bag') (it := fun env => itR1 ((vs1 (lift (cst (.int 5))) (vs0)) env)) it ?_
    refine R.loop (tgs := tgN 2) (body := treeB) (P := fun o => ∃ bag' x2 x3 x4 x5 x6 x7, o = some (.nx (oE ns bag' x2 x3 x4 x5 x6 x7)) ∧ Bag bag')
      (fun r e => (∃ bag' x2 x3 x4 x5 x6 x7, e = oE ns bag' x2 x3 x4 x5 x6 x7 ∧ Bag bag') ∧ ∀ d ∈ r, ∃ i : Int, d = .int i) ?_ ?_ _ _ ⟨⟨bag, _, _, _, _, _, _, rfl, hb⟩, fun d hd => ?_⟩
    · rintro d r e ⟨⟨bg, y2, y3, y4, y5, y6, y7, rfl, hbg⟩, hr⟩
      obtain ⟨i, rfl⟩ := hr d List.mem_cons_self
      obtain ⟨bg2, z3, z4, z5, z6, z7, h, hbg2⟩ := tree_ok (ns := ns) (x3 := y3) (x4 := y4) (x5 := y5) (x6 := y6) (x7 := y7) (i := i) hbg
      exact ⟨_, rfl, .inl ⟨_, h, ⟨bg2, _, _, _, _, _, _, rfl, hbg2⟩, fun d hd => hr d (List.mem_cons_of_mem _ hd)⟩⟩
    · rintro e ⟨⟨bg, y2, y3, y4, y5, y6, y7, rfl, hbg⟩, _⟩
      exact ⟨bg, y2, y3, y4, y5, y6, y7, rfl, hbg⟩
    · obtain ⟨j, _, rfl⟩ := mem_rng hd
      exact ⟨_, rfl⟩
  obtain ⟨bag1, x2, x3, x4, x5, x6, x7, hl1, hb1⟩ := lp1
  have lp2 : ∃ x4', (sFor ((fun env => itL ((vlst (nlst (vs1 (lift (cst (.str (PySem.Str.ofString "")))) (vs1 (lift (cst (.str (PySem.Str.ofString "a(")))) (vs1 (lift (cst (.str (PySem.Str.ofString "a()")))) (vs1 (lift (cst (.str (PySem.Str.ofString "a,b")))) (vs1 (lift (cst (.str (PySem.Str.ofString "(a)")))) (vs1 (lift (cst (.str (PySem.Str.ofString "a(b")))) (vs1 (lift (cst (.str (PySem.Str.ofString "a(b))")))) (vs1 (lift (cst (.str (PySem.Str.ofString "a(b,)")))) (vs1 (lift (cst (.str (PySem.Str.ofString "a b")))) (vs1 (lift (cst (.str (PySem.Str.ofString "abcdefghi")))) (vs1 (lift (cst (.str (PySem.Str.ofString "a(,b)")))) (vs1 (lift (cst (.str (PySem.Str.ofString "a(b)(c)")))) (vs0))))))))))))))) env))) (tgN 4) wrongB) (oE ns bag1 x2 x3 x4 x5 x6 x7) = some (.nx (oE ns bag1 x2 x3 x4' x5 x6 x7)) := by
    refine R.for (P := fun o => ∃ x4', o = some (.nx (oE ns bag1 x2 x3 x4' x5 x6 x7))) (ds := wrongs.map D.str) (e := oE ns bag1 x2 x3 x4 x5 x6 x7) rfl ?_
    refine R.loop (tgs := tgN 4) (body := wrongB) (P := fun o => ∃ x4', o = some (.nx (oE ns bag1 x2 x3 x4' x5 x6 x7)))
      (fun r e => (∃ x4', e = oE ns bag1 x2 x3 x4' x5 x6 x7) ∧ ∀ d ∈ r, ∃ s : Str, d = .str s ∧ isNo s = true ∧ s.length ≤ 100) ?_ ?_ _ _ ⟨⟨x4, rfl⟩, fun d hd => ?_⟩
    · rintro d r e ⟨⟨y4, rfl⟩, hr⟩
      obtain ⟨s, rfl, h1, h2⟩ := hr d List.mem_cons_self
      exact ⟨_, rfl, .inl ⟨_, wrong_ok (ns := ns) (bag := bag1) (x2 := x2) (x3 := x3) (x5 := x5) (x6 := x6) (x7 := x7) h1 h2, ⟨_, rfl⟩, fun d hd => hr d (List.mem_cons_of_mem _ hd)⟩⟩
    · rintro e ⟨⟨y4, rfl⟩, _⟩
      exact ⟨y4, rfl⟩
    · obtain ⟨s, hs, rfl⟩ := List.mem_map.mp hd
      exact ⟨s, rfl, wrongs_ok s hs⟩
  obtain ⟨x4', hl2⟩ := lp2
  have z : b_law [.sc ns, .un, .un, .un, .un, .un, .un, .un] = some (.rt (.bl true) (oE ns bag1 x2 x3 x4' x5 x6 x7)) := (R.seq s1).trans ((R.seq hl1).trans ((R.seq hl2).trans (R.ret (R.lift rfl))))
  exact ⟨_, R.fn (n := 1) (N := 8) (body := b_law) (args := [.sc ns]) z (by show 1 ≤ 8; decide)⟩
end T73

set_option Elab.async false
set_option linter.all false
open PySem PySem.W PyProof.Rows
set_option maxRecDepth 100000 in
set_option maxHeartbeats 0 in
theorem PySem.Challenge.cw_onelot_k73_trees_as_texts_holds : PySem.Challenge.rw_onelot_k73_trees_as_texts.Holds := by
  w_on; o_law; k_head; (case hw => w_witness2)
  k_fill
  refine DL.walk_tabs (l := PySem.Challenge.rw_onelot_k73_trees_as_texts) (n := 63) (k := 202) (x := "script") (CX := fun _ => L2.CX0) rfl (by decide) rfl ⟨rfl, by decide, by decide⟩ (fun w h Y => PySem.W.kIn_of Y) ?F (fun _ _ _ _ _ z => z)
  case F =>
    intro w mg fa h Y KX G hmg TBS
    refine' T73.all_mk KX G hmg TBS T73.law_true rfl ?a0 ?l0 ?c0 ?k0 ?a1 ?l1 ?c1 ?k1 ?a2 ?l2 ?c2 ?k2 ?a3 ?l3 ?c3 ?k3 ?a4 ?l4 ?c4 ?k4 ?a5 ?l5 ?c5 ?k5 ?a6 ?l6 ?c6 ?k6 ?a7 ?l7 ?c7 ?k7 ?a8 ?l8 ?c8 ?k8 ?a9 ?l9 ?c9 ?k9 ?a10 ?l10 ?c10 ?k10 ?a11 ?l11 ?c11 ?k11 ?a12 ?l12 ?c12 ?k12 ?a13 ?l13 ?c13 ?k13 ?a14 ?l14 ?c14 ?k14 ?a15 ?l15 ?c15 ?k15 ?z_abs ?z_all ?z_bool ?z_int ?z_isinstance ?z_len ?z_range ?z_str ?z_super ?z_tuple ?cs ?xcc ?xpt ?xno ?rec ?aC ?xL ?hbm ?sa ?ga ?gg ?nb ?aI ?tI ?lI ?cI ?xcd ?xfl ?xfe ?xce ?kC ?eC ?tC ?hC ?iC ?sC ?al ?op ?vC ?mC ?tp
    (case a0 => k_is)
    (case l0 => k_is)
    (case c0 => k_is)
    (case k0 => k_is)
    (case a1 => k_is)
    (case l1 => k_is)
    (case c1 => k_is)
    (case k1 => k_is)
    (case a2 => k_is)
    (case l2 => k_is)
    (case c2 => k_is)
    (case k2 => k_is)
    (case a3 => k_is)
    (case l3 => k_is)
    (case c3 => k_is)
    (case k3 => k_is)
    (case a4 => k_is)
    (case l4 => k_is)
    (case c4 => k_is)
    (case k4 => k_is)
    (case a5 => k_is)
    (case l5 => k_is)
    (case c5 => k_is)
    (case k5 => k_is)
    (case a6 => k_is)
    (case l6 => k_is)
    (case c6 => k_is)
    (case k6 => k_is)
    (case a7 => k_is)
    (case l7 => k_is)
    (case c7 => k_is)
    (case k7 => k_is)
    (case a8 => k_is)
    (case l8 => k_is)
    (case c8 => k_is)
    (case k8 => k_is)
    (case a9 => k_is)
    (case l9 => k_is)
    (case c9 => k_is)
    (case k9 => k_is)
    (case a10 => k_is)
    (case l10 => k_is)
    (case c10 => k_is)
    (case k10 => k_is)
    (case a11 => k_is)
    (case l11 => k_is)
    (case c11 => k_is)
    (case k11 => k_is)
    (case a12 => k_is)
    (case l12 => k_is)
    (case c12 => k_is)
    (case k12 => k_is)
    (case a13 => k_is)
    (case l13 => k_is)
    (case c13 => k_is)
    (case k13 => k_is)
    (case a14 => k_is)
    (case l14 => k_is)
    (case c14 => k_is)
    (case k14 => k_is)
    (case a15 => k_is)
    (case l15 => k_is)
    (case c15 => k_is)
    (case k15 => k_is)
    (case z_abs => k_is)
    (case z_all => k_is)
    (case z_bool => k_is)
    (case z_int => k_is)
    (case z_isinstance => k_is)
    (case z_len => k_is)
    (case z_range => k_is)
    (case z_str => k_is)
    (case z_super => k_is)
    (case z_tuple => k_is)
    (case cs => k_is)
    (case xcc => k_is)
    (case xpt => rfl)
    (case xno => rfl)
    (case rec => decide +kernel)
    (case aC => k_is)
    (case xL => k_is)
    (case hbm => decide +kernel)
    (case sa => k_is)
    (case ga => k_is)
    (case gg => k_is)
    (case nb => k_is)
    (case aI => k_is)
    (case tI => k_is)
    (case lI => k_is)
    (case cI => k_is)
    (case xcd => k_is)
    (case xfl => rfl)
    (case xfe => decide +kernel)
    (case xce => k_is)
    (case kC => k_is)
    (case eC => k_is)
    (case tC => k_is)
    (case hC => k_is)
    (case iC => k_is)
    (case sC => first | rfl | k_is)
    (case al => ks_is)
    (case op => k_is)
    (case vC => k_is)
    (case mC => k_is)
    (case tp => decide +kernel)
#print axioms PySem.Challenge.cw_onelot_k73_trees_as_texts_holds

