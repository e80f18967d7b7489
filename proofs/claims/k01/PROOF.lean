import PyProof.Rows.All
import Wide.All
import OpenK.AllK
import Wide.FinOn
import HandS.ForMost
import HandS.ForExc
import HandS.Wide
import HandS.Star
import HandS.CallSlots
import HandS.WordsExc
import HandS.Flow
import HandS.IsInst
import HandS.Deep
import HandS.TupAny
import HandS.FStr
import HandS.EndBits
import HandS.TupMul
import HandS.RaiseMore
import HandS.Small
import HandS.ExcField
import HandS.ExcIs
import HandS.Defaults
import PySem.Challenge.RW_seesmore_k01_watchers_read_and_written
set_option Elab.async false
set_option linter.all false
set_option maxRecDepth 100000
set_option maxHeartbeats 2000000
/-! PD: Python by data: values as trees (D), a store of the few objects that change (Om), a small language (E, S) and what it computes; behind it the proof that the machine computes the same. -/
namespace PD
open PySem PySem.Spec PyProof.Rows L2

/-! ### data -/
inductive D where
  | non | bl (b : Bool) | int (i : Int) | str (s : Str)
  | lst (ds : List D) | tup (ds : List D) | obj (c : Nat) (fs : List D) | amb (k : Nat) | scr (ds : List D)
  deriving Inhabited
inductive Cell where
  | no | val (d : D) | own (ds : List D) | newo (c : Nat) (fs : List D) | exn
  deriving Inhabited
inductive Ob where
  | pl (ds : List D) | ob (c : Nat) (fs : List D) | dc (ks : List L2.Key) (ds : List D)
  deriving Inhabited
abbrev Om := List Ob
abbrev Sl := List Cell
inductive Rs (α : Type) where
  | stuck | ok (a : α) (om : Om) | exc (c : Nat) (fs : List D) (om : Om)
def Rs.bind {α β : Type} (x : Rs α) (f : α → Om → Rs β) : Rs β := match x with
  | .stuck => .stuck
  | .ok a om => f a om
  | .exc c fs om => .exc c fs om
theorem bind_ok {α β : Type} {a : α} {om : Om} {f : α → Om → Rs β} : (Rs.ok a om).bind f = f a om := rfl
theorem bind_exc {α β : Type} {c : Nat} {fs : List D} {om : Om} {f : α → Om → Rs β} : (Rs.exc c fs om : Rs α).bind f = .exc c fs om := rfl
theorem bind_stuck {α β : Type} {f : α → Om → Rs β} : (Rs.stuck : Rs α).bind f = .stuck := rfl

mutual
def toP : D → Option PyData
  | .non => some .none
  | .bl b => some (.bool b)
  | .int i => some (.int i)
  | .str s => some (.str s)
  | .lst ds => (toPs ds).map .list
  | .tup ds => (toPs ds).map .tuple
  | .obj _ _ => none
  | .amb _ => none
  | .scr _ => none
def toPs : List D → Option (List PyData)
  | [] => some []
  | d :: ds => match toP d with
    | some p => match toPs ds with
      | some ps => some (p :: ps)
      | none => none
    | none => none
end

/-! ### data in the heap -/
/-- where classes stand, and their fields in order -/
structure Lk where
  ca : Nat → Addr
  fn : Nat → List Str
  /-- the caught exception: where it stands; its dict, its field -/
  xa : Option (Addr × Option (Addr × Str × V)) := none
mutual
inductive Rep (K : PySem.W.Frag) (L : Lk) (G : Hp) (am : List Addr) : D → V → Prop
  | non : Rep K L G am .non .non
  | bl (b : Bool) : Rep K L G am (.bl b) (.bl b)
  | int (i : Int) : Rep K L G am (.int i) (.int i)
  | str (s : Str) : Rep K L G am (.str s) (.str s)
  | lst {a : Addr} {vs : List V} {ds : List D} (h : G a = some (.lst vs)) (r : RepL K L G am ds vs) : Rep K L G am (.lst ds) (.ref a)
  | tup {a : Addr} {vs : List V} {ds : List D} (h : G a = some (.tup vs)) (r : RepL K L G am ds vs) : Rep K L G am (.tup ds) (.ref a)
  | obj {c : Nat} {a dx : Addr} {vs : List V} {fs : List D} (h : G a = some (.ins (L.ca c) dx ((L.fn c).zip vs))) (n : vs.length = (L.fn c).length) (r : RepL K L G am fs vs) : Rep K L G am (.obj c fs) (.ref a)
  | amb {k : Nat} {a : Addr} (h : am[k]? = some a) : Rep K L G am (.amb k) (.ref a)
  | scr {a : Addr} {vs : List V} {ds : List D} (h : SqL K G a vs) (r : RepL K L G am ds vs) : Rep K L G am (.scr ds) (.ref a)
inductive RepL (K : PySem.W.Frag) (L : Lk) (G : Hp) (am : List Addr) : List D → List V → Prop
  | nil : RepL K L G am [] []
  | cons {d : D} {v : V} {ds : List D} {vs : List V} (h : Rep K L G am d v) (r : RepL K L G am ds vs) : RepL K L G am (d :: ds) (v :: vs)
end
def Ex (G G' : Hp) : Prop := ∀ a o, G a = some o → G' a = some o
structure Grow (G : Hp) (am : List Addr) (G' : Hp) (am' : List Addr) : Prop where
  ex : Ex G G'
  am : ∃ t, am' = am ++ t
section
variable {K : PySem.W.Frag} {L : Lk} {G G' G'' H H' F : Hp} {am am' am'' : List Addr}
theorem Ex.refl : Ex G G := fun _ _ h => h
theorem Ex.trans (a : Ex G G') (b : Ex G' G'') : Ex G G'' := fun x o h => b x o (a x o h)
theorem Ex.new {p : Addr} {o : HO} (h : G p = none) : Ex G (upd G p o) := fun a u e => by
  rw [upd_ne (ne_of_none e h)]
  exact e
theorem Grow.refl : Grow G am G am := ⟨Ex.refl, [], (List.append_nil _).symm⟩
theorem Grow.trans (a : Grow G am G' am') (b : Grow G' am' G'' am'') : Grow G am G'' am'' := ⟨a.ex.trans b.ex, by
  obtain ⟨t, rfl⟩ := a.am
  obtain ⟨u, rfl⟩ := b.am
  exact ⟨t ++ u, List.append_assoc ..⟩⟩
theorem Grow.of {p : Addr} {o : HO} (h : G p = none) : Grow G am (upd G p o) am := ⟨Ex.new h, [], (List.append_nil _).symm⟩
theorem Grow.get (g : Grow G am G' am') {k : Nat} {a : Addr} (h : am[k]? = some a) : am'[k]? = some a := by
  obtain ⟨t, rfl⟩ := g.am
  rw [List.getElem?_append_left (List.getElem?_eq_some_iff.mp h).1]
  exact h
theorem sqL_ex {a : Addr} {xs : List V} (e : Ex G G') (h : SqL K G a xs) : SqL K G' a xs := by
  rcases h with (h | ⟨o, h⟩) | h
  · exact .inl (.inl (e _ _ h))
  · exact .inl (.inr ⟨o, e _ _ h⟩)
  · exact .inr h
theorem sqT_ex {a : Addr} {xs : List V} (e : Ex G G') (h : SqT K G a xs) : SqT K G' a xs := by
  rcases h with (h | ⟨o, h⟩) | h
  · exact .inl (.inl (e _ _ h))
  · exact .inl (.inr ⟨o, e _ _ h⟩)
  · exact .inr h
mutual
theorem Rep.grow (g : Grow G am G' am') : ∀ (d : D) (v : V), Rep K L G am d v → Rep K L G' am' d v
  | _, _, .non => .non
  | _, _, .bl b => .bl b
  | _, _, .int i => .int i
  | _, _, .str s => .str s
  | .lst ds, _, .lst h r => .lst (g.ex _ _ h) (RepL.grow g ds _ r)
  | .tup ds, _, .tup h r => .tup (g.ex _ _ h) (RepL.grow g ds _ r)
  | .obj c fs, _, .obj h n r => .obj (g.ex _ _ h) n (RepL.grow g fs _ r)
  | _, _, .amb h => .amb (g.get h)
  | .scr ds, _, .scr h r => .scr (sqL_ex g.ex h) (RepL.grow g ds _ r)
theorem RepL.grow (g : Grow G am G' am') : ∀ (ds : List D) (vs : List V), RepL K L G am ds vs → RepL K L G' am' ds vs
  | _, _, .nil => .nil
  | d :: ds, v :: vs, .cons h r => .cons (Rep.grow g d v h) (RepL.grow g ds vs r)
end
theorem Rep.up (g : Grow G am G' am') {d : D} {v : V} (h : Rep K L G am d v) : Rep K L G' am' d v := Rep.grow g d v h
theorem RepL.up (g : Grow G am G' am') {d : List D} {v : List V} (h : RepL K L G am d v) : RepL K L G' am' d v := RepL.grow g d v h
theorem RepL.length : ∀ {ds : List D} {vs : List V}, RepL K L G am ds vs → ds.length = vs.length
  | _, _, .nil => rfl
  | _, _, .cons _ r => by rw [List.length_cons, List.length_cons, RepL.length r]
theorem RepL.append : ∀ {ds es : List D} {vs ws : List V}, RepL K L G am ds vs → RepL K L G am es ws → RepL K L G am (ds ++ es) (vs ++ ws)
  | _, _, _, _, .nil, r => r
  | _, _, _, _, .cons h q, r => .cons h (RepL.append q r)
theorem RepL.get : ∀ {ds : List D} {vs : List V} {i : Nat} {d : D}, RepL K L G am ds vs → ds[i]? = some d → ∃ v, vs[i]? = some v ∧ Rep K L G am d v
  | _, _, _, _, .nil, h => by simp at h
  | _, _, 0, _, .cons h _, e => ⟨_, rfl, by
    have := Option.some.inj e
    subst this
    exact h⟩
  | _ :: ds, _ :: vs, i + 1, d, .cons _ r, e => by
    have e' : ds[i]? = some d := e
    exact RepL.get (ds := ds) (vs := vs) (i := i) (d := d) r e'
theorem RepL.getV : ∀ {ds : List D} {vs : List V} {i : Nat} {v : V}, RepL K L G am ds vs → vs[i]? = some v → ∃ d, ds[i]? = some d ∧ Rep K L G am d v
  | _, _, _, _, .nil, h => by simp at h
  | _, _, 0, _, .cons h _, e => ⟨_, rfl, by
    have := Option.some.inj e
    subst this
    exact h⟩
  | _ :: ds, _ :: vs, i + 1, v, .cons _ r, e => by
    have e' : vs[i]? = some v := e
    exact RepL.getV (ds := ds) (vs := vs) (i := i) (v := v) r e'
theorem RepL.take : ∀ {ds : List D} {vs : List V} (n : Nat), RepL K L G am ds vs → RepL K L G am (ds.take n) (vs.take n)
  | _, _, 0, _ => .nil
  | _, _, _ + 1, .nil => .nil
  | _, _, n + 1, .cons h r => .cons h (RepL.take n r)
theorem RepL.drop : ∀ {ds : List D} {vs : List V} (n : Nat), RepL K L G am ds vs → RepL K L G am (ds.drop n) (vs.drop n)
  | _, _, 0, r => r
  | _, _, _ + 1, .nil => .nil
  | _, _, n + 1, .cons _ r => RepL.drop n r
theorem RepL.set : ∀ {ds : List D} {vs : List V} (i : Nat) {d : D} {v : V}, RepL K L G am ds vs → Rep K L G am d v → RepL K L G am (ds.set i d) (vs.set i v)
  | _, _, _, _, _, .nil, _ => .nil
  | _, _, 0, _, _, .cons _ r, q => .cons q r
  | _, _, i + 1, _, _, .cons h r, q => .cons h (RepL.set i r q)
theorem RepL.rep {ds : List D} {vs : List V} (r : RepL K L G am ds vs) : ∀ n : Nat, RepL K L G am (List.replicate n ds).flatten (List.replicate n vs).flatten
  | 0 => .nil
  | n + 1 => by
    rw [List.replicate_succ, List.replicate_succ, List.flatten_cons, List.flatten_cons]
    exact r.append (RepL.rep r n)
end
/-! ### the store of the objects that change -/
def ObR (K : PySem.W.Frag) (L : Lk) (G : Hp) (am : List Addr) (H : Hp) : Ob → Addr → Prop
  | .pl ds, a => ∃ vs, H a = some (.lst vs) ∧ RepL K L G am ds vs
  | .ob c fs, a => ∃ dx vs, H a = some (.ins (L.ca c) dx ((L.fn c).zip vs)) ∧ vs.length ≤ (L.fn c).length ∧ RepL K L G am fs vs
  | .dc ks ds, a => ∃ vs, H a = some (.dK (ks.zip vs)) ∧ (ks.length = vs.length ∧ ks.Nodup ∧ ks.length ≤ 1000000) ∧ RepL K L G am ds vs
/-- G: what stands for good; F: what others hold and nobody here touches; am: where the objects that change stand -/
structure Mem (K : PySem.W.Frag) (L : Lk) (F G : Hp) (am : List Addr) (om : Om) (H : Hp) : Prop where
  gH : Ex G H
  fH : Ex F H
  fg : ∀ a o, F a = some o → G a = none
  len : am.length = om.length
  obs : ∀ (k : Nat) (a : Addr) (o : Ob), am[k]? = some a → om[k]? = some o → ObR K L G am H o a
  nd : am.Nodup
  ag : ∀ a ∈ am, G a = none
  af : ∀ a ∈ am, F a = none
theorem ObR.grow {K : PySem.W.Frag} {L : Lk} {G G' H H' : Hp} {am am' : List Addr} (g : Grow G am G' am') {o : Ob} {a : Addr} (h : ObR K L G am H o a) (e : ∀ u, H a = some u → H' a = some u) : ObR K L G' am' H' o a := by
  cases o with
  | pl ds =>
    obtain ⟨vs, h1, r⟩ := h
    exact ⟨vs, e _ h1, r.up g⟩
  | ob c fs =>
    obtain ⟨dx, vs, h1, n, r⟩ := h
    exact ⟨dx, vs, e _ h1, n, r.up g⟩
  | dc ks ds =>
    obtain ⟨vs, h1, n, r⟩ := h
    exact ⟨vs, e _ h1, n, r.up g⟩
theorem ObR.some {K : PySem.W.Frag} {L : Lk} {G H : Hp} {am : List Addr} {o : Ob} {a : Addr} (h : ObR K L G am H o a) : ∃ u, H a = some u := by
  cases o with
  | pl ds =>
    obtain ⟨vs, h1, r⟩ := h
    exact ⟨_, h1⟩
  | ob c fs =>
    obtain ⟨dx, vs, h1, n, r⟩ := h
    exact ⟨_, h1⟩
  | dc ks ds =>
    obtain ⟨vs, h1, n, r⟩ := h
    exact ⟨_, h1⟩
section
variable {K : PySem.W.Frag} {L : Lk} {F G H : Hp} {am : List Addr} {om : Om} {p : Addr} {u : HO}
theorem Mem.amb (M : Mem K L F G am om H) {k : Nat} {a : Addr} (h : am[k]? = some a) : ∃ o, om[k]? = some o ∧ ObR K L G am H o a := by
  have hk : k < om.length := by
    rw [← M.len]
    exact (List.getElem?_eq_some_iff.mp h).1
  exact ⟨om[k], List.getElem?_eq_getElem hk, M.obs k a _ h (List.getElem?_eq_getElem hk)⟩
theorem Mem.there (M : Mem K L F G am om H) {a : Addr} (h : a ∈ am) : ∃ u, H a = some u := by
  obtain ⟨k, hk, e⟩ := List.mem_iff_getElem.mp h
  obtain ⟨o, _, r⟩ := M.amb (k := k) (a := a) (by rw [List.getElem?_eq_getElem hk, e])
  exact r.some
theorem Mem.none_g (M : Mem K L F G am om H) (h : H p = none) : G p = none := by
  cases e : G p with
  | none => rfl
  | some o =>
    rw [M.gH _ _ e] at h
    cases h
theorem Mem.none_f (M : Mem K L F G am om H) (h : H p = none) : F p = none := by
  cases e : F p with
  | none => rfl
  | some o =>
    rw [M.fH _ _ e] at h
    cases h
theorem Mem.none_am (M : Mem K L F G am om H) (h : H p = none) : p ∉ am := fun hp => by
  obtain ⟨u, e⟩ := M.there hp
  rw [e] at h
  cases h
/-- a new object for good -/
theorem Mem.new (M : Mem K L F G am om H) (h : H p = none) : Mem K L F (upd G p u) am om (upd H p u) := by
  have hg := M.none_g h
  have hf := M.none_f h
  refine ⟨fun a o e => ?_, fun a o e => ?_, fun a o e => ?_, M.len, fun k a o h1 h2 => ?_, M.nd, fun a ha => ?_, M.af⟩
  · by_cases c : a = p
    · subst c
      rw [upd_same] at e ⊢
      exact e
    · rw [upd_ne c] at e ⊢
      exact M.gH _ _ e
  · rw [upd_ne (fun c => by rw [c, hf] at e; cases e)]
    exact M.fH _ _ e
  · rw [upd_ne (fun c => by rw [c, hf] at e; cases e)]
    exact M.fg _ _ e
  · refine (M.obs k a o h1 h2).grow (Grow.of hg) fun u e => ?_
    rw [upd_ne (ne_of_none e h)]
    exact e
  · rw [upd_ne (fun c => M.none_am h (by rw [← c]; exact ha))]
    exact M.ag _ ha
/-- a new object that somebody here holds alone -/
theorem Mem.newF (M : Mem K L F G am om H) (h : H p = none) : Mem K L (upd F p u) G am om (upd H p u) := by
  have hg := M.none_g h
  have hf := M.none_f h
  refine ⟨fun a o e => ?_, fun a o e => ?_, fun a o e => ?_, M.len, fun k a o h1 h2 => ?_, M.nd, M.ag, fun a ha => ?_⟩
  · rw [upd_ne (fun c => by rw [c, hg] at e; cases e)]
    exact M.gH _ _ e
  · by_cases c : a = p
    · subst c
      rw [upd_same] at e ⊢
      exact e
    · rw [upd_ne c] at e ⊢
      exact M.fH _ _ e
  · by_cases c : a = p
    · subst c
      exact hg
    · rw [upd_ne c] at e
      exact M.fg _ _ e
  · refine (M.obs k a o h1 h2).grow Grow.refl fun u e => ?_
    rw [upd_ne (ne_of_none e h)]
    exact e
  · rw [upd_ne (fun c => M.none_am h (by rw [← c]; exact ha))]
    exact M.af _ ha
/-- an object untracked by all here may come into H -/
theorem Mem.more (M : Mem K L F G am om H) (h : H p = none) : Mem K L F G am om (upd H p u) := by
  have hg := M.none_g h
  have hf := M.none_f h
  refine ⟨fun a o e => ?_, fun a o e => ?_, M.fg, M.len, fun k a o h1 h2 => ?_, M.nd, M.ag, M.af⟩
  · rw [upd_ne (fun c => by rw [c, hg] at e; cases e)]
    exact M.gH _ _ e
  · rw [upd_ne (fun c => by rw [c, hf] at e; cases e)]
    exact M.fH _ _ e
  · refine (M.obs k a o h1 h2).grow Grow.refl fun u e => ?_
    rw [upd_ne (ne_of_none e h)]
    exact e
/-- what is held alone is changed -/
theorem Mem.setF (M : Mem K L F G am om H) {o : HO} (h : F p = some o) : Mem K L (upd F p u) G am om (upd H p u) := by
  have hg := M.fg _ _ h
  have ha : p ∉ am := fun c => by
    rw [M.af _ c] at h
    cases h
  refine ⟨fun a o e => ?_, fun a o e => ?_, fun a o e => ?_, M.len, fun k a o h1 h2 => ?_, M.nd, M.ag, fun a hm => ?_⟩
  · rw [upd_ne (fun c => by rw [c, hg] at e; cases e)]
    exact M.gH _ _ e
  · by_cases c : a = p
    · subst c
      rw [upd_same] at e ⊢
      exact e
    · rw [upd_ne c] at e ⊢
      exact M.fH _ _ e
  · by_cases c : a = p
    · subst c
      exact hg
    · rw [upd_ne c] at e
      exact M.fg _ _ e
  · refine (M.obs k a o h1 h2).grow Grow.refl fun u e => ?_
    rw [upd_ne (fun c => ha (by rw [← c]; exact List.mem_of_getElem? h1))]
    exact e
  · rw [upd_ne (fun c => ha (by rw [← c]; exact hm))]
    exact M.af _ hm
theorem Mem.inF (M : Mem K L F G am om H) {o : HO} (h : F p = some o) : p ∉ am := fun c => by
  rw [M.af _ c] at h
  cases h
/-- what is held alone is given away for good -/
theorem Mem.freeze (M : Mem K L F G am om H) {o : HO} (h : F p = some o) {F' : Hp} (e1 : ∀ a u, F' a = some u → F a = some u ∧ a ≠ p) : Mem K L F' (upd G p o) am om H := by
  have hg := M.fg _ _ h
  have ha := M.inF h
  refine ⟨fun a u e => ?_, fun a u e => M.fH _ _ (e1 a u e).1, fun a u e => ?_, M.len, fun k a u h1 h2 => ?_, M.nd, fun a hm => ?_, fun a hm => ?_⟩
  · by_cases c : a = p
    · subst c
      rw [upd_same] at e
      rw [← e]
      exact M.fH _ _ h
    · rw [upd_ne c] at e
      exact M.gH _ _ e
  · rw [upd_ne (e1 a u e).2]
    exact M.fg _ _ (e1 a u e).1
  · exact (M.obs k a u h1 h2).grow (Grow.of hg) fun _ e => e
  · rw [upd_ne (fun c => ha (by rw [← c]; exact hm))]
    exact M.ag _ hm
  · cases e : F' a with
    | none => rfl
    | some u =>
      have z := (e1 a u e).1
      rw [M.af _ hm] at z
      cases z
/-- an object of the store is changed -/
theorem Mem.setA (M : Mem K L F G am om H) {k : Nat} {o' : Ob} (h : am[k]? = some p) (r : ObR K L G am (upd H p u) o' p) : Mem K L F G am (om.set k o') (upd H p u) := by
  have hm : p ∈ am := List.mem_of_getElem? h
  have hg := M.ag _ hm
  have hf := M.af _ hm
  have hk : k < am.length := (List.getElem?_eq_some_iff.mp h).1
  refine ⟨fun a o e => ?_, fun a o e => ?_, M.fg, by rw [List.length_set]; exact M.len, fun j a o h1 h2 => ?_, M.nd, M.ag, M.af⟩
  · rw [upd_ne (fun c => by rw [c, hg] at e; cases e)]
    exact M.gH _ _ e
  · rw [upd_ne (fun c => by rw [c, hf] at e; cases e)]
    exact M.fH _ _ e
  · by_cases c : j = k
    · subst c
      rw [h] at h1
      cases h1
      rw [List.getElem?_set_self (by rw [← M.len]; exact hk)] at h2
      cases h2
      exact r
    · rw [List.getElem?_set_ne (fun z => c z.symm)] at h2
      refine (M.obs j a o h1 h2).grow Grow.refl fun u e => ?_
      have hne : a ≠ p := fun z => by
        subst z
        have hj : j < am.length := (List.getElem?_eq_some_iff.mp h1).1
        have e1 := (List.getElem?_eq_some_iff.mp h1).2
        have e2 := (List.getElem?_eq_some_iff.mp h).2
        exact c ((List.getElem_inj M.nd).mp (e1.trans e2.symm))
      rw [upd_ne hne]
      exact e
/-- a new object of the store -/
theorem Mem.newA (M : Mem K L F G am om H) (h : H p = none) {o' : Ob} (r : ObR K L G (am ++ [p]) (upd H p u) o' p) : Mem K L F G (am ++ [p]) (om ++ [o']) (upd H p u) := by
  have hg := M.none_g h
  have hf := M.none_f h
  have ha := M.none_am h
  refine ⟨fun a o e => ?_, fun a o e => ?_, M.fg, by rw [List.length_append, List.length_append, M.len]; rfl, fun j a o h1 h2 => ?_, ?_, fun a hm => ?_, fun a hm => ?_⟩
  · rw [upd_ne (fun c => by rw [c, hg] at e; cases e)]
    exact M.gH _ _ e
  · rw [upd_ne (fun c => by rw [c, hf] at e; cases e)]
    exact M.fH _ _ e
  · by_cases c : j < am.length
    · rw [List.getElem?_append_left c] at h1
      rw [List.getElem?_append_left (by rw [← M.len]; exact c)] at h2
      refine (M.obs j a o h1 h2).grow ⟨Ex.refl, [p], rfl⟩ fun u e => ?_
      rw [upd_ne (ne_of_none e h)]
      exact e
    · rw [List.getElem?_append_right (by omega)] at h1
      rw [List.getElem?_append_right (by rw [← M.len]; omega), ← M.len] at h2
      have hj : j - am.length = 0 := by
        cases q : j - am.length with
        | zero => rfl
        | succ m =>
          rw [q] at h1
          simp at h1
      rw [hj] at h1 h2
      simp at h1 h2
      subst h1; subst h2
      exact r
  · rw [List.nodup_append]
    refine ⟨M.nd, by simp, fun a h1 b h2 => ?_⟩
    simp at h2
    subst h2
    exact fun c => ha (by rw [← c]; exact h1)
  · rw [List.mem_append] at hm
    rcases hm with hm | hm
    · exact M.ag _ hm
    · simp at hm
      subst hm
      exact hg
  · rw [List.mem_append] at hm
    rcases hm with hm | hm
    · exact M.af _ hm
    · simp at hm
      subst hm
      exact hf
end
/-! ### the slots -/
def CellR (K : PySem.W.Frag) (L : Lk) (F G : Hp) (am : List Addr) : Cell → Option V → Prop
  | .no, _ => True
  | .val d, o => ∃ v, o = some v ∧ Rep K L G am d v
  | .own ds, o => ∃ a vs, o = some (.ref a) ∧ F a = some (.lst vs) ∧ RepL K L G am ds vs
  | .newo c fs, o => ∃ a dx vs, o = some (.ref a) ∧ F a = some (.ins (L.ca c) dx ((L.fn c).zip vs)) ∧ vs.length ≤ (L.fn c).length ∧ RepL K L G am fs vs
  | .exn, o => ∃ a x, L.xa = some (a, x) ∧ o = some (.ref a) ∧ ∀ dd nm v, x = some (dd, nm, v) → G dd = some (.xd [(nm, v)])
def SlR (K : PySem.W.Frag) (L : Lk) (F G : Hp) (am : List Addr) (sl : Sl) (σ : L2.St) : Prop :=
  sl.length = σ.length ∧ ∀ (i : Nat) (c : Cell) (o : Option V), sl[i]? = some c → σ[i]? = some o → CellR K L F G am c o
section
variable {K : PySem.W.Frag} {L : Lk} {F G G' H : Hp} {am am' : List Addr} {om : Om} {sl : Sl} {σ : L2.St}
theorem CellR.grow (g : Grow G am G' am') {c : Cell} {o : Option V} (h : CellR K L F G am c o) : CellR K L F G' am' c o := by
  cases c with
  | no => trivial
  | val d =>
    obtain ⟨v, e, r⟩ := h
    exact ⟨v, e, r.up g⟩
  | own ds =>
    obtain ⟨a, vs, e, f, r⟩ := h
    exact ⟨a, vs, e, f, r.up g⟩
  | newo c fs =>
    obtain ⟨a, dx, vs, e, f, n, r⟩ := h
    exact ⟨a, dx, vs, e, f, n, r.up g⟩
  | exn =>
    obtain ⟨a, x, e1, e2, k⟩ := h
    exact ⟨a, x, e1, e2, fun dd nm v q => g.ex _ _ (k dd nm v q)⟩
theorem SlR.grow (g : Grow G am G' am') (h : SlR K L F G am sl σ) : SlR K L F G' am' sl σ := ⟨h.1, fun i c o a b => (h.2 i c o a b).grow g⟩
theorem SlR.at (h : SlR K L F G am sl σ) {i : Nat} {c : Cell} (e : sl[i]? = some c) : ∃ o, σ[i]? = some o ∧ CellR K L F G am c o := by
  have hi : i < σ.length := by
    rw [← h.1]
    exact (List.getElem?_eq_some_iff.mp e).1
  exact ⟨σ[i], List.getElem?_eq_getElem hi, h.2 i c _ e (List.getElem?_eq_getElem hi)⟩
theorem SlR.set (h : SlR K L F G am sl σ) {i : Nat} {c : Cell} {o : Option V} (r : CellR K L F G am c o) : SlR K L F G am (sl.set i c) (σ.set i o) := by
  refine ⟨by rw [List.length_set, List.length_set]; exact h.1, fun j c' o' a b => ?_⟩
  by_cases e : i = j
  · subst e
    have h1 : i < sl.length := by
      have := (List.getElem?_eq_some_iff.mp a).1
      rwa [List.length_set] at this
    rw [List.getElem?_set_self h1] at a
    rw [List.getElem?_set_self (by rw [← h.1]; exact h1)] at b
    cases a; cases b
    exact r
  · rw [List.getElem?_set_ne e] at a b
    exact h.2 j c' o' a b
end
end PD

set_option Elab.async false
set_option linter.all false
set_option maxRecDepth 100000
set_option maxHeartbeats 2000000
/-! PDB: the small language and what it computes. -/
namespace PD
open PySem PySem.Spec PyProof.Rows L2
inductive Bop where
  | add | sub | mul | fdiv | mod | pow
inductive Cop where
  | eq | ne | lt | le | gt | ge | inn | nin | is | isn
inductive Ty where
  | tuple | list | int | bool | str | own (c : Nat)
inductive Bi where
  | len | abs | str | int | list | tuple | bool | sum | any | all
inductive Mb where
  | join | split | partition
inductive Tg where
  | one (i : Nat) | many (is : List Nat)
/-- expressions; nil, cons, star: argument lists; itl .. zip: what a loop walks -/
inductive E where
  | v (i : Nat) | b (i : Nat) | k (d : D)
  | op (o : Bop) (a b : E) | cat (a b : E) | rp (a b : E) | neg (a : E)
  | no (a : E) | an (a b : E) | or (a b : E) | ite (c a b : E)
  | cm (o : Cop) (a b : E) | ch (o o' : Cop) (a b c : E)
  | call (f : Nat) (dv : List D) (as : E) | mk (c f : Nat) (dv : List D) (as : E) | mka (c f : Nat) (dv : List D) (as : E) | meth (c f : Nat) (dv : List D) (o as : E)
  | fld (c j : Nat) (a : E) | fs (c j : Nat) | xf (i : Nat) (d : D) | nl (a : E) | dnw (ks : List L2.Key) (as : E) | dg (a : E) (k : L2.Key) | bi (b : Bi) (a : E) | mb (m : Mb) (o a : E) | isi (ts : List Ty) (a : E)
  | ix (a b : E) | sl (a lo hi : E) | nop | fstr (as : E)
  | tup (as : E) | lst (as : E) | comp (tg : Tg) (it cond elt : E)
  | nil | cons (a as : E) | star (a as : E)
  | itl (a : E) | rng1 (a : E) | rng2 (a b : E) | enu (a : E) | zip (a b : E)
/-- the program's table: calls, makers of instances, operators by own methods -/
structure Tb where
  wf : Nat
  call : Nat → List D → Om → Rs D
  init : Nat → List D → Om → Rs (List D)
  fresh : Nat → Bool
  opm : Nat → Bop → Option Nat
  eqm : Nat → Option Nat
  strm : Nat → Option Nat
  nf : Nat → Nat
instance (i j : Int) : Decidable (CMulW i j) := inferInstanceAs (Decidable (_ < _))
instance (i j : Int) : Decidable (CDivW i j) := inferInstanceAs (Decidable (_ ∧ _))
instance (i j : Int) : Decidable (CPow i j) := inferInstanceAs (Decidable (_ ∧ _ ∧ _))
/-- nothing may be raised -/
def Rs.nox {α : Type} (r : Rs α) : Rs α := match r with
  | .ok a om => .ok a om
  | _ => .stuck
theorem nox_ok {α : Type} {a : α} {om : Om} : (Rs.ok a om).nox = .ok a om := rfl
def bop (T : Tb) : Bop → D → D → Om → Rs D
  | .add, .int i, .int j, om => .ok (.int (i + j)) om
  | .sub, .int i, .int j, om => .ok (.int (i - j)) om
  | .mul, .int i, .int j, om => if CMulW i j then .ok (.int (i * j)) om else .stuck
  | .fdiv, .int i, .int j, om => if CDivW i j then .ok (.int (i / j)) om else .stuck
  | .mod, .int i, .int j, om => if 0 < j then .ok (.int (i % j)) om else .stuck
  | .pow, .int i, .int j, om => if CPow i j then .ok (.int (i ^ j.toNat)) om else .stuck
  | .add, .str s, .str t, om => if s.length + t.length ≤ 1000000 then .ok (.str (s ++ t)) om else .stuck
  | .add, .lst xs, .lst ys, om => if xs.length + ys.length ≤ 1000000 then .ok (.lst (xs ++ ys)) om else .stuck
  | .add, .tup xs, .tup ys, om => if xs.length + ys.length ≤ 1000000 then .ok (.tup (xs ++ ys)) om else .stuck
  | .mul, .lst xs, .int k, om => if 0 ≤ k ∧ k ≤ 1000000 ∧ xs.length * k.toNat ≤ 1000000 then .ok (.lst (List.replicate k.toNat xs).flatten) om else .stuck
  | .mul, .tup xs, .int k, om => if 0 ≤ k ∧ k ≤ 1000 ∧ xs.isEmpty = false ∧ xs.length ≤ 1000 then .ok (.tup (List.replicate k.toNat xs).flatten) om else .stuck
  | o, .obj c fs, .obj c' gs, om => if c = c' then match T.opm c o with
      | some f => (T.call f [.obj c fs, .obj c' gs] om).nox
      | none => .stuck
    else .stuck
  | _, _, _, _ => .stuck
/-- list + list, list * int: a new list -/
def catD : D → D → Om → Rs D
  | .lst xs, .lst ys, om => if xs.length + ys.length ≤ 1000000 then .ok (.lst (xs ++ ys)) om else .stuck
  | _, _, _ => .stuck
def repD : D → D → Om → Rs D
  | .lst xs, .int k, om => if 0 ≤ k ∧ k ≤ 1000000 ∧ xs.length * k.toNat ≤ 1000000 then .ok (.lst (List.replicate k.toNat xs).flatten) om else .stuck
  | _, _, _ => .stuck
def eqD (T : Tb) (x y : D) (om : Om) : Rs Bool := match x, y with
  | .obj c fs, .obj c' gs => if c = c' then match T.eqm c with
      | some f => match T.call f [.obj c fs, .obj c' gs] om with
        | .ok (.bl b) om' => .ok b om'
        | _ => .stuck
      | none => .stuck
    else .stuck
  | x, y => match toP x, toP y with
    | some p, some q => if (SeqAt.shaped p && SeqAt.shaped q) = true then .ok (PyData.eqv p q) om else .stuck
    | _, _ => .stuck
def inD (x : D) (ys : List D) : Option Bool := match toP x, toPs ys with
  | some p, some qs => if (SeqAt.shaped p && SeqAt.shaped (.list qs)) = true then some (qs.any fun z => PyData.eqv z p) else none
  | _, _ => none
def flatD : D → Bool
  | .non => true | .bl _ => true | .int _ => true | .str _ => true
  | _ => false
def inT (x : D) (ys : List D) : Option Bool := if (flatD x && ys.all flatD) = true then match toP x, toPs ys with
    | some p, some qs => some (qs.any fun z => PyData.eqv z p)
    | _, _ => none
  else none
def ltD : D → D → Option Bool
  | .int i, .int j => some (decide (i < j))
  | .str i, .str j => some (decide (i.cps.toList < j.cps.toList))
  | _, _ => none
def leD : D → D → Option Bool
  | .int i, .int j => some (decide (i ≤ j))
  | .str i, .str j => some (!decide (j.cps.toList < i.cps.toList))
  | _, _ => none
def gtD : D → D → Option Bool
  | .int i, .int j => some (decide (j < i))
  | _, _ => none
def geD : D → D → Option Bool
  | .int i, .int j => some (decide (j ≤ i))
  | _, _ => none
def inX (x : D) : D → Option Bool
  | .str j => match x with
    | .str i => some (!(Builtin.Str.occurrences j i 0 j.length 1).isEmpty)
    | _ => none
  | .lst ys => inD x ys
  | .tup ys => inT x ys
  | _ => none
/-- in, also in a list of the store -/
def inA (x y : D) (om : Om) : Option Bool := match y with
  | .amb k => match om[k]? with
    | some (.pl ds) => inD x ds
    | _ => none
  | y => inX x y
def isN (x : D) : D → Option Bool
  | .non => match x with
    | .non => some true
    | .bl _ => some false
    | .int _ => some false
    | .str _ => some false
    | .lst _ => some false
    | .tup _ => some false
    | .obj _ _ => some false
    | _ => none
  | _ => none
def opt (o : Option Bool) (om : Om) : Rs Bool := match o with
  | some b => .ok b om
  | none => .stuck
def neD (x y : D) (om : Om) : Rs Bool := match toP x, toP y with
  | some p, some q => if (SeqAt.shaped p && SeqAt.shaped q) = true then .ok (!PyData.eqv p q) om else .stuck
  | _, _ => .stuck
def cmp (T : Tb) (o : Cop) (x y : D) (om : Om) : Rs Bool := match o with
  | .eq => eqD T x y om
  | .ne => neD x y om
  | .lt => opt (ltD x y) om
  | .le => opt (leD x y) om
  | .gt => opt (gtD x y) om
  | .ge => opt (geD x y) om
  | .inn => opt (inA x y om) om
  | .nin => opt ((inA x y om).map (!·)) om
  | .is => opt (isN x y) om
  | .isn => opt ((isN x y).map (!·)) om
def truD : D → Option Bool
  | .non => some false
  | .bl b => some b
  | .int i => some (i != 0)
  | .str s => if s.length ≤ 1000000 then some ((s.length : Int) != 0) else none
  | .lst ds => some (!ds.isEmpty)
  | .tup ds => some (!ds.isEmpty)
  | _ => none
def tru (d : D) (om : Om) : Rs Bool := match truD d with
  | some b => .ok b om
  | none => .stuck
def intsD : List D → Option (List Int)
  | [] => some []
  | .int i :: r => (intsD r).map (i :: ·)
  | _ :: _ => none
def blsD : List D → Option (List Bool)
  | [] => some []
  | .bl i :: r => (blsD r).map (i :: ·)
  | _ :: _ => none
def strsD : List D → Option (List Str)
  | [] => some []
  | .str i :: r => (strsD r).map (i :: ·)
  | _ :: _ => none
def biD (T : Tb) : Bi → D → Om → Rs D
  | .len, .lst ds, om => .ok (.int ds.length) om
  | .len, .tup ds, om => .ok (.int ds.length) om
  | .len, .scr ds, om => .ok (.int ds.length) om
  | .len, .str s, om => if s.length ≤ 1000000 then .ok (.int s.length) om else .stuck
  | .abs, .int i, om => .ok (.int (if i < 0 then -i else i)) om
  | .str, .int i, om => if i.natAbs.log2 < 1920 then .ok (.str (toString i)) om else .stuck
  | .str, .str s, om => .ok (.str s) om
  | .str, .obj c fs, om => match T.strm c with
    | some f => match T.call f [.obj c fs] om with
      | .ok (.str s) om' => .ok (.str s) om'
      | _ => .stuck
    | none => .stuck
  | .int, .int i, om => .ok (.int i) om
  | .int, .bl b, om => .ok (.int (if b then 1 else 0)) om
  | .int, .str s, om => match PySem.intText? s with
    | some n => if s.length ≤ 640 then .ok (.int n) om else .stuck
    | none => .stuck
  | .bool, .int i, om => .ok (.bl (i != 0)) om
  | .bool, .bl b, om => .ok (.bl b) om
  | .bool, .amb k, om => match om[k]? with
    | some (.pl ds) => .ok (.bl (!ds.isEmpty)) om
    | _ => .stuck
  | .list, .lst ds, om => .ok (.lst ds) om
  | .list, .tup ds, om => .ok (.lst ds) om
  | .list, .scr ds, om => .ok (.lst ds) om
  | .tuple, .lst ds, om => .ok (.tup ds) om
  | .tuple, .tup ds, om => .ok (.tup ds) om
  | .tuple, .amb k, om => match om[k]? with
    | some (.pl ds) => .ok (.tup ds) om
    | _ => .stuck
  | .sum, .lst ds, om => match intsD ds with
    | some ns => .ok (.int ns.sum) om
    | none => .stuck
  | .any, .lst ds, om => match blsD ds with
    | some bs => .ok (.bl (bs.any id)) om
    | none => .stuck
  | .all, .lst ds, om => match blsD ds with
    | some bs => .ok (.bl (bs.all id)) om
    | none => .stuck
  | _, _, _ => .stuck
def mbf : Mb → Str → D → Om → Rs D
  | .join, s, .lst ds, om => match strsD ds with
    | some ys => if (ys.map (·.length)).sum + ys.length * s.length ≤ 1000000 then .ok (.str (Txt.join s ys)) om else .stuck
    | none => .stuck
  | .split, a, .str b, om => if (b.length == 0) = false ∧ a.length + 2 ≤ 1000000 then .ok (.lst ((Txt.split a b).map D.str)) om else .stuck
  | .partition, a, .str b, om => if (b.length == 0) = false ∧ a.length ≤ 1000000 then .ok (.tup [.str (Txt.partition a b).1, .str (Txt.partition a b).2.1, .str (Txt.partition a b).2.2]) om else .stuck
  | _, _, _, _ => .stuck
def isT : Ty → D → Option Bool
  | .tuple, d => match d with | .tup _ => some true | .non => some false | .bl _ => some false | .int _ => some false | .str _ => some false | .lst _ => some false | _ => none
  | .list, d => match d with | .lst _ => some true | .non => some false | .bl _ => some false | .int _ => some false | .str _ => some false | .tup _ => some false | _ => none
  | .int, d => match d with | .int _ => some true | .bl _ => some true | .non => some false | .str _ => some false | .tup _ => some false | .lst _ => some false | _ => none
  | .bool, d => match d with | .bl _ => some true | .int _ => some false | .non => some false | .str _ => some false | .tup _ => some false | .lst _ => some false | _ => none
  | .str, d => match d with | .str _ => some true | .int _ => some false | .non => some false | .bl _ => some false | .tup _ => some false | .lst _ => some false | _ => none
  | .own c, d => match d with | .obj c' _ => if c' = c then some true else none | _ => none
def isA : List Ty → D → Option Bool
  | [], _ => some false
  | t :: ts, d => match isT t d with
    | some true => some true
    | some false => isA ts d
    | none => none
def ixD : D → D → Om → Rs D
  | .lst ds, .int i, om => match atI ds i with | some d => .ok d om | none => .stuck
  | .tup ds, .int i, om => match atI ds i with | some d => .ok d om | none => .stuck
  | .scr ds, .int i, om => match atI ds i with | some d => .ok d om | none => .stuck
  | .str s, .int i, om => if s.length ≤ 1000000 then match atI s.cps.toList i with | some c => .ok (.str ⟨#[c]⟩) om | none => .stuck else .stuck
  | .amb k, .int i, om => match om[k]? with
    | some (.pl ds) => match atI ds i with | some d => .ok d om | none => .stuck
    | _ => .stuck
  | _, _, _ => .stuck
def cutD (xs : List D) (lo hi : Option Int) : List D := (xs.drop (HT.sIx xs.length 0 lo)).take (HT.sIx xs.length xs.length hi - HT.sIx xs.length 0 lo)
def slD : D → Option Int → Option Int → Om → Rs D
  | .lst ds, lo, hi, om => .ok (.lst (cutD ds lo hi)) om
  | .tup ds, lo, hi, om => .ok (.tup (cutD ds lo hi)) om
  | .str s, lo, hi, om => if s.length ≤ 1000000 then .ok (.str (cutS s lo hi)) om else .stuck
  | _, _, _, _ => .stuck
def fldD (c j : Nat) : D → Om → Rs D
  | .obj c' fs, om => if c' = c then match fs[j]? with | some d => .ok d om | none => .stuck else .stuck
  | .amb k, om => match om[k]? with
    | some (.ob c' fs) => if c' = c then match fs[j]? with | some d => .ok d om | none => .stuck else .stuck
    | _ => .stuck
  | _, _ => .stuck
/-- an instance of that class -/
def isC (c : Nat) (x : D) (om : Om) : Bool := match x with
  | .obj c' _ => c' == c
  | .amb k => match om[k]? with
    | some (.ob c' _) => c' == c
    | _ => false
  | _ => false
/-- what a dict holds at a key -/
def dgD : List L2.Key → List D → L2.Key → Option D
  | k :: ks, d :: ds, x => if k = x then some d else dgD ks ds x
  | _, _, _ => none
/-- a key's place gets a new value -/
def dpD : List L2.Key → List D → L2.Key → D → Option (List D)
  | k :: ks, d :: ds, x, y => if k = x then some (y :: ds) else (dpD ks ds x y).map (d :: ·)
  | _, _, _, _ => none
def sets (sl : Sl) : List Nat → List D → Sl
  | i :: is, d :: ds => sets (sl.set i (.val d)) is ds
  | _, _ => sl
def setT (sl : Sl) : Tg → D → Option Sl
  | .one i, d => some (sl.set i (.val d))
  | .many is, .tup ds => if ds.length = is.length then some (sets sl is ds) else none
  | _, _ => none
def items : D → Option (List D)
  | .lst ds => some ds
  | .tup ds => some ds
  | .scr ds => some ds
  | .str s => some (s.cps.toList.map fun c => .str ⟨#[c]⟩)
  | _ => none
def fmt (T : Tb) : D → Om → Rs Str
  | .str s, om => if s.length ≤ 1000000 then .ok s om else .stuck
  | .int i, om => if i.natAbs.log2 < 1920 then .ok (toString i) om else .stuck
  | _, _ => .stuck
def part : D → Option Int
  | .int i => some i
  | _ => none
def tgIx : Tg → List Nat
  | .one i => [i]
  | .many is => is
def wipeS (sl : Sl) : List Nat → Sl
  | [] => sl
  | i :: is => (wipeS sl is).set i .no
def compGo (ct : Sl → Om → Rs Bool) (el : Sl → Om → Rs D) (tg : Tg) (sl : Sl) : List D → Om → Rs (List D)
  | [], om => .ok [] om
  | d :: ds, om => match setT sl tg d with
    | none => .stuck
    | some sl' => match ct sl' om with
      | .ok true om1 => match el sl' om1 with
        | .ok x om2 => match compGo ct el tg sl ds om2 with
          | .ok xs om3 => .ok (x :: xs) om3
          | _ => .stuck
        | _ => .stuck
      | .ok false om1 => compGo ct el tg sl ds om1
      | _ => .stuck
def isNop : E → Bool
  | .nop => true
  | _ => false
mutual
def evE (T : Tb) : E → Sl → Om → Rs D
  | .v i, sl, om => match sl[i]? with | some (.val d) => .ok d om | _ => .stuck
  | .b i, sl, om => match sl[i]? with | some (.val d) => .ok d om | some (.own ds) => .ok (.lst ds) om | _ => .stuck
  | .k d, _, om => .ok d om
  | .op o a b, sl, om => (evE T a sl om).bind fun x om => (evE T b sl om).bind fun y om => bop T o x y om
  | .cat a b, sl, om => (evE T a sl om).bind fun x om => (evE T b sl om).bind fun y om => catD x y om
  | .rp a b, sl, om => (evE T a sl om).bind fun x om => (evE T b sl om).bind fun y om => repD x y om
  | .neg a, sl, om => (evE T a sl om).bind fun x om => match x with | .int i => .ok (.int (-i)) om | _ => .stuck
  | .no a, sl, om => (evE T a sl om).bind fun x om => (tru x om).bind fun b om => .ok (.bl (!b)) om
  | .an a b, sl, om => (evE T a sl om).bind fun x om => (tru x om).bind fun c om => if c = true then evE T b sl om else .ok x om
  | .or a b, sl, om => (evE T a sl om).bind fun x om => (tru x om).bind fun c om => if c = true then .ok x om else evE T b sl om
  | .ite c a b, sl, om => (evE T c sl om).bind fun x om => (tru x om).bind fun c om => if c = true then evE T a sl om else evE T b sl om
  | .cm o a b, sl, om => (evE T a sl om).bind fun x om => (evE T b sl om).bind fun y om => (cmp T o x y om).bind fun c om => .ok (.bl c) om
  | .ch o o' a b c, sl, om => (evE T a sl om).bind fun x om => (evE T b sl om).bind fun y om => (cmp T o x y om).bind fun r om => if r = true then (evE T c sl om).bind fun z om => (cmp T o' y z om).bind fun r om => .ok (.bl r) om else .ok (.bl false) om
  | .call f dv as, sl, om => (evL T as sl om).bind fun xs om => T.call f (xs ++ dv) om
  | .mk c f dv as, sl, om => (evL T as sl om).bind fun xs om => (T.init f (xs ++ dv) om).bind fun fs om => if fs.length = T.nf c then .ok (.obj c fs) om else .stuck
  | .mka c f dv as, sl, om => (evL T as sl om).bind fun xs om => (T.call f (.amb om.length :: (xs ++ dv)) (om ++ [.ob c []])).bind fun r om' => match r with | .non => .ok (.amb om.length) om' | _ => .stuck
  | .meth c f dv o as, sl, om => (evE T o sl om).bind fun x om => if isC c x om = true then (evL T as sl om).bind fun xs om => T.call f (x :: (xs ++ dv)) om else .stuck
  | .fs c j, sl, om => match sl[(0 : Nat)]? with
    | some (.newo c' fs) => if c' = c then match fs[j]? with | some d => .ok d om | none => .stuck else .stuck
    | _ => .stuck
  | .fld c j a, sl, om => (evE T a sl om).bind fun x om => fldD c j x om
  | .xf i d, sl, om => match sl[i]? with | some .exn => .ok d om | _ => .stuck
  | .nl a, sl, om => (evE T a sl om).bind fun d om => match d with | .lst ds => .ok (.amb om.length) (om ++ [.pl ds]) | _ => .stuck
  | .dnw ks as, sl, om => (evL T as sl om).bind fun xs om => if ks.length = xs.length then .ok (.amb om.length) (om ++ [.dc ks xs]) else .stuck
  | .dg a k, sl, om => (evE T a sl om).bind fun x om => match x with
    | .amb j => match om[j]? with
      | some (.dc ks ds) => match dgD ks ds k with | some d => .ok d om | none => .stuck
      | _ => .stuck
    | _ => .stuck
  | .bi b a, sl, om => (evE T a sl om).bind fun x om => biD T b x om
  | .mb m o a, sl, om => (evE T o sl om).bind fun x om => match x with
    | .str s => (evE T a sl om).bind fun y om => mbf m s y om
    | _ => .stuck
  | .isi ts a, sl, om => (evE T a sl om).bind fun x om => match isA ts x with | some b => .ok (.bl b) om | none => .stuck
  | .ix a b, sl, om => (evE T a sl om).bind fun x om => (evE T b sl om).bind fun y om => ixD x y om
  | .sl a lo hi, sl, om => (evE T a sl om).bind fun x om => (evO T lo sl om).bind fun l om => (evO T hi sl om).bind fun h om => slD x l h om
  | .fstr as, sl, om => (evJ T as (⟨#[]⟩ : Str) sl om).bind fun s om => .ok (.str s) om
  | .tup as, sl, om => (evL T as sl om).bind fun xs om => if xs.length ≤ 1000000 then .ok (.tup xs) om else .stuck
  | .lst as, sl, om => (evL T as sl om).bind fun xs om => if xs.length ≤ 1000000 then .ok (.lst xs) om else .stuck
  | .comp tg it cond elt, sl, om => (evI T it sl om).bind fun ds om => if ds.length ≤ 1000000 then (compGo (fun sl om => (evE T cond sl om).bind fun x om => tru x om) (evE T elt) tg (wipeS sl (tgIx tg)) ds om).bind fun xs om => .ok (.lst xs) om else .stuck
  | .nop, _, _ => .stuck
  | .nil, _, _ => .stuck
  | .cons _ _, _, _ => .stuck
  | .star _ _, _, _ => .stuck
  | .itl _, _, _ => .stuck
  | .rng1 _, _, _ => .stuck
  | .rng2 _ _, _, _ => .stuck
  | .enu _, _, _ => .stuck
  | .zip _ _, _, _ => .stuck
/-- an argument list -/
def evL (T : Tb) : E → Sl → Om → Rs (List D)
  | .nil, _, om => .ok [] om
  | .cons a r, sl, om => (evE T a sl om).bind fun x om => (evL T r sl om).bind fun xs om => .ok (x :: xs) om
  | .star a r, sl, om => (evE T a sl om).bind fun x om => match x with
    | .lst ys => (evL T r sl om).bind fun xs om => .ok (ys ++ xs) om
    | .tup ys => (evL T r sl om).bind fun xs om => .ok (ys ++ xs) om
    | _ => .stuck
  | _, _, _ => .stuck
/-- a slice's part -/
def evO (T : Tb) : E → Sl → Om → Rs (Option Int)
  | .cons a .nil, sl, om => (evE T a sl om).bind fun x om => match x with | .int i => .ok (some i) om | _ => .stuck
  | .nop, _, om => .ok none om
  | _, _, _ => .stuck
/-- the parts of an f-string -/
def evJ (T : Tb) : E → Str → Sl → Om → Rs Str
  | .nil, acc, _, om => .ok acc om
  | .cons a r, acc, sl, om => (evE T a sl om).bind fun x om => (fmt T x om).bind fun y om => if (acc ++ y).length ≤ 1000000 then evJ T r (acc ++ y) sl om else .stuck
  | _, _, _, _ => .stuck
/-- what a loop walks -/
def evI (T : Tb) : E → Sl → Om → Rs (List D)
  | .itl a, sl, om => (evE T a sl om).bind fun x om => match items x with | some ds => .ok ds om | none => .stuck
  | .rng1 a, sl, om => (evE T a sl om).bind fun x om => match x with
    | .int n => if -(2 ^ 62) ≤ n ∧ n < 2 ^ 62 then .ok ((List.range n.toNat).map fun (k : Nat) => .int k) om else .stuck
    | _ => .stuck
  | .rng2 a b, sl, om => (evE T a sl om).bind fun x om => (evE T b sl om).bind fun y om => match x, y with
    | .int m, .int n => if (-(2 ^ 62) ≤ m ∧ m < 2 ^ 62) ∧ -(2 ^ 62) ≤ n ∧ n < 2 ^ 62 then .ok ((List.range (n - m).toNat).map fun (k : Nat) => .int (m + k)) om else .stuck
    | _, _ => .stuck
  | .enu a, sl, om => (evE T a sl om).bind fun x om => match x with
    | .lst ds => .ok ((List.range ds.length).zipWith (fun (k : Nat) d => .tup [.int k, d]) ds) om
    | _ => .stuck
  | .zip a b, sl, om => (evE T a sl om).bind fun x om => (evE T b sl om).bind fun y om => match x, y with
    | .lst ds, .lst es => .ok (ds.zipWith (fun d e => .tup [d, e]) es) om
    | _, _ => .stuck
  | _, _, _ => .stuck
end
def evT (T : Tb) (e : E) (sl : Sl) (om : Om) : Rs Bool := (evE T e sl om).bind fun x om => tru x om
/-! ### statements -/
inductive S where
  | skip | seq (a b : S)
  | set (i : Nat) (e : E) | setO (i : Nat) (e : E) | setA (i : Nat) (e : E) | fz (i : Nat)
  | setT (is : List Nat) (e : E) | par (i j : Nat) (a b : E)
  | app (i : Nat) (e : E) | appA (i : Nat) (e : E) | ext (i : Nat) (e : E) | setI (i : Nat) (x e : E) | setIA (i : Nat) (x e : E)
  | setF (c j : Nat) (e : E) | stF (i c j : Nat) (e : E) | auF (i c j : Nat) (e : E) | aug (i : Nat) (o : Bop) (e : E)
  | drop (e : E) | ite (c : E) (a b : S) | whl (c : E) (b : S) | fo (tg : Tg) (it : E) (b : S)
  | ret (e : E) | retF (e : E) | retO (i : Nat) | retN | brk | cnt | never
  | rais (c : Nat) (as : E) | appE (o e : E) | dput (o : E) (k : L2.Key) (e : E) | tr (b : S) (cs : Nat → Option Bool) (i : Nat) (hd : Nat → List D → S)
inductive Out where
  | stuck | next (sl : Sl) (om : Om) | brk (sl : Sl) (om : Om) | cnt (sl : Sl) (om : Om)
  | ret (d : D) (om : Om) | retF (ds : List D) (om : Om) | exc (c : Nat) (fs : List D) (sl : Sl) (om : Om)
def Rs.out {α : Type} (r : Rs α) (sl : Sl) (f : α → Om → Out) : Out := match r with
  | .stuck => .stuck
  | .ok a om => f a om
  | .exc c fs om => .exc c fs sl om
theorem out_ok {α : Type} {a : α} {om : Om} {sl : Sl} {f : α → Om → Out} : (Rs.ok a om).out sl f = f a om := rfl
theorem out_exc {α : Type} {c : Nat} {fs : List D} {om : Om} {sl : Sl} {f : α → Om → Out} : (Rs.exc c fs om : Rs α).out sl f = .exc c fs sl om := rfl
def whileGo (c : Sl → Om → Rs Bool) (b : Sl → Om → Out) : Nat → Sl → Om → Out
  | 0, _, _ => .stuck
  | n + 1, sl, om => (c sl om).out sl fun t om => if t = true then match b sl om with
      | .next sl om => whileGo c b n sl om
      | .cnt sl om => whileGo c b n sl om
      | .brk sl om => .next sl om
      | o => o
    else .next sl om
def forGo (b : Sl → Om → Out) (tg : Tg) : List D → Sl → Om → Out
  | [], sl, om => .next sl om
  | d :: ds, sl, om => match setT sl tg d with
    | none => .stuck
    | some sl => match b sl om with
      | .next sl om => forGo b tg ds sl om
      | .cnt sl om => forGo b tg ds sl om
      | .brk sl om => .next sl om
      | o => o
/-- the caught exception is forgotten -/
def unx (sl : Sl) : Sl := sl.map fun c => match c with
  | .exn => .no
  | c => c
def aft (i : Nat) : Out → Out
  | .next sl om => .next (unx (sl.set i .no)) om
  | .brk sl om => .brk (unx (sl.set i .no)) om
  | .cnt sl om => .cnt (unx (sl.set i .no)) om
  | .ret d om => .ret d om
  | .retF ds om => .retF ds om
  | _ => .stuck
def evS (T : Tb) : S → Sl → Om → Out
  | .skip, sl, om => .next sl om
  | .seq a b, sl, om => match evS T a sl om with
    | .next sl om => evS T b sl om
    | o => o
  | .set i e, sl, om => (evE T e sl om).out sl fun d om => .next (sl.set i (.val d)) om
  | .setO i e, sl, om => (evE T e sl om).out sl fun d om => match d with
    | .lst ds => .next (sl.set i (.own ds)) om
    | _ => .stuck
  | .setA i e, sl, om => (evE T e sl om).out sl fun d om => match d with
    | .lst ds => .next (sl.set i (.val (.amb om.length))) (om ++ [.pl ds])
    | _ => .stuck
  | .fz i, sl, om => match sl[i]? with
    | some (.own ds) => .next (sl.set i (.val (.lst ds))) om
    | _ => .next sl om
  | .setT is e, sl, om => (evE T e sl om).out sl fun d om => match PD.setT sl (.many is) d with
    | some sl => .next sl om
    | none => .stuck
  | .par i j a b, sl, om => (evE T a sl om).out sl fun x om => (evE T b sl om).out sl fun y om => .next ((sl.set i (.val x)).set j (.val y)) om
  | .app i e, sl, om => match sl[i]? with
    | some (.own ds) => (evE T e sl om).out sl fun d om => if ds.length < 1000000 then .next (sl.set i (.own (ds ++ [d]))) om else .stuck
    | _ => .stuck
  | .appA i e, sl, om => match sl[i]? with
    | some (.val (.amb k)) => match om[k]? with
      | some (.pl _) => (evE T e sl om).out sl fun d om => match om[k]? with
        | some (.pl ds) => if ds.length < 1000000 then .next sl (om.set k (.pl (ds ++ [d]))) else .stuck
        | _ => .stuck
      | _ => .stuck
    | _ => .stuck
  | .ext i e, sl, om => match sl[i]? with
    | some (.own ds) => (evE T e sl om).out sl fun d om => match d with
      | .lst es => if ds.length + es.length ≤ 1000000 then .next (sl.set i (.own (ds ++ es))) om else .stuck
      | _ => .stuck
    | _ => .stuck
  | .setI i x e, sl, om => match sl[i]? with
    | some (.own ds) => (evE T e sl om).out sl fun d om => (evE T x sl om).out sl fun n om => match n with
      | .int n => match ixN ds.length n with
        | some j => .next (sl.set i (.own (ds.set j d))) om
        | none => .stuck
      | _ => .stuck
    | _ => .stuck
  | .setIA i x e, sl, om => match sl[i]? with
    | some (.val (.amb k)) => (evE T e sl om).out sl fun d om => (evE T x sl om).out sl fun n om => match n with
      | .int n => match om[k]? with
        | some (.pl ds) => match ixN ds.length n with
          | some j => .next sl (om.set k (.pl (ds.set j d)))
          | none => .stuck
        | _ => .stuck
      | _ => .stuck
    | _ => .stuck
  | .setF c j e, sl, om => (evE T e sl om).out sl fun d om => match sl[(0 : Nat)]? with
    | some (.newo c' fs) => if c' = c ∧ fs.length = j then .next (sl.set 0 (.newo c (fs ++ [d]))) om else .stuck
    | _ => .stuck
  | .stF i c j e, sl, om => match sl[i]? with
    | some (.val (.amb k)) => (evE T e sl om).out sl fun d om => match om[k]? with
      | some (.ob c' fs) => if c' = c then if j < fs.length then .next sl (om.set k (.ob c (fs.set j d))) else if j = fs.length then .next sl (om.set k (.ob c (fs ++ [d]))) else .stuck else .stuck
      | _ => .stuck
    | _ => .stuck
  | .auF i c j e, sl, om => match sl[i]? with
    | some (.val (.amb k)) => match om[k]? with
      | some (.ob c' fs) => if c' = c then match fs[j]? with
          | some (.int m) => (evE T e sl om).out sl fun y om => match y with
            | .int n => match om[k]? with
              | some (.ob c' fs) => if c' = c ∧ j < fs.length then .next sl (om.set k (.ob c (fs.set j (.int (m + n))))) else .stuck
              | _ => .stuck
            | _ => .stuck
          | _ => .stuck
        else .stuck
      | _ => .stuck
    | _ => .stuck
  | .aug i o e, sl, om => match sl[i]? with
    | some (.val (.int m)) => (evE T e sl om).out sl fun y om => match o, y with
      | .add, .int n => .next (sl.set i (.val (.int (m + n)))) om
      | .sub, .int n => .next (sl.set i (.val (.int (m - n)))) om
      | _, _ => .stuck
    | _ => .stuck
  | .drop e, sl, om => (evE T e sl om).out sl fun _ om => .next sl om
  | .ite c a b, sl, om => (evT T c sl om).out sl fun t om => if t = true then evS T a sl om else evS T b sl om
  | .whl c b, sl, om => whileGo (evT T c) (evS T b) T.wf sl om
  | .fo tg it b, sl, om => (evI T it sl om).out sl fun ds om => forGo (evS T b) tg ds sl om
  | .ret e, sl, om => (evE T e sl om).out sl fun d om => .ret d om
  | .retF e, sl, om => (evE T e sl om).out sl fun d om => match d with
    | .lst ds => .retF ds om
    | _ => .stuck
  | .retO i, sl, om => match sl[i]? with
    | some (.own ds) => .retF ds om
    | _ => .stuck
  | .retN, _, om => .ret .non om
  | .brk, sl, om => .brk sl om
  | .cnt, sl, om => .cnt sl om
  | .never, _, _ => .stuck
  | .appE o e, sl, om => (evE T o sl om).out sl fun r om => match r with
    | .amb k => match om[k]? with
      | some (.pl _) => (evE T e sl om).out sl fun d om => match om[k]? with
        | some (.pl ds) => if ds.length < 1000000 then .next sl (om.set k (.pl (ds ++ [d]))) else .stuck
        | _ => .stuck
      | _ => .stuck
    | _ => .stuck
  | .dput o k e, sl, om => (evE T e sl om).out sl fun d om => (evE T o sl om).out sl fun r om => match r with
    | .amb j => match om[j]? with
      | some (.dc ks ds) => match dpD ks ds k d with | some es => .next sl (om.set j (.dc ks es)) | none => .stuck
      | _ => .stuck
    | _ => .stuck
  | .rais c as, sl, om => (evL T as sl om).out sl fun fs om => .exc c fs sl om
  | .tr b cs i hd, sl, om => match evS T b sl om with
    | .exc c fs sl om => match cs c with
      | some true => aft i (evS T (hd c fs) ((unx sl).set i .exn) om)
      | some false => .exc c fs sl om
      | none => .stuck
    | o => o
/-! ### the program -/
structure Def where
  np : Nat
  nl : Nat
  body : S
  cls : Option Nat := none
structure Prog where
  defs : Nat → Option Def
  fresh : Nat → Bool
  opm : Nat → Bop → Option Nat
  eqm : Nat → Option Nat
  strm : Nat → Option Nat
  nf : Nat → Nat
def slots (d : Def) (ds : List D) : Sl := ds.map .val ++ List.replicate (d.nl - d.np) .no
mutual
def callN (p : Prog) (wf : Nat) : Nat → Nat → List D → Om → Rs D
  | 0, _, _, _ => .stuck
  | n + 1, f, ds, om => match p.defs f with
    | none => .stuck
    | some d => if ds.length = d.np then match evS ⟨wf, callN p wf n, initN p wf n, p.fresh, p.opm, p.eqm, p.strm, p.nf⟩ d.body (slots d ds) om with
        | .ret x om' => if p.fresh f = true then .stuck else .ok x om'
        | .retF xs om' => .ok (.lst xs) om'
        | .next _ om' => if p.fresh f = true then .stuck else .ok .non om'
        | .exc c fs _ om' => .exc c fs om'
        | _ => .stuck
      else .stuck
def initN (p : Prog) (wf : Nat) : Nat → Nat → List D → Om → Rs (List D)
  | 0, _, _, _ => .stuck
  | n + 1, f, ds, om => match p.defs f with
    | none => .stuck
    | some d => match d.cls with
      | none => .stuck
      | some c => if ds.length + 1 = d.np then match evS ⟨wf, callN p wf n, initN p wf n, p.fresh, p.opm, p.eqm, p.strm, p.nf⟩ d.body (.newo c [] :: (ds.map .val ++ List.replicate (d.nl - d.np) .no)) om with
          | .next sl om' => match sl[(0 : Nat)]? with
            | some (.newo c' fs) => if c' = c then .ok fs om' else .stuck
            | _ => .stuck
          | .exc c fs _ om' => .exc c fs om'
          | _ => .stuck
        else .stuck
end
def tab (p : Prog) (wf n : Nat) : Tb := ⟨wf, callN p wf n, initN p wf n, p.fresh, p.opm, p.eqm, p.strm, p.nf⟩
end PD

set_option Elab.async false
set_option linter.all false
set_option maxRecDepth 100000
set_option maxHeartbeats 2000000
/-! PDC: expressions are computed by the machine as evE says. -/
namespace PD
open PySem PySem.Spec PyProof.Rows L2
theorem sz_le {n : Nat} (h : n ≤ 1000000) : n ≤ sizeLine := Nat.le_trans h (by decide)
theorem sz_lt {n : Nat} (h : n < 1000000) : n < sizeLine := Nat.lt_of_lt_of_le h (by decide)
section
variable {X : Cx} {e : Expr}
theorem _root_.L2.PE.imp {t t' : TE} (h : PE X e t) (k : ∀ σ H Q, t' σ H Q → t σ H Q) : PE X e t' := ⟨fun pins s σ H Q I q => h.run pins s σ H Q I (k σ H Q q)⟩
theorem _root_.L2.PT.imp {t t' : TT} (h : PT X e t) (k : ∀ σ H Q, t' σ H Q → t σ H Q) : PT X e t' := ⟨fun pins s σ H Q I q => h.run pins s σ H Q I (k σ H Q q)⟩
theorem _root_.L2.PW.imp {t t' : TT} (h : PW X e t) (k : ∀ σ H Q, t' σ H Q → t σ H Q) : PW X e t' := ⟨fun whole pins s σ H Q I q => h.run whole pins s σ H Q I (k σ H Q q)⟩
theorem _root_.L2.PA.imp {es : List Expr} {t t' : TA} (h : PA X es t) (k : ∀ σ H Q, t' σ H Q → t σ H Q) : PA X es t' := ⟨fun pos pins s σ H Q I q => h.run pos pins s σ H Q I (k σ H Q q)⟩
theorem _root_.L2.PO.imp {o : Option Expr} {t t' : TO} (h : PO X o t) (k : ∀ σ H Q, t' σ H Q → t σ H Q) : PO X o t' := ⟨fun pins s σ H Q I q => h.run pins s σ H Q I (k σ H Q q)⟩
theorem _root_.L2.PI.imp {tg : Expr} {t t' : TI} (h : PI X tg e t) (k : ∀ σ H Q, t' σ H Q → t σ H Q) : PI X tg e t' := ⟨fun pins s σ H Q I q => h.run pins s σ H Q I (k σ H Q q)⟩
theorem _root_.L2.PI.alt {tg : Expr} {t t' : TI} (h : PI X tg e t) (h' : PI X tg e t') : PI X tg e (fun σ H Q => t σ H Q ∨ t' σ H Q) := ⟨fun pins s σ H Q I q => q.elim (h.run pins s σ H Q I) (h'.run pins s σ H Q I)⟩
theorem _root_.L2.PG.imp {t t' : TG} (h : PG X e t) (k : ∀ v σ H Q, t' v σ H Q → t v σ H Q) : PG X e t' := ⟨fun pins s σ H v u Q I r q => h.run pins s σ H v u Q I r (k v σ H Q q)⟩
theorem _root_.L2.PS.imp {st : Stmt} {t t' : TS} (h : PS X st t) (k : ∀ D σ H, t' D σ H → t D σ H) : PS X st t' := ⟨fun pins s σ H D I q => h.run pins s σ H D I (k D σ H q)⟩
theorem _root_.L2.PSs.imp {st : List Stmt} {t t' : TS} (h : PSs X st t) (k : ∀ D σ H, t' D σ H → t D σ H) : PSs X st t' := ⟨fun pins s σ H D I q => h.run pins s σ H D I (k D σ H q)⟩
end
/-! ### what is wanted behind a step -/
def ExcR (K : PySem.W.Frag) (L : Lk) (G : Hp) (am : List Addr) (c : Nat) (fs : List D) (cv : Value) (dd : Option Addr) : Prop :=
  cv = .ref (L.ca c) ∧ match fs with
    | [] => dd = none
    | d :: _ => ∃ x v nm, dd = some x ∧ (L.fn c).head? = some nm ∧ G x = some (.xd [(nm, v)]) ∧ Rep K L G am d v
def Post {α β : Type} (K : PySem.W.Frag) (L : Lk) (R : Hp → List Addr → α → β → Prop) (F G : Hp) (am : List Addr) (r : Rs α) (E : XK) (Q : β → Hp → Prop) : Prop := match r with
  | .stuck => False
  | .ok a om' => ∀ b H' G' am', Grow G am G' am' → Mem K L F G' am' om' H' → R G' am' a b → Q b H'
  | .exc c fs om' => ∀ cv dd H' G' am', Grow G am G' am' → Mem K L F G' am' om' H' → ExcR K L G' am' c fs cv dd → E cv dd H'
def PostF (K : PySem.W.Frag) (L : Lk) (F G : Hp) (am : List Addr) (r : Rs D) (E : XK) (Q : VK) : Prop := match r with
  | .stuck => False
  | .ok d om' => ∃ ds, d = .lst ds ∧ ∀ p vs H' G' am', Grow G am G' am' → F p = none → Mem K L (upd F p (.lst vs)) G' am' om' H' → RepL K L G' am' ds vs → Q (.ref p) H'
  | .exc c fs om' => ∀ cv dd H' G' am', Grow G am G' am' → Mem K L F G' am' om' H' → ExcR K L G' am' c fs cv dd → E cv dd H'
/-- a value that is read for a moment: also a list that a slot holds alone -/
def RepB (K : PySem.W.Frag) (L : Lk) (F G : Hp) (am : List Addr) (d : D) (v : V) : Prop := Rep K L G am d v ∨ ∃ a vs ds, d = .lst ds ∧ v = .ref a ∧ F a = some (.lst vs) ∧ RepL K L G am ds vs
def eqR {α : Type} : Hp → List Addr → α → α → Prop := fun _ _ a b => b = a
section
variable {K : PySem.W.Frag} {L : Lk} {F G G' H : Hp} {am am' : List Addr} {om : Om} {α β γ δ : Type} {R : Hp → List Addr → α → β → Prop} {R' : Hp → List Addr → γ → δ → Prop} {E : XK} {Q : β → Hp → Prop} {r : Rs α} {v : V} {d : D} {ds : List D}
theorem Post.grow (g : Grow G am G' am') (h : Post K L R F G am r E Q) : Post K L R F G' am' r E Q := by
  cases r with
  | stuck => exact h
  | ok a om' => exact fun b H' G'' am'' g' => h b H' G'' am'' (g.trans g')
  | exc c fs om' => exact fun cv dd H' G'' am'' g' => h cv dd H' G'' am'' (g.trans g')
theorem PostF.grow {r : Rs D} {Q : VK} (g : Grow G am G' am') (h : PostF K L F G am r E Q) : PostF K L F G' am' r E Q := by
  cases r with
  | stuck => exact h
  | ok a om' =>
    obtain ⟨ds, e, h⟩ := h
    exact ⟨ds, e, fun p vs H' G'' am'' g' => h p vs H' G'' am'' (g.trans g')⟩
  | exc c fs om' => exact fun cv dd H' G'' am'' g' => h cv dd H' G'' am'' (g.trans g')
/-- the first of two steps -/
theorem Post.bind {f : α → Om → Rs γ} {Q' : δ → Hp → Prop} (h : Post K L R' F G am (r.bind f) E Q')
    (k : ∀ a om1 b H1 G1 am1, Grow G am G1 am1 → Mem K L F G1 am1 om1 H1 → R G1 am1 a b → Post K L R' F G1 am1 (f a om1) E Q' → Q b H1) : Post K L R F G am r E Q := by
  cases r with
  | stuck => exact h
  | ok a om1 => exact fun b H1 G1 am1 g M rr => k a om1 b H1 G1 am1 g M rr (Post.grow g h)
  | exc c fs om1 => exact h
theorem PostF.bind {f : α → Om → Rs D} {Q' : VK} (h : PostF K L F G am (r.bind f) E Q')
    (k : ∀ a om1 b H1 G1 am1, Grow G am G1 am1 → Mem K L F G1 am1 om1 H1 → R G1 am1 a b → PostF K L F G1 am1 (f a om1) E Q' → Q b H1) : Post K L R F G am r E Q := by
  cases r with
  | stuck => exact h
  | ok a om1 => exact fun b H1 G1 am1 g M rr => k a om1 b H1 G1 am1 g M rr (PostF.grow g h)
  | exc c fs om1 => exact h
theorem Post.mono (h : Post K L R F G am r E Q) {Q' : β → Hp → Prop} (k : ∀ b H, Q b H → Q' b H) : Post K L R F G am r E Q' := by
  cases r with
  | stuck => exact h
  | ok a om1 => exact fun b H1 G1 am1 g M rr => k _ _ (h b H1 G1 am1 g M rr)
  | exc c fs om1 => exact h
theorem RepB.up (g : Grow G am G' am') (h : RepB K L F G am d v) : RepB K L F G' am' d v := by
  rcases h with h | ⟨a, vs, ds, e, e2, f, r⟩
  · exact .inl (h.up g)
  · exact .inr ⟨a, vs, ds, e, e2, f, r.up g⟩
theorem RepB.int {i : Int} (h : RepB K L F G am (.int i) v) : v = .int i := by
  rcases h with h | ⟨_, _, _, e, _⟩
  · cases h
    rfl
  · cases e
theorem RepB.str {s : Str} (h : RepB K L F G am (.str s) v) : v = .str s := by
  rcases h with h | ⟨_, _, _, e, _⟩
  · cases h
    rfl
  · cases e
theorem RepB.bl {b : Bool} (h : RepB K L F G am (.bl b) v) : v = .bl b := by
  rcases h with h | ⟨_, _, _, e, _⟩
  · cases h
    rfl
  · cases e
theorem RepB.non (h : RepB K L F G am .non v) : v = .non := by
  rcases h with h | ⟨_, _, _, e, _⟩
  · cases h
    rfl
  · cases e
theorem RepB.lst (h : RepB K L F G am (.lst ds) v) (M : Mem K L F G am om H) : ∃ a vs, v = .ref a ∧ H a = some (.lst vs) ∧ RepL K L G am ds vs := by
  rcases h with h | ⟨a, vs, _, e, rfl, f, r⟩
  · cases h with
    | lst h r => exact ⟨_, _, rfl, M.gH _ _ h, r⟩
  · cases e
    exact ⟨a, vs, rfl, M.fH _ _ f, r⟩
theorem RepB.tup (h : RepB K L F G am (.tup ds) v) : ∃ a vs, v = .ref a ∧ G a = some (.tup vs) ∧ RepL K L G am ds vs := by
  rcases h with h | ⟨_, _, _, e, _⟩
  · cases h with
    | tup h r => exact ⟨_, _, rfl, h, r⟩
  · cases e
theorem RepB.scr (h : RepB K L F G am (.scr ds) v) : ∃ a vs, v = .ref a ∧ SqL K G a vs ∧ RepL K L G am ds vs := by
  rcases h with h | ⟨_, _, _, e, _⟩
  · cases h with
    | scr h r => exact ⟨_, _, rfl, h, r⟩
  · cases e
theorem RepB.obj {c : Nat} (h : RepB K L F G am (.obj c ds) v) : ∃ a dx vs, v = .ref a ∧ G a = some (.ins (L.ca c) dx ((L.fn c).zip vs)) ∧ vs.length = (L.fn c).length ∧ RepL K L G am ds vs := by
  rcases h with h | ⟨_, _, _, e, _⟩
  · cases h with
    | obj h n r => exact ⟨_, _, _, rfl, h, n, r⟩
  · cases e
theorem RepB.objE {c : Nat} (h : RepB K L F G am (.obj c ds) v) : Rep K L G am (.obj c ds) v := by
  rcases h with h | ⟨_, _, _, e, _⟩
  · exact h
  · cases e
theorem RepB.amb {k : Nat} (h : RepB K L F G am (.amb k) v) : ∃ a, v = .ref a ∧ am[k]? = some a := by
  rcases h with h | ⟨_, _, _, e, _⟩
  · cases h with
    | amb h => exact ⟨_, rfl, h⟩
  · cases e
theorem Rep.b (h : Rep K L G am d v) : RepB K L F G am d v := .inl h
end
/-! ### readings -/
section
variable (K : PySem.W.Frag) (L : Lk) (T : Tb) (W : WX)
def rdE (e : E) : TE := fun σ H Q => ∃ F G am om sl, Mem K L F G am om H ∧ SlR K L F G am sl σ ∧ Post K L (Rep K L) F G am (evE T e sl om) (fun cv dd H => W cv dd σ H) Q
def rdB (e : E) : TE := fun σ H Q => ∃ F G am om sl, Mem K L F G am om H ∧ SlR K L F G am sl σ ∧ Post K L (RepB K L F) F G am (evE T e sl om) (fun cv dd H => W cv dd σ H) Q
def rdF (e : E) : TE := fun σ H Q => ∃ F G am om sl, Mem K L F G am om H ∧ SlR K L F G am sl σ ∧ PostF K L F G am (evE T e sl om) (fun cv dd H => W cv dd σ H) Q
def rdT (e : E) : TT := fun σ H Q => ∃ F G am om sl, Mem K L F G am om H ∧ SlR K L F G am sl σ ∧ Post K L eqR F G am (evT T e sl om) (fun cv dd H => W cv dd σ H) Q
def rdL (e : E) : TA := fun σ H Q => ∃ F G am om sl, Mem K L F G am om H ∧ SlR K L F G am sl σ ∧ Post K L (RepL K L) F G am (evL T e sl om) (fun cv dd H => W cv dd σ H) Q
def rdO (e : E) : TO := fun σ H Q => ∃ F G am om sl, Mem K L F G am om H ∧ SlR K L F G am sl σ ∧ Post K L eqR F G am (evO T e sl om) (fun cv dd H => W cv dd σ H) Q
end
section
variable {X : Cx} {L : Lk} {T : Tb} {W : WX} {a b c : Expr} {ea eb ec : E} {pos : Pos}
theorem pB (h : PE X a (rdE X.K L T W ea)) : PE X a (rdB X.K L T W ea) := h.imp fun σ H Q ⟨F, G, am, om, sl, M, S, p⟩ => ⟨F, G, am, om, sl, M, S, by
  cases q : evE T ea sl om with
  | stuck => rw [q] at p; exact p
  | ok d om' => rw [q] at p; exact fun b H' G' am' g M' r => p b H' G' am' g M' (.inl r)
  | exc c fs om' => rw [q] at p; exact p⟩
/-- a new list that nobody else holds is as good as one that stands for good -/
theorem rdE_F {σ : L2.St} {H : Hp} {Q : VK} (hl : ∀ sl om d om', evE T ea sl om = .ok d om' → ∃ ds, d = .lst ds) (h : rdE X.K L T W ea σ H Q) : rdF X.K L T W ea σ H Q := by
  obtain ⟨F, G, am, om, sl, M, S, p⟩ := h
  refine ⟨F, G, am, om, sl, M, S, ?_⟩
  cases q : evE T ea sl om with
  | stuck => rw [q] at p; exact p
  | ok d om' =>
    rw [q] at p
    obtain ⟨ds, rfl⟩ := hl sl om d om' q
    refine ⟨ds, rfl, fun pp vs H' G' am' g hf M' r => ?_⟩
    have hg : G' pp = none := M'.fg _ _ upd_same
    refine p (.ref pp) H' (upd G' pp (.lst vs)) am' (g.trans (Grow.of hg)) (M'.freeze upd_same fun a u e => ?_) (.lst upd_same (r.up (Grow.of hg)))
    have hne : a ≠ pp := fun z => by rw [z, hf] at e; cases e
    exact ⟨by rw [upd_ne hne]; exact e, hne⟩
  | exc c fs om' => rw [q] at p; exact p
theorem pFE (h : PE X a (rdF X.K L T W ea)) (hl : ∀ sl om d om', evE T ea sl om = .ok d om' → ∃ ds, d = .lst ds) : PE X a (rdE X.K L T W ea) := h.imp fun σ H Q => rdE_F hl
/-! ### names and constants -/
theorem pE_var {i : Nat} {x : Str} (hN : X.N[i]? = some x) (hv : Vis X.env.scope x) (hd : (x == ("__debug__" : Str)) = false := by decide) (hcd : (x == ("__classdict__" : Str)) = false := by decide) : PE X (.Name x pos) (rdE X.K L T W (.v i)) :=
  (pe_var hN hv hd hcd).imp fun σ H Q ⟨F, G, am, om, sl, M, S, p⟩ => by
    cases q : sl[i]? with
    | none =>
      have e : evE T (.v i) sl om = .stuck := by simp only [evE, q]
      rw [e] at p
      exact p.elim
    | some c =>
      cases c with
      | val d =>
        have e : evE T (.v i) sl om = .ok d om := by simp only [evE, q]
        rw [e] at p
        obtain ⟨o, ho, v, rfl, r⟩ := S.at q
        exact ⟨v, ho, p v H G am Grow.refl M r⟩
      | no =>
        have e : evE T (.v i) sl om = .stuck := by simp only [evE, q]
        rw [e] at p
        exact p.elim
      | own ds =>
        have e : evE T (.v i) sl om = .stuck := by simp only [evE, q]
        rw [e] at p
        exact p.elim
      | newo c fs =>
        have e : evE T (.v i) sl om = .stuck := by simp only [evE, q]
        rw [e] at p
        exact p.elim
      | exn =>
        have e : evE T (.v i) sl om = .stuck := by simp only [evE, q]
        rw [e] at p
        exact p.elim
theorem pB_var {i : Nat} {x : Str} (hN : X.N[i]? = some x) (hv : Vis X.env.scope x) (hd : (x == ("__debug__" : Str)) = false := by decide) (hcd : (x == ("__classdict__" : Str)) = false := by decide) : PE X (.Name x pos) (rdB X.K L T W (.b i)) :=
  (pe_var hN hv hd hcd).imp fun σ H Q ⟨F, G, am, om, sl, M, S, p⟩ => by
    cases q : sl[i]? with
    | none =>
      have e : evE T (.b i) sl om = .stuck := by simp only [evE, q]
      rw [e] at p
      exact p.elim
    | some c =>
      cases c with
      | val d =>
        have e : evE T (.b i) sl om = .ok d om := by simp only [evE, q]
        rw [e] at p
        obtain ⟨o, ho, v, rfl, r⟩ := S.at q
        exact ⟨v, ho, p v H G am Grow.refl M (.inl r)⟩
      | no =>
        have e : evE T (.b i) sl om = .stuck := by simp only [evE, q]
        rw [e] at p
        exact p.elim
      | own ds =>
        have e : evE T (.b i) sl om = .ok (.lst ds) om := by simp only [evE, q]
        rw [e] at p
        obtain ⟨o, ho, a, vs, rfl, f, r⟩ := S.at q
        exact ⟨.ref a, ho, p _ H G am Grow.refl M (.inr ⟨a, vs, ds, rfl, rfl, f, r⟩)⟩
      | newo c fs =>
        have e : evE T (.b i) sl om = .stuck := by simp only [evE, q]
        rw [e] at p
        exact p.elim
      | exn =>
        have e : evE T (.b i) sl om = .stuck := by simp only [evE, q]
        rw [e] at p
        exact p.elim
theorem pE_k {d : D} {v : V} (h : PE X a (tC v)) (r : ∀ K L G am, Rep K L G am d v) : PE X a (rdE X.K L T W (.k d)) :=
  h.imp fun σ H Q ⟨F, G, am, om, sl, M, S, p⟩ => p v H G am Grow.refl M (r _ _ _ _)
theorem pE_int {i : Int} {j : Nat} : PE X (.Constant (.int i) j pos) (rdE X.K L T W (.k (.int i))) := pE_k pe_int fun _ _ _ _ => .int i
theorem pE_str {s : Str} {j : Nat} : PE X (.Constant (.str s) j pos) (rdE X.K L T W (.k (.str s))) := pE_k pe_str fun _ _ _ _ => .str s
theorem pE_bl {i : Bool} {j : Nat} : PE X (.Constant (.bool i) j pos) (rdE X.K L T W (.k (.bl i))) := pE_k pe_bl fun _ _ _ _ => .bl i
theorem pE_non {j : Nat} : PE X (.Constant .none j pos) (rdE X.K L T W (.k .non)) := pE_k pe_non fun _ _ _ _ => .non
theorem pE_gi {x : Str} {i : Int} {t : Tok} (hg : Gl X x) (hm : X.mg x = some (.int i t)) (hd : (x == ("__debug__" : Str)) = false := by decide) : PE X (.Name x pos) (rdE X.K L T W (.k (.int i))) := pE_k (v := .int i) (pe_glob hg hm ⟨t, rfl⟩ hd) fun _ _ _ _ => .int i
/-! ### two operands -/
theorem bin2 {o : Rs D → (D → Om → Rs D)} : True := trivial
/-- reading a and then b -/
theorem rd2 {σ : L2.St} {H : Hp} {Q : VK} {K : PySem.W.Frag} {f : D → D → Om → Rs D} {F G : Hp} {am : List Addr} {om : Om} {sl : Sl} (M : Mem K L F G am om H) (S : SlR K L F G am sl σ)
    (p : Post K L (Rep K L) F G am ((evE T ea sl om).bind fun x om => (evE T eb sl om).bind fun y om => f x y om) (fun cv dd H => W cv dd σ H) Q)
    {r : R2} (k : ∀ x y H' G' am' om' dx dy, Mem K L F G' am' om' H' → RepB K L F G' am' dx x → RepB K L F G' am' dy y → Post K L (Rep K L) F G' am' (f dx dy om') (fun cv dd H => W cv dd σ H) Q → r x y H' Q) :
    rdB K L T W ea σ H fun x H1 => rdB K L T W eb σ H1 fun y H2 => r x y H2 Q :=
  ⟨F, G, am, om, sl, M, S, p.bind fun dx om1 x H1 G1 am1 g1 M1 rx p1 => ⟨F, G1, am1, om1, sl, M1, S.grow g1, p1.bind fun dy om2 y H2 G2 am2 g2 M2 ry p2 => k x y H2 G2 am2 om2 dx dy M2 (rx.up g2) ry p2⟩⟩
end
end PD

set_option Elab.async false
set_option linter.all false
set_option maxRecDepth 100000
set_option maxHeartbeats 2000000
/-! PDD: calls of the program's own defs; operators. -/
namespace PD
open PySem PySem.Spec PyProof.Rows L2
/-! ### tuple * 0, tuple * 1 -/
theorem tuple_mul1 (l : Addr) (items : Array Value) (n : Nat) (dd : Option Addr) (sl : Array (Option Value)) (u : Tok) :
    Meets (Builtin.«tuple.__mul__» ⟨[.ref l, .int 1 u], []⟩) (fun _ R s => s.heap.get? l = some { cls := .type "tuple", dict := dd, data := .seq items n, slots := sl } ∧ R (.ok (.ret (Value.ref l))) s) :=
  .of_wp fun prog w A R s h => by
    obtain ⟨hp, g, d, tk, os⟩ := s
    obtain ⟨hl, h⟩ := h
    have f1 := AutoSeq1.idx_int
    wp_walk using wpAny_loadPart' hl
    repeat (first
      | (refine wpAny_ite_false (decide_eq_false (by decide)) ?_; wp_walk using wpAny_loadPart' hl)
      | (refine wpAny_ite_true (decide_eq_true (by simp)) ?_; wp_walk using wpAny_loadPart' hl))
    exact ⟨_, rfl, h⟩
theorem tuple_mul0 (l : Addr) (items : Array Value) (n : Nat) (dd : Option Addr) (sl : Array (Option Value)) (u : Tok) (hi : items.isEmpty = false) :
    Meets (Builtin.«tuple.__mul__» ⟨[.ref l, .int 0 u], []⟩) (fun _ R s => s.heap.get? l = some { cls := .type "tuple", dict := dd, data := .seq items n, slots := sl } ∧
      R (.ok (.ret (Value.ref s.heap.objs.size))) { s with heap := s.heap.push { cls := Value.type "tuple", data := Data.seq #[] }, toks := s.toks }) :=
  .of_wp fun prog w A R s h => by
    obtain ⟨hp, g, d, tk, os⟩ := s
    obtain ⟨hl, h⟩ := h
    have f1 := AutoSeq1.idx_int
    have c1 : (items.isEmpty || (0 : Int) == 1) = false := by rw [hi]; rfl
    wp_walk using wpAny_loadPart' hl
    repeat (first
      | (refine wpAny_ite_false (decide_eq_false (by rw [c1]; exact Bool.false_ne_true)) ?_; wp_walk using wpAny_loadPart' hl)
      | (refine wpAny_ite_false (decide_eq_false (by decide)) ?_; wp_walk using wpAny_loadPart' hl)
      | (refine wpAny_ite_true (decide_eq_true (by simp)) ?_; wp_walk using wpAny_loadPart' hl))
    exact ⟨_, rfl, h⟩
def rRepT1 (K : PySem.W.Frag) : R2 := fun x y H Q => ∃ l k xs, x = .ref l ∧ y = .int k ∧ SqT K H l xs ∧ k = 1 ∧ Q (.ref l) H
def rRepT0 (K : PySem.W.Frag) : R2 := fun x y H Q => ∃ l k xs, x = .ref l ∧ y = .int k ∧ SqT K H l xs ∧ xs ≠ [] ∧ k = 0 ∧ ∀ p, H p = none → Q (.ref p) (upd H p (.tup []))
section
variable {X : Cx}
theorem op_repT1 : OpR X (binaryOp .Mult) (rRepT1 X.K) := by
  intro pins s σ H x y v u Q I rx ry h
  obtain ⟨l, k, xs, rfl, rfl, hT, rfl, q⟩ := h
  cases rx
  obtain ⟨t, rfl⟩ := ry
  obtain ⟨its, r, ⟨⟨cls, dd, data, sl⟩, ho, hc, n, hd⟩, hs⟩ := I.tuple hT
  simp only at hc hd
  subst hc hd
  refine wpAny_binaryOp_repeat_ref (T := "tuple") (U := "int") (by decide) ⟨_, ho, rfl⟩ (fun s' => typeIs_int s' 1 t) noFill_tuple_mul F.fills_int_mul F.slot_int_rmul repeat_tuple F.slot_int_index.lookup
    (call_meets F.slot_int_rmul (typeIs_int s 1 t) F.entry_int_rmul (F.args_int_rmul_2 _ _) (int_rmul_tuple 1 t l its.toArray n dd sl)
      ⟨ho, rfl, ⟨_, ho, rfl⟩, call_meets F.slot_tuple_mul ⟨_, ho, rfl⟩ F.entry_tuple_mul (F.args_tuple_mul_2 _ _) (tuple_mul1 l its.toArray n dd sl t) ⟨ho, ?_⟩⟩)
  exact ⟨.ref l, H, I, rfl, q⟩
theorem op_repT0 : OpR X (binaryOp .Mult) (rRepT0 X.K) := by
  intro pins s σ H x y v u Q I rx ry h
  obtain ⟨l, k, xs, rfl, rfl, hT, hne, rfl, q⟩ := h
  cases rx
  obtain ⟨t, rfl⟩ := ry
  obtain ⟨its, r, ⟨⟨cls, dd, data, sl⟩, ho, hc, n, hd⟩, hs⟩ := I.tuple hT
  simp only at hc hd
  subst hc hd
  have hle : its.length = xs.length := r.length.symm
  have hn : its ≠ [] := fun e => hne (by
    rw [e] at hle
    exact List.eq_nil_of_length_eq_zero hle.symm)
  have hi : its.toArray.isEmpty = false := by
    cases its with
    | nil => exact absurd rfl hn
    | cons a b => rfl
  refine wpAny_binaryOp_repeat_ref (T := "tuple") (U := "int") (by decide) ⟨_, ho, rfl⟩ (fun s' => typeIs_int s' 0 t) noFill_tuple_mul F.fills_int_mul F.slot_int_rmul repeat_tuple F.slot_int_index.lookup
    (call_meets F.slot_int_rmul (typeIs_int s 0 t) F.entry_int_rmul (F.args_int_rmul_2 _ _) (int_rmul_tuple 0 t l its.toArray n dd sl)
      ⟨ho, rfl, ⟨_, ho, rfl⟩, call_meets F.slot_tuple_mul ⟨_, ho, rfl⟩ F.entry_tuple_mul (F.args_tuple_mul_2 _ _) (tuple_mul0 l its.toArray n dd sl t hi) ⟨ho, ?_⟩⟩)
  refine ⟨.ref s.heap.objs.size, _, I.laid (t' := s.toks) (o := .tup []) (fun b ob q => Heap.get?_push_of_some _ q) (Nat.le_refl _) ?_, rfl, q _ (I.hok.fresh (Nat.le_refl _))⟩
  exact ⟨Nat.zero_le _, [], .nil, IsTup.new _ _⟩
end
/-! ### the promise of a def: what callN says -/
def spD (K : PySem.W.Frag) (L : Lk) (p : Prog) (n f : Nat) : Sp := fun vs H Q E => ∃ wf F G am om ds, Mem K L F G am om H ∧ RepL K L G am ds vs ∧ (∃ d, p.defs f = some d ∧ ds.length = d.np) ∧
  if p.fresh f = true then PostF K L F G am (callN p wf n f ds om) E Q else Post K L (Rep K L) F G am (callN p wf n f ds om) E Q
/-- of the maker of a frozen instance: self is held alone and has no fields yet -/
def spI (K : PySem.W.Frag) (L : Lk) (p : Prog) (n f : Nat) : Sp := fun vs H Q E => ∃ wf F G am om ds c x dx us, vs = .ref x :: us ∧ Mem K L F G am om H ∧ F x = some (.ins (L.ca c) dx []) ∧ RepL K L G am ds us ∧ (∃ d, p.defs f = some d ∧ d.cls = some c ∧ ds.length + 1 = d.np) ∧
  match initN p wf n f ds om with
  | .stuck => False
  | .ok fs om' => ∀ ws H' G' am', Grow G am G' am' → Mem K L (upd F x (.ins (L.ca c) dx ((L.fn c).zip ws))) G' am' om' H' → RepL K L G' am' fs ws → Q .non H'
  | .exc c' fs om' => ∀ cv dd H' G' am', Grow G am G' am' → Mem K L (fun a => if a = x then none else F a) G' am' om' H' → ExcR K L G' am' c' fs cv dd → E cv dd H'
structure FI where
  addr : Addr
  fd : FuncData
  ps : List Str
def Bop.py : Bop → Operator
  | .add => .Add
  | .sub => .Sub
  | .mul => .Mult
  | .fdiv => .FloorDiv
  | .mod => .Mod
  | .pow => .Pow
/-- where the program's defs stand; each keeps its promise at n -/
structure Lnk (P : Program) (w : World) (K : PySem.W.Frag) (mg : Str → Option Value) (base : Heap) (L : Lk) (p : Prog) (fi : Nat → FI) (n : Nat) : Prop where
  fn : ∀ f d, p.defs f = some d → d.cls = none → FnOk P w K mg base (L2.CX P w) (2 * n) (fi f).addr (fi f).fd (fi f).ps (spD K L p n f)
  ini : ∀ f d c, p.defs f = some d → d.cls = some c → FnOk P w K mg base (L2.CX P w) (2 * n) (fi f).addr (fi f).fd (fi f).ps (spI K L p n f)
  nf : ∀ c, p.nf c = (L.fn c).length
  opm : ∀ c o f, p.opm c o = some f → (∃ d, p.defs f = some d ∧ d.cls = none ∧ d.np = 2) ∧ p.fresh f = false ∧ PySem.W.selfFirst K (L.ca c) = true ∧
    PySem.W.findIn K (.ref (L.ca c)) (PySem.dunder o.py.info.2) = some (some (.ref (fi f).addr)) ∧ PySem.W.isFn K (.ref (fi f).addr) = true ∧ Binds K (fi f).fd (fi f).ps []
  eqm : ∀ c f, p.eqm c = some f → (∃ d, p.defs f = some d ∧ d.cls = none ∧ d.np = 2) ∧ p.fresh f = false ∧ PySem.W.notFirst K (L.ca c) (.ref (L.ca c)) = true ∧
    PySem.W.findIn K (.ref (L.ca c)) "__eq__" = some (some (.ref (fi f).addr)) ∧ PySem.W.isFn K (.ref (fi f).addr) = true ∧ Binds K (fi f).fd (fi f).ps []
  strm : ∀ c f, p.strm c = some f → (∃ d, p.defs f = some d ∧ d.cls = none ∧ d.np = 1) ∧ p.fresh f = false ∧
    PySem.W.findIn K (.ref (L.ca c)) "__str__" = some (some (.ref (fi f).addr)) ∧ PySem.W.isFn K (.ref (fi f).addr) = true ∧ Binds K (fi f).fd (fi f).ps []
section
variable {X : Cx} {L : Lk} {p : Prog} {fi : Nat → FI} {n wf : Nat}
theorem passE0 {σ : L2.St} : PassesAt (L2.CX X.prog X.w) X σ (fun _ _ _ => False) := fun pins H s e s' I c => by
  obtain ⟨_, _, _, _, _, _, _, _, _, _, _, _, z⟩ := c
  exact z.elim
/-- an operator by an own method -/
theorem own_bin {pins : List (Addr × Obj)} {s : Shared} {σ : L2.St} {H : Hp} {Q : VK} {o : Bop} {c f : Nat} {fs gs : List D} {x y : V} {v u : Value} {F G : Hp} {am : List Addr} {om : Om} {E : XK}
    (hL : Lnk X.prog X.w X.K X.mg X.base L p fi n) (hr : Room (2 * n + 1) X.A) (I : Inv X pins σ H s) (rx : RelV x v) (ry : RelV y u) (M : Mem X.K L F G am om H) (hx : Rep X.K L G am (.obj c fs) x) (hy : Rep X.K L G am (.obj c gs) y)
    (hf : p.opm c o = some f) (hp : Post X.K L (Rep X.K L) F G am (callN p wf n f [.obj c fs, .obj c gs] om).nox E Q) : wpAny (model X.prog X.w) X.A (binaryOp o.py v u) (EP X pins σ Q) X.xe s := by
  obtain ⟨⟨d, hd, hc, hnp⟩, hfr, hsf, hfind, hfn, hb⟩ := hL.opm c o f hf
  have hx0 := hx
  have hy0 := hy
  cases hx with
  | @obj _ a dx vs _ ha na ra =>
  cases hy with
  | @obj _ b dy ws _ hb' nb rb =>
  cases rx
  cases ry
  obtain ⟨mA, J, _⟩ := ins_get I.hok (M.gH _ _ ha)
  obtain ⟨mB, J', _⟩ := ins_get I.hok (M.gH _ _ hb')
  obtain ⟨od, J, _⟩ := J.look
  obtain ⟨od', J', _⟩ := J'.look
  obtain ⟨m, hF⟩ := I.fr
  refine PySem.W.binop_K hF I.ok.mod.kin J J'.type hsf hfind hfn ?_
  have hsp : spD X.K L p n f ([V.ref a, V.ref b] ++ []) H Q (fun _ _ _ => False) := by
    refine ⟨wf, F, G, am, om, _, M, .cons hx0 (.cons hy0 .nil), ⟨d, hd, by rw [hnp]; rfl⟩, ?_⟩
    rw [if_neg (by rw [hfr]; decide)]
    cases q : callN p wf n f [.obj c fs, .obj c gs] om with
    | stuck => rw [q] at hp; exact hp
    | ok a om' => rw [q] at hp; exact hp
    | exc c fs om' => rw [q] at hp; exact hp.elim
  refine wpAny_mono (run_fnSD (ds := []) (us := [.ref a, .ref b]) (vs := [.ref a, .ref b]) (dvs := []) (E := fun _ => fun _ _ _ => False) (hL.fn f d hd hc) (hr.mono (by omega)) hb .nil passE0 I (.cons rfl (.cons rfl .nil)) hsp) (fun v s' hv => ?_) fun _ _ e => e
  obtain ⟨z, H', I', rz, q⟩ := hv
  cases z with
  | non => cases rz; exact ⟨.non, H', I', rfl, q⟩
  | bl b => cases rz; exact ⟨.bl b, H', I', rfl, q⟩
  | int i => obtain ⟨t, rfl⟩ := rz; exact ⟨.int i, H', I', ⟨t, rfl⟩, q⟩
  | str i => obtain ⟨t, rfl⟩ := rz; exact ⟨.str i, H', I', ⟨t, rfl⟩, q⟩
  | byt i => obtain ⟨t, rfl⟩ := rz; exact ⟨.byt i, H', I', ⟨t, rfl⟩, q⟩
  | flt i => obtain ⟨t, rfl⟩ := rz; exact ⟨.flt i, H', I', ⟨t, rfl⟩, q⟩
  | ref a => cases rz; exact ⟨.ref a, H', I', rfl, q⟩
  | ty a => cases rz; exact ⟨.ty a, H', I', rfl, q⟩
def rOp (K : PySem.W.Frag) (L : Lk) (T : Tb) (o : Bop) : R2 := fun x y H Q => ∃ F G am om dx dy E, Mem K L F G am om H ∧ RepB K L F G am dx x ∧ RepB K L F G am dy y ∧ Post K L (Rep K L) F G am (bop T o dx dy om) E Q
theorem op_bop (hL : Lnk X.prog X.w X.K X.mg X.base L p fi n) (hr : Room (2 * n + 1) X.A) (o : Bop) : OpR X (binaryOp o.py) (rOp X.K L (tab p wf n) o) := by
  rintro pins s σ H x y v u Q I rx ry ⟨F, G, am, om, dx, dy, E, M, hx, hy, hp⟩
  unfold bop at hp
  split at hp
  · cases hx.int; cases hy.int
    exact op_add pins s σ H _ _ v u Q I rx ry ⟨_, _, rfl, rfl, hp _ H G am Grow.refl M (.int _)⟩
  · cases hx.int; cases hy.int
    exact op_sub pins s σ H _ _ v u Q I rx ry ⟨_, _, rfl, rfl, hp _ H G am Grow.refl M (.int _)⟩
  · cases hx.int; cases hy.int
    split at hp
    · rename_i hc
      exact op_mulW pins s σ H _ _ v u Q I rx ry ⟨_, _, rfl, rfl, hc, hp _ H G am Grow.refl M (.int _)⟩
    · exact hp.elim
  · cases hx.int; cases hy.int
    split at hp
    · rename_i hc
      exact op_fdivW pins s σ H _ _ v u Q I rx ry ⟨_, _, rfl, rfl, hc, hp _ H G am Grow.refl M (.int _)⟩
    · exact hp.elim
  · cases hx.int; cases hy.int
    split at hp
    · rename_i hc
      exact op_mod pins s σ H _ _ v u Q I rx ry ⟨_, _, rfl, rfl, hc, hp _ H G am Grow.refl M (.int _)⟩
    · exact hp.elim
  · cases hx.int; cases hy.int
    split at hp
    · rename_i hc
      exact op_pow pins s σ H _ _ v u Q I rx ry ⟨_, _, rfl, rfl, hc, hp _ H G am Grow.refl M (.int _)⟩
    · exact hp.elim
  · cases hx.str; cases hy.str
    split at hp
    · rename_i hc
      exact op_add_str pins s σ H _ _ v u Q I rx ry ⟨_, _, rfl, rfl, sz_le hc, hp _ H G am Grow.refl M (.str _)⟩
    · exact hp.elim
  · obtain ⟨a, vs, rfl, ha, ra⟩ := hx.lst M
    obtain ⟨b, ws, rfl, hb, rb⟩ := hy.lst M
    split at hp
    · rename_i hc
      refine op_cat pins s σ H _ _ v u Q I rx ry ⟨_, _, _, _, rfl, rfl, ha, hb, sz_le (by rw [← ra.length, ← rb.length]; exact hc), fun q hq => ?_⟩
      exact hp _ _ _ am (Grow.of (M.none_g hq)) (M.new hq) (.lst upd_same ((ra.append rb).up (Grow.of (M.none_g hq))))
    · exact hp.elim
  · obtain ⟨a, vs, rfl, ha, ra⟩ := hx.tup
    obtain ⟨b, ws, rfl, hb, rb⟩ := hy.tup
    split at hp
    · rename_i hc
      refine op_catA pins s σ H _ _ v u Q I rx ry ⟨a, b, vs, ws, rfl, rfl, SqT.of (M.gH _ _ ha), SqT.of (M.gH _ _ hb), sz_le (by rw [← ra.length, ← rb.length]; exact hc), fun e => ?_, fun _ e => ?_, fun _ _ q hq => ?_⟩
      · subst e
        cases ra
        exact hp _ H G am Grow.refl M (.tup hb rb)
      · subst e
        cases rb
        rw [List.append_nil] at hp
        exact hp _ H G am Grow.refl M (.tup ha ra)
      · exact hp _ _ _ am (Grow.of (M.none_g hq)) (M.new hq) (.tup upd_same ((ra.append rb).up (Grow.of (M.none_g hq))))
    · exact hp.elim
  · obtain ⟨a, vs, rfl, ha, ra⟩ := hx.lst M
    cases hy.int
    split at hp
    · rename_i hc
      obtain ⟨h0, h1, h2⟩ := hc
      refine op_rep pins s σ H _ _ v u Q I rx ry ⟨_, _, _, rfl, rfl, ha, by omega, by omega, sz_le (by rw [← ra.length]; exact h2), fun q hq => ?_⟩
      exact hp _ _ _ am (Grow.of (M.none_g hq)) (M.new hq) (.lst upd_same ((ra.rep _).up (Grow.of (M.none_g hq))))
    · exact hp.elim
  · obtain ⟨a, vs, rfl, ha, ra⟩ := hx.tup
    cases hy.int
    rename_i xs k
    split at hp
    · rename_i hc
      obtain ⟨h0, h1, h2, h3⟩ := hc
      have hne : vs ≠ [] := fun e => by
        subst e
        cases ra
        cases h2
      by_cases c0 : k = 0
      · subst c0
        exact op_repT0 pins s σ H _ _ v u Q I rx ry ⟨_, _, vs, rfl, rfl, SqT.of (M.gH _ _ ha), hne, rfl, fun q hq => hp _ _ _ am (Grow.of (M.none_g hq)) (M.new hq) (.tup upd_same .nil)⟩
      by_cases c1 : k = 1
      · subst c1
        refine op_repT1 pins s σ H _ _ v u Q I rx ry ⟨_, _, vs, rfl, rfl, SqT.of (M.gH _ _ ha), rfl, hp _ H G am Grow.refl M ?_⟩
        have e : (List.replicate (Int.toNat 1) xs).flatten = xs := by simp
        rw [e]
        exact .tup ha ra
      refine op_repT pins s σ H _ _ v u Q I rx ry ⟨_, _, vs, rfl, rfl, SqT.of (M.gH _ _ ha), hne, by omega, h1, by rw [← ra.length]; exact h3, fun q hq => ?_⟩
      exact hp _ _ _ am (Grow.of (M.none_g hq)) (M.new hq) (.tup upd_same ((ra.rep _).up (Grow.of (M.none_g hq))))
    · exact hp.elim
  · split at hp
    · rename_i hc
      subst hc
      split at hp
      · rename_i f hf
        exact own_bin hL hr I rx ry M hx.objE hy.objE hf hp
      · exact hp.elim
    · exact hp.elim
  · exact hp.elim
end
section
variable {X : Cx} {L : Lk} {p : Prog} {fi : Nat → FI} {n wf : Nat} {W : WX} {a b c : Expr} {ea eb ec : E} {pos : Pos}
theorem pE_op (hL : Lnk X.prog X.w X.K X.mg X.base L p fi n) (hr : Room (2 * n + 1) X.A) (o : Bop) (ha : PE X a (rdB X.K L (tab p wf n) W ea)) (hb : PE X b (rdB X.K L (tab p wf n) W eb)) : PE X (.BinOp a o.py b pos) (rdE X.K L (tab p wf n) W (.op o ea eb)) :=
  (pe_op (op_bop hL hr o) ha hb).imp fun σ H Q ⟨F, G, am, om, sl, M, S, pp⟩ => rd2 M S pp fun x y H' G' am' om' dx dy M' rx ry p2 => ⟨F, G', am', om', dx, dy, _, M', rx, ry, p2⟩
def rCatF (K : PySem.W.Frag) (L : Lk) (f : D → D → Om → Rs D) : R2 := fun x y H Q => ∃ F G am om dx dy E, Mem K L F G am om H ∧ RepB K L F G am dx x ∧ RepB K L F G am dy y ∧ PostF K L F G am (f dx dy om) E Q
theorem op_catF : OpR X (binaryOp .Add) (rCatF X.K L catD) := by
  rintro pins s σ H x y v u Q I rx ry ⟨F, G, am, om, dx, dy, E, M, hx, hy, hp⟩
  unfold catD at hp
  split at hp
  · obtain ⟨a, vs, rfl, ha, ra⟩ := hx.lst M
    obtain ⟨b, ws, rfl, hb, rb⟩ := hy.lst M
    split at hp
    · rename_i hc
      obtain ⟨ds, e, hp⟩ := hp
      cases e
      refine op_cat pins s σ H _ _ v u Q I rx ry ⟨_, _, _, _, rfl, rfl, ha, hb, sz_le (by rw [← ra.length, ← rb.length]; exact hc), fun q hq => ?_⟩
      exact hp _ _ _ _ am Grow.refl (M.none_f hq) (M.newF hq) (ra.append rb)
    · exact hp.elim
  · exact hp.elim
theorem op_repF : OpR X (binaryOp .Mult) (rCatF X.K L repD) := by
  rintro pins s σ H x y v u Q I rx ry ⟨F, G, am, om, dx, dy, E, M, hx, hy, hp⟩
  unfold repD at hp
  split at hp
  · obtain ⟨a, vs, rfl, ha, ra⟩ := hx.lst M
    cases hy.int
    split at hp
    · rename_i hc
      obtain ⟨h0, h1, h2⟩ := hc
      obtain ⟨ds, e, hp⟩ := hp
      cases e
      refine op_rep pins s σ H _ _ v u Q I rx ry ⟨_, _, _, rfl, rfl, ha, by omega, by omega, sz_le (by rw [← ra.length]; exact h2), fun q hq => ?_⟩
      exact hp _ _ _ _ am Grow.refl (M.none_f hq) (M.newF hq) (ra.rep _)
    · exact hp.elim
  · exact hp.elim
/-- reading a and then b, a new list behind -/
theorem rd2F {T : Tb} {σ : L2.St} {H : Hp} {Q : VK} {K : PySem.W.Frag} {f : D → D → Om → Rs D} {F G : Hp} {am : List Addr} {om : Om} {sl : Sl} (M : Mem K L F G am om H) (S : SlR K L F G am sl σ)
    (p : PostF K L F G am ((evE T ea sl om).bind fun x om => (evE T eb sl om).bind fun y om => f x y om) (fun cv dd H => W cv dd σ H) Q)
    {r : R2} (k : ∀ x y H' G' am' om' dx dy, Mem K L F G' am' om' H' → RepB K L F G' am' dx x → RepB K L F G' am' dy y → PostF K L F G' am' (f dx dy om') (fun cv dd H => W cv dd σ H) Q → r x y H' Q) :
    rdB K L T W ea σ H fun x H1 => rdB K L T W eb σ H1 fun y H2 => r x y H2 Q :=
  ⟨F, G, am, om, sl, M, S, p.bind fun dx om1 x H1 G1 am1 g1 M1 rx p1 => ⟨F, G1, am1, om1, sl, M1, S.grow g1, p1.bind fun dy om2 y H2 G2 am2 g2 M2 ry p2 => k x y H2 G2 am2 om2 dx dy M2 (rx.up g2) ry p2⟩⟩
theorem pF_cat {T : Tb} (ha : PE X a (rdB X.K L T W ea)) (hb : PE X b (rdB X.K L T W eb)) : PE X (.BinOp a .Add b pos) (rdF X.K L T W (.cat ea eb)) :=
  (pe_op op_catF ha hb).imp fun σ H Q ⟨F, G, am, om, sl, M, S, pp⟩ => rd2F M S pp fun x y H' G' am' om' dx dy M' rx ry p2 => ⟨F, G', am', om', dx, dy, _, M', rx, ry, p2⟩
theorem pF_rp {T : Tb} (ha : PE X a (rdB X.K L T W ea)) (hb : PE X b (rdB X.K L T W eb)) : PE X (.BinOp a .Mult b pos) (rdF X.K L T W (.rp ea eb)) :=
  (pe_op op_repF ha hb).imp fun σ H Q ⟨F, G, am, om, sl, M, S, pp⟩ => rd2F M S pp fun x y H' G' am' om' dx dy M' rx ry p2 => ⟨F, G', am', om', dx, dy, _, M', rx, ry, p2⟩
end
end PD

set_option Elab.async false
set_option linter.all false
set_option maxRecDepth 100000
set_option maxHeartbeats 400000
/-! PDE: comparisons, tests. -/
namespace PD
open PySem PySem.Spec PyProof.Rows L2
section
variable {K : PySem.W.Frag} {L : Lk} {F G H : Hp} {am : List Addr} {om : Om}
mutual
theorem dpG (e : Ex G H) : ∀ (d : D) (v : V) (q : PyData), Rep K L G am d v → toP d = some q → Dp K H v q
  | _, _, q, .non, h => by cases h; exact .non
  | _, _, q, .bl b, h => by cases h; exact .bl b
  | _, _, q, .int b, h => by cases h; exact .int b
  | _, _, q, .str b, h => by cases h; exact .str b
  | .lst ds, _, q, .lst (vs := vs) h r, hq => by
    rw [toP] at hq
    cases z : toPs ds with
    | none => rw [z] at hq; cases hq
    | some qs =>
      rw [z] at hq
      cases hq
      exact .lst (SqL.of (e _ _ h)) (dpGs e ds vs qs r z)
  | .tup ds, _, q, .tup (vs := vs) h r, hq => by
    rw [toP] at hq
    cases z : toPs ds with
    | none => rw [z] at hq; cases hq
    | some qs =>
      rw [z] at hq
      cases hq
      exact .tup (SqT.of (e _ _ h)) (dpGs e ds vs qs r z)
  | .obj _ _, _, q, _, h => by cases h
  | .amb _, _, q, _, h => by cases h
  | .scr _, _, q, _, h => by cases h
theorem dpGs (e : Ex G H) : ∀ (ds : List D) (vs : List V) (qs : List PyData), RepL K L G am ds vs → toPs ds = some qs → DpAll K H vs qs
  | [], _, qs, .nil, h => by cases h; exact .nil
  | d :: ds, v :: vs, qs, .cons h r, hq => by
    rw [toPs] at hq
    cases z : toP d with
    | none => rw [z] at hq; cases hq
    | some q =>
      rw [z] at hq
      cases zs : toPs ds with
      | none => rw [zs] at hq; cases hq
      | some qs' =>
        rw [zs] at hq
        cases hq
        exact .cons (dpG e d v q h z) (dpGs e ds vs qs' r zs)
end
theorem RepB.dp {d : D} {v : V} {q : PyData} (h : RepB K L F G am d v) (M : Mem K L F G am om H) (hq : toP d = some q) : Dp K H v q := by
  rcases h with h | ⟨a, vs, ds, rfl, rfl, f, r⟩
  · exact dpG M.gH d v q h hq
  · rw [toP] at hq
    cases z : toPs ds with
    | none => rw [z] at hq; cases hq
    | some qs =>
      rw [z] at hq
      cases hq
      exact .lst (SqL.of (M.fH _ _ f)) (dpGs M.gH ds vs qs r z)
/-- a flat value's data -/
def fV : V → PyData
  | .bl b => .bool b
  | .int i => .int i
  | .str s => .str s
  | _ => .none
theorem fV_eqv : ∀ x y : V, flatV x = true → flatV y = true → eqV x y = PyData.eqv (fV x) (fV y) := by
  intro x y hx hy
  cases x <;> cases y <;> first | (simp [flatV] at hx; done) | (simp [flatV] at hy; done) | simp [eqV, fV, PyData.eqv]
theorem flat_r {d : D} {v : V} {q : PyData} (r : Rep K L G am d v) (f : flatD d = true) (h : toP d = some q) : flatV v = true ∧ q = fV v := by
  cases r with
  | non => simp only [toP, Option.some.injEq] at h; exact ⟨rfl, h.symm⟩
  | bl b => simp only [toP, Option.some.injEq] at h; exact ⟨rfl, h.symm⟩
  | int b => simp only [toP, Option.some.injEq] at h; exact ⟨rfl, h.symm⟩
  | str b => simp only [toP, Option.some.injEq] at h; exact ⟨rfl, h.symm⟩
  | lst _ _ => cases f
  | tup _ _ => cases f
  | obj _ _ _ => cases f
  | amb _ => cases f
  | scr _ _ => cases f
theorem flat_v {d : D} {v : V} {q : PyData} (r : Rep K L G am d v) (f : flatD d = true) (h : toP d = some q) : flatV v = true ∧ ∀ (d' : D) (v' : V) (q' : PyData), Rep K L G am d' v' → flatD d' = true → toP d' = some q' → eqV v v' = PyData.eqv q q' := by
  obtain ⟨a, rfl⟩ := flat_r r f h
  refine ⟨a, fun d' v' q' r' f' h' => ?_⟩
  obtain ⟨b, rfl⟩ := flat_r r' f' h'
  exact fV_eqv _ _ a b
theorem inV_of {x : D} {v : V} {q : PyData} (rx : Rep K L G am x v) (fx : flatD x = true) (hx : toP x = some q) : ∀ {ys : List D} {vs : List V} {qs : List PyData}, RepL K L G am ys vs → ys.all flatD = true → toPs ys = some qs →
    vs.all flatV = true ∧ inV v vs = qs.any fun z => PyData.eqv z q
  | _, _, _, .nil, _, h => by cases h; exact ⟨rfl, rfl⟩
  | d :: ds, w :: ws, qs, .cons h r, f, hq => by
    rw [List.all_cons, Bool.and_eq_true] at f
    rw [toPs] at hq
    cases z : toP d with
    | none => rw [z] at hq; cases hq
    | some q1 =>
      rw [z] at hq
      cases zs : toPs ds with
      | none => rw [zs] at hq; cases hq
      | some qs' =>
        rw [zs] at hq
        cases hq
        obtain ⟨a, b⟩ := inV_of rx fx hx r f.2 zs
        obtain ⟨c, e⟩ := flat_v h f.1 z
        refine ⟨by rw [List.all_cons, c, a]; rfl, ?_⟩
        show List.any (w :: ws) _ = _
        rw [List.any_cons, List.any_cons, e x v q rx fx hx]
        exact congrArg _ b
end
theorem inA_cases (x y : D) (om : Om) : (∃ k ds, y = .amb k ∧ om[k]? = some (.pl ds) ∧ inA x y om = inD x ds) ∨ ((∀ k, y ≠ .amb k) ∧ inA x y om = inX x y) ∨ inA x y om = none := by
  cases y with
  | amb k =>
    cases h : om[k]? with
    | none => exact .inr (.inr (by unfold inA; dsimp only; rw [h]))
    | some o =>
      cases o with
      | pl ds => exact .inl ⟨k, ds, rfl, h, by unfold inA; dsimp only; rw [h]⟩
      | ob c fs => exact .inr (.inr (by unfold inA; dsimp only; rw [h]))
      | dc ks ds => exact .inr (.inr (by unfold inA; dsimp only; rw [h]))
  | non => exact .inr (.inl ⟨fun k => (fun e => nomatch e), rfl⟩)
  | bl _ => exact .inr (.inl ⟨fun k => (fun e => nomatch e), rfl⟩)
  | int _ => exact .inr (.inl ⟨fun k => (fun e => nomatch e), rfl⟩)
  | str _ => exact .inr (.inl ⟨fun k => (fun e => nomatch e), rfl⟩)
  | lst _ => exact .inr (.inl ⟨fun k => (fun e => nomatch e), rfl⟩)
  | tup _ => exact .inr (.inl ⟨fun k => (fun e => nomatch e), rfl⟩)
  | obj _ _ => exact .inr (.inl ⟨fun k => (fun e => nomatch e), rfl⟩)
  | scr _ => exact .inr (.inl ⟨fun k => (fun e => nomatch e), rfl⟩)
theorem amb_lst {K : PySem.W.Frag} {L : Lk} {F G H : Hp} {am : List Addr} {om : Om} {k : Nat} {v : V} {ds : List D} (M : Mem K L F G am om H) (h : RepB K L F G am (.amb k) v) (hk : om[k]? = some (.pl ds)) : ∃ a vs, v = .ref a ∧ H a = some (.lst vs) ∧ RepL K L G am ds vs := by
  rcases h with h | ⟨_, _, _, e, _⟩
  · cases h with
    | @amb _ a ha =>
      obtain ⟨vs, h1, r⟩ := M.obs _ _ _ ha hk
      exact ⟨a, vs, rfl, h1, r⟩
  · cases e
def Cop.py : Cop → CmpOp
  | .eq => .Eq
  | .ne => .NotEq
  | .lt => .Lt
  | .le => .LtE
  | .gt => .Gt
  | .ge => .GtE
  | .inn => .In
  | .nin => .NotIn
  | .is => .Is
  | .isn => .IsNot
section
variable {X : Cx} {L : Lk} {p : Prog} {fi : Nat → FI} {n wf : Nat}
def rCm (K : PySem.W.Frag) (L : Lk) (T : Tb) (o : Cop) : R2 := fun x y H Q => ∃ F G am om dx dy E, Mem K L F G am om H ∧ RepB K L F G am dx x ∧ RepB K L F G am dy y ∧ Post K L eqR F G am (cmp T o dx dy om) E fun b H' => Q (.bl b) H'
theorem eqD_obj (T : Tb) (c c' : Nat) (fs gs : List D) (om : Om) : eqD T (.obj c fs) (.obj c' gs) om = if c = c' then match T.eqm c with
      | some f => match T.call f [.obj c fs, .obj c' gs] om with
        | .ok (.bl b) om' => .ok b om'
        | _ => .stuck
      | none => .stuck
    else .stuck := rfl
/-- == and != by an own __eq__ -/
theorem own_eq {pins : List (Addr × Obj)} {s : Shared} {σ : L2.St} {H : Hp} {Q : VK} {c f : Nat} {fs gs : List D} {x y : V} {v u : Value} {F G : Hp} {am : List Addr} {om om' : Om} {b : Bool}
    (hL : Lnk X.prog X.w X.K X.mg X.base L p fi n) (hr : Room (2 * n + 1) X.A) (I : Inv X pins σ H s) (rx : RelV x v) (ry : RelV y u) (M : Mem X.K L F G am om H) (hx : Rep X.K L G am (.obj c fs) x) (hy : Rep X.K L G am (.obj c gs) y)
    (hf : p.eqm c = some f) (hc : callN p wf n f [.obj c fs, .obj c gs] om = .ok (.bl b) om') (hp : ∀ H' G' am', Grow G am G' am' → Mem X.K L F G' am' om' H' → Q (.bl b) H') : wpAny (model X.prog X.w) X.A (compareOp .Eq v u) (EP X pins σ Q) X.xe s := by
  obtain ⟨⟨d, hd, hcl, hnp⟩, hfr, hsf, hfind, hfn, hb⟩ := hL.eqm c f hf
  have hx0 := hx
  have hy0 := hy
  cases hx with
  | @obj _ a dx vs _ ha na ra =>
  cases hy with
  | @obj _ b' dy ws _ hb' nb rb =>
  cases rx
  cases ry
  obtain ⟨mA, J, _⟩ := ins_get I.hok (M.gH _ _ ha)
  obtain ⟨mB, J', _⟩ := ins_get I.hok (M.gH _ _ hb')
  obtain ⟨od, J, _⟩ := J.look
  obtain ⟨od', J', _⟩ := J'.look
  obtain ⟨m, hF⟩ := I.fr
  show wpAny _ _ (richCompare .Eq _ _) _ _ _
  refine PySem.W.cmp_K (op := .Eq) (tb := .ref (L.ca c)) hr.units0 hF I.ok.mod.kin J J'.type hsf hfind hfn ?_
  have hsp : spD X.K L p n f ([V.ref a, V.ref b'] ++ []) H (fun z H' => z = .bl b ∧ Q z H') (fun _ _ _ => False) := by
    refine ⟨wf, F, G, am, om, _, M, .cons hx0 (.cons hy0 .nil), ⟨d, hd, by rw [hnp]; rfl⟩, ?_⟩
    rw [if_neg (by rw [hfr]; decide), hc]
    intro v H' G' am' g M' r
    cases r
    exact ⟨rfl, hp H' G' am' g M'⟩
  refine wpAny_mono (run_fnSD (ds := []) (us := [.ref a, .ref b']) (vs := [.ref a, .ref b']) (dvs := []) (E := fun _ => fun _ _ _ => False) (hL.fn f d hd hcl) (hr.mono (by omega)) hb .nil passE0 I (.cons rfl (.cons rfl .nil)) hsp) (fun v s' hv => ?_) fun _ _ e => e
  obtain ⟨z, H', I', rz, ez, q⟩ := hv
  subst ez
  cases rz
  exact ⟨.bl b, H', I', rfl, q⟩
theorem scal_case (x y : D) : (∃ c c' fs gs, x = .obj c fs ∧ y = .obj c' gs) ∨ ∀ (T : Tb) (om : Om), eqD T x y om = match toP x, toP y with
      | some p, some q => if (SeqAt.shaped p && SeqAt.shaped q) = true then .ok (PyData.eqv p q) om else .stuck
      | _, _ => .stuck := by
  cases x <;> first | exact .inr fun _ _ => rfl | (cases y <;> first | exact .inr fun _ _ => rfl | exact .inl ⟨_, _, _, _, rfl, rfl⟩)
theorem opt_ok {K : PySem.W.Frag} {F G H : Hp} {am : List Addr} {om : Om} {o : Option Bool} {E : XK} {Q : Bool → Hp → Prop} (M : Mem K L F G am om H) (h : Post K L eqR F G am (opt o om) E Q) : ∃ b, o = some b ∧ Q b H := by
  cases o with
  | none => exact h.elim
  | some b => exact ⟨b, rfl, h b H G am Grow.refl M rfl⟩
theorem op_cmp (hL : Lnk X.prog X.w X.K X.mg X.base L p fi n) (hr : Room (2 * n + 1) X.A) (hu : X.A.units + 65 < cLine) (o : Cop) : OpR X (compareOp o.py) (rCm X.K L (tab p wf n) o) := by
  rintro pins s σ H x y v u Q I rx ry ⟨F, G, am, om, dx, dy, E, M, hx, hy, hp⟩
  cases o with
  | eq =>
    change Post X.K L eqR F G am (eqD (tab p wf n) dx dy om) E _ at hp
    rcases scal_case dx dy with ⟨c, c', fs, gs, rfl, rfl⟩ | he
    · rw [eqD_obj] at hp
      split at hp
      · rename_i hc
        subst hc
        split at hp
        · rename_i f hf
          split at hp
          · rename_i b om' hcall
            exact own_eq (b := b) (om' := om') hL hr I rx ry M hx.objE hy.objE hf hcall fun H' G' am' g M' => hp b H' G' am' g M' rfl
          · exact hp.elim
        · exact hp.elim
      · exact hp.elim
    · rw [he] at hp
      split at hp
      · rename_i q q' h1 h2
        split at hp
        · rename_i hs
          rw [Bool.and_eq_true] at hs
          exact op_eqD (by omega) pins s σ H _ _ v u Q I rx ry ⟨_, _, hx.dp M h1, hy.dp M h2, hs.1, hs.2, hp _ H G am Grow.refl M rfl⟩
        · exact hp.elim
      · exact hp.elim
  | ne =>
    change Post X.K L eqR F G am (neD dx dy om) E _ at hp
    unfold neD at hp
    split at hp
    · rename_i q q' h1 h2
      split at hp
      · rename_i hs
        rw [Bool.and_eq_true] at hs
        exact op_neD (by omega) pins s σ H _ _ v u Q I rx ry ⟨_, _, hx.dp M h1, hy.dp M h2, hs.1, hs.2, hp _ H G am Grow.refl M rfl⟩
      · exact hp.elim
    · exact hp.elim
  | lt =>
    obtain ⟨b, e, q⟩ := opt_ok M hp
    unfold ltD at e
    split at e
    · cases e; cases hx.int; cases hy.int
      exact op_lt pins s σ H _ _ v u Q I rx ry ⟨_, _, rfl, rfl, q⟩
    · cases e; cases hx.str; cases hy.str
      exact op_lt_str pins s σ H _ _ v u Q I rx ry ⟨_, _, rfl, rfl, q⟩
    · cases e
  | le =>
    obtain ⟨b, e, q⟩ := opt_ok M hp
    unfold leD at e
    split at e
    · cases e; cases hx.int; cases hy.int
      exact op_le pins s σ H _ _ v u Q I rx ry ⟨_, _, rfl, rfl, q⟩
    · cases e; cases hx.str; cases hy.str
      exact op_le_str pins s σ H _ _ v u Q I rx ry ⟨_, _, rfl, rfl, q⟩
    · cases e
  | gt =>
    obtain ⟨b, e, q⟩ := opt_ok M hp
    unfold gtD at e
    split at e
    · cases e; cases hx.int; cases hy.int
      exact op_gt pins s σ H _ _ v u Q I rx ry ⟨_, _, rfl, rfl, q⟩
    · cases e
  | ge =>
    obtain ⟨b, e, q⟩ := opt_ok M hp
    unfold geD at e
    split at e
    · cases e; cases hx.int; cases hy.int
      exact op_ge pins s σ H _ _ v u Q I rx ry ⟨_, _, rfl, rfl, q⟩
    · cases e
  | inn =>
    obtain ⟨b, e, q⟩ := opt_ok M hp
    rcases inA_cases dx dy om with ⟨k, ds, rfl, hk, e2⟩ | ⟨hn, e2⟩ | e2
    · rw [e2] at e
      obtain ⟨a, vs, rfl, ha, ra⟩ := amb_lst M hy hk
      unfold inD at e
      split at e
      · rename_i h1 h2
        split at e
        · rename_i hs
          rw [Bool.and_eq_true] at hs
          cases e
          exact op_inD hu pins s σ H _ _ v u Q I rx ry ⟨_, _, hx.dp M h1, .lst (SqL.of ha) (dpGs M.gH _ _ _ ra h2), hs.1, hs.2, q⟩
        · cases e
      · cases e
    rotate_left
    · rw [e2] at e
      cases e
    rw [e2] at e
    unfold inX at e
    split at e
    · split at e
      · cases e; cases hx.str; cases hy.str
        exact op_in_str pins s σ H _ _ v u Q I rx ry ⟨_, _, rfl, rfl, q⟩
      · cases e
    · unfold inD at e
      split at e
      · rename_i h1 h2
        split at e
        · rename_i hs
          rw [Bool.and_eq_true] at hs
          cases e
          exact op_inD hu pins s σ H _ _ v u Q I rx ry ⟨_, _, hx.dp M h1, hy.dp M (by rw [toP, h2]; rfl), hs.1, hs.2, q⟩
        · cases e
      · cases e
    · obtain ⟨a, vs, rfl, ha, ra⟩ := hy.tup
      unfold inT at e
      split at e
      · rename_i hs
        rw [Bool.and_eq_true] at hs
        split at e
        · rename_i h1 h2
          cases e
          have hx' : Rep X.K L G am dx x := by
            rcases hx with h | ⟨_, _, _, rfl, _⟩
            · exact h
            · cases hs.1
          obtain ⟨f1, f2⟩ := inV_of hx' hs.1 h1 ra hs.2 h2
          refine op_in_seq pins s σ H _ _ v u Q I rx ry ⟨a, vs, rfl, .inr (SqT.of (M.gH _ _ ha)), (flat_v hx' hs.1 h1).1, f1, ?_⟩
          rw [f2]
          exact q
        · cases e
      · cases e
    · cases e
  | nin =>
    obtain ⟨b, e, q⟩ := opt_ok M hp
    cases z0 : inA dx dy om with
    | none => rw [z0] at e; cases e
    | some b0 =>
      rw [z0] at e
      cases e
      rcases inA_cases dx dy om with ⟨k, ds, rfl, hk, e2⟩ | ⟨hn, e2⟩ | e2
      · rw [e2] at z0
        obtain ⟨a, vs, rfl, ha, ra⟩ := amb_lst M hy hk
        unfold inD at z0
        split at z0
        · rename_i h1 h2
          split at z0
          · rename_i hs
            rw [Bool.and_eq_true] at hs
            cases z0
            exact op_notInD hu pins s σ H _ _ v u Q I rx ry ⟨_, _, hx.dp M h1, .lst (SqL.of ha) (dpGs M.gH _ _ _ ra h2), hs.1, hs.2, q⟩
          · cases z0
        · cases z0
      rotate_left
      · rw [e2] at z0
        cases z0
      have z : inX dx dy = some b0 := by rw [← e2]; exact z0
      unfold inX at z
      split at z
      · split at z
        · cases z; cases hx.str; cases hy.str
          exact op_notIn_str pins s σ H _ _ v u Q I rx ry ⟨_, _, rfl, rfl, q⟩
        · cases z
      · unfold inD at z
        split at z
        · rename_i h1 h2
          split at z
          · rename_i hs
            rw [Bool.and_eq_true] at hs
            cases z
            exact op_notInD hu pins s σ H _ _ v u Q I rx ry ⟨_, _, hx.dp M h1, hy.dp M (by rw [toP, h2]; rfl), hs.1, hs.2, q⟩
          · cases z
        · cases z
      · obtain ⟨a, vs, rfl, ha, ra⟩ := hy.tup
        unfold inT at z
        split at z
        · rename_i hs
          rw [Bool.and_eq_true] at hs
          split at z
          · rename_i h1 h2
            cases z
            have hx' : Rep X.K L G am dx x := by
              rcases hx with h | ⟨_, _, _, rfl, _⟩
              · exact h
              · cases hs.1
            obtain ⟨f1, f2⟩ := inV_of hx' hs.1 h1 ra hs.2 h2
            refine op_notIn_seq pins s σ H _ _ v u Q I rx ry ⟨a, vs, rfl, .inr (SqT.of (M.gH _ _ ha)), (flat_v hx' hs.1 h1).1, f1, ?_⟩
            rw [f2]
            exact q
          · cases z
        · cases z
      · cases z
  | is =>
    obtain ⟨b, e, q⟩ := opt_ok M hp
    unfold isN at e
    split at e
    · cases hy.non
      refine op_isN pins s σ H _ _ v u Q I rx ry ⟨rfl, ?_⟩
      split at e
      · cases e; cases hx.non; exact q
      · cases e; cases hx.bl; exact q
      · cases e; cases hx.int; exact q
      · cases e; cases hx.str; exact q
      · cases e
        obtain ⟨a, vs, rfl, _⟩ := hx.lst M
        exact q
      · cases e
        obtain ⟨a, vs, rfl, _⟩ := hx.tup
        exact q
      · cases e
        obtain ⟨a, dx, vs, rfl, _⟩ := hx.obj
        exact q
      · cases e
    · cases e
  | isn =>
    obtain ⟨b, e, q⟩ := opt_ok M hp
    cases z : isN dx dy with
    | none => rw [z] at e; cases e
    | some b0 =>
      rw [z] at e
      cases e
      unfold isN at z
      split at z
      · cases hy.non
        refine op_notN pins s σ H _ _ v u Q I rx ry ⟨rfl, ?_⟩
        split at z
        · cases z; cases hx.non; exact q
        · cases z; cases hx.bl; exact q
        · cases z; cases hx.int; exact q
        · cases z; cases hx.str; exact q
        · cases z
          obtain ⟨a, vs, rfl, _⟩ := hx.lst M
          exact q
        · cases z
          obtain ⟨a, vs, rfl, _⟩ := hx.tup
          exact q
        · cases z
          obtain ⟨a, dx, vs, rfl, _⟩ := hx.obj
          exact q
        · cases z
      · cases z
end
end PD

set_option Elab.async false
set_option linter.all false
set_option maxRecDepth 100000
set_option maxHeartbeats 400000
/-! PDF: comparisons, truth, and, or, not, if as expressions and tests. -/
namespace PD
open PySem PySem.Spec PyProof.Rows L2
section
variable {K : PySem.W.Frag} {L : Lk} {F G G' H : Hp} {am am' : List Addr} {om : Om} {α β : Type}
theorem isEmpty_len {α β : Type} {xs : List α} {ys : List β} (h : xs.length = ys.length) : xs.isEmpty = ys.isEmpty := by
  cases xs <;> cases ys <;> first | rfl | cases h
theorem tru_V {d : D} {v : V} {b : Bool} (M : Mem K L F G am om H) (r : RepB K L F G am d v) (h : truD d = some b) : TruV K v H b := by
  cases d with
  | non => cases r.non; cases h; exact rfl
  | bl c => cases r.bl; cases h; exact rfl
  | int i => cases r.int; cases h; exact rfl
  | str s =>
    cases r.str
    simp only [truD] at h
    split at h
    · rename_i hs
      cases h
      exact ⟨sz_le hs, rfl⟩
    · cases h
  | lst ds =>
    obtain ⟨a, vs, rfl, ha, ra⟩ := r.lst M
    cases h
    exact .inl ⟨vs, SqL.of ha, by rw [isEmpty_len ra.length]⟩
  | tup ds =>
    obtain ⟨a, vs, rfl, ha, ra⟩ := r.tup
    cases h
    exact .inr (.inl ⟨vs, SqT.of (M.gH _ _ ha), by rw [isEmpty_len ra.length]⟩)
  | obj _ _ => cases h
  | amb _ => cases h
  | scr _ => cases h
/-- the truth of what was read -/
theorem tru_post {γ δ : Type} {d : D} {v : V} {f : Bool → Om → Rs γ} {R : Hp → List Addr → γ → δ → Prop} {E : XK} {Q : δ → Hp → Prop} (M : Mem K L F G am om H) (r : RepB K L F G am d v) (h : Post K L R F G am ((tru d om).bind f) E Q) :
    ∃ b, TruV K v H b ∧ tru d om = .ok b om ∧ Post K L R F G am (f b om) E Q := by
  unfold tru at h ⊢
  cases q : truD d with
  | none => rw [q] at h; exact h.elim
  | some b =>
    rw [q] at h
    exact ⟨b, tru_V M r q, rfl, h⟩
end
section
variable {X : Cx} {L : Lk} {p : Prog} {fi : Nat → FI} {n wf : Nat} {W : WX} {T : Tb} {a b c : Expr} {ea eb ec : E} {pos : Pos} {rest : List Expr}
/-! ### tests -/
theorem pT_tru (ha : PE X a (rdB X.K L T W ea)) (he : ∀ whole, isTrue a X.env whole = (do let v ← whole; standAt a.pos; holding [v] (truthy v))) : PT X a (rdT X.K L T W ea) :=
  (pt_truth ha he).imp fun σ H Q ⟨F, G, am, om, sl, M, S, pp⟩ => ⟨F, G, am, om, sl, M, S, pp.bind fun d om1 v H1 G1 am1 g1 M1 r1 p1 => by
    unfold tru at p1
    cases q : truD d with
    | none => rw [q] at p1; exact p1.elim
    | some t =>
      rw [q] at p1
      exact ⟨t, tru_V M1 r1 q, p1 t H1 G1 am1 Grow.refl M1 rfl⟩⟩
theorem bind_assoc {α β γ : Type} (r : Rs α) (f : α → Om → Rs β) (g : β → Om → Rs γ) : (r.bind f).bind g = r.bind fun a om => (f a om).bind g := by cases r <;> rfl
theorem cm_true {K : PySem.W.Frag} {F G : Hp} {am : List Addr} {E : XK} {Q : Bool → Hp → Prop} {r : Rs Bool} (h : Post K L eqR F G am ((r.bind fun c om => Rs.ok (D.bl c) om).bind fun x om => tru x om) E Q) : Post K L eqR F G am r E Q := by
  cases r with
  | stuck => exact h
  | ok c om => exact h
  | exc c fs om => exact h
theorem pT_cm (hL : Lnk X.prog X.w X.K X.mg X.base L p fi n) (hr : Room (2 * n + 1) X.A) (o : Cop) (ha : PE X a (rdB X.K L (tab p wf n) W ea)) (hb : PE X b (rdB X.K L (tab p wf n) W eb)) (hm : behindInMarks o.py b = false) : PT X (.Compare a [o.py] [b] pos) (rdT X.K L (tab p wf n) W (.cm o ea eb)) :=
  (pt_cmpR (op_cmp hL hr (by have := hr.un; omega) o) ha hb hm).imp fun σ H Q ⟨F, G, am, om, sl, M, S, pp⟩ => by
    have pp' : Post X.K L eqR F G am ((evE (tab p wf n) ea sl om).bind fun x om => (evE (tab p wf n) eb sl om).bind fun y om => cmp (tab p wf n) o x y om) (fun cv dd H => W cv dd σ H) Q := by
      have e : evT (tab p wf n) (.cm o ea eb) sl om = ((evE (tab p wf n) ea sl om).bind fun x om => (evE (tab p wf n) eb sl om).bind fun y om => (cmp (tab p wf n) o x y om).bind fun c om => .ok (.bl c) om).bind fun x om => tru x om := rfl
      rw [e] at pp
      cases q : evE (tab p wf n) ea sl om with
      | stuck => rw [q] at pp; exact pp
      | exc c fs om1 => rw [q] at pp; exact pp
      | ok x om1 =>
        rw [q] at pp
        simp only [bind_ok] at pp ⊢
        cases q2 : evE (tab p wf n) eb sl om1 with
        | stuck => rw [q2] at pp; exact pp
        | exc c fs om1 => rw [q2] at pp; exact pp
        | ok y om2 =>
          rw [q2] at pp
          simp only [bind_ok] at pp ⊢
          exact cm_true pp
    exact ⟨F, G, am, om, sl, M, S, pp'.bind fun dx om1 x H1 G1 am1 g1 M1 rx p1 => ⟨F, G1, am1, om1, sl, M1, S.grow g1, p1.bind fun dy om2 y H2 G2 am2 g2 M2 ry p2 =>
      ⟨F, G2, am2, om2, dx, dy, _, M2, rx.up g2, ry, p2.mono fun b H3 q => ⟨b, rfl, q⟩⟩⟩⟩
theorem pE_cm (hL : Lnk X.prog X.w X.K X.mg X.base L p fi n) (hr : Room (2 * n + 1) X.A) (o : Cop) (ha : PE X a (rdB X.K L (tab p wf n) W ea)) (hb : PE X b (rdB X.K L (tab p wf n) W eb)) (hm : behindInMarks o.py b = false) : PE X (.Compare a [o.py] [b] pos) (rdE X.K L (tab p wf n) W (.cm o ea eb)) :=
  (pe_cmpR (op_cmp hL hr (by have := hr.un; omega) o) ha hb hm).imp fun σ H Q ⟨F, G, am, om, sl, M, S, pp⟩ =>
    ⟨F, G, am, om, sl, M, S, pp.bind fun dx om1 x H1 G1 am1 g1 M1 rx p1 => ⟨F, G1, am1, om1, sl, M1, S.grow g1, p1.bind fun dy om2 y H2 G2 am2 g2 M2 ry p2 =>
      ⟨F, G2, am2, om2, dx, dy, _, M2, rx.up g2, ry, p2.bind fun b om3 b' H3 G3 am3 g3 M3 e p3 => by
        cases e
        exact p3 (.bl b) H3 G3 am3 Grow.refl M3 (.bl b)⟩⟩⟩
theorem pE_ch (hL : Lnk X.prog X.w X.K X.mg X.base L p fi n) (hr : Room (2 * n + 1) X.A) (o o' : Cop) (ha : PE X a (rdB X.K L (tab p wf n) W ea)) (hb : PE X b (rdB X.K L (tab p wf n) W eb)) (hc : PE X c (rdB X.K L (tab p wf n) W ec)) (hm : lastMarks [o.py, o'.py] [b, c] = false) :
    PE X (.Compare a [o.py, o'.py] [b, c] pos) (rdE X.K L (tab p wf n) W (.ch o o' ea eb ec)) :=
  (pe_chain (op_cmp hL hr (by have := hr.un; omega) o) (op_cmp hL hr (by have := hr.un; omega) o') ha hb hc hm).imp fun σ H Q ⟨F, G, am, om, sl, M, S, pp⟩ =>
    ⟨F, G, am, om, sl, M, S, pp.bind fun dx om1 x H1 G1 am1 g1 M1 rx p1 => ⟨F, G1, am1, om1, sl, M1, S.grow g1, p1.bind fun dy om2 y H2 G2 am2 g2 M2 ry p2 =>
      ⟨F, G2, am2, om2, dx, dy, _, M2, rx.up g2, ry, p2.bind fun b om3 b' H3 G3 am3 g3 M3 e p3 => by
        cases e
        refine ⟨b, rfl, ?_⟩
        cases b with
        | true =>
          rw [if_pos rfl] at p3 ⊢
          exact ⟨F, G3, am3, om3, sl, M3, ((S.grow g1).grow g2).grow g3, p3.bind fun dz om4 z H4 G4 am4 g4 M4 rz p4 => ⟨F, G4, am4, om4, dy, dz, _, M4, (ry.up g3).up g4, rz, p4.bind fun b om5 b' H5 G5 am5 g5 M5 e p5 => by
            cases e
            exact p5 (.bl b) H5 G5 am5 Grow.refl M5 (.bl b)⟩⟩
        | false =>
          rw [if_neg (by decide)] at p3 ⊢
          exact p3 (.bl false) H3 G3 am3 Grow.refl M3 (.bl false)⟩⟩⟩
/-- a bool as a value is a bool as a test -/
theorem pT_val (ha : PE X a (rdE X.K L T W ea)) (he : ∀ whole, isTrue a X.env whole = (do let v ← whole; standAt a.pos; holding [v] (truthy v))) : PT X a (rdT X.K L T W ea) := pT_tru (pB ha) he
theorem pT_ch (hL : Lnk X.prog X.w X.K X.mg X.base L p fi n) (hr : Room (2 * n + 1) X.A) (o o' : Cop) (ha : PE X a (rdB X.K L (tab p wf n) W ea)) (hb : PE X b (rdB X.K L (tab p wf n) W eb)) (hc : PE X c (rdB X.K L (tab p wf n) W ec)) (hm : lastMarks [o.py, o'.py] [b, c] = false) :
    PT X (.Compare a [o.py, o'.py] [b, c] pos) (rdT X.K L (tab p wf n) W (.ch o o' ea eb ec)) :=
  (pt_chain (op_cmp (wf := wf) hL hr (by have := hr.un; omega) o) (op_cmp (wf := wf) hL hr (by have := hr.un; omega) o') ha hb hc hm).imp fun σ H Q ⟨F, G, am, om, sl, M, S, pp⟩ => by
    have e : evT (tab p wf n) (.ch o o' ea eb ec) sl om = (evE (tab p wf n) ea sl om).bind fun x om => (evE (tab p wf n) eb sl om).bind fun y om => (cmp (tab p wf n) o x y om).bind fun r om => (if r = true then (evE (tab p wf n) ec sl om).bind fun z om => (cmp (tab p wf n) o' y z om).bind fun r om => .ok (.bl r) om else .ok (.bl false) om).bind fun x om => tru x om := by
      show (((evE (tab p wf n) ea sl om).bind fun x om => (evE (tab p wf n) eb sl om).bind fun y om => (cmp (tab p wf n) o x y om).bind fun r om => if r = true then (evE (tab p wf n) ec sl om).bind fun z om => (cmp (tab p wf n) o' y z om).bind fun r om => .ok (.bl r) om else .ok (.bl false) om)).bind (fun x om => tru x om) = _
      simp only [bind_assoc]
    rw [e] at pp
    exact ⟨F, G, am, om, sl, M, S, pp.bind fun dx om1 x H1 G1 am1 g1 M1 rx p1 => ⟨F, G1, am1, om1, sl, M1, S.grow g1, p1.bind fun dy om2 y H2 G2 am2 g2 M2 ry p2 =>
      ⟨F, G2, am2, om2, dx, dy, _, M2, rx.up g2, ry, p2.bind fun b om3 b' H3 G3 am3 g3 M3 e p3 => by
        cases e
        refine ⟨b, rfl, ?_⟩
        cases b with
        | true =>
          rw [if_pos rfl] at p3 ⊢
          rw [bind_assoc] at p3
          exact ⟨F, G3, am3, om3, sl, M3, ((S.grow g1).grow g2).grow g3, p3.bind fun dz om4 z H4 G4 am4 g4 M4 rz p4 => ⟨F, G4, am4, om4, dy, dz, _, M4, (ry.up g3).up g4, rz, (cm_true p4).mono fun b H q => ⟨b, rfl, q⟩⟩⟩
        | false =>
          rw [if_neg (by decide)] at p3 ⊢
          exact ⟨false, rfl, p3 false H3 G3 am3 Grow.refl M3 rfl⟩⟩⟩⟩
/-! ### not, and, or -/
theorem pT_no (ha : PT X a (rdT X.K L T W ea)) : PT X (.UnaryOp .Not a pos) (rdT X.K L T W (.no ea)) :=
  (pt_not ha).imp fun σ H Q ⟨F, G, am, om, sl, M, S, pp⟩ => by
    have e : evT T (.no ea) sl om = (evT T ea sl om).bind fun b om => .ok (!b) om := by
      show ((evE T ea sl om).bind fun x om => (tru x om).bind fun b om => .ok (.bl (!b)) om).bind (fun x om => tru x om) = ((evE T ea sl om).bind fun x om => tru x om).bind fun b om => .ok (!b) om
      cases evE T ea sl om with
      | stuck => rfl
      | exc c fs om => rfl
      | ok d om =>
        simp only [bind_ok]
        cases tru d om <;> rfl
    rw [e] at pp
    exact ⟨F, G, am, om, sl, M, S, pp.bind fun b om1 b' H1 G1 am1 g1 M1 z p1 => by
      cases z
      exact p1 _ H1 G1 am1 Grow.refl M1 rfl⟩
theorem pW_an1 (ha : PT X a (rdT X.K L T W ea)) : PW X (.BoolOp .And [a] pos) (rdT X.K L T W ea) := pw_and1 ha
theorem pW_or1 (ha : PT X a (rdT X.K L T W ea)) : PW X (.BoolOp .Or [a] pos) (rdT X.K L T W ea) := pw_or1 ha
theorem pW_an (ha : PT X a (rdT X.K L T W ea)) (hb : PW X (.BoolOp .And (b :: rest) pos) (rdT X.K L T W eb)) : PW X (.BoolOp .And (a :: b :: rest) pos) (rdT X.K L T W (.an ea eb)) :=
  (pw_and ha hb).imp fun σ H Q ⟨F, G, am, om, sl, M, S, pp⟩ => by
    have e : evT T (.an ea eb) sl om = (evT T ea sl om).bind fun c om => if c = true then evT T eb sl om else .ok false om := by
      show ((evE T ea sl om).bind fun x om => (tru x om).bind fun c om => if c = true then evE T eb sl om else .ok x om).bind (fun x om => tru x om) = ((evE T ea sl om).bind fun x om => tru x om).bind fun c om => if c = true then evT T eb sl om else .ok false om
      cases evE T ea sl om with
      | stuck => rfl
      | exc c fs om => rfl
      | ok d om =>
        simp only [bind_ok]
        unfold tru
        cases q : truD d with
        | none => rfl
        | some t =>
          simp only [bind_ok]
          cases t with
          | true => rfl
          | false =>
            simp only [Bool.false_eq_true, if_false, bind_ok]
            rw [q]
    rw [e] at pp
    exact ⟨F, G, am, om, sl, M, S, pp.bind fun t om1 t' H1 G1 am1 g1 M1 z p1 => by
      cases z
      cases t with
      | true =>
        rw [if_pos rfl] at p1 ⊢
        exact ⟨F, G1, am1, om1, sl, M1, S.grow g1, p1⟩
      | false =>
        rw [if_neg (by decide)] at p1 ⊢
        exact p1 _ H1 G1 am1 Grow.refl M1 rfl⟩
theorem pW_or (ha : PT X a (rdT X.K L T W ea)) (hb : PW X (.BoolOp .Or (b :: rest) pos) (rdT X.K L T W eb)) : PW X (.BoolOp .Or (a :: b :: rest) pos) (rdT X.K L T W (.or ea eb)) :=
  (pw_or ha hb).imp fun σ H Q ⟨F, G, am, om, sl, M, S, pp⟩ => by
    have e : evT T (.or ea eb) sl om = (evT T ea sl om).bind fun c om => if c = true then .ok true om else evT T eb sl om := by
      show ((evE T ea sl om).bind fun x om => (tru x om).bind fun c om => if c = true then .ok x om else evE T eb sl om).bind (fun x om => tru x om) = ((evE T ea sl om).bind fun x om => tru x om).bind fun c om => if c = true then .ok true om else evT T eb sl om
      cases evE T ea sl om with
      | stuck => rfl
      | exc c fs om => rfl
      | ok d om =>
        simp only [bind_ok]
        unfold tru
        cases q : truD d with
        | none => rfl
        | some t =>
          simp only [bind_ok]
          cases t with
          | false => rfl
          | true =>
            simp only [if_true, bind_ok]
            rw [q]
    rw [e] at pp
    exact ⟨F, G, am, om, sl, M, S, pp.bind fun t om1 t' H1 G1 am1 g1 M1 z p1 => by
      cases z
      cases t with
      | false =>
        rw [if_neg (by decide)] at p1 ⊢
        exact ⟨F, G1, am1, om1, sl, M1, S.grow g1, p1⟩
      | true =>
        rw [if_pos rfl] at p1 ⊢
        exact p1 _ H1 G1 am1 Grow.refl M1 rfl⟩
theorem pE_no (ha : PE X a (rdB X.K L T W ea)) : PE X (.UnaryOp .Not a pos) (rdE X.K L T W (.no ea)) :=
  (pe_notT ha).imp fun σ H Q ⟨F, G, am, om, sl, M, S, pp⟩ => ⟨F, G, am, om, sl, M, S, pp.bind fun d om1 v H1 G1 am1 g1 M1 r1 p1 => by
    obtain ⟨b, t, _, q⟩ := tru_post M1 r1 p1
    exact ⟨b, t, q _ H1 G1 am1 Grow.refl M1 (.bl _)⟩⟩
theorem pE_one {op : BoolOp} (ha : PE X a (rdE X.K L T W ea)) : PE X (.BoolOp op [a] pos) (rdE X.K L T W ea) := pe_one ha
theorem pE_an (ha : PE X a (rdE X.K L T W ea)) (hb : PE X (.BoolOp .And (b :: rest) pos) (rdE X.K L T W eb)) : PE X (.BoolOp .And (a :: b :: rest) pos) (rdE X.K L T W (.an ea eb)) :=
  (pe_andT ha hb).imp fun σ H Q ⟨F, G, am, om, sl, M, S, pp⟩ => ⟨F, G, am, om, sl, M, S, pp.bind fun d om1 v H1 G1 am1 g1 M1 r1 p1 => by
    obtain ⟨b, t, _, q⟩ := tru_post M1 r1.b p1
    refine ⟨b, t, ?_⟩
    cases b with
    | true =>
      rw [if_pos rfl] at q ⊢
      exact ⟨F, G1, am1, om1, sl, M1, S.grow g1, q⟩
    | false =>
      rw [if_neg (by decide)] at q ⊢
      exact q _ H1 G1 am1 Grow.refl M1 r1⟩
theorem pE_or (ha : PE X a (rdE X.K L T W ea)) (hb : PE X (.BoolOp .Or (b :: rest) pos) (rdE X.K L T W eb)) : PE X (.BoolOp .Or (a :: b :: rest) pos) (rdE X.K L T W (.or ea eb)) :=
  (pe_orT ha hb).imp fun σ H Q ⟨F, G, am, om, sl, M, S, pp⟩ => ⟨F, G, am, om, sl, M, S, pp.bind fun d om1 v H1 G1 am1 g1 M1 r1 p1 => by
    obtain ⟨b, t, _, q⟩ := tru_post M1 r1.b p1
    refine ⟨b, t, ?_⟩
    cases b with
    | false =>
      rw [if_neg (by decide)] at q ⊢
      exact ⟨F, G1, am1, om1, sl, M1, S.grow g1, q⟩
    | true =>
      rw [if_pos rfl] at q ⊢
      exact q _ H1 G1 am1 Grow.refl M1 r1⟩
theorem pE_ite (hc : PT X c (rdT X.K L T W ec)) (ha : PE X a (rdE X.K L T W ea)) (hb : PE X b (rdE X.K L T W eb)) : PE X (.IfExp c a b pos) (rdE X.K L T W (.ite ec ea eb)) :=
  (pe_ifExp hc ha hb).imp fun σ H Q ⟨F, G, am, om, sl, M, S, pp⟩ => by
    have e : evE T (.ite ec ea eb) sl om = (evT T ec sl om).bind fun c om => if c = true then evE T ea sl om else evE T eb sl om := by
      show ((evE T ec sl om).bind fun x om => (tru x om).bind fun c om => if c = true then evE T ea sl om else evE T eb sl om) = ((evE T ec sl om).bind fun x om => tru x om).bind fun c om => if c = true then evE T ea sl om else evE T eb sl om
      cases evE T ec sl om <;> rfl
    rw [e] at pp
    exact ⟨F, G, am, om, sl, M, S, pp.bind fun t om1 t' H1 G1 am1 g1 M1 z p1 => by
      cases z
      cases t with
      | true =>
        rw [if_pos rfl] at p1 ⊢
        exact ⟨F, G1, am1, om1, sl, M1, S.grow g1, p1⟩
      | false =>
        rw [if_neg (by decide)] at p1 ⊢
        exact ⟨F, G1, am1, om1, sl, M1, S.grow g1, p1⟩⟩
theorem pE_neg (ha : PE X a (rdE X.K L T W ea)) : PE X (.UnaryOp .USub a pos) (rdE X.K L T W (.neg ea)) :=
  (pe_un un_neg ha).imp fun σ H Q ⟨F, G, am, om, sl, M, S, pp⟩ => ⟨F, G, am, om, sl, M, S, pp.bind fun d om1 v H1 G1 am1 g1 M1 r1 p1 => by
    split at p1
    · cases r1
      exact ⟨_, rfl, p1 _ H1 G1 am1 Grow.refl M1 (.int _)⟩
    · exact p1.elim⟩
end
end PD

set_option Elab.async false
set_option linter.all false
set_option maxRecDepth 100000
set_option maxHeartbeats 400000
/-! PDG: argument lists, displays, calls of defs and methods, instances made, fields. -/
namespace PD
open PySem PySem.Spec PyProof.Rows L2
/-- where a field stands -/
def fnIx : List Str → Str → Option Nat
  | [], _ => none
  | g :: r, f => if f = g then some 0 else (fnIx r f).map (· + 1)
theorem lookup_ix : ∀ {ns : List Str} {f : Str} {j : Nat} {vs : List V}, fnIx ns f = some j → (ns.zip vs).lookup f = vs[j]?
  | [], _, _, _, h => by cases h
  | g :: r, f, j, [], h => by simp
  | g :: r, f, j, v :: vs, h => by
    unfold fnIx at h
    rw [List.zip_cons_cons, List.lookup_cons]
    by_cases c : f = g
    · rw [if_pos c] at h
      cases h
      have e : (f == g) = true := by simpa using c
      rw [e]
      rfl
    · rw [if_neg c] at h
      have e : (f == g) = false := by simpa using c
      rw [e]
      cases q : fnIx r f with
      | none => rw [q] at h; cases h
      | some i =>
        rw [q] at h
        cases h
        rw [List.getElem?_cons_succ]
        exact lookup_ix q
theorem lookup_no : ∀ {ns : List Str} {f : Str} {vs : List V}, fnIx ns f = none → (ns.zip vs).lookup f = none
  | [], _, _, _ => rfl
  | g :: r, f, [], h => rfl
  | g :: r, f, v :: vs, h => by
    unfold fnIx at h
    rw [List.zip_cons_cons, List.lookup_cons]
    by_cases c : f = g
    · rw [if_pos c] at h
      cases h
    · rw [if_neg c] at h
      have e : (f == g) = false := by simpa using c
      rw [e]
      cases q : fnIx r f with
      | some i => rw [q] at h; cases h
      | none => exact lookup_no q
section
variable {X : Cx} {L : Lk} {p : Prog} {fi : Nat → FI} {n wf : Nat} {W : WX} {T : Tb} {a b c e o : Expr} {es : List Expr} {ea eb ec eo er : E} {pos apos cpos spos : Pos}
theorem pA_nil : PA X [] (rdL X.K L T W .nil) := pa_nil.imp fun σ H Q ⟨F, G, am, om, sl, M, S, pp⟩ => pp [] H G am Grow.refl M .nil
theorem pA_cons (ha : PE X e (rdE X.K L T W ea)) (hr : PA X es (rdL X.K L T W er)) (hs : starEach (e :: es) X.env = (false, eval e X.env) :: starEach es X.env := by rfl) : PA X (e :: es) (rdL X.K L T W (.cons ea er)) :=
  (pa_cons ha hr hs).imp fun σ H Q ⟨F, G, am, om, sl, M, S, pp⟩ => ⟨F, G, am, om, sl, M, S, pp.bind fun d om1 v H1 G1 am1 g1 M1 r1 p1 => ⟨F, G1, am1, om1, sl, M1, S.grow g1, p1.bind fun ds om2 vs H2 G2 am2 g2 M2 r2 p2 => p2 _ H2 G2 am2 Grow.refl M2 (.cons (r1.up g2) r2)⟩⟩
theorem pA_star (ha : PE X e (rdB X.K L T W ea)) (hr : PA X es (rdL X.K L T W er)) (hs : starEach (.Starred e spos :: es) X.env = (true, eval e X.env) :: starEach es X.env := by rfl) : PA X (.Starred e spos :: es) (rdL X.K L T W (.star ea er)) :=
  (StX.pa_star ha hr hs).imp fun σ H Q ⟨F, G, am, om, sl, M, S, pp⟩ => ⟨F, G, am, om, sl, M, S, pp.bind fun d om1 v H1 G1 am1 g1 M1 r1 p1 => by
    split at p1
    · obtain ⟨q, vs, rfl, hq, rq⟩ := r1.lst M1
      exact ⟨q, vs, rfl, .inr (SqL.of hq), F, G1, am1, om1, sl, M1, S.grow g1, p1.bind fun ds om2 ws H2 G2 am2 g2 M2 r2 p2 => p2 _ H2 G2 am2 Grow.refl M2 ((rq.up g2).append r2)⟩
    · obtain ⟨q, vs, rfl, hq, rq⟩ := r1.tup
      exact ⟨q, vs, rfl, .inl (SqT.of (M1.gH _ _ hq)), F, G1, am1, om1, sl, M1, S.grow g1, p1.bind fun ds om2 ws H2 G2 am2 g2 M2 r2 p2 => p2 _ H2 G2 am2 Grow.refl M2 ((rq.up g2).append r2)⟩
    · exact p1.elim⟩
theorem pE_tup {x1 : Nat} (ha : PA X es (rdL X.K L T W er)) : PE X (.Tuple es x1 pos) (rdE X.K L T W (.tup er)) :=
  (pe_tup ha).imp fun σ H Q ⟨F, G, am, om, sl, M, S, pp⟩ => ⟨F, G, am, om, sl, M, S, pp.bind fun ds om1 vs H1 G1 am1 g1 M1 r1 p1 => by
    split at p1
    · rename_i hz
      refine ⟨sz_le (by rw [← r1.length]; exact hz), fun q hq => ?_⟩
      exact p1 _ _ _ am1 (Grow.of (M1.none_g hq)) (M1.new hq) (.tup upd_same (r1.up (Grow.of (M1.none_g hq))))
    · exact p1.elim⟩
theorem pF_lst (ha : PA X es (rdL X.K L T W er)) : PE X (.List es pos) (rdF X.K L T W (.lst er)) :=
  (pe_lst ha).imp fun σ H Q ⟨F, G, am, om, sl, M, S, pp⟩ => ⟨F, G, am, om, sl, M, S, pp.bind fun ds om1 vs H1 G1 am1 g1 M1 r1 p1 => by
    split at p1
    · rename_i hz
      refine ⟨sz_le (by rw [← r1.length]; exact hz), fun q hq => ?_⟩
      obtain ⟨ds', e, p1⟩ := p1
      cases e
      exact p1 _ _ _ _ am1 Grow.refl (M1.none_f hq) (M1.newF hq) r1
    · exact p1.elim⟩
theorem bind_lst {r : Rs (List D)} {f : List D → Om → Rs D} (hf : ∀ xs om d om', f xs om = .ok d om' → ∃ ds, d = .lst ds) {d : D} {om' : Om} (h : r.bind f = .ok d om') : ∃ ds, d = .lst ds := by
  cases r with
  | stuck => cases h
  | exc c fs om => cases h
  | ok xs om => exact hf _ _ _ _ h
theorem pE_lst (ha : PA X es (rdL X.K L T W er)) : PE X (.List es pos) (rdE X.K L T W (.lst er)) := pFE (pF_lst ha) fun sl om d om' h => by
  refine bind_lst (r := evL T er sl om) (fun xs om d om' h => ?_) h
  split at h
  · cases h; exact ⟨_, rfl⟩
  · cases h
/-! ### calls -/
theorem pE_call {f : Nat} {d : Def} {x : Str} {pp : Pos} {dv : List D} {dvs : List V} {dV : List Value} (hL : Lnk X.prog X.w X.K X.mg X.base L p fi n) (hr : Room (2 * n + 1) X.A) (tk : Takes X W) (hd : p.defs f = some d) (hc : d.cls = none) (hfr : p.fresh f = false)
    (hg : Gl X x) (hm : X.mg x = some (.ref (fi f).addr)) (hk : PySem.W.keepIn X.K (.ref (fi f).addr) = true) (hb : Binds X.K (fi f).fd (fi f).ps dV) (hv : Vals dvs dV) (rv : ∀ G am, RepL X.K L G am dv dvs)
    (ha : PA X (e :: es) (rdL X.K L (tab p wf n) W er)) (hdb : (x == ("__debug__" : Str)) = false := by decide) (he : starEach (e :: es) X.env = (false, eval e X.env) :: starEach es X.env := by rfl) (hpl : (backTo pos (starEach es X.env)).any (·.1) = false := by rfl) :
    PE X (.Call (.Name x pp) (e :: es) [] pos) (rdE X.K L (tab p wf n) W (.call f dv er)) :=
  (pe_callSD (E := WE W) (hL.fn f d hd hc) (hr.mono (by omega)) hg hm hk hb hv (fun σ => passAt tk σ) ha hdb he hpl).imp fun σ H Q ⟨F, G, am, om, sl, M, S, pp⟩ => ⟨F, G, am, om, sl, M, S, pp.bind fun ds om1 vs H1 G1 am1 g1 M1 r1 p1 => by
    have hl : (ds ++ dv).length = d.np := by
      cases n with
      | zero => exact p1.elim
      | succ n =>
        change Post X.K L (Rep X.K L) F G1 am1 (callN p wf (n + 1) f (ds ++ dv) om1) _ _ at p1
        unfold callN at p1
        rw [hd] at p1
        dsimp only at p1
        split at p1
        · assumption
        · exact p1.elim
    refine ⟨wf, F, G1, am1, om1, ds ++ dv, M1, r1.append (rv G1 am1), ⟨d, hd, hl⟩, ?_⟩
    rw [if_neg (by rw [hfr]; decide)]
    exact p1⟩
/-- a def that hands out a new list -/
theorem pF_call {f : Nat} {d : Def} {x : Str} {pp : Pos} {dv : List D} {dvs : List V} {dV : List Value} (hL : Lnk X.prog X.w X.K X.mg X.base L p fi n) (hr : Room (2 * n + 1) X.A) (tk : Takes X W) (hd : p.defs f = some d) (hc : d.cls = none) (hfr : p.fresh f = true)
    (hg : Gl X x) (hm : X.mg x = some (.ref (fi f).addr)) (hk : PySem.W.keepIn X.K (.ref (fi f).addr) = true) (hb : Binds X.K (fi f).fd (fi f).ps dV) (hv : Vals dvs dV) (rv : ∀ G am, RepL X.K L G am dv dvs)
    (ha : PA X (e :: es) (rdL X.K L (tab p wf n) W er)) (hdb : (x == ("__debug__" : Str)) = false := by decide) (he : starEach (e :: es) X.env = (false, eval e X.env) :: starEach es X.env := by rfl) (hpl : (backTo pos (starEach es X.env)).any (·.1) = false := by rfl) :
    PE X (.Call (.Name x pp) (e :: es) [] pos) (rdF X.K L (tab p wf n) W (.call f dv er)) :=
  (pe_callSD (E := WE W) (hL.fn f d hd hc) (hr.mono (by omega)) hg hm hk hb hv (fun σ => passAt tk σ) ha hdb he hpl).imp fun σ H Q ⟨F, G, am, om, sl, M, S, pp⟩ => ⟨F, G, am, om, sl, M, S, pp.bind fun ds om1 vs H1 G1 am1 g1 M1 r1 p1 => by
    have hl : (ds ++ dv).length = d.np := by
      cases n with
      | zero => exact p1.elim
      | succ n =>
        change PostF X.K L F G1 am1 (callN p wf (n + 1) f (ds ++ dv) om1) _ _ at p1
        unfold callN at p1
        rw [hd] at p1
        dsimp only at p1
        split at p1
        · assumption
        · exact p1.elim
    refine ⟨wf, F, G1, am1, om1, ds ++ dv, M1, r1.append (rv G1 am1), ⟨d, hd, hl⟩, ?_⟩
    rw [if_pos hfr]
    exact p1⟩
/-! ### methods -/
section
variable {CX : CXT} {k : Nat} {f C : Addr} {fd : FuncData} {ps : List Str} {sp : Sp} {dvs : List V} {ds : List Value} {E' : L2.St → XK} {m : Str} {ta : TE} {t : TA}
def tMethSD (C : Addr) (m : Str) (sp : Sp) (dvs : List V) (E : L2.St → XK) (ta : TE) (t : TA) : TE := fun σ H Q => ta σ H fun x H1 => ∃ a dx fs, x = .ref a ∧ H1 a = some (.ins C dx fs) ∧ fs.lookup m = none ∧
  t σ H1 fun vs H2 => sp (x :: (vs ++ dvs)) H2 Q (E σ)
theorem pe_methSD {pl : Sem Bool} {E' : L2.St → XK} (he : PE X o ta) (c : Cls X.K C) (hm : Meth X.K C m f) (F : FnOk X.prog X.w X.K X.mg X.base CX k f fd ps sp) (hr : Room k X.A) (hb : Binds X.K fd ps ds) (hd : Vals dvs ds) (hx : ∀ σ, PassesAt CX X σ (E' σ)) (ha : PA X (e :: es) t)
    (hst : starEach (e :: es) X.env = (false, eval e X.env) :: starEach es X.env := by rfl) (hpl : (backTo pos (starEach es X.env)).any (·.1) = false := by rfl)
    (ht : eval (.Call (.Attribute o m apos) (e :: es) [] pos) X.env = (do
      let ov ← eval o X.env
      standAt apos.atName
      let (f, first) ← holding [ov] (getMethod ov m pl)
      callWith pos f first (backTo pos (starEach (e :: es) X.env)) (backToKw pos (keywordEach [] X.env))) := by rfl) :
    PE X (.Call (.Attribute o m apos) (e :: es) [] pos) (tMethSD C m sp dvs E' ta t) := by
  refine ⟨fun pins s σ H Q I h => ?_⟩
  refine PySem.W.methodCall_KW (pl := pl) (thn (he.run pins s σ H _ I h) fun u s1 ⟨x, H1, I1, rx, a, dx, fs, ex, ea, l, q⟩ => ?_) ht
  subst ex
  obtain rfl : u = Value.ref a := rx
  refine getmeth_ok I1 ea c hm l ?_
  refine PySem.W.callWith_K (first := [.ref a]) (h₀ := X.base) I.ok.mod.kin hm.kp (thn (ha.run pos pins s1 σ H1 _ I1 q) fun us s2 ⟨vs, H2, I2, r, q2⟩ => ⟨I2.kIn, ?_⟩) hst hpl
  exact run_fnSD (us := .ref a :: us) (vs := .ref a :: vs) F hr hb hd (hx σ) I2 (.cons rfl r) q2
theorem pe_methSD0 {pl : Sem Bool} {E' : L2.St → XK} (he : PE X o ta) (c : Cls X.K C) (hm : Meth X.K C m f) (F : FnOk X.prog X.w X.K X.mg X.base CX k f fd ps sp) (hr : Room k X.A) (hb : Binds X.K fd ps ds) (hd : Vals dvs ds) (hx : ∀ σ, PassesAt CX X σ (E' σ))
    (ht : eval (.Call (.Attribute o m apos) [] [] pos) X.env = (do
      let ov ← eval o X.env
      standAt apos.atName
      let (f, first) ← holding [ov] (getMethod ov m pl)
      callWith pos f first (backTo pos (starEach [] X.env)) (backToKw pos (keywordEach [] X.env))) := by rfl) :
    PE X (.Call (.Attribute o m apos) [] [] pos) (tMethSD C m sp dvs E' ta tNil) := by
  refine ⟨fun pins s σ H Q I h => ?_⟩
  refine PySem.W.methodCall_KW (pl := pl) (thn (he.run pins s σ H _ I h) fun u s1 ⟨x, H1, I1, rx, a, dx, fs, ex, ea, l, q⟩ => ?_) ht
  subst ex
  obtain rfl : u = Value.ref a := rx
  refine getmeth_ok I1 ea c hm l ?_
  exact PySem.W.callWith_K0 I1.kIn hm.kp (run_fnSD (us := [.ref a]) (vs := [.ref a]) F hr hb hd (hx σ) I1 (.cons rfl .nil) q)
theorem run_makeSD {pins : List (Addr × Obj)} {σ : L2.St} {H : Hp} {s : Shared} {Q : VK} {E : XK} {us : List Value} {vs : List V} (M : Mk X.K C f) (F : FnOk X.prog X.w X.K X.mg X.base CX k f fd ps sp) (hr : Room (k + 1) X.A) (hb : Binds X.K fd ps ds) (hd : Vals dvs ds)
    (hx : PassesAt CX X σ E) (I : Inv X pins σ H s) (r : Vals vs us)
    (h : ∀ x dx, H x = none → H dx = none → dx ≠ x → sp (.ref x :: (vs ++ dvs)) (upd (upd H dx (.own x)) x (.ins C dx [])) (fun v H2 => v = .non ∧ Q (.ref x) H2) E) :
    wpAny (model X.prog X.w) X.A (call (.ref C) us) (EP X pins σ Q) X.xe s := by
  have hq := h (s.heap.objs.size + 1) s.heap.objs.size (I.hok.fresh (Nat.le_succ _)) (I.hok.fresh (Nat.le_refl _)) (Nat.ne_of_lt (Nat.lt_succ_self _))
  have I2 := Inv.made (C := C) I
  have r2 : Vals (V.ref (s.heap.objs.size + 1) :: (vs ++ dvs)) (Value.ref (s.heap.objs.size + 1) :: (us ++ ds)) := .cons rfl (r.append hd)
  have hl : (Value.ref (s.heap.objs.size + 1) :: us ++ ds).length = ps.length := by
    have e := r2.length
    rw [F.len _ _ _ _ hq] at e
    exact e.symm
  refine wpAny_call (make_map (f := f) I.kIn M.makes M.init (beq_iff_eq.mp M.fn) (codeAny_mono (F.run _ X.stack _ _ ⟨Value.ref (s.heap.objs.size + 1) :: us, []⟩ (Value.ref (s.heap.objs.size + 1) :: (us ++ ds)) _ _ E (hr.make C us [])
    (I2.env0.make C us []) (hb _ (Value.ref (s.heap.objs.size + 1) :: us) I2.kIn hl) r2 hq) fun r s' hq' => ?_))
  cases r with
  | error e => exact hx pins _ _ e s' I2 hq'
  | ok fl =>
    cases fl with
    | ret u =>
      obtain ⟨v, H', I3, rv, ev, q3⟩ := I2.after hq'
      subst ev
      exact ⟨rv, ⟨V.ref (s.heap.objs.size + 1), H', I3, rfl, q3⟩⟩
    | next => exact False.elim hq'
    | brk => exact False.elim hq'
    | cont => exact False.elim hq'
def tMakeSD (C : Addr) (sp : Sp) (dvs : List V) (E : L2.St → XK) (t : TA) : TE := fun σ H Q => t σ H fun vs H1 => ∀ x dx, H1 x = none → H1 dx = none → dx ≠ x →
  sp (.ref x :: (vs ++ dvs)) (upd (upd H1 dx (.own x)) x (.ins C dx [])) (fun v H2 => v = .non ∧ Q (.ref x) H2) (E σ)
theorem pe_makeSD {x : Str} {pp : Pos} {E' : L2.St → XK} (M : Mk X.K C f) (F : FnOk X.prog X.w X.K X.mg X.base CX k f fd ps sp) (hr : Room (k + 1) X.A) (hg : Gl X x) (hm : X.mg x = some (.ref C)) (hb : Binds X.K fd ps ds) (hd : Vals dvs ds) (hx : ∀ σ, PassesAt CX X σ (E' σ))
    (ha : PA X (e :: es) t) (hdb : (x == ("__debug__" : Str)) = false := by decide) (he : starEach (e :: es) X.env = (false, eval e X.env) :: starEach es X.env := by rfl) (hpl : (backTo pos (starEach es X.env)).any (·.1) = false := by rfl) :
    PE X (.Call (.Name x pp) (e :: es) [] pos) (tMakeSD C sp dvs E' t) := by
  refine ⟨fun pins s σ H Q I h => ?_⟩
  refine wpAny_Call_Name_kw (ld_glob I hg hm ?_ hdb)
  refine PySem.W.callWith_K (h₀ := X.base) I.ok.mod.kin M.kp (thn (ha.run pos pins s σ H _ I h) fun us s1 ⟨vs, H1, I1, r, q⟩ => ⟨I1.kIn, ?_⟩) he hpl
  exact run_makeSD M F hr hb hd (hx σ) I1 r q
end
/-- the receiver of a method: an instance of class c, of the store or for good -/
theorem recv {K : PySem.W.Frag} {F G H : Hp} {am : List Addr} {om : Om} {d : D} {v : V} {cc : Nat} (M : Mem K L F G am om H) (r : Rep K L G am d v) (h : isC cc d om = true) :
    ∃ a dx vs, v = .ref a ∧ H a = some (.ins (L.ca cc) dx ((L.fn cc).zip vs)) := by
  unfold isC at h
  split at h
  · rename_i c' fs
    have e : c' = cc := by simpa using h
    subst e
    cases r with
    | obj h n r => exact ⟨_, _, _, rfl, M.gH _ _ h⟩
  · rename_i k
    split at h
    · rename_i c' fs e
      have e' : c' = cc := by simpa using h
      subst e'
      cases r with
      | amb h =>
        obtain ⟨dx, vs, h1, _⟩ := M.obs _ _ _ h e
        exact ⟨_, dx, vs, rfl, h1⟩
    · cases h
  · cases h
theorem len_call {r : D → Prop} {f : Nat} {d : Def} {K : PySem.W.Frag} {F G : Hp} {am : List Addr} {ds : List D} {om : Om} {E : XK} {Q : VK} (hd : p.defs f = some d) (h : Post K L (Rep K L) F G am (callN p wf n f ds om) E Q) : ds.length = d.np := by
  cases n with
  | zero => exact h.elim
  | succ n =>
    unfold callN at h
    rw [hd] at h
    dsimp only at h
    split at h
    · assumption
    · exact h.elim
theorem pE_meth {f cc : Nat} {d : Def} {m : Str} {dv : List D} {dvs : List V} {dV : List Value} {pl : Sem Bool} (hL : Lnk X.prog X.w X.K X.mg X.base L p fi n) (hr : Room (2 * n + 1) X.A) (tk : Takes X W) (hd : p.defs f = some d) (hc : d.cls = none) (hfr : p.fresh f = false)
    (cl : Cls X.K (L.ca cc)) (hm : Meth X.K (L.ca cc) m (fi f).addr) (hno : fnIx (L.fn cc) m = none) (hb : Binds X.K (fi f).fd (fi f).ps dV) (hv : Vals dvs dV) (rv : ∀ G am, RepL X.K L G am dv dvs)
    (ho : PE X o (rdE X.K L (tab p wf n) W eo)) (ha : PA X (e :: es) (rdL X.K L (tab p wf n) W er))
    (hst : starEach (e :: es) X.env = (false, eval e X.env) :: starEach es X.env := by rfl) (hpl : (backTo pos (starEach es X.env)).any (·.1) = false := by rfl)
    (ht : eval (.Call (.Attribute o m apos) (e :: es) [] pos) X.env = (do
      let ov ← eval o X.env
      standAt apos.atName
      let (f, first) ← holding [ov] (getMethod ov m pl)
      callWith pos f first (backTo pos (starEach (e :: es) X.env)) (backToKw pos (keywordEach [] X.env))) := by rfl) :
    PE X (.Call (.Attribute o m apos) (e :: es) [] pos) (rdE X.K L (tab p wf n) W (.meth cc f dv eo er)) :=
  (pe_methSD (pl := pl) (E' := WE W) ho cl hm (hL.fn f d hd hc) (hr.mono (by omega)) hb hv (fun σ => passAt tk σ) ha hst hpl ht).imp fun σ H Q ⟨F, G, am, om, sl, M, S, pp⟩ => ⟨F, G, am, om, sl, M, S, pp.bind fun dx om1 x H1 G1 am1 g1 M1 r1 p1 => by
    split at p1
    · rename_i hi
      obtain ⟨a, dxx, vs, rfl, ha⟩ := recv M1 r1 hi
      refine ⟨a, dxx, _, rfl, ha, lookup_no hno, F, G1, am1, om1, sl, M1, S.grow g1, p1.bind fun ds om2 ws H2 G2 am2 g2 M2 r2 p2 => ?_⟩
      refine ⟨wf, F, G2, am2, om2, dx :: (ds ++ dv), M2, .cons (r1.up g2) (r2.append (rv G2 am2)), ⟨d, hd, len_call (r := fun _ => True) hd p2⟩, ?_⟩
      rw [if_neg (by rw [hfr]; decide)]
      exact p2
    · exact p1.elim⟩
theorem pE_meth0 {f cc : Nat} {d : Def} {m : Str} {dv : List D} {dvs : List V} {dV : List Value} {pl : Sem Bool} (hL : Lnk X.prog X.w X.K X.mg X.base L p fi n) (hr : Room (2 * n + 1) X.A) (tk : Takes X W) (hd : p.defs f = some d) (hc : d.cls = none) (hfr : p.fresh f = false)
    (cl : Cls X.K (L.ca cc)) (hm : Meth X.K (L.ca cc) m (fi f).addr) (hno : fnIx (L.fn cc) m = none) (hb : Binds X.K (fi f).fd (fi f).ps dV) (hv : Vals dvs dV) (rv : ∀ G am, RepL X.K L G am dv dvs)
    (ho : PE X o (rdE X.K L (tab p wf n) W eo))
    (ht : eval (.Call (.Attribute o m apos) [] [] pos) X.env = (do
      let ov ← eval o X.env
      standAt apos.atName
      let (f, first) ← holding [ov] (getMethod ov m pl)
      callWith pos f first (backTo pos (starEach [] X.env)) (backToKw pos (keywordEach [] X.env))) := by rfl) :
    PE X (.Call (.Attribute o m apos) [] [] pos) (rdE X.K L (tab p wf n) W (.meth cc f dv eo .nil)) :=
  (pe_methSD0 (pl := pl) (E' := WE W) ho cl hm (hL.fn f d hd hc) (hr.mono (by omega)) hb hv (fun σ => passAt tk σ) ht).imp fun σ H Q ⟨F, G, am, om, sl, M, S, pp⟩ => ⟨F, G, am, om, sl, M, S, pp.bind fun dx om1 x H1 G1 am1 g1 M1 r1 p1 => by
    split at p1
    · rename_i hi
      obtain ⟨a, dxx, vs, rfl, ha⟩ := recv M1 r1 hi
      refine ⟨a, dxx, _, rfl, ha, lookup_no hno, ?_⟩
      have p2 : Post X.K L (Rep X.K L) F G1 am1 (callN p wf n f (dx :: dv) om1) (fun cv dd H => W cv dd σ H) Q := p1
      refine ⟨wf, F, G1, am1, om1, dx :: dv, M1, .cons r1 (rv G1 am1), ⟨d, hd, len_call (r := fun _ => True) hd p2⟩, ?_⟩
      rw [if_neg (by rw [hfr]; decide)]
      exact p2
    · exact p1.elim⟩
/-! ### instances made -/
theorem noF {F : Hp} {x : Addr} {o : HO} (h : F x = none) : (fun a => if a = x then none else upd F x o a) = F := by
  funext a
  by_cases c : a = x
  · subst c
    rw [if_pos rfl, h]
  · rw [if_neg c, upd_ne c]
theorem pE_mk {f cc : Nat} {d : Def} {x : Str} {pp : Pos} {dv : List D} {dvs : List V} {dV : List Value} (hL : Lnk X.prog X.w X.K X.mg X.base L p fi n) (hr : Room (2 * n + 1) X.A) (tk : Takes X W) (hd : p.defs f = some d) (hc : d.cls = some cc)
    (hM : Mk X.K (L.ca cc) (fi f).addr) (hg : Gl X x) (hm : X.mg x = some (.ref (L.ca cc))) (hb : Binds X.K (fi f).fd (fi f).ps dV) (hv : Vals dvs dV) (rv : ∀ G am, RepL X.K L G am dv dvs)
    (ha : PA X (e :: es) (rdL X.K L (tab p wf n) W er)) (hdb : (x == ("__debug__" : Str)) = false := by decide) (he : starEach (e :: es) X.env = (false, eval e X.env) :: starEach es X.env := by rfl) (hpl : (backTo pos (starEach es X.env)).any (·.1) = false := by rfl) :
    PE X (.Call (.Name x pp) (e :: es) [] pos) (rdE X.K L (tab p wf n) W (.mk cc f dv er)) :=
  (pe_makeSD (E' := WE W) hM (hL.ini f d cc hd hc) hr hg hm hb hv (fun σ => passAt tk σ) ha hdb he hpl).imp fun σ H Q ⟨F, G, am, om, sl, M, S, pp⟩ => ⟨F, G, am, om, sl, M, S, pp.bind fun ds om1 vs H1 G1 am1 g1 M1 r1 p1 x dx nx ndx ne => by
    have hl : (ds ++ dv).length + 1 = d.np := by
      cases n with
      | zero => exact p1.elim
      | succ n =>
        change Post X.K L (Rep X.K L) F G1 am1 ((initN p wf (n + 1) f (ds ++ dv) om1).bind _) _ _ at p1
        unfold initN at p1
        rw [hd] at p1
        dsimp only at p1
        rw [hc] at p1
        dsimp only at p1
        split at p1
        · assumption
        · exact p1.elim
    have nx' : (upd H1 dx (.own x)) x = none := by
      rw [upd_ne (fun c => ne c.symm)]
      exact nx
    have hf : F x = none := M1.none_f nx
    have M2 := (M1.more (u := .own x) ndx).newF (u := .ins (L.ca cc) dx []) nx'
    refine ⟨wf, upd F x (.ins (L.ca cc) dx []), G1, am1, om1, ds ++ dv, cc, x, dx, vs ++ dvs, rfl, M2, upd_same, r1.append (rv G1 am1), ⟨d, hd, hc, hl⟩, ?_⟩
    change Post X.K L (Rep X.K L) F G1 am1 ((initN p wf n f (ds ++ dv) om1).bind _) _ _ at p1
    cases q : initN p wf n f (ds ++ dv) om1 with
    | stuck => rw [q] at p1; exact p1
    | exc c' fs om' =>
      rw [q] at p1
      intro cv dd H' G' am' g M' er
      rw [noF hf] at M'
      exact p1 cv dd H' G' am' g M' er
    | ok fs om' =>
      rw [q] at p1
      intro ws H' G' am' g M' rr
      refine ⟨rfl, ?_⟩
      rw [bind_ok] at p1
      split at p1
      · rename_i hn
        rw [upd_upd] at M'
        have hg' : G' x = none := M'.fg _ _ upd_same
        refine p1 _ H' (upd G' x (.ins (L.ca cc) dx ((L.fn cc).zip ws))) am' (g.trans (Grow.of hg')) (M'.freeze upd_same fun a u e => ?_) (.obj upd_same ?_ (rr.up (Grow.of hg')))
        · have hne : a ≠ x := fun z => by rw [z, hf] at e; cases e
          exact ⟨by rw [upd_ne hne]; exact e, hne⟩
        · rw [← rr.length]
          exact hn.trans (hL.nf cc)
      · exact p1.elim⟩
/-- an instance that will change: into the store -/
theorem pE_mka {f cc : Nat} {d : Def} {x : Str} {pp : Pos} {dv : List D} {dvs : List V} {dV : List Value} (hL : Lnk X.prog X.w X.K X.mg X.base L p fi n) (hr : Room (2 * n + 1) X.A) (tk : Takes X W) (hd : p.defs f = some d) (hc : d.cls = none) (hfr : p.fresh f = false)
    (hM : Mk X.K (L.ca cc) (fi f).addr) (hg : Gl X x) (hm : X.mg x = some (.ref (L.ca cc))) (hb : Binds X.K (fi f).fd (fi f).ps dV) (hv : Vals dvs dV) (rv : ∀ G am, RepL X.K L G am dv dvs)
    (ha : PA X (e :: es) (rdL X.K L (tab p wf n) W er)) (hdb : (x == ("__debug__" : Str)) = false := by decide) (he : starEach (e :: es) X.env = (false, eval e X.env) :: starEach es X.env := by rfl) (hpl : (backTo pos (starEach es X.env)).any (·.1) = false := by rfl) :
    PE X (.Call (.Name x pp) (e :: es) [] pos) (rdE X.K L (tab p wf n) W (.mka cc f dv er)) :=
  (pe_makeSD (E' := WE W) hM (hL.fn f d hd hc) hr hg hm hb hv (fun σ => passAt tk σ) ha hdb he hpl).imp fun σ H Q ⟨F, G, am, om, sl, M, S, pp⟩ => ⟨F, G, am, om, sl, M, S, pp.bind fun ds om1 vs H1 G1 am1 g1 M1 r1 p1 x dx nx ndx ne => by
    have nx' : (upd H1 dx (.own x)) x = none := by
      rw [upd_ne (fun c => ne c.symm)]
      exact nx
    have M2 : Mem X.K L F G1 (am1 ++ [x]) (om1 ++ [.ob cc []]) (upd (upd H1 dx (.own x)) x (.ins (L.ca cc) dx [])) := (M1.more (u := .own x) ndx).newA nx' ⟨dx, [], by rw [upd_same, List.zip_nil_right], Nat.zero_le _, .nil⟩
    have gA : Grow G1 am1 G1 (am1 ++ [x]) := ⟨Ex.refl, [x], rfl⟩
    have hk : (am1 ++ [x])[om1.length]? = some x := by
      rw [← M1.len, List.getElem?_append_right (Nat.le_refl _), Nat.sub_self]
      rfl
    change Post X.K L (Rep X.K L) F G1 am1 ((callN p wf n f (.amb om1.length :: (ds ++ dv)) (om1 ++ [.ob cc []])).bind _) _ _ at p1
    have p2 : Post X.K L (Rep X.K L) F G1 (am1 ++ [x]) (callN p wf n f (.amb om1.length :: (ds ++ dv)) (om1 ++ [.ob cc []])) (fun cv dd H => W cv dd σ H) (fun v H2 => v = .non ∧ Q (.ref x) H2) := (Post.grow gA p1).bind fun r om' v H' G' am' g M' rr p3 => by
      split at p3
      · cases rr
        exact ⟨rfl, p3 _ H' G' am' Grow.refl M' (.amb (g.get hk))⟩
      · exact p3.elim
    refine ⟨wf, F, G1, am1 ++ [x], om1 ++ [.ob cc []], .amb om1.length :: (ds ++ dv), M2, .cons (.amb hk) ((r1.append (rv G1 am1)).up gA), ⟨d, hd, len_call (r := fun _ => True) hd p2⟩, ?_⟩
    rw [if_neg (by rw [hfr]; decide)]
    exact p2⟩
/-! ### fields -/
theorem pE_fld {cc j : Nat} {m : Str} (ha : PE X a (rdE X.K L T W ea)) (cl : Cls X.K (L.ca cc)) (hn : NoAttr X.K (L.ca cc) m) (hj : fnIx (L.fn cc) m = some j) (hb : attributeBase a m X.env (eval a X.env) = eval a X.env) :
    PE X (.Attribute a m pos) (rdE X.K L T W (.fld cc j ea)) :=
  (pe_fld ha hb).imp fun σ H Q ⟨F, G, am, om, sl, M, S, pp⟩ => ⟨F, G, am, om, sl, M, S, pp.bind fun d om1 v H1 G1 am1 g1 M1 r1 p1 => by
    unfold fldD at p1
    split at p1
    · rename_i c' fs om2
      split at p1
      · rename_i hc
        subst hc
        split at p1
        · rename_i d' hd'
          cases r1 with
          | obj h n' r =>
            obtain ⟨v', hv', rv⟩ := r.get hd'
            exact ⟨_, _, _, _, v', rfl, M1.gH _ _ h, cl, hn, by rw [lookup_ix hj]; exact hv', p1 v' H1 G1 am1 Grow.refl M1 rv⟩
        · exact p1.elim
      · exact p1.elim
    · rename_i k om2
      split at p1
      · rename_i c' fs hk
        split at p1
        · rename_i hc
          subst hc
          split at p1
          · rename_i d' hd'
            cases r1 with
            | amb h =>
              obtain ⟨dx, vs, h1, _, r⟩ := M1.obs _ _ _ h hk
              obtain ⟨v', hv', rv⟩ := r.get hd'
              exact ⟨_, _, _, _, v', rfl, h1, cl, hn, by rw [lookup_ix hj]; exact hv', p1 v' H1 G1 am1 Grow.refl M1 rv⟩
          · exact p1.elim
        · exact p1.elim
      · exact p1.elim
    · exact p1.elim⟩
/-- a field of the instance that is being made -/
theorem pE_fs {cc j : Nat} {m x : Str} (h0 : X.N[(0 : Nat)]? = some x) (hv : Vis X.env.scope x) (cl : Cls X.K (L.ca cc)) (hn : NoAttr X.K (L.ca cc) m) (hj : fnIx (L.fn cc) m = some j)
    (hb : attributeBase (.Name x apos) m X.env (eval (.Name x apos) X.env) = eval (.Name x apos) X.env) (hd : (x == ("__debug__" : Str)) = false := by decide) (hcd : (x == ("__classdict__" : Str)) = false := by decide) :
    PE X (.Attribute (.Name x apos) m pos) (rdE X.K L T W (.fs cc j)) :=
  (pe_fld (pe_var h0 hv hd hcd) hb).imp fun σ H Q ⟨F, G, am, om, sl, M, S, pp⟩ => by
    simp only [evE] at pp
    split at pp
    · rename_i c' fs h1
      obtain ⟨o, ho, a, dx, vs, rfl, hF, _, r⟩ := S.at h1
      split at pp
      · rename_i hc
        subst hc
        split at pp
        · rename_i d hd'
          obtain ⟨v, hv', rv⟩ := r.get hd'
          exact ⟨_, ho, a, _, dx, _, v, rfl, M.fH _ _ hF, cl, hn, by rw [lookup_ix hj]; exact hv', pp v H G am Grow.refl M rv⟩
        · exact pp.elim
      · exact pp.elim
    · exact pp.elim
end
end PD

set_option Elab.async false
set_option linter.all false
set_option maxRecDepth 100000
set_option maxHeartbeats 400000
/-! PDH: built-ins, isinstance, subscripts, slices, methods of texts. -/
namespace PD
open PySem PySem.Spec PyProof.Rows L2
def Bi.py : Bi → Value
  | .len => .builtin "len"
  | .abs => .builtin "abs"
  | .str => .type "str"
  | .int => .type "int"
  | .list => .type "list"
  | .tuple => .type "tuple"
  | .bool => .type "bool"
  | .sum => .builtin "sum"
  | .any => .builtin "any"
  | .all => .builtin "all"
section
variable {K : PySem.W.Frag} {L : Lk} {F G G' H : Hp} {am am' : List Addr} {om : Om}
theorem ints_v : ∀ {ds : List D} {vs : List V} {ns : List Int}, RepL K L G am ds vs → intsD ds = some ns → vs = ns.map V.int
  | _, _, _, .nil, h => by cases h; rfl
  | .int i :: ds, v :: vs, ns, .cons h r, e => by
    cases h
    unfold intsD at e
    cases q : intsD ds with
    | none => rw [q] at e; cases e
    | some ms =>
      rw [q] at e
      cases e
      rw [ints_v r q]
      rfl
  | .non :: ds, _, _, .cons _ _, e => by cases e
  | .bl _ :: ds, _, _, .cons _ _, e => by cases e
  | .str _ :: ds, _, _, .cons _ _, e => by cases e
  | .lst _ :: ds, _, _, .cons _ _, e => by cases e
  | .tup _ :: ds, _, _, .cons _ _, e => by cases e
  | .obj _ _ :: ds, _, _, .cons _ _, e => by cases e
  | .amb _ :: ds, _, _, .cons _ _, e => by cases e
  | .scr _ :: ds, _, _, .cons _ _, e => by cases e
theorem bls_v : ∀ {ds : List D} {vs : List V} {ns : List Bool}, RepL K L G am ds vs → blsD ds = some ns → vs = ns.map V.bl
  | _, _, _, .nil, h => by cases h; rfl
  | .bl i :: ds, v :: vs, ns, .cons h r, e => by
    cases h
    unfold blsD at e
    cases q : blsD ds with
    | none => rw [q] at e; cases e
    | some ms =>
      rw [q] at e
      cases e
      rw [bls_v r q]
      rfl
  | .non :: ds, _, _, .cons _ _, e => by cases e
  | .int _ :: ds, _, _, .cons _ _, e => by cases e
  | .str _ :: ds, _, _, .cons _ _, e => by cases e
  | .lst _ :: ds, _, _, .cons _ _, e => by cases e
  | .tup _ :: ds, _, _, .cons _ _, e => by cases e
  | .obj _ _ :: ds, _, _, .cons _ _, e => by cases e
  | .amb _ :: ds, _, _, .cons _ _, e => by cases e
  | .scr _ :: ds, _, _, .cons _ _, e => by cases e
theorem strs_v : ∀ {ds : List D} {vs : List V} {ns : List Str}, RepL K L G am ds vs → strsD ds = some ns → vs = ns.map V.str
  | _, _, _, .nil, h => by cases h; rfl
  | .str i :: ds, v :: vs, ns, .cons h r, e => by
    cases h
    unfold strsD at e
    cases q : strsD ds with
    | none => rw [q] at e; cases e
    | some ms =>
      rw [q] at e
      cases e
      rw [strs_v r q]
      rfl
  | .non :: ds, _, _, .cons _ _, e => by cases e
  | .bl _ :: ds, _, _, .cons _ _, e => by cases e
  | .int _ :: ds, _, _, .cons _ _, e => by cases e
  | .lst _ :: ds, _, _, .cons _ _, e => by cases e
  | .tup _ :: ds, _, _, .cons _ _, e => by cases e
  | .obj _ _ :: ds, _, _, .cons _ _, e => by cases e
  | .amb _ :: ds, _, _, .cons _ _, e => by cases e
  | .scr _ :: ds, _, _, .cons _ _, e => by cases e
theorem strs_rep : ∀ (xs : List Str), RepL K L G am (xs.map D.str) (xs.map V.str)
  | [] => .nil
  | x :: xs => .cons (.str x) (strs_rep xs)
theorem at_v {ds : List D} {vs : List V} {i : Int} {d : D} (r : RepL K L G am ds vs) (h : atI ds i = some d) : ∃ v, atI vs i = some v ∧ Rep K L G am d v := by
  unfold atI at h ⊢
  rw [← r.length]
  cases q : ixN ds.length i with
  | none => rw [q] at h; cases h
  | some j =>
    rw [q] at h
    exact r.get h
theorem cut_v {ds : List D} {vs : List V} {lo hi : Option Int} (r : RepL K L G am ds vs) : RepL K L G am (cutD ds lo hi) (cutV vs lo hi) := by
  unfold cutD cutV
  rw [← r.length]
  exact (r.drop _).take _
end
section
variable {X : Cx} {L : Lk} {p : Prog} {fi : Nat → FI} {n wf : Nat}
def rBi (K : PySem.W.Frag) (L : Lk) (T : Tb) (b : Bi) : List V → Hp → VK → Prop := fun xs H Q => ∃ F G am om d x E, xs = [x] ∧ Mem K L F G am om H ∧ RepB K L F G am d x ∧ Post K L (Rep K L) F G am (biD T b d om) E Q
/-- str(x) by an own __str__ -/
theorem own_str {pins : List (Addr × Obj)} {s : Shared} {σ : L2.St} {H : Hp} {Q : VK} {c f : Nat} {fs : List D} {x : V} {v : Value} {F G : Hp} {am : List Addr} {om om' : Om} {b : Str}
    (hL : Lnk X.prog X.w X.K X.mg X.base L p fi n) (hr : Room (2 * n + 1) X.A) (I : Inv X pins σ H s) (rx : RelV x v) (M : Mem X.K L F G am om H) (hx : Rep X.K L G am (.obj c fs) x)
    (hf : p.strm c = some f) (hc : callN p wf n f [.obj c fs] om = .ok (.str b) om') (hp : ∀ H' G' am', Grow G am G' am' → Mem X.K L F G' am' om' H' → Q (.str b) H') : wpAny (model X.prog X.w) X.A (call (.type "str") [v]) (EP X pins σ Q) X.xe s := by
  obtain ⟨⟨d, hd, hcl, hnp⟩, hfr, hfind, hfn, hb⟩ := hL.strm c f hf
  have hx0 := hx
  cases hx with
  | @obj _ a dx vs _ ha na ra =>
  cases rx
  obtain ⟨mA, J, _⟩ := ins_get I.hok (M.gH _ _ ha)
  obtain ⟨od, J, _⟩ := J.look
  have hu : X.A.in1.in1.units < cLine := by
    have := hr.un
    show X.A.units + 1 + 1 < _
    omega
  have hr2 : Room (2 * n) X.A.in1.in1 := ⟨hr.hd, by have := hr.dp; show X.A.depth + 3 * (2 * n) + 5 < _; omega, by have := hr.un; show X.A.units + 1 + 1 + 16 * (2 * n) + 200 < _; omega⟩
  have hsp : spD X.K L p n f [V.ref a] H (fun z H' => z = V.str b ∧ Q (.str b) H') (fun _ _ _ => False) := by
    refine ⟨wf, F, G, am, om, _, M, .cons hx0 .nil, ⟨d, hd, by rw [hnp]; rfl⟩, ?_⟩
    rw [if_neg (by rw [hfr]; decide), hc]
    intro v H' G' am' g M' r
    cases r
    exact ⟨rfl, hp H' G' am' g M'⟩
  have hlen : (fi f).ps.length = 1 := ((hL.fn f d hd hcl).len _ _ _ _ hsp).symm
  refine PySem.W.kso_call hu I.kIn J hfind hfn (wpAny_call (codeAny_mono ((hL.fn f d hd hcl).run X.A.in1.in1 X.stack s H ⟨[.ref a], []⟩ [.ref a] [.ref a] _ (fun _ _ _ => False) hr2 I.env0.in1.in1 (by
    have z := hb s [.ref a] I.kIn (by rw [List.append_nil, hlen]; rfl)
    rw [List.append_nil] at z
    exact z) (.cons rfl .nil) hsp) fun r s' hq => ?_))
  cases r with
  | error e => exact passE0 (σ := σ) pins H s e s' I hq
  | ok fl =>
    cases fl with
    | ret u =>
      obtain ⟨z, H', I', rz, ez, q⟩ := I.after hq
      subst ez
      obtain ⟨t, rfl⟩ := rz
      exact ⟨.str b, H', I', ⟨t, rfl⟩, q⟩
    | next => exact False.elim hq
    | brk => exact False.elim hq
    | cont => exact False.elim hq
theorem cr_bi (hL : Lnk X.prog X.w X.K X.mg X.base L p fi n) (hr : Room (2 * n + 1) X.A) (hcalm : X.calm = true) (b : Bi) : CallR X b.py (rBi X.K L (tab p wf n) b) := by
  rintro pins s σ H xs us Q I rv ⟨F, G, am, om, d, x, E, rfl, M, r, hp⟩
  have rv0 := rv
  unfold biD at hp
  split at hp
  · obtain ⟨a, vs, rfl, ha, ra⟩ := r.lst M
    exact call_len pins s σ H _ us Q I rv ⟨_, _, rfl, .inl ⟨vs, SqL.of ha, rfl⟩, by rw [← ra.length]; exact hp _ H G am Grow.refl M (.int _)⟩
  · obtain ⟨a, vs, rfl, ha, ra⟩ := r.tup
    exact call_len pins s σ H _ us Q I rv ⟨_, _, rfl, .inr ⟨vs, SqT.of (M.gH _ _ ha), rfl⟩, by rw [← ra.length]; exact hp _ H G am Grow.refl M (.int _)⟩
  · obtain ⟨a, vs, rfl, ha, ra⟩ := r.scr
    exact call_len pins s σ H _ us Q I rv ⟨_, _, rfl, .inl ⟨vs, sqL_ex M.gH ha, rfl⟩, by rw [← ra.length]; exact hp _ H G am Grow.refl M (.int _)⟩
  · cases r.str
    split at hp
    · rename_i hz
      exact call_len pins s σ H _ us Q I rv ⟨_, _, rfl, ⟨sz_le hz, rfl⟩, hp _ H G am Grow.refl M (.int _)⟩
    · exact hp.elim
  · cases r.int
    exact call_abs pins s σ H _ us Q I rv ⟨_, rfl, hp _ H G am Grow.refl M (.int _)⟩
  · cases r.int
    split at hp
    · rename_i hz
      exact call_str_int pins s σ H _ us Q I rv ⟨_, rfl, hz, hp _ H G am Grow.refl M (.str _)⟩
    · exact hp.elim
  · cases r.str
    exact SkE.call_str_str pins s σ H _ us Q I rv ⟨_, rfl, hp _ H G am Grow.refl M (.str _)⟩
  · split at hp
    · rename_i f hf
      split at hp
      · rename_i b om' hcall
        cases rv with
        | cons h1 h2 =>
          cases h2
          exact own_str (b := b) (om' := om') hL hr I h1 M r.objE hf hcall fun H' G' am' g M' => hp _ H' G' am' g M' (.str b)
      · exact hp.elim
    · exact hp.elim
  · cases r.int
    exact call_int1 pins s σ H _ us Q I rv (.inl ⟨_, rfl, hp _ H G am Grow.refl M (.int _)⟩)
  · cases r.bl
    exact call_int1 pins s σ H _ us Q I rv (.inr ⟨_, rfl, hp _ H G am Grow.refl M (.int _)⟩)
  · cases r.str
    split at hp
    · rename_i m hm
      split at hp
      · rename_i hz
        exact call_int_str pins s σ H _ us Q I rv ⟨_, _, rfl, hm, hz, hp _ H G am Grow.refl M (.int _)⟩
      · exact hp.elim
    · exact hp.elim
  · cases r.int
    exact call_bool1 pins s σ H _ us Q I rv (.inl ⟨_, rfl, hp _ H G am Grow.refl M (.bl _)⟩)
  · cases r.bl
    exact call_bool1 pins s σ H _ us Q I rv (.inr ⟨_, rfl, hp _ H G am Grow.refl M (.bl _)⟩)
  · split at hp
    · rename_i ds hds
      obtain ⟨a, vs, rfl, ha, ra⟩ := amb_lst M r hds
      exact call_boolL pins s σ H _ us Q I rv ⟨a, vs, rfl, SqL.of ha, by rw [← isEmpty_len ra.length]; exact hp _ H G am Grow.refl M (.bl _)⟩
    · exact hp.elim
  · obtain ⟨a, vs, rfl, ha, ra⟩ := r.lst M
    exact call_list_of pins s σ H _ us Q I rv ⟨_, _, rfl, .inl (SqL.of ha), fun q hq => hp _ _ _ am (Grow.of (M.none_g hq)) (M.new hq) (.lst upd_same (ra.up (Grow.of (M.none_g hq))))⟩
  · obtain ⟨a, vs, rfl, ha, ra⟩ := r.tup
    exact call_list_of pins s σ H _ us Q I rv ⟨_, _, rfl, .inr (SqT.of (M.gH _ _ ha)), fun q hq => hp _ _ _ am (Grow.of (M.none_g hq)) (M.new hq) (.lst upd_same (ra.up (Grow.of (M.none_g hq))))⟩
  · obtain ⟨a, vs, rfl, ha, ra⟩ := r.scr
    exact call_list_of pins s σ H _ us Q I rv ⟨_, _, rfl, .inl (sqL_ex M.gH ha), fun q hq => hp _ _ _ am (Grow.of (M.none_g hq)) (M.new hq) (.lst upd_same (ra.up (Grow.of (M.none_g hq))))⟩
  · obtain ⟨a, vs, rfl, ha, ra⟩ := r.lst M
    exact call_tuple_of pins s σ H _ us Q I rv ⟨_, _, rfl, .inl ⟨SqL.of ha, fun q hq => hp _ _ _ am (Grow.of (M.none_g hq)) (M.new hq) (.tup upd_same (ra.up (Grow.of (M.none_g hq))))⟩⟩
  · obtain ⟨a, vs, rfl, ha, ra⟩ := r.tup
    exact call_tuple_of pins s σ H _ us Q I rv ⟨_, vs, rfl, .inr ⟨SqT.of (M.gH _ _ ha), hp _ H G am Grow.refl M (.tup ha ra)⟩⟩
  · split at hp
    · rename_i ds hds
      obtain ⟨a, vs, rfl, ha, ra⟩ := amb_lst M r hds
      exact call_tuple_of pins s σ H _ us Q I rv ⟨_, _, rfl, .inl ⟨SqL.of ha, fun q hq => hp _ _ _ am (Grow.of (M.none_g hq)) (M.new hq) (.tup upd_same (ra.up (Grow.of (M.none_g hq))))⟩⟩
    · exact hp.elim
  · obtain ⟨a, vs, rfl, ha, ra⟩ := r.lst M
    split at hp
    · rename_i ns hn
      exact cr_sum hcalm pins s σ H _ us Q I rv ⟨a, ns, rfl, by rw [← ints_v ra hn]; exact SqL.of ha, hp _ H G am Grow.refl M (.int _)⟩
    · exact hp.elim
  · obtain ⟨a, vs, rfl, ha, ra⟩ := r.lst M
    split at hp
    · rename_i ns hn
      exact cr_any hcalm pins s σ H _ us Q I rv ⟨a, ns, rfl, by rw [← bls_v ra hn]; exact SqL.of ha, hp _ H G am Grow.refl M (.bl _)⟩
    · exact hp.elim
  · obtain ⟨a, vs, rfl, ha, ra⟩ := r.lst M
    split at hp
    · rename_i ns hn
      exact cr_all hcalm pins s σ H _ us Q I rv ⟨a, ns, rfl, by rw [← bls_v ra hn]; exact SqL.of ha, hp _ H G am Grow.refl M (.bl _)⟩
    · exact hp.elim
  · exact hp.elim
/-- list(x): a new list that nobody else holds -/
def rLiF (K : PySem.W.Frag) (L : Lk) (T : Tb) : List V → Hp → VK → Prop := fun xs H Q => ∃ F G am om d x E, xs = [x] ∧ Mem K L F G am om H ∧ RepB K L F G am d x ∧ PostF K L F G am (biD T .list d om) E Q
theorem cr_liF {T : Tb} : CallR X (.type "list") (rLiF X.K L T) := by
  rintro pins s σ H xs us Q I rv ⟨F, G, am, om, d, x, E, rfl, M, r, hp⟩
  cases d with
  | lst ds =>
    obtain ⟨a, vs, rfl, ha, ra⟩ := r.lst M
    obtain ⟨ds', e, hp⟩ := hp
    cases e
    exact call_list_of pins s σ H _ us Q I rv ⟨_, _, rfl, .inl (SqL.of ha), fun q hq => hp _ _ _ _ am Grow.refl (M.none_f hq) (M.newF hq) ra⟩
  | tup ds =>
    obtain ⟨a, vs, rfl, ha, ra⟩ := r.tup
    obtain ⟨ds', e, hp⟩ := hp
    cases e
    exact call_list_of pins s σ H _ us Q I rv ⟨_, _, rfl, .inr (SqT.of (M.gH _ _ ha)), fun q hq => hp _ _ _ _ am Grow.refl (M.none_f hq) (M.newF hq) ra⟩
  | scr ds =>
    obtain ⟨a, vs, rfl, ha, ra⟩ := r.scr
    obtain ⟨ds', e, hp⟩ := hp
    cases e
    exact call_list_of pins s σ H _ us Q I rv ⟨_, _, rfl, .inl (sqL_ex M.gH ha), fun q hq => hp _ _ _ _ am Grow.refl (M.none_f hq) (M.newF hq) ra⟩
  | non => exact hp.elim
  | bl _ => exact hp.elim
  | int _ => exact hp.elim
  | str _ => exact hp.elim
  | obj _ _ => exact hp.elim
  | amb _ => exact hp.elim
end
section
variable {X : Cx} {L : Lk} {p : Prog} {fi : Nat → FI} {n wf : Nat} {W : WX} {T : Tb} {a b c e o : Expr} {es : List Expr} {ea eb ec eo er : E} {pos apos cpos spos : Pos}
/-- one argument, as it is read -/
theorem pA1 (ha : PE X a (rdB X.K L T W ea)) (hs : starEach (a :: []) X.env = (false, eval a X.env) :: starEach [] X.env := by rfl) : PA X [a] (tCons (rdB X.K L T W ea) tNil) := pa_cons ha pa_nil hs
theorem rd1 {σ : L2.St} {H : Hp} {Q : VK} {K : PySem.W.Frag} {f : D → Om → Rs D} {F G : Hp} {am : List Addr} {om : Om} {sl : Sl} (M : Mem K L F G am om H) (S : SlR K L F G am sl σ)
    (pp : Post K L (Rep K L) F G am ((evE T ea sl om).bind fun x om => f x om) (fun cv dd H => W cv dd σ H) Q) {r : V → Hp → VK → Prop}
    (k : ∀ x H' G' am' om' dx, Mem K L F G' am' om' H' → RepB K L F G' am' dx x → Post K L (Rep K L) F G' am' (f dx om') (fun cv dd H => W cv dd σ H) Q → r x H' Q) : rdB K L T W ea σ H fun x H1 => r x H1 Q :=
  ⟨F, G, am, om, sl, M, S, pp.bind fun dx om1 x H1 G1 am1 g1 M1 rx p1 => k x H1 G1 am1 om1 dx M1 rx p1⟩
theorem rd1F {σ : L2.St} {H : Hp} {Q : VK} {K : PySem.W.Frag} {f : D → Om → Rs D} {F G : Hp} {am : List Addr} {om : Om} {sl : Sl} (M : Mem K L F G am om H) (S : SlR K L F G am sl σ)
    (pp : PostF K L F G am ((evE T ea sl om).bind fun x om => f x om) (fun cv dd H => W cv dd σ H) Q) {r : V → Hp → VK → Prop}
    (k : ∀ x H' G' am' om' dx, Mem K L F G' am' om' H' → RepB K L F G' am' dx x → PostF K L F G' am' (f dx om') (fun cv dd H => W cv dd σ H) Q → r x H' Q) : rdB K L T W ea σ H fun x H1 => r x H1 Q :=
  ⟨F, G, am, om, sl, M, S, pp.bind fun dx om1 x H1 G1 am1 g1 M1 rx p1 => k x H1 G1 am1 om1 dx M1 rx p1⟩
theorem pE_biB {id : String} {x : Str} {pp : Pos} (hL : Lnk X.prog X.w X.K X.mg X.base L p fi n) (hr : Room (2 * n + 1) X.A) (hcalm : X.calm = true) (b : Bi) (hb : b.py = .builtin id) (hg : Gl X x) (hm : X.mg x = none) (hv : bootBuiltins x = some (.builtin id))
    (ha : PE X a (rdB X.K L (tab p wf n) W ea)) (hn : x ≠ "__name__" := by decide) (hdb : (x == ("__debug__" : Str)) = false := by decide)
    (he : starEach (a :: []) X.env = (false, eval a X.env) :: starEach [] X.env := by rfl) (hpl : (backTo pos (starEach [] X.env)).any (·.1) = false := by rfl) : PE X (.Call (.Name x pp) (a :: []) [] pos) (rdE X.K L (tab p wf n) W (.bi b ea)) :=
  (pe_callB (hb ▸ cr_bi hL hr hcalm b) hg hm hv (pA1 ha he) hn hdb he hpl).imp fun σ H Q ⟨F, G, am, om, sl, M, S, pp⟩ =>
    rd1 (r := fun x H1 Q => tNil σ H1 fun xs H2 => rBi X.K L (tab p wf n) b (x :: xs) H2 Q) M S pp fun x H' G' am' om' dx M' rx p1 => ⟨F, G', am', om', dx, x, _, rfl, M', rx, p1⟩
theorem pE_biT {id : String} {x : Str} {pp : Pos} (hL : Lnk X.prog X.w X.K X.mg X.base L p fi n) (hr : Room (2 * n + 1) X.A) (hcalm : X.calm = true) (b : Bi) (hb : b.py = .type id) (hg : Gl X x) (hm : X.mg x = none) (hv : bootBuiltins x = some (.type id))
    (ha : PE X a (rdB X.K L (tab p wf n) W ea)) (hn : x ≠ "__name__" := by decide) (hdb : (x == ("__debug__" : Str)) = false := by decide)
    (he : starEach (a :: []) X.env = (false, eval a X.env) :: starEach [] X.env := by rfl) (hpl : (backTo pos (starEach [] X.env)).any (·.1) = false := by rfl) : PE X (.Call (.Name x pp) (a :: []) [] pos) (rdE X.K L (tab p wf n) W (.bi b ea)) :=
  (pe_callTy (hb ▸ cr_bi hL hr hcalm b) hg hm hv (pA1 ha he) hn hdb he hpl).imp fun σ H Q ⟨F, G, am, om, sl, M, S, pp⟩ =>
    rd1 (r := fun x H1 Q => tNil σ H1 fun xs H2 => rBi X.K L (tab p wf n) b (x :: xs) H2 Q) M S pp fun x H' G' am' om' dx M' rx p1 => ⟨F, G', am', om', dx, x, _, rfl, M', rx, p1⟩
theorem pF_list {pp : Pos} (hg : Gl X "list") (hm : X.mg "list" = none) (hv : bootBuiltins "list" = some (.type "list"))
    (ha : PE X a (rdB X.K L T W ea)) (he : starEach (a :: []) X.env = (false, eval a X.env) :: starEach [] X.env := by rfl) (hpl : (backTo pos (starEach [] X.env)).any (·.1) = false := by rfl) : PE X (.Call (.Name "list" pp) (a :: []) [] pos) (rdF X.K L T W (.bi .list ea)) :=
  (pe_callTy cr_liF hg hm hv (pA1 ha he) (by decide) (by decide) he hpl).imp fun σ H Q ⟨F, G, am, om, sl, M, S, pp⟩ =>
    rd1F (r := fun x H1 Q => tNil σ H1 fun xs H2 => rLiF X.K L T (x :: xs) H2 Q) M S pp fun x H' G' am' om' dx M' rx p1 => ⟨F, G', am', om', dx, x, _, rfl, M', rx, p1⟩
/-! ### isinstance -/
/-- the type of a datum -/
def tyD (L : Lk) : D → Option Value
  | .non => some (.type "NoneType")
  | .bl _ => some (.type "bool")
  | .int _ => some (.type "int")
  | .str _ => some (.type "str")
  | .lst _ => some (.type "list")
  | .tup _ => some (.type "tuple")
  | .obj c _ => some (.ref (L.ca c))
  | _ => none
/-- what isinstance asks of a class -/
structure IsC (K : PySem.W.Frag) (C : Addr) : Prop where
  cl : Cls K C
  ha : PySem.W.findIn K (.ref C) "__class__" = some (some (.builtin "object.__class__"))
  hn : PySem.W.specialIn K (.builtin "object.__class__") "__get__" = some (some (.builtin "getset_descriptor.__get__"))
  ht : PySem.W.takesIn K (.builtin "object.__class__") = some true
  hm : PySem.W.mroIn K C (.type "object") = some true
theorem tyX_of {K : PySem.W.Frag} {F G H : Hp} {am : List Addr} {om : Om} {d : D} {v : V} {t : Value} (M : Mem K L F G am om H) (r : RepB K L F G am d v) (hc : ∀ c fs, d = .obj c fs → IsC K (L.ca c)) (h : tyD L d = some t) : TyX K H v t := by
  cases d with
  | non => cases r.non; cases h; exact .base .non
  | bl b => cases r.bl; cases h; exact .base (.bl b)
  | int b => cases r.int; cases h; exact .base (.int b)
  | str b => cases r.str; cases h; exact .base (.str b)
  | lst ds =>
    obtain ⟨a, vs, rfl, ha, ra⟩ := r.lst M
    cases h
    exact .base (.lst ha)
  | tup ds =>
    obtain ⟨a, vs, rfl, ha, ra⟩ := r.tup
    cases h
    exact .base (.tup (M.gH _ _ ha))
  | obj c fs =>
    obtain ⟨a, dx, vs, rfl, ha, _⟩ := r.obj
    cases h
    have z := hc c fs rfl
    exact .base (.ins (M.gH _ _ ha) z.cl z.ha z.hn z.ht z.hm)
  | amb _ => cases h
  | scr _ => cases h
/-- a class as isinstance's second argument -/
structure TyOk (K : PySem.W.Frag) (L : Lk) (ty : Ty) (v : V) (u : Value) : Prop where
  cv : ClsV v u
  kit : ∀ d b, isT ty d = some b → ∃ t, tyD L d = some t ∧ PySem.W.kitOne K t u = some b ∧ ∀ c fs, d = .obj c fs → IsC K (L.ca c)
theorem tyOk_b {K : PySem.W.Frag} {L : Lk} {ty : Ty} {nm : String} (h : (ty = .tuple ∧ nm = "tuple") ∨ (ty = .list ∧ nm = "list") ∨ (ty = .int ∧ nm = "int") ∨ (ty = .bool ∧ nm = "bool") ∨ (ty = .str ∧ nm = "str")) : TyOk K L ty (.ty nm) (.type nm) := by
  refine ⟨.ty nm, fun d b hd => ?_⟩
  rcases h with ⟨rfl, rfl⟩ | ⟨rfl, rfl⟩ | ⟨rfl, rfl⟩ | ⟨rfl, rfl⟩ | ⟨rfl, rfl⟩
  all_goals
    cases d <;> first | (simp only [isT] at hd; cases hd; done) | (simp only [isT] at hd; cases hd; exact ⟨_, rfl, kit_ty (by decide +kernel), fun _ _ e => by cases e⟩)
theorem tyOk_o {K : PySem.W.Frag} {L : Lk} {c : Nat} (hk : PySem.W.kitOne K (.ref (L.ca c)) (.ref (L.ca c)) = some true) (hi : IsC K (L.ca c)) : TyOk K L (.own c) (.ref (L.ca c)) (.ref (L.ca c)) := by
  refine ⟨.own _, fun d b hd => ?_⟩
  cases d <;> simp only [isT] at hd <;> try cases hd
  rename_i c' fs
  split at hd
  · rename_i e
    subst e
    cases hd
    exact ⟨_, rfl, hk, fun c2 _ e => by cases e; exact hi⟩
  · cases hd
theorem pE_isi {pp : Pos} {ty : Ty} {cv : V} {u : Value} (hg : Gl X "isinstance") (hm : X.mg "isinstance" = none) (hv : bootBuiltins "isinstance" = some (.builtin "isinstance")) (ht : TyOk X.K L ty cv u)
    (ha : PE X a (rdB X.K L T W ea)) (hc : PE X c (tC cv)) (he : starEach (a :: [c]) X.env = (false, eval a X.env) :: starEach [c] X.env := by rfl) (he2 : starEach (c :: []) X.env = (false, eval c X.env) :: starEach [] X.env := by rfl) (hpl : (backTo pos (starEach [c] X.env)).any (·.1) = false := by rfl) :
    PE X (.Call (.Name "isinstance" pp) [a, c] [] pos) (rdE X.K L T W (.isi [ty] ea)) :=
  (pe_callB call_isi hg hm hv (pa_cons ha (pa_cons hc pa_nil he2) he) (by decide) (by decide) he hpl).imp fun σ H Q ⟨F, G, am, om, sl, M, S, pp⟩ =>
    rd1 (r := fun x H1 Q => tCons (tC cv) tNil σ H1 fun xs H2 => rIsi X.K (x :: xs) H2 Q) M S pp fun x H' G' am' om' dx M' rx p1 => by
      unfold isA at p1
      split at p1
      · rename_i b hb
        split at hb
        · rename_i h1
          cases hb
          obtain ⟨t, h2, h3, h4⟩ := ht.kit _ _ h1
          exact ⟨x, cv, t, u, true, rfl, ht.cv, tyX_of M' rx h4 h2, h3, p1 _ H' G' am' Grow.refl M' (.bl _)⟩
        · rename_i h1
          cases hb
          obtain ⟨t, h2, h3, h4⟩ := ht.kit _ _ h1
          exact ⟨x, cv, t, u, false, rfl, ht.cv, tyX_of M' rx h4 h2, h3, p1 _ H' G' am' Grow.refl M' (.bl _)⟩
        · cases hb
      · exact p1.elim
/-! ### subscripts -/
def rIxD (K : PySem.W.Frag) (L : Lk) : R2 := fun x y H Q => ∃ F G am om dx dy E, Mem K L F G am om H ∧ RepB K L F G am dx x ∧ RepB K L F G am dy y ∧ Post K L (Rep K L) F G am (ixD dx dy om) E Q
theorem ix_D : IxR X (rIxD X.K L) := by
  rintro value slice pins s σ H x y v u Q I rx ry ⟨F, G, am, om, dx, dy, E, M, hx, hy, hp⟩ hsub
  unfold ixD at hp
  split at hp
  · obtain ⟨a, vs, rfl, ha, ra⟩ := hx.lst M
    cases hy.int
    split at hp
    · rename_i d hd
      obtain ⟨w, hw, rw'⟩ := at_v ra hd
      exact ix_list value slice pins s σ H _ _ v u Q I rx ry ⟨_, _, _, w, rfl, rfl, SqL.of ha, hw, hp _ H G am Grow.refl M rw'⟩ hsub
    · exact hp.elim
  · obtain ⟨a, vs, rfl, ha, ra⟩ := hx.tup
    cases hy.int
    split at hp
    · rename_i d hd
      obtain ⟨w, hw, rw'⟩ := at_v ra hd
      exact ix_tup value slice pins s σ H _ _ v u Q I rx ry ⟨_, _, _, w, rfl, rfl, SqT.of (M.gH _ _ ha), hw, hp _ H G am Grow.refl M rw'⟩ hsub
    · exact hp.elim
  · obtain ⟨a, vs, rfl, ha, ra⟩ := hx.scr
    cases hy.int
    split at hp
    · rename_i d hd
      obtain ⟨w, hw, rw'⟩ := at_v ra hd
      exact ix_list value slice pins s σ H _ _ v u Q I rx ry ⟨_, _, _, w, rfl, rfl, sqL_ex M.gH ha, hw, hp _ H G am Grow.refl M rw'⟩ hsub
    · exact hp.elim
  · cases hx.str
    cases hy.int
    split at hp
    · rename_i hz
      split at hp
      · rename_i d hd
        exact ix_str value slice pins s σ H _ _ v u Q I rx ry ⟨_, _, d, rfl, rfl, sz_le hz, hd, hp _ H G am Grow.refl M (.str _)⟩ hsub
      · exact hp.elim
    · exact hp.elim
  · obtain ⟨a, rfl, hk⟩ := hx.amb
    cases hy.int
    split at hp
    · rename_i ds hds
      obtain ⟨vs, ha, ra⟩ := M.obs _ _ _ hk hds
      split at hp
      · rename_i d hd
        obtain ⟨w, hw, rw'⟩ := at_v ra hd
        exact ix_list value slice pins s σ H _ _ v u Q I rx ry ⟨_, _, _, w, rfl, rfl, SqL.of ha, hw, hp _ H G am Grow.refl M rw'⟩ hsub
      · exact hp.elim
    · exact hp.elim
  · exact hp.elim
theorem pE_ix (ha : PE X a (rdB X.K L T W ea)) (hb : PE X b (rdB X.K L T W eb)) (hs : PlainIx b) : PE X (.Subscript a b pos) (rdE X.K L T W (.ix ea eb)) :=
  (pe_ix ix_D ha hb hs).imp fun σ H Q ⟨F, G, am, om, sl, M, S, pp⟩ => rd2 M S pp fun x y H' G' am' om' dx dy M' rx ry p2 => ⟨F, G', am', om', dx, dy, _, M', rx, ry, p2⟩
/-! ### slices -/
theorem pO_none : PO X none (rdO X.K L T W .nop) := po_none.imp fun σ H Q ⟨F, G, am, om, sl, M, S, pp⟩ => pp none H G am Grow.refl M rfl
theorem pO_some (ha : PE X a (rdB X.K L T W ea)) : PO X (some a) (rdO X.K L T W (.cons ea .nil)) :=
  (po_some ha).imp fun σ H Q ⟨F, G, am, om, sl, M, S, pp⟩ => ⟨F, G, am, om, sl, M, S, pp.bind fun d om1 v H1 G1 am1 g1 M1 r1 p1 => by
    split at p1
    · cases r1.int
      exact ⟨_, rfl, p1 _ H1 G1 am1 Grow.refl M1 rfl⟩
    · exact p1.elim⟩
def rSlD (K : PySem.W.Frag) (L : Lk) : V → Option Int → Option Int → Hp → VK → Prop := fun x lo hi H Q => ∃ F G am om dx E, Mem K L F G am om H ∧ RepB K L F G am dx x ∧ Post K L (Rep K L) F G am (slD dx lo hi om) E Q
theorem sl_D : L2.SlR X (rSlD X.K L) := by
  rintro pins s σ H x v vl vu lo hi sl Q I rx hs pl pu ⟨F, G, am, om, dx, E, M, hx, hp⟩
  unfold slD at hp
  split at hp
  · obtain ⟨a, vs, rfl, ha, ra⟩ := hx.lst M
    exact sl_list pins s σ H _ v vl vu lo hi sl Q I rx hs pl pu ⟨a, vs, rfl, SqL.of ha, fun q hq => hp _ _ _ am (Grow.of (M.none_g hq)) (M.new hq) (.lst upd_same ((cut_v ra).up (Grow.of (M.none_g hq))))⟩
  · obtain ⟨a, vs, rfl, ha, ra⟩ := hx.tup
    refine sl_tupA pins s σ H _ v vl vu lo hi sl Q I rx hs pl pu ⟨a, vs, rfl, SqT.of (M.gH _ _ ha), fun hw => ?_, fun _ q hq => hp _ _ _ am (Grow.of (M.none_g hq)) (M.new hq) (.tup upd_same ((cut_v ra).up (Grow.of (M.none_g hq))))⟩
    refine hp _ H G am Grow.refl M (.tup ha ?_)
    have z := cut_v (lo := lo) (hi := hi) ra
    have e : cutV vs lo hi = vs := by
      unfold cutV
      rw [hw.1, hw.2, List.drop_zero, Nat.sub_zero, List.take_length]
    rw [e] at z
    exact z
  · cases hx.str
    split at hp
    · rename_i hz
      exact sl_str pins s σ H _ v vl vu lo hi sl Q I rx hs pl pu ⟨_, rfl, sz_le hz, hp _ H G am Grow.refl M (.str _)⟩
    · exact hp.elim
  · exact hp.elim
theorem rd_sl {σ : L2.St} {H : Hp} {Q : VK} {el eh : E} {F G : Hp} {am : List Addr} {om : Om} {sl : Sl} (M : Mem X.K L F G am om H) (S : SlR X.K L F G am sl σ) (pp : Post X.K L (Rep X.K L) F G am (evE T (.sl ea el eh) sl om) (fun cv dd H => W cv dd σ H) Q) :
    tSl (rSlD X.K L) (rdB X.K L T W ea) (rdO X.K L T W el) (rdO X.K L T W eh) σ H Q :=
  ⟨F, G, am, om, sl, M, S, Post.bind pp fun dx om1 x H1 G1 am1 g1 M1 rx p1 => ⟨F, G1, am1, om1, sl, M1, S.grow g1, p1.bind fun l om2 l' H2 G2 am2 g2 M2 e p2 => by
    cases e
    exact ⟨F, G2, am2, om2, sl, M2, (S.grow g1).grow g2, p2.bind fun h om3 h' H3 G3 am3 g3 M3 e p3 => by
      cases e
      exact ⟨F, G3, am3, om3, dx, _, M3, (rx.up g2).up g3, p3⟩⟩⟩⟩
theorem pE_sl {lo hi : Option Expr} {el eh : E} {p2 : Pos} (ha : PE X a (rdB X.K L T W ea)) (hl : PO X lo (rdO X.K L T W el)) (hh : PO X hi (rdO X.K L T W eh)) : PE X (.Subscript a (.Slice lo hi none p2) pos) (rdE X.K L T W (.sl ea el eh)) :=
  (pe_slice sl_D ha hl hh).imp fun σ H Q ⟨F, G, am, om, sl, M, S, pp⟩ => rd_sl M S pp
/-! ### methods of texts -/
def Mb.py : Mb → String
  | .join => "str.join"
  | .split => "str.split"
  | .partition => "str.partition"
def rMb (K : PySem.W.Frag) (L : Lk) (m : Mb) : V → List V → Hp → VK → Prop := fun x xs H Q => ∃ F G am om s dy y E, x = .str s ∧ xs = [y] ∧ Mem K L F G am om H ∧ RepB K L F G am dy y ∧ Post K L (Rep K L) F G am (mbf m s dy om) E Q
theorem mt_mb (L : Lk) (m : Mb) : MtR X m.py (rMb X.K L m) := by
  rintro pins s σ H x xs v us Q I rx rv ⟨F, G, am, om, sx, dy, y, E, rfl, rfl, M, hy, hp⟩
  unfold mbf at hp
  split at hp
  · obtain ⟨a, vs, rfl, ha, ra⟩ := hy.lst M
    split at hp
    · rename_i ys hys
      split at hp
      · rename_i hz
        exact mt_join pins s σ H _ _ v us Q I rx rv ⟨_, a, ys, rfl, rfl, .inl (by rw [← strs_v ra hys]; exact SqL.of ha), Nat.le_trans hz (by decide), hp _ H G am Grow.refl M (.str _)⟩
      · exact hp.elim
    · exact hp.elim
  · cases hy.str
    split at hp
    · rename_i hz
      refine mt_split pins s σ H _ _ v us Q I rx rv ⟨_, _, rfl, rfl, hz.1, sz_le hz.2, fun q hq => ?_⟩
      exact hp _ _ _ am (Grow.of (M.none_g hq)) (M.new hq) (.lst upd_same (strs_rep _))
    · exact hp.elim
  · cases hy.str
    split at hp
    · rename_i hz
      refine mt_partition pins s σ H _ _ v us Q I rx rv ⟨_, _, rfl, rfl, hz.1, sz_le hz.2, fun q hq => ?_⟩
      exact hp _ _ _ am (Grow.of (M.none_g hq)) (M.new hq) (.tup upd_same (.cons (.str _) (.cons (.str _) (.cons (.str _) .nil))))
    · exact hp.elim
  · exact hp.elim
/-- o.m(a), m a method of texts -/
theorem pE_mb {name : Str} (m : Mb) (slot : Slot "str" name m.py) (ty : typeOf (.builtin m.py) = pure (.type "method_descriptor")) (ho : PE X o (rdB X.K L T W eo)) (ha : PE X a (rdB X.K L T W ea))
    (hs : starEach [a] X.env = [(false, eval a X.env)] := by rfl) (hbase : attributeBase o name X.env (eval o X.env) = eval o X.env := by rfl) (hline : (apos.endLine == pos.line) = true := by rfl) :
    PE X (.Call (.Attribute o name apos) [a] [] pos) (rdE X.K L T W (.mb m eo ea)) :=
  (pe_m1 slot ty (mt_mb L m) ho ha hs hbase hline).imp fun σ H Q ⟨F, G, am, om, sl, M, S, pp⟩ => ⟨F, G, am, om, sl, M, S, pp.bind fun dx om1 x H1 G1 am1 g1 M1 rx p1 => by
    split at p1
    · rename_i s
      cases rx.str
      exact ⟨⟨s, rfl⟩, F, G1, am1, om1, sl, M1, S.grow g1, p1.bind fun dy om2 y H2 G2 am2 g2 M2 ry p2 => ⟨F, G2, am2, om2, s, dy, y, _, rfl, rfl, M2, ry, p2⟩⟩
    · exact p1.elim⟩
def rMbF (K : PySem.W.Frag) (L : Lk) : V → List V → Hp → VK → Prop := fun x xs H Q => ∃ F G am om s dy y E, x = .str s ∧ xs = [y] ∧ Mem K L F G am om H ∧ RepB K L F G am dy y ∧ PostF K L F G am (mbf .split s dy om) E Q
theorem mt_mbF (L : Lk) : MtR X "str.split" (rMbF X.K L) := by
  rintro pins s σ H x xs v us Q I rx rv ⟨F, G, am, om, sx, dy, y, E, rfl, rfl, M, hy, hp⟩
  cases dy with
  | str b =>
    cases hy.str
    simp only [mbf] at hp
    split at hp
    · rename_i hz
      obtain ⟨ds, e, hp⟩ := hp
      cases e
      refine mt_split pins s σ H _ _ v us Q I rx rv ⟨_, _, rfl, rfl, hz.1, sz_le hz.2, fun q hq => ?_⟩
      exact hp _ _ _ _ am Grow.refl (M.none_f hq) (M.newF hq) (strs_rep _)
    · exact hp.elim
  | non => exact hp.elim
  | bl _ => exact hp.elim
  | int _ => exact hp.elim
  | lst _ => exact hp.elim
  | tup _ => exact hp.elim
  | obj _ _ => exact hp.elim
  | amb _ => exact hp.elim
  | scr _ => exact hp.elim
theorem pF_split (slot : Slot "str" "split" "str.split") (ty : typeOf (.builtin "str.split") = pure (.type "method_descriptor")) (ho : PE X o (rdB X.K L T W eo)) (ha : PE X a (rdB X.K L T W ea))
    (hs : starEach [a] X.env = [(false, eval a X.env)] := by rfl) (hbase : attributeBase o "split" X.env (eval o X.env) = eval o X.env := by rfl) (hline : (apos.endLine == pos.line) = true := by rfl) :
    PE X (.Call (.Attribute o "split" apos) [a] [] pos) (rdF X.K L T W (.mb .split eo ea)) :=
  (pe_m1 slot ty (mt_mbF L) ho ha hs hbase hline).imp fun σ H Q ⟨F, G, am, om, sl, M, S, pp⟩ => ⟨F, G, am, om, sl, M, S, pp.bind fun dx om1 x H1 G1 am1 g1 M1 rx p1 => by
    split at p1
    · rename_i s
      cases rx.str
      exact ⟨⟨s, rfl⟩, F, G1, am1, om1, sl, M1, S.grow g1, p1.bind fun dy om2 y H2 G2 am2 g2 M2 ry p2 => ⟨F, G2, am2, om2, s, dy, y, _, rfl, rfl, M2, ry, p2⟩⟩
    · exact p1.elim⟩
/-! ### f-strings -/
theorem pE_fmt {pos : Pos} (ha : PE X a (rdB X.K L T W ea)) : PE X (.FormattedValue a (-1) none pos) (fun σ H Q => ∃ F G am om sl, Mem X.K L F G am om H ∧ SlR X.K L F G am sl σ ∧ Post X.K L (fun _ _ (s : Str) v => v = .str s) F G am ((evE T ea sl om).bind fun x om => fmt T x om) (fun cv dd H => W cv dd σ H) Q) :=
  (pe_fmt ha).imp fun σ H Q ⟨F, G, am, om, sl, M, S, pp⟩ => ⟨F, G, am, om, sl, M, S, pp.bind fun d om1 v H1 G1 am1 g1 M1 r1 p1 => by
    unfold fmt at p1
    split at p1
    · cases r1.str
      split at p1
      · rename_i hz
        exact .inl ⟨_, rfl, sz_le hz, p1 _ H1 G1 am1 Grow.refl M1 rfl⟩
      · exact p1.elim
    · cases r1.int
      split at p1
      · rename_i hz
        exact .inr ⟨_, rfl, hz, p1 _ H1 G1 am1 Grow.refl M1 rfl⟩
      · exact p1.elim
    · exact p1.elim⟩

/-- a part of an f-string -/
abbrev rdP (K : PySem.W.Frag) (L : Lk) (T : Tb) (W : WX) (ee : E) : TE := fun σ H Q => ∃ F G am om sl, Mem K L F G am om H ∧ SlR K L F G am sl σ ∧ Post K L (fun _ _ (s : Str) v => v = .str s) F G am ((evE T ee sl om).bind fun x om => fmt T x om) (fun cv dd H => W cv dd σ H) Q
theorem pP_str {x : Str} {k : Nat} {pos : Pos} : PE X (.Constant (.str x) k pos) (rdP X.K L T W (.k (.str x))) :=
  pe_str.imp fun σ H Q ⟨F, G, am, om, sl, M, S, pp⟩ => by
    have e : ((evE T (.k (.str x)) sl om).bind fun x om => fmt T x om) = if x.length ≤ 1000000 then .ok x om else .stuck := rfl
    rw [e] at pp
    split at pp
    · exact pp _ H G am Grow.refl M rfl
    · exact pp.elim
def PJr (X : Cx) (L : Lk) (T : Tb) (W : WX) (es : List Expr) (ee : E) : Prop := ∃ ts, PJ X es ts ∧ ∀ (acc : Str) σ H (Q : Str → Hp → Prop), (∃ F G am om sl, Mem X.K L F G am om H ∧ SlR X.K L F G am sl σ ∧ Post X.K L (fun _ _ (s : Str) v => v = s) F G am (evJ T ee acc sl om) (fun cv dd H => W cv dd σ H) Q) → tJs ts acc σ H Q
theorem pJ_nil : PJr X L T W [] .nil := ⟨[], .nil, fun acc σ H Q ⟨F, G, am, om, sl, M, S, pp⟩ => pp acc H G am Grow.refl M rfl⟩
theorem rs_assoc {α β γ : Type} (r : Rs α) (f : α → Om → Rs β) (g : β → Om → Rs γ) : (r.bind fun x om => (f x om).bind g) = (r.bind f).bind g := by cases r <;> rfl
theorem pJ_cons {e : Expr} {es : List Expr} {ea er : E} (h : PE X e (rdP X.K L T W ea)) (hr : PJr X L T W es er) : PJr X L T W (e :: es) (.cons ea er) := by
  obtain ⟨ts, hj, ht⟩ := hr
  refine ⟨_, .cons h hj, fun acc σ H Q ⟨F, G, am, om, sl, M, S, pp⟩ => ⟨F, G, am, om, sl, M, S, ?_⟩⟩
  have e : evJ T (.cons ea er) acc sl om = ((evE T ea sl om).bind fun x om => fmt T x om).bind fun y om => if (acc ++ y).length ≤ 1000000 then evJ T er (acc ++ y) sl om else .stuck := by
    rw [evJ, ← rs_assoc]
  rw [e] at pp
  refine pp.bind fun y om1 v H1 G1 am1 g1 M1 r1 p1 => ?_
  split at p1
  · rename_i hz
    exact ⟨y, r1, sz_le hz, ht _ σ H1 Q ⟨F, G1, am1, om1, sl, M1, S.grow g1, p1⟩⟩
  · exact p1.elim
theorem empty_eq : (Str.empty : Str) = ⟨#[]⟩ := rfl
theorem pE_fstr {v1 v2 : Expr} {rest : List Expr} {er : E} {pos : Pos} (h : PJr X L T W (v1 :: v2 :: rest) er) : PE X (.JoinedStr (v1 :: v2 :: rest) pos) (rdE X.K L T W (.fstr er)) := by
  obtain ⟨ts, hj, ht⟩ := h
  refine (pe_joined hj).imp fun σ H Q ⟨F, G, am, om, sl, M, S, pp⟩ => ht _ σ H _ ⟨F, G, am, om, sl, M, S, ?_⟩
  have e : evE T (.fstr er) sl om = (evJ T er (⟨#[]⟩ : Str) sl om).bind fun s om => .ok (.str s) om := by rw [evE]
  rw [e] at pp
  exact pp.bind fun s om1 v H1 G1 am1 g1 M1 r1 p1 => by
    rw [r1]
    exact p1 _ H1 G1 am1 Grow.refl M1 (.str s)
end
end PD

set_option Elab.async false
set_option linter.all false
set_option maxRecDepth 100000
set_option maxHeartbeats 400000
/-! PDI: what loops walk; targets; list comprehensions. -/
namespace PD
open PySem PySem.Spec PyProof.Rows L2
/-! ### what is walked -/
structure Yl (K : PySem.W.Frag) (L : Lk) (P : Hp → Prop) (G : Hp) (am : List Addr) (J : It) (ds : List D) : Prop where
  go : ∀ (i : Nat) (d : D) F' G' am' om' H', ds[i]? = some d → P F' → Grow G am G' am' → Mem K L F' G' am' om' H' → J.go i H' ∧ ∀ x H3, J.yld i H' x H3 → ∃ G3, Grow G' am' G3 am' ∧ Mem K L F' G3 am' om' H3 ∧ Rep K L G3 am' d x
  stop : ∀ F' G' am' om' H', P F' → Grow G am G' am' → Mem K L F' G' am' om' H' → J.stop ds.length H'
def PostI (K : PySem.W.Frag) (L : Lk) (P : Hp → Hp → Prop) (F G : Hp) (am : List Addr) (r : Rs (List D)) (E : XK) (R : It → Hp → Prop) : Prop := match r with
  | .stuck => False
  | .ok ds om' => ∀ J H' G' am', Grow G am G' am' → Mem K L F G' am' om' H' → Yl K L (P F) G' am' J ds → R J H'
  | .exc c fs om' => ∀ cv dd H' G' am', Grow G am G' am' → Mem K L F G' am' om' H' → ExcR K L G' am' c fs cv dd → E cv dd H'
/-- any others' objects | at least those of the entry -/
def pAny : Hp → Hp → Prop := fun _ _ => True
def rdI (K : PySem.W.Frag) (L : Lk) (T : Tb) (W : WX) (P : Hp → Hp → Prop) (e : E) : TI := fun σ H R => ∃ F G am om sl, Mem K L F G am om H ∧ SlR K L F G am sl σ ∧ PostI K L P F G am (evI T e sl om) (fun cv dd H => W cv dd σ H) R
section
variable {K : PySem.W.Frag} {L : Lk} {F F' G G' H : Hp} {am am' : List Addr} {om : Om} {E : XK} {R : It → Hp → Prop}
theorem PostI.grow {P : Hp → Hp → Prop} {r : Rs (List D)} (g : Grow G am G' am') (h : PostI K L P F G am r E R) : PostI K L P F G' am' r E R := by
  cases r with
  | stuck => exact h
  | ok a om' => exact fun J H' G'' am'' g' => h J H' G'' am'' (g.trans g')
  | exc c fs om' => exact fun cv dd H' G'' am'' g' => h cv dd H' G'' am'' (g.trans g')
theorem PostI.bind {P : Hp → Hp → Prop} {α β : Type} {Rr : Hp → List Addr → α → β → Prop} {r : Rs α} {Q : β → Hp → Prop} {f : α → Om → Rs (List D)} (h : PostI K L P F G am (r.bind f) E R)
    (k : ∀ a om1 b H1 G1 am1, Grow G am G1 am1 → Mem K L F G1 am1 om1 H1 → Rr G1 am1 a b → PostI K L P F G1 am1 (f a om1) E R → Q b H1) : Post K L Rr F G am r E Q := by
  cases r with
  | stuck => exact h
  | ok a om1 => exact fun b H1 G1 am1 g M rr => k a om1 b H1 G1 am1 g M rr (PostI.grow g h)
  | exc c fs om1 => exact h
theorem SqL.inj2 {K : PySem.W.Frag} {H : Hp} {a : Addr} {xs ys : List V} (h : H a = some (.lst xs)) (h' : SqL K H a ys) (hk : ∀ o, K.lookup a ≠ some o) : ys = xs := by
  rcases h' with (h' | ⟨o, h'⟩) | ⟨o, _, _, h', _⟩
  · rw [h] at h'; cases h'; rfl
  · rw [h] at h'; cases h'
  · exact absurd h' (hk o)
end
section
variable {X : Cx} {L : Lk} {p : Prog} {fi : Nat → FI} {n wf : Nat} {W : WX} {T : Tb} {a b c e o iter tg elt : Expr} {es : List Expr} {ea eb ec eo er : E} {pos apos cpos spos : Pos}
/-- a list at a, for good or held alone -/
theorem yl_list {K : PySem.W.Frag} {P : Hp → Prop} {G : Hp} {am : List Addr} {q : Addr} {ds : List D} {vs : List V} (h : ∀ F' G' am' om' H', P F' → Grow G am G' am' → Mem K L F' G' am' om' H' → SqL K H' q vs) (r : RepL K L G am ds vs) : Yl K L P G am (Itl K q) ds := by
  refine ⟨fun i d F' G' am' om' H' hd hP g M => ?_, fun F' G' am' om' H' hP g M => ⟨vs, h _ _ _ _ _ hP g M, by rw [← r.length]; exact Nat.le_refl _⟩⟩
  obtain ⟨v, hv, rv⟩ := r.get hd
  refine ⟨⟨vs, v, h _ _ _ _ _ hP g M, hv⟩, fun x H3 hy => ?_⟩
  obtain ⟨rfl, hx⟩ := hy
  have e := hx vs (h _ _ _ _ _ hP g M)
  rw [hv] at e
  cases e
  exact ⟨G', Grow.refl, M, rv.up g⟩
theorem yl_tup {K : PySem.W.Frag} {P : Hp → Prop} {G : Hp} {am : List Addr} {q : Addr} {ds : List D} {vs : List V} (h : G q = some (.tup vs)) (r : RepL K L G am ds vs) : Yl K L P G am (Itt K q) ds := by
  refine ⟨fun i d F' G' am' om' H' hd hP g M => ?_, fun F' G' am' om' H' hP g M => ⟨vs, SqT.of (M.gH _ _ (g.ex _ _ h)), by rw [← r.length]; exact Nat.le_refl _⟩⟩
  obtain ⟨v, hv, rv⟩ := r.get hd
  refine ⟨⟨vs, v, SqT.of (M.gH _ _ (g.ex _ _ h)), hv⟩, fun x H3 hy => ?_⟩
  obtain ⟨rfl, hx⟩ := hy
  have e := hx vs (SqT.of (M.gH _ _ (g.ex _ _ h)))
  rw [hv] at e
  cases e
  exact ⟨G', Grow.refl, M, rv.up g⟩
theorem yl_str {K : PySem.W.Frag} {P : Hp → Prop} {G : Hp} {am : List Addr} (s : Str) : Yl K L P G am (Its s) (s.cps.toList.map fun c => .str ⟨#[c]⟩) := by
  refine ⟨fun i d F' G' am' om' H' hd hP g M => ?_, fun F' G' am' om' H' hP g M => by rw [List.length_map, Array.length_toList]; exact Nat.le_refl s.cps.size⟩
  rw [List.getElem?_map] at hd
  cases q : s.cps.toList[i]? with
  | none => rw [q] at hd; cases hd
  | some c =>
    rw [q] at hd
    cases hd
    have hi : i < s.cps.size := by
      have := (List.getElem?_eq_some_iff.mp q).1
      rwa [Array.length_toList] at this
    refine ⟨hi, fun x H3 hy => ?_⟩
    obtain ⟨rfl, c', hc', rfl⟩ := hy
    have e : c' = c := by
      rw [Array.getElem?_toList] at q
      rw [q] at hc'
      exact (Option.some.inj hc').symm
    subst e
    exact ⟨G', Grow.refl, M, .str _⟩
/-- a list, a tuple, a text: read for a moment -/
theorem pI_b (ha : PE X iter (rdB X.K L T W ea)) : PI X tg iter (rdI X.K L T W Ex (.itl ea)) :=
  ((pi_list ha).alt ((pi_tup ha).alt (pi_str ha))).imp fun σ H R ⟨F, G, am, om, sl, M, S, pp⟩ => by
    cases q : evE T ea sl om with
    | stuck =>
      simp only [evI, q, bind_stuck] at pp
      exact pp.elim
    | exc c fs om1 =>
      refine .inl ⟨F, G, am, om, sl, M, S, ?_⟩
      simp only [evI, q, bind_exc] at pp
      rw [q]
      exact pp
    | ok d om1 =>
      simp only [evI, q, bind_ok] at pp
      cases d with
      | lst ds =>
        refine .inl ⟨F, G, am, om, sl, M, S, ?_⟩
        rw [q]
        intro v H1 G1 am1 g1 M1 r1
        rcases r1 with r1 | ⟨a', vs, ds', e1, rfl, hF, ra⟩
        · cases r1 with
          | lst h r =>
            exact ⟨_, rfl, ⟨_, SqL.of (M1.gH _ _ h)⟩, pp _ H1 G1 am1 g1 M1 (yl_list (fun F' G' am' om' H' _ g M' => SqL.of (M'.gH _ _ (g.ex _ _ h))) r)⟩
        · cases e1
          exact ⟨_, rfl, ⟨_, SqL.of (M1.fH _ _ hF)⟩, pp _ H1 G1 am1 g1 M1 (yl_list (fun F' G' am' om' H' hP g M' => SqL.of (M'.fH _ _ (hP _ _ hF))) ra)⟩
      | scr ds =>
        refine .inl ⟨F, G, am, om, sl, M, S, ?_⟩
        rw [q]
        intro v H1 G1 am1 g1 M1 r1
        obtain ⟨a', vs, rfl, h, r⟩ := r1.scr
        exact ⟨_, rfl, ⟨_, sqL_ex M1.gH h⟩, pp _ H1 G1 am1 g1 M1 (yl_list (fun F' G' am' om' H' _ g M' => sqL_ex (g.ex.trans M'.gH) h) r)⟩
      | tup ds =>
        refine .inr (.inl ⟨F, G, am, om, sl, M, S, ?_⟩)
        rw [q]
        intro v H1 G1 am1 g1 M1 r1
        obtain ⟨a', vs, rfl, h, r⟩ := r1.tup
        exact ⟨_, rfl, ⟨_, SqT.of (M1.gH _ _ h)⟩, pp _ H1 G1 am1 g1 M1 (yl_tup h r)⟩
      | str s =>
        refine .inr (.inr ⟨F, G, am, om, sl, M, S, ?_⟩)
        rw [q]
        intro v H1 G1 am1 g1 M1 r1
        cases r1.str
        exact ⟨s, rfl, pp _ H1 G1 am1 g1 M1 (yl_str s)⟩
      | non => exact pp.elim
      | bl _ => exact pp.elim
      | int _ => exact pp.elim
      | obj _ _ => exact pp.elim
      | amb _ => exact pp.elim
theorem pI_e (ha : PE X iter (rdE X.K L T W ea)) : PI X tg iter (rdI X.K L T W pAny (.itl ea)) :=
  ((pi_list ha).alt ((pi_tup ha).alt (pi_str ha))).imp fun σ H R ⟨F, G, am, om, sl, M, S, pp⟩ => by
    cases q : evE T ea sl om with
    | stuck =>
      simp only [evI, q, bind_stuck] at pp
      exact pp.elim
    | exc c fs om1 =>
      refine .inl ⟨F, G, am, om, sl, M, S, ?_⟩
      simp only [evI, q, bind_exc] at pp
      rw [q]
      exact pp
    | ok d om1 =>
      simp only [evI, q, bind_ok] at pp
      cases d with
      | lst ds =>
        refine .inl ⟨F, G, am, om, sl, M, S, ?_⟩
        rw [q]
        intro v H1 G1 am1 g1 M1 r1
        cases r1 with
        | lst h r =>
          exact ⟨_, rfl, ⟨_, SqL.of (M1.gH _ _ h)⟩, pp _ H1 G1 am1 g1 M1 (yl_list (fun F' G' am' om' H' _ g M' => SqL.of (M'.gH _ _ (g.ex _ _ h))) r)⟩
      | scr ds =>
        refine .inl ⟨F, G, am, om, sl, M, S, ?_⟩
        rw [q]
        intro v H1 G1 am1 g1 M1 r1
        cases r1 with
        | scr h r =>
          exact ⟨_, rfl, ⟨_, sqL_ex M1.gH h⟩, pp _ H1 G1 am1 g1 M1 (yl_list (fun F' G' am' om' H' _ g M' => sqL_ex (g.ex.trans M'.gH) h) r)⟩
      | tup ds =>
        refine .inr (.inl ⟨F, G, am, om, sl, M, S, ?_⟩)
        rw [q]
        intro v H1 G1 am1 g1 M1 r1
        cases r1 with
        | tup h r =>
          exact ⟨_, rfl, ⟨_, SqT.of (M1.gH _ _ h)⟩, pp _ H1 G1 am1 g1 M1 (yl_tup h r)⟩
      | str s =>
        refine .inr (.inr ⟨F, G, am, om, sl, M, S, ?_⟩)
        rw [q]
        intro v H1 G1 am1 g1 M1 r1
        cases r1
        exact ⟨s, rfl, pp _ H1 G1 am1 g1 M1 (yl_str s)⟩
      | non => exact pp.elim
      | bl _ => exact pp.elim
      | int _ => exact pp.elim
      | obj _ _ => exact pp.elim
      | amb _ => exact pp.elim
theorem yl_range {K : PySem.W.Frag} {P : Hp → Prop} {G : Hp} {am : List Addr} (lo : Int) (m : Nat) : Yl K L P G am (Itr lo m) ((List.range m).map fun (k : Nat) => .int (lo + k)) := by
  refine ⟨fun i d F' G' am' om' H' hd hP g M => ?_, fun F' G' am' om' H' hP g M => by rw [List.length_map, List.length_range]; exact Nat.le_refl m⟩
  rw [List.getElem?_map] at hd
  cases q : (List.range m)[i]? with
  | none => rw [q] at hd; cases hd
  | some c =>
    rw [q] at hd
    cases hd
    have hi : i < m := by
      have := (List.getElem?_eq_some_iff.mp q).1
      rwa [List.length_range] at this
    have ec : c = i := by
      rw [List.getElem?_range hi] at q
      exact (Option.some.inj q).symm
    subst ec
    refine ⟨hi, fun x H3 hy => ?_⟩
    obtain ⟨rfl, rfl⟩ := hy
    exact ⟨G', Grow.refl, M, .int _⟩
theorem pI_rng1 {P : Hp → Hp → Prop} {pp : Pos} (hg : Gl X "range") (hm : X.mg "range" = none) (ha : PE X a (rdB X.K L T W ea)) (hs : starEach [a] X.env = [(false, eval a X.env)] := by rfl) : PI X tg (.Call (.Name "range" pp) [a] [] pos) (rdI X.K L T W P (.rng1 ea)) :=
  (pi_range1 hg hm (pA1 ha hs) hs).imp fun σ H R ⟨F, G, am, om, sl, M, S, pp⟩ => ⟨F, G, am, om, sl, M, S, PostI.bind pp fun d om1 v H1 G1 am1 g1 M1 r1 p1 => by
    split at p1
    · cases r1.int
      split at p1
      · rename_i hz
        refine ⟨_, rfl, hz.1, hz.2, p1 _ H1 G1 am1 Grow.refl M1 ?_⟩
        have z := yl_range (K := X.K) (L := L) (P := P F) (G := G1) (am := am1) 0 (Int.toNat ‹Int›)
        simpa using z
      · exact p1.elim
    · exact p1.elim⟩
theorem pI_rng2 {P : Hp → Hp → Prop} {pp : Pos} (hg : Gl X "range") (hm : X.mg "range" = none) (ha : PE X a (rdB X.K L T W ea)) (hb : PE X b (rdB X.K L T W eb)) (hs : starEach [a, b] X.env = [(false, eval a X.env), (false, eval b X.env)] := by rfl) (hs2 : starEach [b] X.env = [(false, eval b X.env)] := by rfl) :
    PI X tg (.Call (.Name "range" pp) [a, b] [] pos) (rdI X.K L T W P (.rng2 ea eb)) :=
  (pi_range2 hg hm (pa_cons ha (pA1 hb hs2) (by rw [hs, hs2])) hs hs2).imp fun σ H R ⟨F, G, am, om, sl, M, S, pp⟩ => ⟨F, G, am, om, sl, M, S, PostI.bind pp fun d om1 v H1 G1 am1 g1 M1 r1 p1 => ⟨F, G1, am1, om1, sl, M1, S.grow g1, PostI.bind p1 fun d2 om2 v2 H2 G2 am2 g2 M2 r2 p2 => by
    split at p2
    · cases (r1.up g2).int
      cases r2.int
      split at p2
      · rename_i hz
        exact ⟨_, _, rfl, ⟨hz.1.1, hz.1.2, hz.2.1, hz.2.2⟩, p2 _ H2 G2 am2 Grow.refl M2 (yl_range _ _)⟩
      · exact p2.elim
    · exact p2.elim⟩⟩
/-! ### targets -/
theorem wipe_set {σ : L2.St} {i : Nat} {o : Option V} : ∀ {vs : List Nat}, i ∈ vs → wipe (σ.set i o) vs = wipe σ vs
  | v :: vs, h => by
    show (wipe (σ.set i o) vs).set v none = (wipe σ vs).set v none
    by_cases c : i ∈ vs
    · rw [wipe_set c]
    · have e : i = v := by
        cases h with
        | head => rfl
        | tail _ h => exact absurd h c
      subst e
      have z : ∀ (us : List Nat), i ∉ us → wipe (σ.set i o) us = (wipe σ us).set i o := by
        intro us
        induction us with
        | nil => intro _; rfl
        | cons u us ih =>
          intro hn
          show (wipe (σ.set i o) us).set u none = ((wipe σ us).set u none).set i o
          rw [ih (fun m => hn (List.mem_cons_of_mem _ m)), List.set_comm _ _ (fun q => hn (by rw [q]; exact List.mem_cons_self))]
      rw [z vs c, List.set_set]
structure TgOk (K : PySem.W.Frag) (L : Lk) (g : TG) (tg : Tg) : Prop where
  run : ∀ F G am om H sl σ d x sl' Q, Mem K L F G am om H → SlR K L F G am sl σ → Rep K L G am d x → setT sl tg d = some sl' → (∀ σ', SlR K L F G am sl' σ' → (∀ vs, (∀ i ∈ tgIx tg, i ∈ vs) → wipe σ' vs = wipe σ vs) → Q σ' H) → g x σ H Q
theorem tg_one {K : PySem.W.Frag} {i : Nat} : TgOk K L (gName i) (.one i) := ⟨fun F G am om H sl σ d x sl' Q M S r h k => by
  cases h
  exact k _ (S.set ⟨x, rfl, r⟩) fun vs hv => wipe_set (hv i (List.mem_singleton.mpr rfl))⟩
structure TgsOk (K : PySem.W.Frag) (L : Lk) (g : TGs) (is : List Nat) : Prop where
  run : ∀ F G am om H sl σ ds xs Q, Mem K L F G am om H → SlR K L F G am sl σ → RepL K L G am ds xs → ds.length = is.length → (∀ σ', SlR K L F G am (sets sl is ds) σ' → (∀ vs, (∀ i ∈ is, i ∈ vs) → wipe σ' vs = wipe σ vs) → Q σ' H) → g xs σ H Q
theorem tgs_nil {K : PySem.W.Frag} : TgsOk K L gNil [] := ⟨fun F G am om H sl σ ds xs Q M S r h k => by
  cases r with
  | nil => exact ⟨rfl, k σ S fun _ _ => rfl⟩
  | cons _ _ => cases h⟩
theorem tgs_cons {K : PySem.W.Frag} {i : Nat} {is : List Nat} {g : TGs} (h : TgsOk K L g is) : TgsOk K L (gCons (gName i) g) (i :: is) := ⟨fun F G am om H sl σ ds xs Q M S r hl k => by
  cases r with
  | nil => cases hl
  | @cons d v ds vs hd r =>
    refine ⟨v, vs, rfl, h.run F G am om H (sl.set i (.val d)) _ ds vs Q M (S.set ⟨v, rfl, hd⟩) r (by simpa using hl) fun σ' S' hw => k σ' S' fun us hu => ?_⟩
    rw [hw us (fun j hj => hu j (List.mem_cons_of_mem _ hj)), wipe_set (hu i List.mem_cons_self)]⟩
theorem tg_many {K : PySem.W.Frag} {is : List Nat} {g : TGs} (h : TgsOk K L g is) : TgOk K L (gTup K is.length g) (.many is) := ⟨fun F G am om H sl σ d x sl' Q M S r hs k => by
  cases d with
  | tup ds =>
    simp only [setT] at hs
    split at hs
    · rename_i hl
      cases hs
      cases r with
      | tup ht r =>
        exact ⟨_, _, rfl, SqT.of (M.gH _ _ ht), by rw [← r.length]; exact hl, h.run F G am om H sl σ ds _ Q M S r hl k⟩
    · cases hs
  | _ => cases hs⟩
theorem SlR.monoF {K : PySem.W.Frag} {F F' G : Hp} {am : List Addr} {sl : Sl} {σ : L2.St} (e : Ex F F') (h : SlR K L F G am sl σ) : SlR K L F' G am sl σ := ⟨h.1, fun i c o a b => by
  have z := h.2 i c o a b
  cases c with
  | no => trivial
  | val d => exact z
  | own ds =>
    obtain ⟨a, vs, e1, f, r⟩ := z
    exact ⟨a, vs, e1, e _ _ f, r⟩
  | newo c fs =>
    obtain ⟨a, dx, vs, e1, f, n, r⟩ := z
    exact ⟨a, dx, vs, e1, e _ _ f, n, r⟩
  | exn => exact z⟩
theorem SlR.wipe {K : PySem.W.Frag} {F G : Hp} {am : List Addr} {sl : Sl} {σ : L2.St} (h : SlR K L F G am sl σ) : ∀ vs : List Nat, SlR K L F G am (wipeS sl vs) (L2.wipe σ vs)
  | [] => h
  | v :: vs => (SlR.wipe h vs).set trivial
theorem wipe_get : ∀ (vs : List Nat) (σ : L2.St) (i : Nat), (L2.wipe σ vs)[i]? = if i ∈ vs then (σ[i]?).map (fun _ => none) else σ[i]?
  | [], σ, i => by simp [L2.wipe]
  | v :: vs, σ, i => by
    show ((L2.wipe σ vs).set v none)[i]? = _
    by_cases c : v = i
    · subst c
      rw [if_pos List.mem_cons_self, List.getElem?_set]
      rw [if_pos rfl]
      by_cases h : v < (L2.wipe σ vs).length
      · rw [if_pos h]
        have h2 : v < σ.length := by rwa [wipe_length] at h
        rw [List.getElem?_eq_getElem h2]
        rfl
      · rw [if_neg h]
        have h2 : ¬ v < σ.length := by rwa [wipe_length] at h
        rw [List.getElem?_eq_none (by omega)]
        rfl
    · rw [List.getElem?_set_ne c, wipe_get vs σ i]
      by_cases h : i ∈ vs
      · rw [if_pos h, if_pos (List.mem_cons_of_mem _ h)]
      · rw [if_neg h, if_neg (fun z => by
          cases z with
          | head => exact c rfl
          | tail _ z => exact h z)]
theorem wipe_wipe (vs : List Nat) (σ : L2.St) : L2.wipe (L2.wipe σ vs) vs = L2.wipe σ vs := by
  apply List.ext_getElem?
  intro i
  rw [wipe_get, wipe_get]
  by_cases h : i ∈ vs
  · rw [if_pos h, if_pos h]
    cases σ[i]? <;> rfl
  · rw [if_neg h, if_neg h]
theorem compGo_noexc {ct : Sl → Om → Rs Bool} {el : Sl → Om → Rs D} {t : Tg} {sl : Sl} : ∀ {ds : List D} {om : Om} {c : Nat} {fs : List D} {om' : Om}, compGo ct el t sl ds om ≠ .exc c fs om'
  | [], om, c, fs, om', h => by simp [compGo] at h
  | d :: ds, om, c, fs, om', h => by
    simp only [compGo] at h
    split at h
    · cases h
    · split at h
      · split at h
        · split at h
          · cases h
          · cases h
        · cases h
      · exact compGo_noexc h
      · cases h
/-! ### list comprehensions -/
abbrev W0 : WX := fun _ _ _ _ => False
theorem post_ok {α β : Type} {K : PySem.W.Frag} {R : Hp → List Addr → α → β → Prop} {F G : Hp} {am : List Addr} {a : α} {om' : Om} {r : Rs α} {E : XK} {Q : β → Hp → Prop} (e : r = .ok a om') (h : ∀ b H' G' am', Grow G am G' am' → Mem K L F G' am' om' H' → R G' am' a b → Q b H') : Post K L R F G am r E Q := by
  rw [e]
  exact h
theorem lc_of {g : TG} {tt : TT} {t : Tg} {it cond el : E} (hT : TgOk X.K L g t) (htt : ∀ σ H Q, rdT X.K L T W0 cond σ H Q → tt σ H Q) (σ : L2.St) (H : Hp) (Q : VK) (h : rdF X.K L T W (.comp t it cond el) σ H Q) :
    tLc (rdI X.K L T W Ex it) g tt (rdE X.K L T W0 el) (tgIx t) σ H Q := by
  obtain ⟨F, G, am, om, sl, M, S, pp⟩ := h
  refine ⟨F, G, am, om, sl, M, S, ?_⟩
  simp only [evE] at pp
  cases q : evI T it sl om with
  | stuck => rw [q] at pp; exact pp
  | exc c fs om1 => rw [q] at pp; exact pp
  | ok ds om1 =>
    rw [q, bind_ok] at pp
    intro J H1 G1 am1 g1 M1 Y Da hDa
    split at pp
    · rename_i hlen
      cases q2 : compGo (fun sl om => (evE T cond sl om).bind fun x om => tru x om) (evE T el) t (wipeS sl (tgIx t)) ds om1 with
      | stuck => rw [q2] at pp; exact pp.elim
      | exc c fs om2 => 
        exact absurd q2 compGo_noexc
      | ok tot omf =>
        rw [q2, bind_ok] at pp
        obtain ⟨tot', et, pp⟩ := pp
        cases et
        have hF0 : F Da = none := M1.none_f hDa
        have eF : ∀ o, Ex F (upd F Da o) := fun o => Ex.new hF0
        refine ⟨fun i m H' => m = ds.length - i ∧ i ≤ ds.length ∧ ∃ G' am' om' acc xs ys, Grow G1 am1 G' am' ∧ Mem X.K L (upd F Da (.lst acc)) G' am' om' H' ∧ RepL X.K L G' am' xs acc ∧ acc.length ≤ i ∧
          compGo (fun sl om => (evE T cond sl om).bind fun x om => tru x om) (evE T el) t (wipeS sl (tgIx t)) (ds.drop i) om' = .ok ys omf ∧ xs ++ ys = tot, ⟨ds.length, by omega, by omega, G1, am1, om1, [], [], tot, Grow.refl, M1.newF hDa, .nil, Nat.le_refl _, by rw [List.drop_zero]; exact q2, rfl⟩, ?_⟩
        rintro i m H' ⟨hm, hi', G', am', om', acc, xs, ys, g', M', rx, hacc, hgo, htot⟩
        by_cases hlt : i < ds.length
        · right
          have hd : ds[i]? = some ds[i] := List.getElem?_eq_getElem hlt
          obtain ⟨ygo, yyl⟩ := Y.go i ds[i] _ G' am' om' H' hd (eF _) g' M'
          refine ⟨ygo, _, fun H'' hn => ⟨ds.length - (i + 1), by omega, hn⟩, fun x H3 hy => ?_⟩
          obtain ⟨G3, g3, M3, r3⟩ := yyl x H3 hy
          rw [List.drop_eq_getElem_cons hlt] at hgo
          simp only [compGo] at hgo
          split at hgo
          · cases hgo
          · rename_i sl' hset
            have S0 : SlR X.K L (upd F Da (.lst acc)) G3 am' (wipeS sl (tgIx t)) (L2.wipe σ (tgIx t)) := (((S.monoF (eF _)).grow g1).grow (g'.trans g3)).wipe _
            refine hT.run _ G3 am' om' H3 _ _ ds[i] x sl' _ M3 S0 r3 hset fun σ2 S2 hw => ⟨?_, ?_⟩
            · rw [hw (tgIx t) (fun _ h => h), wipe_wipe]
            · refine htt σ2 H3 _ ⟨_, G3, am', om', sl', M3, S2, ?_⟩
              have eT : ((evE T cond sl' om').bind fun x om => tru x om) = evT T cond sl' om' := rfl
              rw [eT] at hgo
              cases q3 : evT T cond sl' om' with
              | stuck => rw [q3] at hgo; cases hgo
              | exc c fs om3 => rw [q3] at hgo; cases hgo
              | ok bb om3 =>
                rw [q3] at hgo
                intro b' H4 G4 am4 g4 M4 e4
                cases e4
                cases bb with
                | true =>
                  rw [if_pos rfl]
                  dsimp only at hgo
                  cases q4 : evE T el sl' om3 with
                  | stuck => rw [q4] at hgo; cases hgo
                  | exc c fs om4 => rw [q4] at hgo; cases hgo
                  | ok y om4 =>
                    rw [q4] at hgo
                    dsimp only at hgo
                    split at hgo
                    · rename_i ys' om5 q5
                      cases hgo
                      refine ⟨_, G4, am4, om3, sl', M4, S2.grow g4, post_ok q4 fun v H5 G5 am5 g5 M5 r5 => ?_⟩
                      refine ⟨acc, M5.fH _ _ upd_same, sz_lt (by omega), rfl, hlt, G5, am5, om4, acc ++ [v], xs ++ [y], ys', g'.trans (g3.trans (g4.trans g5)), ?_, (rx.up (g3.trans (g4.trans g5))).append (.cons r5 .nil), by rw [List.length_append]; simpa using hacc, q5, by rw [List.append_assoc]; exact htot⟩
                      have z := M5.setF (u := .lst (acc ++ [v])) upd_same
                      rw [upd_upd] at z
                      exact z
                    · cases hgo
                | false =>
                  rw [if_neg (by decide)]
                  dsimp only at hgo
                  exact ⟨rfl, hlt, G4, am4, om3, acc, xs, ys, g'.trans (g3.trans g4), M4, rx.up (g3.trans g4), by omega, hgo, htot⟩
        · left
          have e : i = ds.length := by omega
          subst e
          rw [List.drop_length] at hgo
          simp only [compGo] at hgo
          cases hgo
          rw [List.append_nil] at htot
          subst htot
          exact ⟨Y.stop _ G' am' _ H' (eF _) g' M', pp Da acc H' G' am' (g1.trans g') hF0 M' rx⟩
    · exact pp.elim
theorem comp_lst {t : Tg} {it cond el : E} (sl : Sl) (om : Om) (d : D) (om' : Om) (h : evE T (.comp t it cond el) sl om = .ok d om') : ∃ ds, d = .lst ds := by
  simp only [evE] at h
  cases q : evI T it sl om with
  | stuck => rw [q] at h; cases h
  | exc c fs om1 => rw [q] at h; cases h
  | ok ds om1 =>
    rw [q, bind_ok] at h
    split at h
    · generalize compGo _ _ _ _ _ _ = r at h
      cases r with
      | stuck => cases h
      | exc c fs om2 => cases h
      | ok xs om2 => cases h; exact ⟨_, rfl⟩
    · cases h
theorem lc_ofE {g : TG} {tt : TT} {t : Tg} {it cond el : E} (hT : TgOk X.K L g t) (htt : ∀ σ H Q, rdT X.K L T W0 cond σ H Q → tt σ H Q) (σ : L2.St) (H : Hp) (Q : VK) (h : rdE X.K L T W (.comp t it cond el) σ H Q) :
    tLc (rdI X.K L T W Ex it) g tt (rdE X.K L T W0 el) (tgIx t) σ H Q := lc_of hT htt σ H Q (rdE_F comp_lst h)
theorem pF_comp {ifs : List Expr} {scope : Scope} {own : List (Str × Nat)} {g : TG} {tt : TT} {t : Tg} {it cond el : E} (hc : X.calm = true) (hN : X.N.Nodup) (hi : PI X tg iter (rdI X.K L T W Ex it)) (ok : BlkOk X.N X.env.scope scope own) (ho : own.map (·.2) = tgIx t) (hT : TgOk X.K L g t)
    (htt : ∀ σ H Q, rdT X.K L T W0 cond σ H Q → tt σ H Q)
    (hg : ∀ (s : Shared) (H : Hp) (C : Addr) (cl : List (Str × Addr)) (fp : List Addr), PG (X.blk s H scope (compEnvC scope cl C X.env) fp) tg g)
    (ht : ∀ (s : Shared) (H : Hp) (C : Addr) (cl : List (Str × Addr)) (fp : List Addr), PTs (X.blk s H scope (compEnvC scope cl C X.env) fp) ifs tt)
    (he : ∀ (s : Shared) (H : Hp) (C : Addr) (cl : List (Str × Addr)) (fp : List Addr), PE (X.blk s H scope (compEnvC scope cl C X.env) fp) elt (rdE X.K L T W0 el)) (hs : ∀ x, foldedSetIterable iter X.env x = pure x := by intro _; rfl) :
    PE X (.ListComp elt [⟨tg, iter, ifs, 0⟩] scope pos) (rdF X.K L T W (.comp t it cond el)) :=
  (pe_lc hc hN hi ok hg ht he hs).imp fun σ H Q h => by
    rw [ho]
    exact lc_of hT htt σ H Q h
theorem pE_comp {ifs : List Expr} {scope : Scope} {own : List (Str × Nat)} {g : TG} {tt : TT} {t : Tg} {it cond el : E} (hc : X.calm = true) (hN : X.N.Nodup) (hi : PI X tg iter (rdI X.K L T W Ex it)) (ok : BlkOk X.N X.env.scope scope own) (ho : own.map (·.2) = tgIx t) (hT : TgOk X.K L g t)
    (htt : ∀ σ H Q, rdT X.K L T W0 cond σ H Q → tt σ H Q)
    (hg : ∀ (s : Shared) (H : Hp) (C : Addr) (cl : List (Str × Addr)) (fp : List Addr), PG (X.blk s H scope (compEnvC scope cl C X.env) fp) tg g)
    (ht : ∀ (s : Shared) (H : Hp) (C : Addr) (cl : List (Str × Addr)) (fp : List Addr), PTs (X.blk s H scope (compEnvC scope cl C X.env) fp) ifs tt)
    (he : ∀ (s : Shared) (H : Hp) (C : Addr) (cl : List (Str × Addr)) (fp : List Addr), PE (X.blk s H scope (compEnvC scope cl C X.env) fp) elt (rdE X.K L T W0 el)) (hs : ∀ x, foldedSetIterable iter X.env x = pure x := by intro _; rfl) :
    PE X (.ListComp elt [⟨tg, iter, ifs, 0⟩] scope pos) (rdE X.K L T W (.comp t it cond el)) := pFE (pF_comp hc hN hi ok ho hT htt hg ht he hs) comp_lst
/-- no test -/
theorem tt_yes {K : PySem.W.Frag} (σ : L2.St) (H : Hp) (Q : Bool → Hp → Prop) (h : rdT K L T W0 (.k (.bl true)) σ H Q) : tYes σ H Q := by
  obtain ⟨F, G, am, om, sl, M, S, pp⟩ := h
  exact pp true H G am Grow.refl M rfl
end
end PD

set_option Elab.async false
set_option linter.all false
set_option maxRecDepth 100000
set_option maxHeartbeats 400000
/-! PDJ: statements. -/
namespace PD
open PySem PySem.Spec PyProof.Rows L2
def isOwn : Cell → Bool
  | .own _ => true
  | .newo _ _ => true
  | _ => false
/-- what others hold at a def's entry; the instance that it makes, and its dict -/
structure FB where
  h : Hp
  sf : Option (Addr × Addr)
/-- the state within a def: F0, G0, am0 as they were at its entry -/
structure StR (K : PySem.W.Frag) (L : Lk) (F0 : FB) (G0 : Hp) (am0 : List Addr) (sl : Sl) (om : Om) (σ : L2.St) (H F G : Hp) (am : List Addr) : Prop where
  f0 : Ex F0.h F
  g : Grow G0 am0 G am
  mem : Mem K L F G am om H
  slr : SlR K L F G am sl σ
  own : ∀ (i : Nat) (c : Cell) (a : Addr), sl[i]? = some c → isOwn c = true → σ[i]? = some (some (.ref a)) → F0.h a = none ∧ ∀ (j : Nat) (c' : Cell), j ≠ i → sl[j]? = some c' → isOwn c' = true → σ[j]? ≠ some (some (.ref a))
  slf : ∀ (i : Nat) (c : Nat) (fs : List D), sl[i]? = some (.newo c fs) → ∃ x dx vs, σ[i]? = some (some (.ref x)) ∧ F x = some (.ins (L.ca c) dx ((L.fn c).zip vs)) ∧ F0.sf = some (x, dx)
def StOk (K : PySem.W.Frag) (L : Lk) (F0 : FB) (G0 : Hp) (am0 : List Addr) (sl : Sl) (om : Om) (σ : L2.St) (H : Hp) : Prop := ∃ F G am, StR K L F0 G0 am0 sl om σ H F G am
def OutP (K : PySem.W.Frag) (L : Lk) (F0 : FB) (G0 : Hp) (am0 : List Addr) (W : WX) (D : Ends) : Out → Prop
  | .stuck => False
  | .next sl om => ∀ σ H, StOk K L F0 G0 am0 sl om σ H → D.nx σ H
  | .brk sl om => ∀ σ H, StOk K L F0 G0 am0 sl om σ H → D.bk σ H
  | .cnt sl om => ∀ σ H, StOk K L F0 G0 am0 sl om σ H → D.ct σ H
  | .ret d om => ∀ v H G am, Grow G0 am0 G am → Mem K L F0.h G am om H → Rep K L G am d v → D.rt v H
  | .retF ds om => ∀ p vs H G am, Grow G0 am0 G am → F0.h p = none → Mem K L (upd F0.h p (.lst vs)) G am om H → RepL K L G am ds vs → D.rt (.ref p) H
  | .exc c fs sl om => ∀ cv dd σ H F G am, StR K L F0 G0 am0 sl om σ H F G am → ExcR K L G am c fs cv dd → W cv dd σ H
def rdS (K : PySem.W.Frag) (L : Lk) (T : Tb) (W : WX) (F0 : FB) (G0 : Hp) (am0 : List Addr) (s : S) : TS := fun D σ H => ∃ sl om, StOk K L F0 G0 am0 sl om σ H ∧ OutP K L F0 G0 am0 W D (evS T s sl om)
section
variable {K : PySem.W.Frag} {L : Lk} {F0 : FB} {G0 F G G' H H' : Hp} {am0 am am' : List Addr} {sl : Sl} {om om' : Om} {σ : L2.St}
theorem StR.grow (R : StR K L F0 G0 am0 sl om σ H F G am) (g : Grow G am G' am') (M : Mem K L F G' am' om' H') : StR K L F0 G0 am0 sl om' σ H' F G' am' :=
  ⟨R.f0, R.g.trans g, M, R.slr.grow g, R.own, R.slf⟩
theorem set_own {sl : Sl} {σ : L2.St} {i j : Nat} {c c' : Cell} {o : Option V} {a : Addr} (h1 : (sl.set i c)[j]? = some c') (h2 : (σ.set i o)[j]? = some (some (.ref a))) : (j = i ∧ c' = c ∧ o = some (.ref a)) ∨ (j ≠ i ∧ sl[j]? = some c' ∧ σ[j]? = some (some (.ref a))) := by
  by_cases e : i = j
  · subst e
    left
    rw [List.getElem?_set] at h1 h2
    rw [if_pos rfl] at h1 h2
    split at h1 <;> split at h2 <;> first | (cases h1; done) | (cases h2; done) | (cases h1; cases h2; exact ⟨rfl, rfl, rfl⟩)
  · right
    rw [List.getElem?_set_ne e] at h1 h2
    exact ⟨fun z => e z.symm, h1, h2⟩
/-- a slot gets a value that is not held alone -/
theorem StR.setVal (R : StR K L F0 G0 am0 sl om σ H F G am) {i : Nat} {c : Cell} {o : Option V} (hc : isOwn c = false) (r : CellR K L F G am c o) : StR K L F0 G0 am0 (sl.set i c) om (σ.set i o) H F G am := by
  refine ⟨R.f0, R.g, R.mem, R.slr.set r, fun j c1 a h1 h2 h3 => ?_, fun j c1 fs h1 => ?_⟩
  rotate_left
  · have hj : i ≠ j := fun e => by
      subst e
      rw [List.getElem?_set] at h1
      rw [if_pos rfl] at h1
      split at h1
      · cases h1; cases hc
      · cases h1
    rw [List.getElem?_set_ne hj] at h1
    obtain ⟨x, dx, vs, e1, e2, e3⟩ := R.slf j c1 fs h1
    exact ⟨x, dx, vs, by rw [List.getElem?_set_ne hj]; exact e1, e2, e3⟩
  rcases set_own h1 h3 with ⟨rfl, rfl, _⟩ | ⟨hj, h1', h3'⟩
  · rw [hc] at h2; cases h2
  · obtain ⟨z1, z2⟩ := R.own j c1 a h1' h2 h3'
    refine ⟨z1, fun k c2 hk g1 g2 g3 => ?_⟩
    rcases set_own g1 g3 with ⟨rfl, rfl, _⟩ | ⟨_, g1', g3'⟩
    · rw [hc] at g2; cases g2
    · exact z2 k c2 hk g1' g2 g3'
/-- what an own slot's address is -/
theorem own_addr (S : SlR K L F G am sl σ) {j : Nat} {c : Cell} {a : Addr} (h1 : sl[j]? = some c) (h2 : isOwn c = true) (h3 : σ[j]? = some (some (.ref a))) : ∃ o, F a = some o := by
  have z := S.2 j c _ h1 h3
  cases c with
  | no => cases h2
  | val d => cases h2
  | own ds =>
    obtain ⟨b, vs, e, f, _⟩ := z
    cases e
    exact ⟨_, f⟩
  | newo c fs =>
    obtain ⟨b, dx, vs, e, f, _⟩ := z
    cases e
    exact ⟨_, f⟩
  | exn => cases h2
/-- a slot gets a new thing that it holds alone -/
theorem StR.setNew (R : StR K L F0 G0 am0 sl om σ H F G am) {i : Nat} {c : Cell} {p : Addr} {u : HO} {G' : Hp} {am' : List Addr} {om' : Om} {H' : Hp} (g : Grow G am G' am') (hp : F p = none) (M : Mem K L (upd F p u) G' am' om' H') (r : CellR K L (upd F p u) G' am' c (some (.ref p))) (hnn : ∀ c' fs, c ≠ .newo c' fs) :
    StR K L F0 G0 am0 (sl.set i c) om' (σ.set i (some (.ref p))) H' (upd F p u) G' am' := by
  have eF : Ex F (upd F p u) := Ex.new hp
  refine ⟨R.f0.trans eF, R.g.trans g, M, ((R.slr.monoF eF).grow g).set r, fun j c1 a h1 h2 h3 => ?_, fun j c1 fs h1 => ?_⟩
  rotate_left
  · have hj : i ≠ j := fun e => by
      subst e
      rw [List.getElem?_set] at h1
      rw [if_pos rfl] at h1
      split at h1
      · exact hnn _ _ (Option.some.inj h1)
      · cases h1
    rw [List.getElem?_set_ne hj] at h1
    obtain ⟨x, dx, vs, e1, e2, e3⟩ := R.slf j c1 fs h1
    exact ⟨x, dx, vs, by rw [List.getElem?_set_ne hj]; exact e1, eF _ _ e2, e3⟩
  rcases set_own h1 h3 with ⟨rfl, rfl, e⟩ | ⟨hj, h1', h3'⟩
  · cases e
    refine ⟨?_, fun k c2 hk g1 g2 g3 => ?_⟩
    · cases q : F0.h p with
      | none => rfl
      | some o =>
        rw [R.f0 _ _ q] at hp
        cases hp
    · rcases set_own g1 g3 with ⟨e, _⟩ | ⟨_, g1', g3'⟩
      · exact hk e
      · obtain ⟨o, ho⟩ := own_addr R.slr g1' g2 g3'
        rw [ho] at hp
        cases hp
  · obtain ⟨z1, z2⟩ := R.own j c1 a h1' h2 h3'
    refine ⟨z1, fun k c2 hk g1 g2 g3 => ?_⟩
    rcases set_own g1 g3 with ⟨_, _, e⟩ | ⟨_, g1', g3'⟩
    · cases e
      obtain ⟨o, ho⟩ := own_addr R.slr h1' h2 h3'
      rw [ho] at hp
      cases hp
    · exact z2 k c2 hk g1' g2 g3'
/-- what a slot holds alone is changed -/
theorem StR.setUpd (R : StR K L F0 G0 am0 sl om σ H F G am) {i : Nat} {c c0 : Cell} {p : Addr} {u : HO} (h0 : sl[i]? = some c0) (ho : isOwn c0 = true) (hσ : σ[i]? = some (some (.ref p))) (r : CellR K L (upd F p u) G am c (some (.ref p))) (hsf : ∀ c' fs, c = .newo c' fs → ∃ dx vs, u = .ins (L.ca c') dx ((L.fn c').zip vs) ∧ F0.sf = some (p, dx)) :
    StR K L F0 G0 am0 (sl.set i c) om σ (upd H p u) (upd F p u) G am := by
  obtain ⟨z1, z2⟩ := R.own i c0 p h0 ho hσ
  obtain ⟨o, hF⟩ := own_addr R.slr h0 ho hσ
  have hne : ∀ j b c1, j ≠ i → sl[j]? = some c1 → isOwn c1 = true → σ[j]? = some (some (.ref b)) → b ≠ p := fun j b c1 hj h1 h2 h3 e => z2 j c1 hj h1 h2 (e ▸ h3)
  have hs : (σ.set i (some (.ref p))) = σ := by
    apply List.ext_getElem?
    intro k
    rw [List.getElem?_set]
    split
    · rename_i e
      subst e
      split
      · exact hσ.symm
      · rename_i hl
        exact (List.getElem?_eq_none (by omega)).symm
    · rfl
  refine ⟨fun a u' e => ?_, R.g, R.mem.setF hF, ?_, fun j c1 a h1 h2 h3 => ?_, fun j c1 fs h1 => ?_⟩
  rotate_right
  · by_cases e : i = j
    · subst e
      rw [List.getElem?_set] at h1
      rw [if_pos rfl] at h1
      split at h1
      · obtain ⟨dx, vs, e1, e2⟩ := hsf c1 fs (Option.some.inj h1)
        exact ⟨p, dx, vs, hσ, by rw [upd_same, e1], e2⟩
      · cases h1
    · rw [List.getElem?_set_ne e] at h1
      obtain ⟨x, dx, vs, e1, e2, e3⟩ := R.slf j c1 fs h1
      exact ⟨x, dx, vs, e1, by rw [upd_ne (hne j x _ (fun q => e q.symm) h1 rfl e1)]; exact e2, e3⟩
  · rw [upd_ne (fun q => by rw [q, z1] at e; cases e)]
    exact R.f0 _ _ e
  · refine ⟨by rw [List.length_set]; exact R.slr.1, fun j c1 o1 h1 h2 => ?_⟩
    by_cases e : i = j
    · subst e
      rw [List.getElem?_set] at h1
      rw [if_pos rfl] at h1
      split at h1
      · cases h1
        rw [hσ] at h2
        cases h2
        exact r
      · cases h1
    · rw [List.getElem?_set_ne e] at h1
      have z := R.slr.2 j c1 o1 h1 h2
      cases c1 with
      | no => trivial
      | val d => exact z
      | own ds =>
        obtain ⟨b, vs, rfl, f, rr⟩ := z
        exact ⟨b, vs, rfl, by rw [upd_ne (hne j b _ (fun q => e q.symm) h1 rfl h2)]; exact f, rr⟩
      | newo c fs =>
        obtain ⟨b, dx, vs, rfl, f, nn, rr⟩ := z
        exact ⟨b, dx, vs, rfl, by rw [upd_ne (hne j b _ (fun q => e q.symm) h1 rfl h2)]; exact f, nn, rr⟩
      | exn => exact z
  · rw [← hs] at h3
    rcases set_own h1 h3 with ⟨rfl, rfl, e⟩ | ⟨hj, h1', h3'⟩
    · cases e
      refine ⟨z1, fun k c2 hk g1 g2 g3 => ?_⟩
      rw [List.getElem?_set_ne (fun q => hk q.symm)] at g1
      exact z2 k c2 hk g1 g2 g3
    · obtain ⟨y1, y2⟩ := R.own j c1 a h1' h2 h3'
      refine ⟨y1, fun k c2 hk g1 g2 g3 => ?_⟩
      rw [← hs] at g3
      rcases set_own g1 g3 with ⟨rfl, rfl, e⟩ | ⟨_, g1', g3'⟩
      · cases e
        exact hne j _ c1 hj h1' h2 h3' rfl
      · exact y2 k c2 hk g1' g2 g3'
/-- the store is changed alone -/
theorem StR.setMem (R : StR K L F0 G0 am0 sl om σ H F G am) (M : Mem K L F G am om' H') : StR K L F0 G0 am0 sl om' σ H' F G am := ⟨R.f0, R.g, M, R.slr, R.own, R.slf⟩
/-- what others hold, fewer of it -/
theorem Mem.less {F1 : Hp} (M : Mem K L F G am om H) (e : Ex F1 F) : Mem K L F1 G am om H := ⟨M.gH, fun a o h => M.fH a o (e a o h), fun a o h => M.fg a o (e a o h), M.len, M.obs, M.nd, M.ag, fun a h => by
  cases q : F1 a with
  | none => rfl
  | some o =>
    have z := M.af a h
    rw [e _ _ q] at z
    cases z⟩
/-- a slot's list is given away for good -/
theorem StR.frz (R : StR K L F0 G0 am0 sl om σ H F G am) {i : Nat} {ds : List D} (h0 : sl[i]? = some (.own ds)) : StOk K L F0 G0 am0 (sl.set i (.val (.lst ds))) om σ H := by
  obtain ⟨o, ho, p, vs, rfl, hF, r⟩ := R.slr.at h0
  obtain ⟨z1, z2⟩ := R.own i _ p h0 rfl ho
  have hG : G p = none := R.mem.fg _ _ hF
  have hs : σ.set i (some (.ref p)) = σ := by
    apply List.ext_getElem?
    intro k
    rw [List.getElem?_set]
    split
    · rename_i e
      subst e
      split
      · exact ho.symm
      · rename_i hl
        exact (List.getElem?_eq_none (by omega)).symm
    · rfl
  have gG : Grow G am (upd G p (.lst vs)) am := Grow.of hG
  refine ⟨fun a => if a = p then none else F a, upd G p (.lst vs), am, fun a u e => ?_, R.g.trans gG, R.mem.freeze hF (fun a u e => ?_), ⟨by rw [List.length_set]; exact R.slr.1, fun j c o h1 h2 => ?_⟩, fun j c a h1 h2 h3 => ?_, fun j c fs h1 => ?_⟩
  rotate_right
  · by_cases e : i = j
    · subst e
      rw [List.getElem?_set] at h1
      rw [if_pos rfl] at h1
      split at h1
      · cases h1
      · cases h1
    · rw [List.getElem?_set_ne e] at h1
      obtain ⟨x, dx, vs', e1, e2, e3⟩ := R.slf j c fs h1
      have hx : x ≠ p := fun q => z2 j _ (fun q => e q.symm) h1 rfl (q ▸ e1)
      exact ⟨x, dx, vs', e1, by show (if x = p then none else F x) = _; rw [if_neg hx]; exact e2, e3⟩
  · have : a ≠ p := fun q => by rw [q, z1] at e; cases e
    rw [if_neg this]
    exact R.f0 _ _ e
  · split at e
    · cases e
    · exact ⟨e, by assumption⟩
  · by_cases e : i = j
    · subst e
      rw [List.getElem?_set] at h1
      rw [if_pos rfl] at h1
      split at h1
      · cases h1
        rw [ho] at h2
        cases h2
        exact ⟨_, rfl, .lst upd_same (r.up gG)⟩
      · cases h1
    · rw [List.getElem?_set_ne e] at h1
      have z := (R.slr.2 j c o h1 h2).grow gG
      cases c with
      | no => trivial
      | val d => exact z
      | own ds =>
        obtain ⟨b, vs, rfl, f, rr⟩ := z
        have : b ≠ p := fun q => z2 j _ (fun q => e q.symm) h1 rfl (q ▸ h2)
        exact ⟨b, vs, rfl, by show (if b = p then none else F b) = _; rw [if_neg this]; exact f, rr⟩
      | newo c fs =>
        obtain ⟨b, dx, vs, rfl, f, nn, rr⟩ := z
        have : b ≠ p := fun q => z2 j _ (fun q => e q.symm) h1 rfl (q ▸ h2)
        exact ⟨b, dx, vs, rfl, by show (if b = p then none else F b) = _; rw [if_neg this]; exact f, nn, rr⟩
      | exn => exact z
  · rw [← hs] at h3
    rcases set_own h1 h3 with ⟨rfl, rfl, e⟩ | ⟨hj, h1', h3'⟩
    · cases h2
    · obtain ⟨y1, y2⟩ := R.own j c a h1' h2 h3'
      refine ⟨y1, fun k c2 hk g1 g2 g3 => ?_⟩
      rw [← hs] at g3
      rcases set_own g1 g3 with ⟨rfl, rfl, e⟩ | ⟨_, g1', g3'⟩
      · cases g2
      · exact y2 k c2 hk g1' g2 g3'
/-- from an expression's end to a statement's -/
theorem out_post {α β : Type} {Rr : Hp → List Addr → α → β → Prop} {W : WX} {D : Ends} {r : Rs α} {f : α → Om → Out} (R : StR K L F0 G0 am0 sl om σ H F G am) (h : OutP K L F0 G0 am0 W D (r.out sl f)) {Q : β → Hp → Prop}
    (k : ∀ a om1 b H1 G1 am1, Grow G am G1 am1 → StR K L F0 G0 am0 sl om1 σ H1 F G1 am1 → Rr G1 am1 a b → OutP K L F0 G0 am0 W D (f a om1) → Q b H1) : Post K L Rr F G am r (fun cv dd H => W cv dd σ H) Q := by
  cases r with
  | stuck => exact h
  | ok a om1 => exact fun b H1 G1 am1 g M rr => k a om1 b H1 G1 am1 g (R.grow g M) rr h
  | exc c fs om1 => exact fun cv dd H1 G1 am1 g M er => h cv dd σ H1 F G1 am1 (R.grow g M) er
theorem out_postF {W : WX} {Dn : Ends} {r : Rs D} {f : D → Om → Out} (R : StR K L F0 G0 am0 sl om σ H F G am) (h : OutP K L F0 G0 am0 W Dn (r.out sl f)) {Q : VK}
    (hs : ∀ d om1, (∀ ds, d ≠ .lst ds) → f d om1 = .stuck)
    (k : ∀ ds om1 p vs H1 G1 am1, Grow G am G1 am1 → F p = none → Mem K L (upd F p (.lst vs)) G1 am1 om1 H1 → RepL K L G1 am1 ds vs → OutP K L F0 G0 am0 W Dn (f (.lst ds) om1) → Q (.ref p) H1) : PostF K L F G am r (fun cv dd H => W cv dd σ H) Q := by
  cases r with
  | stuck => exact h
  | ok d om1 =>
    by_cases e : ∃ ds, d = .lst ds
    · obtain ⟨ds, rfl⟩ := e
      exact ⟨ds, rfl, fun p vs H1 G1 am1 g hp M rr => k ds om1 p vs H1 G1 am1 g hp M rr h⟩
    · have z := hs d om1 fun ds q => e ⟨ds, q⟩
      change OutP K L F0 G0 am0 W Dn (f d om1) at h
      rw [z] at h
      exact h.elim
  | exc c fs om1 => exact fun cv dd H1 G1 am1 g M er => h cv dd σ H1 F G1 am1 (R.grow g M) er
end
end PD

set_option Elab.async false
set_option linter.all false
set_option maxRecDepth 100000
set_option maxHeartbeats 400000
/-! PDK: the statements' rules. -/
namespace PD
open PySem PySem.Spec PyProof.Rows L2
/-- a new list that was held alone goes into the store -/
theorem Mem.toA {K : PySem.W.Frag} {L : Lk} {F G H : Hp} {am : List Addr} {om : Om} {p : Addr} {u : HO} (M : Mem K L (upd F p u) G am om H) (hf : F p = none) {o' : Ob} (r : ObR K L G (am ++ [p]) H o' p) : Mem K L F G (am ++ [p]) (om ++ [o']) H := by
  have hg := M.fg _ _ upd_same
  have ha := M.inF upd_same
  have eF : Ex F (upd F p u) := Ex.new hf
  refine ⟨M.gH, fun a o e => M.fH a o (eF a o e), fun a o e => M.fg a o (eF a o e), by rw [List.length_append, List.length_append, M.len]; rfl, fun j a o h1 h2 => ?_, ?_, fun a hm => ?_, fun a hm => ?_⟩
  · by_cases c : j < am.length
    · rw [List.getElem?_append_left c] at h1
      rw [List.getElem?_append_left (by rw [← M.len]; exact c)] at h2
      exact (M.obs j a o h1 h2).grow ⟨Ex.refl, [p], rfl⟩ fun u e => e
    · rw [List.getElem?_append_right (by omega)] at h1
      rw [List.getElem?_append_right (by rw [← M.len]; omega), ← M.len] at h2
      have hj : j - am.length = 0 := by
        cases q : j - am.length with
        | zero => rfl
        | succ m =>
          rw [q] at h1
          simp at h1
      rw [hj] at h1 h2
      simp at h1 h2
      subst h1; subst h2
      exact r
  · rw [List.nodup_append]
    refine ⟨M.nd, by simp, fun a h1 b h2 => ?_⟩
    simp at h2
    subst h2
    exact fun c => ha (by rw [← c]; exact h1)
  · rw [List.mem_append] at hm
    rcases hm with hm | hm
    · exact M.ag _ hm
    · simp at hm
      subst hm
      exact hg
  · rw [List.mem_append] at hm
    rcases hm with hm | hm
    · have z := M.af _ hm
      cases q : F a with
      | none => rfl
      | some o =>
        rw [eF _ _ q] at z
        cases z
    · simp at hm
      subst hm
      exact hf
section
variable {K : PySem.W.Frag} {L : Lk} {W : WX} {F0 : FB} {G0 G1 : Hp} {am0 am1 : List Addr} {Dn : Ends} {o : Out} {sl : Sl} {om : Om} {σ : L2.St} {H : Hp}
theorem StR.base {F G : Hp} {am : List Addr} (g : Grow G0 am0 G1 am1) (h : StR K L F0 G1 am1 sl om σ H F G am) : StR K L F0 G0 am0 sl om σ H F G am := ⟨h.f0, g.trans h.g, h.mem, h.slr, h.own, h.slf⟩
theorem StOk.base (g : Grow G0 am0 G1 am1) (h : StOk K L F0 G1 am1 sl om σ H) : StOk K L F0 G0 am0 sl om σ H := by
  obtain ⟨F, G, am, h⟩ := h
  exact ⟨F, G, am, h.base g⟩
theorem OutP.base (g : Grow G0 am0 G1 am1) (h : OutP K L F0 G0 am0 W Dn o) : OutP K L F0 G1 am1 W Dn o := by
  cases o with
  | stuck => exact h
  | next sl om => exact fun σ H s => h σ H (s.base g)
  | brk sl om => exact fun σ H s => h σ H (s.base g)
  | cnt sl om => exact fun σ H s => h σ H (s.base g)
  | ret d om => exact fun v H G am gg => h v H G am (g.trans gg)
  | retF ds om => exact fun p vs H G am gg => h p vs H G am (g.trans gg)
  | exc c fs sl om => exact fun cv dd σ H F G am s => h cv dd σ H F G am (s.base g)
end
/-- a statement, a block: as evS says, whatever the entry -/
def QS (X : Cx) (L : Lk) (T : Tb) (W : WX) (st : Stmt) (s : S) : Prop := ∀ F0 G0 am0, PS X st (rdS X.K L T W F0 G0 am0 s)
def QSs (X : Cx) (L : Lk) (T : Tb) (W : WX) (sts : List Stmt) (s : S) : Prop := ∀ F0 G0 am0, PSs X sts (rdS X.K L T W F0 G0 am0 s)
section
variable {X : Cx} {L : Lk} {p : Prog} {fi : Nat → FI} {n wf : Nat} {W : WX} {T : Tb} {st : Stmt} {sts : List Stmt} {s s' : S} {i j : Nat} {ee ea eb ex : E} {e a b o ix : Expr} {pos apos cpos : Pos}
theorem qs_nil : QSs X L T W [] .skip := fun F0 G0 am0 => pss_nil.imp fun D σ H ⟨sl, om, k, o⟩ => o σ H k
theorem qs_cons (h1 : QS X L T W st s) (h2 : QSs X L T W sts s') : QSs X L T W (st :: sts) (.seq s s') := fun F0 G0 am0 => (pss_cons (h1 F0 G0 am0) (h2 F0 G0 am0)).imp fun D σ H ⟨sl, om, k, o⟩ => ⟨sl, om, k, by
  have e : evS T (.seq s s') sl om = match evS T s sl om with
    | .next sl om => evS T s' sl om
    | o => o := rfl
  rw [e] at o
  cases q : evS T s sl om with
  | stuck => rw [q] at o; exact o
  | next sl' om' => rw [q] at o; exact fun σ' H' k' => ⟨sl', om', k', o⟩
  | brk sl' om' => rw [q] at o; exact o
  | cnt sl' om' => rw [q] at o; exact o
  | ret d om' => rw [q] at o; exact o
  | retF d om' => rw [q] at o; exact o
  | exc c fs sl' om' => rw [q] at o; exact o⟩
theorem qs_one (h1 : QS X L T W st s) : QSs X L T W [st] s := fun F0 G0 am0 => pss_one (h1 F0 G0 am0)
/-- nobody may change the list at i from here on -/
theorem qs_fz (h : QSs X L T W sts s) : QSs X L T W sts (.seq (.fz i) s) := fun F0 G0 am0 => (h F0 G0 am0).imp fun D σ H ⟨sl, om, ⟨F, G, am, R⟩, o⟩ => by
  have e : evS T (.seq (.fz i) s) sl om = match evS T (.fz i) sl om with
    | .next sl om => evS T s sl om
    | o => o := rfl
  rw [e] at o
  simp only [evS] at o
  cases q : sl[i]? with
  | none => rw [q] at o; exact ⟨sl, om, ⟨F, G, am, R⟩, o⟩
  | some c =>
    cases c with
    | own ds => rw [q] at o; exact ⟨_, om, R.frz q, o⟩
    | no => rw [q] at o; exact ⟨sl, om, ⟨F, G, am, R⟩, o⟩
    | val d => rw [q] at o; exact ⟨sl, om, ⟨F, G, am, R⟩, o⟩
    | newo c fs => rw [q] at o; exact ⟨sl, om, ⟨F, G, am, R⟩, o⟩
    | exn => rw [q] at o; exact ⟨sl, om, ⟨F, G, am, R⟩, o⟩
theorem q_pass : QS X L T W (.Pass pos) .skip := fun F0 G0 am0 => ps_pass.imp fun D σ H ⟨sl, om, k, o⟩ => o σ H k
theorem q_brk : QS X L T W (.Break pos) .brk := fun F0 G0 am0 => ps_break.imp fun D σ H ⟨sl, om, k, o⟩ => o σ H k
theorem q_cnt : QS X L T W (.Continue pos) .cnt := fun F0 G0 am0 => ps_continue.imp fun D σ H ⟨sl, om, k, o⟩ => o σ H k
theorem q_never : QS X L T W st .never := fun F0 G0 am0 => ps_never.imp fun D σ H ⟨sl, om, k, o⟩ => o
theorem q_doc {x : Str} {k : Nat} : QS X L T W (.Expr (.Constant (.str x) k pos) apos) .skip := fun F0 G0 am0 => ps_doc.imp fun D σ H ⟨sl, om, k, o⟩ => o σ H k
theorem q_drop (h : PE X e (rdE X.K L T W ee)) (hs : swapsWith e none pos.line X.env = pure false := by rfl) : QS X L T W (.Expr e pos) (.drop ee) := fun F0 G0 am0 => (ps_expr h hs).imp fun D σ H ⟨sl, om, ⟨F, G, am, R⟩, o⟩ =>
  ⟨F, G, am, om, sl, R.mem, R.slr, out_post R o fun d om1 v H1 G1 am1 g R1 r1 o1 => o1 σ H1 ⟨F, G1, am1, R1⟩⟩
theorem q_ret (h : PE X e (rdE X.K L T W ee)) : QS X L T W (.Return (some e) pos) (.ret ee) := fun F0 G0 am0 => (ps_ret h).imp fun D σ H ⟨sl, om, ⟨F, G, am, R⟩, o⟩ =>
  ⟨F, G, am, om, sl, R.mem, R.slr, out_post R o fun d om1 v H1 G1 am1 g R1 r1 o1 => o1 v H1 G1 am1 R1.g (R1.mem.less R1.f0) r1⟩
theorem q_retN : QS X L T W (.Return none pos) .retN := fun F0 G0 am0 => ps_retN.imp fun D σ H ⟨sl, om, ⟨F, G, am, R⟩, o⟩ => o .non H G am R.g (R.mem.less R.f0) .non
theorem upd_ex {F0 F : Hp} {p : Addr} {o : HO} (e : Ex F0 F) : Ex (upd F0 p o) (upd F p o) := fun a u h => by
  by_cases c : a = p
  · subst c
    rw [upd_same] at h ⊢
    exact h
  · rw [upd_ne c] at h ⊢
    exact e _ _ h
theorem ex_none {F0 F : Hp} {p : Addr} (e : Ex F0 F) (h : F p = none) : F0 p = none := by
  cases q : F0 p with
  | none => rfl
  | some o =>
    rw [e _ _ q] at h
    cases h
theorem q_retF (h : PE X e (rdF X.K L T W ee)) : QS X L T W (.Return (some e) pos) (.retF ee) := fun F0 G0 am0 => (ps_ret h).imp fun D σ H ⟨sl, om, ⟨F, G, am, R⟩, o⟩ =>
  ⟨F, G, am, om, sl, R.mem, R.slr, out_postF R o (fun d om1 hd => by cases d <;> first | rfl | exact absurd rfl (hd _)) fun ds om1 q vs H1 G1 am1 g hp M rr o1 => o1 q vs H1 G1 am1 (R.g.trans g) (ex_none R.f0 hp) (M.less (upd_ex R.f0)) rr⟩
/-- return x, x a list that its slot holds alone -/
theorem q_retO {x : Str} (hN : X.N[i]? = some x) (hv : Vis X.env.scope x) (hd : (x == ("__debug__" : Str)) = false := by decide) (hcd : (x == ("__classdict__" : Str)) = false := by decide) : QS X L T W (.Return (some (.Name x apos)) pos) (.retO i) := fun F0 G0 am0 =>
  (ps_ret (pe_var hN hv hd hcd)).imp fun D σ H ⟨sl, om, ⟨F, G, am, R⟩, o⟩ => by
    simp only [evS] at o
    split at o
    · rename_i ds h0
      obtain ⟨ov, ho, q, vs, rfl, hF, r⟩ := R.slr.at h0
      obtain ⟨z1, _⟩ := R.own i _ q h0 rfl ho
      refine ⟨_, ho, o q vs H G am R.g z1 (R.mem.less fun a u e => ?_) r⟩
      by_cases c : a = q
      · subst c
        rw [upd_same] at e
        rw [← e]
        exact hF
      · rw [upd_ne c] at e
        exact R.f0 _ _ e
    · exact o.elim
/-! ### stores to names -/
theorem q_set (h : PS X st (tAsg (rdE X.K L T W ee) (gName i))) : QS X L T W st (.set i ee) := fun F0 G0 am0 => h.imp fun D σ H ⟨sl, om, ⟨F, G, am, R⟩, o⟩ =>
  ⟨F, G, am, om, sl, R.mem, R.slr, out_post R o fun d om1 v H1 G1 am1 g R1 r1 o1 => o1 _ H1 ⟨F, G1, am1, R1.setVal rfl ⟨v, rfl, r1⟩⟩⟩
theorem q_setO (h : PS X st (tAsg (rdF X.K L T W ee) (gName i))) : QS X L T W st (.setO i ee) := fun F0 G0 am0 => h.imp fun D σ H ⟨sl, om, ⟨F, G, am, R⟩, o⟩ =>
  ⟨F, G, am, om, sl, R.mem, R.slr, out_postF R o (fun d om1 hd => by cases d <;> first | rfl | exact absurd rfl (hd _)) fun ds om1 q vs H1 G1 am1 g hp M rr o1 => o1 _ H1 ⟨_, G1, am1, R.setNew g hp M ⟨q, vs, rfl, upd_same, rr⟩ (fun _ _ e => by cases e)⟩⟩
theorem q_setA (h : PS X st (tAsg (rdF X.K L T W ee) (gName i))) : QS X L T W st (.setA i ee) := fun F0 G0 am0 => h.imp fun D σ H ⟨sl, om, ⟨F, G, am, R⟩, o⟩ =>
  ⟨F, G, am, om, sl, R.mem, R.slr, out_postF R o (fun d om1 hd => by cases d <;> first | rfl | exact absurd rfl (hd _)) fun ds om1 q vs H1 G1 am1 g hp M rr o1 => by
    have gA : Grow G1 am1 G1 (am1 ++ [q]) := ⟨Ex.refl, [q], rfl⟩
    have M2 : Mem X.K L F G1 (am1 ++ [q]) (om1 ++ [.pl ds]) H1 := M.toA hp ⟨vs, M.fH _ _ upd_same, rr.up gA⟩
    have hk : (am1 ++ [q])[om1.length]? = some q := by
      rw [← M.len, List.getElem?_append_right (Nat.le_refl _), Nat.sub_self]
      rfl
    exact o1 _ H1 ⟨F, G1, am1 ++ [q], (R.grow (g.trans gA) M2).setVal rfl ⟨_, rfl, .amb hk⟩⟩⟩
/-! ### targets, by the state -/
structure TgS (K : PySem.W.Frag) (L : Lk) (g : TG) (tg : Tg) : Prop where
  run : ∀ F0 G0 am0 F G am om H sl σ d x sl' Q, StR K L F0 G0 am0 sl om σ H F G am → Rep K L G am d x → setT sl tg d = some sl' → (∀ σ', StR K L F0 G0 am0 sl' om σ' H F G am → Q σ' H) → g x σ H Q
theorem tgS_one {K : PySem.W.Frag} {i : Nat} : TgS K L (gName i) (.one i) := ⟨fun F0 G0 am0 F G am om H sl σ d x sl' Q R r h k => by
  cases h
  exact k _ (R.setVal rfl ⟨x, rfl, r⟩)⟩
structure TgsS (K : PySem.W.Frag) (L : Lk) (g : TGs) (is : List Nat) : Prop where
  run : ∀ F0 G0 am0 F G am om H sl σ ds xs Q, StR K L F0 G0 am0 sl om σ H F G am → RepL K L G am ds xs → ds.length = is.length → (∀ σ', StR K L F0 G0 am0 (sets sl is ds) om σ' H F G am → Q σ' H) → g xs σ H Q
theorem tgsS_nil {K : PySem.W.Frag} : TgsS K L gNil [] := ⟨fun F0 G0 am0 F G am om H sl σ ds xs Q R r h k => by
  cases r with
  | nil => exact ⟨rfl, k σ R⟩
  | cons _ _ => cases h⟩
theorem tgsS_cons {K : PySem.W.Frag} {i : Nat} {is : List Nat} {g : TGs} (h : TgsS K L g is) : TgsS K L (gCons (gName i) g) (i :: is) := ⟨fun F0 G0 am0 F G am om H sl σ ds xs Q R r hl k => by
  cases r with
  | nil => cases hl
  | @cons d v ds vs hd r => exact ⟨v, vs, rfl, h.run F0 G0 am0 F G am om H (sl.set i (.val d)) _ ds vs Q (R.setVal rfl ⟨v, rfl, hd⟩) r (by simpa using hl) fun σ' S' => k σ' S'⟩⟩
theorem tgS_many {K : PySem.W.Frag} {is : List Nat} {g : TGs} (h : TgsS K L g is) : TgS K L (gTup K is.length g) (.many is) := ⟨fun F0 G0 am0 F G am om H sl σ d x sl' Q R r hs k => by
  cases d with
  | tup ds =>
    simp only [setT] at hs
    split at hs
    · rename_i hl
      cases hs
      cases r with
      | tup ht r =>
        exact ⟨_, _, rfl, SqT.of (R.mem.gH _ _ ht), by rw [← r.length]; exact hl, h.run F0 G0 am0 F G am om H sl σ ds _ Q R r hl k⟩
    · cases hs
  | _ => cases hs⟩
theorem q_setT {is : List Nat} {g : TG} (hT : TgS X.K L g (.many is)) (h : PS X st (tAsg (rdE X.K L T W ee) g)) : QS X L T W st (.setT is ee) := fun F0 G0 am0 => h.imp fun D σ H ⟨sl, om, ⟨F, G, am, R⟩, o⟩ =>
  ⟨F, G, am, om, sl, R.mem, R.slr, out_post R o fun d om1 v H1 G1 am1 g R1 r1 o1 => by
    split at o1
    · rename_i sl' hs
      exact hT.run F0 G0 am0 F G1 am1 om1 H1 sl σ d v sl' _ R1 r1 hs fun σ' R2 => o1 σ' H1 ⟨F, G1, am1, R2⟩
    · exact o1.elim⟩
theorem q_par (h : PS X st (tPar i j (tCons (rdE X.K L T W ea) (tCons (rdE X.K L T W eb) tNil)))) : QS X L T W st (.par i j ea eb) := fun F0 G0 am0 => h.imp fun D σ H ⟨sl, om, ⟨F, G, am, R⟩, o⟩ =>
  ⟨F, G, am, om, sl, R.mem, R.slr, out_post R o fun d om1 v H1 G1 am1 g R1 r1 o1 => ⟨F, G1, am1, om1, sl, R1.mem, R1.slr, out_post R1 o1 fun d2 om2 v2 H2 G2 am2 g2 R2 r2 o2 =>
    ⟨v, v2, rfl, o2 _ H2 ⟨F, G2, am2, (R2.setVal (c := .val d) rfl ⟨v, rfl, r1.up g2⟩).setVal (c := .val d2) rfl ⟨v2, rfl, r2⟩⟩⟩⟩⟩
theorem q_aug {x : Str} {o : Bop} (ho : o = .add ∨ o = .sub) (h : PS X st (tAug i (rdE X.K L T W ee) (ipI (match o with | .add => fun i j => i + j | _ => fun i j => i - j)))) : QS X L T W st (.aug i o ee) := fun F0 G0 am0 => h.imp fun D σ H ⟨sl, om, ⟨F, G, am, R⟩, oo⟩ => by
  simp only [evS] at oo
  split at oo
  · rename_i m h0
    obtain ⟨ov, hv, v, rfl, rv⟩ := R.slr.at h0
    cases rv
    refine ⟨_, hv, F, G, am, om, sl, R.mem, R.slr, out_post R oo fun d om1 v H1 G1 am1 g R1 r1 o1 => ?_⟩
    rcases ho with rfl | rfl
    · cases d with
      | int k =>
        cases r1
        exact ⟨m, k, rfl, rfl, o1 _ H1 ⟨F, G1, am1, R1.setVal rfl ⟨_, rfl, .int _⟩⟩⟩
      | _ => exact o1.elim
    · cases d with
      | int k =>
        cases r1
        exact ⟨m, k, rfl, rfl, o1 _ H1 ⟨F, G1, am1, R1.setVal rfl ⟨_, rfl, .int _⟩⟩⟩
      | _ => exact o1.elim
  · exact oo.elim
/-! ### lists that grow, items stored -/
theorem q_app {x : Str} {apos2 : Pos} (hN : X.N[i]? = some x) (hv : Vis X.env.scope x) (he : PE X e (rdE X.K L T W ee)) (hd : (x == ("__debug__" : Str)) = false := by decide) (hcd : (x == ("__classdict__" : Str)) = false := by decide)
    (hp : ∀ {to : TE} {t : TA}, PE X (.Name x apos) to → PA X [e] t → PS X (.Expr (.Call (.Attribute (.Name x apos) "append" apos2) [e] [] cpos) pos) (tDrop (tBM X.K "list" rAppend to t))) (hs : starEach (e :: []) X.env = (false, eval e X.env) :: starEach [] X.env := by rfl) : QS X L T W (.Expr (.Call (.Attribute (.Name x apos) "append" apos2) [e] [] cpos) pos) (.app i ee) := fun F0 G0 am0 =>
  (hp (pe_var hN hv hd hcd) (pa_cons he pa_nil hs)).imp fun D σ H ⟨sl, om, ⟨F, G, am, R⟩, o⟩ => by
    simp only [evS] at o
    split at o
    · rename_i ds h0
      obtain ⟨ov, ho, q, vs, rfl, hF, r⟩ := R.slr.at h0
      refine ⟨_, ho, .inl ⟨rfl, vs, SqL.of (R.mem.fH _ _ hF)⟩, F, G, am, om, sl, R.mem, R.slr, out_post R o fun d om1 v H1 G1 am1 g R1 r1 o1 => ?_⟩
      split at o1
      · rename_i hlt
        exact ⟨q, vs, v, rfl, rfl, R1.mem.fH _ _ hF, sz_lt (by rw [← r.length]; exact hlt), o1 σ _ ⟨_, G1, am1, R1.setUpd h0 rfl ho ⟨q, vs ++ [v], rfl, upd_same, (r.up g).append (.cons r1 .nil)⟩ (fun _ _ e => by cases e)⟩⟩
      · exact o1.elim
    · exact o.elim
theorem q_appA {x : Str} {apos2 : Pos} (hN : X.N[i]? = some x) (hv : Vis X.env.scope x) (he : PE X e (rdE X.K L T W ee)) (hd : (x == ("__debug__" : Str)) = false := by decide) (hcd : (x == ("__classdict__" : Str)) = false := by decide)
    (hp : ∀ {to : TE} {t : TA}, PE X (.Name x apos) to → PA X [e] t → PS X (.Expr (.Call (.Attribute (.Name x apos) "append" apos2) [e] [] cpos) pos) (tDrop (tBM X.K "list" rAppend to t))) (hs : starEach (e :: []) X.env = (false, eval e X.env) :: starEach [] X.env := by rfl) : QS X L T W (.Expr (.Call (.Attribute (.Name x apos) "append" apos2) [e] [] cpos) pos) (.appA i ee) := fun F0 G0 am0 =>
  (hp (pe_var hN hv hd hcd) (pa_cons he pa_nil hs)).imp fun D σ H ⟨sl, om, ⟨F, G, am, R⟩, o⟩ => by
    simp only [evS] at o
    split at o
    · rename_i k h0
      split at o
      · rename_i ds0 h1
        obtain ⟨ov, ho, v0, rfl, rv⟩ := R.slr.at h0
        cases rv with
        | @amb _ q hk =>
          obtain ⟨vs0, hq0, _⟩ := R.mem.obs _ _ _ hk h1
          refine ⟨_, ho, .inl ⟨rfl, vs0, SqL.of hq0⟩, F, G, am, om, sl, R.mem, R.slr, out_post R o fun d om1 v H1 G1 am1 g R1 r1 o1 => ?_⟩
          split at o1
          · rename_i ds h2
            obtain ⟨vs, hq, r⟩ := R1.mem.obs _ _ _ (g.get hk) h2
            split at o1
            · rename_i hlt
              exact ⟨q, vs, v, rfl, rfl, hq, sz_lt (by rw [← r.length]; exact hlt), o1 σ _ ⟨_, G1, am1, R1.setMem (R1.mem.setA (g.get hk) ⟨_, upd_same, r.append (.cons r1 .nil)⟩)⟩⟩
            · exact o1.elim
          · exact o1.elim
      · exact o.elim
    · exact o.elim
theorem q_ext {x : Str} {apos2 : Pos} (hN : X.N[i]? = some x) (hv : Vis X.env.scope x) (he : PE X e (rdE X.K L T W ee)) (hd : (x == ("__debug__" : Str)) = false := by decide) (hcd : (x == ("__classdict__" : Str)) = false := by decide)
    (hp : ∀ {to : TE} {t : TA}, PE X (.Name x apos) to → PA X [e] t → PS X (.Expr (.Call (.Attribute (.Name x apos) "extend" apos2) [e] [] cpos) pos) (tDrop (tBM X.K "list" rExtend to t))) (hs : starEach (e :: []) X.env = (false, eval e X.env) :: starEach [] X.env := by rfl) : QS X L T W (.Expr (.Call (.Attribute (.Name x apos) "extend" apos2) [e] [] cpos) pos) (.ext i ee) := fun F0 G0 am0 =>
  (hp (pe_var hN hv hd hcd) (pa_cons he pa_nil hs)).imp fun D σ H ⟨sl, om, ⟨F, G, am, R⟩, o⟩ => by
    simp only [evS] at o
    split at o
    · rename_i ds h0
      obtain ⟨ov, ho, q, vs, rfl, hF, r⟩ := R.slr.at h0
      refine ⟨_, ho, .inl ⟨rfl, vs, SqL.of (R.mem.fH _ _ hF)⟩, F, G, am, om, sl, R.mem, R.slr, out_post R o fun d om1 v H1 G1 am1 g R1 r1 o1 => ?_⟩
      split at o1
      · rename_i es
        split at o1
        · rename_i hlt
          cases r1 with
          | lst hb rb =>
            exact ⟨q, _, vs, _, rfl, rfl, R1.mem.fH _ _ hF, R1.mem.gH _ _ hb, sz_le (by rw [← r.length, ← rb.length]; exact hlt), o1 σ _ ⟨_, G1, am1, R1.setUpd h0 rfl ho ⟨q, _, rfl, upd_same, (r.up g).append rb⟩ (fun _ _ e => by cases e)⟩⟩
        · exact o1.elim
      · exact o1.elim
    · exact o.elim
theorem q_setI {x : Str} (hN : X.N[i]? = some x) (hv : Vis X.env.scope x) (hd : (x == ("__debug__" : Str)) = false := by decide) (hcd : (x == ("__classdict__" : Str)) = false := by decide)
    (hp : ∀ {to : TE}, PE X (.Name x apos) to → PS X (.Assign [.Subscript (.Name x apos) ix cpos] e pos) (tAsg (rdE X.K L T W ee) (gSub to (rdE X.K L T W ex) rSetL))) : QS X L T W (.Assign [.Subscript (.Name x apos) ix cpos] e pos) (.setI i ex ee) := fun F0 G0 am0 =>
  (hp (pe_var hN hv hd hcd)).imp fun D σ H ⟨sl, om, ⟨F, G, am, R⟩, o⟩ => by
    simp only [evS] at o
    split at o
    · rename_i ds h0
      obtain ⟨ov, ho, q, vs, rfl, hF, r⟩ := R.slr.at h0
      refine ⟨F, G, am, om, sl, R.mem, R.slr, out_post R o fun d om1 v H1 G1 am1 g R1 r1 o1 => ?_⟩
      refine ⟨_, ho, F, G1, am1, om1, sl, R1.mem, R1.slr, out_post R1 o1 fun dn om2 vn H2 G2 am2 g2 R2 r2 o2 => ?_⟩
      split at o2
      · rename_i m
        split at o2
        · rename_i j hj
          cases r2
          exact ⟨q, vs, m, j, rfl, rfl, R2.mem.fH _ _ hF, by rw [← r.length]; exact hj, o2 σ _ ⟨_, G2, am2, R2.setUpd h0 rfl ho ⟨q, _, rfl, upd_same, ((r.up g).up g2).set j (r1.up g2)⟩ (fun _ _ e => by cases e)⟩⟩
        · exact o2.elim
      · exact o2.elim
    · exact o.elim
theorem q_setIA {x : Str} (hN : X.N[i]? = some x) (hv : Vis X.env.scope x) (hd : (x == ("__debug__" : Str)) = false := by decide) (hcd : (x == ("__classdict__" : Str)) = false := by decide)
    (hp : ∀ {to : TE}, PE X (.Name x apos) to → PS X (.Assign [.Subscript (.Name x apos) ix cpos] e pos) (tAsg (rdE X.K L T W ee) (gSub to (rdE X.K L T W ex) rSetL))) : QS X L T W (.Assign [.Subscript (.Name x apos) ix cpos] e pos) (.setIA i ex ee) := fun F0 G0 am0 =>
  (hp (pe_var hN hv hd hcd)).imp fun D σ H ⟨sl, om, ⟨F, G, am, R⟩, o⟩ => by
    simp only [evS] at o
    split at o
    · rename_i k h0
      obtain ⟨ov, ho, v0, rfl, rv⟩ := R.slr.at h0
      cases rv with
      | @amb _ q hk =>
        refine ⟨F, G, am, om, sl, R.mem, R.slr, out_post R o fun d om1 v H1 G1 am1 g R1 r1 o1 => ?_⟩
        refine ⟨_, ho, F, G1, am1, om1, sl, R1.mem, R1.slr, out_post R1 o1 fun dn om2 vn H2 G2 am2 g2 R2 r2 o2 => ?_⟩
        split at o2
        · rename_i m
          split at o2
          · rename_i ds h2
            obtain ⟨vs, hq, r⟩ := R2.mem.obs _ _ _ (g2.get (g.get hk)) h2
            split at o2
            · rename_i j hj
              cases r2
              exact ⟨q, vs, m, j, rfl, rfl, hq, by rw [← r.length]; exact hj, o2 σ _ ⟨_, G2, am2, R2.setMem (R2.mem.setA (g2.get (g.get hk)) ⟨_, upd_same, r.set j (r1.up g2)⟩)⟩⟩
            · exact o2.elim
          · exact o2.elim
        · exact o2.elim
    · exact o.elim
/-! ### fields stored -/
theorem put_new : ∀ {ns : List Str} {f : Str} {j : Nat} {vs : List V} {v : V}, fnIx ns f = some j → vs.length = j → putF f v (ns.zip vs) = ns.zip (vs ++ [v])
  | [], _, _, _, _, h, _ => by cases h
  | g :: r, f, j, [], v, h, e => by
    unfold fnIx at h
    by_cases c : f = g
    · subst c
      cases r <;> rfl
    · rw [if_neg c] at h
      subst e
      cases q : fnIx r f <;> rw [q] at h <;> cases h
  | g :: r, f, j, w :: vs, v, h, e => by
    unfold fnIx at h
    by_cases c : f = g
    · rw [if_pos c] at h
      cases h
      cases e
    · rw [if_neg c] at h
      cases q : fnIx r f with
      | none => rw [q] at h; cases h
      | some i =>
        rw [q] at h
        cases h
        show (if g = f then _ else (g, w) :: putF f v (r.zip vs)) = _
        rw [if_neg (fun z => c z.symm), put_new q (by simpa using e)]
        rfl
theorem put_old : ∀ {ns : List Str} {f : Str} {j : Nat} {vs : List V} {v : V}, fnIx ns f = some j → j < vs.length → putF f v (ns.zip vs) = ns.zip (vs.set j v)
  | [], _, _, _, _, h, _ => by cases h
  | g :: r, f, j, [], v, h, e => by cases e
  | g :: r, f, j, w :: vs, v, h, e => by
    unfold fnIx at h
    by_cases c : f = g
    · subst c
      rw [if_pos rfl] at h
      cases h
      show (if f = f then _ else _) = _
      rw [if_pos rfl]
      rfl
    · rw [if_neg c] at h
      cases q : fnIx r f with
      | none => rw [q] at h; cases h
      | some i =>
        rw [q] at h
        cases h
        show (if g = f then _ else (g, w) :: putF f v (r.zip vs)) = _
        rw [if_neg (fun z => c z.symm), put_old q (by simpa using e)]
        rfl
theorem ix_lt : ∀ {ns : List Str} {f : Str} {j : Nat}, fnIx ns f = some j → j < ns.length
  | [], _, _, h => by cases h
  | g :: r, f, j, h => by
    unfold fnIx at h
    by_cases c : f = g
    · rw [if_pos c] at h
      cases h
      exact Nat.succ_pos _
    · rw [if_neg c] at h
      cases q : fnIx r f with
      | none => rw [q] at h; cases h
      | some i =>
        rw [q] at h
        cases h
        exact Nat.succ_lt_succ (ix_lt q)
theorem zip_len {ns : List Str} {vs : List V} (h : ns.length < 1000) : (ns.zip vs).length < 1000 := by
  rw [List.length_zip]
  omega
/-- self.f = e, self being made -/
theorem q_setF {cc : Nat} {m x : Str} (hN : X.N[(0 : Nat)]? = some x) (hv : Vis X.env.scope x) (cl : Cls X.K (L.ca cc)) (hn : NoAttr X.K (L.ca cc) m) (hj : fnIx (L.fn cc) m = some j) (hz : (L.fn cc).length < 1000)
    (he : PE X e (rdE X.K L T W ee)) (hs : swapsWith e (some (.Attribute (.Name x apos) m cpos)) pos.line X.env = pure false) (hd : (x == ("__debug__" : Str)) = false := by decide) (hcd : (x == ("__classdict__" : Str)) = false := by decide) :
    QS X L T W (.Assign [.Attribute (.Name x apos) m cpos] e pos) (.setF cc j ee) := fun F0 G0 am0 =>
  (ps_fld (pe_var hN hv hd hcd) he hs).imp fun D σ H ⟨sl, om, ⟨F, G, am, R⟩, o⟩ =>
    ⟨F, G, am, om, sl, R.mem, R.slr, out_post R o fun d om1 v H1 G1 am1 g R1 r1 o1 => by
      split at o1
      · rename_i c' fs h0
        split at o1
        · rename_i hc
          obtain ⟨rfl, hl⟩ := hc
          obtain ⟨ov, ho, q, dx, vs, rfl, hF, hle, r⟩ := R1.slr.at h0
          refine ⟨_, ho, q, _, dx, _, rfl, R1.mem.fH _ _ hF, cl, hn, zip_len hz, ?_⟩
          rw [put_new hj (by rw [← r.length]; exact hl)]
          have hle' : (vs ++ [v]).length ≤ (L.fn c').length := by
            rw [List.length_append, ← r.length, hl]
            exact ix_lt hj
          obtain ⟨x', dx', vs', e1, e2, e3⟩ := R1.slf _ _ _ h0
          rw [ho] at e1
          cases e1
          rw [hF] at e2
          have edx : dx' = dx := by injection e2 with e2; injection e2 with _ e2 _; exact e2.symm
          rw [edx] at e3
          exact o1 σ _ ⟨_, G1, am1, R1.setUpd h0 rfl ho ⟨q, dx, vs ++ [v], rfl, upd_same, hle', r.append (.cons r1 .nil)⟩ (fun _ _ e => by cases e; exact ⟨dx, vs ++ [v], rfl, e3⟩)⟩
        · exact o1.elim
      · exact o1.elim⟩
/-- x.f = e, x of the store -/
theorem q_stF {cc : Nat} {m x : Str} (hN : X.N[i]? = some x) (hv : Vis X.env.scope x) (cl : Cls X.K (L.ca cc)) (hn : NoAttr X.K (L.ca cc) m) (hj : fnIx (L.fn cc) m = some j) (hz : (L.fn cc).length < 1000)
    (he : PE X e (rdE X.K L T W ee)) (hs : swapsWith e (some (.Attribute (.Name x apos) m cpos)) pos.line X.env = pure false) (hd : (x == ("__debug__" : Str)) = false := by decide) (hcd : (x == ("__classdict__" : Str)) = false := by decide) :
    QS X L T W (.Assign [.Attribute (.Name x apos) m cpos] e pos) (.stF i cc j ee) := fun F0 G0 am0 =>
  (ps_fld (pe_var hN hv hd hcd) he hs).imp fun D σ H ⟨sl, om, ⟨F, G, am, R⟩, o⟩ => by
    simp only [evS] at o
    split at o
    · rename_i k h0
      obtain ⟨ov, ho, v0, rfl, rv⟩ := R.slr.at h0
      cases rv with
      | @amb _ q hk =>
        refine ⟨F, G, am, om, sl, R.mem, R.slr, out_post R o fun d om1 v H1 G1 am1 g R1 r1 o1 => ?_⟩
        split at o1
        · rename_i c' fs h2
          split at o1
          · rename_i hc
            subst hc
            obtain ⟨dx, vs, hq, hle, r⟩ := R1.mem.obs _ _ _ (g.get hk) h2
            refine ⟨_, ho, q, _, dx, _, rfl, hq, cl, hn, zip_len hz, ?_⟩
            split at o1
            · rename_i hlt
              rw [put_old hj (by rw [← r.length]; exact hlt)]
              exact o1 σ _ ⟨_, G1, am1, R1.setMem (R1.mem.setA (g.get hk) ⟨dx, _, upd_same, by rw [List.length_set]; exact hle, r.set j r1⟩)⟩
            · split at o1
              · rename_i heq
                rw [put_new hj (by rw [← r.length]; exact heq.symm)]
                refine o1 σ _ ⟨_, G1, am1, R1.setMem (R1.mem.setA (g.get hk) ⟨dx, _, upd_same, ?_, r.append (.cons r1 .nil)⟩)⟩
                rw [List.length_append, ← r.length, ← heq]
                exact ix_lt hj
              · exact o1.elim
          · exact o1.elim
        · exact o1.elim
    · exact o.elim
/-- x.f += e, x of the store, ints -/
theorem q_auF {cc : Nat} {m x : Str} (hN : X.N[i]? = some x) (hv : Vis X.env.scope x) (cl : Cls X.K (L.ca cc)) (hn : NoAttr X.K (L.ca cc) m) (hj : fnIx (L.fn cc) m = some j) (hz : (L.fn cc).length < 1000)
    (he : PE X e (rdE X.K L T W ee)) (hd : (x == ("__debug__" : Str)) = false := by decide) (hcd : (x == ("__classdict__" : Str)) = false := by decide) :
    QS X L T W (.AugAssign (.Attribute (.Name x apos) m cpos) .Add e pos) (.auF i cc j ee) := fun F0 G0 am0 =>
  (ps_fldaug (pe_var hN hv hd hcd) he in_add).imp fun D σ H ⟨sl, om, ⟨F, G, am, R⟩, o⟩ => by
    simp only [evS] at o
    split at o
    · rename_i k h0
      obtain ⟨ov, ho, v0, rfl, rv⟩ := R.slr.at h0
      cases rv with
      | @amb _ q hk =>
        split at o
        · rename_i c' fs h2
          split at o
          · rename_i hc
            subst hc
            split at o
            · rename_i mm hm
              obtain ⟨dx, vs, hq, hle, r⟩ := R.mem.obs _ _ _ hk h2
              obtain ⟨vm, hvm, rm⟩ := r.get hm
              cases rm
              refine ⟨_, ho, q, _, dx, _, _, rfl, hq, cl, hn, by rw [lookup_ix hj]; exact hvm, F, G, am, om, sl, R.mem, R.slr, out_post R o fun d om1 v H1 G1 am1 g R1 r1 o1 => ?_⟩
              split at o1
              · rename_i nn
                cases r1
                split at o1
                · rename_i c2 fs2 h3
                  split at o1
                  · rename_i hc2
                    obtain ⟨rfl, hlt⟩ := hc2
                    obtain ⟨dx2, vs2, hq2, hle2, r2⟩ := R1.mem.obs _ _ _ (g.get hk) h3
                    refine ⟨mm, nn, rfl, rfl, dx2, _, hq2, zip_len hz, ?_⟩
                    rw [put_old hj (by rw [← r2.length]; exact hlt)]
                    exact o1 σ _ ⟨_, G1, am1, R1.setMem (R1.mem.setA (g.get hk) ⟨dx2, _, upd_same, by rw [List.length_set]; exact hle2, r2.set j (.int _)⟩)⟩
                  · exact o1.elim
                · exact o1.elim
              · exact o1.elim
            · exact o.elim
          · exact o.elim
        · exact o.elim
    · exact o.elim
/-! ### if, while, for -/
theorem q_ite {c : Expr} {ec : E} {p1 p2 : List Stmt} (hc : PT X c (rdT X.K L T W ec)) (ha : QSs X L T W p1 s) (hb : QSs X L T W p2 s') : QS X L T W (.If c p1 p2 pos) (.ite ec s s') := fun F0 G0 am0 =>
  (ps_if hc (ha F0 G0 am0) (hb F0 G0 am0)).imp fun D σ H ⟨sl, om, ⟨F, G, am, R⟩, o⟩ => ⟨F, G, am, om, sl, R.mem, R.slr, out_post R o fun t om1 t' H1 G1 am1 g R1 e o1 => by
    cases e
    cases t with
    | true =>
      rw [if_pos rfl] at o1 ⊢
      exact ⟨sl, om1, ⟨F, G1, am1, R1⟩, o1⟩
    | false =>
      rw [if_neg (by decide)] at o1 ⊢
      exact ⟨sl, om1, ⟨F, G1, am1, R1⟩, o1⟩⟩
theorem q_whl {c : Expr} {ec : E} {body : List Stmt} (hp : PassesOwn (model X.prog X.w) X.A X.env X.xe) (hc : PT X c (rdT X.K L T W ec)) (hb : QSs X L T W body s) : QS X L T W (.While c body [] pos) (.whl ec s) := fun F0 G0 am0 =>
  (ps_while hp hc (hb F0 G0 am0)).imp fun D σ H ⟨sl, om, k, o⟩ => by
    refine ⟨fun m σ H => ∃ sl om, StOk X.K L F0 G0 am0 sl om σ H ∧ OutP X.K L F0 G0 am0 W D (whileGo (evT T ec) (evS T s) m sl om), ⟨T.wf, sl, om, k, o⟩, ?_⟩
    rintro m σ H ⟨sl, om, ⟨F, G, am, R⟩, o⟩
    cases m with
    | zero => exact o.elim
    | succ m =>
      refine ⟨F, G, am, om, sl, R.mem, R.slr, out_post R o fun t om1 t' H1 G1 am1 g R1 e o1 => ?_⟩
      cases e
      cases t with
      | false =>
        rw [if_neg (by decide)] at o1 ⊢
        exact o1 σ H1 ⟨F, G1, am1, R1⟩
      | true =>
        rw [if_pos rfl] at o1 ⊢
        refine ⟨fun σ H => ∃ sl om, StOk X.K L F0 G0 am0 sl om σ H ∧ OutP X.K L F0 G0 am0 W D (whileGo (evT T ec) (evS T s) m sl om), fun σ' H' h => ⟨m, Nat.lt_succ_self m, h⟩, sl, om1, ⟨F, G1, am1, R1⟩, ?_⟩
        cases q : evS T s sl om1 with
        | stuck => rw [q] at o1; exact o1
        | next sl' om' => rw [q] at o1; exact fun σ' H' k' => ⟨sl', om', k', o1⟩
        | brk sl' om' => rw [q] at o1; exact o1
        | cnt sl' om' => rw [q] at o1; exact fun σ' H' k' => ⟨sl', om', k', o1⟩
        | ret d om' => rw [q] at o1; exact o1
        | retF d om' => rw [q] at o1; exact o1
        | exc c fs sl' om' => rw [q] at o1; exact o1
theorem qs_any (hb : QSs X L T W sts s) : PSs X sts (fun D σ H => ∃ F0 G0 am0, rdS X.K L T W F0 G0 am0 s D σ H) := ⟨fun pins st σ H D I ⟨F0, G0, am0, h⟩ => (hb F0 G0 am0).run pins st σ H D I h⟩
theorem q_fo {iter tg : Expr} {it : E} {t : Tg} {g : TG} {body : List Stmt} (hp : PassesOwn (model X.prog X.w) X.A X.env X.xe) (hcalm : X.calm = true) (hi : PI X tg iter (rdI X.K L T W pAny it)) (hg : PG X tg g) (hT : TgS X.K L g t) (hb : QSs X L T W body s)
    (hs : ∀ x, foldedSetIterable iter X.env x = pure x := by intro _; rfl) : QS X L T W (.For tg iter body [] pos) (.fo t it s) := fun F0 G0 am0 =>
  (ps_for hp hcalm hi hg (qs_any hb) hs).imp fun D σ H ⟨sl, om, ⟨F, G, am, R⟩, o⟩ => by
    refine ⟨F, G, am, om, sl, R.mem, R.slr, ?_⟩
    simp only [evS] at o
    cases q : evI T it sl om with
    | stuck => rw [q] at o; exact o
    | exc c fs om1 =>
      rw [q] at o
      exact fun cv dd H1 G1 am1 gg M er => o cv dd σ H1 F G1 am1 (R.grow gg M) er
    | ok ds om1 =>
      rw [q, out_ok] at o
      intro J H1 G1 am1 gg M1 Y
      have R1 := R.grow gg M1
      refine ⟨fun i m σ' H' => m = ds.length - i ∧ i ≤ ds.length ∧ ∃ sl' om' F' G' am', StR X.K L F0 G1 am1 sl' om' σ' H' F' G' am' ∧ OutP X.K L F0 G0 am0 W D (forGo (evS T s) t (ds.drop i) sl' om'), ⟨ds.length, by omega, by omega, sl, om1, F, G1, am1, ⟨R1.f0, Grow.refl, R1.mem, R1.slr, R1.own, R1.slf⟩, by rw [List.drop_zero]; exact o⟩, ?_⟩
      rintro i m σ' H' ⟨hm, hi', sl', om', F', G', am', R', o'⟩
      by_cases hlt : i < ds.length
      · right
        have hd : ds[i]? = some ds[i] := List.getElem?_eq_getElem hlt
        obtain ⟨ygo, yyl⟩ := Y.go i ds[i] F' G' am' om' H' hd trivial R'.g R'.mem
        refine ⟨ygo, _, fun σ2 H2 hn => ⟨ds.length - (i + 1), by omega, hn⟩, fun x H3 hy => ?_⟩
        obtain ⟨G3, g3, M3, r3⟩ := yyl x H3 hy
        have R3 := R'.grow g3 M3
        rw [List.drop_eq_getElem_cons hlt] at o'
        simp only [forGo] at o'
        split at o'
        · exact o'.elim
        · rename_i sl2 hset
          refine hT.run F0 G1 am1 F' G3 am' om' H3 sl' σ' ds[i] x sl2 _ R3 r3 hset fun σ2 R4 => ?_
          refine ⟨F0, G1, am1, sl2, om', ⟨F', G3, am', R4⟩, ?_⟩
          have next : ∀ sl' om', OutP X.K L F0 G0 am0 W D (forGo (evS T s) t (ds.drop (i + 1)) sl' om') → ∀ σ H, StOk X.K L F0 G1 am1 sl' om' σ H → (ds.length - (i + 1) = ds.length - (i + 1) ∧ i + 1 ≤ ds.length ∧ ∃ sl' om' F' G' am', StR X.K L F0 G1 am1 sl' om' σ H F' G' am' ∧ OutP X.K L F0 G0 am0 W D (forGo (evS T s) t (ds.drop (i + 1)) sl' om')) :=
            fun sl' om' oo σ H ⟨F5, G5, am5, R5⟩ => ⟨rfl, hlt, sl', om', F5, G5, am5, R5, oo⟩
          cases q2 : evS T s sl2 om' with
          | stuck => rw [q2] at o'; exact o'
          | next sl3 om3 => rw [q2] at o'; exact next sl3 om3 o'
          | brk sl3 om3 => rw [q2] at o'; exact fun σ5 H5 k5 => o' σ5 H5 (k5.base (R.g.trans gg))
          | cnt sl3 om3 => rw [q2] at o'; exact next sl3 om3 o'
          | ret d om3 => rw [q2] at o'; exact fun v H5 G5 am5 g5 => o' v H5 G5 am5 ((R.g.trans gg).trans g5)
          | retF d om3 => rw [q2] at o'; exact fun p vs H5 G5 am5 g5 => o' p vs H5 G5 am5 ((R.g.trans gg).trans g5)
          | exc c fs sl3 om3 => rw [q2] at o'; exact fun cv dd σ5 H5 F5 G5 am5 k5 => o' cv dd σ5 H5 F5 G5 am5 (k5.base (R.g.trans gg))
      · left
        have e : i = ds.length := by omega
        subst e
        rw [List.drop_length] at o'
        exact ⟨Y.stop F' G' am' om' H' trivial R'.g R'.mem, o' σ' H' ⟨F', G', am', R'.base (R.g.trans gg)⟩⟩
end
end PD

set_option Elab.async false
set_option linter.all false
set_option maxRecDepth 100000
set_option maxHeartbeats 400000
/-! PDL: a def keeps its promise, by its body. -/
namespace PD
open PySem PySem.Spec PyProof.Rows L2
section
variable {K : PySem.W.Frag} {L : Lk} {F G : Hp} {am : List Addr}
theorem slr_start {ds : List D} {vs : List V} (r : RepL K L G am ds vs) (k : Nat) : SlR K L F G am (ds.map .val ++ List.replicate k .no) (vs.map some ++ List.replicate k none) := by
  refine ⟨by simp [r.length], fun i c o h1 h2 => ?_⟩
  by_cases hi : i < ds.length
  · rw [List.getElem?_append_left (by rw [List.length_map]; exact hi), List.getElem?_map] at h1
    rw [List.getElem?_append_left (by rw [List.length_map, ← r.length]; exact hi), List.getElem?_map] at h2
    rw [List.getElem?_eq_getElem hi] at h1
    cases h1
    obtain ⟨v, hv, rv⟩ := r.get (List.getElem?_eq_getElem hi)
    rw [hv] at h2
    cases h2
    exact ⟨v, rfl, rv⟩
  · rw [List.getElem?_append_right (by rw [List.length_map]; omega)] at h1
    have e : c = .no := by
      have z := List.mem_of_getElem? h1
      exact (List.mem_replicate.mp z).2
    subst e
    trivial
theorem no_own {ds : List D} {k i : Nat} {c : Cell} (h : ((ds.map Cell.val) ++ List.replicate k .no)[i]? = some c) : isOwn c = false := by
  have z := List.mem_of_getElem? h
  rw [List.mem_append] at z
  rcases z with z | z
  · obtain ⟨d, _, rfl⟩ := List.mem_map.mp z
    rfl
  · rw [(List.mem_replicate.mp z).2]
    rfl
end
section
variable {P : Program} {w : World} {K : PySem.W.Frag} {mg : Str → Option Value} {base : Heap} {L : Lk} {p : Prog} {fi : Nat → FI} {n : Nat}
/-- where a def's body runs -/
abbrev cxF (P : Program) (w : World) (K : PySem.W.Frag) (mg : Str → Option Value) (base : Heap) (N : List Str) (qual : Str) (st : Stmt) (f : Addr) (cdv : Value) (A : Around) (outer : List Env) (s : Shared) (H : Hp) (E : XK) : Cx := cxOf (L2.CX P w) P w K mg base N qual (defScope st) f cdv A outer s H E
/-- a def as it stands behind the top, whatever its defaults -/
structure FunA (K : PySem.W.Frag) (x qual : Str) (st : Stmt) (f : Addr) (fd : FuncData) : Prop where
  ex : ∃ (oc : Value) (od : Option Addr) (dV kV doc pm : Value) (an : Option Addr) (cdv ct : Value) (osl : Array (Option Value)),
    fd = PySem.W.fnOf x qual (defArgs st) (defBody st) (defScope st) dV kV doc pm an cdv ct ∧ K.lookup f = some ⟨oc, od, .func fd, osl⟩ ∧ PySem.W.codeIn K cdv qual = true
theorem FunA.okX {x qual : Str} {st : Stmt} {f : Addr} {fd : FuncData} {N ps : List Str} {k : Nat} {sp : Sp} (F : FunA K x qual st f fd) (S : FnScope N ps (defScope st)) (len : ∀ vs H Q E, sp vs H Q E → vs.length = ps.length)
    (hbody : ∀ (cdv : Value) (A : Around) (outer : List Env) (s : Shared) (H : Hp) (vs : List V) (Q : VK) (E : XK), Room k (A.deeper (envOfC qual (defScope st) s.heap.objs.size f cdv)) → sp vs H Q E →
      ∃ t, PSs (cxOf (L2.CX P w) P w K mg base N qual (defScope st) f cdv A outer s H E) (defBody st) t ∧ t { nx := fun _ H' => Q .non H', rt := Q } (L2.start N vs) H) : FnOk P w K mg base (L2.CX P w) (k + 1) f fd ps sp := by
  obtain ⟨oc, od, dV, kV, doc, pm, an, cdv, ct, osl, rfl, lk, hcd⟩ := F.ex
  exact fn_of lk hcd S len fun A outer s H vs Q E hr hsp => hbody cdv A outer s H vs Q E hr hsp
theorem fn_zero {f : Addr} {fd : FuncData} {ps : List Str} {sp : Sp} (h : ∀ vs H Q E, ¬ sp vs H Q E) : FnOk P w K mg base (L2.CX P w) 0 f fd ps sp := ⟨fun vs H Q E q => (h vs H Q E q).elim, fun A outer s H args us vs Q E _ _ _ _ q => (h vs H Q E q).elim⟩
theorem spD_zero {f : Nat} (vs : List V) (H : Hp) (Q : VK) (E : XK) : ¬ spD K L p 0 f vs H Q E := by
  rintro ⟨wf, F, G, am, om, ds, _, _, _, h⟩
  split at h <;> exact h.elim
theorem spI_zero {f : Nat} (vs : List V) (H : Hp) (Q : VK) (E : XK) : ¬ spI K L p 0 f vs H Q E := by
  rintro ⟨wf, F, G, am, om, ds, c, x, dx, us, _, _, _, _, _, h⟩
  exact h.elim
theorem fn_ok {x qual : Str} {st : Stmt} {fd : FuncData} {N ps : List Str} {f : Nat} {d : Def} {a : Addr} (Fn : FunA K x qual st a fd) (S : FnScope N ps (defScope st)) (hd : p.defs f = some d) (hc : d.cls = none) (hnp : d.np = ps.length) (hnl : d.nl = N.length) (hle : ps.length ≤ N.length)
    (body : ∀ (wf : Nat) (cdv : Value) (A : Around) (outer : List Env) (s : Shared) (H : Hp) (E : XK), Room (2 * n + 1) (A.deeper (envOfC qual (defScope st) s.heap.objs.size a cdv)) →
      QSs (cxF P w K mg base N qual st a cdv A outer s H E) L (tab p wf n) (fun cls d _ H => E cls d H) (defBody st) d.body) :
    FnOk P w K mg base (L2.CX P w) (2 * (n + 1)) a fd ps (spD K L p (n + 1) f) := by
  refine Fn.okX (k := 2 * n + 1) S (fun vs H Q E h => ?_) (fun cdv A outer s H vs Q E hr h => ?_)
  · obtain ⟨wf, F, G, am, om, ds, M, r, ⟨d', hd', hl⟩, _⟩ := h
    rw [hd] at hd'
    cases hd'
    rw [← r.length, hl, hnp]
  · obtain ⟨wf, F, G, am, om, ds, M, r, ⟨d', hd', hl⟩, post⟩ := h
    rw [hd] at hd'
    cases hd'
    refine ⟨rdS K L (tab p wf n) (fun cls d _ H => E cls d H) ⟨F, none⟩ G am d.body, body wf cdv A outer s H E hr _ _ _, slots d ds, om, ⟨F, G, am, Ex.refl, Grow.refl, M, ?_, fun i c a h1 h2 => ?_, fun i c fs h1 => ?_⟩, ?_⟩
    · have e1 : L2.start N vs = vs.map some ++ List.replicate (d.nl - d.np) none := by
        unfold L2.start
        rw [hnl, ← r.length, hl]
      rw [e1]
      exact slr_start r _
    · rw [no_own h1] at h2
      cases h2
    · have z := no_own h1
      cases z
    · have e : callN p wf (n + 1) f ds om = match evS (tab p wf n) d.body (slots d ds) om with
          | .ret x om' => if p.fresh f = true then .stuck else .ok x om'
          | .retF xs om' => .ok (.lst xs) om'
          | .next _ om' => if p.fresh f = true then .stuck else .ok .non om'
          | .exc c fs _ om' => .exc c fs om'
          | _ => .stuck := by
        rw [callN, hd]
        dsimp only
        rw [if_pos hl]
        rfl
      rw [e] at post
      cases q : evS (tab p wf n) d.body (slots d ds) om with
      | stuck => rw [q] at post; split at post <;> exact post
      | brk sl om => rw [q] at post; split at post <;> exact post.elim
      | cnt sl om => rw [q] at post; split at post <;> exact post.elim
      | exc c fs sl om' =>
        rw [q] at post
        intro cv dd σ H' F' G' am' R er
        split at post
        · exact post cv dd H' G' am' R.g (R.mem.less R.f0) er
        · exact post cv dd H' G' am' R.g (R.mem.less R.f0) er
      | next sl om' =>
        rw [q] at post
        rintro σ H' ⟨F', G', am', R⟩
        split at post
        · exact post.elim
        · exact post .non H' G' am' R.g (R.mem.less R.f0) .non
      | ret x om' =>
        rw [q] at post
        intro v H' G' am' g M' rr
        split at post
        · exact post.elim
        · exact post v H' G' am' g M' rr
      | retF xs om' =>
        rw [q] at post
        intro q' ws H' G' am' g hF M' rr
        split at post
        · obtain ⟨ds', e', post⟩ := post
          cases e'
          exact post q' ws H' G' am' g hF M' rr
        · have hg : G' q' = none := M'.fg _ _ upd_same
          refine post (.ref q') H' (upd G' q' (.lst ws)) am' (g.trans (Grow.of hg)) (M'.freeze upd_same fun a u e => ?_) (.lst upd_same (rr.up (Grow.of hg)))
          have hne : a ≠ q' := fun z => by
            rw [z] at e
            have e' : F q' = some u := e
            have hF' : F q' = none := hF
            rw [hF'] at e'
            cases e'
          exact ⟨by rw [upd_ne hne]; exact e, hne⟩
/-- the maker of a frozen instance -/
theorem fnI_ok {x qual : Str} {st : Stmt} {fd : FuncData} {N ps : List Str} {f c : Nat} {d : Def} {a : Addr} (Fn : FunA K x qual st a fd) (S : FnScope N ps (defScope st)) (hd : p.defs f = some d) (hc : d.cls = some c) (hnp : d.np = ps.length) (hnl : d.nl = N.length) (hle : ps.length ≤ N.length)
    (body : ∀ (wf : Nat) (cdv : Value) (A : Around) (outer : List Env) (s : Shared) (H : Hp) (E : XK), Room (2 * n + 1) (A.deeper (envOfC qual (defScope st) s.heap.objs.size a cdv)) →
      QSs (cxF P w K mg base N qual st a cdv A outer s H E) L (tab p wf n) (fun cls d _ H => E cls d H) (defBody st) d.body) :
    FnOk P w K mg base (L2.CX P w) (2 * (n + 1)) a fd ps (spI K L p (n + 1) f) := by
  refine Fn.okX (k := 2 * n + 1) S (fun vs H Q E h => ?_) (fun cdv A outer s H vs Q E hr h => ?_)
  · obtain ⟨wf, F, G, am, om, ds, c', x', dx, us, rfl, M, hF, r, ⟨d', hd', _, hl⟩, _⟩ := h
    rw [hd] at hd'
    cases hd'
    rw [List.length_cons, ← r.length, hl, hnp]
  · obtain ⟨wf, F, G, am, om, ds, c', x', dx, us, rfl, M, hF, r, ⟨d', hd', hc', hl⟩, post⟩ := h
    rw [hd] at hd'
    cases hd'
    rw [hc] at hc'
    cases hc'
    have eF : Ex (fun b => if b = x' then none else F b) F := fun b o h => by
      dsimp only at h
      split at h
      · cases h
      · exact h
    refine ⟨rdS K L (tab p wf n) (fun cls d _ H => E cls d H) ⟨fun b => if b = x' then none else F b, some (x', dx)⟩ G am d.body, body wf cdv A outer s H E hr _ _ _, .newo c [] :: (ds.map .val ++ List.replicate (d.nl - d.np) .no), om, ⟨F, G, am, eF, Grow.refl, M, ?_, fun i c1 a1 h1 h2 h3 => ?_, fun i c1 fs h1 => ?_⟩, ?_⟩
    · have e1 : L2.start N (V.ref x' :: us) = some (V.ref x') :: (us.map some ++ List.replicate (d.nl - d.np) none) := by
        unfold L2.start
        rw [List.map_cons, List.length_cons, hnl, ← r.length, hl]
        rfl
      rw [e1]
      obtain ⟨z1, z2⟩ := slr_start (F := F) r (d.nl - d.np)
      refine ⟨by rw [List.length_cons, List.length_cons, z1], fun i c1 o h1 h2 => ?_⟩
      cases i with
      | zero =>
        cases h1
        cases h2
        exact ⟨x', dx, [], rfl, by rw [List.zip_nil_right]; exact hF, Nat.zero_le _, .nil⟩
      | succ i => exact z2 i c1 o h1 h2
    · cases i with
      | zero =>
        cases h1
        have e : a1 = x' := by
          have h3' : some (some (V.ref x')) = some (some (V.ref a1)) := h3
          cases h3'
          rfl
        subst e
        refine ⟨if_pos rfl, fun j c2 hj g1 g2 => ?_⟩
        cases j with
        | zero => exact absurd rfl hj
        | succ j =>
          rw [no_own g1] at g2
          cases g2
      | succ i =>
        rw [no_own h1] at h2
        cases h2
    · cases i with
      | zero =>
        cases h1
        exact ⟨x', dx, [], rfl, by rw [List.zip_nil_right]; exact hF, rfl⟩
      | succ i =>
        have z := no_own h1
        cases z
    · have e : initN p wf (n + 1) f ds om = match evS (tab p wf n) d.body (.newo c [] :: (ds.map .val ++ List.replicate (d.nl - d.np) .no)) om with
          | .next sl om' => match sl[(0 : Nat)]? with
            | some (.newo c' fs) => if c' = c then .ok fs om' else .stuck
            | _ => .stuck
          | .exc c fs _ om' => .exc c fs om'
          | _ => .stuck := by
        rw [initN, hd]
        dsimp only
        rw [hc]
        dsimp only
        rw [if_pos hl]
        rfl
      rw [e] at post
      cases q : evS (tab p wf n) d.body (.newo c [] :: (ds.map .val ++ List.replicate (d.nl - d.np) .no)) om with
      | stuck => rw [q] at post; exact post
      | brk sl om => rw [q] at post; exact post.elim
      | cnt sl om => rw [q] at post; exact post.elim
      | ret x om => rw [q] at post; exact post.elim
      | retF x om => rw [q] at post; exact post.elim
      | exc c1 fs sl om' =>
        rw [q] at post
        intro cv dd σ H' F' G' am' R er
        exact post cv dd H' G' am' R.g (R.mem.less R.f0) er
      | next sl om' =>
        rw [q] at post
        rintro σ H' ⟨F', G', am', R⟩
        dsimp only at post
        cases q0 : sl[(0 : Nat)]? with
        | none => rw [q0] at post; exact post.elim
        | some c0 =>
          rw [q0] at post
          cases c0 with
          | no => exact post.elim
          | val _ => exact post.elim
          | own _ => exact post.elim
          | exn => exact post.elim
          | newo c1 fs =>
            dsimp only at post
            by_cases hcc : c1 = c
            · subst hcc
              rw [if_pos rfl] at post
              obtain ⟨o, ho, a1, dx1, ws, rfl, hF1, _, rr⟩ := R.slr.at q0
              obtain ⟨x2, dx2, ws2, e1, e2, e3⟩ := R.slf _ _ _ q0
              rw [ho] at e1
              cases e1
              cases e3
              rw [hF1] at e2
              have edx : dx1 = dx := by injection e2 with e2; injection e2
              subst edx
              refine post ws H' G' am' R.g (R.mem.less fun b o hb => ?_) rr
              by_cases cb : b = x'
              · subst cb
                rw [upd_same] at hb
                rw [← hb]
                exact hF1
              · rw [upd_ne cb] at hb
                refine R.f0 b o ?_
                show (if b = x' then none else F b) = _
                rw [if_neg cb]
                exact hb
            · rw [if_neg hcc] at post
              exact post.elim
end
end PD

set_option Elab.async false
set_option linter.all false
set_option maxRecDepth 100000
set_option maxHeartbeats 400000
/-! PDP: own exceptions: raised, caught. -/
namespace PD
open PySem PySem.Spec PyProof.Rows L2
/-- L at a caught exception -/
def Lk.wx (L : Lk) (x : Option (Addr × Option (Addr × Str × V))) : Lk := { L with xa := x }
section
variable {K : PySem.W.Frag} {L L' : Lk} {F G H : Hp} {am : List Addr} {om : Om}
mutual
theorem rep_sw (hc : L'.ca = L.ca) (hf : L'.fn = L.fn) : ∀ (d : D) (v : V), Rep K L G am d v → Rep K L' G am d v
  | _, _, .non => .non
  | _, _, .bl b => .bl b
  | _, _, .int i => .int i
  | _, _, .str s => .str s
  | .lst ds, _, .lst h r => .lst h (repL_sw hc hf ds _ r)
  | .tup ds, _, .tup h r => .tup h (repL_sw hc hf ds _ r)
  | .obj c fs, _, .obj h n r => .obj (by rw [hc, hf]; exact h) (by rw [hf]; exact n) (repL_sw hc hf fs _ r)
  | _, _, .amb h => .amb h
  | .scr ds, _, .scr h r => .scr h (repL_sw hc hf ds _ r)
theorem repL_sw (hc : L'.ca = L.ca) (hf : L'.fn = L.fn) : ∀ (ds : List D) (vs : List V), RepL K L G am ds vs → RepL K L' G am ds vs
  | _, _, .nil => .nil
  | d :: ds, v :: vs, .cons h r => .cons (rep_sw hc hf d v h) (repL_sw hc hf ds vs r)
end
theorem obR_sw (hc : L'.ca = L.ca) (hf : L'.fn = L.fn) {o : Ob} {a : Addr} (h : ObR K L G am H o a) : ObR K L' G am H o a := by
  cases o with
  | pl ds =>
    obtain ⟨vs, h1, r⟩ := h
    exact ⟨vs, h1, repL_sw hc hf _ _ r⟩
  | ob c fs =>
    unfold ObR at h ⊢
    rw [hc, hf]
    first
      | (obtain ⟨dx, vs, h1, h2, r⟩ := h; exact ⟨dx, vs, h1, h2, repL_sw hc hf _ _ r⟩)
      | (obtain ⟨dx, vs, h1, r⟩ := h; exact ⟨dx, vs, h1, repL_sw hc hf _ _ r⟩)
  | dc ks ds =>
    obtain ⟨vs, h1, n, r⟩ := h
    exact ⟨vs, h1, n, repL_sw hc hf _ _ r⟩
theorem mem_sw (hc : L'.ca = L.ca) (hf : L'.fn = L.fn) (M : Mem K L F G am om H) : Mem K L' F G am om H :=
  ⟨M.gH, M.fH, M.fg, M.len, fun k a o h1 h2 => obR_sw hc hf (M.obs k a o h1 h2), M.nd, M.ag, M.af⟩
theorem slR_sw (hc : L'.ca = L.ca) (hf : L'.fn = L.fn) {sl : Sl} {σ : L2.St} (h : SlR K L F G am sl σ) : SlR K L' F G am (unx sl) σ := by
  refine ⟨by rw [unx, List.length_map]; exact h.1, fun i c o h1 h2 => ?_⟩
  rw [unx, List.getElem?_map] at h1
  cases q : sl[i]? with
  | none => rw [q] at h1; cases h1
  | some c0 =>
    rw [q] at h1
    cases h1
    have z := h.2 i c0 o q h2
    cases c0 with
    | no => trivial
    | val d =>
      obtain ⟨v, e, r⟩ := z
      exact ⟨v, e, rep_sw hc hf _ _ r⟩
    | own ds =>
      obtain ⟨a, vs, e, f, r⟩ := z
      exact ⟨a, vs, e, f, repL_sw hc hf _ _ r⟩
    | newo c fs =>
      obtain ⟨a, dx, vs, e, f, n, r⟩ := z
      exact ⟨a, dx, vs, e, by rw [hc, hf]; exact f, by rw [hf]; exact n, repL_sw hc hf _ _ r⟩
    | exn => trivial
theorem unx_get {sl : Sl} {i : Nat} {c : Cell} (h : (unx sl)[i]? = some c) : ∃ c0, sl[i]? = some c0 ∧ (c = c0 ∨ c = .no) := by
  rw [unx, List.getElem?_map] at h
  cases q : sl[i]? with
  | none => rw [q] at h; cases h
  | some c0 =>
    rw [q] at h
    cases h
    cases c0 with
    | exn => exact ⟨_, rfl, .inr rfl⟩
    | no => exact ⟨_, rfl, .inl rfl⟩
    | val d => exact ⟨_, rfl, .inl rfl⟩
    | own d => exact ⟨_, rfl, .inl rfl⟩
    | newo c d => exact ⟨_, rfl, .inl rfl⟩
theorem stR_sw (hc : L'.ca = L.ca) (hf : L'.fn = L.fn) {F0 : FB} {G0 : Hp} {am0 : List Addr} {sl : Sl} {σ : L2.St} (R : StR K L F0 G0 am0 sl om σ H F G am) : StR K L' F0 G0 am0 (unx sl) om σ H F G am := by
  refine ⟨R.f0, R.g, mem_sw hc hf R.mem, slR_sw hc hf R.slr, fun i c a h1 h2 h3 => ?_, fun i c fs h1 => ?_⟩
  · obtain ⟨c0, q, e⟩ := unx_get h1
    rcases e with rfl | rfl
    · obtain ⟨y1, y2⟩ := R.own i c a q h2 h3
      refine ⟨y1, fun j c' hj g1 g2 => ?_⟩
      obtain ⟨c1, q1, e1⟩ := unx_get g1
      rcases e1 with rfl | rfl
      · exact y2 j c' hj q1 g2
      · cases g2
    · cases h2
  · obtain ⟨c0, q, e⟩ := unx_get h1
    rcases e with rfl | e
    · rw [hc, hf]
      exact R.slf i c fs q
    · cases e
end
section
variable {X : Cx} {L : Lk} {p : Prog} {fi : Nat → FI} {n wf : Nat} {W : WX} {T : Tb}
theorem qs_never {sts : List Stmt} : QSs X L T W sts .never := fun F0 G0 am0 => ⟨fun pins s σ H D I ⟨sl, om, k, o⟩ => o.elim⟩
/-- raise C('text'), C without fields -/
theorem q_rais0 {x m : Str} {j c : Nat} {pp p2 pos pos' : Pos} {B newId initId : String} {bmB : List Value} (hcalm : X.calm = true) (tk : Takes X W) (F : ExcBaseFacts B newId initId bmB) (q : PySem.W.excIn X.K (L.ca c) bmB newId = true) (gC : X.mg x = some (.ref (L.ca c)))
    (kC : PySem.W.keepIn X.K (.ref (L.ca c)) = true) (r : Raises X (.ref (L.ca c))) (hg : Gl X x) (hdb : (x == ("__debug__" : Str)) = false := by decide) :
    QS X L T W (.Raise (some (.Call (.Name x pp) [.Constant (.str m) j p2] [] pos)) none pos') (.rais c .nil) := fun F0 G0 am0 =>
  (ps_raise hcalm tk (pmk_own F q gC kC r hg hdb)).imp fun D σ H ⟨sl, om, ⟨F, G, am, R⟩, o⟩ => by
    have e : evS T (.rais c .nil) sl om = .exc c [] sl om := by
      rw [evS, evL]
      rfl
    rw [e] at o
    exact o _ _ σ H F G am R ⟨rfl, rfl⟩
/-- what is known of a caught exception's field -/
def XfR (K : PySem.W.Frag) (L : Lk) (c : Nat) (fs : List D) (d : Option Addr) (xf : Option (Addr × Str × V)) : Prop := match fs with
  | [] => d = none ∧ xf = none
  | d0 :: _ => ∃ dd v nm G am, d = some dd ∧ (L.fn c).head? = some nm ∧ xf = some (dd, nm, v) ∧ Rep K L G am d0 v
theorem aft_out {K : PySem.W.Frag} {W W0 : WX} {F0 : FB} {G0 : Hp} {am0 : List Addr} {Dn : Ends} {i : Nat} {o : Out} {x : Option (Addr × Option (Addr × Str × V))} (h : OutP K L F0 G0 am0 W Dn (aft i o)) :
    OutP K (L.wx x) F0 G0 am0 W0 { nx := fun σ' H' => Dn.nx (σ'.set i none) H', rt := Dn.rt, bk := fun σ' H' => Dn.bk (σ'.set i none) H', ct := fun σ' H' => Dn.ct (σ'.set i none) H' } o := by
  have st : ∀ {sl : Sl} {om : Om} {σ : L2.St} {H : Hp}, StOk K (L.wx x) F0 G0 am0 sl om σ H → StOk K L F0 G0 am0 (unx (sl.set i .no)) om (σ.set i none) H := fun ⟨F, G, am, R⟩ =>
    ⟨F, G, am, stR_sw (L := L.wx x) (L' := L) rfl rfl (R.setVal (i := i) (c := .no) (o := none) rfl trivial)⟩
  cases o with
  | stuck => exact h
  | exc c fs sl om => exact h.elim
  | next sl om => exact fun σ H k => h _ _ (st k)
  | brk sl om => exact fun σ H k => h _ _ (st k)
  | cnt sl om => exact fun σ H k => h _ _ (st k)
  | ret d om => exact fun v H G am g M r => h v H G am g (mem_sw (L := L.wx x) rfl rfl M) (rep_sw (L := L.wx x) (L' := L) rfl rfl _ _ r)
  | retF ds om => exact fun p vs H G am g hn M r => h p vs H G am g hn (mem_sw (L := L.wx x) rfl rfl M) (repL_sw (L := L.wx x) (L' := L) rfl rfl _ _ r)
/-- try .. except c as n -/
theorem q_try {x nm : Str} {cc : Nat} {i : Nat} {body suite : List Stmt} {b₀ : Stmt} {np pos pos' : Pos} {sb : S} {cs : Nat → Option Bool} {hd : Nat → List D → S}
    (hs : X.stack = X.env :: X.outer) (hf : X.env.frame = some X.env.locals) (hN : X.N.Nodup) (hi : X.N[i]? = some nm) (hln : X.env.kindOf nm = some .local) (hc : Names X x (.ref (L.ca cc))) (tk : Takes X W)
    (hcs : ∀ c b, cs c = some b → PySem.W.exmOne X.K (.ref (L.ca c)) (.ref (L.ca cc)) = some b)
    (hb : ∀ (W' : WX) (pn : List (Addr × Obj)) (xe : Value → Shared → Prop), Takes (X.tr pn xe) W' → PassesOwn (model X.prog X.w) X.A X.env xe → QSs (X.tr pn xe) L T W' body sb)
    (hsu : ∀ (c : Nat) (fs : List D) (a : Addr) (oe : Obj) (d : Option Addr) (pn : List (Addr × Obj)) (xf : Option (Addr × Str × V)), cs c = some true → Zc (.ref (L.ca c)) d oe → (∃ vs, oe.data = .fields vs) → XfR X.K L c fs d xf →
      QSs (X.suite a ((a, oe) :: pn)) (L.wx (some (a, xf))) T (fun _ _ _ _ => False) (b₀ :: suite) (hd c fs)) :
    QS X L T W (.Try body [.ExceptHandler (some (.Name x np)) (some nm) (b₀ :: suite) pos'] [] [] pos) (.tr sb cs i hd) := fun F0 G0 am0 => by
  refine (ps_try_as (Wout := W) (c := .ref (L.ca cc)) (i := i) (tb := fun W' => rdS X.K L T W' F0 G0 am0 sb)
    (ts := fun a cls d Dn σ H => ∃ (c : Nat) (fs : List D) (xf : Option (Addr × Str × V)), cls = .ref (L.ca c) ∧ cs c = some true ∧ XfR X.K L c fs d xf ∧ rdS X.K (L.wx (some (a, xf))) T (fun _ _ _ _ => False) F0 G0 am0 (hd c fs) Dn σ H)
    hs hf hN hi hln hc tk (fun W' pn xe t po => hb W' pn xe t po F0 G0 am0) (fun a oe cls d pn hz hv => ?_)).imp fun Dn σ H ⟨sl, om, k, o⟩ => ?_
  · refine ⟨fun pins s σ H Dn I h => ?_⟩
    obtain ⟨c, fs, xf, ec, hcc, hx, h⟩ := h
    subst ec
    exact (hsu c fs a oe d pn xf hcc hz hv hx F0 G0 am0).run pins s σ H Dn I h
  · refine ⟨sl, om, k, ?_⟩
    have e : evS T (.tr sb cs i hd) sl om = match evS T sb sl om with
      | .exc c fs sl om => match cs c with
        | some true => aft i (evS T (hd c fs) ((unx sl).set i .exn) om)
        | some false => .exc c fs sl om
        | none => .stuck
      | o => o := by rw [evS] <;> rfl
    rw [e] at o
    cases q : evS T sb sl om with
    | stuck => rw [q] at o; exact o
    | next sl' om' => rw [q] at o; exact o
    | brk sl' om' => rw [q] at o; exact o
    | cnt sl' om' => rw [q] at o; exact o
    | ret d om' => rw [q] at o; exact o
    | retF d om' => rw [q] at o; exact o
    | exc c fs sl1 om1 =>
      rw [q] at o
      dsimp only at o
      intro cv dd σ1 H1 F G am R er
      obtain ⟨ecv, er2⟩ := er
      subst ecv
      cases qc : cs c with
      | none => rw [qc] at o; exact o.elim
      | some b =>
        refine ⟨b, hcs c b qc, fun hbt a ha => ?_, fun hbf => ?_⟩
        · subst hbt
          rw [qc] at o
          have main : ∀ xf, XfR X.K L c fs dd xf → (∀ d2 nm v, xf = some (d2, nm, v) → G d2 = some (.xd [(nm, v)])) → ∃ (c' : Nat) (fs' : List D) (xf : Option (Addr × Str × V)), (Value.ref (L.ca c)) = .ref (L.ca c') ∧ cs c' = some true ∧ XfR X.K L c' fs' dd xf ∧
              rdS X.K (L.wx (some (a, xf))) T (fun _ _ _ _ => False) F0 G0 am0 (hd c' fs') { nx := fun σ' H' => Dn.nx (σ'.set i none) H', rt := Dn.rt, bk := fun σ' H' => Dn.bk (σ'.set i none) H', ct := fun σ' H' => Dn.ct (σ'.set i none) H' } (σ1.set i (some (.ref a))) H1 := fun xf hx hg =>
            ⟨c, fs, xf, rfl, qc, hx, (unx sl1).set i .exn, om1, ⟨F, G, am, (stR_sw (L := L) (L' := L.wx (some (a, xf))) rfl rfl R).setVal (i := i) (c := .exn) (o := some (.ref a)) rfl ⟨a, xf, rfl, rfl, hg⟩⟩, aft_out o⟩
          cases fs with
          | nil => exact main none ⟨er2, rfl⟩ fun _ _ _ e => by cases e
          | cons d0 fs =>
            obtain ⟨y, v, nm', e1, e2, e3, e4⟩ := er2
            exact main (some (y, nm', v)) ⟨y, v, nm', G, am, e1, e2, rfl, e4⟩ fun d2 nm2 v2 e => by cases e; exact e3
        · subst hbf
          rw [qc] at o
          exact o _ _ σ1 H1 F G am R ⟨rfl, er2⟩
end

/-! ### in the suite of a caught exception without fields -/
section
variable {X : Cx} {L : Lk} {T : Tb} {W : WX} {a D0 : Addr} {oe : Obj} {pn : List (Addr × Obj)} {xf : Option (Addr × Str × V)} {i : Nat} {nm : Str} {b : Bool} {p1 p3 pp pos : Pos} {c : Expr} {es : List Expr} {cv : V} {cvs : List V} {cu : Value} {cus : List Value} {x1 : Nat}
theorem kit_exc (C : ExcC X.K D0) (hz : Zc (.ref D0) none oe) (hf : ∃ vs, oe.data = .fields vs) {pins : List (Addr × Obj)} {σ : L2.St} {H : Hp} {s : Shared} (I : Inv (X.suite a ((a, oe) :: pn)) pins σ H s) : ∃ P : Heap → Prop, PySem.W.KitX X.K (.ref a) (.ref D0) P ∧ P s.heap := by
  have hp := (I.pin (a, oe) (List.mem_append_left _ (List.mem_cons_self ..))).1
  obtain ⟨fv, hfv⟩ := hf
  refine ⟨_, PySem.W.handS_kitx_exc (x := a) (ox := oe) C.hg C.hk C.hs C.hd C.ha C.hn C.ht C.hm, ⟨hp, hz.1, ?_, ?_⟩⟩
  · unfold PySem.W.notCls
    rw [hfv] <;> rfl
  · rw [hz.2]
    trivial
def rX1 (K : PySem.W.Frag) (D0 a : Addr) : List V → Hp → VK → Prop := fun xs H Q => ∃ (cv : V) (cu : Value) (b : Bool), xs = [.ref a, cv] ∧ ClsV cv cu ∧ PySem.W.kitOne K (.ref D0) cu = some b ∧ Q (.bl b) H
def rXT (K : PySem.W.Frag) (D0 a : Addr) : List V → Hp → VK → Prop := fun xs H Q => ∃ (tp : Addr) (cvs : List V) (cus : List Value) (b : Bool), xs = [.ref a, .ref tp] ∧ H tp = some (.tup cvs) ∧ Paired ClsV cvs cus ∧ PySem.W.kitAny K (.ref D0) cus = some b ∧ Q (.bl b) H
theorem call_x1 (C : ExcC X.K D0) (hz : Zc (.ref D0) none oe) (hf : ∃ vs, oe.data = .fields vs) : CallR (X.suite a ((a, oe) :: pn)) (.builtin "isinstance") (rX1 X.K D0 a) := by
  rintro pins s σ H xs us Q I r ⟨cv, cu, b, rfl, kc, e, q⟩
  obtain ⟨w1, w2, rfl, r1, r2⟩ := vals2 r
  obtain rfl : w1 = Value.ref a := r1
  have e2 := kc.eq r2
  subst e2
  obtain ⟨P, Z, hP⟩ := kit_exc C hz hf I
  exact PySem.W.kia_one Z I.kIn hP e (fun z => nomatch z) fun tk => ⟨.bl b, H, I.tok tk, rfl, q⟩
theorem call_xT (C : ExcC X.K D0) (hz : Zc (.ref D0) none oe) (hf : ∃ vs, oe.data = .fields vs) : CallR (X.suite a ((a, oe) :: pn)) (.builtin "isinstance") (rXT X.K D0 a) := by
  rintro pins s σ H xs us Q I r ⟨tp, cvs, cus, b, rfl, hT, kc, e, q⟩
  obtain ⟨w1, w2, rfl, r1, r2⟩ := vals2 r
  obtain rfl : w1 = Value.ref a := r1
  obtain rfl : w2 = Value.ref tp := r2
  obtain ⟨P, Z, hP⟩ := kit_exc C hz hf I
  obtain ⟨_, its, rv, ob, g1, g2, nn, g3⟩ := (show ObjOk X.prog X.w H s.heap tp (.tup cvs) from I.hok tp _ hT)
  have e3 := ClsV.all kc rv
  subst e3
  obtain ⟨ocl, odd, odt, osl⟩ := ob
  dsimp only at g2 g3
  subst g2 g3
  exact PySem.W.kia_tup Z I.kIn hP g1 e (fun z => nomatch z) fun tk => ⟨.bl b, H, I.tok tk, rfl, q⟩
theorem exn_at {K : PySem.W.Frag} {F G : Hp} {am : List Addr} {sl : Sl} {σ : L2.St} (S : SlR K (L.wx (some (a, xf))) F G am sl σ) (h : sl[i]? = some .exn) : σ[i]? = some (some (.ref a)) ∧ ∀ dd nm v, xf = some (dd, nm, v) → G dd = some (.xd [(nm, v)]) := by
  obtain ⟨o, ho, a', x, e1, e2, k⟩ := S.at h
  have e3 : some (a, xf) = some (a', x) := e1
  cases e3
  exact ⟨by rw [ho, e2], k⟩
theorem xf_cases {sl : Sl} {om : Om} {d : D} : (sl[i]? = some .exn ∧ evE T (.xf i d) sl om = .ok d om) ∨ evE T (.xf i d) sl om = .stuck := by
  rw [evE]
  split
  · rename_i h
    exact .inl ⟨h, rfl⟩
  · exact .inr rfl
/-- isinstance(e, C) -/
theorem pE_x1 (C : ExcC X.K D0) (hz : Zc (.ref D0) none oe) (hf : ∃ vs, oe.data = .fields vs) (hN : (X.suite a ((a, oe) :: pn)).N[i]? = some nm) (hv : Vis (X.suite a ((a, oe) :: pn)).env.scope nm) (hg : Gl (X.suite a ((a, oe) :: pn)) "isinstance") (hm : X.mg "isinstance" = none)
    (kc : ClsV cv cu) (hk : PySem.W.kitOne X.K (.ref D0) cu = some b) (hc : PE (X.suite a ((a, oe) :: pn)) c (tC cv)) (hdb : (nm == ("__debug__" : Str)) = false := by decide) (hcd : (nm == ("__classdict__" : Str)) = false := by decide)
    (he : starEach (.Name nm p1 :: [c]) X.env = (false, eval (.Name nm p1) X.env) :: starEach [c] X.env := by rfl) (he2 : starEach (c :: []) X.env = (false, eval c X.env) :: starEach [] X.env := by rfl) (hpl : (backTo pos (starEach [c] X.env)).any (·.1) = false := by rfl) :
    PE (X.suite a ((a, oe) :: pn)) (.Call (.Name "isinstance" pp) [.Name nm p1, c] [] pos) (rdE X.K (L.wx (some (a, xf))) T W (.xf i (.bl b))) :=
  (pe_callB (call_x1 C hz hf) hg hm rfl (pa_cons (pe_var hN hv hdb hcd) (pa_cons hc pa_nil he2) he) (by decide) (by decide) he hpl).imp fun σ H Q ⟨F, G, am, om, sl, M, S, q⟩ => by
    rcases xf_cases (T := T) (i := i) (sl := sl) (om := om) (d := .bl b) with ⟨h, e⟩ | e
    · rw [e] at q
      exact ⟨.ref a, (exn_at S h).1, cv, cu, b, rfl, kc, hk, q _ H G am Grow.refl M (.bl b)⟩
    · rw [e] at q
      exact q.elim
/-- isinstance(e, (C1, C2, ..)) -/
theorem pE_xT (C : ExcC X.K D0) (hz : Zc (.ref D0) none oe) (hf : ∃ vs, oe.data = .fields vs) (hN : (X.suite a ((a, oe) :: pn)).N[i]? = some nm) (hv : Vis (X.suite a ((a, oe) :: pn)).env.scope nm) (hg : Gl (X.suite a ((a, oe) :: pn)) "isinstance") (hm : X.mg "isinstance" = none)
    (kc : Paired ClsV cvs cus) (hk : PySem.W.kitAny X.K (.ref D0) cus = some b) (hl : cvs.length ≤ 1000) {ta : TA} (hc : PA (X.suite a ((a, oe) :: pn)) es ta) (hta : ∀ σ H (Q : List V → Hp → Prop), Q cvs H → ta σ H Q) (hdb : (nm == ("__debug__" : Str)) = false := by decide) (hcd : (nm == ("__classdict__" : Str)) = false := by decide)
    (he : starEach (.Name nm p1 :: [.Tuple es x1 p3]) X.env = (false, eval (.Name nm p1) X.env) :: starEach [.Tuple es x1 p3] X.env := by rfl) (he2 : starEach (.Tuple es x1 p3 :: []) X.env = (false, eval (.Tuple es x1 p3) X.env) :: starEach [] X.env := by rfl) (hpl : (backTo pos (starEach [.Tuple es x1 p3] X.env)).any (·.1) = false := by rfl) :
    PE (X.suite a ((a, oe) :: pn)) (.Call (.Name "isinstance" pp) [.Name nm p1, .Tuple es x1 p3] [] pos) (rdE X.K (L.wx (some (a, xf))) T W (.xf i (.bl b))) :=
  (pe_callB (call_xT C hz hf) hg hm rfl (pa_cons (pe_var hN hv hdb hcd) (pa_cons (pe_tup hc) pa_nil he2) he) (by decide) (by decide) he hpl).imp fun σ H Q ⟨F, G, am, om, sl, M, S, q⟩ => by
    rcases xf_cases (T := T) (i := i) (sl := sl) (om := om) (d := .bl b) with ⟨h, e⟩ | e
    · rw [e] at q
      refine ⟨.ref a, (exn_at S h).1, hta _ _ _ ⟨sz_le (by omega), fun t ht => ⟨t, cvs, cus, b, rfl, upd_same, kc, hk, ?_⟩⟩⟩
      exact q _ _ _ am (Grow.of (M.none_g ht)) (M.new ht) (.bl b)
    · rw [e] at q
      exact q.elim
/-- e.f: a text or an int -/
theorem pE_xf {f : Str} {d : Option Addr} {d0 : D} {fs : List D} {cc : Nat} (TC : XfC X.K (L.ca cc)) (hno : PySem.W.findIn X.K (.ref (L.ca cc)) f = some none) (hz : Zc (.ref (L.ca cc)) d oe) (hf : ∃ vs, oe.data = .fields vs) (hx : XfR X.K L cc (d0 :: fs) d xf) (hfn : (L.fn cc).head? = some f)
    (hflat : (∃ t, d0 = .str t) ∨ (∃ z, d0 = .int z)) (hN : (X.suite a ((a, oe) :: pn)).N[i]? = some nm) (hv : Vis (X.suite a ((a, oe) :: pn)).env.scope nm) (hdb : (nm == ("__debug__" : Str)) = false := by decide) (hcd : (nm == ("__classdict__" : Str)) = false := by decide)
    (hb : attributeBase (.Name nm p1) f X.env (eval (.Name nm p1) X.env) = eval (.Name nm p1) X.env := by rfl) :
    PE (X.suite a ((a, oe) :: pn)) (.Attribute (.Name nm p1) f pos) (rdE X.K (L.wx (some (a, xf))) T W (.xf i d0)) :=
  (pe_xf TC hno hz hf (pe_var hN hv hdb hcd) hb).imp fun σ H Q ⟨F, G, am, om, sl, M, S, q⟩ => by
    rcases xf_cases (T := T) (i := i) (sl := sl) (om := om) (d := d0) with ⟨h, e⟩ | e
    · rw [e] at q
      obtain ⟨dd, v, nm', G', am', e1, e2, e3, e4⟩ := hx
      have e5 : nm' = f := by
        rw [hfn] at e2
        exact (Option.some.inj e2).symm
      subst e5
      obtain ⟨z1, z2⟩ := exn_at S h
      refine ⟨.ref a, z1, rfl, rfl, dd, [(nm', v)], v, e1, M.gH _ _ (z2 _ _ _ e3), by simp [List.lookup], ?_⟩
      rcases hflat with ⟨t, rfl⟩ | ⟨t, rfl⟩
      · cases e4
        exact q _ H G am Grow.refl M (.str t)
      · cases e4
        exact q _ H G am Grow.refl M (.int t)
    · rw [e] at q
      exact q.elim
end
end PD

set_option Elab.async false
set_option linter.all false
set_option maxRecDepth 100000
set_option maxHeartbeats 400000
/-! PDQ: lists in the store as values. -/
namespace PD
open PySem PySem.Spec PyProof.Rows L2
section
variable {X : Cx} {L : Lk} {p : Prog} {fi : Nat → FI} {n wf : Nat} {W : WX} {T : Tb} {i : Nat} {ea eo ee : E} {a o e : Expr} {pos apos cpos : Pos}
/-- a new list goes into the store -/
theorem pE_nl (h : PE X a (rdF X.K L T W ea)) : PE X a (rdE X.K L T W (.nl ea)) := h.imp fun σ H Q ⟨F, G, am, om, sl, M, S, pp⟩ => ⟨F, G, am, om, sl, M, S, by
  have e : evE T (.nl ea) sl om = (evE T ea sl om).bind fun d om => match d with | .lst ds => .ok (.amb om.length) (om ++ [.pl ds]) | _ => .stuck := by rw [evE] <;> rfl
  rw [e] at pp
  cases q : evE T ea sl om with
  | stuck => rw [q] at pp; exact pp
  | exc c fs om1 => rw [q] at pp; exact pp
  | ok d om1 =>
    rw [q] at pp
    cases d with
    | lst ds =>
      refine ⟨ds, rfl, fun r vs H1 G1 am1 g hp M1 rr => ?_⟩
      have gA : Grow G1 am1 G1 (am1 ++ [r]) := ⟨Ex.refl, [r], rfl⟩
      have M2 : Mem X.K L F G1 (am1 ++ [r]) (om1 ++ [.pl ds]) H1 := M1.toA hp ⟨vs, M1.fH _ _ upd_same, rr.up gA⟩
      have hk : (am1 ++ [r])[om1.length]? = some r := by
        rw [← M1.len, List.getElem?_append_right (Nat.le_refl _), Nat.sub_self]
        rfl
      exact pp (.ref r) H1 G1 (am1 ++ [r]) (g.trans gA) M2 (.amb hk)
    | non => exact pp.elim
    | bl _ => exact pp.elim
    | int _ => exact pp.elim
    | str _ => exact pp.elim
    | tup _ => exact pp.elim
    | obj _ _ => exact pp.elim
    | amb _ => exact pp.elim
    | scr _ => exact pp.elim⟩
theorem q_appE {apos2 : Pos} (ho : PE X o (rdE X.K L T W eo)) (he : PE X e (rdE X.K L T W ee))
    (hp : ∀ {to : TE} {t : TA}, PE X o to → PA X [e] t → PS X (.Expr (.Call (.Attribute o "append" apos2) [e] [] cpos) pos) (tDrop (tBM X.K "list" rAppend to t))) (hs : starEach (e :: []) X.env = (false, eval e X.env) :: starEach [] X.env := by rfl) : QS X L T W (.Expr (.Call (.Attribute o "append" apos2) [e] [] cpos) pos) (.appE eo ee) := fun F0 G0 am0 =>
  (hp ho (pa_cons he pa_nil hs)).imp fun D σ H ⟨sl, om, ⟨F, G, am, R⟩, oo⟩ => by
    simp only [evS] at oo
    refine ⟨F, G, am, om, sl, R.mem, R.slr, out_post R oo fun rr om0 v0 H0 G2 am2 g0 R0 rv o0 => ?_⟩
    split at o0
    · rename_i k
      split at o0
      · rename_i ds0 h1
        cases rv with
        | @amb _ q hk =>
          obtain ⟨vs0, hq0, _⟩ := R0.mem.obs _ _ _ hk h1
          refine ⟨.inl ⟨rfl, vs0, SqL.of hq0⟩, F, G2, am2, om0, sl, R0.mem, R0.slr, out_post R0 o0 fun d om1 v H1 G1 am1 g R1 r1 o1 => ?_⟩
          split at o1
          · rename_i ds h2
            obtain ⟨vs, hq, r⟩ := R1.mem.obs _ _ _ (g.get hk) h2
            split at o1
            · rename_i hlt
              exact ⟨q, vs, v, rfl, rfl, hq, sz_lt (by rw [← r.length]; exact hlt), o1 σ _ ⟨_, G1, am1, R1.setMem (R1.mem.setA (g.get hk) ⟨_, upd_same, r.append (.cons r1 .nil)⟩)⟩⟩
            · exact o1.elim
          · exact o1.elim
      · exact o0.elim
    · exact o0.elim
/-! ### a written tuple that is looked into -/
theorem pB_inK {x : Str} {ka : Addr} {ss : List Str} {pp pos : Pos} {T : Tb} (o : Cop) (ho : o = .inn ∨ o = .nin) (hg : Gl X x) (hm : X.mg x = some (.ref ka)) (hk : ∀ H, SqT X.K H ka (ss.map V.str)) (ha : PE X a (rdB X.K L T W ea)) (hd : (x == ("__debug__" : Str)) = false := by decide) (hmk : behindInMarks o.py (.Name x pp) = false := by with_unfolding_all rfl) :
    PE X (.Compare a [o.py] [.Name x pp] pos) (rdE X.K L T W (.cm o ea (.k (.tup (ss.map D.str))))) ∧ PT X (.Compare a [o.py] [.Name x pp] pos) (rdT X.K L T W (.cm o ea (.k (.tup (ss.map D.str))))) := by
  have hn : PE X (.Name x pp) (tC (.ref ka)) := pe_glob hg hm rfl hd
  have hps : ∀ ss : List Str, toPs (ss.map D.str) = some (ss.map PyData.str) := by
    intro ss
    induction ss with
    | nil => rfl
    | cons s r ih => rw [List.map_cons, toPs, ih]; rfl
  have hfl : ∀ ss : List Str, (ss.map D.str).all flatD = true := fun ss => by simp [flatD]
  have hfv : ∀ ss : List Str, (ss.map V.str).all flatV = true := fun ss => by simp [flatV]
  have key : ∀ (b : Bool) (F G : Hp) (am : List Addr) (d : D) (v : V) (H : Hp) (om : Om), Mem X.K L F G am om H → RepB X.K L F G am d v → inA d (.tup (ss.map D.str)) om = some b → flatV v = true ∧ inV v (ss.map V.str) = b := by
    intro b F G am d v H om M r h
    change inT d (ss.map D.str) = some b at h
    unfold inT at h
    split at h
    · rename_i hs
      rw [Bool.and_eq_true] at hs
      rw [hps ss] at h
      split at h
      · rename_i q qs h1 h2
        cases h2
        cases h
        have r' : Rep X.K L G am d v := by
          rcases r with r | ⟨_, _, _, rfl, _⟩
          · exact r
          · cases hs.1
        have rs : ∀ ss : List Str, RepL X.K L G am (ss.map D.str) (ss.map V.str) := fun ss => strs_rep ss
        have z := inV_of r' hs.1 h1 (rs ss) (hfl ss) (hps ss)
        exact ⟨(flat_v r' hs.1 h1).1, z.2⟩
      · cases h
    · cases h
  have ev : ∀ sl om, evE T (.cm o ea (.k (.tup (ss.map D.str)))) sl om = (evE T ea sl om).bind fun x om => (cmp T o x (.tup (ss.map D.str)) om).bind fun c om => .ok (.bl c) om := fun sl om => rfl
  rcases ho with rfl | rfl
  · have fin : ∀ {σ : L2.St} {H : Hp} {Q : VK} {F G : Hp} {am : List Addr} {om : Om} {sl : Sl}, Mem X.K L F G am om H → SlR X.K L F G am sl σ → Post X.K L (Rep X.K L) F G am (evE T (.cm .inn ea (.k (.tup (ss.map D.str)))) sl om) (fun cv dd H => W cv dd σ H) Q →
        tOp (rIn X.K false) (rdB X.K L T W ea) (tC (.ref ka)) σ H Q := by
      intro σ H Q F G am om sl M S pp
      rw [ev] at pp
      exact ⟨F, G, am, om, sl, M, S, Post.bind pp fun d om1 v H1 G1 am1 g1 M1 r1 p1 => by
        obtain ⟨b, e, q⟩ : ∃ b, inA d (.tup (ss.map D.str)) om1 = some b ∧ Post X.K L (Rep X.K L) F G1 am1 (.ok (.bl b) om1) (fun cv dd H => W cv dd σ H) Q := by
          change Post X.K L (Rep X.K L) F G1 am1 ((opt (inA d (.tup (ss.map D.str)) om1) om1).bind _) _ _ at p1
          cases z : inA d (.tup (ss.map D.str)) om1 with
          | none => rw [z] at p1; exact p1.elim
          | some b => rw [z] at p1; exact ⟨b, rfl, p1⟩
        obtain ⟨f1, f2⟩ := key b F G1 am1 d v H1 om1 M1 r1 e
        refine ⟨ka, ss.map V.str, rfl, .inr (hk _), f1, hfv ss, ?_⟩
        rw [f2]
        exact q _ H1 G1 am1 Grow.refl M1 (.bl b)⟩
    refine ⟨(pe_cmpR op_in_seq ha hn hmk).imp fun σ H Q ⟨F, G, am, om, sl, M, S, pp⟩ => fin M S pp, (pt_cmpR op_in_seq ha hn hmk).imp fun σ H Q ⟨F, G, am, om, sl, M, S, pp⟩ => ?_⟩
    refine fin (Q := fun v H => ∃ b, v = .bl b ∧ Q b H) M S ?_
    unfold evT at pp
    cases z : evE T (.cm .inn ea (.k (.tup (ss.map D.str)))) sl om with
    | stuck => rw [z] at pp; exact pp.elim
    | exc c fs om1 => rw [z] at pp; exact pp
    | ok d om1 =>
      rw [z] at pp
      intro v H1 G1 am1 g1 M1 r1
      have hb : ∃ b, d = .bl b := by
        rw [ev] at z
        cases z1 : evE T ea sl om with
        | stuck => rw [z1] at z; cases z
        | exc c fs om1 => rw [z1] at z; cases z
        | ok d1 om2 =>
          rw [z1] at z
          change ((opt (inA d1 (.tup (ss.map D.str)) om2) om2).bind fun c om => Rs.ok (D.bl c) om) = _ at z
          cases z2 : inA d1 (.tup (ss.map D.str)) om2 with
          | none => rw [z2] at z; cases z
          | some b => rw [z2] at z; cases z; exact ⟨b, rfl⟩
      obtain ⟨b, rfl⟩ := hb
      cases r1
      exact ⟨b, rfl, pp b H1 G1 am1 g1 M1 rfl⟩
  · have fin : ∀ {σ : L2.St} {H : Hp} {Q : VK} {F G : Hp} {am : List Addr} {om : Om} {sl : Sl}, Mem X.K L F G am om H → SlR X.K L F G am sl σ → Post X.K L (Rep X.K L) F G am (evE T (.cm .nin ea (.k (.tup (ss.map D.str)))) sl om) (fun cv dd H => W cv dd σ H) Q →
        tOp (rIn X.K true) (rdB X.K L T W ea) (tC (.ref ka)) σ H Q := by
      intro σ H Q F G am om sl M S pp
      rw [ev] at pp
      exact ⟨F, G, am, om, sl, M, S, Post.bind pp fun d om1 v H1 G1 am1 g1 M1 r1 p1 => by
        obtain ⟨b, e, q⟩ : ∃ b, inA d (.tup (ss.map D.str)) om1 = some b ∧ Post X.K L (Rep X.K L) F G1 am1 (.ok (.bl (!b)) om1) (fun cv dd H => W cv dd σ H) Q := by
          change Post X.K L (Rep X.K L) F G1 am1 ((opt ((inA d (.tup (ss.map D.str)) om1).map (!·)) om1).bind _) _ _ at p1
          cases z : inA d (.tup (ss.map D.str)) om1 with
          | none => rw [z] at p1; exact p1.elim
          | some b => rw [z] at p1; exact ⟨b, rfl, p1⟩
        obtain ⟨f1, f2⟩ := key b F G1 am1 d v H1 om1 M1 r1 e
        refine ⟨ka, ss.map V.str, rfl, .inr (hk _), f1, hfv ss, ?_⟩
        rw [f2]
        exact q _ H1 G1 am1 Grow.refl M1 (.bl (!b))⟩
    refine ⟨(pe_cmpR op_notIn_seq ha hn hmk).imp fun σ H Q ⟨F, G, am, om, sl, M, S, pp⟩ => fin M S pp, (pt_cmpR op_notIn_seq ha hn hmk).imp fun σ H Q ⟨F, G, am, om, sl, M, S, pp⟩ => ?_⟩
    refine fin (Q := fun v H => ∃ b, v = .bl b ∧ Q b H) M S ?_
    unfold evT at pp
    cases z : evE T (.cm .nin ea (.k (.tup (ss.map D.str)))) sl om with
    | stuck => rw [z] at pp; exact pp.elim
    | exc c fs om1 => rw [z] at pp; exact pp
    | ok d om1 =>
      rw [z] at pp
      intro v H1 G1 am1 g1 M1 r1
      have hb : ∃ b, d = .bl b := by
        rw [ev] at z
        cases z1 : evE T ea sl om with
        | stuck => rw [z1] at z; cases z
        | exc c fs om1 => rw [z1] at z; cases z
        | ok d1 om2 =>
          rw [z1] at z
          change ((opt ((inA d1 (.tup (ss.map D.str)) om2).map (!·)) om2).bind fun c om => Rs.ok (D.bl c) om) = _ at z
          cases z2 : inA d1 (.tup (ss.map D.str)) om2 with
          | none => rw [z2] at z; cases z
          | some b => rw [z2] at z; cases z; exact ⟨_, rfl⟩
      obtain ⟨b, rfl⟩ := hb
      cases r1
      exact ⟨b, rfl, pp b H1 G1 am1 g1 M1 rfl⟩
theorem pE_inK {x : Str} {ka : Addr} {ss : List Str} {pp pos : Pos} {T : Tb} (o : Cop) (ho : o = .inn ∨ o = .nin) (hg : Gl X x) (hm : X.mg x = some (.ref ka)) (hk : ∀ H, SqT X.K H ka (ss.map V.str)) (ha : PE X a (rdB X.K L T W ea)) (hd : (x == ("__debug__" : Str)) = false := by decide) (hmk : behindInMarks o.py (.Name x pp) = false := by with_unfolding_all rfl) :
    PE X (.Compare a [o.py] [.Name x pp] pos) (rdE X.K L T W (.cm o ea (.k (.tup (ss.map D.str))))) := (pB_inK o ho hg hm hk ha hd hmk).1
theorem pT_inK {x : Str} {ka : Addr} {ss : List Str} {pp pos : Pos} {T : Tb} (o : Cop) (ho : o = .inn ∨ o = .nin) (hg : Gl X x) (hm : X.mg x = some (.ref ka)) (hk : ∀ H, SqT X.K H ka (ss.map V.str)) (ha : PE X a (rdB X.K L T W ea)) (hd : (x == ("__debug__" : Str)) = false := by decide) (hmk : behindInMarks o.py (.Name x pp) = false := by with_unfolding_all rfl) :
    PT X (.Compare a [o.py] [.Name x pp] pos) (rdT X.K L T W (.cm o ea (.k (.tup (ss.map D.str))))) := (pB_inK o ho hg hm hk ha hd hmk).2
theorem hu_room {n : Nat} (hr : Room (2 * n + 1) X.A) : X.A.units + 1 < cLine := by
  have := hr.un
  omega
/-! ### dicts of the store -/
theorem dg_val : ∀ {ks : List L2.Key} {ds : List D} {vs : List V} {k : L2.Key} {d : D} {K : PySem.W.Frag} {G : Hp} {am : List Addr}, ks.length = vs.length → RepL K L G am ds vs → dgD ks ds k = some d → ∃ v, valV (ks.zip vs) k = some v ∧ Rep K L G am d v
  | [], _, _, _, _, _, _, _, _, _, h => by simp [dgD] at h
  | k0 :: ks, [], _, _, _, _, _, _, _, _, h => by simp [dgD] at h
  | k0 :: ks, d0 :: ds, v0 :: vs, k, d, K, G, am, n, .cons r0 r, h => by
    rw [dgD] at h
    rw [List.zip_cons_cons]
    split at h
    · rename_i e
      cases h
      exact ⟨v0, valV_pos e, r0⟩
    · rename_i e
      rw [valV_neg e]
      exact dg_val (by simpa using n) r h
theorem dp_put : ∀ {ks : List L2.Key} {ds es : List D} {vs : List V} {k : L2.Key} {d : D} {v : V} {K : PySem.W.Frag} {G : Hp} {am : List Addr}, ks.Nodup → ks.length = vs.length → RepL K L G am ds vs → Rep K L G am d v → dpD ks ds k d = some es →
    ∃ ws, (∃ z, valV (ks.zip vs) k = some z) ∧ (ks.zip vs).map (fun kv => if kv.1 = k then (kv.1, v) else kv) = ks.zip ws ∧ ks.length = ws.length ∧ RepL K L G am es ws
  | [], _, _, _, _, _, _, _, _, _, _, _, _, _, h => by simp [dpD] at h
  | k0 :: ks, [], _, _, _, _, _, _, _, _, _, _, _, _, h => by simp [dpD] at h
  | k0 :: ks, d0 :: ds, es, v0 :: vs, k, d, v, K, G, am, nd, n, .cons r0 r, rd, h => by
    rw [dpD] at h
    rw [List.nodup_cons] at nd
    rw [List.zip_cons_cons, List.map_cons]
    split at h
    · rename_i e
      cases h
      refine ⟨v :: vs, ⟨v0, valV_pos e⟩, ?_, n, .cons rd r⟩
      rw [if_pos e, List.zip_cons_cons]
      refine congrArg _ ?_
      have : ∀ kv ∈ ks.zip vs, (if kv.1 = k then (kv.1, v) else kv) = kv := fun kv hm => by
        rw [if_neg]
        intro e2
        refine nd.1 ?_
        rw [e, ← e2]
        exact (List.of_mem_zip hm).1
      rw [List.map_congr_left this]
      simp
    · rename_i e
      cases q : dpD ks ds k d with
      | none => rw [q] at h; cases h
      | some es' =>
        rw [q] at h
        cases h
        obtain ⟨ws, ⟨z, hz⟩, h1, h2, h3⟩ := dp_put nd.2 (by simpa using n) r rd q
        refine ⟨v0 :: ws, ⟨z, by rw [valV_neg e]; exact hz⟩, ?_, by simpa using h2, .cons r0 h3⟩
        rw [if_neg e, List.zip_cons_cons]
        exact congrArg _ h1
theorem pE_dg {k : L2.Key} {b : Expr} (hu : X.A.units + 1 < cLine) (ho : PE X o (rdE X.K L T W eo)) (hb : PE X b (tC (kV k))) (hs : NoSl b) : PE X (.Subscript o b pos) (rdE X.K L T W (.dg eo k)) :=
  (pe_dget hu ho hb hs).imp fun σ H Q ⟨F, G, am, om, sl, M, S, pp⟩ => ⟨F, G, am, om, sl, M, S, Post.bind pp fun d om1 v H1 G1 am1 g1 M1 r1 p1 => by
    split at p1
    · rename_i j
      split at p1
      · rename_i ks ds hds
        split at p1
        · rename_i d hd
          cases r1 with
          | @amb _ a hk =>
            obtain ⟨vs, h1, n, r⟩ := M1.obs _ _ _ hk hds
            obtain ⟨w, hw, rw'⟩ := dg_val n.1 r hd
            refine ⟨a, w, rfl, ?_, p1 w H1 G1 am1 Grow.refl M1 rw'⟩
            have z := DGet.k (k := k) h1
            rw [hw] at z
            exact z
        · exact p1.elim
      · exact p1.elim
    · exact p1.elim⟩
theorem out_bind {α : Type} {r : Rs α} {sl : Sl} {f : α → Om → Out} : True := trivial
theorem q_dput {k : L2.Key} {b : Expr} {pos' : Pos} (hu : X.A.units + 1 < cLine) (ho : PE X o (rdE X.K L T W eo)) (hb : PE X b (tC (kV k))) (he : PE X e (rdE X.K L T W ee)) (hs : swapsWith e (some (.Subscript o b pos')) pos.line X.env = pure false := by rfl) :
    QS X L T W (.Assign [.Subscript o b pos'] e pos) (.dput eo k ee) := fun F0 G0 am0 => by
  exact (ps_dput hu ho hb he hs).imp fun D σ H ⟨sl, om, ⟨F, G, am, R⟩, oo⟩ => by
    simp only [evS] at oo
    refine ⟨F, G, am, om, sl, R.mem, R.slr, out_post R oo fun d om0 v0 H0 G2 am2 g0 R0 rv o0 => ?_⟩
    refine ⟨F, G2, am2, om0, sl, R0.mem, R0.slr, out_post R0 o0 fun r om1 v H1 G1 am1 g R1 r1 o1 => ?_⟩
    split at o1
    · rename_i j
      split at o1
      · rename_i ks ds hds
        split at o1
        · rename_i es hes
          cases r1 with
          | @amb _ a hk =>
            obtain ⟨vs, h1, n, r⟩ := R1.mem.obs _ _ _ hk hds
            obtain ⟨ws, ⟨z, hz⟩, e1, e2, e3⟩ := dp_put n.2.1 n.1 r (rv.up g) hes
            have hany : ((ks.zip vs).any fun kv => decide (kv.1 = k)) = true := by rw [valV_any, hz]; rfl
            have hput : putK (ks.zip vs) k v0 = ks.zip ws := by
              unfold putK
              rw [if_pos hany]
              exact e1
            have hlen : (ks.zip vs).length < sizeLine := by
              rw [List.length_zip, ← n.1, Nat.min_self]
              exact Nat.lt_of_le_of_lt n.2.2 (by decide)
            refine ⟨a, _, rfl, DPut.k h1 hlen, ?_⟩
            rw [hput]
            exact o1 σ _ ⟨_, G1, am1, R1.setMem (R1.mem.setA hk ⟨ws, upd_same, ⟨e2, n.2⟩, e3⟩)⟩
        · exact o1.elim
      · exact o1.elim
    · exact o1.elim
/-! ### a dict's display -/
theorem merge_nd : ∀ (ks : List L2.Key) (vs : List V) (acc : List (L2.Key × V)), ks.Nodup → (∀ k ∈ ks, ∀ kv ∈ acc, kv.1 ≠ k) → mergeK acc (ks.zip vs) = acc ++ ks.zip vs
  | [], _, acc, _, _ => by simp [mergeK]
  | k :: ks, [], acc, _, _ => by simp [mergeK]
  | k :: ks, v :: vs, acc, nd, h => by
    rw [List.nodup_cons] at nd
    rw [List.zip_cons_cons]
    show mergeK (putK acc k v) (ks.zip vs) = _
    have hn : valV acc k = none := by
      unfold valV
      rw [List.find?_eq_none.mpr fun kv hm => by simpa using h k (List.mem_cons_self ..) kv hm]
      rfl
    rw [putK_new v hn, merge_nd ks vs _ nd.2, List.append_assoc]
    · rfl
    · intro k' hk' kv hm
      rw [List.mem_append] at hm
      rcases hm with hm | hm
      · exact h k' (List.mem_cons_of_mem _ hk') kv hm
      · rw [List.mem_singleton] at hm
        subst hm
        exact fun e => nd.1 (by rw [show k = k' from e]; exact hk')
theorem Mem.lessQ {K : PySem.W.Frag} {L : Lk} {F F' G H : Hp} {am : List Addr} {om : Om} (e : Ex F F') (M : Mem K L F' G am om H) : Mem K L F G am om H :=
  ⟨M.gH, fun a o h => M.fH a o (e a o h), fun a o h => M.fg a o (e a o h), M.len, M.obs, M.nd, M.ag, fun a ha => by
    cases q : F a with
    | none => rfl
    | some o =>
      have z := M.af a ha
      rw [e a o q] at z
      cases z⟩
theorem SlR.more {K : PySem.W.Frag} {L : Lk} {F F' G : Hp} {am : List Addr} {sl : Sl} {σ : L2.St} (e : Ex F F') (h : SlR K L F G am sl σ) : SlR K L F' G am sl σ := ⟨h.1, fun i c o h1 h2 => by
  have z := h.2 i c o h1 h2
  cases c with
  | no => exact z
  | val d => exact z
  | own ds =>
    obtain ⟨a, vs, q1, q2, q3⟩ := z
    exact ⟨a, vs, q1, e _ _ q2, q3⟩
  | newo c fs =>
    obtain ⟨a, dx, vs, q1, q2, q3⟩ := z
    exact ⟨a, dx, vs, q1, e _ _ q2, q3⟩
  | exn => exact z⟩
def PDsp (X : Cx) (L : Lk) (T : Tb) (W : WX) (pos : Pos) (keys : List (Option Expr)) (values : List Expr) (ks : List L2.Key) (er : E) : Prop :=
  ∃ trs, PPs X pos keys values trs ∧ ∀ σ H (Q : List (V × V) → Hp → Prop), rdL X.K L T W er σ H (fun vs H2 => ks.length = vs.length → Q ((ks.zip vs).map (fun kv => (kV kv.1, kv.2))) H2) → tPairs trs σ H Q
theorem pD_nil : PDsp X L T W pos [] [] [] .nil := ⟨[], pps_nil, fun σ H Q ⟨F, G, am, om, sl, M, S, pp⟩ => pp [] H G am Grow.refl M .nil rfl⟩
theorem pD_cons {k : Str} {j : Nat} {p1 : Pos} {keys : List (Option Expr)} {values : List Expr} {ks : List L2.Key} {er : E} (ha : PE X a (rdE X.K L T W ea)) (hr : PDsp X L T W pos keys values ks er) :
    PDsp X L T W pos (some (.Constant (.str k) j p1) :: keys) (a :: values) (.inr k :: ks) (.cons ea er) := by
  obtain ⟨trs, h1, h2⟩ := hr
  refine ⟨(tC (.str k), rdE X.K L T W ea) :: trs, pps_cons pe_str ha h1, fun σ H Q ⟨F, G, am, om, sl, M, S, pp⟩ => ?_⟩
  show rdE X.K L T W ea σ H fun y H2 => tPairs trs σ H2 fun ps H3 => Q ((.str k, y) :: ps) H3
  refine ⟨F, G, am, om, sl, M, S, Post.bind (show Post X.K L (RepL X.K L) F G am ((evE T ea sl om).bind fun x om => (evL T er sl om).bind fun xs om => .ok (x :: xs) om) _ _ from pp) fun d om1 v H1 G1 am1 g1 M1 r1 p1 => ?_⟩
  exact h2 σ H1 _ ⟨F, G1, am1, om1, sl, M1, S.grow g1, p1.bind fun ds om2 vs H2 G2 am2 g2 M2 r2 p2 hlen => p2 _ H2 G2 am2 Grow.refl M2 (.cons (r1.up g2) r2) (by rw [List.length_cons, List.length_cons, hlen])⟩
theorem pE_dnw {keys : List (Option Expr)} {values : List Expr} {ks : List L2.Key} {er : E} (h : PDsp X L T W pos keys values ks er) (hall : keys.all (·.isSome) = true) (hl : keys.length = values.length) (h0 : keys ≠ []) (h15 : keys.length ≤ 15) (hk : ks.Nodup) (hkl : ks.length ≤ 15) :
    PE X (.Dict keys values pos) (rdE X.K L T W (.dnw ks er)) := by
  obtain ⟨trs, h1, h2⟩ := h
  refine (pe_disp h1 hall hl h0 h15).imp fun σ H Q ⟨F, G, am, om, sl, M, S, pp⟩ => ?_
  intro p hp
  have hf := M.none_f hp
  have eF : Ex F (upd F p (.dK [])) := Ex.new hf
  refine h2 σ (upd H p (.dK [])) _ ⟨upd F p (.dK []), G, am, om, sl, M.newF hp, S.more eF, ?_⟩
  have e : evE T (.dnw ks er) sl om = (evL T er sl om).bind fun xs om => if ks.length = xs.length then .ok (.amb om.length) (om ++ [.dc ks xs]) else .stuck := by rw [evE]
  rw [e] at pp
  cases q : evL T er sl om with
  | stuck => rw [q] at pp; exact pp
  | exc c fs om1 => rw [q] at pp; exact fun cv dd H' G' am' g M' => pp cv dd H' G' am' g (Mem.lessQ eF M')
  | ok ds om1 =>
    rw [q] at pp
    rw [bind_ok] at pp
    intro vs H1 G1 am1 g1 M1 r1 hlen
    rw [if_pos (by rw [r1.length]; exact hlen)] at pp
    have hF : (upd F p (.dK [])) p = some (.dK []) := upd_same
    refine ⟨M1.fH _ _ hF, ks.zip vs, rfl, by rw [List.length_zip, ← hlen, Nat.min_self]; exact hkl, ?_⟩
    rw [merge_nd ks vs [] hk (fun _ _ _ h => nomatch h), List.nil_append]
    have M2 := M1.setF (u := .dK (ks.zip vs)) hF
    rw [upd_upd] at M2
    have M3 : Mem X.K L F G1 (am1 ++ [p]) (om1 ++ [.dc ks ds]) (upd H1 p (.dK (ks.zip vs))) := M2.toA hf ⟨vs, upd_same, ⟨hlen, hk, Nat.le_trans hkl (by decide)⟩, r1.up ⟨Ex.refl, [p], rfl⟩⟩
    have hkk : (am1 ++ [p])[om1.length]? = some p := by
      rw [← M1.len, List.getElem?_append_right (Nat.le_refl _), Nat.sub_self]
      rfl
    exact pp (.ref p) _ G1 (am1 ++ [p]) (g1.trans ⟨Ex.refl, [p], rfl⟩) M3 (.amb hkk)
end
end PD

set_option Elab.async false
set_option linter.all false
set_option maxRecDepth 100000
set_option maxHeartbeats 1000000
/-! The program's defs in the small language, and that each is what it says: printed by gen.py. -/
namespace K01
open PySem PySem.Spec PyProof.Rows L2 PD
def top (i : Nat) : Stmt := PySem.Challenge.pw_seesmore_k01_watchers_read_and_written.main.body.getD i (.Pass ⟨0, 0, 0, 0⟩)
abbrev s_is_name : Stmt := top 13
abbrev s_number_of : Stmt := top 14
abbrev s_Watcher_init : Stmt := inClass (top 15) 0
abbrev s_Watcher_eq : Stmt := inClass (top 15) 1
abbrev s_Reader_init : Stmt := inClass (top 16) 0
abbrev s_Reader_word : Stmt := inClass (top 16) 1
abbrev s_Reader_pass_word : Stmt := inClass (top 16) 2
abbrev s_Reader_pass_number : Stmt := inClass (top 16) 3
abbrev s_Reader_watcher : Stmt := inClass (top 16) 4
abbrev s_Reader_block : Stmt := inClass (top 16) 5
abbrev s_Reader_begins : Stmt := inClass (top 16) 6
abbrev s_Reader_statement : Stmt := inClass (top 16) 7
abbrev s_Reader_expression : Stmt := inClass (top 16) 8
abbrev s_read_watcher : Stmt := top 17
abbrev s_value_words : Stmt := top 18
abbrev s_block_words : Stmt := top 19
abbrev s_watcher_text : Stmt := top 20
abbrev s_Lpool : Stmt := top 22
abbrev s_Ldraw : Stmt := top 23
abbrev s_Lspend : Stmt := top 24
abbrev s_Lnumber : Stmt := top 25
abbrev s_Lsame : Stmt := top 26
abbrev s_Lvalue : Stmt := top 27
abbrev s_Lstatement : Stmt := top 28
abbrev s_Lblock : Stmt := top 29
abbrev s_Lnames : Stmt := top 30
abbrev s_Lwatcher : Stmt := top 31
abbrev s_Lvalue_words : Stmt := top 32
abbrev s_Lblock_words : Stmt := top 33
abbrev s_Lwords : Stmt := top 34
abbrev s_law : Stmt := top 35
def tup_KEYS : List Str := ["kinds", "var", "set", "draw", "tell", "if", "else", "end", "kind", "mod"]
def tup_SIGNS : List Str := ["+", "-", "*", "/", "mod", "<", "="]
def B_is_name : S := (.seq (.ret (.an (.ch .lt .le (.k (.int 0)) (.bi .len (.v 0)) (.k (.int 8))) (.an (.cm .nin (.v 0) (.k (.tup (tup_KEYS.map D.str)))) (.bi .all (.comp (.one 1) (.itl (.v 0)) (.k (.bl true)) (.ch .le .le (.k (.str "a")) (.v 1) (.k (.str "z")))))))) .skip)
def B_number_of : S := (.seq (.ite (.or (.no (.ch .lt .le (.k (.int 0)) (.bi .len (.v 0)) (.k (.int 5)))) (.no (.bi .all (.comp (.one 1) (.itl (.v 0)) (.k (.bl true)) (.ch .le .le (.k (.str "0")) (.v 1) (.k (.str "9"))))))) (.seq (.ret (.k .non)) .skip) .skip) (.seq (.set 2 (.bi .int (.v 0))) (.seq (.ret (.ite (.an (.cm .eq (.bi .str (.v 2)) (.v 0)) (.cm .le (.v 2) (.k (.int 65535)))) (.v 2) (.k .non))) .skip)))
def B_Watcher_init : S := (.seq (.setF 0 0 (.v 1)) (.seq (.setF 0 1 (.bi .tuple (.v 2))) (.seq (.setF 0 2 (.bi .tuple (.v 3))) .skip)))
def B_Watcher_eq : S := (.seq (.ret (.an (.isi [.own 0] (.v 1)) (.an (.cm .eq (.tup (.cons (.fld 0 0 (.v 0)) (.cons (.fld 0 1 (.v 0)) .nil))) (.tup (.cons (.fld 0 0 (.v 1)) (.cons (.fld 0 1 (.v 1)) .nil)))) (.cm .eq (.fld 0 2 (.v 0)) (.fld 0 2 (.v 1)))))) .skip)
def B_Reader_init : S := (.seq (.stF 0 1 0 (.ite (.cm .ne (.v 1) (.k (.str ""))) (.mb .split (.v 1) (.k (.str " "))) (.lst .nil))) (.seq (.stF 0 1 1 (.k (.int 0))) (.seq (.stF 0 1 2 (.nl (.lst .nil))) (.seq (.stF 0 1 3 (.k (.int 0))) .skip))))
def B_Reader_word : S := (.seq (.ret (.ite (.cm .lt (.fld 1 1 (.v 0)) (.bi .len (.fld 1 0 (.v 0)))) (.ix (.fld 1 0 (.v 0)) (.fld 1 1 (.v 0))) (.k (.str "")))) .skip)
def B_Reader_pass_word : S := (.seq (.set 2 (.meth 1 5 [] (.v 0) .nil)) (.seq (.ite (.cm .nin (.v 2) (.v 1)) (.seq .never .skip) .skip) (.seq (.auF 0 1 1 (.k (.int 1))) (.seq (.ret (.v 2)) .skip))))
def B_Reader_pass_number : S := (.seq (.set 3 (.call 1 [] (.cons (.meth 1 5 [] (.v 0) .nil) .nil))) (.seq (.ite (.or (.cm .is (.v 3) (.k .non)) (.no (.ch .le .le (.v 1) (.v 3) (.v 2)))) (.seq .never .skip) .skip) (.seq (.auF 0 1 1 (.k (.int 1))) (.seq (.ret (.v 3)) .skip))))
def B_Reader_watcher : S := (.seq (.drop (.meth 1 6 [] (.v 0) (.cons (.tup (.cons (.k (.str "kinds")) .nil)) .nil))) (.seq (.set 1 (.meth 1 7 [] (.v 0) (.cons (.k (.int 1)) (.cons (.k (.int 4)) .nil)))) (.seq (.setO 2 (.lst .nil)) (.seq (.whl (.an (.cm .eq (.meth 1 5 [] (.v 0) .nil) (.k (.str "var"))) (.cm .lt (.bi .len (.b 2)) (.k (.int 4)))) (.seq (.auF 0 1 1 (.k (.int 1))) (.seq (.set 3 (.meth 1 5 [] (.v 0) .nil)) (.seq (.ite (.or (.no (.call 0 [] (.cons (.v 3) .nil))) (.cm .inn (.v 3) (.fld 1 2 (.v 0)))) (.seq .never .skip) .skip) (.seq (.auF 0 1 1 (.k (.int 1))) (.seq (.appE (.fld 1 2 (.v 0)) (.v 3)) (.seq (.app 2 (.tup (.cons (.v 3) (.cons (.meth 1 7 [] (.v 0) (.cons (.k (.int 1)) (.cons (.k (.int 65535)) .nil))) .nil)))) .skip))))))) (.seq (.set 4 (.meth 1 9 [] (.v 0) (.cons (.k (.int 4)) .nil))) (.seq (.ite (.cm .lt (.fld 1 1 (.v 0)) (.bi .len (.fld 1 0 (.v 0)))) (.seq .never .skip) .skip) (.seq (.fz 2) (.seq (.ret (.mk 0 2 [] (.cons (.v 1) (.cons (.v 2) (.cons (.v 4) .nil))))) .skip))))))))
def B_Reader_block : S := (.seq (.setO 2 (.lst .nil)) (.seq (.whl (.meth 1 10 [] (.v 0) (.cons (.v 1) .nil)) (.seq (.app 2 (.meth 1 11 [] (.v 0) (.cons (.v 1) .nil))) .skip)) (.seq (.ret (.bi .tuple (.b 2))) .skip)))
def B_Reader_begins : S := (.seq (.set 2 (.meth 1 5 [] (.v 0) .nil)) (.seq (.ite (.cm .eq (.v 2) (.k (.str "set"))) (.seq (.ret (.bi .bool (.fld 1 2 (.v 0)))) .skip) .skip) (.seq (.ite (.cm .eq (.v 2) (.k (.str "draw"))) (.seq (.ret (.an (.bi .bool (.fld 1 2 (.v 0))) (.cm .lt (.fld 1 3 (.v 0)) (.k (.int 6))))) .skip) .skip) (.seq (.ret (.or (.cm .eq (.v 2) (.k (.str "tell"))) (.an (.cm .eq (.v 2) (.k (.str "if"))) (.cm .gt (.v 1) (.k (.int 0)))))) .skip))))
def B_Reader_statement : S := (.seq (.set 2 (.meth 1 5 [] (.v 0) .nil)) (.seq (.auF 0 1 1 (.k (.int 1))) (.seq (.ite (.cm .eq (.v 2) (.k (.str "tell"))) (.seq (.ret (.tup (.cons (.v 2) (.cons (.meth 1 12 [] (.v 0) (.cons (.k (.int 6)) .nil)) .nil)))) .skip) .skip) (.seq (.ite (.cm .eq (.v 2) (.k (.str "set"))) (.seq (.ret (.tup (.cons (.v 2) (.cons (.meth 1 6 [] (.v 0) (.cons (.fld 1 2 (.v 0)) .nil)) (.cons (.meth 1 12 [] (.v 0) (.cons (.k (.int 6)) .nil)) .nil))))) .skip) .skip) (.seq (.ite (.cm .eq (.v 2) (.k (.str "draw"))) (.seq (.auF 0 1 3 (.k (.int 1))) (.seq (.ret (.tup (.cons (.v 2) (.cons (.meth 1 6 [] (.v 0) (.cons (.fld 1 2 (.v 0)) .nil)) (.cons (.meth 1 7 [] (.v 0) (.cons (.k (.int 1)) (.cons (.k (.int 8)) .nil))) .nil))))) .skip)) .skip) (.seq (.set 3 (.meth 1 12 [] (.v 0) (.cons (.k (.int 6)) .nil))) (.seq (.set 4 (.meth 1 9 [] (.v 0) (.cons (.op .sub (.v 1) (.k (.int 1))) .nil))) (.seq (.set 5 (.tup .nil)) (.seq (.ite (.cm .eq (.meth 1 5 [] (.v 0) .nil) (.k (.str "else"))) (.seq (.auF 0 1 1 (.k (.int 1))) (.seq (.set 5 (.meth 1 9 [] (.v 0) (.cons (.op .sub (.v 1) (.k (.int 1))) .nil))) (.seq (.ite (.no (.v 5)) (.seq .never .skip) .skip) .skip))) .skip) (.seq (.drop (.meth 1 6 [] (.v 0) (.cons (.tup (.cons (.k (.str "end")) .nil)) .nil))) (.seq (.ret (.tup (.cons (.v 2) (.cons (.v 3) (.cons (.v 4) (.cons (.v 5) .nil)))))) .skip)))))))))))
def B_Reader_expression : S := (.seq (.set 2 (.meth 1 5 [] (.v 0) .nil)) (.seq (.ite (.an (.cm .inn (.v 2) (.k (.tup (tup_SIGNS.map D.str)))) (.cm .gt (.v 1) (.k (.int 1)))) (.seq (.auF 0 1 1 (.k (.int 1))) (.seq (.set 3 (.meth 1 12 [] (.v 0) (.cons (.op .sub (.v 1) (.k (.int 1))) .nil))) (.seq (.ret (.tup (.cons (.v 2) (.cons (.v 3) (.cons (.meth 1 12 [] (.v 0) (.cons (.op .sub (.v 1) (.k (.int 1))) .nil)) .nil))))) .skip))) .skip) (.seq (.ite (.cm .eq (.v 2) (.k (.str "kind"))) (.seq (.auF 0 1 1 (.k (.int 1))) (.seq (.ret (.tup (.cons (.k (.str "kind")) .nil))) .skip)) .skip) (.seq (.ite (.cm .inn (.v 2) (.fld 1 2 (.v 0))) (.seq (.auF 0 1 1 (.k (.int 1))) (.seq (.ret (.tup (.cons (.k (.str "variable")) (.cons (.v 2) .nil)))) .skip)) .skip) (.seq (.ret (.tup (.cons (.k (.str "number")) (.cons (.meth 1 7 [] (.v 0) (.cons (.k (.int 0)) (.cons (.k (.int 65535)) .nil))) .nil)))) .skip)))))
def B_read_watcher : S := (.seq (.ret (.meth 1 8 [] (.mka 1 4 [] (.cons (.v 0) .nil)) .nil)) .skip)
def B_value_words : S := (.seq (.ite (.cm .lt (.bi .len (.v 0)) (.k (.int 3))) (.seq (.ret (.lst (.cons (.bi .str (.ix (.v 0) (.neg (.k (.int 1))))) .nil))) .skip) .skip) (.seq (.ret (.lst (.cons (.ix (.v 0) (.k (.int 0))) (.star (.call 14 [] (.cons (.ix (.v 0) (.k (.int 1))) .nil)) (.star (.call 14 [] (.cons (.ix (.v 0) (.k (.int 2))) .nil)) .nil))))) .skip))
def B_block_words : S := (.seq (.setO 1 (.lst .nil)) (.seq (.fo (.one 2) (.itl (.v 0)) (.seq (.app 1 (.ix (.v 2) (.k (.int 0)))) (.seq (.ite (.cm .eq (.ix (.v 2) (.k (.int 0))) (.k (.str "if"))) (.seq (.ext 1 (.lst (.star (.call 14 [] (.cons (.ix (.v 2) (.k (.int 1))) .nil)) (.star (.call 15 [] (.cons (.ix (.v 2) (.k (.int 2))) .nil)) .nil)))) (.seq (.ite (.ix (.v 2) (.k (.int 3))) (.seq (.ext 1 (.lst (.cons (.k (.str "else")) (.star (.call 15 [] (.cons (.ix (.v 2) (.k (.int 3))) .nil)) .nil)))) .skip) .skip) (.seq (.app 1 (.k (.str "end"))) .skip))) (.seq (.ite (.cm .eq (.ix (.v 2) (.k (.int 0))) (.k (.str "draw"))) (.seq (.ext 1 (.lst (.cons (.ix (.v 2) (.k (.int 1))) (.cons (.bi .str (.ix (.v 2) (.k (.int 2)))) .nil)))) .skip) (.seq (.ext 1 (.lst (.star (.sl (.v 2) (.cons (.k (.int 1)) .nil) (.cons (.neg (.k (.int 1))) .nil)) (.star (.call 14 [] (.cons (.ix (.v 2) (.neg (.k (.int 1)))) .nil)) .nil)))) .skip)) .skip)) .skip))) (.seq (.fz 1) (.seq (.ret (.v 1)) .skip))))
def B_watcher_text : S := (.seq (.setO 1 (.lst (.cons (.k (.str "kinds")) (.cons (.bi .str (.fld 0 0 (.v 0))) .nil)))) (.seq (.fo (.many [2, 3]) (.itl (.fld 0 1 (.v 0))) (.seq (.ext 1 (.lst (.cons (.k (.str "var")) (.cons (.v 2) (.cons (.bi .str (.v 3)) .nil))))) .skip)) (.seq (.ret (.mb .join (.k (.str " ")) (.op .add (.b 1) (.call 15 [] (.cons (.fld 0 2 (.v 0)) .nil))))) .skip)))
def B_Lpool : S := (.seq (.retF (.lst (.cons (.bi .list (.v 0)) (.cons (.k (.int 0)) (.cons (.k (.int 0)) (.cons (.k (.int 1)) (.cons (.k (.int 0)) (.cons (.v 1) .nil)))))))) .skip)
def B_Ldraw : S := (.seq (.ite (.an (.cm .le (.ix (.v 0) (.k (.int 2))) (.k (.int 0))) (.an (.cm .le (.ix (.v 0) (.k (.int 4))) (.k (.int 0))) (.cm .lt (.ix (.v 0) (.k (.int 1))) (.bi .len (.ix (.v 0) (.k (.int 0))))))) (.seq (.set 2 (.ix (.ix (.v 0) (.k (.int 0))) (.ix (.v 0) (.k (.int 1))))) (.seq (.setIA 0 (.k (.int 1)) (.op .add (.ix (.v 0) (.k (.int 1))) (.k (.int 1)))) (.seq (.setIA 0 (.k (.int 3)) (.op .mod (.bi .int (.op .add (.op .mul (.ix (.v 0) (.k (.int 3))) (.k (.int 31))) (.v 2))) (.k (.int 2147483647)))) (.seq (.setIA 0 (.k (.int 4)) (.k (.int 7))) (.seq (.ite (.cm .ge (.v 2) (.op .pow (.k (.int 10)) (.k (.int 18)))) (.seq (.setIA 0 (.k (.int 2)) (.v 2)) .skip) .skip) .skip))))) .skip) (.seq (.ite (.cm .gt (.ix (.v 0) (.k (.int 2))) (.k (.int 0))) (.seq (.set 3 (.op .mod (.bi .int (.ix (.v 0) (.k (.int 2)))) (.v 1))) (.seq (.setIA 0 (.k (.int 2)) (.op .fdiv (.ix (.v 0) (.k (.int 2))) (.v 1))) (.seq (.setIA 0 (.k (.int 4)) (.k (.int 0))) (.seq (.ret (.v 3)) .skip)))) .skip) (.seq (.setIA 0 (.k (.int 4)) (.op .sub (.ix (.v 0) (.k (.int 4))) (.k (.int 1)))) (.seq (.setIA 0 (.k (.int 3)) (.op .mod (.bi .int (.op .add (.op .mul (.ix (.v 0) (.k (.int 3))) (.k (.int 48271))) (.k (.int 12345)))) (.k (.int 2147483647)))) (.seq (.ret (.op .mod (.op .mod (.bi .int (.op .add (.op .mul (.ix (.v 0) (.k (.int 3))) (.k (.int 69621))) (.k (.int 7919)))) (.k (.int 2147483647))) (.v 1))) .skip)))))
def B_Lspend : S := (.seq (.setIA 0 (.k (.int 5)) (.op .sub (.ix (.v 0) (.k (.int 5))) (.k (.int 1)))) (.seq (.ret (.cm .ge (.ix (.v 0) (.k (.int 5))) (.k (.int 0)))) .skip))
def B_Lnumber : S := (.seq (.ite (.cm .eq (.call 18 [] (.cons (.v 0) (.cons (.k (.int 3)) .nil))) (.k (.int 0))) (.seq (.ret (.call 18 [] (.cons (.v 0) (.cons (.k (.int 65536)) .nil)))) .skip) .skip) (.seq (.ret (.call 18 [] (.cons (.v 0) (.cons (.k (.int 9)) .nil)))) .skip))
def B_Lsame : S := (.seq (.ite (.or (.isi [.tuple] (.v 1)) (.isi [.list] (.v 1))) (.seq (.ite (.or (.cm .ne (.isi [.tuple] (.v 1)) (.isi [.tuple] (.v 0))) (.cm .ne (.isi [.list] (.v 1)) (.isi [.list] (.v 0)))) (.seq (.ret (.k (.bl false))) .skip) .skip) (.seq (.ite (.cm .ne (.bi .len (.v 0)) (.bi .len (.v 1))) (.seq (.ret (.k (.bl false))) .skip) .skip) (.seq (.fo (.one 2) (.rng1 (.bi .len (.v 1))) (.seq (.ite (.no (.call 21 [] (.cons (.ix (.v 0) (.v 2)) (.cons (.ix (.v 1) (.v 2)) .nil)))) (.seq (.ret (.k (.bl false))) .skip) .skip) .skip)) (.seq (.ret (.k (.bl true))) .skip)))) .skip) (.seq (.ite (.or (.cm .is (.v 1) (.k .non)) (.isi [.bool] (.v 1))) (.seq (.ret (.an (.cm .eq (.cm .is (.v 0) (.k .non)) (.cm .is (.v 1) (.k .non))) (.an (.or (.cm .is (.v 1) (.k .non)) (.isi [.bool] (.v 0))) (.cm .eq (.v 0) (.v 1))))) .skip) .skip) (.seq (.ite (.isi [.int] (.v 1)) (.seq (.ret (.an (.isi [.int] (.v 0)) (.an (.no (.isi [.bool] (.v 0))) (.cm .eq (.v 0) (.v 1))))) .skip) .skip) (.seq (.ret (.an (.isi [.str] (.v 0)) (.cm .eq (.v 0) (.v 1)))) .skip))))
def B_Lvalue : S := (.seq (.set 3 (.call 18 [] (.cons (.v 0) (.cons (.k (.int 12)) .nil)))) (.seq (.ite (.an (.cm .lt (.v 3) (.k (.int 4))) (.cm .gt (.v 2) (.k (.int 0)))) (.seq (.set 4 (.ix (.tup (.cons (.k (.str "+")) (.cons (.k (.str "-")) (.cons (.k (.str "*")) (.cons (.k (.str "/")) (.cons (.k (.str "mod")) (.cons (.k (.str "<")) (.cons (.k (.str "=")) .nil)))))))) (.call 18 [] (.cons (.v 0) (.cons (.k (.int 7)) .nil))))) (.seq (.set 5 (.call 22 [] (.cons (.v 0) (.cons (.v 1) (.cons (.op .sub (.v 2) (.k (.int 1))) .nil))))) (.seq (.ret (.tup (.cons (.v 4) (.cons (.v 5) (.cons (.call 22 [] (.cons (.v 0) (.cons (.v 1) (.cons (.op .sub (.v 2) (.k (.int 1))) .nil)))) .nil))))) .skip))) .skip) (.seq (.ite (.an (.cm .lt (.v 3) (.k (.int 7))) (.cm .gt (.bi .len (.v 1)) (.k (.int 0)))) (.seq (.ret (.tup (.cons (.k (.str "variable")) (.cons (.ix (.v 1) (.call 18 [] (.cons (.v 0) (.cons (.bi .len (.v 1)) .nil)))) .nil)))) .skip) .skip) (.seq (.ite (.cm .lt (.v 3) (.k (.int 10))) (.seq (.ret (.tup (.cons (.k (.str "kind")) .nil))) .skip) .skip) (.seq (.ret (.tup (.cons (.k (.str "number")) (.cons (.ix (.tup (.cons (.call 18 [] (.cons (.v 0) (.cons (.k (.int 4)) .nil))) (.cons (.call 18 [] (.cons (.v 0) (.cons (.k (.int 9)) .nil))) (.cons (.call 20 [] (.cons (.v 0) .nil)) .nil)))) (.call 18 [] (.cons (.v 0) (.cons (.k (.int 3)) .nil)))) .nil)))) .skip)))))
def B_Lstatement : S := (.seq (.set 3 (.call 18 [] (.cons (.v 0) (.cons (.k (.int 12)) .nil)))) (.seq (.set 4 (.dg (.v 1) (.inr "names"))) (.seq (.ite (.an (.cm .lt (.v 3) (.k (.int 3))) (.an (.cm .gt (.bi .len (.v 4)) (.k (.int 0))) (.cm .gt (.dg (.v 1) (.inr "draws")) (.k (.int 0))))) (.seq (.dput (.v 1) (.inr "draws") (.op .sub (.dg (.v 1) (.inr "draws")) (.k (.int 1)))) (.seq (.ret (.tup (.cons (.k (.str "draw")) (.cons (.ix (.v 4) (.call 18 [] (.cons (.v 0) (.cons (.bi .len (.v 4)) .nil)))) (.cons (.op .add (.k (.int 1)) (.call 18 [] (.cons (.v 0) (.cons (.dg (.v 1) (.inr "most")) .nil)))) .nil))))) .skip)) .skip) (.seq (.ite (.an (.cm .lt (.v 3) (.k (.int 5))) (.cm .gt (.bi .len (.v 4)) (.k (.int 0)))) (.seq (.ret (.tup (.cons (.k (.str "set")) (.cons (.ix (.v 4) (.call 18 [] (.cons (.v 0) (.cons (.bi .len (.v 4)) .nil)))) (.cons (.call 22 [] (.cons (.v 0) (.cons (.v 4) (.cons (.ix (.tup (.cons (.k (.int 2)) (.cons (.k (.int 5)) .nil))) (.call 18 [] (.cons (.v 0) (.cons (.k (.int 2)) .nil)))) .nil)))) .nil))))) .skip) .skip) (.seq (.ite (.an (.cm .lt (.v 3) (.k (.int 8))) (.cm .gt (.v 2) (.k (.int 0)))) (.seq (.set 5 (.call 22 [] (.cons (.v 0) (.cons (.v 4) (.cons (.ix (.tup (.cons (.k (.int 2)) (.cons (.k (.int 2)) (.cons (.k (.int 5)) .nil)))) (.call 18 [] (.cons (.v 0) (.cons (.k (.int 3)) .nil)))) .nil))))) (.seq (.set 6 (.call 24 [] (.cons (.v 0) (.cons (.v 1) (.cons (.op .sub (.v 2) (.k (.int 1))) (.cons (.k (.int 3)) .nil)))))) (.seq (.ret (.tup (.cons (.k (.str "if")) (.cons (.v 5) (.cons (.v 6) (.cons (.call 24 [] (.cons (.v 0) (.cons (.v 1) (.cons (.op .sub (.v 2) (.k (.int 1))) (.cons (.k (.int 2)) .nil))))) .nil)))))) .skip))) .skip) (.seq (.ret (.tup (.cons (.k (.str "tell")) (.cons (.call 22 [] (.cons (.v 0) (.cons (.v 4) (.cons (.ix (.tup (.cons (.k (.int 2)) (.cons (.k (.int 2)) (.cons (.k (.int 5)) .nil)))) (.call 18 [] (.cons (.v 0) (.cons (.k (.int 3)) .nil)))) .nil)))) .nil)))) .skip))))))
def B_Lblock : S := (.seq (.setO 4 (.lst .nil)) (.seq (.fo (.one 5) (.rng1 (.call 18 [] (.cons (.v 0) (.cons (.op .add (.v 3) (.k (.int 1))) .nil)))) (.seq (.ite (.call 19 [] (.cons (.v 0) .nil)) (.seq (.app 4 (.call 23 [] (.cons (.v 0) (.cons (.v 1) (.cons (.v 2) .nil))))) .skip) .skip) .skip)) (.seq (.ret (.bi .tuple (.b 4))) .skip)))
def B_Lnames : S := (.seq (.setO 2 (.lst .nil)) (.seq (.fo (.one 3) (.rng1 (.v 1)) (.seq (.set 4 (.ix (.tup (.cons (.k (.str "x")) (.cons (.k (.str "y")) (.cons (.k (.str "z")) (.cons (.k (.str "ended")) (.cons (.k (.str "i")) (.cons (.k (.str "sets")) (.cons (.k (.str "mods")) (.cons (.k (.str "kindly")) (.cons (.k (.str "telling")) (.cons (.k (.str "abcdefgh")) .nil))))))))))) (.call 18 [] (.cons (.v 0) (.cons (.k (.int 10)) .nil))))) (.seq (.ite (.cm .eq (.call 18 [] (.cons (.v 0) (.cons (.k (.int 3)) .nil))) (.k (.int 0))) (.seq (.set 4 (.k (.str ""))) (.seq (.fo (.one 5) (.rng1 (.op .add (.k (.int 1)) (.call 18 [] (.cons (.v 0) (.cons (.k (.int 8)) .nil))))) (.seq (.set 4 (.op .add (.v 4) (.ix (.k (.str "abcdefghijklmnopqrstuvwxyz")) (.call 18 [] (.cons (.v 0) (.cons (.k (.int 26)) .nil)))))) .skip)) .skip)) .skip) (.seq (.ite (.cm .inn (.v 4) (.tup (.cons (.k (.str "kinds")) (.cons (.k (.str "var")) (.cons (.k (.str "set")) (.cons (.k (.str "draw")) (.cons (.k (.str "tell")) (.cons (.k (.str "if")) (.cons (.k (.str "else")) (.cons (.k (.str "end")) (.cons (.k (.str "kind")) (.cons (.k (.str "mod")) .nil)))))))))))) (.seq (.set 4 (.k (.str "q"))) .skip) .skip) (.seq (.fo (.one 6) (.itl (.tup (.cons (.k (.str "aa")) (.cons (.k (.str "bb")) (.cons (.k (.str "cc")) (.cons (.k (.str "dd")) (.cons (.k (.str "ee")) (.cons (.k (.str "ff")) .nil)))))))) (.seq (.ite (.cm .inn (.v 4) (.b 2)) (.seq (.set 4 (.v 6)) .skip) .skip) .skip)) (.seq (.app 2 (.v 4)) .skip)))))) (.seq (.fz 2) (.seq (.ret (.v 2)) .skip))))
def B_Lwatcher : S := (.seq (.setO 3 (.lst .nil)) (.seq (.set 4 (.call 25 [] (.cons (.v 0) (.cons (.call 18 [] (.cons (.v 0) (.cons (.k (.int 5)) .nil))) .nil)))) (.seq (.fo (.one 5) (.rng1 (.bi .len (.v 4))) (.seq (.app 3 (.tup (.cons (.ix (.v 4) (.v 5)) (.cons (.op .add (.k (.int 1)) (.ix (.tup (.cons (.call 18 [] (.cons (.v 0) (.cons (.k (.int 4)) .nil))) (.cons (.call 18 [] (.cons (.v 0) (.cons (.k (.int 4)) .nil))) (.cons (.op .mod (.call 20 [] (.cons (.v 0) .nil)) (.k (.int 65535))) .nil)))) (.call 18 [] (.cons (.v 0) (.cons (.k (.int 3)) .nil))))) .nil)))) .skip)) (.seq (.set 6 (.dnw [.inr "names", .inr "draws", .inr "most"] (.cons (.comp (.one 7) (.itl (.b 3)) (.k (.bl true)) (.ix (.v 7) (.k (.int 0)))) (.cons (.v 1) (.cons (.v 2) .nil))))) (.seq (.setIA 0 (.k (.int 5)) (.k (.int 12))) (.seq (.set 8 (.op .add (.k (.int 1)) (.call 18 [] (.cons (.v 0) (.cons (.k (.int 4)) .nil))))) (.seq (.set 9 (.call 24 [] (.cons (.v 0) (.cons (.v 6) (.cons (.k (.int 4)) (.cons (.k (.int 7)) .nil)))))) (.seq (.set 10 (.ix (.tup (.cons (.k (.int 0)) (.cons (.call 18 [] (.cons (.v 0) (.cons (.ix (.tup (.cons (.k (.int 60)) (.cons (.k (.int 188)) .nil))) (.call 18 [] (.cons (.v 0) (.cons (.k (.int 2)) .nil)))) .nil))) .nil))) (.bi .int (.cm .eq (.call 18 [] (.cons (.v 0) (.cons (.k (.int 8)) .nil))) (.k (.int 0)))))) (.seq (.ret (.tup (.cons (.v 8) (.cons (.bi .tuple (.b 3)) (.cons (.op .add (.v 9) (.op .mul (.tup (.cons (.tup (.cons (.k (.str "tell")) (.cons (.tup (.cons (.k (.str "kind")) .nil)) .nil))) .nil)) (.v 10))) .nil))))) .skip)))))))))
def B_Lvalue_words : S := (.seq (.ite (.cm .lt (.bi .len (.v 0)) (.k (.int 3))) (.seq (.ret (.lst (.cons (.bi .str (.ix (.v 0) (.neg (.k (.int 1))))) .nil))) .skip) .skip) (.seq (.ret (.op .add (.op .add (.lst (.cons (.ix (.v 0) (.k (.int 0))) .nil)) (.call 27 [] (.cons (.ix (.v 0) (.k (.int 1))) .nil))) (.call 27 [] (.cons (.ix (.v 0) (.k (.int 2))) .nil)))) .skip))
def B_Lblock_words : S := (.seq (.setO 1 (.lst .nil)) (.seq (.fo (.one 2) (.itl (.v 0)) (.seq (.ite (.cm .eq (.ix (.v 2) (.k (.int 0))) (.k (.str "if"))) (.seq (.setO 1 (.cat (.op .add (.op .add (.b 1) (.lst (.cons (.k (.str "if")) .nil))) (.call 27 [] (.cons (.ix (.v 2) (.k (.int 1))) .nil))) (.call 28 [] (.cons (.ix (.v 2) (.k (.int 2))) .nil)))) (.seq (.ite (.cm .gt (.bi .len (.ix (.v 2) (.k (.int 3)))) (.k (.int 0))) (.seq (.setO 1 (.cat (.op .add (.b 1) (.lst (.cons (.k (.str "else")) .nil))) (.call 28 [] (.cons (.ix (.v 2) (.k (.int 3))) .nil)))) .skip) .skip) (.seq (.app 1 (.k (.str "end"))) .skip))) (.seq (.ite (.cm .eq (.ix (.v 2) (.k (.int 0))) (.k (.str "draw"))) (.seq (.setO 1 (.cat (.b 1) (.lst (.cons (.k (.str "draw")) (.cons (.ix (.v 2) (.k (.int 1))) (.cons (.bi .str (.ix (.v 2) (.k (.int 2)))) .nil)))))) .skip) (.seq (.setO 1 (.cat (.op .add (.b 1) (.bi .list (.sl (.v 2) .nop (.cons (.neg (.k (.int 1))) .nil)))) (.call 27 [] (.cons (.ix (.v 2) (.neg (.k (.int 1)))) .nil)))) .skip)) .skip)) .skip)) (.seq (.fz 1) (.seq (.ret (.v 1)) .skip))))
def B_Lwords : S := (.seq (.set 1 (.lst (.cons (.k (.str "kinds")) (.cons (.bi .str (.ix (.v 0) (.k (.int 0)))) .nil)))) (.seq (.fo (.many [2, 3]) (.itl (.ix (.v 0) (.k (.int 1)))) (.seq (.set 1 (.op .add (.v 1) (.lst (.cons (.k (.str "var")) (.cons (.v 2) (.cons (.bi .str (.v 3)) .nil)))))) .skip)) (.seq (.ret (.op .add (.v 1) (.call 28 [] (.cons (.ix (.v 0) (.k (.int 2))) .nil)))) .skip)))
def B_law : S := (.seq (.setA 1 (.call 17 [] (.cons (.v 0) (.cons (.k (.int 0)) .nil)))) (.seq (.set 2 (.call 26 [] (.cons (.v 1) (.cons (.k (.int 6)) (.cons (.k (.int 8)) .nil))))) (.seq (.set 3 (.mb .join (.k (.str " ")) (.call 29 [] (.cons (.v 2) .nil)))) (.seq (.set 4 (.call 13 [] (.cons (.v 3) .nil))) (.seq (.set 5 (.mk 0 2 [] (.cons (.ix (.v 2) (.k (.int 0))) (.cons (.bi .list (.ix (.v 2) (.k (.int 1)))) (.cons (.bi .list (.ix (.v 2) (.k (.int 2)))) .nil))))) (.seq (.ite (.no (.call 21 [] (.cons (.lst (.cons (.fld 0 0 (.v 4)) (.cons (.fld 0 1 (.v 4)) (.cons (.fld 0 2 (.v 4)) .nil)))) (.cons (.bi .list (.v 2)) .nil)))) (.seq (.ret (.k (.bl false))) .skip) .skip) (.seq (.ite (.or (.no (.call 21 [] (.cons (.lst (.cons (.call 16 [] (.cons (.v 4) .nil)) (.cons (.call 16 [] (.cons (.v 5) .nil)) .nil))) (.cons (.lst (.cons (.v 3) (.cons (.v 3) .nil))) .nil)))) (.no (.call 21 [] (.cons (.lst (.cons (.cm .eq (.v 4) (.v 5)) (.cons (.cm .eq (.v 5) (.v 4)) .nil))) (.cons (.lst (.cons (.k (.bl true)) (.cons (.k (.bl true)) .nil))) .nil))))) (.seq (.ret (.k (.bl false))) .skip) .skip) (.seq (.set 6 (.lst (.cons (.nl (.bi .list (.ix (.v 2) (.k (.int 1))))) (.cons (.nl (.bi .list (.ix (.v 2) (.k (.int 2))))) .nil)))) (.seq (.set 7 (.mk 0 2 [] (.cons (.ix (.v 2) (.k (.int 0))) (.cons (.ix (.v 6) (.k (.int 0))) (.cons (.ix (.v 6) (.k (.int 1))) .nil))))) (.seq (.appE (.ix (.v 6) (.k (.int 0))) (.tup (.cons (.k (.str "w")) (.cons (.k (.int 2)) .nil)))) (.seq (.appE (.ix (.v 6) (.k (.int 1))) (.tup (.cons (.k (.str "tell")) (.cons (.tup (.cons (.k (.str "number")) (.cons (.k (.int 1)) .nil))) .nil)))) (.seq (.ite (.no (.call 21 [] (.cons (.lst (.cons (.fld 0 1 (.v 7)) (.cons (.fld 0 2 (.v 7)) .nil))) (.cons (.bi .list (.sl (.v 2) (.cons (.k (.int 1)) .nil) .nop)) .nil)))) (.seq (.ret (.k (.bl false))) .skip) .skip) (.seq (.set 8 (.call 26 [] (.cons (.v 1) (.cons (.k (.int 6)) (.cons (.k (.int 8)) .nil))))) (.seq (.ite (.no (.call 21 [] (.cons (.cm .eq (.mk 0 2 [] (.cons (.ix (.v 8) (.k (.int 0))) (.cons (.ix (.v 8) (.k (.int 1))) (.cons (.ix (.v 8) (.k (.int 2))) .nil)))) (.v 4)) (.cons (.cm .eq (.v 8) (.v 2)) .nil)))) (.seq (.ret (.k (.bl false))) .skip) .skip) (.seq (.setO 9 (.lst (.cons (.mk 0 2 [] (.cons (.op .add (.op .mod (.ix (.v 2) (.k (.int 0))) (.k (.int 4))) (.k (.int 1))) (.cons (.ix (.v 2) (.k (.int 1))) (.cons (.ix (.v 2) (.k (.int 2))) .nil)))) .nil))) (.seq (.ite (.cm .gt (.bi .len (.ix (.v 2) (.k (.int 1)))) (.k (.int 0))) (.seq (.app 9 (.mk 0 2 [] (.cons (.ix (.v 2) (.k (.int 0))) (.cons (.op .add (.sl (.ix (.v 2) (.k (.int 1))) .nop (.cons (.neg (.k (.int 1))) .nil)) (.tup (.cons (.tup (.cons (.ix (.ix (.ix (.v 2) (.k (.int 1))) (.neg (.k (.int 1)))) (.k (.int 0))) (.cons (.op .add (.op .mod (.ix (.ix (.ix (.v 2) (.k (.int 1))) (.neg (.k (.int 1)))) (.k (.int 1))) (.k (.int 9))) (.k (.int 1))) .nil))) .nil))) (.cons (.ix (.v 2) (.k (.int 2))) .nil))))) (.seq (.setO 9 (.cat (.sl (.b 9) .nop (.cons (.k (.int 1)) .nil)) (.comp (.one 8) (.itl (.sl (.b 9) (.cons (.k (.int 1)) .nil) .nop)) (.cm .ne (.fld 0 1 (.v 8)) (.ix (.v 2) (.k (.int 1)))) (.v 8)))) .skip)) .skip) (.seq (.app 9 (.mk 0 2 [] (.cons (.ix (.v 2) (.k (.int 0))) (.cons (.ix (.v 2) (.k (.int 1))) (.cons (.op .add (.ix (.v 2) (.k (.int 2))) (.tup (.cons (.tup (.cons (.k (.str "tell")) (.cons (.tup (.cons (.k (.str "number")) (.cons (.k (.int 1)) .nil))) .nil))) .nil))) .nil))))) (.seq (.ite (.no (.call 21 [] (.cons (.comp (.one 8) (.itl (.b 9)) (.k (.bl true)) (.cm .eq (.v 4) (.v 8))) (.cons (.op .mul (.lst (.cons (.k (.bl false)) .nil)) (.bi .len (.b 9))) .nil)))) (.seq (.ret (.k (.bl false))) .skip) .skip) (.seq (.ret (.call 21 [] (.cons (.comp (.one 8) (.itl (.b 9)) (.k (.bl true)) (.cm .eq (.v 8) (.v 4))) (.cons (.op .mul (.lst (.cons (.k (.bl false)) .nil)) (.bi .len (.b 9))) .nil)))) .skip)))))))))))))))))))
def dl : List Def := [⟨1, 2, B_is_name, none⟩, ⟨1, 3, B_number_of, none⟩, ⟨4, 4, B_Watcher_init, some 0⟩, ⟨2, 2, B_Watcher_eq, none⟩, ⟨2, 2, B_Reader_init, none⟩, ⟨1, 1, B_Reader_word, none⟩, ⟨2, 3, B_Reader_pass_word, none⟩, ⟨3, 4, B_Reader_pass_number, none⟩, ⟨1, 5, B_Reader_watcher, none⟩, ⟨2, 3, B_Reader_block, none⟩, ⟨2, 3, B_Reader_begins, none⟩, ⟨2, 6, B_Reader_statement, none⟩, ⟨2, 4, B_Reader_expression, none⟩, ⟨1, 1, B_read_watcher, none⟩, ⟨1, 1, B_value_words, none⟩, ⟨1, 3, B_block_words, none⟩, ⟨1, 4, B_watcher_text, none⟩, ⟨2, 2, B_Lpool, none⟩, ⟨2, 4, B_Ldraw, none⟩, ⟨1, 1, B_Lspend, none⟩, ⟨1, 1, B_Lnumber, none⟩, ⟨2, 3, B_Lsame, none⟩, ⟨3, 6, B_Lvalue, none⟩, ⟨3, 7, B_Lstatement, none⟩, ⟨4, 6, B_Lblock, none⟩, ⟨2, 7, B_Lnames, none⟩, ⟨3, 11, B_Lwatcher, none⟩, ⟨1, 1, B_Lvalue_words, none⟩, ⟨1, 3, B_Lblock_words, none⟩, ⟨1, 4, B_Lwords, none⟩, ⟨1, 10, B_law, none⟩]
def frl : List Nat := [17]
def p_opm : Nat → Bop → Option Nat := fun _ _ => none
def p_eqm : Nat → Option Nat := fun c => match c with
  | 0 => some 3
  | _ => none
def p_strm : Nat → Option Nat := fun _ => none
def p_nf : Nat → Nat := fun c => match c with
  | 0 => 3
  | 1 => 4
  | 2 => 0
  | 3 => 1
  | _ => 0
def prog : Prog := { defs := fun i => dl[i]?, fresh := fun i => frl.contains i, opm := p_opm, eqm := p_eqm, strm := p_strm, nf := p_nf }
def fnl (c : Nat) : List Str := match c with
  | 0 => ["kinds", "variables", "block"]
  | 1 => ["words", "at", "names", "draws"]
  | 2 => []
  | 3 => ["at"]
  | _ => []
def lk (ca : Nat → Addr) : Lk := { ca := ca, fn := fnl }
/-- what the top has written -/
structure Txt (K : PySem.W.Frag) (mg : Str → Option Value) (ca : Nat → Addr) (fi : Nat → FI) : Prop where
  m0 : mg "is_name" = some (.ref (fi 0).addr)
  k0 : PySem.W.keepIn K (.ref (fi 0).addr) = true
  b0 : Binds K (fi 0).fd (fi 0).ps []
  m1 : mg "number_of" = some (.ref (fi 1).addr)
  k1 : PySem.W.keepIn K (.ref (fi 1).addr) = true
  b1 : Binds K (fi 1).fd (fi 1).ps []
  b2 : Binds K (fi 2).fd (fi 2).ps []
  b3 : Binds K (fi 3).fd (fi 3).ps []
  b4 : Binds K (fi 4).fd (fi 4).ps []
  me5 : Meth K (ca 1) "word" (fi 5).addr
  b5 : Binds K (fi 5).fd (fi 5).ps []
  me6 : Meth K (ca 1) "pass_word" (fi 6).addr
  b6 : Binds K (fi 6).fd (fi 6).ps []
  me7 : Meth K (ca 1) "pass_number" (fi 7).addr
  b7 : Binds K (fi 7).fd (fi 7).ps []
  me8 : Meth K (ca 1) "watcher" (fi 8).addr
  b8 : Binds K (fi 8).fd (fi 8).ps []
  me9 : Meth K (ca 1) "block" (fi 9).addr
  b9 : Binds K (fi 9).fd (fi 9).ps []
  me10 : Meth K (ca 1) "begins" (fi 10).addr
  b10 : Binds K (fi 10).fd (fi 10).ps []
  me11 : Meth K (ca 1) "statement" (fi 11).addr
  b11 : Binds K (fi 11).fd (fi 11).ps []
  me12 : Meth K (ca 1) "expression" (fi 12).addr
  b12 : Binds K (fi 12).fd (fi 12).ps []
  m13 : mg "read_watcher" = some (.ref (fi 13).addr)
  k13 : PySem.W.keepIn K (.ref (fi 13).addr) = true
  b13 : Binds K (fi 13).fd (fi 13).ps []
  m14 : mg "value_words" = some (.ref (fi 14).addr)
  k14 : PySem.W.keepIn K (.ref (fi 14).addr) = true
  b14 : Binds K (fi 14).fd (fi 14).ps []
  m15 : mg "block_words" = some (.ref (fi 15).addr)
  k15 : PySem.W.keepIn K (.ref (fi 15).addr) = true
  b15 : Binds K (fi 15).fd (fi 15).ps []
  m16 : mg "watcher_text" = some (.ref (fi 16).addr)
  k16 : PySem.W.keepIn K (.ref (fi 16).addr) = true
  b16 : Binds K (fi 16).fd (fi 16).ps []
  m17 : mg "_law_pool" = some (.ref (fi 17).addr)
  k17 : PySem.W.keepIn K (.ref (fi 17).addr) = true
  b17 : Binds K (fi 17).fd (fi 17).ps []
  m18 : mg "_law_draw" = some (.ref (fi 18).addr)
  k18 : PySem.W.keepIn K (.ref (fi 18).addr) = true
  b18 : Binds K (fi 18).fd (fi 18).ps []
  m19 : mg "_law_spend" = some (.ref (fi 19).addr)
  k19 : PySem.W.keepIn K (.ref (fi 19).addr) = true
  b19 : Binds K (fi 19).fd (fi 19).ps []
  m20 : mg "_law_number" = some (.ref (fi 20).addr)
  k20 : PySem.W.keepIn K (.ref (fi 20).addr) = true
  b20 : Binds K (fi 20).fd (fi 20).ps []
  m21 : mg "_law_same" = some (.ref (fi 21).addr)
  k21 : PySem.W.keepIn K (.ref (fi 21).addr) = true
  b21 : Binds K (fi 21).fd (fi 21).ps []
  m22 : mg "_law_value" = some (.ref (fi 22).addr)
  k22 : PySem.W.keepIn K (.ref (fi 22).addr) = true
  b22 : Binds K (fi 22).fd (fi 22).ps []
  m23 : mg "_law_statement" = some (.ref (fi 23).addr)
  k23 : PySem.W.keepIn K (.ref (fi 23).addr) = true
  b23 : Binds K (fi 23).fd (fi 23).ps []
  m24 : mg "_law_block" = some (.ref (fi 24).addr)
  k24 : PySem.W.keepIn K (.ref (fi 24).addr) = true
  b24 : Binds K (fi 24).fd (fi 24).ps []
  m25 : mg "_law_names" = some (.ref (fi 25).addr)
  k25 : PySem.W.keepIn K (.ref (fi 25).addr) = true
  b25 : Binds K (fi 25).fd (fi 25).ps []
  m26 : mg "_law_watcher" = some (.ref (fi 26).addr)
  k26 : PySem.W.keepIn K (.ref (fi 26).addr) = true
  b26 : Binds K (fi 26).fd (fi 26).ps []
  m27 : mg "_law_value_words" = some (.ref (fi 27).addr)
  k27 : PySem.W.keepIn K (.ref (fi 27).addr) = true
  b27 : Binds K (fi 27).fd (fi 27).ps []
  m28 : mg "_law_block_words" = some (.ref (fi 28).addr)
  k28 : PySem.W.keepIn K (.ref (fi 28).addr) = true
  b28 : Binds K (fi 28).fd (fi 28).ps []
  m29 : mg "_law_words" = some (.ref (fi 29).addr)
  k29 : PySem.W.keepIn K (.ref (fi 29).addr) = true
  b29 : Binds K (fi 29).fd (fi 29).ps []
  m30 : mg "law" = some (.ref (fi 30).addr)
  k30 : PySem.W.keepIn K (.ref (fi 30).addr) = true
  cl0 : Cls K (ca 0)
  mc0 : mg "Watcher" = some (.ref (ca 0))
  mk0 : Mk K (ca 0) (fi 2).addr
  na0_0 : NoAttr K (ca 0) "kinds"
  na0_1 : NoAttr K (ca 0) "variables"
  na0_2 : NoAttr K (ca 0) "block"
  isc0 : IsC K (ca 0)
  kit0 : PySem.W.kitOne K (.ref (ca 0)) (.ref (ca 0)) = some true
  cl1 : Cls K (ca 1)
  mc1 : mg "Reader" = some (.ref (ca 1))
  mk1 : Mk K (ca 1) (fi 4).addr
  na1_0 : NoAttr K (ca 1) "words"
  na1_1 : NoAttr K (ca 1) "at"
  na1_2 : NoAttr K (ca 1) "names"
  na1_3 : NoAttr K (ca 1) "draws"
  nt0 : PySem.W.notFirst K (ca 0) (.ref (ca 0)) = true
  a3 : PySem.W.findIn K (.ref (ca 0)) "__eq__" = some (some (.ref (fi 3).addr))
  i3 : PySem.W.isFn K (.ref (fi 3).addr) = true
  n_all : mg "all" = none
  n_bool : mg "bool" = none
  n_int : mg "int" = none
  n_isinstance : mg "isinstance" = none
  n_len : mg "len" = none
  n_list : mg "list" = none
  n_range : mg "range" = none
  n_str : mg "str" = none
  n_tuple : mg "tuple" = none
  t_KEYS : ∃ ka, mg "KEYS" = some (.ref ka) ∧ ∀ H, SqT K H ka (tup_KEYS.map V.str)
  t_SIGNS : ∃ ka, mg "SIGNS" = some (.ref ka) ∧ ∀ H, SqT K H ka (tup_SIGNS.map V.str)
  g_GREATEST : ∃ t, mg "GREATEST" = some (.int 65535 t)
  g_MOST_KINDS : ∃ t, mg "MOST_KINDS" = some (.int 4 t)
  g_MOST_NAMES : ∃ t, mg "MOST_NAMES" = some (.int 4 t)
  g_MOST_PARTS : ∃ t, mg "MOST_PARTS" = some (.int 8 t)
  g_MOST_DRAWS : ∃ t, mg "MOST_DRAWS" = some (.int 6 t)
  g_DEEPEST : ∃ t, mg "DEEPEST" = some (.int 6 t)
  g_DEEPEST_IF : ∃ t, mg "DEEPEST_IF" = some (.int 4 t)
section
variable {P : Program} {w : World} {K : PySem.W.Frag} {mg : Str → Option Value} {base : Heap} {ca : Nat → Addr} {fi : Nat → FI} {n : Nat}
theorem sc_is_name : FnScope ["word", "char"] ["word"] (defScope s_is_name) := ⟨rfl, rfl, rfl, by decide +kernel, rfl, by decide +kernel, by decide +kernel⟩
theorem b_is_name (hL : Lnk P w K mg base (lk ca) prog fi n) (Tx : Txt K mg ca fi) {wf : Nat} {cdv : Value} {A : Around} {outer : List Env} {s : Shared} {H : Hp} {E : XK} (hr : Room (2 * n + 1) (A.deeper (envOfC "is_name" (defScope s_is_name) s.heap.objs.size (fi 0).addr cdv))) :
    QSs (cxF P w K mg base ["word", "char"] "is_name" s_is_name (fi 0).addr cdv A outer s H E) (lk ca) (tab prog wf n) (fun cls d _ H => E cls d H) (defBody s_is_name) B_is_name :=
  (qs_cons (q_ret (pE_an (pE_ch hL hr .lt .le (pB pE_int) (pB (pE_biB hL hr rfl .len rfl rfl Tx.n_len (by decide +kernel) (pB (pE_var (i := 0) rfl (by first | exact Or.inl rfl | exact Or.inr (Or.inl rfl) | exact Or.inr (Or.inr rfl)))))) (pB pE_int) (by with_unfolding_all rfl)) (pE_an (pE_inK .nin (ss := tup_KEYS) (.inr rfl) rfl Tx.t_KEYS.choose_spec.1 Tx.t_KEYS.choose_spec.2 (pB (pE_var (i := 0) rfl (by first | exact Or.inl rfl | exact Or.inr (Or.inl rfl) | exact Or.inr (Or.inr rfl))))) (pE_one (pE_biB hL hr rfl .all rfl rfl Tx.n_all (by decide +kernel) (pB (pE_comp (t := (.one 1)) (own := [("char", 1)]) rfl sc_is_name.nd (pI_b (pB (pE_var (i := 0) rfl (by first | exact Or.inl rfl | exact Or.inr (Or.inl rfl) | exact Or.inr (Or.inr rfl))))) (blkOk_by (N := ["word", "char"]) (sc := defScope s_is_name) (own := [("char", 1)]) (by decide +kernel)) rfl tg_one tt_yes (fun _ _ _ _ _ => (pg_name (i := 1) sc_is_name.nd rfl (by first | exact Or.inl rfl | exact Or.inr rfl))) (fun _ _ _ _ _ => pts_nil) (fun _ _ _ _ _ => (pE_ch hL hr .le .le (pB pE_str) (pB (pE_var (i := 1) rfl (by first | exact Or.inl rfl | exact Or.inr (Or.inl rfl) | exact Or.inr (Or.inr rfl)))) (pB pE_str) (by with_unfolding_all rfl)))))))))) qs_nil)
theorem sc_number_of : FnScope ["word", "char", "number"] ["word"] (defScope s_number_of) := ⟨rfl, rfl, rfl, by decide +kernel, rfl, by decide +kernel, by decide +kernel⟩
theorem b_number_of (hL : Lnk P w K mg base (lk ca) prog fi n) (Tx : Txt K mg ca fi) {wf : Nat} {cdv : Value} {A : Around} {outer : List Env} {s : Shared} {H : Hp} {E : XK} (hr : Room (2 * n + 1) (A.deeper (envOfC "number_of" (defScope s_number_of) s.heap.objs.size (fi 1).addr cdv))) :
    QSs (cxF P w K mg base ["word", "char", "number"] "number_of" s_number_of (fi 1).addr cdv A outer s H E) (lk ca) (tab prog wf n) (fun cls d _ H => E cls d H) (defBody s_number_of) B_number_of :=
  (qs_cons (q_ite (L2.PW.pt (pW_or (pT_no (pT_ch hL hr .lt .le (pB pE_int) (pB (pE_biB hL hr rfl .len rfl rfl Tx.n_len (by decide +kernel) (pB (pE_var (i := 0) rfl (by first | exact Or.inl rfl | exact Or.inr (Or.inl rfl) | exact Or.inr (Or.inr rfl)))))) (pB pE_int) (by with_unfolding_all rfl))) (pW_or1 (pT_no (pT_tru (pB (pE_biB hL hr rfl .all rfl rfl Tx.n_all (by decide +kernel) (pB (pE_comp (t := (.one 1)) (own := [("char", 1)]) rfl sc_number_of.nd (pI_b (pB (pE_var (i := 0) rfl (by first | exact Or.inl rfl | exact Or.inr (Or.inl rfl) | exact Or.inr (Or.inr rfl))))) (blkOk_by (N := ["word", "char", "number"]) (sc := defScope s_number_of) (own := [("char", 1)]) (by decide +kernel)) rfl tg_one tt_yes (fun _ _ _ _ _ => (pg_name (i := 1) sc_number_of.nd rfl (by first | exact Or.inl rfl | exact Or.inr rfl))) (fun _ _ _ _ _ => pts_nil) (fun _ _ _ _ _ => (pE_ch hL hr .le .le (pB pE_str) (pB (pE_var (i := 1) rfl (by first | exact Or.inl rfl | exact Or.inr (Or.inl rfl) | exact Or.inr (Or.inr rfl)))) (pB pE_str) (by with_unfolding_all rfl))))))) (fun _ => rfl))))))
      (qs_cons (q_ret pE_non) qs_nil)
      qs_nil)
      (qs_cons (q_set (ps_set (i := 2) sc_number_of.nd rfl (by first | exact Or.inl rfl | exact Or.inr rfl) (pE_biT hL hr rfl .int rfl rfl Tx.n_int (by decide +kernel) (pB (pE_var (i := 0) rfl (by first | exact Or.inl rfl | exact Or.inr (Or.inl rfl) | exact Or.inr (Or.inr rfl)))))))
      (qs_cons (q_ret (pE_ite (L2.PW.pt (pW_an (pT_cm hL hr .eq (pB (pE_biT hL hr rfl .str rfl rfl Tx.n_str (by decide +kernel) (pB (pE_var (i := 2) rfl (by first | exact Or.inl rfl | exact Or.inr (Or.inl rfl) | exact Or.inr (Or.inr rfl)))))) (pB (pE_var (i := 0) rfl (by first | exact Or.inl rfl | exact Or.inr (Or.inl rfl) | exact Or.inr (Or.inr rfl)))) (nomark _)) (pW_an1 (pT_cm hL hr .le (pB (pE_var (i := 2) rfl (by first | exact Or.inl rfl | exact Or.inr (Or.inl rfl) | exact Or.inr (Or.inr rfl)))) (pB (pE_gi rfl Tx.g_GREATEST.choose_spec)) (nomark _))))) (pE_var (i := 2) rfl (by first | exact Or.inl rfl | exact Or.inr (Or.inl rfl) | exact Or.inr (Or.inr rfl))) pE_non)) qs_nil)))
theorem sc_Watcher_init : FnScope ["self", "kinds", "variables", "block"] ["self", "kinds", "variables", "block"] (defScope s_Watcher_init) := ⟨rfl, rfl, rfl, by decide +kernel, rfl, by decide +kernel, by decide +kernel⟩
theorem b_Watcher_init (hL : Lnk P w K mg base (lk ca) prog fi n) (Tx : Txt K mg ca fi) {wf : Nat} {cdv : Value} {A : Around} {outer : List Env} {s : Shared} {H : Hp} {E : XK} (hr : Room (2 * n + 1) (A.deeper (envOfC "Watcher.__init__" (defScope s_Watcher_init) s.heap.objs.size (fi 2).addr cdv))) :
    QSs (cxF P w K mg base ["self", "kinds", "variables", "block"] "Watcher.__init__" s_Watcher_init (fi 2).addr cdv A outer s H E) (lk ca) (tab prog wf n) (fun cls d _ H => E cls d H) (defBody s_Watcher_init) B_Watcher_init :=
  (qs_cons (q_setF rfl (by first | exact Or.inl rfl | exact Or.inr (Or.inl rfl) | exact Or.inr (Or.inr rfl)) Tx.cl0 Tx.na0_0 rfl (show 3 < 1000 by decide) (pE_var (i := 1) rfl (by first | exact Or.inl rfl | exact Or.inr (Or.inl rfl) | exact Or.inr (Or.inr rfl))) rfl)
      (qs_cons (q_setF rfl (by first | exact Or.inl rfl | exact Or.inr (Or.inl rfl) | exact Or.inr (Or.inr rfl)) Tx.cl0 Tx.na0_1 rfl (show 3 < 1000 by decide) (pE_biT hL hr rfl .tuple rfl rfl Tx.n_tuple (by decide +kernel) (pB (pE_var (i := 2) rfl (by first | exact Or.inl rfl | exact Or.inr (Or.inl rfl) | exact Or.inr (Or.inr rfl))))) rfl)
      (qs_cons (q_setF rfl (by first | exact Or.inl rfl | exact Or.inr (Or.inl rfl) | exact Or.inr (Or.inr rfl)) Tx.cl0 Tx.na0_2 rfl (show 3 < 1000 by decide) (pE_biT hL hr rfl .tuple rfl rfl Tx.n_tuple (by decide +kernel) (pB (pE_var (i := 3) rfl (by first | exact Or.inl rfl | exact Or.inr (Or.inl rfl) | exact Or.inr (Or.inr rfl))))) rfl) qs_nil)))
theorem sc_Watcher_eq : FnScope ["self", "other"] ["self", "other"] (defScope s_Watcher_eq) := ⟨rfl, rfl, rfl, by decide +kernel, rfl, by decide +kernel, by decide +kernel⟩
theorem b_Watcher_eq (hL : Lnk P w K mg base (lk ca) prog fi n) (Tx : Txt K mg ca fi) {wf : Nat} {cdv : Value} {A : Around} {outer : List Env} {s : Shared} {H : Hp} {E : XK} (hr : Room (2 * n + 1) (A.deeper (envOfC "Watcher.__eq__" (defScope s_Watcher_eq) s.heap.objs.size (fi 3).addr cdv))) :
    QSs (cxF P w K mg base ["self", "other"] "Watcher.__eq__" s_Watcher_eq (fi 3).addr cdv A outer s H E) (lk ca) (tab prog wf n) (fun cls d _ H => E cls d H) (defBody s_Watcher_eq) B_Watcher_eq :=
  (qs_cons (q_ret (pE_an (pE_isi rfl Tx.n_isinstance (by decide +kernel) (tyOk_o Tx.kit0 Tx.isc0) (pB (pE_var (i := 1) rfl (by first | exact Or.inl rfl | exact Or.inr (Or.inl rfl) | exact Or.inr (Or.inr rfl)))) (pe_glob (v := .ref (ca 0)) rfl Tx.mc0 rfl)) (pE_an (pE_cm hL hr .eq (pB (pE_tup (pA_cons (pE_fld (pE_var (i := 0) rfl (by first | exact Or.inl rfl | exact Or.inr (Or.inl rfl) | exact Or.inr (Or.inr rfl))) Tx.cl0 Tx.na0_0 rfl rfl) (pA_cons (pE_fld (pE_var (i := 0) rfl (by first | exact Or.inl rfl | exact Or.inr (Or.inl rfl) | exact Or.inr (Or.inr rfl))) Tx.cl0 Tx.na0_1 rfl rfl) pA_nil)))) (pB (pE_tup (pA_cons (pE_fld (pE_var (i := 1) rfl (by first | exact Or.inl rfl | exact Or.inr (Or.inl rfl) | exact Or.inr (Or.inr rfl))) Tx.cl0 Tx.na0_0 rfl rfl) (pA_cons (pE_fld (pE_var (i := 1) rfl (by first | exact Or.inl rfl | exact Or.inr (Or.inl rfl) | exact Or.inr (Or.inr rfl))) Tx.cl0 Tx.na0_1 rfl rfl) pA_nil)))) (nomark _)) (pE_one (pE_cm hL hr .eq (pB (pE_fld (pE_var (i := 0) rfl (by first | exact Or.inl rfl | exact Or.inr (Or.inl rfl) | exact Or.inr (Or.inr rfl))) Tx.cl0 Tx.na0_2 rfl rfl)) (pB (pE_fld (pE_var (i := 1) rfl (by first | exact Or.inl rfl | exact Or.inr (Or.inl rfl) | exact Or.inr (Or.inr rfl))) Tx.cl0 Tx.na0_2 rfl rfl)) (nomark _)))))) qs_nil)
theorem sc_Reader_init : FnScope ["self", "text"] ["self", "text"] (defScope s_Reader_init) := ⟨rfl, rfl, rfl, by decide +kernel, rfl, by decide +kernel, by decide +kernel⟩
theorem b_Reader_init (hL : Lnk P w K mg base (lk ca) prog fi n) (Tx : Txt K mg ca fi) {wf : Nat} {cdv : Value} {A : Around} {outer : List Env} {s : Shared} {H : Hp} {E : XK} (hr : Room (2 * n + 1) (A.deeper (envOfC "Reader.__init__" (defScope s_Reader_init) s.heap.objs.size (fi 4).addr cdv))) :
    QSs (cxF P w K mg base ["self", "text"] "Reader.__init__" s_Reader_init (fi 4).addr cdv A outer s H E) (lk ca) (tab prog wf n) (fun cls d _ H => E cls d H) (defBody s_Reader_init) B_Reader_init :=
  (qs_cons (q_stF (i := 0) rfl (by first | exact Or.inl rfl | exact Or.inr (Or.inl rfl) | exact Or.inr (Or.inr rfl)) Tx.cl1 Tx.na1_0 rfl (show 4 < 1000 by decide) (pE_ite (pT_cm hL hr .ne (pB (pE_var (i := 1) rfl (by first | exact Or.inl rfl | exact Or.inr (Or.inl rfl) | exact Or.inr (Or.inr rfl)))) (pB pE_str) (nomark _)) (pE_mb .split PySem.F.slot_str_split PySem.F.type_str_split (pB (pE_var (i := 1) rfl (by first | exact Or.inl rfl | exact Or.inr (Or.inl rfl) | exact Or.inr (Or.inr rfl)))) (pB pE_str)) (pE_lst pA_nil)) rfl)
      (qs_cons (q_stF (i := 0) rfl (by first | exact Or.inl rfl | exact Or.inr (Or.inl rfl) | exact Or.inr (Or.inr rfl)) Tx.cl1 Tx.na1_1 rfl (show 4 < 1000 by decide) pE_int rfl)
      (qs_cons (q_stF (i := 0) rfl (by first | exact Or.inl rfl | exact Or.inr (Or.inl rfl) | exact Or.inr (Or.inr rfl)) Tx.cl1 Tx.na1_2 rfl (show 4 < 1000 by decide) (pE_nl (pF_lst pA_nil)) rfl)
      (qs_cons (q_stF (i := 0) rfl (by first | exact Or.inl rfl | exact Or.inr (Or.inl rfl) | exact Or.inr (Or.inr rfl)) Tx.cl1 Tx.na1_3 rfl (show 4 < 1000 by decide) pE_int rfl) qs_nil))))
theorem sc_Reader_word : FnScope ["self"] ["self"] (defScope s_Reader_word) := ⟨rfl, rfl, rfl, by decide +kernel, rfl, by decide +kernel, by decide +kernel⟩
theorem b_Reader_word (hL : Lnk P w K mg base (lk ca) prog fi n) (Tx : Txt K mg ca fi) {wf : Nat} {cdv : Value} {A : Around} {outer : List Env} {s : Shared} {H : Hp} {E : XK} (hr : Room (2 * n + 1) (A.deeper (envOfC "Reader.word" (defScope s_Reader_word) s.heap.objs.size (fi 5).addr cdv))) :
    QSs (cxF P w K mg base ["self"] "Reader.word" s_Reader_word (fi 5).addr cdv A outer s H E) (lk ca) (tab prog wf n) (fun cls d _ H => E cls d H) (defBody s_Reader_word) B_Reader_word :=
  (qs_cons (q_ret (pE_ite (pT_cm hL hr .lt (pB (pE_fld (pE_var (i := 0) rfl (by first | exact Or.inl rfl | exact Or.inr (Or.inl rfl) | exact Or.inr (Or.inr rfl))) Tx.cl1 Tx.na1_1 rfl rfl)) (pB (pE_biB hL hr rfl .len rfl rfl Tx.n_len (by decide +kernel) (pB (pE_fld (pE_var (i := 0) rfl (by first | exact Or.inl rfl | exact Or.inr (Or.inl rfl) | exact Or.inr (Or.inr rfl))) Tx.cl1 Tx.na1_0 rfl rfl)))) (nomark _)) (pE_ix (pB (pE_fld (pE_var (i := 0) rfl (by first | exact Or.inl rfl | exact Or.inr (Or.inl rfl) | exact Or.inr (Or.inr rfl))) Tx.cl1 Tx.na1_0 rfl rfl)) (pB (pE_fld (pE_var (i := 0) rfl (by first | exact Or.inl rfl | exact Or.inr (Or.inl rfl) | exact Or.inr (Or.inr rfl))) Tx.cl1 Tx.na1_1 rfl rfl)) (fun _ _ => rfl)) pE_str)) qs_nil)
theorem sc_Reader_pass_word : FnScope ["self", "allowed", "word"] ["self", "allowed"] (defScope s_Reader_pass_word) := ⟨rfl, rfl, rfl, by decide +kernel, rfl, by decide +kernel, by decide +kernel⟩
theorem b_Reader_pass_word (hL : Lnk P w K mg base (lk ca) prog fi n) (Tx : Txt K mg ca fi) {wf : Nat} {cdv : Value} {A : Around} {outer : List Env} {s : Shared} {H : Hp} {E : XK} (hr : Room (2 * n + 1) (A.deeper (envOfC "Reader.pass_word" (defScope s_Reader_pass_word) s.heap.objs.size (fi 6).addr cdv))) :
    QSs (cxF P w K mg base ["self", "allowed", "word"] "Reader.pass_word" s_Reader_pass_word (fi 6).addr cdv A outer s H E) (lk ca) (tab prog wf n) (fun cls d _ H => E cls d H) (defBody s_Reader_pass_word) B_Reader_pass_word :=
  (qs_cons (q_set (ps_set (i := 2) sc_Reader_pass_word.nd rfl (by first | exact Or.inl rfl | exact Or.inr rfl) (pE_meth0 (f := 5) hL hr (takes_of rfl rfl rfl rfl) rfl rfl rfl Tx.cl1 Tx.me5 rfl Tx.b5 .nil (fun _ _ => .nil) (pE_var (i := 0) rfl (by first | exact Or.inl rfl | exact Or.inr (Or.inl rfl) | exact Or.inr (Or.inr rfl))))))
      (qs_cons (q_ite (pT_cm hL hr .nin (pB (pE_var (i := 2) rfl (by first | exact Or.inl rfl | exact Or.inr (Or.inl rfl) | exact Or.inr (Or.inr rfl)))) (pB (pE_var (i := 1) rfl (by first | exact Or.inl rfl | exact Or.inr (Or.inl rfl) | exact Or.inr (Or.inr rfl)))) (by with_unfolding_all rfl))
      (qs_cons q_never qs_nil)
      qs_nil)
      (qs_cons (q_auF (i := 0) rfl (by first | exact Or.inl rfl | exact Or.inr (Or.inl rfl) | exact Or.inr (Or.inr rfl)) Tx.cl1 Tx.na1_1 rfl (show 4 < 1000 by decide) pE_int)
      (qs_cons (q_ret (pE_var (i := 2) rfl (by first | exact Or.inl rfl | exact Or.inr (Or.inl rfl) | exact Or.inr (Or.inr rfl)))) qs_nil))))
theorem sc_Reader_pass_number : FnScope ["self", "least", "most", "number"] ["self", "least", "most"] (defScope s_Reader_pass_number) := ⟨rfl, rfl, rfl, by decide +kernel, rfl, by decide +kernel, by decide +kernel⟩
theorem b_Reader_pass_number (hL : Lnk P w K mg base (lk ca) prog fi n) (Tx : Txt K mg ca fi) {wf : Nat} {cdv : Value} {A : Around} {outer : List Env} {s : Shared} {H : Hp} {E : XK} (hr : Room (2 * n + 1) (A.deeper (envOfC "Reader.pass_number" (defScope s_Reader_pass_number) s.heap.objs.size (fi 7).addr cdv))) :
    QSs (cxF P w K mg base ["self", "least", "most", "number"] "Reader.pass_number" s_Reader_pass_number (fi 7).addr cdv A outer s H E) (lk ca) (tab prog wf n) (fun cls d _ H => E cls d H) (defBody s_Reader_pass_number) B_Reader_pass_number :=
  (qs_cons (q_set (ps_set (i := 3) sc_Reader_pass_number.nd rfl (by first | exact Or.inl rfl | exact Or.inr rfl) (pE_call (f := 1) hL hr (takes_of rfl rfl rfl rfl) rfl rfl rfl rfl Tx.m1 Tx.k1 Tx.b1 .nil (fun _ _ => .nil) (pA_cons (pE_meth0 (f := 5) hL hr (takes_of rfl rfl rfl rfl) rfl rfl rfl Tx.cl1 Tx.me5 rfl Tx.b5 .nil (fun _ _ => .nil) (pE_var (i := 0) rfl (by first | exact Or.inl rfl | exact Or.inr (Or.inl rfl) | exact Or.inr (Or.inr rfl)))) pA_nil))))
      (qs_cons (q_ite (L2.PW.pt (pW_or (pT_cm hL hr .is (pB (pE_var (i := 3) rfl (by first | exact Or.inl rfl | exact Or.inr (Or.inl rfl) | exact Or.inr (Or.inr rfl)))) (pB pE_non) (nomark _)) (pW_or1 (pT_no (pT_ch hL hr .le .le (pB (pE_var (i := 1) rfl (by first | exact Or.inl rfl | exact Or.inr (Or.inl rfl) | exact Or.inr (Or.inr rfl)))) (pB (pE_var (i := 3) rfl (by first | exact Or.inl rfl | exact Or.inr (Or.inl rfl) | exact Or.inr (Or.inr rfl)))) (pB (pE_var (i := 2) rfl (by first | exact Or.inl rfl | exact Or.inr (Or.inl rfl) | exact Or.inr (Or.inr rfl)))) (by with_unfolding_all rfl))))))
      (qs_cons q_never qs_nil)
      qs_nil)
      (qs_cons (q_auF (i := 0) rfl (by first | exact Or.inl rfl | exact Or.inr (Or.inl rfl) | exact Or.inr (Or.inr rfl)) Tx.cl1 Tx.na1_1 rfl (show 4 < 1000 by decide) pE_int)
      (qs_cons (q_ret (pE_var (i := 3) rfl (by first | exact Or.inl rfl | exact Or.inr (Or.inl rfl) | exact Or.inr (Or.inr rfl)))) qs_nil))))
theorem sc_Reader_watcher : FnScope ["self", "kinds", "variables", "name", "block"] ["self"] (defScope s_Reader_watcher) := ⟨rfl, rfl, rfl, by decide +kernel, rfl, by decide +kernel, by decide +kernel⟩
theorem b_Reader_watcher (hL : Lnk P w K mg base (lk ca) prog fi n) (Tx : Txt K mg ca fi) {wf : Nat} {cdv : Value} {A : Around} {outer : List Env} {s : Shared} {H : Hp} {E : XK} (hr : Room (2 * n + 1) (A.deeper (envOfC "Reader.watcher" (defScope s_Reader_watcher) s.heap.objs.size (fi 8).addr cdv))) :
    QSs (cxF P w K mg base ["self", "kinds", "variables", "name", "block"] "Reader.watcher" s_Reader_watcher (fi 8).addr cdv A outer s H E) (lk ca) (tab prog wf n) (fun cls d _ H => E cls d H) (defBody s_Reader_watcher) B_Reader_watcher :=
  (qs_cons (q_drop (pE_meth (f := 6) hL hr (takes_of rfl rfl rfl rfl) rfl rfl rfl Tx.cl1 Tx.me6 rfl Tx.b6 .nil (fun _ _ => .nil) (pE_var (i := 0) rfl (by first | exact Or.inl rfl | exact Or.inr (Or.inl rfl) | exact Or.inr (Or.inr rfl))) (pA_cons (pE_tup (pA_cons pE_str pA_nil)) pA_nil)))
      (qs_cons (q_set (ps_set (i := 1) sc_Reader_watcher.nd rfl (by first | exact Or.inl rfl | exact Or.inr rfl) (pE_meth (f := 7) hL hr (takes_of rfl rfl rfl rfl) rfl rfl rfl Tx.cl1 Tx.me7 rfl Tx.b7 .nil (fun _ _ => .nil) (pE_var (i := 0) rfl (by first | exact Or.inl rfl | exact Or.inr (Or.inl rfl) | exact Or.inr (Or.inr rfl))) (pA_cons pE_int (pA_cons (pE_gi rfl Tx.g_MOST_KINDS.choose_spec) pA_nil)))))
      (qs_cons (q_setO (ps_set (i := 2) sc_Reader_watcher.nd rfl (by first | exact Or.inl rfl | exact Or.inr rfl) (pF_lst pA_nil)))
      (qs_cons (q_whl (passes_of rfl) (L2.PW.pt (pW_an (pT_cm hL hr .eq (pB (pE_meth0 (f := 5) hL hr (takes_of rfl rfl rfl rfl) rfl rfl rfl Tx.cl1 Tx.me5 rfl Tx.b5 .nil (fun _ _ => .nil) (pE_var (i := 0) rfl (by first | exact Or.inl rfl | exact Or.inr (Or.inl rfl) | exact Or.inr (Or.inr rfl))))) (pB pE_str) (nomark _)) (pW_an1 (pT_cm hL hr .lt (pB (pE_biB hL hr rfl .len rfl rfl Tx.n_len (by decide +kernel) (pB_var (i := 2) rfl (by first | exact Or.inl rfl | exact Or.inr (Or.inl rfl) | exact Or.inr (Or.inr rfl))))) (pB (pE_gi rfl Tx.g_MOST_NAMES.choose_spec)) (nomark _)))))
      (qs_cons (q_auF (i := 0) rfl (by first | exact Or.inl rfl | exact Or.inr (Or.inl rfl) | exact Or.inr (Or.inr rfl)) Tx.cl1 Tx.na1_1 rfl (show 4 < 1000 by decide) pE_int)
      (qs_cons (q_set (ps_set (i := 3) sc_Reader_watcher.nd rfl (by first | exact Or.inl rfl | exact Or.inr rfl) (pE_meth0 (f := 5) hL hr (takes_of rfl rfl rfl rfl) rfl rfl rfl Tx.cl1 Tx.me5 rfl Tx.b5 .nil (fun _ _ => .nil) (pE_var (i := 0) rfl (by first | exact Or.inl rfl | exact Or.inr (Or.inl rfl) | exact Or.inr (Or.inr rfl))))))
      (qs_cons (q_ite (L2.PW.pt (pW_or (pT_no (pT_tru (pB (pE_call (f := 0) hL hr (takes_of rfl rfl rfl rfl) rfl rfl rfl rfl Tx.m0 Tx.k0 Tx.b0 .nil (fun _ _ => .nil) (pA_cons (pE_var (i := 3) rfl (by first | exact Or.inl rfl | exact Or.inr (Or.inl rfl) | exact Or.inr (Or.inr rfl))) pA_nil))) (fun _ => rfl))) (pW_or1 (pT_cm hL hr .inn (pB (pE_var (i := 3) rfl (by first | exact Or.inl rfl | exact Or.inr (Or.inl rfl) | exact Or.inr (Or.inr rfl)))) (pB (pE_fld (pE_var (i := 0) rfl (by first | exact Or.inl rfl | exact Or.inr (Or.inl rfl) | exact Or.inr (Or.inr rfl))) Tx.cl1 Tx.na1_2 rfl rfl)) (by with_unfolding_all rfl)))))
      (qs_cons q_never qs_nil)
      qs_nil)
      (qs_cons (q_auF (i := 0) rfl (by first | exact Or.inl rfl | exact Or.inr (Or.inl rfl) | exact Or.inr (Or.inr rfl)) Tx.cl1 Tx.na1_1 rfl (show 4 < 1000 by decide) pE_int)
      (qs_cons (q_appE (pE_fld (pE_var (i := 0) rfl (by first | exact Or.inl rfl | exact Or.inr (Or.inl rfl) | exact Or.inr (Or.inr rfl))) Tx.cl1 Tx.na1_2 rfl rfl) (pE_var (i := 3) rfl (by first | exact Or.inl rfl | exact Or.inr (Or.inl rfl) | exact Or.inr (Or.inr rfl))) (fun h1 h2 => ps_expr (pe_bm PySem.F.plainAttrs_list PySem.F.slot_list_append PySem.F.type_list_append mt_append h1 h2)))
      (qs_cons (q_app (i := 2) rfl (by first | exact Or.inl rfl | exact Or.inr (Or.inl rfl) | exact Or.inr (Or.inr rfl)) (pE_tup (pA_cons (pE_var (i := 3) rfl (by first | exact Or.inl rfl | exact Or.inr (Or.inl rfl) | exact Or.inr (Or.inr rfl))) (pA_cons (pE_meth (f := 7) hL hr (takes_of rfl rfl rfl rfl) rfl rfl rfl Tx.cl1 Tx.me7 rfl Tx.b7 .nil (fun _ _ => .nil) (pE_var (i := 0) rfl (by first | exact Or.inl rfl | exact Or.inr (Or.inl rfl) | exact Or.inr (Or.inr rfl))) (pA_cons pE_int (pA_cons (pE_gi rfl Tx.g_GREATEST.choose_spec) pA_nil))) pA_nil))) (hp := fun h1 h2 => ps_expr (pe_bm PySem.F.plainAttrs_list PySem.F.slot_list_append PySem.F.type_list_append mt_append h1 h2))) qs_nil)))))))
      (qs_cons (q_set (ps_set (i := 4) sc_Reader_watcher.nd rfl (by first | exact Or.inl rfl | exact Or.inr rfl) (pE_meth (f := 9) hL hr (takes_of rfl rfl rfl rfl) rfl rfl rfl Tx.cl1 Tx.me9 rfl Tx.b9 .nil (fun _ _ => .nil) (pE_var (i := 0) rfl (by first | exact Or.inl rfl | exact Or.inr (Or.inl rfl) | exact Or.inr (Or.inr rfl))) (pA_cons (pE_gi rfl Tx.g_DEEPEST_IF.choose_spec) pA_nil))))
      (qs_cons (q_ite (pT_cm hL hr .lt (pB (pE_fld (pE_var (i := 0) rfl (by first | exact Or.inl rfl | exact Or.inr (Or.inl rfl) | exact Or.inr (Or.inr rfl))) Tx.cl1 Tx.na1_1 rfl rfl)) (pB (pE_biB hL hr rfl .len rfl rfl Tx.n_len (by decide +kernel) (pB (pE_fld (pE_var (i := 0) rfl (by first | exact Or.inl rfl | exact Or.inr (Or.inl rfl) | exact Or.inr (Or.inr rfl))) Tx.cl1 Tx.na1_0 rfl rfl)))) (nomark _))
      (qs_cons q_never qs_nil)
      qs_nil)
      (qs_fz (i := 2) (qs_cons (q_ret (pE_mk (f := 2) hL hr (takes_of rfl rfl rfl rfl) rfl rfl Tx.mk0 rfl Tx.mc0 Tx.b2 .nil (fun _ _ => .nil) (pA_cons (pE_var (i := 1) rfl (by first | exact Or.inl rfl | exact Or.inr (Or.inl rfl) | exact Or.inr (Or.inr rfl))) (pA_cons (pE_var (i := 2) rfl (by first | exact Or.inl rfl | exact Or.inr (Or.inl rfl) | exact Or.inr (Or.inr rfl))) (pA_cons (pE_var (i := 4) rfl (by first | exact Or.inl rfl | exact Or.inr (Or.inl rfl) | exact Or.inr (Or.inr rfl))) pA_nil))))) qs_nil))))))))
theorem sc_Reader_block : FnScope ["self", "room", "rows"] ["self", "room"] (defScope s_Reader_block) := ⟨rfl, rfl, rfl, by decide +kernel, rfl, by decide +kernel, by decide +kernel⟩
theorem b_Reader_block (hL : Lnk P w K mg base (lk ca) prog fi n) (Tx : Txt K mg ca fi) {wf : Nat} {cdv : Value} {A : Around} {outer : List Env} {s : Shared} {H : Hp} {E : XK} (hr : Room (2 * n + 1) (A.deeper (envOfC "Reader.block" (defScope s_Reader_block) s.heap.objs.size (fi 9).addr cdv))) :
    QSs (cxF P w K mg base ["self", "room", "rows"] "Reader.block" s_Reader_block (fi 9).addr cdv A outer s H E) (lk ca) (tab prog wf n) (fun cls d _ H => E cls d H) (defBody s_Reader_block) B_Reader_block :=
  (qs_cons (q_setO (ps_set (i := 2) sc_Reader_block.nd rfl (by first | exact Or.inl rfl | exact Or.inr rfl) (pF_lst pA_nil)))
      (qs_cons (q_whl (passes_of rfl) (pT_tru (pB (pE_meth (f := 10) hL hr (takes_of rfl rfl rfl rfl) rfl rfl rfl Tx.cl1 Tx.me10 rfl Tx.b10 .nil (fun _ _ => .nil) (pE_var (i := 0) rfl (by first | exact Or.inl rfl | exact Or.inr (Or.inl rfl) | exact Or.inr (Or.inr rfl))) (pA_cons (pE_var (i := 1) rfl (by first | exact Or.inl rfl | exact Or.inr (Or.inl rfl) | exact Or.inr (Or.inr rfl))) pA_nil))) (fun _ => rfl))
      (qs_cons (q_app (i := 2) rfl (by first | exact Or.inl rfl | exact Or.inr (Or.inl rfl) | exact Or.inr (Or.inr rfl)) (pE_meth (f := 11) hL hr (takes_of rfl rfl rfl rfl) rfl rfl rfl Tx.cl1 Tx.me11 rfl Tx.b11 .nil (fun _ _ => .nil) (pE_var (i := 0) rfl (by first | exact Or.inl rfl | exact Or.inr (Or.inl rfl) | exact Or.inr (Or.inr rfl))) (pA_cons (pE_var (i := 1) rfl (by first | exact Or.inl rfl | exact Or.inr (Or.inl rfl) | exact Or.inr (Or.inr rfl))) pA_nil)) (hp := fun h1 h2 => ps_expr (pe_bm PySem.F.plainAttrs_list PySem.F.slot_list_append PySem.F.type_list_append mt_append h1 h2))) qs_nil))
      (qs_cons (q_ret (pE_biT hL hr rfl .tuple rfl rfl Tx.n_tuple (by decide +kernel) (pB_var (i := 2) rfl (by first | exact Or.inl rfl | exact Or.inr (Or.inl rfl) | exact Or.inr (Or.inr rfl))))) qs_nil)))
theorem sc_Reader_begins : FnScope ["self", "room", "word"] ["self", "room"] (defScope s_Reader_begins) := ⟨rfl, rfl, rfl, by decide +kernel, rfl, by decide +kernel, by decide +kernel⟩
theorem b_Reader_begins (hL : Lnk P w K mg base (lk ca) prog fi n) (Tx : Txt K mg ca fi) {wf : Nat} {cdv : Value} {A : Around} {outer : List Env} {s : Shared} {H : Hp} {E : XK} (hr : Room (2 * n + 1) (A.deeper (envOfC "Reader.begins" (defScope s_Reader_begins) s.heap.objs.size (fi 10).addr cdv))) :
    QSs (cxF P w K mg base ["self", "room", "word"] "Reader.begins" s_Reader_begins (fi 10).addr cdv A outer s H E) (lk ca) (tab prog wf n) (fun cls d _ H => E cls d H) (defBody s_Reader_begins) B_Reader_begins :=
  (qs_cons (q_set (ps_set (i := 2) sc_Reader_begins.nd rfl (by first | exact Or.inl rfl | exact Or.inr rfl) (pE_meth0 (f := 5) hL hr (takes_of rfl rfl rfl rfl) rfl rfl rfl Tx.cl1 Tx.me5 rfl Tx.b5 .nil (fun _ _ => .nil) (pE_var (i := 0) rfl (by first | exact Or.inl rfl | exact Or.inr (Or.inl rfl) | exact Or.inr (Or.inr rfl))))))
      (qs_cons (q_ite (pT_cm hL hr .eq (pB (pE_var (i := 2) rfl (by first | exact Or.inl rfl | exact Or.inr (Or.inl rfl) | exact Or.inr (Or.inr rfl)))) (pB pE_str) (nomark _))
      (qs_cons (q_ret (pE_biT hL hr rfl .bool rfl rfl Tx.n_bool (by decide +kernel) (pB (pE_fld (pE_var (i := 0) rfl (by first | exact Or.inl rfl | exact Or.inr (Or.inl rfl) | exact Or.inr (Or.inr rfl))) Tx.cl1 Tx.na1_2 rfl rfl)))) qs_nil)
      qs_nil)
      (qs_cons (q_ite (pT_cm hL hr .eq (pB (pE_var (i := 2) rfl (by first | exact Or.inl rfl | exact Or.inr (Or.inl rfl) | exact Or.inr (Or.inr rfl)))) (pB pE_str) (nomark _))
      (qs_cons (q_ret (pE_an (pE_biT hL hr rfl .bool rfl rfl Tx.n_bool (by decide +kernel) (pB (pE_fld (pE_var (i := 0) rfl (by first | exact Or.inl rfl | exact Or.inr (Or.inl rfl) | exact Or.inr (Or.inr rfl))) Tx.cl1 Tx.na1_2 rfl rfl))) (pE_one (pE_cm hL hr .lt (pB (pE_fld (pE_var (i := 0) rfl (by first | exact Or.inl rfl | exact Or.inr (Or.inl rfl) | exact Or.inr (Or.inr rfl))) Tx.cl1 Tx.na1_3 rfl rfl)) (pB (pE_gi rfl Tx.g_MOST_DRAWS.choose_spec)) (nomark _))))) qs_nil)
      qs_nil)
      (qs_cons (q_ret (pE_or (pE_cm hL hr .eq (pB (pE_var (i := 2) rfl (by first | exact Or.inl rfl | exact Or.inr (Or.inl rfl) | exact Or.inr (Or.inr rfl)))) (pB pE_str) (nomark _)) (pE_one (pE_an (pE_cm hL hr .eq (pB (pE_var (i := 2) rfl (by first | exact Or.inl rfl | exact Or.inr (Or.inl rfl) | exact Or.inr (Or.inr rfl)))) (pB pE_str) (nomark _)) (pE_one (pE_cm hL hr .gt (pB (pE_var (i := 1) rfl (by first | exact Or.inl rfl | exact Or.inr (Or.inl rfl) | exact Or.inr (Or.inr rfl)))) (pB pE_int) (nomark _))))))) qs_nil))))
theorem sc_Reader_statement : FnScope ["self", "room", "word", "test", "then", "other"] ["self", "room"] (defScope s_Reader_statement) := ⟨rfl, rfl, rfl, by decide +kernel, rfl, by decide +kernel, by decide +kernel⟩
theorem b_Reader_statement (hL : Lnk P w K mg base (lk ca) prog fi n) (Tx : Txt K mg ca fi) {wf : Nat} {cdv : Value} {A : Around} {outer : List Env} {s : Shared} {H : Hp} {E : XK} (hr : Room (2 * n + 1) (A.deeper (envOfC "Reader.statement" (defScope s_Reader_statement) s.heap.objs.size (fi 11).addr cdv))) :
    QSs (cxF P w K mg base ["self", "room", "word", "test", "then", "other"] "Reader.statement" s_Reader_statement (fi 11).addr cdv A outer s H E) (lk ca) (tab prog wf n) (fun cls d _ H => E cls d H) (defBody s_Reader_statement) B_Reader_statement :=
  (qs_cons (q_set (ps_set (i := 2) sc_Reader_statement.nd rfl (by first | exact Or.inl rfl | exact Or.inr rfl) (pE_meth0 (f := 5) hL hr (takes_of rfl rfl rfl rfl) rfl rfl rfl Tx.cl1 Tx.me5 rfl Tx.b5 .nil (fun _ _ => .nil) (pE_var (i := 0) rfl (by first | exact Or.inl rfl | exact Or.inr (Or.inl rfl) | exact Or.inr (Or.inr rfl))))))
      (qs_cons (q_auF (i := 0) rfl (by first | exact Or.inl rfl | exact Or.inr (Or.inl rfl) | exact Or.inr (Or.inr rfl)) Tx.cl1 Tx.na1_1 rfl (show 4 < 1000 by decide) pE_int)
      (qs_cons (q_ite (pT_cm hL hr .eq (pB (pE_var (i := 2) rfl (by first | exact Or.inl rfl | exact Or.inr (Or.inl rfl) | exact Or.inr (Or.inr rfl)))) (pB pE_str) (nomark _))
      (qs_cons (q_ret (pE_tup (pA_cons (pE_var (i := 2) rfl (by first | exact Or.inl rfl | exact Or.inr (Or.inl rfl) | exact Or.inr (Or.inr rfl))) (pA_cons (pE_meth (f := 12) hL hr (takes_of rfl rfl rfl rfl) rfl rfl rfl Tx.cl1 Tx.me12 rfl Tx.b12 .nil (fun _ _ => .nil) (pE_var (i := 0) rfl (by first | exact Or.inl rfl | exact Or.inr (Or.inl rfl) | exact Or.inr (Or.inr rfl))) (pA_cons (pE_gi rfl Tx.g_DEEPEST.choose_spec) pA_nil)) pA_nil)))) qs_nil)
      qs_nil)
      (qs_cons (q_ite (pT_cm hL hr .eq (pB (pE_var (i := 2) rfl (by first | exact Or.inl rfl | exact Or.inr (Or.inl rfl) | exact Or.inr (Or.inr rfl)))) (pB pE_str) (nomark _))
      (qs_cons (q_ret (pE_tup (pA_cons (pE_var (i := 2) rfl (by first | exact Or.inl rfl | exact Or.inr (Or.inl rfl) | exact Or.inr (Or.inr rfl))) (pA_cons (pE_meth (f := 6) hL hr (takes_of rfl rfl rfl rfl) rfl rfl rfl Tx.cl1 Tx.me6 rfl Tx.b6 .nil (fun _ _ => .nil) (pE_var (i := 0) rfl (by first | exact Or.inl rfl | exact Or.inr (Or.inl rfl) | exact Or.inr (Or.inr rfl))) (pA_cons (pE_fld (pE_var (i := 0) rfl (by first | exact Or.inl rfl | exact Or.inr (Or.inl rfl) | exact Or.inr (Or.inr rfl))) Tx.cl1 Tx.na1_2 rfl rfl) pA_nil)) (pA_cons (pE_meth (f := 12) hL hr (takes_of rfl rfl rfl rfl) rfl rfl rfl Tx.cl1 Tx.me12 rfl Tx.b12 .nil (fun _ _ => .nil) (pE_var (i := 0) rfl (by first | exact Or.inl rfl | exact Or.inr (Or.inl rfl) | exact Or.inr (Or.inr rfl))) (pA_cons (pE_gi rfl Tx.g_DEEPEST.choose_spec) pA_nil)) pA_nil))))) qs_nil)
      qs_nil)
      (qs_cons (q_ite (pT_cm hL hr .eq (pB (pE_var (i := 2) rfl (by first | exact Or.inl rfl | exact Or.inr (Or.inl rfl) | exact Or.inr (Or.inr rfl)))) (pB pE_str) (nomark _))
      (qs_cons (q_auF (i := 0) rfl (by first | exact Or.inl rfl | exact Or.inr (Or.inl rfl) | exact Or.inr (Or.inr rfl)) Tx.cl1 Tx.na1_3 rfl (show 4 < 1000 by decide) pE_int)
      (qs_cons (q_ret (pE_tup (pA_cons (pE_var (i := 2) rfl (by first | exact Or.inl rfl | exact Or.inr (Or.inl rfl) | exact Or.inr (Or.inr rfl))) (pA_cons (pE_meth (f := 6) hL hr (takes_of rfl rfl rfl rfl) rfl rfl rfl Tx.cl1 Tx.me6 rfl Tx.b6 .nil (fun _ _ => .nil) (pE_var (i := 0) rfl (by first | exact Or.inl rfl | exact Or.inr (Or.inl rfl) | exact Or.inr (Or.inr rfl))) (pA_cons (pE_fld (pE_var (i := 0) rfl (by first | exact Or.inl rfl | exact Or.inr (Or.inl rfl) | exact Or.inr (Or.inr rfl))) Tx.cl1 Tx.na1_2 rfl rfl) pA_nil)) (pA_cons (pE_meth (f := 7) hL hr (takes_of rfl rfl rfl rfl) rfl rfl rfl Tx.cl1 Tx.me7 rfl Tx.b7 .nil (fun _ _ => .nil) (pE_var (i := 0) rfl (by first | exact Or.inl rfl | exact Or.inr (Or.inl rfl) | exact Or.inr (Or.inr rfl))) (pA_cons pE_int (pA_cons (pE_gi rfl Tx.g_MOST_PARTS.choose_spec) pA_nil))) pA_nil))))) qs_nil))
      qs_nil)
      (qs_cons (q_set (ps_set (i := 3) sc_Reader_statement.nd rfl (by first | exact Or.inl rfl | exact Or.inr rfl) (pE_meth (f := 12) hL hr (takes_of rfl rfl rfl rfl) rfl rfl rfl Tx.cl1 Tx.me12 rfl Tx.b12 .nil (fun _ _ => .nil) (pE_var (i := 0) rfl (by first | exact Or.inl rfl | exact Or.inr (Or.inl rfl) | exact Or.inr (Or.inr rfl))) (pA_cons (pE_gi rfl Tx.g_DEEPEST.choose_spec) pA_nil))))
      (qs_cons (q_set (ps_set (i := 4) sc_Reader_statement.nd rfl (by first | exact Or.inl rfl | exact Or.inr rfl) (pE_meth (f := 9) hL hr (takes_of rfl rfl rfl rfl) rfl rfl rfl Tx.cl1 Tx.me9 rfl Tx.b9 .nil (fun _ _ => .nil) (pE_var (i := 0) rfl (by first | exact Or.inl rfl | exact Or.inr (Or.inl rfl) | exact Or.inr (Or.inr rfl))) (pA_cons (pE_op hL hr .sub (pB (pE_var (i := 1) rfl (by first | exact Or.inl rfl | exact Or.inr (Or.inl rfl) | exact Or.inr (Or.inr rfl)))) (pB pE_int)) pA_nil))))
      (qs_cons (q_set (ps_set (i := 5) sc_Reader_statement.nd rfl (by first | exact Or.inl rfl | exact Or.inr rfl) (pE_tup pA_nil)))
      (qs_cons (q_ite (pT_cm hL hr .eq (pB (pE_meth0 (f := 5) hL hr (takes_of rfl rfl rfl rfl) rfl rfl rfl Tx.cl1 Tx.me5 rfl Tx.b5 .nil (fun _ _ => .nil) (pE_var (i := 0) rfl (by first | exact Or.inl rfl | exact Or.inr (Or.inl rfl) | exact Or.inr (Or.inr rfl))))) (pB pE_str) (nomark _))
      (qs_cons (q_auF (i := 0) rfl (by first | exact Or.inl rfl | exact Or.inr (Or.inl rfl) | exact Or.inr (Or.inr rfl)) Tx.cl1 Tx.na1_1 rfl (show 4 < 1000 by decide) pE_int)
      (qs_cons (q_set (ps_set (i := 5) sc_Reader_statement.nd rfl (by first | exact Or.inl rfl | exact Or.inr rfl) (pE_meth (f := 9) hL hr (takes_of rfl rfl rfl rfl) rfl rfl rfl Tx.cl1 Tx.me9 rfl Tx.b9 .nil (fun _ _ => .nil) (pE_var (i := 0) rfl (by first | exact Or.inl rfl | exact Or.inr (Or.inl rfl) | exact Or.inr (Or.inr rfl))) (pA_cons (pE_op hL hr .sub (pB (pE_var (i := 1) rfl (by first | exact Or.inl rfl | exact Or.inr (Or.inl rfl) | exact Or.inr (Or.inr rfl)))) (pB pE_int)) pA_nil))))
      (qs_cons (q_ite (pT_no (pT_tru (pB (pE_var (i := 5) rfl (by first | exact Or.inl rfl | exact Or.inr (Or.inl rfl) | exact Or.inr (Or.inr rfl)))) (fun _ => rfl)))
      (qs_cons q_never qs_nil)
      qs_nil) qs_nil)))
      qs_nil)
      (qs_cons (q_drop (pE_meth (f := 6) hL hr (takes_of rfl rfl rfl rfl) rfl rfl rfl Tx.cl1 Tx.me6 rfl Tx.b6 .nil (fun _ _ => .nil) (pE_var (i := 0) rfl (by first | exact Or.inl rfl | exact Or.inr (Or.inl rfl) | exact Or.inr (Or.inr rfl))) (pA_cons (pE_tup (pA_cons pE_str pA_nil)) pA_nil)))
      (qs_cons (q_ret (pE_tup (pA_cons (pE_var (i := 2) rfl (by first | exact Or.inl rfl | exact Or.inr (Or.inl rfl) | exact Or.inr (Or.inr rfl))) (pA_cons (pE_var (i := 3) rfl (by first | exact Or.inl rfl | exact Or.inr (Or.inl rfl) | exact Or.inr (Or.inr rfl))) (pA_cons (pE_var (i := 4) rfl (by first | exact Or.inl rfl | exact Or.inr (Or.inl rfl) | exact Or.inr (Or.inr rfl))) (pA_cons (pE_var (i := 5) rfl (by first | exact Or.inl rfl | exact Or.inr (Or.inl rfl) | exact Or.inr (Or.inr rfl))) pA_nil)))))) qs_nil)))))))))))
theorem sc_Reader_expression : FnScope ["self", "room", "word", "left"] ["self", "room"] (defScope s_Reader_expression) := ⟨rfl, rfl, rfl, by decide +kernel, rfl, by decide +kernel, by decide +kernel⟩
theorem b_Reader_expression (hL : Lnk P w K mg base (lk ca) prog fi n) (Tx : Txt K mg ca fi) {wf : Nat} {cdv : Value} {A : Around} {outer : List Env} {s : Shared} {H : Hp} {E : XK} (hr : Room (2 * n + 1) (A.deeper (envOfC "Reader.expression" (defScope s_Reader_expression) s.heap.objs.size (fi 12).addr cdv))) :
    QSs (cxF P w K mg base ["self", "room", "word", "left"] "Reader.expression" s_Reader_expression (fi 12).addr cdv A outer s H E) (lk ca) (tab prog wf n) (fun cls d _ H => E cls d H) (defBody s_Reader_expression) B_Reader_expression :=
  (qs_cons (q_set (ps_set (i := 2) sc_Reader_expression.nd rfl (by first | exact Or.inl rfl | exact Or.inr rfl) (pE_meth0 (f := 5) hL hr (takes_of rfl rfl rfl rfl) rfl rfl rfl Tx.cl1 Tx.me5 rfl Tx.b5 .nil (fun _ _ => .nil) (pE_var (i := 0) rfl (by first | exact Or.inl rfl | exact Or.inr (Or.inl rfl) | exact Or.inr (Or.inr rfl))))))
      (qs_cons (q_ite (L2.PW.pt (pW_an (pT_inK .inn (ss := tup_SIGNS) (.inl rfl) rfl Tx.t_SIGNS.choose_spec.1 Tx.t_SIGNS.choose_spec.2 (pB (pE_var (i := 2) rfl (by first | exact Or.inl rfl | exact Or.inr (Or.inl rfl) | exact Or.inr (Or.inr rfl))))) (pW_an1 (pT_cm hL hr .gt (pB (pE_var (i := 1) rfl (by first | exact Or.inl rfl | exact Or.inr (Or.inl rfl) | exact Or.inr (Or.inr rfl)))) (pB pE_int) (nomark _)))))
      (qs_cons (q_auF (i := 0) rfl (by first | exact Or.inl rfl | exact Or.inr (Or.inl rfl) | exact Or.inr (Or.inr rfl)) Tx.cl1 Tx.na1_1 rfl (show 4 < 1000 by decide) pE_int)
      (qs_cons (q_set (ps_set (i := 3) sc_Reader_expression.nd rfl (by first | exact Or.inl rfl | exact Or.inr rfl) (pE_meth (f := 12) hL hr (takes_of rfl rfl rfl rfl) rfl rfl rfl Tx.cl1 Tx.me12 rfl Tx.b12 .nil (fun _ _ => .nil) (pE_var (i := 0) rfl (by first | exact Or.inl rfl | exact Or.inr (Or.inl rfl) | exact Or.inr (Or.inr rfl))) (pA_cons (pE_op hL hr .sub (pB (pE_var (i := 1) rfl (by first | exact Or.inl rfl | exact Or.inr (Or.inl rfl) | exact Or.inr (Or.inr rfl)))) (pB pE_int)) pA_nil))))
      (qs_cons (q_ret (pE_tup (pA_cons (pE_var (i := 2) rfl (by first | exact Or.inl rfl | exact Or.inr (Or.inl rfl) | exact Or.inr (Or.inr rfl))) (pA_cons (pE_var (i := 3) rfl (by first | exact Or.inl rfl | exact Or.inr (Or.inl rfl) | exact Or.inr (Or.inr rfl))) (pA_cons (pE_meth (f := 12) hL hr (takes_of rfl rfl rfl rfl) rfl rfl rfl Tx.cl1 Tx.me12 rfl Tx.b12 .nil (fun _ _ => .nil) (pE_var (i := 0) rfl (by first | exact Or.inl rfl | exact Or.inr (Or.inl rfl) | exact Or.inr (Or.inr rfl))) (pA_cons (pE_op hL hr .sub (pB (pE_var (i := 1) rfl (by first | exact Or.inl rfl | exact Or.inr (Or.inl rfl) | exact Or.inr (Or.inr rfl)))) (pB pE_int)) pA_nil)) pA_nil))))) qs_nil)))
      qs_nil)
      (qs_cons (q_ite (pT_cm hL hr .eq (pB (pE_var (i := 2) rfl (by first | exact Or.inl rfl | exact Or.inr (Or.inl rfl) | exact Or.inr (Or.inr rfl)))) (pB pE_str) (nomark _))
      (qs_cons (q_auF (i := 0) rfl (by first | exact Or.inl rfl | exact Or.inr (Or.inl rfl) | exact Or.inr (Or.inr rfl)) Tx.cl1 Tx.na1_1 rfl (show 4 < 1000 by decide) pE_int)
      (qs_cons (q_ret (pE_tup (pA_cons pE_str pA_nil))) qs_nil))
      qs_nil)
      (qs_cons (q_ite (pT_cm hL hr .inn (pB (pE_var (i := 2) rfl (by first | exact Or.inl rfl | exact Or.inr (Or.inl rfl) | exact Or.inr (Or.inr rfl)))) (pB (pE_fld (pE_var (i := 0) rfl (by first | exact Or.inl rfl | exact Or.inr (Or.inl rfl) | exact Or.inr (Or.inr rfl))) Tx.cl1 Tx.na1_2 rfl rfl)) (by with_unfolding_all rfl))
      (qs_cons (q_auF (i := 0) rfl (by first | exact Or.inl rfl | exact Or.inr (Or.inl rfl) | exact Or.inr (Or.inr rfl)) Tx.cl1 Tx.na1_1 rfl (show 4 < 1000 by decide) pE_int)
      (qs_cons (q_ret (pE_tup (pA_cons pE_str (pA_cons (pE_var (i := 2) rfl (by first | exact Or.inl rfl | exact Or.inr (Or.inl rfl) | exact Or.inr (Or.inr rfl))) pA_nil)))) qs_nil))
      qs_nil)
      (qs_cons (q_ret (pE_tup (pA_cons pE_str (pA_cons (pE_meth (f := 7) hL hr (takes_of rfl rfl rfl rfl) rfl rfl rfl Tx.cl1 Tx.me7 rfl Tx.b7 .nil (fun _ _ => .nil) (pE_var (i := 0) rfl (by first | exact Or.inl rfl | exact Or.inr (Or.inl rfl) | exact Or.inr (Or.inr rfl))) (pA_cons pE_int (pA_cons (pE_gi rfl Tx.g_GREATEST.choose_spec) pA_nil))) pA_nil)))) qs_nil)))))
theorem sc_read_watcher : FnScope ["text"] ["text"] (defScope s_read_watcher) := ⟨rfl, rfl, rfl, by decide +kernel, rfl, by decide +kernel, by decide +kernel⟩
theorem b_read_watcher (hL : Lnk P w K mg base (lk ca) prog fi n) (Tx : Txt K mg ca fi) {wf : Nat} {cdv : Value} {A : Around} {outer : List Env} {s : Shared} {H : Hp} {E : XK} (hr : Room (2 * n + 1) (A.deeper (envOfC "read_watcher" (defScope s_read_watcher) s.heap.objs.size (fi 13).addr cdv))) :
    QSs (cxF P w K mg base ["text"] "read_watcher" s_read_watcher (fi 13).addr cdv A outer s H E) (lk ca) (tab prog wf n) (fun cls d _ H => E cls d H) (defBody s_read_watcher) B_read_watcher :=
  (qs_cons (q_ret (pE_meth0 (f := 8) hL hr (takes_of rfl rfl rfl rfl) rfl rfl rfl Tx.cl1 Tx.me8 rfl Tx.b8 .nil (fun _ _ => .nil) (pE_mka (f := 4) hL hr (takes_of rfl rfl rfl rfl) rfl rfl rfl Tx.mk1 rfl Tx.mc1 Tx.b4 .nil (fun _ _ => .nil) (pA_cons (pE_var (i := 0) rfl (by first | exact Or.inl rfl | exact Or.inr (Or.inl rfl) | exact Or.inr (Or.inr rfl))) pA_nil)))) qs_nil)
theorem sc_value_words : FnScope ["expression"] ["expression"] (defScope s_value_words) := ⟨rfl, rfl, rfl, by decide +kernel, rfl, by decide +kernel, by decide +kernel⟩
theorem b_value_words (hL : Lnk P w K mg base (lk ca) prog fi n) (Tx : Txt K mg ca fi) {wf : Nat} {cdv : Value} {A : Around} {outer : List Env} {s : Shared} {H : Hp} {E : XK} (hr : Room (2 * n + 1) (A.deeper (envOfC "value_words" (defScope s_value_words) s.heap.objs.size (fi 14).addr cdv))) :
    QSs (cxF P w K mg base ["expression"] "value_words" s_value_words (fi 14).addr cdv A outer s H E) (lk ca) (tab prog wf n) (fun cls d _ H => E cls d H) (defBody s_value_words) B_value_words :=
  (qs_cons (q_ite (pT_cm hL hr .lt (pB (pE_biB hL hr rfl .len rfl rfl Tx.n_len (by decide +kernel) (pB (pE_var (i := 0) rfl (by first | exact Or.inl rfl | exact Or.inr (Or.inl rfl) | exact Or.inr (Or.inr rfl)))))) (pB pE_int) (nomark _))
      (qs_cons (q_ret (pE_lst (pA_cons (pE_biT hL hr rfl .str rfl rfl Tx.n_str (by decide +kernel) (pB (pE_ix (pB (pE_var (i := 0) rfl (by first | exact Or.inl rfl | exact Or.inr (Or.inl rfl) | exact Or.inr (Or.inr rfl)))) (pB (pE_neg pE_int)) (fun _ _ => rfl)))) pA_nil))) qs_nil)
      qs_nil)
      (qs_cons (q_ret (pE_lst (pA_cons (pE_ix (pB (pE_var (i := 0) rfl (by first | exact Or.inl rfl | exact Or.inr (Or.inl rfl) | exact Or.inr (Or.inr rfl)))) (pB pE_int) (fun _ _ => rfl)) (pA_star (pB (pE_call (f := 14) hL hr (takes_of rfl rfl rfl rfl) rfl rfl rfl rfl Tx.m14 Tx.k14 Tx.b14 .nil (fun _ _ => .nil) (pA_cons (pE_ix (pB (pE_var (i := 0) rfl (by first | exact Or.inl rfl | exact Or.inr (Or.inl rfl) | exact Or.inr (Or.inr rfl)))) (pB pE_int) (fun _ _ => rfl)) pA_nil))) (pA_star (pB (pE_call (f := 14) hL hr (takes_of rfl rfl rfl rfl) rfl rfl rfl rfl Tx.m14 Tx.k14 Tx.b14 .nil (fun _ _ => .nil) (pA_cons (pE_ix (pB (pE_var (i := 0) rfl (by first | exact Or.inl rfl | exact Or.inr (Or.inl rfl) | exact Or.inr (Or.inr rfl)))) (pB pE_int) (fun _ _ => rfl)) pA_nil))) pA_nil))))) qs_nil))
theorem sc_block_words : FnScope ["block", "words", "row"] ["block"] (defScope s_block_words) := ⟨rfl, rfl, rfl, by decide +kernel, rfl, by decide +kernel, by decide +kernel⟩
theorem b_block_words (hL : Lnk P w K mg base (lk ca) prog fi n) (Tx : Txt K mg ca fi) {wf : Nat} {cdv : Value} {A : Around} {outer : List Env} {s : Shared} {H : Hp} {E : XK} (hr : Room (2 * n + 1) (A.deeper (envOfC "block_words" (defScope s_block_words) s.heap.objs.size (fi 15).addr cdv))) :
    QSs (cxF P w K mg base ["block", "words", "row"] "block_words" s_block_words (fi 15).addr cdv A outer s H E) (lk ca) (tab prog wf n) (fun cls d _ H => E cls d H) (defBody s_block_words) B_block_words :=
  (qs_cons (q_setO (ps_set (i := 1) sc_block_words.nd rfl (by first | exact Or.inl rfl | exact Or.inr rfl) (pF_lst pA_nil)))
      (qs_cons (q_fo (passes_of rfl) rfl (pI_e (pE_var (i := 0) rfl (by first | exact Or.inl rfl | exact Or.inr (Or.inl rfl) | exact Or.inr (Or.inr rfl)))) (pg_name (i := 2) sc_block_words.nd rfl (by first | exact Or.inl rfl | exact Or.inr rfl)) tgS_one
      (qs_cons (q_app (i := 1) rfl (by first | exact Or.inl rfl | exact Or.inr (Or.inl rfl) | exact Or.inr (Or.inr rfl)) (pE_ix (pB (pE_var (i := 2) rfl (by first | exact Or.inl rfl | exact Or.inr (Or.inl rfl) | exact Or.inr (Or.inr rfl)))) (pB pE_int) (fun _ _ => rfl)) (hp := fun h1 h2 => ps_expr (pe_bm PySem.F.plainAttrs_list PySem.F.slot_list_append PySem.F.type_list_append mt_append h1 h2)))
      (qs_cons (q_ite (pT_cm hL hr .eq (pB (pE_ix (pB (pE_var (i := 2) rfl (by first | exact Or.inl rfl | exact Or.inr (Or.inl rfl) | exact Or.inr (Or.inr rfl)))) (pB pE_int) (fun _ _ => rfl))) (pB pE_str) (nomark _))
      (qs_cons (q_ext (i := 1) rfl (by first | exact Or.inl rfl | exact Or.inr (Or.inl rfl) | exact Or.inr (Or.inr rfl)) (pE_lst (pA_star (pB (pE_call (f := 14) hL hr (takes_of rfl rfl rfl rfl) rfl rfl rfl rfl Tx.m14 Tx.k14 Tx.b14 .nil (fun _ _ => .nil) (pA_cons (pE_ix (pB (pE_var (i := 2) rfl (by first | exact Or.inl rfl | exact Or.inr (Or.inl rfl) | exact Or.inr (Or.inr rfl)))) (pB pE_int) (fun _ _ => rfl)) pA_nil))) (pA_star (pB (pE_call (f := 15) hL hr (takes_of rfl rfl rfl rfl) rfl rfl rfl rfl Tx.m15 Tx.k15 Tx.b15 .nil (fun _ _ => .nil) (pA_cons (pE_ix (pB (pE_var (i := 2) rfl (by first | exact Or.inl rfl | exact Or.inr (Or.inl rfl) | exact Or.inr (Or.inr rfl)))) (pB pE_int) (fun _ _ => rfl)) pA_nil))) pA_nil))) (hp := fun h1 h2 => ps_expr (pe_bm PySem.F.plainAttrs_list PySem.F.slot_list_extend PySem.F.type_list_extend mt_extend h1 h2)))
      (qs_cons (q_ite (pT_tru (pB (pE_ix (pB (pE_var (i := 2) rfl (by first | exact Or.inl rfl | exact Or.inr (Or.inl rfl) | exact Or.inr (Or.inr rfl)))) (pB pE_int) (fun _ _ => rfl))) (fun _ => rfl))
      (qs_cons (q_ext (i := 1) rfl (by first | exact Or.inl rfl | exact Or.inr (Or.inl rfl) | exact Or.inr (Or.inr rfl)) (pE_lst (pA_cons pE_str (pA_star (pB (pE_call (f := 15) hL hr (takes_of rfl rfl rfl rfl) rfl rfl rfl rfl Tx.m15 Tx.k15 Tx.b15 .nil (fun _ _ => .nil) (pA_cons (pE_ix (pB (pE_var (i := 2) rfl (by first | exact Or.inl rfl | exact Or.inr (Or.inl rfl) | exact Or.inr (Or.inr rfl)))) (pB pE_int) (fun _ _ => rfl)) pA_nil))) pA_nil))) (hp := fun h1 h2 => ps_expr (pe_bm PySem.F.plainAttrs_list PySem.F.slot_list_extend PySem.F.type_list_extend mt_extend h1 h2))) qs_nil)
      qs_nil)
      (qs_cons (q_app (i := 1) rfl (by first | exact Or.inl rfl | exact Or.inr (Or.inl rfl) | exact Or.inr (Or.inr rfl)) pE_str (hp := fun h1 h2 => ps_expr (pe_bm PySem.F.plainAttrs_list PySem.F.slot_list_append PySem.F.type_list_append mt_append h1 h2))) qs_nil)))
      (qs_cons (q_ite (pT_cm hL hr .eq (pB (pE_ix (pB (pE_var (i := 2) rfl (by first | exact Or.inl rfl | exact Or.inr (Or.inl rfl) | exact Or.inr (Or.inr rfl)))) (pB pE_int) (fun _ _ => rfl))) (pB pE_str) (nomark _))
      (qs_cons (q_ext (i := 1) rfl (by first | exact Or.inl rfl | exact Or.inr (Or.inl rfl) | exact Or.inr (Or.inr rfl)) (pE_lst (pA_cons (pE_ix (pB (pE_var (i := 2) rfl (by first | exact Or.inl rfl | exact Or.inr (Or.inl rfl) | exact Or.inr (Or.inr rfl)))) (pB pE_int) (fun _ _ => rfl)) (pA_cons (pE_biT hL hr rfl .str rfl rfl Tx.n_str (by decide +kernel) (pB (pE_ix (pB (pE_var (i := 2) rfl (by first | exact Or.inl rfl | exact Or.inr (Or.inl rfl) | exact Or.inr (Or.inr rfl)))) (pB pE_int) (fun _ _ => rfl)))) pA_nil))) (hp := fun h1 h2 => ps_expr (pe_bm PySem.F.plainAttrs_list PySem.F.slot_list_extend PySem.F.type_list_extend mt_extend h1 h2))) qs_nil)
      (qs_cons (q_ext (i := 1) rfl (by first | exact Or.inl rfl | exact Or.inr (Or.inl rfl) | exact Or.inr (Or.inr rfl)) (pE_lst (pA_star (pB (pE_sl (pB (pE_var (i := 2) rfl (by first | exact Or.inl rfl | exact Or.inr (Or.inl rfl) | exact Or.inr (Or.inr rfl)))) (pO_some (pB pE_int)) (pO_some (pB (pE_neg pE_int))))) (pA_star (pB (pE_call (f := 14) hL hr (takes_of rfl rfl rfl rfl) rfl rfl rfl rfl Tx.m14 Tx.k14 Tx.b14 .nil (fun _ _ => .nil) (pA_cons (pE_ix (pB (pE_var (i := 2) rfl (by first | exact Or.inl rfl | exact Or.inr (Or.inl rfl) | exact Or.inr (Or.inr rfl)))) (pB (pE_neg pE_int)) (fun _ _ => rfl)) pA_nil))) pA_nil))) (hp := fun h1 h2 => ps_expr (pe_bm PySem.F.plainAttrs_list PySem.F.slot_list_extend PySem.F.type_list_extend mt_extend h1 h2))) qs_nil)) qs_nil)) qs_nil)))
      (qs_fz (i := 1) (qs_cons (q_ret (pE_var (i := 1) rfl (by first | exact Or.inl rfl | exact Or.inr (Or.inl rfl) | exact Or.inr (Or.inr rfl)))) qs_nil))))
theorem sc_watcher_text : FnScope ["watcher", "words", "name", "size"] ["watcher"] (defScope s_watcher_text) := ⟨rfl, rfl, rfl, by decide +kernel, rfl, by decide +kernel, by decide +kernel⟩
theorem b_watcher_text (hL : Lnk P w K mg base (lk ca) prog fi n) (Tx : Txt K mg ca fi) {wf : Nat} {cdv : Value} {A : Around} {outer : List Env} {s : Shared} {H : Hp} {E : XK} (hr : Room (2 * n + 1) (A.deeper (envOfC "watcher_text" (defScope s_watcher_text) s.heap.objs.size (fi 16).addr cdv))) :
    QSs (cxF P w K mg base ["watcher", "words", "name", "size"] "watcher_text" s_watcher_text (fi 16).addr cdv A outer s H E) (lk ca) (tab prog wf n) (fun cls d _ H => E cls d H) (defBody s_watcher_text) B_watcher_text :=
  (qs_cons (q_setO (ps_set (i := 1) sc_watcher_text.nd rfl (by first | exact Or.inl rfl | exact Or.inr rfl) (pF_lst (pA_cons pE_str (pA_cons (pE_biT hL hr rfl .str rfl rfl Tx.n_str (by decide +kernel) (pB (pE_fld (pE_var (i := 0) rfl (by first | exact Or.inl rfl | exact Or.inr (Or.inl rfl) | exact Or.inr (Or.inr rfl))) Tx.cl0 Tx.na0_0 rfl rfl))) pA_nil)))))
      (qs_cons (q_fo (passes_of rfl) rfl (pI_e (pE_fld (pE_var (i := 0) rfl (by first | exact Or.inl rfl | exact Or.inr (Or.inl rfl) | exact Or.inr (Or.inr rfl))) Tx.cl0 Tx.na0_1 rfl rfl)) (pg_tup rfl (pgs_cons (pg_name (i := 2) sc_watcher_text.nd rfl (by first | exact Or.inl rfl | exact Or.inr rfl)) (pgs_cons (pg_name (i := 3) sc_watcher_text.nd rfl (by first | exact Or.inl rfl | exact Or.inr rfl)) pgs_nil))) (tgS_many (tgsS_cons (tgsS_cons tgsS_nil)))
      (qs_cons (q_ext (i := 1) rfl (by first | exact Or.inl rfl | exact Or.inr (Or.inl rfl) | exact Or.inr (Or.inr rfl)) (pE_lst (pA_cons pE_str (pA_cons (pE_var (i := 2) rfl (by first | exact Or.inl rfl | exact Or.inr (Or.inl rfl) | exact Or.inr (Or.inr rfl))) (pA_cons (pE_biT hL hr rfl .str rfl rfl Tx.n_str (by decide +kernel) (pB (pE_var (i := 3) rfl (by first | exact Or.inl rfl | exact Or.inr (Or.inl rfl) | exact Or.inr (Or.inr rfl))))) pA_nil)))) (hp := fun h1 h2 => ps_expr (pe_bm PySem.F.plainAttrs_list PySem.F.slot_list_extend PySem.F.type_list_extend mt_extend h1 h2))) qs_nil))
      (qs_cons (q_ret (pE_mb .join PySem.F.slot_str_join PySem.F.type_str_join (pB pE_str) (pB (pE_op hL hr .add (pB_var (i := 1) rfl (by first | exact Or.inl rfl | exact Or.inr (Or.inl rfl) | exact Or.inr (Or.inr rfl))) (pB (pE_call (f := 15) hL hr (takes_of rfl rfl rfl rfl) rfl rfl rfl rfl Tx.m15 Tx.k15 Tx.b15 .nil (fun _ _ => .nil) (pA_cons (pE_fld (pE_var (i := 0) rfl (by first | exact Or.inl rfl | exact Or.inr (Or.inl rfl) | exact Or.inr (Or.inr rfl))) Tx.cl0 Tx.na0_2 rfl rfl) pA_nil))))))) qs_nil)))
theorem sc_Lpool : FnScope ["_law_script", "_law_budget"] ["_law_script", "_law_budget"] (defScope s_Lpool) := ⟨rfl, rfl, rfl, by decide +kernel, rfl, by decide +kernel, by decide +kernel⟩
theorem b_Lpool (hL : Lnk P w K mg base (lk ca) prog fi n) (Tx : Txt K mg ca fi) {wf : Nat} {cdv : Value} {A : Around} {outer : List Env} {s : Shared} {H : Hp} {E : XK} (hr : Room (2 * n + 1) (A.deeper (envOfC "_law_pool" (defScope s_Lpool) s.heap.objs.size (fi 17).addr cdv))) :
    QSs (cxF P w K mg base ["_law_script", "_law_budget"] "_law_pool" s_Lpool (fi 17).addr cdv A outer s H E) (lk ca) (tab prog wf n) (fun cls d _ H => E cls d H) (defBody s_Lpool) B_Lpool :=
  (qs_cons (q_retF (pF_lst (pA_cons (pE_biT hL hr rfl .list rfl rfl Tx.n_list (by decide +kernel) (pB (pE_var (i := 0) rfl (by first | exact Or.inl rfl | exact Or.inr (Or.inl rfl) | exact Or.inr (Or.inr rfl))))) (pA_cons pE_int (pA_cons pE_int (pA_cons pE_int (pA_cons pE_int (pA_cons (pE_var (i := 1) rfl (by first | exact Or.inl rfl | exact Or.inr (Or.inl rfl) | exact Or.inr (Or.inr rfl))) pA_nil)))))))) qs_nil)
theorem sc_Ldraw : FnScope ["_law_pool_here", "_law_size", "_law_cell", "_law_value_here"] ["_law_pool_here", "_law_size"] (defScope s_Ldraw) := ⟨rfl, rfl, rfl, by decide +kernel, rfl, by decide +kernel, by decide +kernel⟩
theorem b_Ldraw (hL : Lnk P w K mg base (lk ca) prog fi n) (Tx : Txt K mg ca fi) {wf : Nat} {cdv : Value} {A : Around} {outer : List Env} {s : Shared} {H : Hp} {E : XK} (hr : Room (2 * n + 1) (A.deeper (envOfC "_law_draw" (defScope s_Ldraw) s.heap.objs.size (fi 18).addr cdv))) :
    QSs (cxF P w K mg base ["_law_pool_here", "_law_size", "_law_cell", "_law_value_here"] "_law_draw" s_Ldraw (fi 18).addr cdv A outer s H E) (lk ca) (tab prog wf n) (fun cls d _ H => E cls d H) (defBody s_Ldraw) B_Ldraw :=
  (qs_cons (q_ite (L2.PW.pt (pW_an (pT_cm hL hr .le (pB (pE_ix (pB (pE_var (i := 0) rfl (by first | exact Or.inl rfl | exact Or.inr (Or.inl rfl) | exact Or.inr (Or.inr rfl)))) (pB pE_int) (fun _ _ => rfl))) (pB pE_int) (nomark _)) (pW_an (pT_cm hL hr .le (pB (pE_ix (pB (pE_var (i := 0) rfl (by first | exact Or.inl rfl | exact Or.inr (Or.inl rfl) | exact Or.inr (Or.inr rfl)))) (pB pE_int) (fun _ _ => rfl))) (pB pE_int) (nomark _)) (pW_an1 (pT_cm hL hr .lt (pB (pE_ix (pB (pE_var (i := 0) rfl (by first | exact Or.inl rfl | exact Or.inr (Or.inl rfl) | exact Or.inr (Or.inr rfl)))) (pB pE_int) (fun _ _ => rfl))) (pB (pE_biB hL hr rfl .len rfl rfl Tx.n_len (by decide +kernel) (pB (pE_ix (pB (pE_var (i := 0) rfl (by first | exact Or.inl rfl | exact Or.inr (Or.inl rfl) | exact Or.inr (Or.inr rfl)))) (pB pE_int) (fun _ _ => rfl))))) (nomark _))))))
      (qs_cons (q_set (ps_set (i := 2) sc_Ldraw.nd rfl (by first | exact Or.inl rfl | exact Or.inr rfl) (pE_ix (pB (pE_ix (pB (pE_var (i := 0) rfl (by first | exact Or.inl rfl | exact Or.inr (Or.inl rfl) | exact Or.inr (Or.inr rfl)))) (pB pE_int) (fun _ _ => rfl))) (pB (pE_ix (pB (pE_var (i := 0) rfl (by first | exact Or.inl rfl | exact Or.inr (Or.inl rfl) | exact Or.inr (Or.inr rfl)))) (pB pE_int) (fun _ _ => rfl))) (fun _ _ => rfl))))
      (qs_cons (q_setIA (i := 0) rfl (by first | exact Or.inl rfl | exact Or.inr (Or.inl rfl) | exact Or.inr (Or.inr rfl)) (hp := fun h => ps_asg (pE_op hL hr .add (pB (pE_ix (pB (pE_var (i := 0) rfl (by first | exact Or.inl rfl | exact Or.inr (Or.inl rfl) | exact Or.inr (Or.inr rfl)))) (pB pE_int) (fun _ _ => rfl))) (pB pE_int)) (pg_sub h pE_int set_list)))
      (qs_cons (q_setIA (i := 0) rfl (by first | exact Or.inl rfl | exact Or.inr (Or.inl rfl) | exact Or.inr (Or.inr rfl)) (hp := fun h => ps_asg (pE_op hL hr .mod (pB (pE_biT hL hr rfl .int rfl rfl Tx.n_int (by decide +kernel) (pB (pE_op hL hr .add (pB (pE_op hL hr .mul (pB (pE_ix (pB (pE_var (i := 0) rfl (by first | exact Or.inl rfl | exact Or.inr (Or.inl rfl) | exact Or.inr (Or.inr rfl)))) (pB pE_int) (fun _ _ => rfl))) (pB pE_int))) (pB (pE_var (i := 2) rfl (by first | exact Or.inl rfl | exact Or.inr (Or.inl rfl) | exact Or.inr (Or.inr rfl)))))))) (pB pE_int)) (pg_sub h pE_int set_list)))
      (qs_cons (q_setIA (i := 0) rfl (by first | exact Or.inl rfl | exact Or.inr (Or.inl rfl) | exact Or.inr (Or.inr rfl)) (hp := fun h => ps_asg pE_int (pg_sub h pE_int set_list)))
      (qs_cons (q_ite (pT_cm hL hr .ge (pB (pE_var (i := 2) rfl (by first | exact Or.inl rfl | exact Or.inr (Or.inl rfl) | exact Or.inr (Or.inr rfl)))) (pB (pE_op hL hr .pow (pB pE_int) (pB pE_int))) (nomark _))
      (qs_cons (q_setIA (i := 0) rfl (by first | exact Or.inl rfl | exact Or.inr (Or.inl rfl) | exact Or.inr (Or.inr rfl)) (hp := fun h => ps_asg (pE_var (i := 2) rfl (by first | exact Or.inl rfl | exact Or.inr (Or.inl rfl) | exact Or.inr (Or.inr rfl))) (pg_sub h pE_int set_list))) qs_nil)
      qs_nil) qs_nil)))))
      qs_nil)
      (qs_cons (q_ite (pT_cm hL hr .gt (pB (pE_ix (pB (pE_var (i := 0) rfl (by first | exact Or.inl rfl | exact Or.inr (Or.inl rfl) | exact Or.inr (Or.inr rfl)))) (pB pE_int) (fun _ _ => rfl))) (pB pE_int) (nomark _))
      (qs_cons (q_set (ps_set (i := 3) sc_Ldraw.nd rfl (by first | exact Or.inl rfl | exact Or.inr rfl) (pE_op hL hr .mod (pB (pE_biT hL hr rfl .int rfl rfl Tx.n_int (by decide +kernel) (pB (pE_ix (pB (pE_var (i := 0) rfl (by first | exact Or.inl rfl | exact Or.inr (Or.inl rfl) | exact Or.inr (Or.inr rfl)))) (pB pE_int) (fun _ _ => rfl))))) (pB (pE_var (i := 1) rfl (by first | exact Or.inl rfl | exact Or.inr (Or.inl rfl) | exact Or.inr (Or.inr rfl)))))))
      (qs_cons (q_setIA (i := 0) rfl (by first | exact Or.inl rfl | exact Or.inr (Or.inl rfl) | exact Or.inr (Or.inr rfl)) (hp := fun h => ps_asg (pE_op hL hr .fdiv (pB (pE_ix (pB (pE_var (i := 0) rfl (by first | exact Or.inl rfl | exact Or.inr (Or.inl rfl) | exact Or.inr (Or.inr rfl)))) (pB pE_int) (fun _ _ => rfl))) (pB (pE_var (i := 1) rfl (by first | exact Or.inl rfl | exact Or.inr (Or.inl rfl) | exact Or.inr (Or.inr rfl))))) (pg_sub h pE_int set_list)))
      (qs_cons (q_setIA (i := 0) rfl (by first | exact Or.inl rfl | exact Or.inr (Or.inl rfl) | exact Or.inr (Or.inr rfl)) (hp := fun h => ps_asg pE_int (pg_sub h pE_int set_list)))
      (qs_cons (q_ret (pE_var (i := 3) rfl (by first | exact Or.inl rfl | exact Or.inr (Or.inl rfl) | exact Or.inr (Or.inr rfl)))) qs_nil))))
      qs_nil)
      (qs_cons (q_setIA (i := 0) rfl (by first | exact Or.inl rfl | exact Or.inr (Or.inl rfl) | exact Or.inr (Or.inr rfl)) (hp := fun h => ps_asg (pE_op hL hr .sub (pB (pE_ix (pB (pE_var (i := 0) rfl (by first | exact Or.inl rfl | exact Or.inr (Or.inl rfl) | exact Or.inr (Or.inr rfl)))) (pB pE_int) (fun _ _ => rfl))) (pB pE_int)) (pg_sub h pE_int set_list)))
      (qs_cons (q_setIA (i := 0) rfl (by first | exact Or.inl rfl | exact Or.inr (Or.inl rfl) | exact Or.inr (Or.inr rfl)) (hp := fun h => ps_asg (pE_op hL hr .mod (pB (pE_biT hL hr rfl .int rfl rfl Tx.n_int (by decide +kernel) (pB (pE_op hL hr .add (pB (pE_op hL hr .mul (pB (pE_ix (pB (pE_var (i := 0) rfl (by first | exact Or.inl rfl | exact Or.inr (Or.inl rfl) | exact Or.inr (Or.inr rfl)))) (pB pE_int) (fun _ _ => rfl))) (pB pE_int))) (pB pE_int))))) (pB pE_int)) (pg_sub h pE_int set_list)))
      (qs_cons (q_ret (pE_op hL hr .mod (pB (pE_op hL hr .mod (pB (pE_biT hL hr rfl .int rfl rfl Tx.n_int (by decide +kernel) (pB (pE_op hL hr .add (pB (pE_op hL hr .mul (pB (pE_ix (pB (pE_var (i := 0) rfl (by first | exact Or.inl rfl | exact Or.inr (Or.inl rfl) | exact Or.inr (Or.inr rfl)))) (pB pE_int) (fun _ _ => rfl))) (pB pE_int))) (pB pE_int))))) (pB pE_int))) (pB (pE_var (i := 1) rfl (by first | exact Or.inl rfl | exact Or.inr (Or.inl rfl) | exact Or.inr (Or.inr rfl)))))) qs_nil)))))
theorem sc_Lspend : FnScope ["_law_pool_here"] ["_law_pool_here"] (defScope s_Lspend) := ⟨rfl, rfl, rfl, by decide +kernel, rfl, by decide +kernel, by decide +kernel⟩
theorem b_Lspend (hL : Lnk P w K mg base (lk ca) prog fi n) (Tx : Txt K mg ca fi) {wf : Nat} {cdv : Value} {A : Around} {outer : List Env} {s : Shared} {H : Hp} {E : XK} (hr : Room (2 * n + 1) (A.deeper (envOfC "_law_spend" (defScope s_Lspend) s.heap.objs.size (fi 19).addr cdv))) :
    QSs (cxF P w K mg base ["_law_pool_here"] "_law_spend" s_Lspend (fi 19).addr cdv A outer s H E) (lk ca) (tab prog wf n) (fun cls d _ H => E cls d H) (defBody s_Lspend) B_Lspend :=
  (qs_cons (q_setIA (i := 0) rfl (by first | exact Or.inl rfl | exact Or.inr (Or.inl rfl) | exact Or.inr (Or.inr rfl)) (hp := fun h => ps_asg (pE_op hL hr .sub (pB (pE_ix (pB (pE_var (i := 0) rfl (by first | exact Or.inl rfl | exact Or.inr (Or.inl rfl) | exact Or.inr (Or.inr rfl)))) (pB pE_int) (fun _ _ => rfl))) (pB pE_int)) (pg_sub h pE_int set_list)))
      (qs_cons (q_ret (pE_cm hL hr .ge (pB (pE_ix (pB (pE_var (i := 0) rfl (by first | exact Or.inl rfl | exact Or.inr (Or.inl rfl) | exact Or.inr (Or.inr rfl)))) (pB pE_int) (fun _ _ => rfl))) (pB pE_int) (nomark _))) qs_nil))
theorem sc_Lnumber : FnScope ["_law_pool_here"] ["_law_pool_here"] (defScope s_Lnumber) := ⟨rfl, rfl, rfl, by decide +kernel, rfl, by decide +kernel, by decide +kernel⟩
theorem b_Lnumber (hL : Lnk P w K mg base (lk ca) prog fi n) (Tx : Txt K mg ca fi) {wf : Nat} {cdv : Value} {A : Around} {outer : List Env} {s : Shared} {H : Hp} {E : XK} (hr : Room (2 * n + 1) (A.deeper (envOfC "_law_number" (defScope s_Lnumber) s.heap.objs.size (fi 20).addr cdv))) :
    QSs (cxF P w K mg base ["_law_pool_here"] "_law_number" s_Lnumber (fi 20).addr cdv A outer s H E) (lk ca) (tab prog wf n) (fun cls d _ H => E cls d H) (defBody s_Lnumber) B_Lnumber :=
  (qs_cons (q_ite (pT_cm hL hr .eq (pB (pE_call (f := 18) hL hr (takes_of rfl rfl rfl rfl) rfl rfl rfl rfl Tx.m18 Tx.k18 Tx.b18 .nil (fun _ _ => .nil) (pA_cons (pE_var (i := 0) rfl (by first | exact Or.inl rfl | exact Or.inr (Or.inl rfl) | exact Or.inr (Or.inr rfl))) (pA_cons pE_int pA_nil)))) (pB pE_int) (nomark _))
      (qs_cons (q_ret (pE_call (f := 18) hL hr (takes_of rfl rfl rfl rfl) rfl rfl rfl rfl Tx.m18 Tx.k18 Tx.b18 .nil (fun _ _ => .nil) (pA_cons (pE_var (i := 0) rfl (by first | exact Or.inl rfl | exact Or.inr (Or.inl rfl) | exact Or.inr (Or.inr rfl))) (pA_cons pE_int pA_nil)))) qs_nil)
      qs_nil)
      (qs_cons (q_ret (pE_call (f := 18) hL hr (takes_of rfl rfl rfl rfl) rfl rfl rfl rfl Tx.m18 Tx.k18 Tx.b18 .nil (fun _ _ => .nil) (pA_cons (pE_var (i := 0) rfl (by first | exact Or.inl rfl | exact Or.inr (Or.inl rfl) | exact Or.inr (Or.inr rfl))) (pA_cons pE_int pA_nil)))) qs_nil))
theorem sc_Lsame : FnScope ["_law_actual", "_law_due", "_law_k"] ["_law_actual", "_law_due"] (defScope s_Lsame) := ⟨rfl, rfl, rfl, by decide +kernel, rfl, by decide +kernel, by decide +kernel⟩
theorem b_Lsame (hL : Lnk P w K mg base (lk ca) prog fi n) (Tx : Txt K mg ca fi) {wf : Nat} {cdv : Value} {A : Around} {outer : List Env} {s : Shared} {H : Hp} {E : XK} (hr : Room (2 * n + 1) (A.deeper (envOfC "_law_same" (defScope s_Lsame) s.heap.objs.size (fi 21).addr cdv))) :
    QSs (cxF P w K mg base ["_law_actual", "_law_due", "_law_k"] "_law_same" s_Lsame (fi 21).addr cdv A outer s H E) (lk ca) (tab prog wf n) (fun cls d _ H => E cls d H) (defBody s_Lsame) B_Lsame :=
  (qs_cons (q_ite (L2.PW.pt (pW_or (pT_tru (pB (pE_isi rfl Tx.n_isinstance (by decide +kernel) (tyOk_b (by simp)) (pB (pE_var (i := 1) rfl (by first | exact Or.inl rfl | exact Or.inr (Or.inl rfl) | exact Or.inr (Or.inr rfl)))) (pe_bltn (v := .ty "tuple") rfl Tx.n_tuple (by decide +kernel) rfl))) (fun _ => rfl)) (pW_or1 (pT_tru (pB (pE_isi rfl Tx.n_isinstance (by decide +kernel) (tyOk_b (by simp)) (pB (pE_var (i := 1) rfl (by first | exact Or.inl rfl | exact Or.inr (Or.inl rfl) | exact Or.inr (Or.inr rfl)))) (pe_bltn (v := .ty "list") rfl Tx.n_list (by decide +kernel) rfl))) (fun _ => rfl)))))
      (qs_cons (q_ite (L2.PW.pt (pW_or (pT_cm hL hr .ne (pB (pE_isi rfl Tx.n_isinstance (by decide +kernel) (tyOk_b (by simp)) (pB (pE_var (i := 1) rfl (by first | exact Or.inl rfl | exact Or.inr (Or.inl rfl) | exact Or.inr (Or.inr rfl)))) (pe_bltn (v := .ty "tuple") rfl Tx.n_tuple (by decide +kernel) rfl))) (pB (pE_isi rfl Tx.n_isinstance (by decide +kernel) (tyOk_b (by simp)) (pB (pE_var (i := 0) rfl (by first | exact Or.inl rfl | exact Or.inr (Or.inl rfl) | exact Or.inr (Or.inr rfl)))) (pe_bltn (v := .ty "tuple") rfl Tx.n_tuple (by decide +kernel) rfl))) (nomark _)) (pW_or1 (pT_cm hL hr .ne (pB (pE_isi rfl Tx.n_isinstance (by decide +kernel) (tyOk_b (by simp)) (pB (pE_var (i := 1) rfl (by first | exact Or.inl rfl | exact Or.inr (Or.inl rfl) | exact Or.inr (Or.inr rfl)))) (pe_bltn (v := .ty "list") rfl Tx.n_list (by decide +kernel) rfl))) (pB (pE_isi rfl Tx.n_isinstance (by decide +kernel) (tyOk_b (by simp)) (pB (pE_var (i := 0) rfl (by first | exact Or.inl rfl | exact Or.inr (Or.inl rfl) | exact Or.inr (Or.inr rfl)))) (pe_bltn (v := .ty "list") rfl Tx.n_list (by decide +kernel) rfl))) (nomark _)))))
      (qs_cons (q_ret pE_bl) qs_nil)
      qs_nil)
      (qs_cons (q_ite (pT_cm hL hr .ne (pB (pE_biB hL hr rfl .len rfl rfl Tx.n_len (by decide +kernel) (pB (pE_var (i := 0) rfl (by first | exact Or.inl rfl | exact Or.inr (Or.inl rfl) | exact Or.inr (Or.inr rfl)))))) (pB (pE_biB hL hr rfl .len rfl rfl Tx.n_len (by decide +kernel) (pB (pE_var (i := 1) rfl (by first | exact Or.inl rfl | exact Or.inr (Or.inl rfl) | exact Or.inr (Or.inr rfl)))))) (nomark _))
      (qs_cons (q_ret pE_bl) qs_nil)
      qs_nil)
      (qs_cons (q_fo (passes_of rfl) rfl (pI_rng1 rfl Tx.n_range (pB (pE_biB hL hr rfl .len rfl rfl Tx.n_len (by decide +kernel) (pB (pE_var (i := 1) rfl (by first | exact Or.inl rfl | exact Or.inr (Or.inl rfl) | exact Or.inr (Or.inr rfl))))))) (pg_name (i := 2) sc_Lsame.nd rfl (by first | exact Or.inl rfl | exact Or.inr rfl)) tgS_one
      (qs_cons (q_ite (pT_no (pT_tru (pB (pE_call (f := 21) hL hr (takes_of rfl rfl rfl rfl) rfl rfl rfl rfl Tx.m21 Tx.k21 Tx.b21 .nil (fun _ _ => .nil) (pA_cons (pE_ix (pB (pE_var (i := 0) rfl (by first | exact Or.inl rfl | exact Or.inr (Or.inl rfl) | exact Or.inr (Or.inr rfl)))) (pB (pE_var (i := 2) rfl (by first | exact Or.inl rfl | exact Or.inr (Or.inl rfl) | exact Or.inr (Or.inr rfl)))) (fun _ _ => rfl)) (pA_cons (pE_ix (pB (pE_var (i := 1) rfl (by first | exact Or.inl rfl | exact Or.inr (Or.inl rfl) | exact Or.inr (Or.inr rfl)))) (pB (pE_var (i := 2) rfl (by first | exact Or.inl rfl | exact Or.inr (Or.inl rfl) | exact Or.inr (Or.inr rfl)))) (fun _ _ => rfl)) pA_nil)))) (fun _ => rfl)))
      (qs_cons (q_ret pE_bl) qs_nil)
      qs_nil) qs_nil))
      (qs_cons (q_ret pE_bl) qs_nil))))
      qs_nil)
      (qs_cons (q_ite (L2.PW.pt (pW_or (pT_cm hL hr .is (pB (pE_var (i := 1) rfl (by first | exact Or.inl rfl | exact Or.inr (Or.inl rfl) | exact Or.inr (Or.inr rfl)))) (pB pE_non) (nomark _)) (pW_or1 (pT_tru (pB (pE_isi rfl Tx.n_isinstance (by decide +kernel) (tyOk_b (by simp)) (pB (pE_var (i := 1) rfl (by first | exact Or.inl rfl | exact Or.inr (Or.inl rfl) | exact Or.inr (Or.inr rfl)))) (pe_bltn (v := .ty "bool") rfl Tx.n_bool (by decide +kernel) rfl))) (fun _ => rfl)))))
      (qs_cons (q_ret (pE_an (pE_cm hL hr .eq (pB (pE_cm hL hr .is (pB (pE_var (i := 0) rfl (by first | exact Or.inl rfl | exact Or.inr (Or.inl rfl) | exact Or.inr (Or.inr rfl)))) (pB pE_non) (nomark _))) (pB (pE_cm hL hr .is (pB (pE_var (i := 1) rfl (by first | exact Or.inl rfl | exact Or.inr (Or.inl rfl) | exact Or.inr (Or.inr rfl)))) (pB pE_non) (nomark _))) (nomark _)) (pE_an (pE_or (pE_cm hL hr .is (pB (pE_var (i := 1) rfl (by first | exact Or.inl rfl | exact Or.inr (Or.inl rfl) | exact Or.inr (Or.inr rfl)))) (pB pE_non) (nomark _)) (pE_one (pE_isi rfl Tx.n_isinstance (by decide +kernel) (tyOk_b (by simp)) (pB (pE_var (i := 0) rfl (by first | exact Or.inl rfl | exact Or.inr (Or.inl rfl) | exact Or.inr (Or.inr rfl)))) (pe_bltn (v := .ty "bool") rfl Tx.n_bool (by decide +kernel) rfl)))) (pE_one (pE_cm hL hr .eq (pB (pE_var (i := 0) rfl (by first | exact Or.inl rfl | exact Or.inr (Or.inl rfl) | exact Or.inr (Or.inr rfl)))) (pB (pE_var (i := 1) rfl (by first | exact Or.inl rfl | exact Or.inr (Or.inl rfl) | exact Or.inr (Or.inr rfl)))) (nomark _)))))) qs_nil)
      qs_nil)
      (qs_cons (q_ite (pT_tru (pB (pE_isi rfl Tx.n_isinstance (by decide +kernel) (tyOk_b (by simp)) (pB (pE_var (i := 1) rfl (by first | exact Or.inl rfl | exact Or.inr (Or.inl rfl) | exact Or.inr (Or.inr rfl)))) (pe_bltn (v := .ty "int") rfl Tx.n_int (by decide +kernel) rfl))) (fun _ => rfl))
      (qs_cons (q_ret (pE_an (pE_isi rfl Tx.n_isinstance (by decide +kernel) (tyOk_b (by simp)) (pB (pE_var (i := 0) rfl (by first | exact Or.inl rfl | exact Or.inr (Or.inl rfl) | exact Or.inr (Or.inr rfl)))) (pe_bltn (v := .ty "int") rfl Tx.n_int (by decide +kernel) rfl)) (pE_an (pE_no (pB (pE_isi rfl Tx.n_isinstance (by decide +kernel) (tyOk_b (by simp)) (pB (pE_var (i := 0) rfl (by first | exact Or.inl rfl | exact Or.inr (Or.inl rfl) | exact Or.inr (Or.inr rfl)))) (pe_bltn (v := .ty "bool") rfl Tx.n_bool (by decide +kernel) rfl)))) (pE_one (pE_cm hL hr .eq (pB (pE_var (i := 0) rfl (by first | exact Or.inl rfl | exact Or.inr (Or.inl rfl) | exact Or.inr (Or.inr rfl)))) (pB (pE_var (i := 1) rfl (by first | exact Or.inl rfl | exact Or.inr (Or.inl rfl) | exact Or.inr (Or.inr rfl)))) (nomark _)))))) qs_nil)
      qs_nil)
      (qs_cons (q_ret (pE_an (pE_isi rfl Tx.n_isinstance (by decide +kernel) (tyOk_b (by simp)) (pB (pE_var (i := 0) rfl (by first | exact Or.inl rfl | exact Or.inr (Or.inl rfl) | exact Or.inr (Or.inr rfl)))) (pe_bltn (v := .ty "str") rfl Tx.n_str (by decide +kernel) rfl)) (pE_one (pE_cm hL hr .eq (pB (pE_var (i := 0) rfl (by first | exact Or.inl rfl | exact Or.inr (Or.inl rfl) | exact Or.inr (Or.inr rfl)))) (pB (pE_var (i := 1) rfl (by first | exact Or.inl rfl | exact Or.inr (Or.inl rfl) | exact Or.inr (Or.inr rfl)))) (nomark _))))) qs_nil))))
theorem sc_Lvalue : FnScope ["_law_pool_here", "_law_names_here", "_law_deep", "_law_kind", "_law_sign", "_law_left"] ["_law_pool_here", "_law_names_here", "_law_deep"] (defScope s_Lvalue) := ⟨rfl, rfl, rfl, by decide +kernel, rfl, by decide +kernel, by decide +kernel⟩
theorem b_Lvalue (hL : Lnk P w K mg base (lk ca) prog fi n) (Tx : Txt K mg ca fi) {wf : Nat} {cdv : Value} {A : Around} {outer : List Env} {s : Shared} {H : Hp} {E : XK} (hr : Room (2 * n + 1) (A.deeper (envOfC "_law_value" (defScope s_Lvalue) s.heap.objs.size (fi 22).addr cdv))) :
    QSs (cxF P w K mg base ["_law_pool_here", "_law_names_here", "_law_deep", "_law_kind", "_law_sign", "_law_left"] "_law_value" s_Lvalue (fi 22).addr cdv A outer s H E) (lk ca) (tab prog wf n) (fun cls d _ H => E cls d H) (defBody s_Lvalue) B_Lvalue :=
  (qs_cons (q_set (ps_set (i := 3) sc_Lvalue.nd rfl (by first | exact Or.inl rfl | exact Or.inr rfl) (pE_call (f := 18) hL hr (takes_of rfl rfl rfl rfl) rfl rfl rfl rfl Tx.m18 Tx.k18 Tx.b18 .nil (fun _ _ => .nil) (pA_cons (pE_var (i := 0) rfl (by first | exact Or.inl rfl | exact Or.inr (Or.inl rfl) | exact Or.inr (Or.inr rfl))) (pA_cons pE_int pA_nil)))))
      (qs_cons (q_ite (L2.PW.pt (pW_an (pT_cm hL hr .lt (pB (pE_var (i := 3) rfl (by first | exact Or.inl rfl | exact Or.inr (Or.inl rfl) | exact Or.inr (Or.inr rfl)))) (pB pE_int) (nomark _)) (pW_an1 (pT_cm hL hr .gt (pB (pE_var (i := 2) rfl (by first | exact Or.inl rfl | exact Or.inr (Or.inl rfl) | exact Or.inr (Or.inr rfl)))) (pB pE_int) (nomark _)))))
      (qs_cons (q_set (ps_set (i := 4) sc_Lvalue.nd rfl (by first | exact Or.inl rfl | exact Or.inr rfl) (pE_ix (pB (pE_tup (pA_cons pE_str (pA_cons pE_str (pA_cons pE_str (pA_cons pE_str (pA_cons pE_str (pA_cons pE_str (pA_cons pE_str pA_nil))))))))) (pB (pE_call (f := 18) hL hr (takes_of rfl rfl rfl rfl) rfl rfl rfl rfl Tx.m18 Tx.k18 Tx.b18 .nil (fun _ _ => .nil) (pA_cons (pE_var (i := 0) rfl (by first | exact Or.inl rfl | exact Or.inr (Or.inl rfl) | exact Or.inr (Or.inr rfl))) (pA_cons pE_int pA_nil)))) (fun _ _ => rfl))))
      (qs_cons (q_set (ps_set (i := 5) sc_Lvalue.nd rfl (by first | exact Or.inl rfl | exact Or.inr rfl) (pE_call (f := 22) hL hr (takes_of rfl rfl rfl rfl) rfl rfl rfl rfl Tx.m22 Tx.k22 Tx.b22 .nil (fun _ _ => .nil) (pA_cons (pE_var (i := 0) rfl (by first | exact Or.inl rfl | exact Or.inr (Or.inl rfl) | exact Or.inr (Or.inr rfl))) (pA_cons (pE_var (i := 1) rfl (by first | exact Or.inl rfl | exact Or.inr (Or.inl rfl) | exact Or.inr (Or.inr rfl))) (pA_cons (pE_op hL hr .sub (pB (pE_var (i := 2) rfl (by first | exact Or.inl rfl | exact Or.inr (Or.inl rfl) | exact Or.inr (Or.inr rfl)))) (pB pE_int)) pA_nil))))))
      (qs_cons (q_ret (pE_tup (pA_cons (pE_var (i := 4) rfl (by first | exact Or.inl rfl | exact Or.inr (Or.inl rfl) | exact Or.inr (Or.inr rfl))) (pA_cons (pE_var (i := 5) rfl (by first | exact Or.inl rfl | exact Or.inr (Or.inl rfl) | exact Or.inr (Or.inr rfl))) (pA_cons (pE_call (f := 22) hL hr (takes_of rfl rfl rfl rfl) rfl rfl rfl rfl Tx.m22 Tx.k22 Tx.b22 .nil (fun _ _ => .nil) (pA_cons (pE_var (i := 0) rfl (by first | exact Or.inl rfl | exact Or.inr (Or.inl rfl) | exact Or.inr (Or.inr rfl))) (pA_cons (pE_var (i := 1) rfl (by first | exact Or.inl rfl | exact Or.inr (Or.inl rfl) | exact Or.inr (Or.inr rfl))) (pA_cons (pE_op hL hr .sub (pB (pE_var (i := 2) rfl (by first | exact Or.inl rfl | exact Or.inr (Or.inl rfl) | exact Or.inr (Or.inr rfl)))) (pB pE_int)) pA_nil)))) pA_nil))))) qs_nil)))
      qs_nil)
      (qs_cons (q_ite (L2.PW.pt (pW_an (pT_cm hL hr .lt (pB (pE_var (i := 3) rfl (by first | exact Or.inl rfl | exact Or.inr (Or.inl rfl) | exact Or.inr (Or.inr rfl)))) (pB pE_int) (nomark _)) (pW_an1 (pT_cm hL hr .gt (pB (pE_biB hL hr rfl .len rfl rfl Tx.n_len (by decide +kernel) (pB (pE_var (i := 1) rfl (by first | exact Or.inl rfl | exact Or.inr (Or.inl rfl) | exact Or.inr (Or.inr rfl)))))) (pB pE_int) (nomark _)))))
      (qs_cons (q_ret (pE_tup (pA_cons pE_str (pA_cons (pE_ix (pB (pE_var (i := 1) rfl (by first | exact Or.inl rfl | exact Or.inr (Or.inl rfl) | exact Or.inr (Or.inr rfl)))) (pB (pE_call (f := 18) hL hr (takes_of rfl rfl rfl rfl) rfl rfl rfl rfl Tx.m18 Tx.k18 Tx.b18 .nil (fun _ _ => .nil) (pA_cons (pE_var (i := 0) rfl (by first | exact Or.inl rfl | exact Or.inr (Or.inl rfl) | exact Or.inr (Or.inr rfl))) (pA_cons (pE_biB hL hr rfl .len rfl rfl Tx.n_len (by decide +kernel) (pB (pE_var (i := 1) rfl (by first | exact Or.inl rfl | exact Or.inr (Or.inl rfl) | exact Or.inr (Or.inr rfl))))) pA_nil)))) (fun _ _ => rfl)) pA_nil)))) qs_nil)
      qs_nil)
      (qs_cons (q_ite (pT_cm hL hr .lt (pB (pE_var (i := 3) rfl (by first | exact Or.inl rfl | exact Or.inr (Or.inl rfl) | exact Or.inr (Or.inr rfl)))) (pB pE_int) (nomark _))
      (qs_cons (q_ret (pE_tup (pA_cons pE_str pA_nil))) qs_nil)
      qs_nil)
      (qs_cons (q_ret (pE_tup (pA_cons pE_str (pA_cons (pE_ix (pB (pE_tup (pA_cons (pE_call (f := 18) hL hr (takes_of rfl rfl rfl rfl) rfl rfl rfl rfl Tx.m18 Tx.k18 Tx.b18 .nil (fun _ _ => .nil) (pA_cons (pE_var (i := 0) rfl (by first | exact Or.inl rfl | exact Or.inr (Or.inl rfl) | exact Or.inr (Or.inr rfl))) (pA_cons pE_int pA_nil))) (pA_cons (pE_call (f := 18) hL hr (takes_of rfl rfl rfl rfl) rfl rfl rfl rfl Tx.m18 Tx.k18 Tx.b18 .nil (fun _ _ => .nil) (pA_cons (pE_var (i := 0) rfl (by first | exact Or.inl rfl | exact Or.inr (Or.inl rfl) | exact Or.inr (Or.inr rfl))) (pA_cons pE_int pA_nil))) (pA_cons (pE_call (f := 20) hL hr (takes_of rfl rfl rfl rfl) rfl rfl rfl rfl Tx.m20 Tx.k20 Tx.b20 .nil (fun _ _ => .nil) (pA_cons (pE_var (i := 0) rfl (by first | exact Or.inl rfl | exact Or.inr (Or.inl rfl) | exact Or.inr (Or.inr rfl))) pA_nil)) pA_nil))))) (pB (pE_call (f := 18) hL hr (takes_of rfl rfl rfl rfl) rfl rfl rfl rfl Tx.m18 Tx.k18 Tx.b18 .nil (fun _ _ => .nil) (pA_cons (pE_var (i := 0) rfl (by first | exact Or.inl rfl | exact Or.inr (Or.inl rfl) | exact Or.inr (Or.inr rfl))) (pA_cons pE_int pA_nil)))) (fun _ _ => rfl)) pA_nil)))) qs_nil)))))
theorem sc_Lstatement : FnScope ["_law_pool_here", "_law_scope", "_law_room", "_law_kind", "_law_names_here", "_law_test", "_law_then"] ["_law_pool_here", "_law_scope", "_law_room"] (defScope s_Lstatement) := ⟨rfl, rfl, rfl, by decide +kernel, rfl, by decide +kernel, by decide +kernel⟩
theorem b_Lstatement (hL : Lnk P w K mg base (lk ca) prog fi n) (Tx : Txt K mg ca fi) {wf : Nat} {cdv : Value} {A : Around} {outer : List Env} {s : Shared} {H : Hp} {E : XK} (hr : Room (2 * n + 1) (A.deeper (envOfC "_law_statement" (defScope s_Lstatement) s.heap.objs.size (fi 23).addr cdv))) :
    QSs (cxF P w K mg base ["_law_pool_here", "_law_scope", "_law_room", "_law_kind", "_law_names_here", "_law_test", "_law_then"] "_law_statement" s_Lstatement (fi 23).addr cdv A outer s H E) (lk ca) (tab prog wf n) (fun cls d _ H => E cls d H) (defBody s_Lstatement) B_Lstatement :=
  (qs_cons (q_set (ps_set (i := 3) sc_Lstatement.nd rfl (by first | exact Or.inl rfl | exact Or.inr rfl) (pE_call (f := 18) hL hr (takes_of rfl rfl rfl rfl) rfl rfl rfl rfl Tx.m18 Tx.k18 Tx.b18 .nil (fun _ _ => .nil) (pA_cons (pE_var (i := 0) rfl (by first | exact Or.inl rfl | exact Or.inr (Or.inl rfl) | exact Or.inr (Or.inr rfl))) (pA_cons pE_int pA_nil)))))
      (qs_cons (q_set (ps_set (i := 4) sc_Lstatement.nd rfl (by first | exact Or.inl rfl | exact Or.inr rfl) (pE_dg (k := .inr "names") (hu_room hr) (pE_var (i := 1) rfl (by first | exact Or.inl rfl | exact Or.inr (Or.inl rfl) | exact Or.inr (Or.inr rfl))) pe_str (fun _ _ => rfl))))
      (qs_cons (q_ite (L2.PW.pt (pW_an (pT_cm hL hr .lt (pB (pE_var (i := 3) rfl (by first | exact Or.inl rfl | exact Or.inr (Or.inl rfl) | exact Or.inr (Or.inr rfl)))) (pB pE_int) (nomark _)) (pW_an (pT_cm hL hr .gt (pB (pE_biB hL hr rfl .len rfl rfl Tx.n_len (by decide +kernel) (pB (pE_var (i := 4) rfl (by first | exact Or.inl rfl | exact Or.inr (Or.inl rfl) | exact Or.inr (Or.inr rfl)))))) (pB pE_int) (nomark _)) (pW_an1 (pT_cm hL hr .gt (pB (pE_dg (k := .inr "draws") (hu_room hr) (pE_var (i := 1) rfl (by first | exact Or.inl rfl | exact Or.inr (Or.inl rfl) | exact Or.inr (Or.inr rfl))) pe_str (fun _ _ => rfl))) (pB pE_int) (nomark _))))))
      (qs_cons (q_dput (k := .inr "draws") (hu_room hr) (pE_var (i := 1) rfl (by first | exact Or.inl rfl | exact Or.inr (Or.inl rfl) | exact Or.inr (Or.inr rfl))) pe_str (pE_op hL hr .sub (pB (pE_dg (k := .inr "draws") (hu_room hr) (pE_var (i := 1) rfl (by first | exact Or.inl rfl | exact Or.inr (Or.inl rfl) | exact Or.inr (Or.inr rfl))) pe_str (fun _ _ => rfl))) (pB pE_int)))
      (qs_cons (q_ret (pE_tup (pA_cons pE_str (pA_cons (pE_ix (pB (pE_var (i := 4) rfl (by first | exact Or.inl rfl | exact Or.inr (Or.inl rfl) | exact Or.inr (Or.inr rfl)))) (pB (pE_call (f := 18) hL hr (takes_of rfl rfl rfl rfl) rfl rfl rfl rfl Tx.m18 Tx.k18 Tx.b18 .nil (fun _ _ => .nil) (pA_cons (pE_var (i := 0) rfl (by first | exact Or.inl rfl | exact Or.inr (Or.inl rfl) | exact Or.inr (Or.inr rfl))) (pA_cons (pE_biB hL hr rfl .len rfl rfl Tx.n_len (by decide +kernel) (pB (pE_var (i := 4) rfl (by first | exact Or.inl rfl | exact Or.inr (Or.inl rfl) | exact Or.inr (Or.inr rfl))))) pA_nil)))) (fun _ _ => rfl)) (pA_cons (pE_op hL hr .add (pB pE_int) (pB (pE_call (f := 18) hL hr (takes_of rfl rfl rfl rfl) rfl rfl rfl rfl Tx.m18 Tx.k18 Tx.b18 .nil (fun _ _ => .nil) (pA_cons (pE_var (i := 0) rfl (by first | exact Or.inl rfl | exact Or.inr (Or.inl rfl) | exact Or.inr (Or.inr rfl))) (pA_cons (pE_dg (k := .inr "most") (hu_room hr) (pE_var (i := 1) rfl (by first | exact Or.inl rfl | exact Or.inr (Or.inl rfl) | exact Or.inr (Or.inr rfl))) pe_str (fun _ _ => rfl)) pA_nil))))) pA_nil))))) qs_nil))
      qs_nil)
      (qs_cons (q_ite (L2.PW.pt (pW_an (pT_cm hL hr .lt (pB (pE_var (i := 3) rfl (by first | exact Or.inl rfl | exact Or.inr (Or.inl rfl) | exact Or.inr (Or.inr rfl)))) (pB pE_int) (nomark _)) (pW_an1 (pT_cm hL hr .gt (pB (pE_biB hL hr rfl .len rfl rfl Tx.n_len (by decide +kernel) (pB (pE_var (i := 4) rfl (by first | exact Or.inl rfl | exact Or.inr (Or.inl rfl) | exact Or.inr (Or.inr rfl)))))) (pB pE_int) (nomark _)))))
      (qs_cons (q_ret (pE_tup (pA_cons pE_str (pA_cons (pE_ix (pB (pE_var (i := 4) rfl (by first | exact Or.inl rfl | exact Or.inr (Or.inl rfl) | exact Or.inr (Or.inr rfl)))) (pB (pE_call (f := 18) hL hr (takes_of rfl rfl rfl rfl) rfl rfl rfl rfl Tx.m18 Tx.k18 Tx.b18 .nil (fun _ _ => .nil) (pA_cons (pE_var (i := 0) rfl (by first | exact Or.inl rfl | exact Or.inr (Or.inl rfl) | exact Or.inr (Or.inr rfl))) (pA_cons (pE_biB hL hr rfl .len rfl rfl Tx.n_len (by decide +kernel) (pB (pE_var (i := 4) rfl (by first | exact Or.inl rfl | exact Or.inr (Or.inl rfl) | exact Or.inr (Or.inr rfl))))) pA_nil)))) (fun _ _ => rfl)) (pA_cons (pE_call (f := 22) hL hr (takes_of rfl rfl rfl rfl) rfl rfl rfl rfl Tx.m22 Tx.k22 Tx.b22 .nil (fun _ _ => .nil) (pA_cons (pE_var (i := 0) rfl (by first | exact Or.inl rfl | exact Or.inr (Or.inl rfl) | exact Or.inr (Or.inr rfl))) (pA_cons (pE_var (i := 4) rfl (by first | exact Or.inl rfl | exact Or.inr (Or.inl rfl) | exact Or.inr (Or.inr rfl))) (pA_cons (pE_ix (pB (pE_tup (pA_cons pE_int (pA_cons pE_int pA_nil)))) (pB (pE_call (f := 18) hL hr (takes_of rfl rfl rfl rfl) rfl rfl rfl rfl Tx.m18 Tx.k18 Tx.b18 .nil (fun _ _ => .nil) (pA_cons (pE_var (i := 0) rfl (by first | exact Or.inl rfl | exact Or.inr (Or.inl rfl) | exact Or.inr (Or.inr rfl))) (pA_cons pE_int pA_nil)))) (fun _ _ => rfl)) pA_nil)))) pA_nil))))) qs_nil)
      qs_nil)
      (qs_cons (q_ite (L2.PW.pt (pW_an (pT_cm hL hr .lt (pB (pE_var (i := 3) rfl (by first | exact Or.inl rfl | exact Or.inr (Or.inl rfl) | exact Or.inr (Or.inr rfl)))) (pB pE_int) (nomark _)) (pW_an1 (pT_cm hL hr .gt (pB (pE_var (i := 2) rfl (by first | exact Or.inl rfl | exact Or.inr (Or.inl rfl) | exact Or.inr (Or.inr rfl)))) (pB pE_int) (nomark _)))))
      (qs_cons (q_set (ps_set (i := 5) sc_Lstatement.nd rfl (by first | exact Or.inl rfl | exact Or.inr rfl) (pE_call (f := 22) hL hr (takes_of rfl rfl rfl rfl) rfl rfl rfl rfl Tx.m22 Tx.k22 Tx.b22 .nil (fun _ _ => .nil) (pA_cons (pE_var (i := 0) rfl (by first | exact Or.inl rfl | exact Or.inr (Or.inl rfl) | exact Or.inr (Or.inr rfl))) (pA_cons (pE_var (i := 4) rfl (by first | exact Or.inl rfl | exact Or.inr (Or.inl rfl) | exact Or.inr (Or.inr rfl))) (pA_cons (pE_ix (pB (pE_tup (pA_cons pE_int (pA_cons pE_int (pA_cons pE_int pA_nil))))) (pB (pE_call (f := 18) hL hr (takes_of rfl rfl rfl rfl) rfl rfl rfl rfl Tx.m18 Tx.k18 Tx.b18 .nil (fun _ _ => .nil) (pA_cons (pE_var (i := 0) rfl (by first | exact Or.inl rfl | exact Or.inr (Or.inl rfl) | exact Or.inr (Or.inr rfl))) (pA_cons pE_int pA_nil)))) (fun _ _ => rfl)) pA_nil))))))
      (qs_cons (q_set (ps_set (i := 6) sc_Lstatement.nd rfl (by first | exact Or.inl rfl | exact Or.inr rfl) (pE_call (f := 24) hL hr (takes_of rfl rfl rfl rfl) rfl rfl rfl rfl Tx.m24 Tx.k24 Tx.b24 .nil (fun _ _ => .nil) (pA_cons (pE_var (i := 0) rfl (by first | exact Or.inl rfl | exact Or.inr (Or.inl rfl) | exact Or.inr (Or.inr rfl))) (pA_cons (pE_var (i := 1) rfl (by first | exact Or.inl rfl | exact Or.inr (Or.inl rfl) | exact Or.inr (Or.inr rfl))) (pA_cons (pE_op hL hr .sub (pB (pE_var (i := 2) rfl (by first | exact Or.inl rfl | exact Or.inr (Or.inl rfl) | exact Or.inr (Or.inr rfl)))) (pB pE_int)) (pA_cons pE_int pA_nil)))))))
      (qs_cons (q_ret (pE_tup (pA_cons pE_str (pA_cons (pE_var (i := 5) rfl (by first | exact Or.inl rfl | exact Or.inr (Or.inl rfl) | exact Or.inr (Or.inr rfl))) (pA_cons (pE_var (i := 6) rfl (by first | exact Or.inl rfl | exact Or.inr (Or.inl rfl) | exact Or.inr (Or.inr rfl))) (pA_cons (pE_call (f := 24) hL hr (takes_of rfl rfl rfl rfl) rfl rfl rfl rfl Tx.m24 Tx.k24 Tx.b24 .nil (fun _ _ => .nil) (pA_cons (pE_var (i := 0) rfl (by first | exact Or.inl rfl | exact Or.inr (Or.inl rfl) | exact Or.inr (Or.inr rfl))) (pA_cons (pE_var (i := 1) rfl (by first | exact Or.inl rfl | exact Or.inr (Or.inl rfl) | exact Or.inr (Or.inr rfl))) (pA_cons (pE_op hL hr .sub (pB (pE_var (i := 2) rfl (by first | exact Or.inl rfl | exact Or.inr (Or.inl rfl) | exact Or.inr (Or.inr rfl)))) (pB pE_int)) (pA_cons pE_int pA_nil))))) pA_nil)))))) qs_nil)))
      qs_nil)
      (qs_cons (q_ret (pE_tup (pA_cons pE_str (pA_cons (pE_call (f := 22) hL hr (takes_of rfl rfl rfl rfl) rfl rfl rfl rfl Tx.m22 Tx.k22 Tx.b22 .nil (fun _ _ => .nil) (pA_cons (pE_var (i := 0) rfl (by first | exact Or.inl rfl | exact Or.inr (Or.inl rfl) | exact Or.inr (Or.inr rfl))) (pA_cons (pE_var (i := 4) rfl (by first | exact Or.inl rfl | exact Or.inr (Or.inl rfl) | exact Or.inr (Or.inr rfl))) (pA_cons (pE_ix (pB (pE_tup (pA_cons pE_int (pA_cons pE_int (pA_cons pE_int pA_nil))))) (pB (pE_call (f := 18) hL hr (takes_of rfl rfl rfl rfl) rfl rfl rfl rfl Tx.m18 Tx.k18 Tx.b18 .nil (fun _ _ => .nil) (pA_cons (pE_var (i := 0) rfl (by first | exact Or.inl rfl | exact Or.inr (Or.inl rfl) | exact Or.inr (Or.inr rfl))) (pA_cons pE_int pA_nil)))) (fun _ _ => rfl)) pA_nil)))) pA_nil)))) qs_nil))))))
theorem sc_Lblock : FnScope ["_law_pool_here", "_law_scope", "_law_room", "_law_most", "_law_block_here", "_law_k"] ["_law_pool_here", "_law_scope", "_law_room", "_law_most"] (defScope s_Lblock) := ⟨rfl, rfl, rfl, by decide +kernel, rfl, by decide +kernel, by decide +kernel⟩
theorem b_Lblock (hL : Lnk P w K mg base (lk ca) prog fi n) (Tx : Txt K mg ca fi) {wf : Nat} {cdv : Value} {A : Around} {outer : List Env} {s : Shared} {H : Hp} {E : XK} (hr : Room (2 * n + 1) (A.deeper (envOfC "_law_block" (defScope s_Lblock) s.heap.objs.size (fi 24).addr cdv))) :
    QSs (cxF P w K mg base ["_law_pool_here", "_law_scope", "_law_room", "_law_most", "_law_block_here", "_law_k"] "_law_block" s_Lblock (fi 24).addr cdv A outer s H E) (lk ca) (tab prog wf n) (fun cls d _ H => E cls d H) (defBody s_Lblock) B_Lblock :=
  (qs_cons (q_setO (ps_set (i := 4) sc_Lblock.nd rfl (by first | exact Or.inl rfl | exact Or.inr rfl) (pF_lst pA_nil)))
      (qs_cons (q_fo (passes_of rfl) rfl (pI_rng1 rfl Tx.n_range (pB (pE_call (f := 18) hL hr (takes_of rfl rfl rfl rfl) rfl rfl rfl rfl Tx.m18 Tx.k18 Tx.b18 .nil (fun _ _ => .nil) (pA_cons (pE_var (i := 0) rfl (by first | exact Or.inl rfl | exact Or.inr (Or.inl rfl) | exact Or.inr (Or.inr rfl))) (pA_cons (pE_op hL hr .add (pB (pE_var (i := 3) rfl (by first | exact Or.inl rfl | exact Or.inr (Or.inl rfl) | exact Or.inr (Or.inr rfl)))) (pB pE_int)) pA_nil))))) (pg_name (i := 5) sc_Lblock.nd rfl (by first | exact Or.inl rfl | exact Or.inr rfl)) tgS_one
      (qs_cons (q_ite (pT_tru (pB (pE_call (f := 19) hL hr (takes_of rfl rfl rfl rfl) rfl rfl rfl rfl Tx.m19 Tx.k19 Tx.b19 .nil (fun _ _ => .nil) (pA_cons (pE_var (i := 0) rfl (by first | exact Or.inl rfl | exact Or.inr (Or.inl rfl) | exact Or.inr (Or.inr rfl))) pA_nil))) (fun _ => rfl))
      (qs_cons (q_app (i := 4) rfl (by first | exact Or.inl rfl | exact Or.inr (Or.inl rfl) | exact Or.inr (Or.inr rfl)) (pE_call (f := 23) hL hr (takes_of rfl rfl rfl rfl) rfl rfl rfl rfl Tx.m23 Tx.k23 Tx.b23 .nil (fun _ _ => .nil) (pA_cons (pE_var (i := 0) rfl (by first | exact Or.inl rfl | exact Or.inr (Or.inl rfl) | exact Or.inr (Or.inr rfl))) (pA_cons (pE_var (i := 1) rfl (by first | exact Or.inl rfl | exact Or.inr (Or.inl rfl) | exact Or.inr (Or.inr rfl))) (pA_cons (pE_var (i := 2) rfl (by first | exact Or.inl rfl | exact Or.inr (Or.inl rfl) | exact Or.inr (Or.inr rfl))) pA_nil)))) (hp := fun h1 h2 => ps_expr (pe_bm PySem.F.plainAttrs_list PySem.F.slot_list_append PySem.F.type_list_append mt_append h1 h2))) qs_nil)
      qs_nil) qs_nil))
      (qs_cons (q_ret (pE_biT hL hr rfl .tuple rfl rfl Tx.n_tuple (by decide +kernel) (pB_var (i := 4) rfl (by first | exact Or.inl rfl | exact Or.inr (Or.inl rfl) | exact Or.inr (Or.inr rfl))))) qs_nil)))
theorem sc_Lnames : FnScope ["_law_pool_here", "_law_count", "_law_names_here", "_law_k", "_law_name", "_law_turn", "_law_other"] ["_law_pool_here", "_law_count"] (defScope s_Lnames) := ⟨rfl, rfl, rfl, by decide +kernel, rfl, by decide +kernel, by decide +kernel⟩
theorem b_Lnames (hL : Lnk P w K mg base (lk ca) prog fi n) (Tx : Txt K mg ca fi) {wf : Nat} {cdv : Value} {A : Around} {outer : List Env} {s : Shared} {H : Hp} {E : XK} (hr : Room (2 * n + 1) (A.deeper (envOfC "_law_names" (defScope s_Lnames) s.heap.objs.size (fi 25).addr cdv))) :
    QSs (cxF P w K mg base ["_law_pool_here", "_law_count", "_law_names_here", "_law_k", "_law_name", "_law_turn", "_law_other"] "_law_names" s_Lnames (fi 25).addr cdv A outer s H E) (lk ca) (tab prog wf n) (fun cls d _ H => E cls d H) (defBody s_Lnames) B_Lnames :=
  (qs_cons (q_setO (ps_set (i := 2) sc_Lnames.nd rfl (by first | exact Or.inl rfl | exact Or.inr rfl) (pF_lst pA_nil)))
      (qs_cons (q_fo (passes_of rfl) rfl (pI_rng1 rfl Tx.n_range (pB (pE_var (i := 1) rfl (by first | exact Or.inl rfl | exact Or.inr (Or.inl rfl) | exact Or.inr (Or.inr rfl))))) (pg_name (i := 3) sc_Lnames.nd rfl (by first | exact Or.inl rfl | exact Or.inr rfl)) tgS_one
      (qs_cons (q_set (ps_set (i := 4) sc_Lnames.nd rfl (by first | exact Or.inl rfl | exact Or.inr rfl) (pE_ix (pB (pE_tup (pA_cons pE_str (pA_cons pE_str (pA_cons pE_str (pA_cons pE_str (pA_cons pE_str (pA_cons pE_str (pA_cons pE_str (pA_cons pE_str (pA_cons pE_str (pA_cons pE_str pA_nil)))))))))))) (pB (pE_call (f := 18) hL hr (takes_of rfl rfl rfl rfl) rfl rfl rfl rfl Tx.m18 Tx.k18 Tx.b18 .nil (fun _ _ => .nil) (pA_cons (pE_var (i := 0) rfl (by first | exact Or.inl rfl | exact Or.inr (Or.inl rfl) | exact Or.inr (Or.inr rfl))) (pA_cons pE_int pA_nil)))) (fun _ _ => rfl))))
      (qs_cons (q_ite (pT_cm hL hr .eq (pB (pE_call (f := 18) hL hr (takes_of rfl rfl rfl rfl) rfl rfl rfl rfl Tx.m18 Tx.k18 Tx.b18 .nil (fun _ _ => .nil) (pA_cons (pE_var (i := 0) rfl (by first | exact Or.inl rfl | exact Or.inr (Or.inl rfl) | exact Or.inr (Or.inr rfl))) (pA_cons pE_int pA_nil)))) (pB pE_int) (nomark _))
      (qs_cons (q_set (ps_set (i := 4) sc_Lnames.nd rfl (by first | exact Or.inl rfl | exact Or.inr rfl) pE_str))
      (qs_cons (q_fo (passes_of rfl) rfl (pI_rng1 rfl Tx.n_range (pB (pE_op hL hr .add (pB pE_int) (pB (pE_call (f := 18) hL hr (takes_of rfl rfl rfl rfl) rfl rfl rfl rfl Tx.m18 Tx.k18 Tx.b18 .nil (fun _ _ => .nil) (pA_cons (pE_var (i := 0) rfl (by first | exact Or.inl rfl | exact Or.inr (Or.inl rfl) | exact Or.inr (Or.inr rfl))) (pA_cons pE_int pA_nil))))))) (pg_name (i := 5) sc_Lnames.nd rfl (by first | exact Or.inl rfl | exact Or.inr rfl)) tgS_one
      (qs_cons (q_set (ps_set (i := 4) sc_Lnames.nd rfl (by first | exact Or.inl rfl | exact Or.inr rfl) (pE_op hL hr .add (pB (pE_var (i := 4) rfl (by first | exact Or.inl rfl | exact Or.inr (Or.inl rfl) | exact Or.inr (Or.inr rfl)))) (pB (pE_ix (pB pE_str) (pB (pE_call (f := 18) hL hr (takes_of rfl rfl rfl rfl) rfl rfl rfl rfl Tx.m18 Tx.k18 Tx.b18 .nil (fun _ _ => .nil) (pA_cons (pE_var (i := 0) rfl (by first | exact Or.inl rfl | exact Or.inr (Or.inl rfl) | exact Or.inr (Or.inr rfl))) (pA_cons pE_int pA_nil)))) (fun _ _ => rfl)))))) qs_nil)) qs_nil))
      qs_nil)
      (qs_cons (q_ite (pT_cm hL hr .inn (pB (pE_var (i := 4) rfl (by first | exact Or.inl rfl | exact Or.inr (Or.inl rfl) | exact Or.inr (Or.inr rfl)))) (pB (pE_tup (pA_cons pE_str (pA_cons pE_str (pA_cons pE_str (pA_cons pE_str (pA_cons pE_str (pA_cons pE_str (pA_cons pE_str (pA_cons pE_str (pA_cons pE_str (pA_cons pE_str pA_nil)))))))))))) (by with_unfolding_all rfl))
      (qs_cons (q_set (ps_set (i := 4) sc_Lnames.nd rfl (by first | exact Or.inl rfl | exact Or.inr rfl) pE_str)) qs_nil)
      qs_nil)
      (qs_cons (q_fo (passes_of rfl) rfl (pI_e (pE_tup (pA_cons pE_str (pA_cons pE_str (pA_cons pE_str (pA_cons pE_str (pA_cons pE_str (pA_cons pE_str pA_nil)))))))) (pg_name (i := 6) sc_Lnames.nd rfl (by first | exact Or.inl rfl | exact Or.inr rfl)) tgS_one
      (qs_cons (q_ite (pT_cm hL hr .inn (pB (pE_var (i := 4) rfl (by first | exact Or.inl rfl | exact Or.inr (Or.inl rfl) | exact Or.inr (Or.inr rfl)))) (pB_var (i := 2) rfl (by first | exact Or.inl rfl | exact Or.inr (Or.inl rfl) | exact Or.inr (Or.inr rfl))) (by with_unfolding_all rfl))
      (qs_cons (q_set (ps_set (i := 4) sc_Lnames.nd rfl (by first | exact Or.inl rfl | exact Or.inr rfl) (pE_var (i := 6) rfl (by first | exact Or.inl rfl | exact Or.inr (Or.inl rfl) | exact Or.inr (Or.inr rfl))))) qs_nil)
      qs_nil) qs_nil))
      (qs_cons (q_app (i := 2) rfl (by first | exact Or.inl rfl | exact Or.inr (Or.inl rfl) | exact Or.inr (Or.inr rfl)) (pE_var (i := 4) rfl (by first | exact Or.inl rfl | exact Or.inr (Or.inl rfl) | exact Or.inr (Or.inr rfl))) (hp := fun h1 h2 => ps_expr (pe_bm PySem.F.plainAttrs_list PySem.F.slot_list_append PySem.F.type_list_append mt_append h1 h2))) qs_nil))))))
      (qs_fz (i := 2) (qs_cons (q_ret (pE_var (i := 2) rfl (by first | exact Or.inl rfl | exact Or.inr (Or.inl rfl) | exact Or.inr (Or.inr rfl)))) qs_nil))))
theorem sc_Lwatcher : FnScope ["_law_pool_here", "_law_draws", "_law_most", "_law_variables", "_law_names_here", "_law_k", "_law_scope", "_law_row", "_law_kinds", "_law_block_here", "_law_more"] ["_law_pool_here", "_law_draws", "_law_most"] (defScope s_Lwatcher) := ⟨rfl, rfl, rfl, by decide +kernel, rfl, by decide +kernel, by decide +kernel⟩
theorem b_Lwatcher (hL : Lnk P w K mg base (lk ca) prog fi n) (Tx : Txt K mg ca fi) {wf : Nat} {cdv : Value} {A : Around} {outer : List Env} {s : Shared} {H : Hp} {E : XK} (hr : Room (2 * n + 1) (A.deeper (envOfC "_law_watcher" (defScope s_Lwatcher) s.heap.objs.size (fi 26).addr cdv))) :
    QSs (cxF P w K mg base ["_law_pool_here", "_law_draws", "_law_most", "_law_variables", "_law_names_here", "_law_k", "_law_scope", "_law_row", "_law_kinds", "_law_block_here", "_law_more"] "_law_watcher" s_Lwatcher (fi 26).addr cdv A outer s H E) (lk ca) (tab prog wf n) (fun cls d _ H => E cls d H) (defBody s_Lwatcher) B_Lwatcher :=
  (qs_cons (q_setO (ps_set (i := 3) sc_Lwatcher.nd rfl (by first | exact Or.inl rfl | exact Or.inr rfl) (pF_lst pA_nil)))
      (qs_cons (q_set (ps_set (i := 4) sc_Lwatcher.nd rfl (by first | exact Or.inl rfl | exact Or.inr rfl) (pE_call (f := 25) hL hr (takes_of rfl rfl rfl rfl) rfl rfl rfl rfl Tx.m25 Tx.k25 Tx.b25 .nil (fun _ _ => .nil) (pA_cons (pE_var (i := 0) rfl (by first | exact Or.inl rfl | exact Or.inr (Or.inl rfl) | exact Or.inr (Or.inr rfl))) (pA_cons (pE_call (f := 18) hL hr (takes_of rfl rfl rfl rfl) rfl rfl rfl rfl Tx.m18 Tx.k18 Tx.b18 .nil (fun _ _ => .nil) (pA_cons (pE_var (i := 0) rfl (by first | exact Or.inl rfl | exact Or.inr (Or.inl rfl) | exact Or.inr (Or.inr rfl))) (pA_cons pE_int pA_nil))) pA_nil)))))
      (qs_cons (q_fo (passes_of rfl) rfl (pI_rng1 rfl Tx.n_range (pB (pE_biB hL hr rfl .len rfl rfl Tx.n_len (by decide +kernel) (pB (pE_var (i := 4) rfl (by first | exact Or.inl rfl | exact Or.inr (Or.inl rfl) | exact Or.inr (Or.inr rfl))))))) (pg_name (i := 5) sc_Lwatcher.nd rfl (by first | exact Or.inl rfl | exact Or.inr rfl)) tgS_one
      (qs_cons (q_app (i := 3) rfl (by first | exact Or.inl rfl | exact Or.inr (Or.inl rfl) | exact Or.inr (Or.inr rfl)) (pE_tup (pA_cons (pE_ix (pB (pE_var (i := 4) rfl (by first | exact Or.inl rfl | exact Or.inr (Or.inl rfl) | exact Or.inr (Or.inr rfl)))) (pB (pE_var (i := 5) rfl (by first | exact Or.inl rfl | exact Or.inr (Or.inl rfl) | exact Or.inr (Or.inr rfl)))) (fun _ _ => rfl)) (pA_cons (pE_op hL hr .add (pB pE_int) (pB (pE_ix (pB (pE_tup (pA_cons (pE_call (f := 18) hL hr (takes_of rfl rfl rfl rfl) rfl rfl rfl rfl Tx.m18 Tx.k18 Tx.b18 .nil (fun _ _ => .nil) (pA_cons (pE_var (i := 0) rfl (by first | exact Or.inl rfl | exact Or.inr (Or.inl rfl) | exact Or.inr (Or.inr rfl))) (pA_cons pE_int pA_nil))) (pA_cons (pE_call (f := 18) hL hr (takes_of rfl rfl rfl rfl) rfl rfl rfl rfl Tx.m18 Tx.k18 Tx.b18 .nil (fun _ _ => .nil) (pA_cons (pE_var (i := 0) rfl (by first | exact Or.inl rfl | exact Or.inr (Or.inl rfl) | exact Or.inr (Or.inr rfl))) (pA_cons pE_int pA_nil))) (pA_cons (pE_op hL hr .mod (pB (pE_call (f := 20) hL hr (takes_of rfl rfl rfl rfl) rfl rfl rfl rfl Tx.m20 Tx.k20 Tx.b20 .nil (fun _ _ => .nil) (pA_cons (pE_var (i := 0) rfl (by first | exact Or.inl rfl | exact Or.inr (Or.inl rfl) | exact Or.inr (Or.inr rfl))) pA_nil))) (pB pE_int)) pA_nil))))) (pB (pE_call (f := 18) hL hr (takes_of rfl rfl rfl rfl) rfl rfl rfl rfl Tx.m18 Tx.k18 Tx.b18 .nil (fun _ _ => .nil) (pA_cons (pE_var (i := 0) rfl (by first | exact Or.inl rfl | exact Or.inr (Or.inl rfl) | exact Or.inr (Or.inr rfl))) (pA_cons pE_int pA_nil)))) (fun _ _ => rfl)))) pA_nil))) (hp := fun h1 h2 => ps_expr (pe_bm PySem.F.plainAttrs_list PySem.F.slot_list_append PySem.F.type_list_append mt_append h1 h2))) qs_nil))
      (qs_cons (q_set (ps_set (i := 6) sc_Lwatcher.nd rfl (by first | exact Or.inl rfl | exact Or.inr rfl) (pE_dnw (pD_cons (pE_comp (t := (.one 7)) (own := [("_law_row", 7)]) rfl sc_Lwatcher.nd (pI_b (pB_var (i := 3) rfl (by first | exact Or.inl rfl | exact Or.inr (Or.inl rfl) | exact Or.inr (Or.inr rfl)))) (blkOk_by (N := ["_law_pool_here", "_law_draws", "_law_most", "_law_variables", "_law_names_here", "_law_k", "_law_scope", "_law_row", "_law_kinds", "_law_block_here", "_law_more"]) (sc := defScope s_Lwatcher) (own := [("_law_row", 7)]) (by decide +kernel)) rfl tg_one tt_yes (fun _ _ _ _ _ => (pg_name (i := 7) sc_Lwatcher.nd rfl (by first | exact Or.inl rfl | exact Or.inr rfl))) (fun _ _ _ _ _ => pts_nil) (fun _ _ _ _ _ => (pE_ix (pB (pE_var (i := 7) rfl (by first | exact Or.inl rfl | exact Or.inr (Or.inl rfl) | exact Or.inr (Or.inr rfl)))) (pB pE_int) (fun _ _ => rfl)))) (pD_cons (pE_var (i := 1) rfl (by first | exact Or.inl rfl | exact Or.inr (Or.inl rfl) | exact Or.inr (Or.inr rfl))) (pD_cons (pE_var (i := 2) rfl (by first | exact Or.inl rfl | exact Or.inr (Or.inl rfl) | exact Or.inr (Or.inr rfl))) pD_nil))) rfl rfl (by simp) (by decide) (by decide +kernel) (by decide))))
      (qs_cons (q_setIA (i := 0) rfl (by first | exact Or.inl rfl | exact Or.inr (Or.inl rfl) | exact Or.inr (Or.inr rfl)) (hp := fun h => ps_asg pE_int (pg_sub h pE_int set_list)))
      (qs_cons (q_set (ps_set (i := 8) sc_Lwatcher.nd rfl (by first | exact Or.inl rfl | exact Or.inr rfl) (pE_op hL hr .add (pB pE_int) (pB (pE_call (f := 18) hL hr (takes_of rfl rfl rfl rfl) rfl rfl rfl rfl Tx.m18 Tx.k18 Tx.b18 .nil (fun _ _ => .nil) (pA_cons (pE_var (i := 0) rfl (by first | exact Or.inl rfl | exact Or.inr (Or.inl rfl) | exact Or.inr (Or.inr rfl))) (pA_cons pE_int pA_nil)))))))
      (qs_cons (q_set (ps_set (i := 9) sc_Lwatcher.nd rfl (by first | exact Or.inl rfl | exact Or.inr rfl) (pE_call (f := 24) hL hr (takes_of rfl rfl rfl rfl) rfl rfl rfl rfl Tx.m24 Tx.k24 Tx.b24 .nil (fun _ _ => .nil) (pA_cons (pE_var (i := 0) rfl (by first | exact Or.inl rfl | exact Or.inr (Or.inl rfl) | exact Or.inr (Or.inr rfl))) (pA_cons (pE_var (i := 6) rfl (by first | exact Or.inl rfl | exact Or.inr (Or.inl rfl) | exact Or.inr (Or.inr rfl))) (pA_cons pE_int (pA_cons pE_int pA_nil)))))))
      (qs_cons (q_set (ps_set (i := 10) sc_Lwatcher.nd rfl (by first | exact Or.inl rfl | exact Or.inr rfl) (pE_ix (pB (pE_tup (pA_cons pE_int (pA_cons (pE_call (f := 18) hL hr (takes_of rfl rfl rfl rfl) rfl rfl rfl rfl Tx.m18 Tx.k18 Tx.b18 .nil (fun _ _ => .nil) (pA_cons (pE_var (i := 0) rfl (by first | exact Or.inl rfl | exact Or.inr (Or.inl rfl) | exact Or.inr (Or.inr rfl))) (pA_cons (pE_ix (pB (pE_tup (pA_cons pE_int (pA_cons pE_int pA_nil)))) (pB (pE_call (f := 18) hL hr (takes_of rfl rfl rfl rfl) rfl rfl rfl rfl Tx.m18 Tx.k18 Tx.b18 .nil (fun _ _ => .nil) (pA_cons (pE_var (i := 0) rfl (by first | exact Or.inl rfl | exact Or.inr (Or.inl rfl) | exact Or.inr (Or.inr rfl))) (pA_cons pE_int pA_nil)))) (fun _ _ => rfl)) pA_nil))) pA_nil)))) (pB (pE_biT hL hr rfl .int rfl rfl Tx.n_int (by decide +kernel) (pB (pE_cm hL hr .eq (pB (pE_call (f := 18) hL hr (takes_of rfl rfl rfl rfl) rfl rfl rfl rfl Tx.m18 Tx.k18 Tx.b18 .nil (fun _ _ => .nil) (pA_cons (pE_var (i := 0) rfl (by first | exact Or.inl rfl | exact Or.inr (Or.inl rfl) | exact Or.inr (Or.inr rfl))) (pA_cons pE_int pA_nil)))) (pB pE_int) (nomark _))))) (fun _ _ => rfl))))
      (qs_cons (q_ret (pE_tup (pA_cons (pE_var (i := 8) rfl (by first | exact Or.inl rfl | exact Or.inr (Or.inl rfl) | exact Or.inr (Or.inr rfl))) (pA_cons (pE_biT hL hr rfl .tuple rfl rfl Tx.n_tuple (by decide +kernel) (pB_var (i := 3) rfl (by first | exact Or.inl rfl | exact Or.inr (Or.inl rfl) | exact Or.inr (Or.inr rfl)))) (pA_cons (pE_op hL hr .add (pB (pE_var (i := 9) rfl (by first | exact Or.inl rfl | exact Or.inr (Or.inl rfl) | exact Or.inr (Or.inr rfl)))) (pB (pE_op hL hr .mul (pB (pE_tup (pA_cons (pE_tup (pA_cons pE_str (pA_cons (pE_tup (pA_cons pE_str pA_nil)) pA_nil))) pA_nil))) (pB (pE_var (i := 10) rfl (by first | exact Or.inl rfl | exact Or.inr (Or.inl rfl) | exact Or.inr (Or.inr rfl))))))) pA_nil))))) qs_nil)))))))))
theorem sc_Lvalue_words : FnScope ["_law_due"] ["_law_due"] (defScope s_Lvalue_words) := ⟨rfl, rfl, rfl, by decide +kernel, rfl, by decide +kernel, by decide +kernel⟩
theorem b_Lvalue_words (hL : Lnk P w K mg base (lk ca) prog fi n) (Tx : Txt K mg ca fi) {wf : Nat} {cdv : Value} {A : Around} {outer : List Env} {s : Shared} {H : Hp} {E : XK} (hr : Room (2 * n + 1) (A.deeper (envOfC "_law_value_words" (defScope s_Lvalue_words) s.heap.objs.size (fi 27).addr cdv))) :
    QSs (cxF P w K mg base ["_law_due"] "_law_value_words" s_Lvalue_words (fi 27).addr cdv A outer s H E) (lk ca) (tab prog wf n) (fun cls d _ H => E cls d H) (defBody s_Lvalue_words) B_Lvalue_words :=
  (qs_cons (q_ite (pT_cm hL hr .lt (pB (pE_biB hL hr rfl .len rfl rfl Tx.n_len (by decide +kernel) (pB (pE_var (i := 0) rfl (by first | exact Or.inl rfl | exact Or.inr (Or.inl rfl) | exact Or.inr (Or.inr rfl)))))) (pB pE_int) (nomark _))
      (qs_cons (q_ret (pE_lst (pA_cons (pE_biT hL hr rfl .str rfl rfl Tx.n_str (by decide +kernel) (pB (pE_ix (pB (pE_var (i := 0) rfl (by first | exact Or.inl rfl | exact Or.inr (Or.inl rfl) | exact Or.inr (Or.inr rfl)))) (pB (pE_neg pE_int)) (fun _ _ => rfl)))) pA_nil))) qs_nil)
      qs_nil)
      (qs_cons (q_ret (pE_op hL hr .add (pB (pE_op hL hr .add (pB (pE_lst (pA_cons (pE_ix (pB (pE_var (i := 0) rfl (by first | exact Or.inl rfl | exact Or.inr (Or.inl rfl) | exact Or.inr (Or.inr rfl)))) (pB pE_int) (fun _ _ => rfl)) pA_nil))) (pB (pE_call (f := 27) hL hr (takes_of rfl rfl rfl rfl) rfl rfl rfl rfl Tx.m27 Tx.k27 Tx.b27 .nil (fun _ _ => .nil) (pA_cons (pE_ix (pB (pE_var (i := 0) rfl (by first | exact Or.inl rfl | exact Or.inr (Or.inl rfl) | exact Or.inr (Or.inr rfl)))) (pB pE_int) (fun _ _ => rfl)) pA_nil))))) (pB (pE_call (f := 27) hL hr (takes_of rfl rfl rfl rfl) rfl rfl rfl rfl Tx.m27 Tx.k27 Tx.b27 .nil (fun _ _ => .nil) (pA_cons (pE_ix (pB (pE_var (i := 0) rfl (by first | exact Or.inl rfl | exact Or.inr (Or.inl rfl) | exact Or.inr (Or.inr rfl)))) (pB pE_int) (fun _ _ => rfl)) pA_nil))))) qs_nil))
theorem sc_Lblock_words : FnScope ["_law_block_here", "_law_words_here", "_law_due"] ["_law_block_here"] (defScope s_Lblock_words) := ⟨rfl, rfl, rfl, by decide +kernel, rfl, by decide +kernel, by decide +kernel⟩
theorem b_Lblock_words (hL : Lnk P w K mg base (lk ca) prog fi n) (Tx : Txt K mg ca fi) {wf : Nat} {cdv : Value} {A : Around} {outer : List Env} {s : Shared} {H : Hp} {E : XK} (hr : Room (2 * n + 1) (A.deeper (envOfC "_law_block_words" (defScope s_Lblock_words) s.heap.objs.size (fi 28).addr cdv))) :
    QSs (cxF P w K mg base ["_law_block_here", "_law_words_here", "_law_due"] "_law_block_words" s_Lblock_words (fi 28).addr cdv A outer s H E) (lk ca) (tab prog wf n) (fun cls d _ H => E cls d H) (defBody s_Lblock_words) B_Lblock_words :=
  (qs_cons (q_setO (ps_set (i := 1) sc_Lblock_words.nd rfl (by first | exact Or.inl rfl | exact Or.inr rfl) (pF_lst pA_nil)))
      (qs_cons (q_fo (passes_of rfl) rfl (pI_e (pE_var (i := 0) rfl (by first | exact Or.inl rfl | exact Or.inr (Or.inl rfl) | exact Or.inr (Or.inr rfl)))) (pg_name (i := 2) sc_Lblock_words.nd rfl (by first | exact Or.inl rfl | exact Or.inr rfl)) tgS_one
      (qs_cons (q_ite (pT_cm hL hr .eq (pB (pE_ix (pB (pE_var (i := 2) rfl (by first | exact Or.inl rfl | exact Or.inr (Or.inl rfl) | exact Or.inr (Or.inr rfl)))) (pB pE_int) (fun _ _ => rfl))) (pB pE_str) (nomark _))
      (qs_cons (q_setO (ps_set (i := 1) sc_Lblock_words.nd rfl (by first | exact Or.inl rfl | exact Or.inr rfl) (pF_cat (pB (pE_op hL hr .add (pB (pE_op hL hr .add (pB_var (i := 1) rfl (by first | exact Or.inl rfl | exact Or.inr (Or.inl rfl) | exact Or.inr (Or.inr rfl))) (pB (pE_lst (pA_cons pE_str pA_nil))))) (pB (pE_call (f := 27) hL hr (takes_of rfl rfl rfl rfl) rfl rfl rfl rfl Tx.m27 Tx.k27 Tx.b27 .nil (fun _ _ => .nil) (pA_cons (pE_ix (pB (pE_var (i := 2) rfl (by first | exact Or.inl rfl | exact Or.inr (Or.inl rfl) | exact Or.inr (Or.inr rfl)))) (pB pE_int) (fun _ _ => rfl)) pA_nil))))) (pB (pE_call (f := 28) hL hr (takes_of rfl rfl rfl rfl) rfl rfl rfl rfl Tx.m28 Tx.k28 Tx.b28 .nil (fun _ _ => .nil) (pA_cons (pE_ix (pB (pE_var (i := 2) rfl (by first | exact Or.inl rfl | exact Or.inr (Or.inl rfl) | exact Or.inr (Or.inr rfl)))) (pB pE_int) (fun _ _ => rfl)) pA_nil))))))
      (qs_cons (q_ite (pT_cm hL hr .gt (pB (pE_biB hL hr rfl .len rfl rfl Tx.n_len (by decide +kernel) (pB (pE_ix (pB (pE_var (i := 2) rfl (by first | exact Or.inl rfl | exact Or.inr (Or.inl rfl) | exact Or.inr (Or.inr rfl)))) (pB pE_int) (fun _ _ => rfl))))) (pB pE_int) (nomark _))
      (qs_cons (q_setO (ps_set (i := 1) sc_Lblock_words.nd rfl (by first | exact Or.inl rfl | exact Or.inr rfl) (pF_cat (pB (pE_op hL hr .add (pB_var (i := 1) rfl (by first | exact Or.inl rfl | exact Or.inr (Or.inl rfl) | exact Or.inr (Or.inr rfl))) (pB (pE_lst (pA_cons pE_str pA_nil))))) (pB (pE_call (f := 28) hL hr (takes_of rfl rfl rfl rfl) rfl rfl rfl rfl Tx.m28 Tx.k28 Tx.b28 .nil (fun _ _ => .nil) (pA_cons (pE_ix (pB (pE_var (i := 2) rfl (by first | exact Or.inl rfl | exact Or.inr (Or.inl rfl) | exact Or.inr (Or.inr rfl)))) (pB pE_int) (fun _ _ => rfl)) pA_nil)))))) qs_nil)
      qs_nil)
      (qs_cons (q_app (i := 1) rfl (by first | exact Or.inl rfl | exact Or.inr (Or.inl rfl) | exact Or.inr (Or.inr rfl)) pE_str (hp := fun h1 h2 => ps_expr (pe_bm PySem.F.plainAttrs_list PySem.F.slot_list_append PySem.F.type_list_append mt_append h1 h2))) qs_nil)))
      (qs_cons (q_ite (pT_cm hL hr .eq (pB (pE_ix (pB (pE_var (i := 2) rfl (by first | exact Or.inl rfl | exact Or.inr (Or.inl rfl) | exact Or.inr (Or.inr rfl)))) (pB pE_int) (fun _ _ => rfl))) (pB pE_str) (nomark _))
      (qs_cons (q_setO (ps_set (i := 1) sc_Lblock_words.nd rfl (by first | exact Or.inl rfl | exact Or.inr rfl) (pF_cat (pB_var (i := 1) rfl (by first | exact Or.inl rfl | exact Or.inr (Or.inl rfl) | exact Or.inr (Or.inr rfl))) (pB (pE_lst (pA_cons pE_str (pA_cons (pE_ix (pB (pE_var (i := 2) rfl (by first | exact Or.inl rfl | exact Or.inr (Or.inl rfl) | exact Or.inr (Or.inr rfl)))) (pB pE_int) (fun _ _ => rfl)) (pA_cons (pE_biT hL hr rfl .str rfl rfl Tx.n_str (by decide +kernel) (pB (pE_ix (pB (pE_var (i := 2) rfl (by first | exact Or.inl rfl | exact Or.inr (Or.inl rfl) | exact Or.inr (Or.inr rfl)))) (pB pE_int) (fun _ _ => rfl)))) pA_nil)))))))) qs_nil)
      (qs_cons (q_setO (ps_set (i := 1) sc_Lblock_words.nd rfl (by first | exact Or.inl rfl | exact Or.inr rfl) (pF_cat (pB (pE_op hL hr .add (pB_var (i := 1) rfl (by first | exact Or.inl rfl | exact Or.inr (Or.inl rfl) | exact Or.inr (Or.inr rfl))) (pB (pE_biT hL hr rfl .list rfl rfl Tx.n_list (by decide +kernel) (pB (pE_sl (pB (pE_var (i := 2) rfl (by first | exact Or.inl rfl | exact Or.inr (Or.inl rfl) | exact Or.inr (Or.inr rfl)))) pO_none (pO_some (pB (pE_neg pE_int))))))))) (pB (pE_call (f := 27) hL hr (takes_of rfl rfl rfl rfl) rfl rfl rfl rfl Tx.m27 Tx.k27 Tx.b27 .nil (fun _ _ => .nil) (pA_cons (pE_ix (pB (pE_var (i := 2) rfl (by first | exact Or.inl rfl | exact Or.inr (Or.inl rfl) | exact Or.inr (Or.inr rfl)))) (pB (pE_neg pE_int)) (fun _ _ => rfl)) pA_nil)))))) qs_nil)) qs_nil)) qs_nil))
      (qs_fz (i := 1) (qs_cons (q_ret (pE_var (i := 1) rfl (by first | exact Or.inl rfl | exact Or.inr (Or.inl rfl) | exact Or.inr (Or.inr rfl)))) qs_nil))))
theorem sc_Lwords : FnScope ["_law_watcher_here", "_law_words_here", "_law_name", "_law_size"] ["_law_watcher_here"] (defScope s_Lwords) := ⟨rfl, rfl, rfl, by decide +kernel, rfl, by decide +kernel, by decide +kernel⟩
theorem b_Lwords (hL : Lnk P w K mg base (lk ca) prog fi n) (Tx : Txt K mg ca fi) {wf : Nat} {cdv : Value} {A : Around} {outer : List Env} {s : Shared} {H : Hp} {E : XK} (hr : Room (2 * n + 1) (A.deeper (envOfC "_law_words" (defScope s_Lwords) s.heap.objs.size (fi 29).addr cdv))) :
    QSs (cxF P w K mg base ["_law_watcher_here", "_law_words_here", "_law_name", "_law_size"] "_law_words" s_Lwords (fi 29).addr cdv A outer s H E) (lk ca) (tab prog wf n) (fun cls d _ H => E cls d H) (defBody s_Lwords) B_Lwords :=
  (qs_cons (q_set (ps_set (i := 1) sc_Lwords.nd rfl (by first | exact Or.inl rfl | exact Or.inr rfl) (pE_lst (pA_cons pE_str (pA_cons (pE_biT hL hr rfl .str rfl rfl Tx.n_str (by decide +kernel) (pB (pE_ix (pB (pE_var (i := 0) rfl (by first | exact Or.inl rfl | exact Or.inr (Or.inl rfl) | exact Or.inr (Or.inr rfl)))) (pB pE_int) (fun _ _ => rfl)))) pA_nil)))))
      (qs_cons (q_fo (passes_of rfl) rfl (pI_e (pE_ix (pB (pE_var (i := 0) rfl (by first | exact Or.inl rfl | exact Or.inr (Or.inl rfl) | exact Or.inr (Or.inr rfl)))) (pB pE_int) (fun _ _ => rfl))) (pg_tup rfl (pgs_cons (pg_name (i := 2) sc_Lwords.nd rfl (by first | exact Or.inl rfl | exact Or.inr rfl)) (pgs_cons (pg_name (i := 3) sc_Lwords.nd rfl (by first | exact Or.inl rfl | exact Or.inr rfl)) pgs_nil))) (tgS_many (tgsS_cons (tgsS_cons tgsS_nil)))
      (qs_cons (q_set (ps_set (i := 1) sc_Lwords.nd rfl (by first | exact Or.inl rfl | exact Or.inr rfl) (pE_op hL hr .add (pB (pE_var (i := 1) rfl (by first | exact Or.inl rfl | exact Or.inr (Or.inl rfl) | exact Or.inr (Or.inr rfl)))) (pB (pE_lst (pA_cons pE_str (pA_cons (pE_var (i := 2) rfl (by first | exact Or.inl rfl | exact Or.inr (Or.inl rfl) | exact Or.inr (Or.inr rfl))) (pA_cons (pE_biT hL hr rfl .str rfl rfl Tx.n_str (by decide +kernel) (pB (pE_var (i := 3) rfl (by first | exact Or.inl rfl | exact Or.inr (Or.inl rfl) | exact Or.inr (Or.inr rfl))))) pA_nil)))))))) qs_nil))
      (qs_cons (q_ret (pE_op hL hr .add (pB (pE_var (i := 1) rfl (by first | exact Or.inl rfl | exact Or.inr (Or.inl rfl) | exact Or.inr (Or.inr rfl)))) (pB (pE_call (f := 28) hL hr (takes_of rfl rfl rfl rfl) rfl rfl rfl rfl Tx.m28 Tx.k28 Tx.b28 .nil (fun _ _ => .nil) (pA_cons (pE_ix (pB (pE_var (i := 0) rfl (by first | exact Or.inl rfl | exact Or.inr (Or.inl rfl) | exact Or.inr (Or.inr rfl)))) (pB pE_int) (fun _ _ => rfl)) pA_nil))))) qs_nil)))
theorem sc_law : FnScope ["_law_script", "_law_pool_here", "_law_data", "_law_text", "_law_actual", "_law_made", "_law_lists", "_law_kept", "_law_other", "_law_unlike"] ["_law_script"] (defScope s_law) := ⟨rfl, rfl, rfl, by decide +kernel, rfl, by decide +kernel, by decide +kernel⟩
theorem b_law (hL : Lnk P w K mg base (lk ca) prog fi n) (Tx : Txt K mg ca fi) {wf : Nat} {cdv : Value} {A : Around} {outer : List Env} {s : Shared} {H : Hp} {E : XK} (hr : Room (2 * n + 1) (A.deeper (envOfC "law" (defScope s_law) s.heap.objs.size (fi 30).addr cdv))) :
    QSs (cxF P w K mg base ["_law_script", "_law_pool_here", "_law_data", "_law_text", "_law_actual", "_law_made", "_law_lists", "_law_kept", "_law_other", "_law_unlike"] "law" s_law (fi 30).addr cdv A outer s H E) (lk ca) (tab prog wf n) (fun cls d _ H => E cls d H) (defBody s_law) B_law :=
  (qs_cons (q_setA (ps_set (i := 1) sc_law.nd rfl (by first | exact Or.inl rfl | exact Or.inr rfl) (pF_call (f := 17) hL hr (takes_of rfl rfl rfl rfl) rfl rfl rfl rfl Tx.m17 Tx.k17 Tx.b17 .nil (fun _ _ => .nil) (pA_cons (pE_var (i := 0) rfl (by first | exact Or.inl rfl | exact Or.inr (Or.inl rfl) | exact Or.inr (Or.inr rfl))) (pA_cons pE_int pA_nil)))))
      (qs_cons (q_set (ps_set (i := 2) sc_law.nd rfl (by first | exact Or.inl rfl | exact Or.inr rfl) (pE_call (f := 26) hL hr (takes_of rfl rfl rfl rfl) rfl rfl rfl rfl Tx.m26 Tx.k26 Tx.b26 .nil (fun _ _ => .nil) (pA_cons (pE_var (i := 1) rfl (by first | exact Or.inl rfl | exact Or.inr (Or.inl rfl) | exact Or.inr (Or.inr rfl))) (pA_cons pE_int (pA_cons pE_int pA_nil))))))
      (qs_cons (q_set (ps_set (i := 3) sc_law.nd rfl (by first | exact Or.inl rfl | exact Or.inr rfl) (pE_mb .join PySem.F.slot_str_join PySem.F.type_str_join (pB pE_str) (pB (pE_call (f := 29) hL hr (takes_of rfl rfl rfl rfl) rfl rfl rfl rfl Tx.m29 Tx.k29 Tx.b29 .nil (fun _ _ => .nil) (pA_cons (pE_var (i := 2) rfl (by first | exact Or.inl rfl | exact Or.inr (Or.inl rfl) | exact Or.inr (Or.inr rfl))) pA_nil))))))
      (qs_cons (q_set (ps_set (i := 4) sc_law.nd rfl (by first | exact Or.inl rfl | exact Or.inr rfl) (pE_call (f := 13) hL hr (takes_of rfl rfl rfl rfl) rfl rfl rfl rfl Tx.m13 Tx.k13 Tx.b13 .nil (fun _ _ => .nil) (pA_cons (pE_var (i := 3) rfl (by first | exact Or.inl rfl | exact Or.inr (Or.inl rfl) | exact Or.inr (Or.inr rfl))) pA_nil))))
      (qs_cons (q_set (ps_set (i := 5) sc_law.nd rfl (by first | exact Or.inl rfl | exact Or.inr rfl) (pE_mk (f := 2) hL hr (takes_of rfl rfl rfl rfl) rfl rfl Tx.mk0 rfl Tx.mc0 Tx.b2 .nil (fun _ _ => .nil) (pA_cons (pE_ix (pB (pE_var (i := 2) rfl (by first | exact Or.inl rfl | exact Or.inr (Or.inl rfl) | exact Or.inr (Or.inr rfl)))) (pB pE_int) (fun _ _ => rfl)) (pA_cons (pE_biT hL hr rfl .list rfl rfl Tx.n_list (by decide +kernel) (pB (pE_ix (pB (pE_var (i := 2) rfl (by first | exact Or.inl rfl | exact Or.inr (Or.inl rfl) | exact Or.inr (Or.inr rfl)))) (pB pE_int) (fun _ _ => rfl)))) (pA_cons (pE_biT hL hr rfl .list rfl rfl Tx.n_list (by decide +kernel) (pB (pE_ix (pB (pE_var (i := 2) rfl (by first | exact Or.inl rfl | exact Or.inr (Or.inl rfl) | exact Or.inr (Or.inr rfl)))) (pB pE_int) (fun _ _ => rfl)))) pA_nil))))))
      (qs_cons (q_ite (pT_no (pT_tru (pB (pE_call (f := 21) hL hr (takes_of rfl rfl rfl rfl) rfl rfl rfl rfl Tx.m21 Tx.k21 Tx.b21 .nil (fun _ _ => .nil) (pA_cons (pE_lst (pA_cons (pE_fld (pE_var (i := 4) rfl (by first | exact Or.inl rfl | exact Or.inr (Or.inl rfl) | exact Or.inr (Or.inr rfl))) Tx.cl0 Tx.na0_0 rfl rfl) (pA_cons (pE_fld (pE_var (i := 4) rfl (by first | exact Or.inl rfl | exact Or.inr (Or.inl rfl) | exact Or.inr (Or.inr rfl))) Tx.cl0 Tx.na0_1 rfl rfl) (pA_cons (pE_fld (pE_var (i := 4) rfl (by first | exact Or.inl rfl | exact Or.inr (Or.inl rfl) | exact Or.inr (Or.inr rfl))) Tx.cl0 Tx.na0_2 rfl rfl) pA_nil)))) (pA_cons (pE_biT hL hr rfl .list rfl rfl Tx.n_list (by decide +kernel) (pB (pE_var (i := 2) rfl (by first | exact Or.inl rfl | exact Or.inr (Or.inl rfl) | exact Or.inr (Or.inr rfl))))) pA_nil)))) (fun _ => rfl)))
      (qs_cons (q_ret pE_bl) qs_nil)
      qs_nil)
      (qs_cons (q_ite (L2.PW.pt (pW_or (pT_no (pT_tru (pB (pE_call (f := 21) hL hr (takes_of rfl rfl rfl rfl) rfl rfl rfl rfl Tx.m21 Tx.k21 Tx.b21 .nil (fun _ _ => .nil) (pA_cons (pE_lst (pA_cons (pE_call (f := 16) hL hr (takes_of rfl rfl rfl rfl) rfl rfl rfl rfl Tx.m16 Tx.k16 Tx.b16 .nil (fun _ _ => .nil) (pA_cons (pE_var (i := 4) rfl (by first | exact Or.inl rfl | exact Or.inr (Or.inl rfl) | exact Or.inr (Or.inr rfl))) pA_nil)) (pA_cons (pE_call (f := 16) hL hr (takes_of rfl rfl rfl rfl) rfl rfl rfl rfl Tx.m16 Tx.k16 Tx.b16 .nil (fun _ _ => .nil) (pA_cons (pE_var (i := 5) rfl (by first | exact Or.inl rfl | exact Or.inr (Or.inl rfl) | exact Or.inr (Or.inr rfl))) pA_nil)) pA_nil))) (pA_cons (pE_lst (pA_cons (pE_var (i := 3) rfl (by first | exact Or.inl rfl | exact Or.inr (Or.inl rfl) | exact Or.inr (Or.inr rfl))) (pA_cons (pE_var (i := 3) rfl (by first | exact Or.inl rfl | exact Or.inr (Or.inl rfl) | exact Or.inr (Or.inr rfl))) pA_nil))) pA_nil)))) (fun _ => rfl))) (pW_or1 (pT_no (pT_tru (pB (pE_call (f := 21) hL hr (takes_of rfl rfl rfl rfl) rfl rfl rfl rfl Tx.m21 Tx.k21 Tx.b21 .nil (fun _ _ => .nil) (pA_cons (pE_lst (pA_cons (pE_cm hL hr .eq (pB (pE_var (i := 4) rfl (by first | exact Or.inl rfl | exact Or.inr (Or.inl rfl) | exact Or.inr (Or.inr rfl)))) (pB (pE_var (i := 5) rfl (by first | exact Or.inl rfl | exact Or.inr (Or.inl rfl) | exact Or.inr (Or.inr rfl)))) (nomark _)) (pA_cons (pE_cm hL hr .eq (pB (pE_var (i := 5) rfl (by first | exact Or.inl rfl | exact Or.inr (Or.inl rfl) | exact Or.inr (Or.inr rfl)))) (pB (pE_var (i := 4) rfl (by first | exact Or.inl rfl | exact Or.inr (Or.inl rfl) | exact Or.inr (Or.inr rfl)))) (nomark _)) pA_nil))) (pA_cons (pE_lst (pA_cons pE_bl (pA_cons pE_bl pA_nil))) pA_nil)))) (fun _ => rfl))))))
      (qs_cons (q_ret pE_bl) qs_nil)
      qs_nil)
      (qs_cons (q_set (ps_set (i := 6) sc_law.nd rfl (by first | exact Or.inl rfl | exact Or.inr rfl) (pE_lst (pA_cons (pE_nl (pF_list rfl Tx.n_list (by decide +kernel) (pB (pE_ix (pB (pE_var (i := 2) rfl (by first | exact Or.inl rfl | exact Or.inr (Or.inl rfl) | exact Or.inr (Or.inr rfl)))) (pB pE_int) (fun _ _ => rfl))))) (pA_cons (pE_nl (pF_list rfl Tx.n_list (by decide +kernel) (pB (pE_ix (pB (pE_var (i := 2) rfl (by first | exact Or.inl rfl | exact Or.inr (Or.inl rfl) | exact Or.inr (Or.inr rfl)))) (pB pE_int) (fun _ _ => rfl))))) pA_nil)))))
      (qs_cons (q_set (ps_set (i := 7) sc_law.nd rfl (by first | exact Or.inl rfl | exact Or.inr rfl) (pE_mk (f := 2) hL hr (takes_of rfl rfl rfl rfl) rfl rfl Tx.mk0 rfl Tx.mc0 Tx.b2 .nil (fun _ _ => .nil) (pA_cons (pE_ix (pB (pE_var (i := 2) rfl (by first | exact Or.inl rfl | exact Or.inr (Or.inl rfl) | exact Or.inr (Or.inr rfl)))) (pB pE_int) (fun _ _ => rfl)) (pA_cons (pE_ix (pB (pE_var (i := 6) rfl (by first | exact Or.inl rfl | exact Or.inr (Or.inl rfl) | exact Or.inr (Or.inr rfl)))) (pB pE_int) (fun _ _ => rfl)) (pA_cons (pE_ix (pB (pE_var (i := 6) rfl (by first | exact Or.inl rfl | exact Or.inr (Or.inl rfl) | exact Or.inr (Or.inr rfl)))) (pB pE_int) (fun _ _ => rfl)) pA_nil))))))
      (qs_cons (q_appE (pE_ix (pB (pE_var (i := 6) rfl (by first | exact Or.inl rfl | exact Or.inr (Or.inl rfl) | exact Or.inr (Or.inr rfl)))) (pB pE_int) (fun _ _ => rfl)) (pE_tup (pA_cons pE_str (pA_cons pE_int pA_nil))) (fun h1 h2 => ps_expr (pe_bm PySem.F.plainAttrs_list PySem.F.slot_list_append PySem.F.type_list_append mt_append h1 h2)))
      (qs_cons (q_appE (pE_ix (pB (pE_var (i := 6) rfl (by first | exact Or.inl rfl | exact Or.inr (Or.inl rfl) | exact Or.inr (Or.inr rfl)))) (pB pE_int) (fun _ _ => rfl)) (pE_tup (pA_cons pE_str (pA_cons (pE_tup (pA_cons pE_str (pA_cons pE_int pA_nil))) pA_nil))) (fun h1 h2 => ps_expr (pe_bm PySem.F.plainAttrs_list PySem.F.slot_list_append PySem.F.type_list_append mt_append h1 h2)))
      (qs_cons (q_ite (pT_no (pT_tru (pB (pE_call (f := 21) hL hr (takes_of rfl rfl rfl rfl) rfl rfl rfl rfl Tx.m21 Tx.k21 Tx.b21 .nil (fun _ _ => .nil) (pA_cons (pE_lst (pA_cons (pE_fld (pE_var (i := 7) rfl (by first | exact Or.inl rfl | exact Or.inr (Or.inl rfl) | exact Or.inr (Or.inr rfl))) Tx.cl0 Tx.na0_1 rfl rfl) (pA_cons (pE_fld (pE_var (i := 7) rfl (by first | exact Or.inl rfl | exact Or.inr (Or.inl rfl) | exact Or.inr (Or.inr rfl))) Tx.cl0 Tx.na0_2 rfl rfl) pA_nil))) (pA_cons (pE_biT hL hr rfl .list rfl rfl Tx.n_list (by decide +kernel) (pB (pE_sl (pB (pE_var (i := 2) rfl (by first | exact Or.inl rfl | exact Or.inr (Or.inl rfl) | exact Or.inr (Or.inr rfl)))) (pO_some (pB pE_int)) pO_none))) pA_nil)))) (fun _ => rfl)))
      (qs_cons (q_ret pE_bl) qs_nil)
      qs_nil)
      (qs_cons (q_set (ps_set (i := 8) sc_law.nd rfl (by first | exact Or.inl rfl | exact Or.inr rfl) (pE_call (f := 26) hL hr (takes_of rfl rfl rfl rfl) rfl rfl rfl rfl Tx.m26 Tx.k26 Tx.b26 .nil (fun _ _ => .nil) (pA_cons (pE_var (i := 1) rfl (by first | exact Or.inl rfl | exact Or.inr (Or.inl rfl) | exact Or.inr (Or.inr rfl))) (pA_cons pE_int (pA_cons pE_int pA_nil))))))
      (qs_cons (q_ite (pT_no (pT_tru (pB (pE_call (f := 21) hL hr (takes_of rfl rfl rfl rfl) rfl rfl rfl rfl Tx.m21 Tx.k21 Tx.b21 .nil (fun _ _ => .nil) (pA_cons (pE_cm hL hr .eq (pB (pE_mk (f := 2) hL hr (takes_of rfl rfl rfl rfl) rfl rfl Tx.mk0 rfl Tx.mc0 Tx.b2 .nil (fun _ _ => .nil) (pA_cons (pE_ix (pB (pE_var (i := 8) rfl (by first | exact Or.inl rfl | exact Or.inr (Or.inl rfl) | exact Or.inr (Or.inr rfl)))) (pB pE_int) (fun _ _ => rfl)) (pA_cons (pE_ix (pB (pE_var (i := 8) rfl (by first | exact Or.inl rfl | exact Or.inr (Or.inl rfl) | exact Or.inr (Or.inr rfl)))) (pB pE_int) (fun _ _ => rfl)) (pA_cons (pE_ix (pB (pE_var (i := 8) rfl (by first | exact Or.inl rfl | exact Or.inr (Or.inl rfl) | exact Or.inr (Or.inr rfl)))) (pB pE_int) (fun _ _ => rfl)) pA_nil))))) (pB (pE_var (i := 4) rfl (by first | exact Or.inl rfl | exact Or.inr (Or.inl rfl) | exact Or.inr (Or.inr rfl)))) (nomark _)) (pA_cons (pE_cm hL hr .eq (pB (pE_var (i := 8) rfl (by first | exact Or.inl rfl | exact Or.inr (Or.inl rfl) | exact Or.inr (Or.inr rfl)))) (pB (pE_var (i := 2) rfl (by first | exact Or.inl rfl | exact Or.inr (Or.inl rfl) | exact Or.inr (Or.inr rfl)))) (nomark _)) pA_nil)))) (fun _ => rfl)))
      (qs_cons (q_ret pE_bl) qs_nil)
      qs_nil)
      (qs_cons (q_setO (ps_set (i := 9) sc_law.nd rfl (by first | exact Or.inl rfl | exact Or.inr rfl) (pF_lst (pA_cons (pE_mk (f := 2) hL hr (takes_of rfl rfl rfl rfl) rfl rfl Tx.mk0 rfl Tx.mc0 Tx.b2 .nil (fun _ _ => .nil) (pA_cons (pE_op hL hr .add (pB (pE_op hL hr .mod (pB (pE_ix (pB (pE_var (i := 2) rfl (by first | exact Or.inl rfl | exact Or.inr (Or.inl rfl) | exact Or.inr (Or.inr rfl)))) (pB pE_int) (fun _ _ => rfl))) (pB pE_int))) (pB pE_int)) (pA_cons (pE_ix (pB (pE_var (i := 2) rfl (by first | exact Or.inl rfl | exact Or.inr (Or.inl rfl) | exact Or.inr (Or.inr rfl)))) (pB pE_int) (fun _ _ => rfl)) (pA_cons (pE_ix (pB (pE_var (i := 2) rfl (by first | exact Or.inl rfl | exact Or.inr (Or.inl rfl) | exact Or.inr (Or.inr rfl)))) (pB pE_int) (fun _ _ => rfl)) pA_nil)))) pA_nil))))
      (qs_cons (q_ite (pT_cm hL hr .gt (pB (pE_biB hL hr rfl .len rfl rfl Tx.n_len (by decide +kernel) (pB (pE_ix (pB (pE_var (i := 2) rfl (by first | exact Or.inl rfl | exact Or.inr (Or.inl rfl) | exact Or.inr (Or.inr rfl)))) (pB pE_int) (fun _ _ => rfl))))) (pB pE_int) (nomark _))
      (qs_cons (q_app (i := 9) rfl (by first | exact Or.inl rfl | exact Or.inr (Or.inl rfl) | exact Or.inr (Or.inr rfl)) (pE_mk (f := 2) hL hr (takes_of rfl rfl rfl rfl) rfl rfl Tx.mk0 rfl Tx.mc0 Tx.b2 .nil (fun _ _ => .nil) (pA_cons (pE_ix (pB (pE_var (i := 2) rfl (by first | exact Or.inl rfl | exact Or.inr (Or.inl rfl) | exact Or.inr (Or.inr rfl)))) (pB pE_int) (fun _ _ => rfl)) (pA_cons (pE_op hL hr .add (pB (pE_sl (pB (pE_ix (pB (pE_var (i := 2) rfl (by first | exact Or.inl rfl | exact Or.inr (Or.inl rfl) | exact Or.inr (Or.inr rfl)))) (pB pE_int) (fun _ _ => rfl))) pO_none (pO_some (pB (pE_neg pE_int))))) (pB (pE_tup (pA_cons (pE_tup (pA_cons (pE_ix (pB (pE_ix (pB (pE_ix (pB (pE_var (i := 2) rfl (by first | exact Or.inl rfl | exact Or.inr (Or.inl rfl) | exact Or.inr (Or.inr rfl)))) (pB pE_int) (fun _ _ => rfl))) (pB (pE_neg pE_int)) (fun _ _ => rfl))) (pB pE_int) (fun _ _ => rfl)) (pA_cons (pE_op hL hr .add (pB (pE_op hL hr .mod (pB (pE_ix (pB (pE_ix (pB (pE_ix (pB (pE_var (i := 2) rfl (by first | exact Or.inl rfl | exact Or.inr (Or.inl rfl) | exact Or.inr (Or.inr rfl)))) (pB pE_int) (fun _ _ => rfl))) (pB (pE_neg pE_int)) (fun _ _ => rfl))) (pB pE_int) (fun _ _ => rfl))) (pB pE_int))) (pB pE_int)) pA_nil))) pA_nil)))) (pA_cons (pE_ix (pB (pE_var (i := 2) rfl (by first | exact Or.inl rfl | exact Or.inr (Or.inl rfl) | exact Or.inr (Or.inr rfl)))) (pB pE_int) (fun _ _ => rfl)) pA_nil)))) (hp := fun h1 h2 => ps_expr (pe_bm PySem.F.plainAttrs_list PySem.F.slot_list_append PySem.F.type_list_append mt_append h1 h2)))
      (qs_cons (q_setO (ps_set (i := 9) sc_law.nd rfl (by first | exact Or.inl rfl | exact Or.inr rfl) (pF_cat (pB (pE_sl (pB_var (i := 9) rfl (by first | exact Or.inl rfl | exact Or.inr (Or.inl rfl) | exact Or.inr (Or.inr rfl))) pO_none (pO_some (pB pE_int)))) (pB (pE_comp (t := (.one 8)) (own := [("_law_other", 8)]) rfl sc_law.nd (pI_b (pB (pE_sl (pB_var (i := 9) rfl (by first | exact Or.inl rfl | exact Or.inr (Or.inl rfl) | exact Or.inr (Or.inr rfl))) (pO_some (pB pE_int)) pO_none))) (blkOk_by (N := ["_law_script", "_law_pool_here", "_law_data", "_law_text", "_law_actual", "_law_made", "_law_lists", "_law_kept", "_law_other", "_law_unlike"]) (sc := defScope s_law) (own := [("_law_other", 8)]) (by decide +kernel)) rfl tg_one (fun _ _ _ h => h) (fun _ _ _ _ _ => (pg_name (i := 8) sc_law.nd rfl (by first | exact Or.inl rfl | exact Or.inr rfl))) (fun _ _ _ _ _ => pts_one (pT_cm hL hr .ne (pB (pE_fld (pE_var (i := 8) rfl (by first | exact Or.inl rfl | exact Or.inr (Or.inl rfl) | exact Or.inr (Or.inr rfl))) Tx.cl0 Tx.na0_1 rfl rfl)) (pB (pE_ix (pB (pE_var (i := 2) rfl (by first | exact Or.inl rfl | exact Or.inr (Or.inl rfl) | exact Or.inr (Or.inr rfl)))) (pB pE_int) (fun _ _ => rfl))) (nomark _))) (fun _ _ _ _ _ => (pE_var (i := 8) rfl (by first | exact Or.inl rfl | exact Or.inr (Or.inl rfl) | exact Or.inr (Or.inr rfl))))))))) qs_nil))
      qs_nil)
      (qs_cons (q_app (i := 9) rfl (by first | exact Or.inl rfl | exact Or.inr (Or.inl rfl) | exact Or.inr (Or.inr rfl)) (pE_mk (f := 2) hL hr (takes_of rfl rfl rfl rfl) rfl rfl Tx.mk0 rfl Tx.mc0 Tx.b2 .nil (fun _ _ => .nil) (pA_cons (pE_ix (pB (pE_var (i := 2) rfl (by first | exact Or.inl rfl | exact Or.inr (Or.inl rfl) | exact Or.inr (Or.inr rfl)))) (pB pE_int) (fun _ _ => rfl)) (pA_cons (pE_ix (pB (pE_var (i := 2) rfl (by first | exact Or.inl rfl | exact Or.inr (Or.inl rfl) | exact Or.inr (Or.inr rfl)))) (pB pE_int) (fun _ _ => rfl)) (pA_cons (pE_op hL hr .add (pB (pE_ix (pB (pE_var (i := 2) rfl (by first | exact Or.inl rfl | exact Or.inr (Or.inl rfl) | exact Or.inr (Or.inr rfl)))) (pB pE_int) (fun _ _ => rfl))) (pB (pE_tup (pA_cons (pE_tup (pA_cons pE_str (pA_cons (pE_tup (pA_cons pE_str (pA_cons pE_int pA_nil))) pA_nil))) pA_nil)))) pA_nil)))) (hp := fun h1 h2 => ps_expr (pe_bm PySem.F.plainAttrs_list PySem.F.slot_list_append PySem.F.type_list_append mt_append h1 h2)))
      (qs_cons (q_ite (pT_no (pT_tru (pB (pE_call (f := 21) hL hr (takes_of rfl rfl rfl rfl) rfl rfl rfl rfl Tx.m21 Tx.k21 Tx.b21 .nil (fun _ _ => .nil) (pA_cons (pE_comp (t := (.one 8)) (own := [("_law_other", 8)]) rfl sc_law.nd (pI_b (pB_var (i := 9) rfl (by first | exact Or.inl rfl | exact Or.inr (Or.inl rfl) | exact Or.inr (Or.inr rfl)))) (blkOk_by (N := ["_law_script", "_law_pool_here", "_law_data", "_law_text", "_law_actual", "_law_made", "_law_lists", "_law_kept", "_law_other", "_law_unlike"]) (sc := defScope s_law) (own := [("_law_other", 8)]) (by decide +kernel)) rfl tg_one tt_yes (fun _ _ _ _ _ => (pg_name (i := 8) sc_law.nd rfl (by first | exact Or.inl rfl | exact Or.inr rfl))) (fun _ _ _ _ _ => pts_nil) (fun _ _ _ _ _ => (pE_cm hL hr .eq (pB (pE_var (i := 4) rfl (by first | exact Or.inl rfl | exact Or.inr (Or.inl rfl) | exact Or.inr (Or.inr rfl)))) (pB (pE_var (i := 8) rfl (by first | exact Or.inl rfl | exact Or.inr (Or.inl rfl) | exact Or.inr (Or.inr rfl)))) (nomark _)))) (pA_cons (pE_op hL hr .mul (pB (pE_lst (pA_cons pE_bl pA_nil))) (pB (pE_biB hL hr rfl .len rfl rfl Tx.n_len (by decide +kernel) (pB_var (i := 9) rfl (by first | exact Or.inl rfl | exact Or.inr (Or.inl rfl) | exact Or.inr (Or.inr rfl)))))) pA_nil)))) (fun _ => rfl)))
      (qs_cons (q_ret pE_bl) qs_nil)
      qs_nil)
      (qs_cons (q_ret (pE_call (f := 21) hL hr (takes_of rfl rfl rfl rfl) rfl rfl rfl rfl Tx.m21 Tx.k21 Tx.b21 .nil (fun _ _ => .nil) (pA_cons (pE_comp (t := (.one 8)) (own := [("_law_other", 8)]) rfl sc_law.nd (pI_b (pB_var (i := 9) rfl (by first | exact Or.inl rfl | exact Or.inr (Or.inl rfl) | exact Or.inr (Or.inr rfl)))) (blkOk_by (N := ["_law_script", "_law_pool_here", "_law_data", "_law_text", "_law_actual", "_law_made", "_law_lists", "_law_kept", "_law_other", "_law_unlike"]) (sc := defScope s_law) (own := [("_law_other", 8)]) (by decide +kernel)) rfl tg_one tt_yes (fun _ _ _ _ _ => (pg_name (i := 8) sc_law.nd rfl (by first | exact Or.inl rfl | exact Or.inr rfl))) (fun _ _ _ _ _ => pts_nil) (fun _ _ _ _ _ => (pE_cm hL hr .eq (pB (pE_var (i := 8) rfl (by first | exact Or.inl rfl | exact Or.inr (Or.inl rfl) | exact Or.inr (Or.inr rfl)))) (pB (pE_var (i := 4) rfl (by first | exact Or.inl rfl | exact Or.inr (Or.inl rfl) | exact Or.inr (Or.inr rfl)))) (nomark _)))) (pA_cons (pE_op hL hr .mul (pB (pE_lst (pA_cons pE_bl pA_nil))) (pB (pE_biB hL hr rfl .len rfl rfl Tx.n_len (by decide +kernel) (pB_var (i := 9) rfl (by first | exact Or.inl rfl | exact Or.inr (Or.inl rfl) | exact Or.inr (Or.inr rfl)))))) pA_nil)))) qs_nil)))))))))))))))))))
theorem nf_ok (ca : Nat → Addr) (c : Nat) : prog.nf c = ((lk ca).fn c).length := by
  show p_nf c = (fnl c).length
  unfold p_nf fnl
  split <;> rfl
theorem opm_ok (Tx : Txt K mg ca fi) : ∀ c o f, prog.opm c o = some f → (∃ d, prog.defs f = some d ∧ d.cls = none ∧ d.np = 2) ∧ prog.fresh f = false ∧ PySem.W.selfFirst K ((lk ca).ca c) = true ∧
    PySem.W.findIn K (.ref ((lk ca).ca c)) (PySem.dunder o.py.info.2) = some (some (.ref (fi f).addr)) ∧ PySem.W.isFn K (.ref (fi f).addr) = true ∧ Binds K (fi f).fd (fi f).ps [] := fun c o f h => nomatch (show (none : Option Nat) = some f from h)
theorem eqm_ok (Tx : Txt K mg ca fi) : ∀ c f, prog.eqm c = some f → (∃ d, prog.defs f = some d ∧ d.cls = none ∧ d.np = 2) ∧ prog.fresh f = false ∧ PySem.W.notFirst K ((lk ca).ca c) (.ref ((lk ca).ca c)) = true ∧
    PySem.W.findIn K (.ref ((lk ca).ca c)) "__eq__" = some (some (.ref (fi f).addr)) ∧ PySem.W.isFn K (.ref (fi f).addr) = true ∧ Binds K (fi f).fd (fi f).ps [] := by
  intro c f h
  change p_eqm c = some f at h
  unfold p_eqm at h
  split at h
  · cases h
    exact ⟨⟨_, rfl, rfl, rfl⟩, rfl, Tx.nt0, Tx.a3, Tx.i3, Tx.b3⟩
  · cases h
theorem strm_ok (Tx : Txt K mg ca fi) : ∀ c f, prog.strm c = some f → (∃ d, prog.defs f = some d ∧ d.cls = none ∧ d.np = 1) ∧ prog.fresh f = false ∧
    PySem.W.findIn K (.ref ((lk ca).ca c)) "__str__" = some (some (.ref (fi f).addr)) ∧ PySem.W.isFn K (.ref (fi f).addr) = true ∧ Binds K (fi f).fd (fi f).ps [] := by
  intro c f h
  change p_strm c = some f at h
  unfold p_strm at h
  cases h
end
end K01

set_option Elab.async false
set_option linter.all false
set_option maxRecDepth 100000
set_option maxHeartbeats 400000
/-! PDM: how the small language is computed by rewriting; the pool; loops; comprehensions. -/
namespace PD
open PySem PySem.Spec PyProof.Rows L2
section
variable {T : Tb} {sl : Sl} {om om' : Om} {x y d : D} {ds es : List D} {i j : Nat} {m n : Int}
/-! ### expressions -/
@[simp] theorem r_v (h : sl[i]? = some (.val d)) : evE T (.v i) sl om = .ok d om := by rw [evE, h]
@[simp] theorem r_b (h : sl[i]? = some (.val d)) : evE T (.b i) sl om = .ok d om := by rw [evE, h]
@[simp] theorem r_bo (h : sl[i]? = some (.own ds)) : evE T (.b i) sl om = .ok (.lst ds) om := by rw [evE, h]
@[simp] theorem r_k : evE T (.k d) sl om = .ok d om := by rw [evE]
def kOp (T : Tb) (r : Rs D) (o : Bop) (b : E) (sl : Sl) : Rs D := r.bind fun x om => (evE T b sl om).bind fun y om => bop T o x y om
def kOp2 (T : Tb) (r : Rs D) (o : Bop) (x : D) : Rs D := r.bind fun y om => bop T o x y om
@[simp] theorem r_op {o : Bop} {a b : E} : evE T (.op o a b) sl om = kOp T (evE T a sl om) o b sl := by rw [evE]; rfl
@[simp] theorem r_op1 {o : Bop} {b : E} : kOp T (.ok x om) o b sl = kOp2 T (evE T b sl om) o x := rfl
@[simp] theorem r_op2 {o : Bop} : kOp2 T (.ok y om) o x = bop T o x y om := rfl
def kCat (T : Tb) (r : Rs D) (b : E) (sl : Sl) : Rs D := r.bind fun x om => (evE T b sl om).bind fun y om => catD x y om
def kCat2 (r : Rs D) (x : D) : Rs D := r.bind fun y om => catD x y om
@[simp] theorem r_cat {a b : E} : evE T (.cat a b) sl om = kCat T (evE T a sl om) b sl := by rw [evE]; rfl
@[simp] theorem r_cat1 {b : E} : kCat T (.ok x om) b sl = kCat2 (evE T b sl om) x := rfl
@[simp] theorem r_cat2 : kCat2 (.ok (.lst es) om) (.lst ds) = if ds.length + es.length ≤ 1000000 then .ok (.lst (ds ++ es)) om else .stuck := rfl
def kRp (T : Tb) (r : Rs D) (b : E) (sl : Sl) : Rs D := r.bind fun x om => (evE T b sl om).bind fun y om => repD x y om
def kRp2 (r : Rs D) (x : D) : Rs D := r.bind fun y om => repD x y om
@[simp] theorem r_rp {a b : E} : evE T (.rp a b) sl om = kRp T (evE T a sl om) b sl := by rw [evE]; rfl
@[simp] theorem r_rp1 {b : E} : kRp T (.ok x om) b sl = kRp2 (evE T b sl om) x := rfl
@[simp] theorem r_rp2 : kRp2 (.ok (.int n) om) (.lst ds) = if 0 ≤ n ∧ n ≤ 1000000 ∧ ds.length * n.toNat ≤ 1000000 then .ok (.lst (List.replicate n.toNat ds).flatten) om else .stuck := rfl
def kNeg (r : Rs D) : Rs D := r.bind fun x om => match x with | .int i => .ok (.int (-i)) om | _ => .stuck
@[simp] theorem r_neg {a : E} : evE T (.neg a) sl om = kNeg (evE T a sl om) := by rw [evE]; rfl
@[simp] theorem r_neg1 : kNeg (.ok (.int n) om) = .ok (.int (-n)) om := rfl
def kNo (r : Rs D) : Rs D := r.bind fun x om => (tru x om).bind fun b om => .ok (.bl (!b)) om
@[simp] theorem r_no {a : E} : evE T (.no a) sl om = kNo (evE T a sl om) := by rw [evE]; rfl
@[simp] theorem r_no1 {b : Bool} : kNo (.ok (.bl b) om) = .ok (.bl (!b)) om := rfl
@[simp] theorem r_no2 : kNo (.ok (.lst ds) om) = .ok (.bl ds.isEmpty) om := by show Rs.ok (D.bl (!(!ds.isEmpty))) om = _; rw [Bool.not_not]
@[simp] theorem r_no3 : kNo (.ok (.tup ds) om) = .ok (.bl ds.isEmpty) om := by show Rs.ok (D.bl (!(!ds.isEmpty))) om = _; rw [Bool.not_not]
@[simp] theorem r_no4 : kNo (.ok (.int n) om) = .ok (.bl (n == 0)) om := by show Rs.ok (D.bl (!(!(n == 0)))) om = _; rw [Bool.not_not]
def kAn (T : Tb) (r : Rs D) (b : E) (sl : Sl) : Rs D := r.bind fun x om => (tru x om).bind fun c om => if c = true then evE T b sl om else .ok x om
@[simp] theorem r_an {a b : E} : evE T (.an a b) sl om = kAn T (evE T a sl om) b sl := by rw [evE]; rfl
@[simp] theorem r_an1 {b : E} : kAn T (.ok (.bl true) om) b sl = evE T b sl om := rfl
@[simp] theorem r_an2 {b : E} : kAn T (.ok (.bl false) om) b sl = .ok (.bl false) om := rfl
def kOr (T : Tb) (r : Rs D) (b : E) (sl : Sl) : Rs D := r.bind fun x om => (tru x om).bind fun c om => if c = true then .ok x om else evE T b sl om
@[simp] theorem r_or {a b : E} : evE T (.or a b) sl om = kOr T (evE T a sl om) b sl := by rw [evE]; rfl
@[simp] theorem r_or1 {b : E} : kOr T (.ok (.bl true) om) b sl = .ok (.bl true) om := rfl
@[simp] theorem r_or2 {b : E} : kOr T (.ok (.bl false) om) b sl = evE T b sl om := rfl
def kIte (T : Tb) (r : Rs Bool) (a b : E) (sl : Sl) : Rs D := r.bind fun c om => if c = true then evE T a sl om else evE T b sl om
def kTr (r : Rs D) : Rs Bool := r.bind fun x om => tru x om
@[simp] theorem r_ite {c a b : E} : evE T (.ite c a b) sl om = kIte T (kTr (evE T c sl om)) a b sl := by
  rw [evE]
  cases evE T c sl om <;> rfl
@[simp] theorem r_ite1 {a b : E} : kIte T (.ok true om) a b sl = evE T a sl om := rfl
@[simp] theorem r_ite2 {a b : E} : kIte T (.ok false om) a b sl = evE T b sl om := rfl
@[simp] theorem r_tr1 {b : Bool} : kTr (.ok (.bl b) om) = .ok b om := rfl
@[simp] theorem r_tr2 : kTr (.ok (.lst ds) om) = .ok (!ds.isEmpty) om := rfl
@[simp] theorem r_tr3 : kTr (.ok (.tup ds) om) = .ok (!ds.isEmpty) om := rfl
@[simp] theorem r_tr4 : kTr (.ok (.int n) om) = .ok (n != 0) om := rfl
@[simp] theorem r_tr5 : kTr (.ok .non om) = .ok false om := rfl
def kCm (T : Tb) (r : Rs D) (o : Cop) (b : E) (sl : Sl) : Rs D := r.bind fun x om => (evE T b sl om).bind fun y om => (cmp T o x y om).bind fun c om => .ok (.bl c) om
def kCm2 (T : Tb) (r : Rs D) (o : Cop) (x : D) : Rs D := r.bind fun y om => (cmp T o x y om).bind fun c om => .ok (.bl c) om
def kBl (r : Rs Bool) : Rs D := r.bind fun c om => .ok (.bl c) om
@[simp] theorem r_cm {o : Cop} {a b : E} : evE T (.cm o a b) sl om = kCm T (evE T a sl om) o b sl := by rw [evE]; rfl
@[simp] theorem r_cm1 {o : Cop} {b : E} : kCm T (.ok x om) o b sl = kCm2 T (evE T b sl om) o x := rfl
@[simp] theorem r_cm2 {o : Cop} : kCm2 T (.ok y om) o x = kBl (cmp T o x y om) := rfl
@[simp] theorem r_bl {b : Bool} : kBl (.ok b om) = .ok (.bl b) om := rfl
def kCh (T : Tb) (r : Rs D) (o o' : Cop) (b c : E) (sl : Sl) : Rs D := r.bind fun x om => (evE T b sl om).bind fun y om => (cmp T o x y om).bind fun r om => if r = true then (evE T c sl om).bind fun z om => (cmp T o' y z om).bind fun r om => .ok (.bl r) om else .ok (.bl false) om
def kCh2 (T : Tb) (r : Rs D) (o o' : Cop) (x : D) (c : E) (sl : Sl) : Rs D := r.bind fun y om => (cmp T o x y om).bind fun r om => if r = true then (evE T c sl om).bind fun z om => (cmp T o' y z om).bind fun r om => .ok (.bl r) om else .ok (.bl false) om
def kCh3 (T : Tb) (r : Rs Bool) (o' : Cop) (y : D) (c : E) (sl : Sl) : Rs D := r.bind fun r om => if r = true then (evE T c sl om).bind fun z om => (cmp T o' y z om).bind fun r om => .ok (.bl r) om else .ok (.bl false) om
@[simp] theorem r_ch {o o' : Cop} {a b c : E} : evE T (.ch o o' a b c) sl om = kCh T (evE T a sl om) o o' b c sl := by rw [evE]; rfl
@[simp] theorem r_ch1 {o o' : Cop} {b c : E} : kCh T (.ok x om) o o' b c sl = kCh2 T (evE T b sl om) o o' x c sl := rfl
@[simp] theorem r_ch2 {o o' : Cop} {c : E} : kCh2 T (.ok y om) o o' x c sl = kCh3 T (cmp T o x y om) o' y c sl := rfl
@[simp] theorem r_ch3 {o' : Cop} {c : E} : kCh3 T (.ok true om) o' y c sl = kCm2 T (evE T c sl om) o' y := rfl
@[simp] theorem r_ch4 {o' : Cop} {c : E} : kCh3 T (.ok false om) o' y c sl = .ok (.bl false) om := rfl
def kCall (T : Tb) (r : Rs (List D)) (f : Nat) (dv : List D) : Rs D := r.bind fun xs om => T.call f (xs ++ dv) om
@[simp] theorem r_call {f : Nat} {dv : List D} {as : E} : evE T (.call f dv as) sl om = kCall T (evL T as sl om) f dv := by rw [evE]; rfl
@[simp] theorem r_call1 {f : Nat} {dv : List D} : kCall T (.ok ds om) f dv = T.call f (ds ++ dv) om := rfl
def kMk (T : Tb) (r : Rs (List D)) (c f : Nat) (dv : List D) : Rs D := r.bind fun xs om => (T.init f (xs ++ dv) om).bind fun fs om => if fs.length = T.nf c then .ok (.obj c fs) om else .stuck
def kMk2 (T : Tb) (r : Rs (List D)) (c : Nat) : Rs D := r.bind fun fs om => if fs.length = T.nf c then .ok (.obj c fs) om else .stuck
@[simp] theorem r_mk {c f : Nat} {dv : List D} {as : E} : evE T (.mk c f dv as) sl om = kMk T (evL T as sl om) c f dv := by rw [evE]; rfl
@[simp] theorem r_mk1 {c f : Nat} {dv : List D} : kMk T (.ok ds om) c f dv = kMk2 T (T.init f (ds ++ dv) om) c := rfl
@[simp] theorem r_mk2 {c : Nat} : kMk2 T (.ok ds om) c = if ds.length = T.nf c then .ok (.obj c ds) om else .stuck := rfl
def kMka (T : Tb) (r : Rs (List D)) (c f : Nat) (dv : List D) : Rs D := r.bind fun xs om => (T.call f (.amb om.length :: (xs ++ dv)) (om ++ [.ob c []])).bind fun r om' => match r with | .non => .ok (.amb om.length) om' | _ => .stuck
def kMka2 (r : Rs D) (k : Nat) : Rs D := r.bind fun r om' => match r with | .non => .ok (.amb k) om' | _ => .stuck
@[simp] theorem r_mka {c f : Nat} {dv : List D} {as : E} : evE T (.mka c f dv as) sl om = kMka T (evL T as sl om) c f dv := by rw [evE]; rfl
@[simp] theorem r_mka1 {c f : Nat} {dv : List D} : kMka T (.ok ds om) c f dv = kMka2 (T.call f (.amb om.length :: (ds ++ dv)) (om ++ [.ob c []])) om.length := rfl
@[simp] theorem r_mka2 {k : Nat} : kMka2 (.ok .non om) k = .ok (.amb k) om := rfl
def kMe (T : Tb) (r : Rs D) (c f : Nat) (dv : List D) (as : E) (sl : Sl) : Rs D := r.bind fun x om => if isC c x om = true then (evL T as sl om).bind fun xs om => T.call f (x :: (xs ++ dv)) om else .stuck
def kMe2 (T : Tb) (r : Rs (List D)) (f : Nat) (dv : List D) (x : D) : Rs D := r.bind fun xs om => T.call f (x :: (xs ++ dv)) om
@[simp] theorem r_meth {c f : Nat} {dv : List D} {o as : E} : evE T (.meth c f dv o as) sl om = kMe T (evE T o sl om) c f dv as sl := by rw [evE]; rfl
@[simp] theorem r_meth1 {c f : Nat} {dv : List D} {as : E} (h : isC c x om = true) : kMe T (.ok x om) c f dv as sl = kMe2 T (evL T as sl om) f dv x := by
  show (if isC c x om = true then _ else _) = _
  rw [if_pos h]
  rfl
@[simp] theorem r_meth2 {f : Nat} {dv : List D} : kMe2 T (.ok ds om) f dv x = T.call f (x :: (ds ++ dv)) om := rfl
@[simp] theorem r_isCo {c : Nat} : isC c (.obj c ds) om = true := by show (c == c) = true; exact beq_self_eq_true c
theorem r_isCa {c k : Nat} (h : om[k]? = some (.ob c ds)) : isC c (.amb k) om = true := by
  show (match om[k]? with | some (.ob c' _) => c' == c | _ => false) = true
  rw [h]
  exact beq_self_eq_true c
@[simp] theorem r_fs {c : Nat} (h : sl[(0 : Nat)]? = some (.newo c ds)) (h2 : ds[j]? = some d) : evE T (.fs c j) sl om = .ok d om := by
  rw [evE, h]
  simp only [if_true]
  rw [h2]
def kFld (r : Rs D) (c j : Nat) : Rs D := r.bind fun x om => fldD c j x om
@[simp] theorem r_fld {c : Nat} {a : E} : evE T (.fld c j a) sl om = kFld (evE T a sl om) c j := by rw [evE]; rfl
@[simp] theorem r_fldo {c : Nat} (h : ds[j]? = some d) : kFld (.ok (.obj c ds) om) c j = .ok d om := by
  show fldD c j (.obj c ds) om = _
  rw [fldD, if_pos rfl, h]
theorem r_flda {c k : Nat} (h0 : om[k]? = some (.ob c ds)) (h : ds[j]? = some d) : kFld (.ok (.amb k) om) c j = .ok d om := by
  show fldD c j (.amb k) om = _
  rw [fldD, h0]
  simp only [if_true]
  rw [h]
def kNl (r : Rs D) : Rs D := r.bind fun d om => match d with | .lst ds => .ok (.amb om.length) (om ++ [.pl ds]) | _ => .stuck
@[simp] theorem r_nl {a : E} : evE T (.nl a) sl om = kNl (evE T a sl om) := by rw [evE]; rfl
@[simp] theorem r_nl1 : kNl (.ok (.lst ds) om) = .ok (.amb om.length) (om ++ [.pl ds]) := rfl
def kDn (r : Rs (List D)) (ks : List L2.Key) : Rs D := r.bind fun xs om => if ks.length = xs.length then .ok (.amb om.length) (om ++ [.dc ks xs]) else .stuck
@[simp] theorem r_dnw {a : E} {ks : List L2.Key} : evE T (.dnw ks a) sl om = kDn (evL T a sl om) ks := by rw [evE]; rfl
@[simp] theorem r_dnw1 {ks : List L2.Key} : kDn (.ok ds om) ks = if ks.length = ds.length then .ok (.amb om.length) (om ++ [.dc ks ds]) else .stuck := rfl
def kDg (r : Rs D) (k : L2.Key) : Rs D := r.bind fun x om => match x with
    | .amb j => match om[j]? with
      | some (.dc ks ds) => match dgD ks ds k with | some d => .ok d om | none => .stuck
      | _ => .stuck
    | _ => .stuck
@[simp] theorem r_dg {a : E} {k : L2.Key} : evE T (.dg a k) sl om = kDg (evE T a sl om) k := by rw [evE]; rfl
theorem r_dg1 {k : L2.Key} {ks : List L2.Key} (h : om[j]? = some (.dc ks ds)) (h2 : dgD ks ds k = some d) : kDg (.ok (.amb j) om) k = .ok d om := by
  show (match om[j]? with
      | some (.dc ks ds) => match dgD ks ds k with | some d => Rs.ok d om | none => .stuck
      | _ => .stuck) = _
  rw [h]
  show (match dgD ks ds k with | some d => Rs.ok d om | none => .stuck) = _
  rw [h2]
def kBi (T : Tb) (r : Rs D) (b : Bi) : Rs D := r.bind fun x om => biD T b x om
@[simp] theorem r_bi {b : Bi} {a : E} : evE T (.bi b a) sl om = kBi T (evE T a sl om) b := by rw [evE]; rfl
@[simp] theorem r_bi1 {b : Bi} : kBi T (.ok x om) b = biD T b x om := rfl
def kMb (T : Tb) (r : Rs D) (m : Mb) (a : E) (sl : Sl) : Rs D := r.bind fun x om => match x with
    | .str s => (evE T a sl om).bind fun y om => mbf m s y om
    | _ => .stuck
def kMb2 (r : Rs D) (m : Mb) (s : Str) : Rs D := r.bind fun y om => mbf m s y om
@[simp] theorem r_mb {m : Mb} {o a : E} : evE T (.mb m o a) sl om = kMb T (evE T o sl om) m a sl := by rw [evE]; rfl
@[simp] theorem r_mb1 {m : Mb} {a : E} {s : Str} : kMb T (.ok (.str s) om) m a sl = kMb2 (evE T a sl om) m s := rfl
@[simp] theorem r_mb2 {m : Mb} {s : Str} : kMb2 (.ok x om) m s = mbf m s x om := rfl
def kIsi (r : Rs D) (ts : List Ty) : Rs D := r.bind fun x om => match isA ts x with | some b => .ok (.bl b) om | none => .stuck
@[simp] theorem r_isi {ts : List Ty} {a : E} : evE T (.isi ts a) sl om = kIsi (evE T a sl om) ts := by rw [evE]; rfl
@[simp] theorem r_isi1 {ts : List Ty} {b : Bool} (h : isA ts x = some b) : kIsi (.ok x om) ts = .ok (.bl b) om := by
  show (match isA ts x with | some b => Rs.ok (D.bl b) om | none => .stuck) = _
  rw [h]
def kIx (T : Tb) (r : Rs D) (b : E) (sl : Sl) : Rs D := r.bind fun x om => (evE T b sl om).bind fun y om => ixD x y om
def kIx2 (r : Rs D) (x : D) : Rs D := r.bind fun y om => ixD x y om
@[simp] theorem r_ix {a b : E} : evE T (.ix a b) sl om = kIx T (evE T a sl om) b sl := by rw [evE]; rfl
@[simp] theorem r_ix1 {b : E} : kIx T (.ok x om) b sl = kIx2 (evE T b sl om) x := rfl
@[simp] theorem r_ix2 : kIx2 (.ok y om) x = ixD x y om := rfl
def kSl (T : Tb) (r : Rs D) (lo hi : E) (sl : Sl) : Rs D := r.bind fun x om => (evO T lo sl om).bind fun l om => (evO T hi sl om).bind fun h om => slD x l h om
def kSl2 (T : Tb) (r : Rs (Option Int)) (x : D) (hi : E) (sl : Sl) : Rs D := r.bind fun l om => (evO T hi sl om).bind fun h om => slD x l h om
def kSl3 (r : Rs (Option Int)) (x : D) (l : Option Int) : Rs D := r.bind fun h om => slD x l h om
@[simp] theorem r_sl {a lo hi : E} : evE T (.sl a lo hi) sl om = kSl T (evE T a sl om) lo hi sl := by rw [evE]; rfl
@[simp] theorem r_sl1 {lo hi : E} : kSl T (.ok x om) lo hi sl = kSl2 T (evO T lo sl om) x hi sl := rfl
@[simp] theorem r_sl2 {hi : E} {l : Option Int} : kSl2 T (.ok l om) x hi sl = kSl3 (evO T hi sl om) x l := rfl
@[simp] theorem r_sl3 {l h : Option Int} : kSl3 (.ok h om) x l = slD x l h om := rfl
def kO (r : Rs D) : Rs (Option Int) := r.bind fun x om => match x with | .int i => .ok (some i) om | _ => .stuck
@[simp] theorem r_o0 : evO T .nop sl om = .ok none om := by rw [evO]
@[simp] theorem r_o1 {a : E} : evO T (.cons a .nil) sl om = kO (evE T a sl om) := by rw [evO]; rfl
@[simp] theorem r_o2 : kO (.ok (.int n) om) = .ok (some n) om := rfl
def kTup (r : Rs (List D)) : Rs D := r.bind fun xs om => if xs.length ≤ 1000000 then .ok (.tup xs) om else .stuck
def kLst (r : Rs (List D)) : Rs D := r.bind fun xs om => if xs.length ≤ 1000000 then .ok (.lst xs) om else .stuck
@[simp] theorem r_tup {as : E} : evE T (.tup as) sl om = kTup (evL T as sl om) := by rw [evE]; rfl
@[simp] theorem r_lst {as : E} : evE T (.lst as) sl om = kLst (evL T as sl om) := by rw [evE]; rfl
@[simp] theorem r_tup1 : kTup (.ok ds om) = if ds.length ≤ 1000000 then .ok (.tup ds) om else .stuck := rfl
@[simp] theorem r_lst1 : kLst (.ok ds om) = if ds.length ≤ 1000000 then .ok (.lst ds) om else .stuck := rfl
def kFs (r : Rs Str) : Rs D := r.bind fun s om => .ok (.str s) om
@[simp] theorem r_fstr {as : E} : evE T (.fstr as) sl om = kFs (evJ T as (⟨#[]⟩ : Str) sl om) := by rw [evE]; rfl
@[simp] theorem r_fstr1 {s : Str} : kFs (.ok s om) = .ok (.str s) om := rfl
/-- a comprehension's items -/
def cmpG (T : Tb) (cond elt : E) (tg : Tg) (sl : Sl) (ds : List D) (om : Om) : Rs (List D) := compGo (fun sl om => (evE T cond sl om).bind fun x om => tru x om) (evE T elt) tg sl ds om
def kCo (T : Tb) (r : Rs (List D)) (tg : Tg) (cond elt : E) (sl : Sl) : Rs D := r.bind fun ds om => if ds.length ≤ 1000000 then (cmpG T cond elt tg (wipeS sl (tgIx tg)) ds om).bind fun xs om => .ok (.lst xs) om else .stuck
def kCo2 (r : Rs (List D)) : Rs D := r.bind fun xs om => .ok (.lst xs) om
@[simp] theorem r_comp {tg : Tg} {it cond elt : E} : evE T (.comp tg it cond elt) sl om = kCo T (evI T it sl om) tg cond elt sl := by rw [evE]; rfl
@[simp] theorem r_comp1 {tg : Tg} {cond elt : E} : kCo T (.ok ds om) tg cond elt sl = if ds.length ≤ 1000000 then kCo2 (cmpG T cond elt tg (wipeS sl (tgIx tg)) ds om) else .stuck := rfl
@[simp] theorem r_comp2 : kCo2 (.ok ds om) = .ok (.lst ds) om := rfl
/-! ### argument lists, iterables -/
def kL (T : Tb) (r : Rs D) (as : E) (sl : Sl) : Rs (List D) := r.bind fun x om => (evL T as sl om).bind fun xs om => .ok (x :: xs) om
def kL2 (r : Rs (List D)) (x : D) : Rs (List D) := r.bind fun xs om => .ok (x :: xs) om
@[simp] theorem r_l0 : evL T .nil sl om = .ok [] om := by rw [evL]
@[simp] theorem r_l {a as : E} : evL T (.cons a as) sl om = kL T (evE T a sl om) as sl := by rw [evL]; rfl
@[simp] theorem r_l1 {as : E} : kL T (.ok x om) as sl = kL2 (evL T as sl om) x := rfl
@[simp] theorem r_l2 : kL2 (.ok ds om) x = .ok (x :: ds) om := rfl
def kSt (T : Tb) (r : Rs D) (as : E) (sl : Sl) : Rs (List D) := r.bind fun x om => match x with
    | .lst ys => (evL T as sl om).bind fun xs om => .ok (ys ++ xs) om
    | .tup ys => (evL T as sl om).bind fun xs om => .ok (ys ++ xs) om
    | _ => .stuck
def kSt2 (r : Rs (List D)) (ys : List D) : Rs (List D) := r.bind fun xs om => .ok (ys ++ xs) om
@[simp] theorem r_st {a as : E} : evL T (.star a as) sl om = kSt T (evE T a sl om) as sl := by rw [evL]; rfl
@[simp] theorem r_st1 {as : E} : kSt T (.ok (.lst ds) om) as sl = kSt2 (evL T as sl om) ds := rfl
@[simp] theorem r_st2 {as : E} : kSt T (.ok (.tup ds) om) as sl = kSt2 (evL T as sl om) ds := rfl
@[simp] theorem r_st3 : kSt2 (.ok es om) ds = .ok (ds ++ es) om := rfl
def kIt (r : Rs D) : Rs (List D) := r.bind fun x om => match items x with | some ds => .ok ds om | none => .stuck
@[simp] theorem r_itl {a : E} : evI T (.itl a) sl om = kIt (evE T a sl om) := by rw [evI]; rfl
@[simp] theorem r_itl1 : kIt (.ok (.lst ds) om) = .ok ds om := rfl
@[simp] theorem r_itl2 : kIt (.ok (.tup ds) om) = .ok ds om := rfl
@[simp] theorem r_itl3 {s : Str} : kIt (.ok (.str s) om) = .ok (s.cps.toList.map fun c => .str ⟨#[c]⟩) om := rfl
def kR1 (r : Rs D) : Rs (List D) := r.bind fun x om => match x with
    | .int n => if -(2 ^ 62) ≤ n ∧ n < 2 ^ 62 then .ok ((List.range n.toNat).map fun (k : Nat) => .int k) om else .stuck
    | _ => .stuck
@[simp] theorem r_rng1 {a : E} : evI T (.rng1 a) sl om = kR1 (evE T a sl om) := by rw [evI]; rfl
@[simp] theorem r_rng1a (h : n < 2 ^ 62) (h0 : 0 ≤ n) : kR1 (.ok (.int n) om) = .ok ((List.range n.toNat).map fun (k : Nat) => .int k) om := by
  show (if -(2 ^ 62) ≤ n ∧ n < 2 ^ 62 then _ else _) = _
  rw [if_pos ⟨by omega, h⟩]
def kR2 (T : Tb) (r : Rs D) (b : E) (sl : Sl) : Rs (List D) := r.bind fun x om => (evE T b sl om).bind fun y om => match x, y with
    | .int m, .int n => if (-(2 ^ 62) ≤ m ∧ m < 2 ^ 62) ∧ -(2 ^ 62) ≤ n ∧ n < 2 ^ 62 then .ok ((List.range (n - m).toNat).map fun (k : Nat) => .int (m + k)) om else .stuck
    | _, _ => .stuck
def kR3 (r : Rs D) (x : D) : Rs (List D) := r.bind fun y om => match x, y with
    | .int m, .int n => if (-(2 ^ 62) ≤ m ∧ m < 2 ^ 62) ∧ -(2 ^ 62) ≤ n ∧ n < 2 ^ 62 then .ok ((List.range (n - m).toNat).map fun (k : Nat) => .int (m + k)) om else .stuck
    | _, _ => .stuck
@[simp] theorem r_rng2 {a b : E} : evI T (.rng2 a b) sl om = kR2 T (evE T a sl om) b sl := by rw [evI]; rfl
@[simp] theorem r_rng2a {b : E} : kR2 T (.ok x om) b sl = kR3 (evE T b sl om) x := rfl
theorem r_rng2b (hm : m < 2 ^ 62) (hm0 : -(2 ^ 62) ≤ m) (h : n < 2 ^ 62) (h0 : -(2 ^ 62) ≤ n) : kR3 (.ok (.int n) om) (.int m) = .ok ((List.range (n - m).toNat).map fun (k : Nat) => .int (m + k)) om := by
  show (if (-(2 ^ 62) ≤ m ∧ m < 2 ^ 62) ∧ -(2 ^ 62) ≤ n ∧ n < 2 ^ 62 then _ else _) = _
  rw [if_pos ⟨⟨hm0, hm⟩, h0, h⟩]
/-! ### operators on plain values -/
@[simp] theorem o_addi : bop T .add (.int m) (.int n) om = .ok (.int (m + n)) om := rfl
@[simp] theorem o_subi : bop T .sub (.int m) (.int n) om = .ok (.int (m - n)) om := rfl
theorem o_muli (h : CMulW m n) : bop T .mul (.int m) (.int n) om = .ok (.int (m * n)) om := if_pos h
theorem o_divi (h : CDivW m n) : bop T .fdiv (.int m) (.int n) om = .ok (.int (m / n)) om := if_pos h
@[simp] theorem o_modi (h : 0 < n) : bop T .mod (.int m) (.int n) om = .ok (.int (m % n)) om := if_pos h
theorem o_powi (h : CPow m n) : bop T .pow (.int m) (.int n) om = .ok (.int (m ^ n.toNat)) om := if_pos h
@[simp] theorem o_addl : bop T .add (.lst ds) (.lst es) om = if ds.length + es.length ≤ 1000000 then .ok (.lst (ds ++ es)) om else .stuck := rfl
@[simp] theorem o_addt : bop T .add (.tup ds) (.tup es) om = if ds.length + es.length ≤ 1000000 then .ok (.tup (ds ++ es)) om else .stuck := rfl
@[simp] theorem o_mull : bop T .mul (.lst ds) (.int n) om = if 0 ≤ n ∧ n ≤ 1000000 ∧ ds.length * n.toNat ≤ 1000000 then .ok (.lst (List.replicate n.toNat ds).flatten) om else .stuck := rfl
@[simp] theorem o_lt : cmp T .lt (.int m) (.int n) om = .ok (decide (m < n)) om := rfl
@[simp] theorem o_le : cmp T .le (.int m) (.int n) om = .ok (decide (m ≤ n)) om := rfl
@[simp] theorem o_gt : cmp T .gt (.int m) (.int n) om = .ok (decide (n < m)) om := rfl
@[simp] theorem o_ge : cmp T .ge (.int m) (.int n) om = .ok (decide (n ≤ m)) om := rfl
theorem beq_dec (m n : Int) : (m == n) = decide (m = n) := rfl
@[simp] theorem o_eqi : cmp T .eq (.int m) (.int n) om = .ok (decide (m = n)) om := rfl
@[simp] theorem o_nei : cmp T .ne (.int m) (.int n) om = .ok (!decide (m = n)) om := rfl
theorem o_eqs {s t : Str} (hs : PyData.strOk s = true) (ht : PyData.strOk t = true) : cmp T .eq (.str s) (.str t) om = .ok (s == t) om := by
  show (if ((PyData.strOk s && decide (0 ≤ 64)) && (PyData.strOk t && decide (0 ≤ 64))) = true then Rs.ok (s == t) om else .stuck) = _
  rw [hs, ht]
  rfl
theorem o_nes {s t : Str} (hs : PyData.strOk s = true) (ht : PyData.strOk t = true) : cmp T .ne (.str s) (.str t) om = .ok (!(s == t)) om := by
  show (if ((PyData.strOk s && decide (0 ≤ 64)) && (PyData.strOk t && decide (0 ≤ 64))) = true then Rs.ok (!(s == t)) om else .stuck) = _
  rw [hs, ht]
  rfl
@[simp] theorem o_eqb {s t : Bool} : cmp T .eq (.bl s) (.bl t) om = .ok (s == t) om := rfl
@[simp] theorem o_neb {s t : Bool} : cmp T .ne (.bl s) (.bl t) om = .ok (!(s == t)) om := rfl
@[simp] theorem o_isn : cmp T .is .non .non om = .ok true om := rfl
@[simp] theorem o_isi : cmp T .is (.int n) .non om = .ok false om := rfl
@[simp] theorem o_iss {s : Str} : cmp T .is (.str s) .non om = .ok false om := rfl
@[simp] theorem o_isb {s : Bool} : cmp T .is (.bl s) .non om = .ok false om := rfl
@[simp] theorem o_isl : cmp T .is (.lst ds) .non om = .ok false om := rfl
@[simp] theorem o_ist : cmp T .is (.tup ds) .non om = .ok false om := rfl
@[simp] theorem o_iso {c : Nat} : cmp T .is (.obj c ds) .non om = .ok false om := rfl
@[simp] theorem o_isnn : cmp T .isn .non .non om = .ok false om := rfl
@[simp] theorem o_isni : cmp T .isn (.int n) .non om = .ok true om := rfl
@[simp] theorem o_isnl : cmp T .isn (.lst ds) .non om = .ok true om := rfl
@[simp] theorem o_isnt : cmp T .isn (.tup ds) .non om = .ok true om := rfl
@[simp] theorem b_lenl : biD T .len (.lst ds) om = .ok (.int ds.length) om := rfl
@[simp] theorem b_lent : biD T .len (.tup ds) om = .ok (.int ds.length) om := rfl
@[simp] theorem b_lens : biD T .len (.scr ds) om = .ok (.int ds.length) om := rfl
@[simp] theorem b_inti : biD T .int (.int n) om = .ok (.int n) om := rfl
@[simp] theorem b_intb {b : Bool} : biD T .int (.bl b) om = .ok (.int (if b = true then 1 else 0)) om := by cases b <;> rfl
@[simp] theorem b_abs : biD T .abs (.int n) om = .ok (.int (if n < 0 then -n else n)) om := rfl
@[simp] theorem b_ll : biD T .list (.lst ds) om = .ok (.lst ds) om := rfl
@[simp] theorem b_lt : biD T .list (.tup ds) om = .ok (.lst ds) om := rfl
@[simp] theorem b_ls : biD T .list (.scr ds) om = .ok (.lst ds) om := rfl
@[simp] theorem b_tl : biD T .tuple (.lst ds) om = .ok (.tup ds) om := rfl
@[simp] theorem b_strs {s : Str} : biD T .str (.str s) om = .ok (.str s) om := rfl
@[simp] theorem b_boolb {b : Bool} : biD T .bool (.bl b) om = .ok (.bl b) om := rfl
theorem b_boola {k : Nat} (h : om[k]? = some (.pl ds)) : biD T .bool (.amb k) om = .ok (.bl (!ds.isEmpty)) om := by rw [biD, h]
theorem b_tupa {k : Nat} (h : om[k]? = some (.pl ds)) : biD T .tuple (.amb k) om = .ok (.tup ds) om := by rw [biD, h]
theorem o_inna {k : Nat} {b : Bool} (h : om[k]? = some (.pl ds)) (h2 : inD x ds = some b) : cmp T .inn x (.amb k) om = .ok b om := by
  show opt (inA x (.amb k) om) om = _
  unfold inA
  dsimp only
  rw [h]
  show opt (inD x ds) om = _
  rw [h2]
  rfl
theorem o_nina {k : Nat} {b : Bool} (h : om[k]? = some (.pl ds)) (h2 : inD x ds = some b) : cmp T .nin x (.amb k) om = .ok (!b) om := by
  show opt ((inA x (.amb k) om).map (!·)) om = _
  unfold inA
  dsimp only
  rw [h]
  show opt ((inD x ds).map (!·)) om = _
  rw [h2]
  rfl
theorem o_innt {b : Bool} (h2 : inT x ds = some b) : cmp T .inn x (.tup ds) om = .ok b om := by
  show opt (inT x ds) om = _
  rw [h2]
  rfl
theorem o_nint {b : Bool} (h2 : inT x ds = some b) : cmp T .nin x (.tup ds) om = .ok (!b) om := by
  show opt ((inT x ds).map (!·)) om = _
  rw [h2]
  rfl
@[simp] theorem o_mult : bop T .mul (.tup ds) (.int n) om = if 0 ≤ n ∧ n ≤ 1000 ∧ ds.isEmpty = false ∧ ds.length ≤ 1000 then .ok (.tup (List.replicate n.toNat ds).flatten) om else .stuck := rfl
@[simp] theorem b_tt : biD T .tuple (.tup ds) om = .ok (.tup ds) om := rfl
@[simp] theorem x_l (h : atI ds n = some d) : ixD (.lst ds) (.int n) om = .ok d om := by rw [ixD, h]
@[simp] theorem x_t (h : atI ds n = some d) : ixD (.tup ds) (.int n) om = .ok d om := by rw [ixD, h]
theorem x_p {k : Nat} (h0 : om[k]? = some (.pl ds)) (h : atI ds n = some d) : ixD (.amb k) (.int n) om = .ok d om := by
  rw [ixD, h0]
  show (match atI ds n with | some d => Rs.ok d om | none => .stuck) = _
  rw [h]
@[simp] theorem sl_l {l h : Option Int} : slD (.lst ds) l h om = .ok (.lst (cutD ds l h)) om := rfl
@[simp] theorem sl_t {l h : Option Int} : slD (.tup ds) l h om = .ok (.tup (cutD ds l h)) om := rfl
theorem atI_nat {α : Type} {xs : List α} {k : Nat} : atI xs (k : Int) = xs[k]? := by
  unfold atI ixN
  rw [if_pos (by omega)]
  by_cases h : k < xs.length
  · rw [if_pos (by omega)]
    rfl
  · rw [if_neg (by omega), List.getElem?_eq_none (by omega)]
    rfl
theorem atI_nn {α : Type} {xs : List α} {n : Int} (h : 0 ≤ n) : atI xs n = xs[n.toNat]? := by
  obtain ⟨k, rfl⟩ := Int.eq_ofNat_of_zero_le h
  exact atI_nat
@[simp] theorem atI0 {α : Type} {x : α} {xs : List α} : atI (x :: xs) 0 = some x := by rw [atI_nn (by decide)]; rfl
@[simp] theorem atI1 {α : Type} {x y : α} {xs : List α} : atI (x :: y :: xs) 1 = some y := by rw [atI_nn (by decide)]; rfl
@[simp] theorem atI2 {α : Type} {x y z : α} {xs : List α} : atI (x :: y :: z :: xs) 2 = some z := by rw [atI_nn (by decide)]; rfl
@[simp] theorem atI3 {α : Type} {x y z u : α} {xs : List α} : atI (x :: y :: z :: u :: xs) 3 = some u := by rw [atI_nn (by decide)]; rfl
/-! ### statements -/
def seqO (T : Tb) (o : Out) (b : S) : Out := match o with
    | .next sl om => evS T b sl om
    | o => o
@[simp] theorem z_skip : evS T .skip sl om = .next sl om := by rw [evS]
@[simp] theorem z_seq {a b : S} : evS T (.seq a b) sl om = seqO T (evS T a sl om) b := by rw [evS]; rfl
@[simp] theorem z_seq1 {b : S} : seqO T (.next sl om) b = evS T b sl om := rfl
@[simp] theorem z_seq2 {b : S} : seqO T (.ret d om) b = .ret d om := rfl
@[simp] theorem z_seq3 {b : S} : seqO T (.retF ds om) b = .retF ds om := rfl
@[simp] theorem z_seq4 {b : S} : seqO T (.brk sl om) b = .brk sl om := rfl
@[simp] theorem z_seq5 {b : S} : seqO T (.cnt sl om) b = .cnt sl om := rfl
@[simp] theorem z_seq6 {b : S} {c : Nat} : seqO T (.exc c ds sl om) b = .exc c ds sl om := rfl
def kSet (r : Rs D) (i : Nat) (sl : Sl) : Out := r.out sl fun d om => .next (sl.set i (.val d)) om
@[simp] theorem z_set {e : E} : evS T (.set i e) sl om = kSet (evE T e sl om) i sl := by rw [evS]; rfl
@[simp] theorem z_set1 : kSet (.ok d om) i sl = .next (sl.set i (.val d)) om := rfl
def kSetO (r : Rs D) (i : Nat) (sl : Sl) : Out := r.out sl fun d om => match d with
    | .lst ds => .next (sl.set i (.own ds)) om
    | _ => .stuck
@[simp] theorem z_setO {e : E} : evS T (.setO i e) sl om = kSetO (evE T e sl om) i sl := by rw [evS]; rfl
@[simp] theorem z_setO1 : kSetO (.ok (.lst ds) om) i sl = .next (sl.set i (.own ds)) om := rfl
def kSetA (r : Rs D) (i : Nat) (sl : Sl) : Out := r.out sl fun d om => match d with
    | .lst ds => .next (sl.set i (.val (.amb om.length))) (om ++ [.pl ds])
    | _ => .stuck
@[simp] theorem z_setA {e : E} : evS T (.setA i e) sl om = kSetA (evE T e sl om) i sl := by rw [evS]; rfl
@[simp] theorem z_setA1 : kSetA (.ok (.lst ds) om) i sl = .next (sl.set i (.val (.amb om.length))) (om ++ [.pl ds]) := rfl
theorem z_fz (h : sl[i]? = some (.own ds)) : evS T (.fz i) sl om = .next (sl.set i (.val (.lst ds))) om := by rw [evS, h]
def kSetT (r : Rs D) (is : List Nat) (sl : Sl) : Out := r.out sl fun d om => match PD.setT sl (.many is) d with
    | some sl => .next sl om
    | none => .stuck
@[simp] theorem z_setT {is : List Nat} {e : E} : evS T (.setT is e) sl om = kSetT (evE T e sl om) is sl := by rw [evS]; rfl
@[simp] theorem z_setT1 {is : List Nat} : kSetT (.ok (.tup ds) om) is sl = if ds.length = is.length then .next (sets sl is ds) om else .stuck := by
  show (match (if ds.length = is.length then some (sets sl is ds) else none) with
    | some sl => Out.next sl om
    | none => .stuck) = _
  by_cases h : ds.length = is.length
  · rw [if_pos h, if_pos h]
  · rw [if_neg h, if_neg h]
@[simp] theorem s_cons {is : List Nat} : sets sl (i :: is) (d :: ds) = sets (sl.set i (.val d)) is ds := rfl
@[simp] theorem s_nil : sets sl [] ds = sl := by cases ds <;> rfl
def kPar (T : Tb) (r : Rs D) (i j : Nat) (b : E) (sl : Sl) : Out := r.out sl fun x om => (evE T b sl om).out sl fun y om => .next ((sl.set i (.val x)).set j (.val y)) om
def kPar2 (r : Rs D) (i j : Nat) (x : D) (sl : Sl) : Out := r.out sl fun y om => .next ((sl.set i (.val x)).set j (.val y)) om
@[simp] theorem z_par {a b : E} : evS T (.par i j a b) sl om = kPar T (evE T a sl om) i j b sl := by rw [evS]; rfl
@[simp] theorem z_par1 {b : E} : kPar T (.ok x om) i j b sl = kPar2 (evE T b sl om) i j x sl := rfl
@[simp] theorem z_par2 : kPar2 (.ok y om) i j x sl = .next ((sl.set i (.val x)).set j (.val y)) om := rfl
def kApp (r : Rs D) (i : Nat) (ds : List D) (sl : Sl) : Out := r.out sl fun d om => if ds.length < 1000000 then .next (sl.set i (.own (ds ++ [d]))) om else .stuck
@[simp] theorem z_app {e : E} (h : sl[i]? = some (.own ds)) : evS T (.app i e) sl om = kApp (evE T e sl om) i ds sl := by rw [evS, h]; rfl
@[simp] theorem z_app1 : kApp (.ok d om) i ds sl = if ds.length < 1000000 then .next (sl.set i (.own (ds ++ [d]))) om else .stuck := rfl
def kExt (r : Rs D) (i : Nat) (ds : List D) (sl : Sl) : Out := r.out sl fun d om => match d with
      | .lst es => if ds.length + es.length ≤ 1000000 then .next (sl.set i (.own (ds ++ es))) om else .stuck
      | _ => .stuck
@[simp] theorem z_ext {e : E} (h : sl[i]? = some (.own ds)) : evS T (.ext i e) sl om = kExt (evE T e sl om) i ds sl := by rw [evS, h]; rfl
@[simp] theorem z_ext1 : kExt (.ok (.lst es) om) i ds sl = if ds.length + es.length ≤ 1000000 then .next (sl.set i (.own (ds ++ es))) om else .stuck := rfl
def kSI (T : Tb) (r : Rs D) (i : Nat) (x : E) (ds : List D) (sl : Sl) : Out := r.out sl fun d om => (evE T x sl om).out sl fun n om => match n with
      | .int n => match ixN ds.length n with
        | some j => .next (sl.set i (.own (ds.set j d))) om
        | none => .stuck
      | _ => .stuck
def kSI2 (r : Rs D) (i : Nat) (d : D) (ds : List D) (sl : Sl) : Out := r.out sl fun n om => match n with
      | .int n => match ixN ds.length n with
        | some j => .next (sl.set i (.own (ds.set j d))) om
        | none => .stuck
      | _ => .stuck
@[simp] theorem z_setI {x e : E} (h : sl[i]? = some (.own ds)) : evS T (.setI i x e) sl om = kSI T (evE T e sl om) i x ds sl := by rw [evS, h]; rfl
@[simp] theorem z_setI1 {x : E} : kSI T (.ok d om) i x ds sl = kSI2 (evE T x sl om) i d ds sl := rfl
@[simp] theorem z_setI2 (h : ixN ds.length n = some j) : kSI2 (.ok (.int n) om) i d ds sl = .next (sl.set i (.own (ds.set j d))) om := by
  show (match ixN ds.length n with | some j => Out.next (sl.set i (.own (ds.set j d))) om | none => .stuck) = _
  rw [h]
def kSP (T : Tb) (r : Rs D) (x : E) (k : Nat) (sl : Sl) : Out := r.out sl fun d om => (evE T x sl om).out sl fun n om => match n with
      | .int n => match om[k]? with
        | some (.pl ds) => match ixN ds.length n with
          | some j => .next sl (om.set k (.pl (ds.set j d)))
          | none => .stuck
        | _ => .stuck
      | _ => .stuck
def kSP2 (r : Rs D) (d : D) (k : Nat) (sl : Sl) : Out := r.out sl fun n om => match n with
      | .int n => match om[k]? with
        | some (.pl ds) => match ixN ds.length n with
          | some j => .next sl (om.set k (.pl (ds.set j d)))
          | none => .stuck
        | _ => .stuck
      | _ => .stuck
@[simp] theorem z_setIA {x e : E} {k : Nat} (h : sl[i]? = some (.val (.amb k))) : evS T (.setIA i x e) sl om = kSP T (evE T e sl om) x k sl := by rw [evS, h]; rfl
@[simp] theorem z_setIA1 {x : E} {k : Nat} : kSP T (.ok d om) x k sl = kSP2 (evE T x sl om) d k sl := rfl
theorem z_setIA2 {k : Nat} (h0 : om[k]? = some (.pl ds)) (h : ixN ds.length n = some j) : kSP2 (.ok (.int n) om) d k sl = .next sl (om.set k (.pl (ds.set j d))) := by
  show (match om[k]? with
        | some (.pl ds) => match ixN ds.length n with
          | some j => Out.next sl (om.set k (.pl (ds.set j d)))
          | none => .stuck
        | _ => .stuck) = _
  rw [h0]
  show (match ixN ds.length n with
          | some j => Out.next sl (om.set k (.pl (ds.set j d)))
          | none => .stuck) = _
  rw [h]
def kSF (r : Rs D) (c j : Nat) (sl : Sl) : Out := r.out sl fun d om => match sl[(0 : Nat)]? with
    | some (.newo c' fs) => if c' = c ∧ fs.length = j then .next (sl.set 0 (.newo c (fs ++ [d]))) om else .stuck
    | _ => .stuck
@[simp] theorem z_setF {c : Nat} {e : E} : evS T (.setF c j e) sl om = kSF (evE T e sl om) c j sl := by rw [evS]; rfl
@[simp] theorem z_setF1 {c : Nat} (h : sl[(0 : Nat)]? = some (.newo c ds)) (hj : ds.length = j) : kSF (.ok d om) c j sl = .next (sl.set 0 (.newo c (ds ++ [d]))) om := by
  show (match sl[(0 : Nat)]? with
    | some (.newo c' fs) => if c' = c ∧ fs.length = j then Out.next (sl.set 0 (.newo c (fs ++ [d]))) om else .stuck
    | _ => .stuck) = _
  rw [h]
  exact if_pos ⟨rfl, hj⟩
def kTF (r : Rs D) (c j k : Nat) (sl : Sl) : Out := r.out sl fun d om => match om[k]? with
      | some (.ob c' fs) => if c' = c then if j < fs.length then .next sl (om.set k (.ob c (fs.set j d))) else if j = fs.length then .next sl (om.set k (.ob c (fs ++ [d]))) else .stuck else .stuck
      | _ => .stuck
@[simp] theorem z_stF {c k : Nat} {e : E} (h : sl[i]? = some (.val (.amb k))) : evS T (.stF i c j e) sl om = kTF (evE T e sl om) c j k sl := by rw [evS, h]; rfl
theorem z_stF1 {c k : Nat} (h : om[k]? = some (.ob c ds)) (hj : j < ds.length) : kTF (.ok d om) c j k sl = .next sl (om.set k (.ob c (ds.set j d))) := by
  show (match om[k]? with
      | some (.ob c' fs) => if c' = c then if j < fs.length then Out.next sl (om.set k (.ob c (fs.set j d))) else if j = fs.length then .next sl (om.set k (.ob c (fs ++ [d]))) else .stuck else .stuck
      | _ => .stuck) = _
  rw [h]
  show (if c = c then _ else _) = _
  rw [if_pos rfl, if_pos hj]
theorem z_stF2 {c k : Nat} (h : om[k]? = some (.ob c ds)) (hj : j = ds.length) : kTF (.ok d om) c j k sl = .next sl (om.set k (.ob c (ds ++ [d]))) := by
  show (match om[k]? with
      | some (.ob c' fs) => if c' = c then if j < fs.length then Out.next sl (om.set k (.ob c (fs.set j d))) else if j = fs.length then .next sl (om.set k (.ob c (fs ++ [d]))) else .stuck else .stuck
      | _ => .stuck) = _
  rw [h]
  show (if c = c then _ else _) = _
  rw [if_pos rfl, if_neg (by omega), if_pos hj]
def kAF (r : Rs D) (c j k : Nat) (m : Int) (sl : Sl) : Out := r.out sl fun y om => match y with
            | .int n => match om[k]? with
              | some (.ob c' fs) => if c' = c ∧ j < fs.length then .next sl (om.set k (.ob c (fs.set j (.int (m + n))))) else .stuck
              | _ => .stuck
            | _ => .stuck
theorem z_auF {c k : Nat} {e : E} (h : sl[i]? = some (.val (.amb k))) (h0 : om[k]? = some (.ob c ds)) (h1 : ds[j]? = some (.int m)) : evS T (.auF i c j e) sl om = kAF (evE T e sl om) c j k m sl := by
  rw [evS, h]
  dsimp only
  rw [h0]
  show (if c = c then _ else _) = _
  rw [if_pos rfl, h1]
  rfl
theorem z_auF1 {c k : Nat} (h0 : om[k]? = some (.ob c ds)) (hj : j < ds.length) : kAF (.ok (.int n) om) c j k m sl = .next sl (om.set k (.ob c (ds.set j (.int (m + n))))) := by
  show (match om[k]? with
              | some (.ob c' fs) => if c' = c ∧ j < fs.length then Out.next sl (om.set k (.ob c (fs.set j (.int (m + n))))) else .stuck
              | _ => .stuck) = _
  rw [h0]
  exact if_pos ⟨rfl, hj⟩
def kPutE (T : Tb) (r : Rs D) (e : E) (sl : Sl) : Out := r.out sl fun r om => match r with
    | .amb k => match om[k]? with
      | some (.pl _) => (evE T e sl om).out sl fun d om => match om[k]? with
        | some (.pl ds) => if ds.length < 1000000 then .next sl (om.set k (.pl (ds ++ [d]))) else .stuck
        | _ => .stuck
      | _ => .stuck
    | _ => .stuck
def kPutE2 (r : Rs D) (k : Nat) (sl : Sl) : Out := r.out sl fun d om => match om[k]? with
        | some (.pl ds) => if ds.length < 1000000 then .next sl (om.set k (.pl (ds ++ [d]))) else .stuck
        | _ => .stuck
@[simp] theorem z_appE {o e : E} : evS T (.appE o e) sl om = kPutE T (evE T o sl om) e sl := by rw [evS]; rfl
theorem z_appE1 {k : Nat} {e : E} (h : om[k]? = some (.pl ds)) : kPutE T (.ok (.amb k) om) e sl = kPutE2 (evE T e sl om) k sl := by
  show (match om[k]? with
      | some (.pl _) => (evE T e sl om).out sl fun d om => match om[k]? with
        | some (.pl ds) => if ds.length < 1000000 then Out.next sl (om.set k (.pl (ds ++ [d]))) else .stuck
        | _ => .stuck
      | _ => .stuck) = _
  rw [h]
  rfl
theorem z_appE2 {k : Nat} (h : om[k]? = some (.pl ds)) (hl : ds.length < 1000000) : kPutE2 (.ok d om) k sl = .next sl (om.set k (.pl (ds ++ [d]))) := by
  show (match om[k]? with
        | some (.pl ds) => if ds.length < 1000000 then Out.next sl (om.set k (.pl (ds ++ [d]))) else .stuck
        | _ => .stuck) = _
  rw [h]
  exact if_pos hl
def kDp (T : Tb) (r : Rs D) (o : E) (k : L2.Key) (sl : Sl) : Out := r.out sl fun d om => (evE T o sl om).out sl fun r om => match r with
    | .amb j => match om[j]? with
      | some (.dc ks ds) => match dpD ks ds k d with | some es => .next sl (om.set j (.dc ks es)) | none => .stuck
      | _ => .stuck
    | _ => .stuck
def kDp2 (r : Rs D) (d : D) (k : L2.Key) (sl : Sl) : Out := r.out sl fun r om => match r with
    | .amb j => match om[j]? with
      | some (.dc ks ds) => match dpD ks ds k d with | some es => .next sl (om.set j (.dc ks es)) | none => .stuck
      | _ => .stuck
    | _ => .stuck
@[simp] theorem z_dput {o e : E} {k : L2.Key} : evS T (.dput o k e) sl om = kDp T (evE T e sl om) o k sl := by rw [evS]; rfl
@[simp] theorem z_dput1 {o : E} {k : L2.Key} : kDp T (.ok d om) o k sl = kDp2 (evE T o sl om) d k sl := rfl
theorem z_dput2 {k : L2.Key} {ks : List L2.Key} (h : om[j]? = some (.dc ks ds)) (h2 : dpD ks ds k d = some es) : kDp2 (.ok (.amb j) om) d k sl = .next sl (om.set j (.dc ks es)) := by
  show (match om[j]? with
      | some (.dc ks ds) => match dpD ks ds k d with | some es => Out.next sl (om.set j (.dc ks es)) | none => .stuck
      | _ => .stuck) = _
  rw [h]
  show (match dpD ks ds k d with | some es => Out.next sl (om.set j (.dc ks es)) | none => .stuck) = _
  rw [h2]
def kAu (r : Rs D) (i : Nat) (o : Bop) (m : Int) (sl : Sl) : Out := r.out sl fun y om => match o, y with
      | .add, .int n => .next (sl.set i (.val (.int (m + n)))) om
      | .sub, .int n => .next (sl.set i (.val (.int (m - n)))) om
      | _, _ => .stuck
@[simp] theorem z_aug {o : Bop} {e : E} (h : sl[i]? = some (.val (.int m))) : evS T (.aug i o e) sl om = kAu (evE T e sl om) i o m sl := by rw [evS, h]; rfl
@[simp] theorem z_aug1 : kAu (.ok (.int n) om) i .add m sl = .next (sl.set i (.val (.int (m + n)))) om := rfl
@[simp] theorem z_aug2 : kAu (.ok (.int n) om) i .sub m sl = .next (sl.set i (.val (.int (m - n)))) om := rfl
def kDr (r : Rs D) (sl : Sl) : Out := r.out sl fun _ om => .next sl om
@[simp] theorem z_drop {e : E} : evS T (.drop e) sl om = kDr (evE T e sl om) sl := by rw [evS]; rfl
@[simp] theorem z_drop1 : kDr (.ok d om) sl = .next sl om := rfl
def kIf (T : Tb) (r : Rs Bool) (a b : S) (sl : Sl) : Out := r.out sl fun t om => if t = true then evS T a sl om else evS T b sl om
@[simp] theorem z_ite {c : E} {a b : S} : evS T (.ite c a b) sl om = kIf T (kTr (evE T c sl om)) a b sl := by rw [evS]; rfl
@[simp] theorem z_ite1 {a b : S} : kIf T (.ok true om) a b sl = evS T a sl om := rfl
@[simp] theorem z_ite2 {a b : S} : kIf T (.ok false om) a b sl = evS T b sl om := rfl
@[simp] theorem z_brk : evS T .brk sl om = .brk sl om := by rw [evS]
@[simp] theorem z_cnt : evS T .cnt sl om = .cnt sl om := by rw [evS]
@[simp] theorem z_retN : evS T .retN sl om = .ret .non om := by rw [evS]
def kRet (r : Rs D) (sl : Sl) : Out := r.out sl fun d om => .ret d om
@[simp] theorem z_ret {e : E} : evS T (.ret e) sl om = kRet (evE T e sl om) sl := by rw [evS]; rfl
@[simp] theorem z_ret1 : kRet (.ok d om) sl = .ret d om := rfl
def kRetF (r : Rs D) (sl : Sl) : Out := r.out sl fun d om => match d with
    | .lst ds => .retF ds om
    | _ => .stuck
@[simp] theorem z_retF {e : E} : evS T (.retF e) sl om = kRetF (evE T e sl om) sl := by rw [evS]; rfl
@[simp] theorem z_retF1 : kRetF (.ok (.lst ds) om) sl = .retF ds om := rfl
@[simp] theorem z_retO (h : sl[i]? = some (.own ds)) : evS T (.retO i) sl om = .retF ds om := by rw [evS, h]
/-! loops -/
def forG (T : Tb) (b : S) (tg : Tg) (ds : List D) (sl : Sl) (om : Om) : Out := forGo (evS T b) tg ds sl om
def kFo (T : Tb) (r : Rs (List D)) (tg : Tg) (b : S) (sl : Sl) : Out := r.out sl fun ds om => forG T b tg ds sl om
@[simp] theorem z_fo {tg : Tg} {it : E} {b : S} : evS T (.fo tg it b) sl om = kFo T (evI T it sl om) tg b sl := by rw [evS]; rfl
@[simp] theorem z_fo1 {tg : Tg} {b : S} : kFo T (.ok ds om) tg b sl = forG T b tg ds sl om := rfl
def kBody (T : Tb) (o : Out) (b : S) (tg : Tg) (ds : List D) : Out := match o with
      | .next sl om => forGo (evS T b) tg ds sl om
      | .cnt sl om => forGo (evS T b) tg ds sl om
      | .brk sl om => .next sl om
      | o => o
@[simp] theorem f_nil {tg : Tg} {b : S} : forG T b tg [] sl om = .next sl om := rfl
theorem f_cons {b : S} : forG T b (.one i) (d :: ds) sl om = kBody T (evS T b (sl.set i (.val d)) om) b (.one i) ds := rfl
theorem f_consT {b : S} {is : List Nat} (h : es.length = is.length) : forG T b (.many is) (.tup es :: ds) sl om = kBody T (evS T b (sets sl is es) om) b (.many is) ds := by
  unfold forG kBody
  rw [forGo]
  show (match (if es.length = is.length then some (sets sl is es) else none) with
    | none => Out.stuck
    | some sl => _) = _
  rw [if_pos h] <;> rfl
@[simp] theorem f_n {tg : Tg} {b : S} : kBody T (.next sl om) b tg ds = forG T b tg ds sl om := rfl
@[simp] theorem f_c {tg : Tg} {b : S} : kBody T (.cnt sl om) b tg ds = forG T b tg ds sl om := rfl
@[simp] theorem f_b {tg : Tg} {b : S} : kBody T (.brk sl om) b tg ds = .next sl om := rfl
@[simp] theorem f_r {tg : Tg} {b : S} : kBody T (.ret d om) b tg ds = .ret d om := rfl
@[simp] theorem f_rF {tg : Tg} {b : S} : kBody T (.retF es om) b tg ds = .retF es om := rfl
@[simp] theorem f_e {tg : Tg} {b : S} {c : Nat} : kBody T (.exc c es sl om) b tg ds = .exc c es sl om := rfl
def whlG (T : Tb) (c : E) (b : S) (n : Nat) (sl : Sl) (om : Om) : Out := whileGo (evT T c) (evS T b) n sl om
@[simp] theorem z_whl {c : E} {b : S} : evS T (.whl c b) sl om = whlG T c b T.wf sl om := by rw [evS]; rfl
def kW (T : Tb) (r : Rs Bool) (c : E) (b : S) (n : Nat) (sl : Sl) : Out := r.out sl fun t om => if t = true then match evS T b sl om with
      | .next sl om => whileGo (evT T c) (evS T b) n sl om
      | .cnt sl om => whileGo (evT T c) (evS T b) n sl om
      | .brk sl om => .next sl om
      | o => o
    else .next sl om
def kW2 (T : Tb) (o : Out) (c : E) (b : S) (n : Nat) : Out := match o with
      | .next sl om => whileGo (evT T c) (evS T b) n sl om
      | .cnt sl om => whileGo (evT T c) (evS T b) n sl om
      | .brk sl om => .next sl om
      | o => o
theorem w_step {c : E} {b : S} {n : Nat} : whlG T c b (n + 1) sl om = kW T (kTr (evE T c sl om)) c b n sl := rfl
@[simp] theorem w_t {c : E} {b : S} {n : Nat} : kW T (.ok true om) c b n sl = kW2 T (evS T b sl om) c b n := rfl
@[simp] theorem w_f {c : E} {b : S} {n : Nat} : kW T (.ok false om) c b n sl = .next sl om := rfl
@[simp] theorem w_n {c : E} {b : S} {n : Nat} : kW2 T (.next sl om) c b n = whlG T c b n sl om := rfl
@[simp] theorem w_c {c : E} {b : S} {n : Nat} : kW2 T (.cnt sl om) c b n = whlG T c b n sl om := rfl
@[simp] theorem w_b {c : E} {b : S} {n : Nat} : kW2 T (.brk sl om) c b n = .next sl om := rfl
@[simp] theorem w_r {c : E} {b : S} {n : Nat} : kW2 T (.ret d om) c b n = .ret d om := rfl
@[simp] theorem w_rF {c : E} {b : S} {n : Nat} : kW2 T (.retF ds om) c b n = .retF ds om := rfl
@[simp] theorem w_e {c : E} {b : S} {n k : Nat} : kW2 T (.exc k ds sl om) c b n = .exc k ds sl om := rfl
/-! comprehensions -/
@[simp] theorem c_nil {tg : Tg} {cond elt : E} : cmpG T cond elt tg sl [] om = .ok [] om := rfl
def kC (T : Tb) (r : Rs Bool) (cond elt : E) (tg : Tg) (sl sl' : Sl) (ds : List D) : Rs (List D) := match r with
      | .ok true om1 => match evE T elt sl' om1 with
        | .ok x om2 => match cmpG T cond elt tg sl ds om2 with
          | .ok xs om3 => .ok (x :: xs) om3
          | _ => .stuck
        | _ => .stuck
      | .ok false om1 => cmpG T cond elt tg sl ds om1
      | _ => .stuck
def kC2 (T : Tb) (r : Rs D) (cond elt : E) (tg : Tg) (sl : Sl) (ds : List D) : Rs (List D) := match r with
        | .ok x om2 => match cmpG T cond elt tg sl ds om2 with
          | .ok xs om3 => .ok (x :: xs) om3
          | _ => .stuck
        | _ => .stuck
def kC3 (r : Rs (List D)) (x : D) : Rs (List D) := match r with
          | .ok xs om3 => .ok (x :: xs) om3
          | _ => .stuck
theorem c_cons {cond elt : E} : cmpG T cond elt (.one i) sl (d :: ds) om = kC T (kTr (evE T cond (sl.set i (.val d)) om)) cond elt (.one i) sl (sl.set i (.val d)) ds := rfl
theorem c_consT {cond elt : E} {is : List Nat} (h : es.length = is.length) : cmpG T cond elt (.many is) sl (.tup es :: ds) om = kC T (kTr (evE T cond (sets sl is es) om)) cond elt (.many is) sl (sets sl is es) ds := by
  unfold cmpG
  rw [compGo]
  show (match (if es.length = is.length then some (sets sl is es) else none) with
    | none => Rs.stuck
    | some sl' => _) = _
  rw [if_pos h]
  rfl
@[simp] theorem c_t {cond elt : E} {tg : Tg} {sl' : Sl} : kC T (.ok true om) cond elt tg sl sl' ds = kC2 T (evE T elt sl' om) cond elt tg sl ds := rfl
@[simp] theorem c_f {cond elt : E} {tg : Tg} {sl' : Sl} : kC T (.ok false om) cond elt tg sl sl' ds = cmpG T cond elt tg sl ds om := rfl
@[simp] theorem c_2 {cond elt : E} {tg : Tg} : kC2 T (.ok x om) cond elt tg sl ds = kC3 (cmpG T cond elt tg sl ds om) x := rfl
@[simp] theorem c_3 : kC3 (.ok ds om) x = .ok (x :: ds) om := rfl
@[simp] theorem wi_1 : wipeS sl (tgIx (.one i)) = sl.set i .no := rfl
@[simp] theorem wi_m {is : List Nat} : wipeS sl (tgIx (.many is)) = wipeS sl is := rfl
@[simp] theorem wi_c {is : List Nat} : wipeS sl (i :: is) = (wipeS sl is).set i .no := rfl
@[simp] theorem wi_n : wipeS sl [] = sl := rfl
end
/-! ### calls -/
section
variable {p : Prog} {wf n : Nat}
@[simp] theorem t_call : (tab p wf n).call = callN p wf n := rfl
@[simp] theorem t_init : (tab p wf n).init = initN p wf n := rfl
@[simp] theorem t_wf : (tab p wf n).wf = wf := rfl
@[simp] theorem t_nf : (tab p wf n).nf = p.nf := rfl
@[simp] theorem t_opm : (tab p wf n).opm = p.opm := rfl
@[simp] theorem t_eqm : (tab p wf n).eqm = p.eqm := rfl
@[simp] theorem t_strm : (tab p wf n).strm = p.strm := rfl
theorem call_ret {f : Nat} {d : Def} {ds : List D} {om om' : Om} {x : D} (hd : p.defs f = some d) (hl : ds.length = d.np) (hf : p.fresh f = false) (h : evS (tab p wf n) d.body (slots d ds) om = .ret x om') : callN p wf (n + 1) f ds om = .ok x om' := by
  unfold tab at h
  rw [callN, hd]
  dsimp only
  rw [if_pos hl, h]
  dsimp only
  rw [if_neg (by rw [hf]; decide)]
theorem call_retF {f : Nat} {d : Def} {ds xs : List D} {om om' : Om} (hd : p.defs f = some d) (hl : ds.length = d.np) (h : evS (tab p wf n) d.body (slots d ds) om = .retF xs om') : callN p wf (n + 1) f ds om = .ok (.lst xs) om' := by
  unfold tab at h
  rw [callN, hd]
  dsimp only
  rw [if_pos hl, h]
theorem call_next {f : Nat} {d : Def} {ds : List D} {om om' : Om} {sl : Sl} (hd : p.defs f = some d) (hl : ds.length = d.np) (hf : p.fresh f = false) (h : evS (tab p wf n) d.body (slots d ds) om = .next sl om') : callN p wf (n + 1) f ds om = .ok .non om' := by
  unfold tab at h
  rw [callN, hd]
  dsimp only
  rw [if_pos hl, h]
  dsimp only
  rw [if_neg (by rw [hf]; decide)]
theorem call_exc {f : Nat} {d : Def} {ds fs : List D} {om om' : Om} {sl : Sl} {c : Nat} (hd : p.defs f = some d) (hl : ds.length = d.np) (h : evS (tab p wf n) d.body (slots d ds) om = .exc c fs sl om') : callN p wf (n + 1) f ds om = .exc c fs om' := by
  unfold tab at h
  rw [callN, hd]
  dsimp only
  rw [if_pos hl, h]
theorem init_next {f c : Nat} {d : Def} {ds fs : List D} {om om' : Om} {sl : Sl} (hd : p.defs f = some d) (hc : d.cls = some c) (hl : ds.length + 1 = d.np) (h : evS (tab p wf n) d.body (.newo c [] :: (ds.map .val ++ List.replicate (d.nl - d.np) .no)) om = .next sl om') (h0 : sl[(0 : Nat)]? = some (.newo c fs)) : initN p wf (n + 1) f ds om = .ok fs om' := by
  unfold tab at h
  rw [initN, hd]
  dsimp only
  rw [hc]
  dsimp only
  rw [if_pos hl, h]
  dsimp only
  rw [h0]
  exact if_pos rfl
theorem init_exc {f c c' : Nat} {d : Def} {ds fs : List D} {om om' : Om} {sl : Sl} (hd : p.defs f = some d) (hc : d.cls = some c) (hl : ds.length + 1 = d.np) (h : evS (tab p wf n) d.body (.newo c [] :: (ds.map .val ++ List.replicate (d.nl - d.np) .no)) om = .exc c' fs sl om') : initN p wf (n + 1) f ds om = .exc c' fs om' := by
  unfold tab at h
  rw [initN, hd]
  dsimp only
  rw [hc]
  dsimp only
  rw [if_pos hl, h]
end
/-! ### loops by what they keep -/
section
variable {T : Tb} {sl : Sl} {om om' : Om} {x y d : D} {ds es : List D} {i j : Nat}
/-- a loop over a list: what holds after the items done; the items left are still to come -/
theorem for_keep {b : S} {α : Type} {f : α → D} (I : List α → Sl → Om → Prop) : ∀ (xs done : List α) (sl : Sl) (om : Om), I done sl om →
    (∀ done x, x ∈ xs → ∀ sl om, I done sl om → ∃ sl' om', evS T b (sl.set i (.val (f x))) om = .next sl' om' ∧ I (done ++ [x]) sl' om') →
    ∃ sl' om', forG T b (.one i) (xs.map f) sl om = .next sl' om' ∧ I (done ++ xs) sl' om'
  | [], done, sl, om, h, _ => ⟨sl, om, rfl, by rw [List.append_nil]; exact h⟩
  | x :: xs, done, sl, om, h, st => by
    obtain ⟨sl1, om1, e1, h1⟩ := st done x List.mem_cons_self sl om h
    obtain ⟨sl2, om2, e2, h2⟩ := for_keep I xs (done ++ [x]) sl1 om1 h1 fun dn y hy => st dn y (List.mem_cons_of_mem _ hy)
    refine ⟨sl2, om2, ?_, by rw [List.append_assoc] at h2; exact h2⟩
    rw [List.map_cons, f_cons, e1, f_n, e2]
theorem for_keepT {b : S} {α : Type} {is : List Nat} {f : α → List D} (hf : ∀ x, (f x).length = is.length) (I : List α → Sl → Om → Prop) : ∀ (xs done : List α) (sl : Sl) (om : Om), I done sl om →
    (∀ done x, x ∈ xs → ∀ sl om, I done sl om → ∃ sl' om', evS T b (sets sl is (f x)) om = .next sl' om' ∧ I (done ++ [x]) sl' om') →
    ∃ sl' om', forG T b (.many is) (xs.map fun x => .tup (f x)) sl om = .next sl' om' ∧ I (done ++ xs) sl' om'
  | [], done, sl, om, h, _ => ⟨sl, om, rfl, by rw [List.append_nil]; exact h⟩
  | x :: xs, done, sl, om, h, st => by
    obtain ⟨sl1, om1, e1, h1⟩ := st done x List.mem_cons_self sl om h
    obtain ⟨sl2, om2, e2, h2⟩ := for_keepT hf I xs (done ++ [x]) sl1 om1 h1 fun dn y hy => st dn y (List.mem_cons_of_mem _ hy)
    refine ⟨sl2, om2, ?_, by rw [List.append_assoc] at h2; exact h2⟩
    rw [List.map_cons, f_consT (hf x), e1, f_n, e2]
/-- a comprehension whose items come out one by one -/
theorem comp_keep {cond elt : E} {α : Type} {f : α → D} (I : List α → List D → Om → Prop) : ∀ (xs done : List α) (ys : List D) (om : Om), I done ys om →
    (∀ done ys x, x ∈ xs → ∀ om, I done ys om → ∃ y om', kTr (evE T cond (sl.set i (.val (f x))) om) = .ok true om ∧ evE T elt (sl.set i (.val (f x))) om = .ok y om' ∧ I (done ++ [x]) (ys ++ [y]) om') →
    ∃ zs om', cmpG T cond elt (.one i) sl (xs.map f) om = .ok zs om' ∧ I (done ++ xs) (ys ++ zs) om'
  | [], done, ys, om, h, _ => ⟨[], om, rfl, by rw [List.append_nil, List.append_nil]; exact h⟩
  | x :: xs, done, ys, om, h, st => by
    obtain ⟨y, om1, e0, e1, h1⟩ := st done ys x List.mem_cons_self om h
    obtain ⟨zs, om2, e2, h2⟩ := comp_keep I xs (done ++ [x]) (ys ++ [y]) om1 h1 fun dn y z hy => st dn y z (List.mem_cons_of_mem _ hy)
    refine ⟨y :: zs, om2, ?_, by rw [List.append_assoc, List.append_assoc] at h2; exact h2⟩
    rw [List.map_cons, c_cons, e0, c_t, e1, c_2, e2, c_3]
/-- a comprehension of plain items -/
theorem comp_map {cond elt : E} {α : Type} {f g : α → D} : ∀ (xs : List α), (∀ x ∈ xs, kTr (evE T cond (sl.set i (.val (f x))) om) = .ok true om ∧ evE T elt (sl.set i (.val (f x))) om = .ok (g x) om) →
    cmpG T cond elt (.one i) sl (xs.map f) om = .ok (xs.map g) om
  | [], _ => rfl
  | x :: xs, st => by
    obtain ⟨e0, e1⟩ := st x List.mem_cons_self
    rw [List.map_cons, c_cons, e0, c_t, e1, c_2, comp_map xs fun y hy => st y (List.mem_cons_of_mem _ hy), c_3]
    rfl
end
end PD

set_option Elab.async false
set_option linter.all false
set_option maxRecDepth 100000
set_option maxHeartbeats 400000
/-! PDN: the pool. -/
namespace PD
open PySem PySem.Spec PyProof.Rows L2
theorem log2_small {n k : Nat} (h : n < 2 ^ k) (hk : 0 < k) : n.log2 < k := by
  by_cases h0 : n = 0
  · subst h0
    simpa using hk
  · exact (Nat.log2_lt h0).mpr h
theorem cmulW_s {i j : Int} {a b : Nat} (hi : i.natAbs < 2 ^ a) (hj : j.natAbs < 2 ^ b) (ha : 0 < a) (hb : 0 < b) (h : a + b ≤ 1000000) : CMulW i j := by
  have x := log2_small hi ha
  have y := log2_small hj hb
  unfold CMulW
  omega
theorem cdivW_s {i j : Int} {b : Nat} (h : 0 < j) (hj : j.natAbs < 2 ^ b) (hb : 0 < b) (hb' : b ≤ 9000) : CDivW i j := by
  have y := log2_small hj hb
  exact ⟨h, by omega⟩
/-- the pool -/
abbrev poolD (ns : List Int) (a b c d e : Int) : List D := [.lst (ns.map .int), .int a, .int b, .int c, .int d, .int e]
def PoolAt (om : Om) (r : Om) : Prop := ∃ ns a b c d e, om = .pl (poolD ns a b c d e) :: r ∧ 0 ≤ a ∧ 0 ≤ c ∧ c < 2147483647
/-- with so much left to spend -/
def PoolE (om : Om) (r : Om) (e : Int) : Prop := ∃ ns a b c d, om = .pl (poolD ns a b c d e) :: r ∧ 0 ≤ a ∧ 0 ≤ c ∧ c < 2147483647
theorem PoolE.at {om r : Om} {e : Int} (h : PoolE om r e) : PoolAt om r := by
  obtain ⟨ns, a, b, c, d, h⟩ := h
  exact ⟨ns, a, b, c, d, e, h⟩
theorem PoolAt.e {om r : Om} (h : PoolAt om r) : ∃ e, PoolE om r e := by
  obtain ⟨ns, a, b, c, d, e, h⟩ := h
  exact ⟨e, ns, a, b, c, d, h⟩
def drawB : S := (.seq (.ite (.an (.cm .le (.ix (.v 0) (.k (.int 2))) (.k (.int 0))) (.an (.cm .le (.ix (.v 0) (.k (.int 4))) (.k (.int 0))) (.cm .lt (.ix (.v 0) (.k (.int 1))) (.bi .len (.ix (.v 0) (.k (.int 0))))))) (.seq (.set 2 (.ix (.ix (.v 0) (.k (.int 0))) (.ix (.v 0) (.k (.int 1))))) (.seq (.setIA 0 (.k (.int 1)) (.op .add (.ix (.v 0) (.k (.int 1))) (.k (.int 1)))) (.seq (.setIA 0 (.k (.int 3)) (.op .mod (.bi .int (.op .add (.op .mul (.ix (.v 0) (.k (.int 3))) (.k (.int 31))) (.v 2))) (.k (.int 2147483647)))) (.seq (.setIA 0 (.k (.int 4)) (.k (.int 7))) (.seq (.ite (.cm .ge (.v 2) (.op .pow (.k (.int 10)) (.k (.int 18)))) (.seq (.setIA 0 (.k (.int 2)) (.v 2)) .skip) .skip) .skip))))) .skip) (.seq (.ite (.cm .gt (.ix (.v 0) (.k (.int 2))) (.k (.int 0))) (.seq (.set 3 (.op .mod (.bi .int (.ix (.v 0) (.k (.int 2)))) (.v 1))) (.seq (.setIA 0 (.k (.int 2)) (.op .fdiv (.ix (.v 0) (.k (.int 2))) (.v 1))) (.seq (.setIA 0 (.k (.int 4)) (.k (.int 0))) (.seq (.ret (.v 3)) .skip)))) .skip) (.seq (.setIA 0 (.k (.int 4)) (.op .sub (.ix (.v 0) (.k (.int 4))) (.k (.int 1)))) (.seq (.setIA 0 (.k (.int 3)) (.op .mod (.bi .int (.op .add (.op .mul (.ix (.v 0) (.k (.int 3))) (.k (.int 48271))) (.k (.int 12345)))) (.k (.int 2147483647)))) (.seq (.ret (.op .mod (.op .mod (.bi .int (.op .add (.op .mul (.ix (.v 0) (.k (.int 3))) (.k (.int 69621))) (.k (.int 7919)))) (.k (.int 2147483647))) (.v 1))) .skip)))))
def spendB : S := (.seq (.setIA 0 (.k (.int 5)) (.op .sub (.ix (.v 0) (.k (.int 5))) (.k (.int 1)))) (.seq (.ret (.cm .ge (.ix (.v 0) (.k (.int 5))) (.k (.int 0)))) .skip))
def poolB : S := (.seq (.retF (.lst (.cons (.bi .list (.v 0)) (.cons (.k (.int 0)) (.cons (.k (.int 0)) (.cons (.k (.int 1)) (.cons (.k (.int 0)) (.cons (.v 1) .nil)))))))) .skip)
section
variable {T : Tb} {ns : List Int} {a b c d e n : Int} {r : Om} {sl : Sl} {x : D}
theorem ixp0 : ixD (.amb 0) (.int 0) (.pl (poolD ns a b c d e) :: r) = .ok (.lst (ns.map .int)) (.pl (poolD ns a b c d e) :: r) := rfl
theorem ixp1 : ixD (.amb 0) (.int 1) (.pl (poolD ns a b c d e) :: r) = .ok (.int a) (.pl (poolD ns a b c d e) :: r) := rfl
theorem ixp2 : ixD (.amb 0) (.int 2) (.pl (poolD ns a b c d e) :: r) = .ok (.int b) (.pl (poolD ns a b c d e) :: r) := rfl
theorem ixp3 : ixD (.amb 0) (.int 3) (.pl (poolD ns a b c d e) :: r) = .ok (.int c) (.pl (poolD ns a b c d e) :: r) := rfl
theorem ixp4 : ixD (.amb 0) (.int 4) (.pl (poolD ns a b c d e) :: r) = .ok (.int d) (.pl (poolD ns a b c d e) :: r) := rfl
theorem ixp5 : ixD (.amb 0) (.int 5) (.pl (poolD ns a b c d e) :: r) = .ok (.int e) (.pl (poolD ns a b c d e) :: r) := rfl
theorem sp1 : kSP2 (.ok (.int 1) (.pl (poolD ns a b c d e) :: r)) (.int n) 0 sl = .next sl (.pl (poolD ns n b c d e) :: r) := rfl
theorem sp2 : kSP2 (.ok (.int 2) (.pl (poolD ns a b c d e) :: r)) (.int n) 0 sl = .next sl (.pl (poolD ns a n c d e) :: r) := rfl
theorem sp3 : kSP2 (.ok (.int 3) (.pl (poolD ns a b c d e) :: r)) (.int n) 0 sl = .next sl (.pl (poolD ns a b n d e) :: r) := rfl
theorem sp4 : kSP2 (.ok (.int 4) (.pl (poolD ns a b c d e) :: r)) (.int n) 0 sl = .next sl (.pl (poolD ns a b c n e) :: r) := rfl
theorem sp5 : kSP2 (.ok (.int 5) (.pl (poolD ns a b c d e) :: r)) (.int n) 0 sl = .next sl (.pl (poolD ns a b c d n) :: r) := rfl
theorem atI_map {i : Int} (h0 : 0 ≤ i) (h : i < ns.length) : ∃ n, atI (ns.map D.int) i = some (.int n) := by
  rw [atI_nn h0, List.getElem?_map, List.getElem?_eq_getElem (by omega : i.toNat < ns.length)]
  exact ⟨_, rfl⟩
theorem mul31 (h : 0 ≤ c) (h' : c < 2147483647) : CMulW c 31 := cmulW_s (a := 31) (b := 5) (by omega) (by decide) (by decide) (by decide) (by decide)
theorem mul48 (h : 0 ≤ c) (h' : c < 2147483647) : CMulW c 48271 := cmulW_s (a := 31) (b := 16) (by omega) (by decide) (by decide) (by decide) (by decide)
theorem mul69 (h : 0 ≤ c) (h' : c < 2147483647) : CMulW c 69621 := cmulW_s (a := 31) (b := 17) (by omega) (by decide) (by decide) (by decide) (by decide)
theorem pow18 : bop T .pow (.int 10) (.int 18) r = .ok (.int 1000000000000000000) r := by
  rw [o_powi (by decide)]
  rfl
/-- the second half of a draw -/
theorem draw2 {s : Int} {y : Cell} (hs : 0 < s) (hs' : s < 2 ^ 200) (ha : 0 ≤ a) (hc : 0 ≤ c) (hc' : c < 2147483647) {B : S} (hB : drawB = .seq B (match drawB with | .seq _ b => b | _ => .skip)) :
    ∃ v om', evS T (match drawB with | .seq _ b => b | _ => .skip) [.val (.amb 0), .val (.int s), y, .no] (.pl (poolD ns a b c d e) :: r) = .ret (.int v) om' ∧ 0 ≤ v ∧ v < s ∧ PoolE om' r e := by
  by_cases h : 0 < b
  · refine ⟨b % s, .pl (poolD ns a (b / s) c 0 e) :: r, ?_, Int.emod_nonneg _ (by omega), Int.emod_lt_of_pos _ hs, ⟨_, _, _, _, _, rfl, ha, hc, hc'⟩⟩
    have hd : CDivW b s := cdivW_s (b := 200) hs (by omega) (by decide) (by decide)
    simp [drawB, ixp0, ixp1, ixp2, ixp3, ixp4, sp1, sp2, sp3, sp4, h, hs, o_divi hd]
  · have hc2 : 0 ≤ (c * 48271 + 12345) % 2147483647 := Int.emod_nonneg _ (by decide)
    have hc3 : (c * 48271 + 12345) % 2147483647 < 2147483647 := Int.emod_lt_of_pos _ (by decide)
    refine ⟨((c * 48271 + 12345) % 2147483647 * 69621 + 7919) % 2147483647 % s, .pl (poolD ns a b ((c * 48271 + 12345) % 2147483647) (d - 1) e) :: r, ?_, Int.emod_nonneg _ (by omega), Int.emod_lt_of_pos _ hs, ⟨_, _, _, _, _, rfl, ha, hc2, hc3⟩⟩
    simp [drawB, ixp0, ixp1, ixp2, ixp3, ixp4, sp1, sp2, sp3, sp4, h, hs, o_muli (mul48 hc hc'), o_muli (mul69 hc2 hc3)]
theorem draw_okE {s : Int} {om r : Om} {e : Int} (hs : 0 < s) (hs' : s < 2 ^ 200) (hp : PoolE om r e) : ∃ v om', evS T drawB [.val (.amb 0), .val (.int s), .no, .no] om = .ret (.int v) om' ∧ 0 ≤ v ∧ v < s ∧ PoolE om' r e := by
  obtain ⟨ns, a, b, c, d, rfl, ha, hc, hc'⟩ := hp
  have key : ∀ {y a b c d}, 0 ≤ a → 0 ≤ c → c < 2147483647 → evS T drawB [.val (.amb 0), .val (.int s), .no, .no] (.pl (poolD ns a b c d e) :: r) = evS T (match drawB with | .seq _ b => b | _ => .skip) [.val (.amb 0), .val (.int s), y, .no] (.pl (poolD ns a b c d e) :: r) → True := fun _ _ _ _ => trivial
  by_cases h1 : b ≤ 0
  · by_cases h2 : d ≤ 0
    · by_cases h3 : a < ns.length
      · obtain ⟨cell, hcell⟩ := atI_map ha h3
        have hc2 : 0 ≤ (c * 31 + cell) % 2147483647 := Int.emod_nonneg _ (by decide)
        have hc3 : (c * 31 + cell) % 2147483647 < 2147483647 := Int.emod_lt_of_pos _ (by decide)
        by_cases h4 : 1000000000000000000 ≤ cell
        · obtain ⟨v, om', e1, h⟩ := draw2 (T := T) (ns := ns) (a := a + 1) (b := cell) (c := (c * 31 + cell) % 2147483647) (d := 7) (e := e) (r := r) (y := .val (.int cell)) hs hs' (by omega) hc2 hc3 rfl
          refine ⟨v, om', ?_, h⟩
          rw [← e1, drawB]
          simp only [z_seq, z_seq1, z_ite, z_ite1, z_ite2, r_tr1, r_an, r_an1, r_an2, r_cm, r_cm1, r_cm2, r_bl, r_k, r_ix, r_ix1, r_ix2, ixp0, ixp1, ixp2, ixp3, ixp4, o_le, o_lt, o_ge]
          simp [ixp0, ixp1, ixp2, ixp3, ixp4, sp1, sp2, sp3, sp4, h1, h2, h3, h4, hcell, pow18, o_muli (mul31 hc hc')]
        · obtain ⟨v, om', e1, h⟩ := draw2 (T := T) (ns := ns) (a := a + 1) (b := b) (c := (c * 31 + cell) % 2147483647) (d := 7) (e := e) (r := r) (y := .val (.int cell)) hs hs' (by omega) hc2 hc3 rfl
          refine ⟨v, om', ?_, h⟩
          rw [← e1, drawB]
          simp [ixp0, ixp1, ixp2, ixp3, ixp4, sp1, sp2, sp3, sp4, h1, h2, h3, h4, hcell, pow18, o_muli (mul31 hc hc')]
      · obtain ⟨v, om', e1, h⟩ := draw2 (T := T) (ns := ns) (a := a) (b := b) (c := c) (d := d) (e := e) (r := r) (y := .no) hs hs' ha hc hc' rfl
        refine ⟨v, om', ?_, h⟩
        rw [← e1, drawB]
        simp [ixp0, ixp1, ixp2, ixp3, ixp4, sp1, sp2, sp3, sp4, h1, h2, h3]
    · obtain ⟨v, om', e1, h⟩ := draw2 (T := T) (ns := ns) (a := a) (b := b) (c := c) (d := d) (e := e) (r := r) (y := .no) hs hs' ha hc hc' rfl
      refine ⟨v, om', ?_, h⟩
      rw [← e1, drawB]
      simp [ixp0, ixp1, ixp2, ixp3, ixp4, sp1, sp2, sp3, sp4, h1, h2]
  · obtain ⟨v, om', e1, h⟩ := draw2 (T := T) (ns := ns) (a := a) (b := b) (c := c) (d := d) (e := e) (r := r) (y := .no) hs hs' ha hc hc' rfl
    refine ⟨v, om', ?_, h⟩
    rw [← e1, drawB]
    simp [ixp0, ixp1, ixp2, ixp3, ixp4, sp1, sp2, sp3, sp4, h1]
theorem draw_ok {s : Int} {om r : Om} (hs : 0 < s) (hs' : s < 2 ^ 200) (hp : PoolAt om r) : ∃ v om', evS T drawB [.val (.amb 0), .val (.int s), .no, .no] om = .ret (.int v) om' ∧ 0 ≤ v ∧ v < s ∧ PoolAt om' r := by
  obtain ⟨e, hp⟩ := hp.e
  obtain ⟨v, om', h1, h2, h3, h4⟩ := draw_okE (T := T) hs hs' hp
  exact ⟨v, om', h1, h2, h3, h4.at⟩
end
end PD

set_option Elab.async false
set_option linter.all false
set_option maxRecDepth 100000
set_option maxHeartbeats 400000
/-! PDO: lists of texts, numbers as texts, slices, two values the same. -/
namespace PD
open PySem PySem.Spec PyProof.Rows L2
abbrev strL (ws : List Str) : List D := ws.map D.str
theorem strs_ok : ∀ ws : List Str, strsD (strL ws) = some ws
  | [] => rfl
  | w :: ws => by
    show (strsD (strL ws)).map (w :: ·) = _
    rw [strs_ok ws]
    rfl
theorem toPs_str : ∀ ws : List Str, toPs (strL ws) = some (ws.map PyData.str)
  | [] => rfl
  | w :: ws => by
    show (match toPs (strL ws) with | some ps => some (PyData.str w :: ps) | none => none) = _
    rw [toPs_str ws]
    rfl
theorem canLay_str : ∀ {ws : List Str}, (∀ w ∈ ws, PyData.strOk w = true) → PyData.canLayAll0 (ws.map PyData.str) = true
  | [], _ => rfl
  | w :: ws, h => by
    show (PyData.strOk w && PyData.canLayAll0 (ws.map PyData.str)) = true
    rw [h w List.mem_cons_self, canLay_str fun x hx => h x (List.mem_cons_of_mem _ hx)]
    rfl
theorem depth_str : ∀ ws : List Str, PyData.depthAll (ws.map PyData.str) = 0
  | [] => rfl
  | w :: ws => by
    show max 0 (PyData.depthAll (ws.map PyData.str)) = 0
    rw [depth_str ws]
    rfl
theorem eqv_str : ∀ xs ys : List Str, PyData.eqvAll (xs.map PyData.str) (ys.map PyData.str) = decide (xs = ys)
  | [], [] => rfl
  | [], _ :: _ => rfl
  | _ :: _, [] => rfl
  | x :: xs, y :: ys => by
    show ((x == y) && PyData.eqvAll (xs.map PyData.str) (ys.map PyData.str)) = _
    rw [eqv_str xs ys]
    by_cases h : x = y
    · subst h
      simp
    · simp [h]
theorem shaped_str {ws : List Str} (h : ∀ w ∈ ws, PyData.strOk w = true) : SeqAt.shaped (.list (ws.map PyData.str)) = true := by
  show (PyData.canLayAll0 (ws.map PyData.str) && decide (PyData.depthAll (ws.map PyData.str) + 1 ≤ 64)) = true
  rw [canLay_str h, depth_str]
  rfl
section
variable {T : Tb} {om : Om} {xs ys ws : List Str}
theorem o_eqls (hx : ∀ w ∈ xs, PyData.strOk w = true) (hy : ∀ w ∈ ys, PyData.strOk w = true) : cmp T .eq (.lst (strL xs)) (.lst (strL ys)) om = .ok (decide (xs = ys)) om := by
  show (match (toPs (strL xs)).map PyData.list, (toPs (strL ys)).map PyData.list with
    | some p, some q => if (SeqAt.shaped p && SeqAt.shaped q) = true then Rs.ok (PyData.eqv p q) om else .stuck
    | _, _ => .stuck) = _
  rw [toPs_str, toPs_str]
  show (if (SeqAt.shaped (.list (xs.map PyData.str)) && SeqAt.shaped (.list (ys.map PyData.str))) = true then Rs.ok (PyData.eqvAll (xs.map PyData.str) (ys.map PyData.str)) om else .stuck) = _
  rw [shaped_str hx, shaped_str hy, eqv_str]
  rfl
theorem o_nels (hx : ∀ w ∈ xs, PyData.strOk w = true) (hy : ∀ w ∈ ys, PyData.strOk w = true) : cmp T .ne (.lst (strL xs)) (.lst (strL ys)) om = .ok (!decide (xs = ys)) om := by
  show (match (toPs (strL xs)).map PyData.list, (toPs (strL ys)).map PyData.list with
    | some p, some q => if (SeqAt.shaped p && SeqAt.shaped q) = true then Rs.ok (!PyData.eqv p q) om else .stuck
    | _, _ => .stuck) = _
  rw [toPs_str, toPs_str]
  show (if (SeqAt.shaped (.list (xs.map PyData.str)) && SeqAt.shaped (.list (ys.map PyData.str))) = true then Rs.ok (!PyData.eqvAll (xs.map PyData.str) (ys.map PyData.str)) om else .stuck) = _
  rw [shaped_str hx, shaped_str hy, eqv_str]
  rfl
theorem j_ok {s : Str} (h : (ws.map Str.length).sum + ws.length * s.length ≤ 1000000) : mbf .join s (.lst (strL ws)) om = .ok (.str (Txt.join s ws)) om := by
  show (match strsD (strL ws) with
    | some (ys : List Str) => if (ys.map Str.length).sum + ys.length * s.length ≤ 1000000 then Rs.ok (D.str (Txt.join s ys)) om else .stuck
    | none => .stuck) = _
  rw [strs_ok]
  exact if_pos h
theorem cut_map {α : Type} (f : α → D) (l : List α) (lo hi : Option Int) : cutD (l.map f) lo hi = ((l.drop (HT.sIx l.length 0 lo)).take (HT.sIx l.length l.length hi - HT.sIx l.length 0 lo)).map f := by
  unfold cutD
  rw [List.length_map, List.map_take, List.map_drop]
theorem cut_take {α : Type} (f : α → D) (l : List α) (k : Nat) : cutD (l.map f) none (some (k : Int)) = (l.take k).map f := by
  rw [cut_map, HT.sIx_none, HT.sIx_nat, List.drop_zero, Nat.sub_zero]
  by_cases h : k ≤ l.length
  · rw [Nat.min_eq_left h]
  · rw [Nat.min_eq_right (by omega), List.take_of_length_le (by omega), List.take_of_length_le (by omega)]
theorem cut_one {α : Type} (f : α → D) (l : List α) (k : Nat) : cutD (l.map f) (some (k : Int)) (some ((k : Int) + 1)) = ((l.drop k).take 1).map f := by
  have e : ((k : Int) + 1) = ((k + 1 : Nat) : Int) := by omega
  rw [cut_map, e, HT.sIx_nat, HT.sIx_nat]
  by_cases h : k < l.length
  · rw [Nat.min_eq_left (by omega), Nat.min_eq_left (by omega)]
    congr 2
    omega
  · rw [Nat.min_eq_right (by omega), Nat.min_eq_right (by omega), List.drop_of_length_le (by omega), List.drop_of_length_le (by omega)]
    simp
end
/-! ### numbers as texts -/
def num (k : Nat) : Str := Str.ofString (toString ((k : Nat) : Int))
theorem tl_n (k : Nat) : (num k).cps.toList = TL.numL k := TL.tl_num k
theorem num_len {k m : Nat} (hm : 0 < m) (h : k < 10 ^ m) : (num k).length ≤ m := by
  rw [TL.len_tl, TL.tl, tl_n]
  exact TL.numL_len hm h
theorem strOk_of {s : Str} (h : ∀ c ∈ s.cps.toList, c < 128) : PyData.strOk s = true := by
  unfold PyData.strOk
  rw [Array.all_eq_true_iff_forall_mem]
  intro c hc
  exact decide_eq_true (by have := h c (Array.mem_toList_iff.mpr hc); omega)
theorem strOk_lit {s : Str} (l : List Nat) (e : s.cps.toList = l) (h : l.all (· < 128) = true) : PyData.strOk s = true := strOk_of fun c hc => by
  rw [e] at hc
  exact of_decide_eq_true (List.all_eq_true.mp h c hc)
theorem num_ok (k : Nat) : PyData.strOk (num k) = true := strOk_of fun c hc => by
  rw [tl_n] at hc
  have := TL.numL_digits k c hc
  omega
theorem num_inj {j k : Nat} (h : num j = num k) : j = k := TL.numL_inj (by rw [← tl_n, ← tl_n, h])
theorem num_free {k s : Nat} (h : s < 48 ∨ 57 < s) : s ∉ TL.tl (num k) := by
  rw [TL.tl, tl_n]
  exact TL.numL_free h
theorem num_ne (k : Nat) : (num k).cps.toList ≠ [] := by
  rw [tl_n]
  exact TL.numL_ne k
theorem num_zero (k : Nat) (h : (TL.numL k).head? = some 48) : k = 0 := by
  induction k using Nat.strongRecOn with
  | _ k ih =>
    by_cases hk : k < 10
    · rw [TL.numL_lt hk] at h
      have e : 48 + k = 48 := Option.some.inj h
      omega
    · rw [TL.numL_step (by omega)] at h
      rw [List.head?_append] at h
      have hn := TL.numL_ne (k / 10)
      cases q : TL.numL (k / 10) with
      | nil => exact absurd q hn
      | cons c r =>
        rw [q] at h
        have z := ih (k / 10) (by omega) (by rw [q]; exact h)
        omega
theorem b_str {T : Tb} {om : Om} {k : Nat} (h : k < 2 ^ 200) : biD T .str (.int (k : Int)) om = .ok (.str (num k)) om := by
  show (if ((k : Int)).natAbs.log2 < 1920 then _ else _) = _
  rw [if_pos (Nat.lt_trans (log2_small (k := 200) (by rw [Int.natAbs_natCast]; exact h) (by decide)) (by decide))]
  rfl
theorem b_int {T : Tb} {om : Om} {k : Nat} (h : (num k).length ≤ 640) : biD T .int (.str (num k)) om = .ok (.int (k : Int)) om := by
  show (match PySem.intText? (num k) with
    | some n => if (num k).length ≤ 640 then Rs.ok (D.int n) om else .stuck
    | none => .stuck) = _
  have e : PySem.intText? (num k) = some (k : Int) := TL.int_num (by rw [TL.len_tl, TL.tl, tl_n] at h; omega)
  rw [e]
  exact if_pos h
theorem in_dig {T : Tb} {om : Om} {c : Nat} : cmp T .inn (.str ⟨#[c]⟩) (.str (Str.ofString "0123456789")) om = .ok (decide (c ∈ [48, 49, 50, 51, 52, 53, 54, 55, 56, 57])) om := by
  show opt (some (!(Builtin.Str.occurrences (Str.ofString "0123456789") ⟨#[c]⟩ 0 (Str.ofString "0123456789").length 1).isEmpty)) om = _
  have z := StrLaws.found_one (Str.ofString "0123456789") c
  exact congrArg (fun b => Rs.ok b om) z
theorem bls_true : ∀ (n : Nat), blsD (List.replicate n (.bl true)) = some (List.replicate n true)
  | 0 => rfl
  | n + 1 => by
    rw [List.replicate_succ, List.replicate_succ]
    show (blsD (List.replicate n (.bl true))).map (true :: ·) = _
    rw [bls_true n]
    rfl
theorem b_all {T : Tb} {om : Om} {n : Nat} : biD T .all (.lst (List.replicate n (.bl true))) om = .ok (.bl true) om := by
  show (match blsD (List.replicate n (.bl true)) with
    | some bs => Rs.ok (D.bl (bs.all id)) om
    | none => .stuck) = _
  rw [bls_true]
  simp
/-! ### the def of both papers that reads a number's text -/
def wholeB : S := (.seq (.ite (.or (.no (.ch .lt .le (.k (.int 0)) (.bi .len (.v 0)) (.k (.int 60)))) (.no (.bi .all (.comp (.one 1) (.itl (.v 0)) (.k (.bl true)) (.cm .inn (.v 1) (.k (.str "0123456789"))))))) (.seq (.ret (.k .non)) .skip) .skip) (.seq (.ret (.ite (.an (.cm .eq (.ix (.v 0) (.k (.int 0))) (.k (.str "0"))) (.cm .ne (.v 0) (.k (.str "0")))) (.k .non) (.bi .int (.v 0)))) .skip))
theorem num0 : num 0 = Str.ofString "0" := rfl
theorem whole_ok {T : Tb} {om : Om} {k : Nat} (h : (num k).length ≤ 60) : evS T wholeB [.val (.str (num k)), .no] om = .ret (.int k) om := by
  have hl : biD T .len (.str (num k)) om = .ok (.int ((num k).length : Int)) om := if_pos (by omega)
  have hp : 0 < (num k).length := by
    rw [TL.len_tl, TL.tl]
    exact List.length_pos_iff.mpr (num_ne k)
  have hc : cmpG T (.k (.bl true)) (.cm .inn (.v 1) (.k (.str "0123456789"))) (.one 1) [.val (.str (num k)), .no] ((num k).cps.toList.map fun c => .str ⟨#[c]⟩) om = .ok (List.replicate (num k).length (.bl true)) om := by
    have z := comp_map (T := T) (sl := [.val (.str (num k)), .no]) (om := om) (i := 1) (cond := .k (.bl true)) (elt := .cm .inn (.v 1) (.k (.str "0123456789"))) (f := fun c : Nat => .str ⟨#[c]⟩) (g := fun _ => .bl true) (num k).cps.toList (fun c hc => by
      have hd : c ∈ [48, 49, 50, 51, 52, 53, 54, 55, 56, 57] := by
        rw [tl_n] at hc
        have := TL.numL_digits k c hc
        simp
        omega
      refine ⟨by simp, ?_⟩
      simp only [r_cm, r_cm1, r_cm2, r_k, List.set_cons_succ, List.set_cons_zero]
      rw [r_v (d := .str ⟨#[c]⟩) rfl, r_cm1, r_k, r_cm2, in_dig, decide_eq_true hd, r_bl])
    rw [z]
    congr 1
    rw [List.map_const', ← TL.len_tl]
  obtain ⟨c, r, hcr⟩ : ∃ c r, (num k).cps.toList = c :: r := by
    cases q : (num k).cps.toList with
    | nil => exact absurd q (num_ne k)
    | cons c r => exact ⟨c, r, rfl⟩
  have hx : ixD (.str (num k)) (.int 0) om = .ok (.str ⟨#[c]⟩) om := by
    show (if (num k).length ≤ 1000000 then match atI (num k).cps.toList 0 with | some c => Rs.ok (D.str ⟨#[c]⟩) om | none => .stuck else .stuck) = _
    rw [if_pos (by omega), hcr, atI0]
  have hco : PyData.strOk ⟨#[c]⟩ = true := strOk_of fun x hx => by
    have hx' : x ∈ [c] := hx
    rw [List.mem_singleton.mp hx']
    have := TL.numL_digits k c (by rw [← tl_n, hcr]; exact List.mem_cons_self)
    omega
  have h0 : PyData.strOk (Str.ofString "0") = true := strOk_lit [48] rfl rfl
  have hz : kTr (kAn T (.ok (.bl ((⟨#[c]⟩ : Str) == Str.ofString "0")) om) (.cm .ne (.v 0) (.k (.str "0"))) [.val (.str (num k)), .no]) = .ok false om := by
    by_cases e : ((⟨#[c]⟩ : Str) == Str.ofString "0") = true
    · have hc48 : c = 48 := by
        have e1 : (⟨#[c]⟩ : Str) = Str.ofString "0" := eq_of_beq e
        have e2 : ((⟨#[c]⟩ : Str)).cps.toList = (Str.ofString "0").cps.toList := by rw [e1]
        have e3 : [c] = [48] := e2
        exact List.singleton_inj.mp e3
      have hk : k = 0 := num_zero k (by rw [← tl_n, hcr, hc48]; rfl)
      rw [e]
      subst hk
      simp [o_nes, num0, h0]
    · have e' : ((⟨#[c]⟩ : Str) == Str.ofString "0") = false := by
        cases q : ((⟨#[c]⟩ : Str) == Str.ofString "0") with
        | true => exact absurd q e
        | false => rfl
      rw [e']
      rfl
  have hl2 : (num k).cps.toList.length ≤ 1000000 := by
    rw [← TL.len_tl]
    omega
  unfold wholeB
  have he : evE T (.v 0) [.val (.str (num k)), .no] om = .ok (.str (num k)) om := r_v rfl
  have hm : List.map (fun c : Nat => D.str ⟨#[c]⟩) (num k).cps.toList = List.map (fun c : Nat => D.str ⟨#[c]⟩) (num k).cps.toList := rfl
  have hbound : (0 : Int) < ((num k).length : Int) := by omega
  have hb2 : ((num k).length : Int) ≤ 60 := by omega
  rw [z_seq, z_ite, r_or, r_no, r_ch, r_k, r_ch1, r_bi, he, r_bi1, hl, r_ch2, o_lt, decide_eq_true hbound, r_ch3, r_k, r_cm2, o_le, decide_eq_true hb2, r_bl, r_no1]
  simp only [Bool.not_true]
  rw [r_or2, r_no, r_bi, r_comp, r_itl, he, r_itl3, r_comp1, if_pos (by rw [List.length_map]; exact hl2), wi_1]
  simp only [List.set_cons_succ, List.set_cons_zero]
  rw [hc, r_comp2, r_bi1, b_all, r_no1]
  simp only [Bool.not_true]
  rw [r_tr1, z_ite2, z_skip, z_seq1, z_seq, z_ret, r_ite, r_an, r_cm, r_ix, he, r_ix1, r_k, r_ix2, hx, r_cm1, r_k, r_cm2, o_eqs hco h0, r_bl, hz, r_ite2, r_bi, he, r_bi1, b_int (by omega), z_ret1, z_seq2]
section
variable {om : Om} {n : Int} {b : Bool} {t : Str} {ds : List D}
@[simp] theorem i_tuple_int : kIsi (.ok (.int n) om) [.tuple] = .ok (.bl false) om := rfl
@[simp] theorem i_tuple_bl : kIsi (.ok (.bl b) om) [.tuple] = .ok (.bl false) om := rfl
@[simp] theorem i_tuple_non : kIsi (.ok .non om) [.tuple] = .ok (.bl false) om := rfl
@[simp] theorem i_tuple_str : kIsi (.ok (.str t) om) [.tuple] = .ok (.bl false) om := rfl
@[simp] theorem i_tuple_lst : kIsi (.ok (.lst ds) om) [.tuple] = .ok (.bl false) om := rfl
@[simp] theorem i_tuple_tup : kIsi (.ok (.tup ds) om) [.tuple] = .ok (.bl true) om := rfl
@[simp] theorem i_list_int : kIsi (.ok (.int n) om) [.list] = .ok (.bl false) om := rfl
@[simp] theorem i_list_bl : kIsi (.ok (.bl b) om) [.list] = .ok (.bl false) om := rfl
@[simp] theorem i_list_non : kIsi (.ok .non om) [.list] = .ok (.bl false) om := rfl
@[simp] theorem i_list_str : kIsi (.ok (.str t) om) [.list] = .ok (.bl false) om := rfl
@[simp] theorem i_list_lst : kIsi (.ok (.lst ds) om) [.list] = .ok (.bl true) om := rfl
@[simp] theorem i_list_tup : kIsi (.ok (.tup ds) om) [.list] = .ok (.bl false) om := rfl
@[simp] theorem i_int_int : kIsi (.ok (.int n) om) [.int] = .ok (.bl true) om := rfl
@[simp] theorem i_int_bl : kIsi (.ok (.bl b) om) [.int] = .ok (.bl true) om := rfl
@[simp] theorem i_int_non : kIsi (.ok .non om) [.int] = .ok (.bl false) om := rfl
@[simp] theorem i_int_str : kIsi (.ok (.str t) om) [.int] = .ok (.bl false) om := rfl
@[simp] theorem i_int_lst : kIsi (.ok (.lst ds) om) [.int] = .ok (.bl false) om := rfl
@[simp] theorem i_int_tup : kIsi (.ok (.tup ds) om) [.int] = .ok (.bl false) om := rfl
@[simp] theorem i_bool_int : kIsi (.ok (.int n) om) [.bool] = .ok (.bl false) om := rfl
@[simp] theorem i_bool_bl : kIsi (.ok (.bl b) om) [.bool] = .ok (.bl true) om := rfl
@[simp] theorem i_bool_non : kIsi (.ok .non om) [.bool] = .ok (.bl false) om := rfl
@[simp] theorem i_bool_str : kIsi (.ok (.str t) om) [.bool] = .ok (.bl false) om := rfl
@[simp] theorem i_bool_lst : kIsi (.ok (.lst ds) om) [.bool] = .ok (.bl false) om := rfl
@[simp] theorem i_bool_tup : kIsi (.ok (.tup ds) om) [.bool] = .ok (.bl false) om := rfl
@[simp] theorem i_str_int : kIsi (.ok (.int n) om) [.str] = .ok (.bl false) om := rfl
@[simp] theorem i_str_bl : kIsi (.ok (.bl b) om) [.str] = .ok (.bl false) om := rfl
@[simp] theorem i_str_non : kIsi (.ok .non om) [.str] = .ok (.bl false) om := rfl
@[simp] theorem i_str_str : kIsi (.ok (.str t) om) [.str] = .ok (.bl true) om := rfl
@[simp] theorem i_str_lst : kIsi (.ok (.lst ds) om) [.str] = .ok (.bl false) om := rfl
@[simp] theorem i_str_tup : kIsi (.ok (.tup ds) om) [.str] = .ok (.bl false) om := rfl
end

/-! ### two values the same -/
def sameB (f : Nat) : S := (.seq (.ite (.or (.isi [.tuple] (.v 1)) (.isi [.list] (.v 1))) (.seq (.ite (.or (.cm .ne (.isi [.tuple] (.v 1)) (.isi [.tuple] (.v 0))) (.cm .ne (.isi [.list] (.v 1)) (.isi [.list] (.v 0)))) (.seq (.ret (.k (.bl false))) .skip) .skip) (.seq (.ite (.cm .ne (.bi .len (.v 0)) (.bi .len (.v 1))) (.seq (.ret (.k (.bl false))) .skip) .skip) (.seq (.fo (.one 2) (.rng1 (.bi .len (.v 1))) (.seq (.ite (.no (.call f [] (.cons (.ix (.v 0) (.v 2)) (.cons (.ix (.v 1) (.v 2)) .nil)))) (.seq (.ret (.k (.bl false))) .skip) .skip) .skip)) (.seq (.ret (.k (.bl true))) .skip)))) .skip) (.seq (.ite (.or (.cm .is (.v 1) (.k .non)) (.isi [.bool] (.v 1))) (.seq (.ret (.an (.cm .eq (.cm .is (.v 0) (.k .non)) (.cm .is (.v 1) (.k .non))) (.an (.or (.cm .is (.v 1) (.k .non)) (.isi [.bool] (.v 0))) (.cm .eq (.v 0) (.v 1))))) .skip) .skip) (.seq (.ite (.isi [.int] (.v 1)) (.seq (.ret (.an (.isi [.int] (.v 0)) (.an (.no (.isi [.bool] (.v 0))) (.cm .eq (.v 0) (.v 1))))) .skip) .skip) (.seq (.ret (.an (.isi [.str] (.v 0)) (.cm .eq (.v 0) (.v 1)))) .skip))))
def SameD : Nat → D → Prop
  | 0, d => (∃ i, d = .int i) ∨ (∃ s, d = .str s ∧ PyData.strOk s = true) ∨ (∃ b, d = .bl b) ∨ d = .non
  | n + 1, d => SameD 0 d ∨ ∃ ds : List D, (d = .lst ds ∨ d = .tup ds) ∧ ds.length < 2 ^ 62 ∧ ∀ x ∈ ds, SameD n x
section
variable {p : Prog} {wf f : Nat} {om : Om}
theorem same_flat {T : Tb} {d : D} (h : SameD 0 d) : evS T (sameB f) [.val d, .val d, .no] om = .ret (.bl true) om := by
  rw [SameD] at h
  rcases h with ⟨i, rfl⟩ | ⟨s, rfl, hs⟩ | ⟨b, rfl⟩ | rfl
  · simp [sameB]
  · simp [sameB, o_eqs hs hs]
  · simp [sameB]
  · have e : cmp T .eq .non .non om = .ok true om := rfl
    simp [sameB, e]
theorem same_loop {T : Tb} {d : D} {ds : List D} (hd : d = .lst ds ∨ d = .tup ds) (hl : ds.length < 2 ^ 62) (st : ∀ x ∈ ds, T.call f [x, x] om = .ok (.bl true) om) : evS T (sameB f) [.val d, .val d, .no] om = .ret (.bl true) om := by
  have lp : ∀ d : D, (d = .lst ds ∨ d = .tup ds) → ∃ sl', forG T (.seq (.ite (.no (.call f [] (.cons (.ix (.v 0) (.v 2)) (.cons (.ix (.v 1) (.v 2)) .nil)))) (.seq (.ret (.k (.bl false))) .skip) .skip) .skip) (.one 2) ((List.range ds.length).map fun (k : Nat) => .int k) [.val d, .val d, .no] om = .next sl' om := by
    intro d hd
    obtain ⟨sl', om', e, ⟨_, _, rfl⟩⟩ := for_keep (T := T) (i := 2) (b := .seq (.ite (.no (.call f [] (.cons (.ix (.v 0) (.v 2)) (.cons (.ix (.v 1) (.v 2)) .nil)))) (.seq (.ret (.k (.bl false))) .skip) .skip) .skip) (f := fun k : Nat => D.int k) (fun _ sl om' => ∃ c, sl = [.val d, .val d, c] ∧ om' = om) (List.range ds.length) [] [.val d, .val d, .no] om ⟨_, rfl, rfl⟩ (fun done k hk sl om1 hI => by
      obtain ⟨c, rfl, rfl⟩ := hI
      have hk' : k < ds.length := List.mem_range.mp hk
      have hx : atI ds (k : Int) = some ds[k] := by rw [atI_nat, List.getElem?_eq_getElem hk']
      have hc := st ds[k] (List.getElem_mem hk')
      refine ⟨[.val d, .val d, .val (.int k)], om1, ?_, _, rfl, rfl⟩
      rcases hd with rfl | rfl
      · simp [x_l hx, hc]
      · simp [x_t hx, hc])
    exact ⟨sl', e⟩
  obtain ⟨sl', e⟩ := lp d hd
  have hr : ∀ om : Om, kR1 (.ok (.int (ds.length : Int)) om) = .ok ((List.range ds.length).map fun (k : Nat) => .int k) om := fun om => by
    rw [r_rng1a (by omega) (by omega), Int.toNat_natCast]
  rcases hd with rfl | rfl
  · simp [sameB, hr, e]
  · simp [sameB, hr, e]
theorem same_ok (hp : p.defs f = some ⟨2, 3, sameB f, none⟩) (hf : p.fresh f = false) : ∀ (n : Nat) (d : D), SameD n d → ∀ m, n < m → callN p wf m f [d, d] om = .ok (.bl true) om := by
  intro n
  induction n with
  | zero =>
    intro d h m hm
    obtain ⟨m, rfl⟩ : ∃ k, m = k + 1 := ⟨m - 1, by omega⟩
    exact call_ret hp rfl hf (same_flat h)
  | succ n ih =>
    intro d h m hm
    obtain ⟨m, rfl⟩ : ∃ k, m = k + 1 := ⟨m - 1, by omega⟩
    rw [SameD] at h
    rcases h with h | ⟨ds, hd, hl, h⟩
    · exact call_ret hp rfl hf (same_flat h)
    · exact call_ret hp rfl hf (same_loop hd hl fun x hx => ih x (h x hx) m (by omega))
end

/-! ### loops over a whole list -/
section
variable {T : Tb} {sl : Sl} {om : Om} {i : Nat}
theorem for_all {b : S} {α : Type} {f : α → D} (all : List α) (I : List α → Sl → Om → Prop) (h0 : I [] sl om)
    (st : ∀ done x rest, all = done ++ x :: rest → ∀ sl om, I done sl om → ∃ sl' om', evS T b (sl.set i (.val (f x))) om = .next sl' om' ∧ I (done ++ [x]) sl' om') :
    ∃ sl' om', forG T b (.one i) (all.map f) sl om = .next sl' om' ∧ I all sl' om' := by
  have key : ∀ (rest done : List α) (sl : Sl) (om : Om), all = done ++ rest → I done sl om → ∃ sl' om', forG T b (.one i) (rest.map f) sl om = .next sl' om' ∧ I all sl' om' := by
    intro rest
    induction rest with
    | nil =>
      intro done sl om e h
      rw [List.append_nil] at e
      subst e
      exact ⟨sl, om, rfl, h⟩
    | cons x rest ih =>
      intro done sl om e h
      obtain ⟨sl1, om1, e1, h1⟩ := st done x rest e sl om h
      obtain ⟨sl2, om2, e2, h2⟩ := ih (done ++ [x]) sl1 om1 (by rw [e, List.append_assoc]; rfl) h1
      exact ⟨sl2, om2, by rw [List.map_cons, f_cons, e1, f_n, e2], h2⟩
  exact key all [] sl om rfl h0
theorem for_allT {b : S} {α : Type} {is : List Nat} {f : α → List D} (hf : ∀ x, (f x).length = is.length) (all : List α) (I : List α → Sl → Om → Prop) (h0 : I [] sl om)
    (st : ∀ done x rest, all = done ++ x :: rest → ∀ sl om, I done sl om → ∃ sl' om', evS T b (sets sl is (f x)) om = .next sl' om' ∧ I (done ++ [x]) sl' om') :
    ∃ sl' om', forG T b (.many is) (all.map fun x => .tup (f x)) sl om = .next sl' om' ∧ I all sl' om' := by
  have key : ∀ (rest done : List α) (sl : Sl) (om : Om), all = done ++ rest → I done sl om → ∃ sl' om', forG T b (.many is) (rest.map fun x => .tup (f x)) sl om = .next sl' om' ∧ I all sl' om' := by
    intro rest
    induction rest with
    | nil =>
      intro done sl om e h
      rw [List.append_nil] at e
      subst e
      exact ⟨sl, om, rfl, h⟩
    | cons x rest ih =>
      intro done sl om e h
      obtain ⟨sl1, om1, e1, h1⟩ := st done x rest e sl om h
      obtain ⟨sl2, om2, e2, h2⟩ := ih (done ++ [x]) sl1 om1 (by rw [e, List.append_assoc]; rfl) h1
      exact ⟨sl2, om2, by rw [List.map_cons, f_consT (hf x), e1, f_n, e2], h2⟩
  exact key all [] sl om rfl h0
end
theorem flat_le {α : Type} {b : Nat} : ∀ {l : List (List α)}, (∀ x ∈ l, x.length ≤ b) → l.flatten.length ≤ l.length * b
  | [], _ => by simp
  | x :: l, h => by
    have h1 := h x List.mem_cons_self
    have h2 := flat_le (l := l) fun y hy => h y (List.mem_cons_of_mem _ hy)
    rw [List.flatten_cons, List.length_append, List.length_cons, Nat.succ_mul]
    omega
theorem sum_le {b : Nat} : ∀ {l : List Str}, (∀ x ∈ l, x.length ≤ b) → (l.map Str.length).sum ≤ l.length * b
  | [], _ => by simp
  | x :: l, h => by
    have h1 := h x List.mem_cons_self
    have h2 := sum_le (l := l) fun y hy => h y (List.mem_cons_of_mem _ hy)
    rw [List.map_cons, List.sum_cons, List.length_cons, Nat.succ_mul]
    omega
theorem joinL_len (S : List Nat) : ∀ l : List (List Nat), (TL.joinL S l).length ≤ (l.map List.length).sum + l.length * S.length
  | [] => by simp [TL.joinL]
  | [p] => by simp [TL.joinL]
  | p :: q :: r => by
    have h := joinL_len S (q :: r)
    simp only [TL.joinL, List.length_append, List.map_cons, List.sum_cons, List.length_cons, Nat.succ_mul] at h ⊢
    omega
theorem join_len (y : Str) (ws : List Str) : (Txt.join y ws).length ≤ (ws.map Str.length).sum + ws.length * y.length := by
  rw [TL.len_tl, TL.join_eq, TL.tl_join]
  have h := joinL_len (TL.tl y) (ws.map TL.tl)
  rw [List.map_map, List.length_map] at h
  have e : ws.map (List.length ∘ TL.tl) = ws.map Str.length := List.map_congr_left fun w _ => (TL.len_tl w).symm
  rw [e, ← TL.len_tl] at h
  exact h
/-! ### dots -/
def dots (k : Nat) : List Str := List.replicate k (Str.ofString ".")
theorem o_dots {T : Tb} {om : Om} {k : Nat} (h : k ≤ 1000) : bop T .mul (.lst [.str (Str.ofString ".")]) (.int (k : Int)) om = .ok (.lst (strL (dots k))) om := by
  rw [o_mull, if_pos ⟨by omega, by omega, by simp; omega⟩, Int.toNat_natCast]
  congr 2
  unfold strL dots
  rw [List.map_replicate]
  induction k with
  | zero => rfl
  | succ k ih =>
    rw [List.replicate_succ, List.replicate_succ, List.flatten_cons, ih (by omega)]
    rfl
theorem dots_ok {k : Nat} : ∀ w ∈ dots k, w = Str.ofString "." := fun w h => (List.mem_replicate.mp h).2

/-! ### data that may be laid out -/
def Lay (n : Nat) (d : D) : Prop := ∃ q, toP d = some q ∧ PyData.canLay0 q = true ∧ PyData.depth q ≤ n
theorem Lay.up {n k : Nat} {d : D} (h : Lay n d) (hk : n ≤ k) : Lay k d := by
  obtain ⟨q, h1, h2, h3⟩ := h
  exact ⟨q, h1, h2, by omega⟩
theorem lays {n : Nat} : ∀ {ds : List D}, (∀ x ∈ ds, Lay n x) → ∃ qs, toPs ds = some qs ∧ PyData.canLayAll0 qs = true ∧ PyData.depthAll qs ≤ n
  | [], _ => ⟨[], rfl, rfl, Nat.zero_le _⟩
  | d :: ds, h => by
    obtain ⟨q, h1, h2, h3⟩ := h d List.mem_cons_self
    obtain ⟨qs, k1, k2, k3⟩ := lays (ds := ds) fun x hx => h x (List.mem_cons_of_mem _ hx)
    refine ⟨q :: qs, ?_, ?_, ?_⟩
    · rw [toPs, h1, k1]
    · show (PyData.canLay0 q && PyData.canLayAll0 qs) = true
      rw [h2, k2]
      rfl
    · show max (PyData.depth q) (PyData.depthAll qs) ≤ n
      omega
theorem lay_tup {n : Nat} {ds : List D} (h : ∀ x ∈ ds, Lay n x) : Lay (n + 1) (.tup ds) := by
  obtain ⟨qs, k1, k2, k3⟩ := lays h
  exact ⟨.tuple qs, by rw [toP, k1]; rfl, k2, Nat.succ_le_succ k3⟩
theorem lay_lst {n : Nat} {ds : List D} (h : ∀ x ∈ ds, Lay n x) : Lay (n + 1) (.lst ds) := by
  obtain ⟨qs, k1, k2, k3⟩ := lays h
  exact ⟨.list qs, by rw [toP, k1]; rfl, k2, Nat.succ_le_succ k3⟩
theorem lay_int {n : Nat} {i : Int} : Lay n (.int i) := ⟨.int i, rfl, rfl, Nat.zero_le _⟩
theorem lay_str {n : Nat} {t : Str} (h : PyData.strOk t = true) : Lay n (.str t) := ⟨.str t, rfl, h, Nat.zero_le _⟩
theorem inD_some {n : Nat} {x : D} {ys : List D} (hx : Lay n x) (hy : ∀ y ∈ ys, Lay n y) (hn : n < 64) : ∃ b, inD x ys = some b := by
  obtain ⟨q, h1, h2, h3⟩ := hx
  obtain ⟨qs, k1, k2, k3⟩ := lays hy
  unfold inD
  rw [h1, k1]
  have e : (SeqAt.shaped q && SeqAt.shaped (.list qs)) = true := by
    have e1 : SeqAt.shaped q = true := by
      unfold SeqAt.shaped
      rw [h2, decide_eq_true (by omega)]
      rfl
    have e2 : SeqAt.shaped (.list qs) = true := by
      show (PyData.canLayAll0 qs && decide (PyData.depthAll qs + 1 ≤ 64)) = true
      rw [k2, decide_eq_true (by omega)]
      rfl
    rw [e1, e2]
    rfl
  exact ⟨_, if_pos e⟩
theorem o_nin {T : Tb} {x : D} {ys : List D} {b : Bool} {om : Om} (h : inD x ys = some b) : cmp T .nin x (.lst ys) om = .ok (!b) om := by
  show opt ((inD x ys).map (!·)) om = _
  rw [h]
  rfl
theorem o_inn {T : Tb} {x : D} {ys : List D} {b : Bool} {om : Om} (h : inD x ys = some b) : cmp T .inn x (.lst ys) om = .ok b om := by
  show opt (inD x ys) om = _
  rw [h]
  rfl
end PD

set_option Elab.async false
set_option linter.all false
set_option maxRecDepth 100000
set_option maxHeartbeats 1000000
/-! K01M: watchers as plain data: expressions, statements, blocks; their words, their trees. -/
namespace K01
open PySem L2 PD
abbrev st (s : String) : Str := Str.ofString s
inductive Ex where
  | kind | var (x : Str) | lit (k : Nat) | op (s : Str) (a b : Ex)
def Ex.d : Ex → D
  | .kind => .tup [.str (st "kind")]
  | .var x => .tup [.str (st "variable"), .str x]
  | .lit k => .tup [.str (st "number"), .int k]
  | .op s a b => .tup [.str s, a.d, b.d]
def Ex.ws : Ex → List Str
  | .kind => [st "kind"]
  | .var x => [x]
  | .lit k => [num k]
  | .op s a b => s :: (a.ws ++ b.ws)
def Ex.dep : Ex → Nat
  | .op _ a b => max a.dep b.dep + 1
  | _ => 1
def Ex.size : Ex → Nat
  | .op _ a b => a.size + b.size + 1
  | _ => 1
def signs : List Str := [st "+", st "-", st "*", st "/", st "mod", st "<", st "="]
def Ex.ok (ns : List Str) : Ex → Prop
  | .kind => True
  | .var x => x ∈ ns
  | .lit k => k ≤ 65535
  | .op s a b => s ∈ signs ∧ a.ok ns ∧ b.ok ns
mutual
inductive St where
  | tell (e : Ex) | set (x : Str) (e : Ex) | draw (x : Str) (k : Nat) | ite (e : Ex) (a b : Bl)
inductive Bl where
  | nil | cons (s : St) (b : Bl)
end
mutual
def St.d : St → D
  | .tell e => .tup [.str (st "tell"), e.d]
  | .set x e => .tup [.str (st "set"), .str x, e.d]
  | .draw x k => .tup [.str (st "draw"), .str x, .int k]
  | .ite e a b => .tup [.str (st "if"), e.d, .tup a.ds, .tup b.ds]
def Bl.ds : Bl → List D
  | .nil => []
  | .cons s b => s.d :: b.ds
end
def Bl.emp : Bl → Bool
  | .nil => true
  | .cons _ _ => false
mutual
def St.ws : St → List Str
  | .tell e => st "tell" :: e.ws
  | .set x e => st "set" :: x :: e.ws
  | .draw x k => [st "draw", x, num k]
  | .ite e a b => st "if" :: (e.ws ++ (a.ws ++ ((if b.emp = true then [] else st "else" :: b.ws) ++ [st "end"])))
def Bl.ws : Bl → List Str
  | .nil => []
  | .cons s b => s.ws ++ b.ws
end
mutual
/-- may be read with so much room for ifs, with these names -/
def St.ok (ns : List Str) : Nat → St → Prop
  | _, .tell e => e.ok ns ∧ e.dep ≤ 6
  | _, .set x e => x ∈ ns ∧ e.ok ns ∧ e.dep ≤ 6
  | _, .draw x k => x ∈ ns ∧ 1 ≤ k ∧ k ≤ 8
  | 0, .ite _ _ _ => False
  | n + 1, .ite e a b => e.ok ns ∧ e.dep ≤ 6 ∧ a.ok ns n ∧ b.ok ns n
def Bl.ok (ns : List Str) : Nat → Bl → Prop
  | _, .nil => True
  | n, .cons s b => s.ok ns n ∧ b.ok ns n
end
mutual
/-- the draws in it -/
def St.dr : St → Nat
  | .draw _ _ => 1
  | .ite _ a b => a.dr + b.dr
  | _ => 0
def Bl.dr : Bl → Nat
  | .nil => 0
  | .cons s b => s.dr + b.dr
end
mutual
/-- the statements in it -/
def St.cnt : St → Nat
  | .ite _ a b => a.cnt + b.cnt + 1
  | _ => 1
def Bl.cnt : Bl → Nat
  | .nil => 0
  | .cons s b => s.cnt + b.cnt
end
def Bl.app : Bl → Bl → Bl
  | .nil, c => c
  | .cons s b, c => .cons s (b.app c)
def Bl.len : Bl → Nat
  | .nil => 0
  | .cons _ b => b.len + 1
def Bl.tells : Nat → Bl
  | 0 => .nil
  | n + 1 => .cons (.tell .kind) (Bl.tells n)
section
variable {ns : List Str}
theorem Bl.app_ds : ∀ (b c : Bl), (b.app c).ds = b.ds ++ c.ds
  | .nil, c => by rw [Bl.app, Bl.ds]; rfl
  | .cons s b, c => by rw [Bl.app, Bl.ds, Bl.ds, Bl.app_ds b c]; rfl
theorem Bl.app_ok {n : Nat} : ∀ {b c : Bl}, b.ok ns n → c.ok ns n → (b.app c).ok ns n
  | .nil, c, _, h => by rw [Bl.app]; exact h
  | .cons s b, c, h, h2 => by
    rw [Bl.ok] at h
    rw [Bl.app, Bl.ok]
    exact ⟨h.1, Bl.app_ok h.2 h2⟩
theorem Bl.app_dr : ∀ (b c : Bl), (b.app c).dr = b.dr + c.dr
  | .nil, c => by rw [Bl.app, Bl.dr]; omega
  | .cons s b, c => by rw [Bl.app, Bl.dr, Bl.dr, Bl.app_dr b c]; omega
theorem Bl.app_cnt : ∀ (b c : Bl), (b.app c).cnt = b.cnt + c.cnt
  | .nil, c => by rw [Bl.app, Bl.cnt]; omega
  | .cons s b, c => by rw [Bl.app, Bl.cnt, Bl.cnt, Bl.app_cnt b c]; omega
theorem Bl.ds_len : ∀ b : Bl, b.ds.length = b.len
  | .nil => by rw [Bl.ds, Bl.len]; rfl
  | .cons s b => by rw [Bl.ds, Bl.len, List.length_cons, Bl.ds_len b]
theorem Bl.ds_nil {b : Bl} (h : b.ds = []) : b = .nil := by
  cases b with
  | nil => rfl
  | cons s b => rw [Bl.ds] at h; cases h
theorem St.cnt_pos (s : St) : 1 ≤ s.cnt := by
  cases s <;> simp [St.cnt]
theorem Bl.len_cnt : ∀ b : Bl, b.len ≤ b.cnt
  | .nil => Nat.zero_le _
  | .cons s b => by
    have h := Bl.len_cnt b
    have h2 := s.cnt_pos
    rw [Bl.len, Bl.cnt]
    omega
theorem Bl.tells_ds : ∀ n, (Bl.tells n).ds = List.replicate n (.tup [.str (st "tell"), .tup [.str (st "kind")]])
  | 0 => by rw [Bl.tells, Bl.ds]; rfl
  | n + 1 => by rw [Bl.tells, Bl.ds, Bl.tells_ds n, St.d, Ex.d, List.replicate_succ]
theorem Bl.tells_ok {m : Nat} : ∀ n, (Bl.tells n).ok ns m
  | 0 => by rw [Bl.tells, Bl.ok]; trivial
  | n + 1 => by
    rw [Bl.tells, Bl.ok, St.ok]
    exact ⟨⟨trivial, by decide⟩, Bl.tells_ok n⟩
theorem Bl.tells_dr : ∀ n, (Bl.tells n).dr = 0
  | 0 => by rw [Bl.tells, Bl.dr]
  | n + 1 => by rw [Bl.tells, Bl.dr, Bl.tells_dr n, St.dr] <;> intros <;> simp_all
theorem Bl.tells_cnt : ∀ n, (Bl.tells n).cnt = n
  | 0 => by rw [Bl.tells, Bl.cnt]
  | n + 1 => by rw [Bl.tells, Bl.cnt, Bl.tells_cnt n, St.cnt] <;> first | omega | (intros; simp_all)
/-! ### sizes -/
theorem Ex.ws_pos (e : Ex) : 1 ≤ e.ws.length := by
  cases e <;> simp [Ex.ws]
theorem Ex.ws_len : ∀ e : Ex, e.ws.length + 1 ≤ 2 ^ e.dep
  | .kind => by simp [Ex.ws, Ex.dep]
  | .var _ => by simp [Ex.ws, Ex.dep]
  | .lit _ => by simp [Ex.ws, Ex.dep]
  | .op s a b => by
    have ha := Ex.ws_len a
    have hb := Ex.ws_len b
    have h1 : 2 ^ a.dep ≤ 2 ^ max a.dep b.dep := Nat.pow_le_pow_right (by decide) (Nat.le_max_left ..)
    have h2 : 2 ^ b.dep ≤ 2 ^ max a.dep b.dep := Nat.pow_le_pow_right (by decide) (Nat.le_max_right ..)
    rw [Ex.ws, Ex.dep, Nat.pow_succ, List.length_cons, List.length_append]
    omega
theorem Ex.ws_64 {e : Ex} (h : e.dep ≤ 6) : e.ws.length ≤ 63 := by
  have h1 := e.ws_len
  have h2 : 2 ^ e.dep ≤ 2 ^ 6 := Nat.pow_le_pow_right (by decide) h
  omega
mutual
theorem St.ws_len {n : Nat} : ∀ (s : St), s.ok ns n → s.ws.length ≤ 66 * s.cnt
  | .tell e, h => by
    rw [St.ok] at h
    have := Ex.ws_64 h.2
    rw [St.ws, St.cnt, List.length_cons] <;> first | omega | (intros; simp_all)
  | .set x e, h => by
    rw [St.ok] at h
    have := Ex.ws_64 h.2.2
    rw [St.ws, St.cnt, List.length_cons, List.length_cons] <;> first | omega | (intros; simp_all)
  | .draw x k, h => by
    rw [St.ws, St.cnt] <;> first | simp | (intros; simp_all)
  | .ite e a b, h => by
    cases n with
    | zero => rw [St.ok] at h; exact h.elim
    | succ n =>
      rw [St.ok] at h
      have h1 := Ex.ws_64 h.2.1
      have h2 := Bl.ws_len a h.2.2.1
      have h3 := Bl.ws_len b h.2.2.2
      rw [St.ws, St.cnt, List.length_cons, List.length_append, List.length_append, List.length_append]
      have h4 : (if b.emp = true then [] else st "else" :: b.ws).length ≤ b.ws.length + 1 := by
        split <;> simp
      simp only [List.length_cons, List.length_nil]
      omega
theorem Bl.ws_len {n : Nat} : ∀ (b : Bl), b.ok ns n → b.ws.length ≤ 66 * b.cnt
  | .nil, _ => by rw [Bl.ws]; simp
  | .cons s b, h => by
    rw [Bl.ok] at h
    have h1 := St.ws_len s h.1
    have h2 := Bl.ws_len b h.2
    rw [Bl.ws, Bl.cnt, List.length_append]
    omega
end
/-! ### every word is short, without blanks -/
/-- a word of a watcher: letters, figures, signs; at most eight of them -/
def Wd (w : Str) : Prop := w.length ≤ 8 ∧ w.cps.toList ≠ [] ∧ ∀ c ∈ w.cps.toList, 33 ≤ c ∧ c < 128
theorem Wd.ok {w : Str} (h : Wd w) : PyData.strOk w = true := strOk_of fun c hc => (h.2.2 c hc).2
theorem wd_num {k : Nat} (h : k ≤ 65535) : Wd (num k) := by
  refine ⟨Nat.le_trans (num_len (m := 5) (by decide) (by omega)) (by decide), num_ne k, fun c hc => ?_⟩
  rw [tl_n] at hc
  have := TL.numL_digits k c hc
  omega
theorem wd_lit {s : Str} (l : List Nat) (e : s.cps.toList = l) (h : (l.length ≤ 8 ∧ l ≠ []) ∧ l.all (fun c => decide (33 ≤ c ∧ c < 128)) = true) : Wd s := by
  refine ⟨by rw [TL.len_tl, TL.tl, e]; exact h.1.1, by rw [e]; exact h.1.2, fun c hc => ?_⟩
  rw [e] at hc
  exact of_decide_eq_true (List.all_eq_true.mp h.2 c hc)
theorem wd_signs {s : Str} (h : s ∈ signs) : Wd s := by
  simp only [signs, List.mem_cons, List.not_mem_nil, or_false] at h
  rcases h with rfl | rfl | rfl | rfl | rfl | rfl | rfl
  · exact wd_lit [43] rfl (by decide)
  · exact wd_lit [45] rfl (by decide)
  · exact wd_lit [42] rfl (by decide)
  · exact wd_lit [47] rfl (by decide)
  · exact wd_lit [109, 111, 100] rfl (by decide)
  · exact wd_lit [60] rfl (by decide)
  · exact wd_lit [61] rfl (by decide)
theorem Ex.wd (hn : ∀ x ∈ ns, Wd x) : ∀ (e : Ex), e.ok ns → ∀ w ∈ e.ws, Wd w
  | .kind, _ => fun w hw => by
    rw [Ex.ws, List.mem_singleton] at hw
    subst hw
    exact wd_lit [107, 105, 110, 100] rfl (by decide)
  | .var x, h => fun w hw => by
    rw [Ex.ws, List.mem_singleton] at hw
    subst hw
    exact hn _ h
  | .lit k, h => fun w hw => by
    rw [Ex.ws, List.mem_singleton] at hw
    subst hw
    exact wd_num h
  | .op s a b, h => fun w hw => by
    rw [Ex.ok] at h
    rw [Ex.ws, List.mem_cons, List.mem_append] at hw
    rcases hw with rfl | hw | hw
    · exact wd_signs h.1
    · exact Ex.wd hn a h.2.1 w hw
    · exact Ex.wd hn b h.2.2 w hw
theorem wd_tell : Wd (st "tell") := wd_lit [116, 101, 108, 108] rfl (by decide)
theorem wd_set : Wd (st "set") := wd_lit [115, 101, 116] rfl (by decide)
theorem wd_draw : Wd (st "draw") := wd_lit [100, 114, 97, 119] rfl (by decide)
theorem wd_if : Wd (st "if") := wd_lit [105, 102] rfl (by decide)
theorem wd_else : Wd (st "else") := wd_lit [101, 108, 115, 101] rfl (by decide)
theorem wd_end : Wd (st "end") := wd_lit [101, 110, 100] rfl (by decide)
theorem wd_kinds : Wd (st "kinds") := wd_lit [107, 105, 110, 100, 115] rfl (by decide)
theorem wd_var : Wd (st "var") := wd_lit [118, 97, 114] rfl (by decide)
theorem wd_kind : Wd (st "kind") := wd_lit [107, 105, 110, 100] rfl (by decide)
mutual
theorem St.wd {n : Nat} (hn : ∀ x ∈ ns, Wd x) : ∀ (s : St), s.ok ns n → ∀ w ∈ s.ws, Wd w
  | .tell e, h => fun w hw => by
    rw [St.ok] at h
    rw [St.ws, List.mem_cons] at hw
    rcases hw with rfl | hw
    · exact wd_tell
    · exact Ex.wd hn e h.1 w hw
  | .set x e, h => fun w hw => by
    rw [St.ok] at h
    rw [St.ws, List.mem_cons, List.mem_cons] at hw
    rcases hw with rfl | rfl | hw
    · exact wd_set
    · exact hn _ h.1
    · exact Ex.wd hn e h.2.1 w hw
  | .draw x k, h => fun w hw => by
    rw [St.ok] at h
    rw [St.ws] at hw
    simp only [List.mem_cons, List.not_mem_nil, or_false] at hw
    rcases hw with rfl | rfl | rfl
    · exact wd_draw
    · exact hn _ h.1
    · exact wd_num (by omega)
  | .ite e a b, h => fun w hw => by
    cases n with
    | zero => rw [St.ok] at h; exact h.elim
    | succ n =>
      rw [St.ok] at h
      rw [St.ws] at hw
      simp only [List.mem_cons, List.mem_append, List.not_mem_nil, or_false] at hw
      rcases hw with rfl | hw | hw | hw | rfl
      · exact wd_if
      · exact Ex.wd hn e h.1 w hw
      · exact Bl.wd hn a h.2.2.1 w hw
      · split at hw
        · cases hw
        · rcases List.mem_cons.mp hw with rfl | hw
          · exact wd_else
          · exact Bl.wd hn b h.2.2.2 w hw
      · exact wd_end
theorem Bl.wd {n : Nat} (hn : ∀ x ∈ ns, Wd x) : ∀ (b : Bl), b.ok ns n → ∀ w ∈ b.ws, Wd w
  | .nil, _ => fun w hw => by rw [Bl.ws] at hw; cases hw
  | .cons s b, h => fun w hw => by
    rw [Bl.ok] at h
    rw [Bl.ws, List.mem_append] at hw
    rcases hw with hw | hw
    · exact St.wd hn s h.1 w hw
    · exact Bl.wd hn b h.2 w hw
end
end
end K01

set_option Elab.async false
set_option linter.all false
set_option maxRecDepth 100000
set_option maxHeartbeats 1000000
/-! K01G: what is drawn; the words of expressions. -/
namespace K01
open PySem L2 PD
section
variable {wf m : Nat} {om r r0 : Om} {e : Int} {ns : List Str}
theorem draw {s : Int} (hm : 0 < m) (hs : 0 < s) (hs' : s < 2 ^ 200) (hp : PoolE om r e) : ∃ v om', callN prog wf m 18 [.amb 0, .int s] om = .ok (.int v) om' ∧ 0 ≤ v ∧ v < s ∧ PoolE om' r e := by
  obtain ⟨m, rfl⟩ : ∃ k, m = k + 1 := ⟨m - 1, by omega⟩
  obtain ⟨v, om', h1, h⟩ := draw_okE (T := tab prog wf m) hs hs' hp
  exact ⟨v, om', call_ret (d := ⟨2, 4, B_Ldraw, none⟩) rfl rfl rfl h1, h⟩
theorem spend (hm : 0 < m) (hp : PoolE om r e) : ∃ om', callN prog wf m 19 [.amb 0] om = .ok (.bl (decide (0 ≤ e - 1))) om' ∧ PoolE om' r (e - 1) := by
  obtain ⟨m, rfl⟩ : ∃ k, m = k + 1 := ⟨m - 1, by omega⟩
  obtain ⟨ns, a, b, c, d, rfl, ha, hc, hc'⟩ := hp
  refine ⟨.pl (poolD ns a b c d (e - 1)) :: r, call_ret (d := ⟨1, 1, B_Lspend, none⟩) rfl rfl rfl ?_, ⟨_, _, _, _, _, rfl, ha, hc, hc'⟩⟩
  simp [B_Lspend, slots, ixp5, sp5]
theorem pick {α : Type} {l : List α} {v : Int} (f : α → D) (h0 : 0 ≤ v) (h : v < l.length) : ∃ x ∈ l, atI (l.map f) v = some (f x) := by
  obtain ⟨k, rfl⟩ := Int.eq_ofNat_of_zero_le h0
  have hk : k < l.length := by omega
  refine ⟨l[k], List.getElem_mem hk, ?_⟩
  rw [PD.atI_nat, List.getElem?_map, List.getElem?_eq_getElem hk]
  rfl
theorem number (hm : 1 < m) (hp : PoolE om r e) : ∃ (k : Nat) (om' : Om), callN prog wf m 20 [.amb 0] om = .ok (.int k) om' ∧ k ≤ 65535 ∧ PoolE om' r e := by
  obtain ⟨m, rfl⟩ : ∃ k, m = k + 1 := ⟨m - 1, by omega⟩
  obtain ⟨v1, om1, e1, a1, b1, p1⟩ := draw (wf := wf) (m := m) (by omega) (s := 3) (by decide) (by decide) hp
  by_cases h : v1 = 0
  · obtain ⟨v2, om2, e2, a2, b2, p2⟩ := draw (wf := wf) (m := m) (by omega) (s := 65536) (by decide) (by decide) p1
    obtain ⟨k, rfl⟩ := Int.eq_ofNat_of_zero_le a2
    refine ⟨k, om2, call_ret (d := ⟨1, 1, B_Lnumber, none⟩) rfl rfl rfl ?_, by omega, p2⟩
    simp [B_Lnumber, slots, e1, h, e2]
  · obtain ⟨v2, om2, e2, a2, b2, p2⟩ := draw (wf := wf) (m := m) (by omega) (s := 9) (by decide) (by decide) p1
    obtain ⟨k, rfl⟩ := Int.eq_ofNat_of_zero_le a2
    refine ⟨k, om2, call_ret (d := ⟨1, 1, B_Lnumber, none⟩) rfl rfl rfl ?_, by omega, p2⟩
    simp [B_Lnumber, slots, e1, h, e2]
abbrev vRest : S := match B_Lvalue with | .seq _ (.seq _ b) => b | _ => .skip
theorem value_leaf {N v0 : Int} (hn : ns.length ≤ 1000) (hm : 1 < m) (hp : PoolE om r e) : ∃ x om', evS (tab prog wf m) vRest [.val (.amb 0), .val (.lst (strL ns)), .val (.int N), .val (.int v0), .no, .no] om = .ret (Ex.d x) om' ∧ x.ok ns ∧ x.dep = 1 ∧ PoolE om' r e := by
  by_cases h1 : v0 < 7 ∧ 0 < ns.length
  · obtain ⟨v1, om1, e1, a1, b1, p1⟩ := draw (wf := wf) (m := m) (by omega) (s := (ns.length : Int)) (by omega) (by omega) hp
    obtain ⟨x, hx, ex⟩ := pick (l := ns) D.str a1 b1
    refine ⟨.var x, om1, ?_, hx, rfl, p1⟩
    simp [vRest, B_Lvalue, h1, e1, x_l ex, Ex.d]
  · have h1' : v0 < 7 → ¬ 0 < ns.length := fun a b => h1 ⟨a, b⟩
    have hc : ∀ (r : Rs D), kTr (kAn (tab prog wf m) (.ok (.bl (decide (v0 < 7))) om) (.cm .gt (.bi .len (.v 1)) (.k (.int 0))) [.val (.amb 0), .val (.lst (strL ns)), .val (.int N), .val (.int v0), .no, .no]) = .ok false om := by
      intro _
      by_cases h : v0 < 7
      · have hz : ns = [] := List.eq_nil_of_length_eq_zero (by have := h1' h; omega)
        subst hz
        simp [h]
      · simp [h]
    by_cases h2 : v0 < 10
    · refine ⟨.kind, om, ?_, trivial, rfl, hp⟩
      simp only [vRest, B_Lvalue]
      rw [z_seq, z_ite, r_an, r_cm, r_v rfl, r_cm1, r_k, r_cm2, o_lt, r_bl, hc .stuck]
      simp [h2, Ex.d]
    · obtain ⟨v1, om1, e1, a1, b1, p1⟩ := draw (wf := wf) (m := m) (by omega) (s := 4) (by decide) (by decide) hp
      obtain ⟨v2, om2, e2, a2, b2, p2⟩ := draw (wf := wf) (m := m) (by omega) (s := 9) (by decide) (by decide) p1
      obtain ⟨k3, om3, e3, hk, p3⟩ := number (wf := wf) (m := m) hm p2
      obtain ⟨v4, om4, e4, a4, b4, p4⟩ := draw (wf := wf) (m := m) (by omega) (s := 3) (by decide) (by decide) p3
      obtain ⟨k1, rfl⟩ := Int.eq_ofNat_of_zero_le a1
      obtain ⟨k2, rfl⟩ := Int.eq_ofNat_of_zero_le a2
      have h4 : v4 = 0 ∨ v4 = 1 ∨ v4 = 2 := by omega
      have fin : ∃ k : Nat, k ≤ 65535 ∧ ∀ om, ixD (.tup [.int k1, .int k2, .int k3]) (.int v4) om = .ok (.int k) om := by
        rcases h4 with rfl | rfl | rfl
        · exact ⟨k1, by omega, fun _ => by simp⟩
        · exact ⟨k2, by omega, fun _ => by simp⟩
        · exact ⟨k3, by omega, fun _ => by simp⟩
      obtain ⟨k, hk', hx⟩ := fin
      refine ⟨.lit k, om4, ?_, hk', rfl, p4⟩
      simp only [vRest, B_Lvalue]
      rw [z_seq, z_ite, r_an, r_cm, r_v rfl, r_cm1, r_k, r_cm2, o_lt, r_bl, hc .stuck]
      simp [h2, Ex.d, e1, e2, e3, e4, hx]
theorem value (hn : ns.length ≤ 1000) : ∀ (n m : Nat) (om : Om), n + 2 < m → PoolE om r e → ∃ x om', callN prog wf m 22 [.amb 0, .lst (strL ns), .int n] om = .ok (Ex.d x) om' ∧ x.ok ns ∧ x.dep ≤ n + 1 ∧ PoolE om' r e := by
  intro n
  induction n with
  | zero =>
    intro m om hm hp
    obtain ⟨m, rfl⟩ : ∃ k, m = k + 1 := ⟨m - 1, by omega⟩
    obtain ⟨v0, om0, e0, a0, b0, p0⟩ := draw (wf := wf) (m := m) (by omega) (s := 12) (by decide) (by decide) hp
    obtain ⟨x, om1, e1, hx, hd, p1⟩ := value_leaf (wf := wf) (m := m) (N := 0) (v0 := v0) (ns := ns) hn (by omega) p0
    refine ⟨x, om1, call_ret (d := ⟨3, 6, B_Lvalue, none⟩) rfl rfl rfl ?_, hx, by omega, p1⟩
    rw [← e1]
    have hs : slots ⟨3, 6, B_Lvalue, none⟩ [.amb 0, .lst (strL ns), .int ((0 : Nat) : Int)] = [.val (.amb 0), .val (.lst (strL ns)), .val (.int 0), .no, .no, .no] := rfl
    rw [hs]
    by_cases h : v0 < 4
    · simp [vRest, B_Lvalue, e0, h]
    · simp [vRest, B_Lvalue, e0, h]
  | succ n ih =>
    intro m om hm hp
    obtain ⟨m, rfl⟩ : ∃ k, m = k + 1 := ⟨m - 1, by omega⟩
    have hs : slots ⟨3, 6, B_Lvalue, none⟩ [.amb 0, .lst (strL ns), .int ((n + 1 : Nat) : Int)] = [.val (.amb 0), .val (.lst (strL ns)), .val (.int ((n + 1 : Nat) : Int)), .no, .no, .no] := rfl
    have hn0 : 0 < ((n + 1 : Nat) : Int) := by omega
    have hn1 : ((n + 1 : Nat) : Int) - 1 = (n : Int) := by omega
    generalize ((n + 1 : Nat) : Int) = N at hs hn0 hn1 ⊢
    obtain ⟨v0, om0, e0, a0, b0, p0⟩ := draw (wf := wf) (m := m) (by omega) (s := 12) (by decide) (by decide) hp
    by_cases h : v0 < 4
    · obtain ⟨v1, om1, e1, a1, b1, p1⟩ := draw (wf := wf) (m := m) (by omega) (s := 7) (by decide) (by decide) p0
      obtain ⟨x, om2, e2, hx, hd, p2⟩ := ih m om1 (by omega) p1
      obtain ⟨y, om3, e3, hy, hd', p3⟩ := ih m om2 (by omega) p2
      obtain ⟨s, hsg, es⟩ := pick (l := signs) D.str a1 b1
      refine ⟨.op s x y, om3, call_ret (d := ⟨3, 6, B_Lvalue, none⟩) rfl rfl rfl ?_, ⟨hsg, hx, hy⟩, by rw [Ex.dep]; omega, p3⟩
      have es' : ∀ om, ixD (.tup [.str (st "+"), .str (st "-"), .str (st "*"), .str (st "/"), .str (st "mod"), .str (st "<"), .str (st "=")]) (.int v1) om = .ok (.str s) om := fun om => x_t es
      rw [hs]
      simp [B_Lvalue, e0, h, hn0, e1, es', hn1, e2, e3, Ex.d]
    · obtain ⟨x, om1, e1, hx, hd, p1⟩ := value_leaf (wf := wf) (m := m) (N := N) (v0 := v0) (ns := ns) hn (by omega) p0
      refine ⟨x, om1, call_ret (d := ⟨3, 6, B_Lvalue, none⟩) rfl rfl rfl ?_, hx, by omega, p1⟩
      rw [hs, ← e1]
      simp [vRest, B_Lvalue, e0, h]
/-! ### statements -/
abbrev keysS : List L2.Key := [.inr (st "names"), .inr (st "draws"), .inr (st "most")]
/-- the scope: names, draws that are left -/
abbrev sc (ns : List Str) (dr : Nat) : Ob := .dc keysS [.lst (strL ns), .int dr, .int 8]
theorem kn1 {ns : List Str} {dr : Nat} : dgD keysS [.lst (strL ns), .int dr, .int 8] (.inr (st "names")) = some (.lst (strL ns)) := by kernel_rfl
theorem kn2 {ns : List Str} {dr : Nat} : dgD keysS [.lst (strL ns), .int dr, .int 8] (.inr (st "draws")) = some (.int dr) := by kernel_rfl
theorem kn3 {ns : List Str} {dr : Nat} : dgD keysS [.lst (strL ns), .int dr, .int 8] (.inr (st "most")) = some (.int 8) := by kernel_rfl
theorem kn4 {ns : List Str} {dr : Nat} {d : D} : dpD keysS [.lst (strL ns), .int dr, .int 8] (.inr (st "draws")) d = some [.lst (strL ns), d, .int 8] := by kernel_rfl
theorem pe_get {i : Nat} (h : PoolE om r e) : om[i + 1]? = r[i]? := by
  obtain ⟨_, _, _, _, _, rfl, _⟩ := h
  rfl
theorem pe_set {i : Nat} {o : Ob} (h : PoolE om r e) : PoolE (om.set (i + 1) o) (r.set i o) e := by
  obtain ⟨x, a, b, c, d, rfl, h⟩ := h
  exact ⟨x, a, b, c, d, rfl, h⟩
theorem sc_at {dr : Nat} (h : PoolE om (r0 ++ [sc ns dr]) e) : om[r0.length + 1]? = some (sc ns dr) := by
  rw [pe_get h]
  simp
theorem sc_set {dr k : Nat} (h : PoolE om (r0 ++ [sc ns dr]) e) : PoolE (om.set (r0.length + 1) (sc ns k)) (r0 ++ [sc ns k]) e := by
  have z := pe_set h (i := r0.length) (o := sc ns k)
  simpa using z
theorem scN {dr : Nat} (h : PoolE om (r0 ++ [sc ns dr]) e) : kDg (.ok (.amb (r0.length + 1)) om) (.inr (st "names")) = .ok (.lst (strL ns)) om := r_dg1 (sc_at h) kn1
theorem scD {dr : Nat} (h : PoolE om (r0 ++ [sc ns dr]) e) : kDg (.ok (.amb (r0.length + 1)) om) (.inr (st "draws")) = .ok (.int dr) om := r_dg1 (sc_at h) kn2
theorem scM {dr : Nat} (h : PoolE om (r0 ++ [sc ns dr]) e) : kDg (.ok (.amb (r0.length + 1)) om) (.inr (st "most")) = .ok (.int 8) om := r_dg1 (sc_at h) kn3
/-- what a statement's draw gives -/
def StmtP (wf : Nat) (r0 : Om) (ns : List Str) (n : Nat) : Prop := ∀ (m : Nat) (om : Om) (e : Int) (dr : Nat), 3 * n + 12 < m → PoolE om (r0 ++ [sc ns dr]) e →
  ∃ s om' e', callN prog wf m 23 [.amb 0, .amb (r0.length + 1), .int n] om = .ok (St.d s) om' ∧ s.ok ns n ∧ s.dr ≤ dr ∧ PoolE om' (r0 ++ [sc ns (dr - s.dr)]) e' ∧ s.cnt + e'.toNat ≤ e.toNat + 1
def BlockP (wf : Nat) (r0 : Om) (ns : List Str) (n : Nat) : Prop := ∀ (q m : Nat) (om : Om) (e : Int) (dr : Nat), q ≤ 100 → 3 * n + 13 < m → PoolE om (r0 ++ [sc ns dr]) e →
  ∃ b om' e', callN prog wf m 24 [.amb 0, .amb (r0.length + 1), .int n, .int q] om = .ok (.tup (Bl.ds b)) om' ∧ b.ok ns n ∧ b.dr ≤ dr ∧ PoolE om' (r0 ++ [sc ns (dr - b.dr)]) e' ∧ b.cnt + e'.toNat ≤ e.toNat
theorem block_of {n : Nat} (hS : StmtP wf r0 ns n) : BlockP wf r0 ns n := by
  intro q m om e dr hq hm hp
  obtain ⟨m, rfl⟩ : ∃ k, m = k + 1 := ⟨m - 1, by omega⟩
  obtain ⟨v, om1, e1, a1, b1, p1⟩ := draw (wf := wf) (m := m) (by omega) (s := (q : Int) + 1) (by omega) (by omega) hp
  obtain ⟨k, rfl⟩ := Int.eq_ofNat_of_zero_le a1
  obtain ⟨sl', om', h1, b, c, e', rfl, hok, hdr, hp', hc, _⟩ := for_all (T := tab prog wf m) (i := 5) (f := fun k : Nat => D.int k)
    (b := .seq (.ite (.call 19 [] (.cons (.v 0) .nil)) (.seq (.app 4 (.call 23 [] (.cons (.v 0) (.cons (.v 1) (.cons (.v 2) .nil))))) .skip) .skip) .skip)
    (List.range k) (fun done sl om' => ∃ (b : Bl) (c : Cell) (e' : Int), sl = [.val (.amb 0), .val (.amb (r0.length + 1)), .val (.int n), .val (.int q), .own b.ds, c] ∧ b.ok ns n ∧ b.dr ≤ dr ∧ PoolE om' (r0 ++ [sc ns (dr - b.dr)]) e' ∧ b.cnt + e'.toNat ≤ e.toNat ∧ b.len ≤ done.length)
    (sl := [.val (.amb 0), .val (.amb (r0.length + 1)), .val (.int n), .val (.int q), .own [], .no]) (om := om1)
    ⟨.nil, .no, e, rfl, trivial, Nat.zero_le _, p1, by rw [Bl.cnt]; omega, Nat.zero_le _⟩
    (fun done x rest hx sl om2 hI => by
      have hdl : done.length < k := by
        have z := congrArg List.length hx
        rw [List.length_range, List.length_append, List.length_cons] at z
        omega
      obtain ⟨b, c, e', rfl, hok, hdr, hp', hc, hl⟩ := hI
      obtain ⟨om3, e3, p3⟩ := spend (wf := wf) (m := m) (by omega) hp'
      by_cases he : 0 ≤ e' - 1
      · rw [decide_eq_true he] at e3
        obtain ⟨s, om4, e'', e4, hok', hdr', p4, hc'⟩ := hS m om3 (e' - 1) (dr - b.dr) (by omega) p3
        have hk : b.len ≤ b.cnt := b.len_cnt
        refine ⟨[.val (.amb 0), .val (.amb (r0.length + 1)), .val (.int n), .val (.int q), .own (b.ds ++ [s.d]), .val (.int x)], om4, ?_, b.app (.cons s .nil), _, e'', by rw [Bl.app_ds, Bl.ds, Bl.ds], Bl.app_ok hok (by rw [Bl.ok]; exact ⟨hok', trivial⟩), ?_, ?_, ?_, ?_⟩
        · have hlen : b.ds.length < 1000000 := by
            rw [Bl.ds_len]
            omega
          simp [e3, e4, hlen]
        · rw [Bl.app_dr, Bl.dr, Bl.dr]
          omega
        · rw [Bl.app_dr, Bl.dr, Bl.dr]
          have e5 : dr - (b.dr + (s.dr + 0)) = dr - b.dr - s.dr := by omega
          rw [e5]
          exact p4
        · rw [Bl.app_cnt, Bl.cnt, Bl.cnt]
          omega
        · rw [← Bl.ds_len, Bl.app_ds, List.length_append, Bl.ds_len, Bl.ds_len, Bl.len, Bl.len, List.length_append, List.length_singleton]
          omega
      · rw [decide_eq_false he] at e3
        refine ⟨_, om3, ?_, b, .val (.int x), e' - 1, rfl, hok, hdr, p3, by omega, by rw [List.length_append]; omega⟩
        simp [e3])
  refine ⟨b, om', e', call_ret (d := ⟨4, 6, B_Lblock, none⟩) rfl rfl rfl ?_, hok, hdr, hp', hc⟩
  have hs : slots ⟨4, 6, B_Lblock, none⟩ [.amb 0, .amb (r0.length + 1), .int n, .int q] = [.val (.amb 0), .val (.amb (r0.length + 1)), .val (.int n), .val (.int q), .no, .no] := rfl
  rw [hs]
  have hr : kR1 (.ok (.int (k : Int)) om1) = .ok ((List.range k).map fun (k : Nat) => .int k) om1 := by
    rw [r_rng1a (by omega) (by omega), Int.toNat_natCast]
  simp [B_Lblock, e1, hr, h1]
theorem deeps (v : Int) (h0 : 0 ≤ v) (h : v < 3) : ∃ k : Nat, k ≤ 5 ∧ ∀ om, ixD (.tup [.int 2, .int 2, .int 5]) (.int v) om = .ok (.int k) om := by
  have h4 : v = 0 ∨ v = 1 ∨ v = 2 := by omega
  rcases h4 with rfl | rfl | rfl
  · exact ⟨2, by omega, fun _ => by simp⟩
  · exact ⟨2, by omega, fun _ => by simp⟩
  · exact ⟨5, by omega, fun _ => by simp⟩
theorem deep2 (v : Int) (h0 : 0 ≤ v) (h : v < 2) : ∃ k : Nat, k ≤ 5 ∧ ∀ om, ixD (.tup [.int 2, .int 5]) (.int v) om = .ok (.int k) om := by
  have h4 : v = 0 ∨ v = 1 := by omega
  rcases h4 with rfl | rfl
  · exact ⟨2, by omega, fun _ => by simp⟩
  · exact ⟨5, by omega, fun _ => by simp⟩
theorem dr_tell {e : Ex} : (St.tell e).dr = 0 := by simp [St.dr]
theorem dr_set {x : Str} {e : Ex} : (St.set x e).dr = 0 := by simp [St.dr]
theorem cnt_tell {e : Ex} : (St.tell e).cnt = 1 := by simp [St.cnt]
theorem cnt_set {x : Str} {e : Ex} : (St.set x e).cnt = 1 := by simp [St.cnt]
theorem cnt_draw {x : Str} {k : Nat} : (St.draw x k).cnt = 1 := by simp [St.cnt]
abbrev sRest1 : S := match B_Lstatement with | .seq _ (.seq _ (.seq _ b)) => b | _ => .skip
abbrev sRest2 : S := match sRest1 with | .seq _ b => b | _ => .skip
abbrev sRest3 : S := match sRest2 with | .seq _ b => b | _ => .skip
abbrev sSl (r0 : Om) (n : Nat) (v : Int) (ns : List Str) : Sl := [.val (.amb 0), .val (.amb (r0.length + 1)), .val (.int n), .val (.int v), .val (.lst (strL ns)), .no, .no]
/-- what behind the draws is asked of the rest -/
def RestP (wf m : Nat) (r0 : Om) (ns : List Str) (n : Nat) (v : Int) (dr : Nat) (e : Int) (om : Om) (b : S) : Prop :=
  ∃ s om' e', evS (tab prog wf m) b (sSl r0 n v ns) om = .ret (St.d s) om' ∧ s.ok ns n ∧ s.dr ≤ dr ∧ PoolE om' (r0 ++ [sc ns (dr - s.dr)]) e' ∧ s.cnt + e'.toNat ≤ e.toNat + 1
theorem rest3 (hn : ns.length ≤ 1000) {n dr : Nat} {v : Int} (hm : 8 < m) (hp : PoolE om (r0 ++ [sc ns dr]) e) : RestP wf m r0 ns n v dr e om sRest3 := by
  obtain ⟨v2, om2, e2, a2, b2, p2⟩ := draw (wf := wf) (m := m) (by omega) (s := 3) (by omega) (by omega) hp
  obtain ⟨k, hk, ek⟩ := deeps v2 a2 b2
  obtain ⟨x, om3, e3, hx, hd, p3⟩ := value (wf := wf) hn k m om2 (by omega) p2
  refine ⟨.tell x, om3, e, ?_, ⟨hx, by omega⟩, by rw [dr_tell]; omega, by rw [dr_tell]; exact p3, by rw [cnt_tell]; omega⟩
  simp [sRest3, sRest2, sRest1, B_Lstatement, e2, ek, e3, St.d]
theorem rest2 (hn : ns.length ≤ 1000) {n dr : Nat} {v : Int} (hB : ∀ k, n = k + 1 → BlockP wf r0 ns k) (hm : 3 * n + 11 < m) (hp : PoolE om (r0 ++ [sc ns dr]) e) : RestP wf m r0 ns n v dr e om sRest2 := by
  by_cases h : v < 8 ∧ 0 < n
  · obtain ⟨g1, g2⟩ := h
    obtain ⟨n', rfl⟩ : ∃ k, n = k + 1 := ⟨n - 1, by omega⟩
    have hn1 : ((n' + 1 : Nat) : Int) - 1 = (n' : Int) := by omega
    have hn0 : (0 : Int) < ((n' + 1 : Nat) : Int) := by omega
    obtain ⟨v2, om2, e2, a2, b2, p2⟩ := draw (wf := wf) (m := m) (by omega) (s := 3) (by omega) (by omega) hp
    obtain ⟨k, hk, ek⟩ := deeps v2 a2 b2
    obtain ⟨x, om3, e3, hx, hd, p3⟩ := value (wf := wf) hn k m om2 (by omega) p2
    obtain ⟨b, om4, e4', e4, hb, hbd, p4, hbc⟩ := hB n' rfl 3 m om3 e dr (by omega) (by omega) p3
    obtain ⟨c, om5, e5', e5, hc, hcd, p5, hcc⟩ := hB n' rfl 2 m om4 e4' (dr - b.dr) (by omega) (by omega) p4
    refine ⟨.ite x b c, om5, e5', ?_, by rw [St.ok]; exact ⟨hx, by omega, hb, hc⟩, by rw [St.dr]; omega, by rw [St.dr, show dr - (b.dr + c.dr) = dr - b.dr - c.dr by omega]; exact p5, by rw [St.cnt]; omega⟩
    have hn0' : (0 : Int) < (n' : Int) + 1 := by omega
    have e4'' : callN prog wf m 24 [.amb 0, .amb (r0.length + 1), .int n', .int 3] om3 = .ok (.tup b.ds) om4 := e4
    have e5'' : callN prog wf m 24 [.amb 0, .amb (r0.length + 1), .int n', .int 2] om4 = .ok (.tup c.ds) om5 := e5
    simp [sRest2, sRest1, B_Lstatement, g1, hn0', e2, ek, e3, e4'', e5'', St.d]
  · obtain ⟨s, om', e', h1, h2⟩ := rest3 (wf := wf) (m := m) (n := n) (v := v) hn (by omega) hp
    refine ⟨s, om', e', ?_, h2⟩
    rw [← h1]
    by_cases g : v < 8
    · have hz : n = 0 := by
        have := fun z => h ⟨g, z⟩
        omega
      subst hz
      simp [sRest3, sRest2, sRest1, B_Lstatement, g]
    · simp [sRest3, sRest2, sRest1, B_Lstatement, g]
theorem rest1 (hn : ns.length ≤ 1000) {n dr : Nat} {v : Int} (hB : ∀ k, n = k + 1 → BlockP wf r0 ns k) (hm : 3 * n + 11 < m) (hp : PoolE om (r0 ++ [sc ns dr]) e) : RestP wf m r0 ns n v dr e om sRest1 := by
  by_cases h : v < 5 ∧ 0 < ns.length
  · obtain ⟨g1, g2⟩ := h
    obtain ⟨v2, om2, e2, a2, b2, p2⟩ := draw (wf := wf) (m := m) (by omega) (s := (ns.length : Int)) (by omega) (by omega) hp
    obtain ⟨x, hx, ex⟩ := pick (l := ns) D.str a2 b2
    obtain ⟨v3, om3, e3, a3, b3, p3⟩ := draw (wf := wf) (m := m) (by omega) (s := 2) (by omega) (by omega) p2
    obtain ⟨k, hk, ek⟩ := deep2 v3 a3 b3
    obtain ⟨y, om4, e4, hy, hd, p4⟩ := value (wf := wf) hn k m om3 (by omega) p3
    refine ⟨.set x y, om4, e, ?_, ⟨hx, hy, by omega⟩, by rw [dr_set]; omega, by rw [dr_set]; exact p4, by rw [cnt_set]; omega⟩
    simp [sRest1, B_Lstatement, g1, g2, e2, x_l ex, e3, ek, e4, St.d]
  · obtain ⟨s, om', e', h1, h2⟩ := rest2 (wf := wf) (m := m) (n := n) (v := v) hn hB hm hp
    refine ⟨s, om', e', ?_, h2⟩
    rw [← h1]
    by_cases g : v < 5
    · have hz : ns = [] := List.eq_nil_of_length_eq_zero (by
        have := fun z => h ⟨g, z⟩
        omega)
      subst hz
      simp [sRest2, sRest1, B_Lstatement, g]
    · simp [sRest2, sRest1, B_Lstatement, g]
theorem stmt_of (hn : ns.length ≤ 1000) {n : Nat} (hB : ∀ k, n = k + 1 → BlockP wf r0 ns k) : StmtP wf r0 ns n := by
  intro m om e dr hm hp
  obtain ⟨m, rfl⟩ : ∃ k, m = k + 1 := ⟨m - 1, by omega⟩
  obtain ⟨v, om1, e1, a1, b1, p1⟩ := draw (wf := wf) (m := m) (by omega) (s := 12) (by omega) (by omega) hp
  have hs : slots ⟨3, 7, B_Lstatement, none⟩ [.amb 0, .amb (r0.length + 1), .int n] = [.val (.amb 0), .val (.amb (r0.length + 1)), .val (.int n), .no, .no, .no, .no] := rfl
  have nm := scN p1
  have dm := scD p1
  by_cases h1 : v < 3 ∧ 0 < ns.length ∧ 0 < dr
  · obtain ⟨g1, g2, g3⟩ := h1
    have p2 := sc_set (k := dr - 1) p1
    have hd1 : ((dr : Nat) : Int) - 1 = ((dr - 1 : Nat) : Int) := by omega
    obtain ⟨v2, om2, e2, a2, b2, p2⟩ := draw (wf := wf) (m := m) (by omega) (s := (ns.length : Int)) (by omega) (by omega) p2
    obtain ⟨x, hx, ex⟩ := pick (l := ns) D.str a2 b2
    obtain ⟨v3, om3, e3, a3, b3, p3⟩ := draw (wf := wf) (m := m) (by omega) (s := 8) (by omega) (by omega) p2
    obtain ⟨k, rfl⟩ := Int.eq_ofNat_of_zero_le a3
    have mm := scM p2
    refine ⟨.draw x (1 + k), om3, e, call_ret (d := ⟨3, 7, B_Lstatement, none⟩) rfl rfl rfl ?_, ⟨hx, by omega, by omega⟩, by rw [St.dr]; omega, by rw [St.dr]; exact p3, by rw [cnt_draw]; omega⟩
    have hput := z_dput2 (sl := [.val (.amb 0), .val (.amb (r0.length + 1)), .val (.int n), .val (.int v), .val (.lst (strL ns)), .no, .no]) (sc_at p1) (kn4 (d := .int ((dr - 1 : Nat) : Int)))
    have hg3 : (0 : Int) < dr := by omega
    rw [hs]
    simp [B_Lstatement, e1, nm, g1, g2, dm, hg3, g3, hd1, hput, e2, x_l ex, mm, e3, St.d]
  · obtain ⟨s, om', e', h2, h3⟩ := rest1 (wf := wf) (m := m) (n := n) (v := v) hn hB (by omega) p1
    refine ⟨s, om', e', call_ret (d := ⟨3, 7, B_Lstatement, none⟩) rfl rfl rfl ?_, h3⟩
    rw [← h2, hs]
    by_cases g1 : v < 3
    · by_cases g2 : 0 < ns.length
      · have hz : dr = 0 := by
          have := fun z => h1 ⟨g1, g2, z⟩
          omega
        subst hz
        simp [sRest1, B_Lstatement, e1, nm, dm, g1, g2]
      · have hz : ns = [] := List.eq_nil_of_length_eq_zero (by omega)
        subst hz
        simp only [strL, List.map_nil] at nm
        simp [sRest1, B_Lstatement, e1, nm, g1]
        rfl
    · simp [sRest1, B_Lstatement, e1, nm, g1]
theorem gen (hn : ns.length ≤ 1000) : ∀ n, BlockP wf r0 ns n
  | 0 => block_of (stmt_of hn fun k h => by omega)
  | n + 1 => block_of (stmt_of hn fun k h => by
      have e : k = n := by omega
      subst e
      exact gen hn k)
end
/-! ### names -/
def keysL : List Str := [st "kinds", st "var", st "set", st "draw", st "tell", st "if", st "else", st "end", st "kind", st "mod"]
def oth : List Str := [st "aa", st "bb", st "cc", st "dd", st "ee", st "ff"]
/-- a name -/
def Nm (x : Str) : Prop := (1 ≤ x.length ∧ x.length ≤ 8 ∧ ∀ c ∈ x.cps.toList, 97 ≤ c ∧ c ≤ 122) ∧ x ∉ keysL
theorem Nm.wd {x : Str} (h : Nm x) : Wd x := ⟨h.1.2.1, fun e => by
  have := h.1.1
  rw [TL.len_tl, TL.tl, e] at this
  exact absurd this (by decide), fun c hc => by
  have := h.1.2.2 c hc
  omega⟩
theorem nm_lit {s : Str} (l : List Nat) (e : s.cps.toList = l) (h : ((1 ≤ l.length ∧ l.length ≤ 8) ∧ l.all (fun c => decide (97 ≤ c ∧ c ≤ 122)) = true)) : 1 ≤ s.length ∧ s.length ≤ 8 ∧ ∀ c ∈ s.cps.toList, 97 ≤ c ∧ c ≤ 122 := by
  refine ⟨by rw [TL.len_tl, TL.tl, e]; exact h.1.1, by rw [TL.len_tl, TL.tl, e]; exact h.1.2, fun c hc => ?_⟩
  rw [e] at hc
  exact of_decide_eq_true (List.all_eq_true.mp h.2 c hc)
theorem nm_oth : ∀ x ∈ oth, Nm x := by
  intro x hx
  simp only [oth, List.mem_cons, List.not_mem_nil, or_false] at hx
  rcases hx with rfl | rfl | rfl | rfl | rfl | rfl
  · exact ⟨nm_lit [97, 97] rfl (by decide), by decide +kernel⟩
  · exact ⟨nm_lit [98, 98] rfl (by decide), by decide +kernel⟩
  · exact ⟨nm_lit [99, 99] rfl (by decide), by decide +kernel⟩
  · exact ⟨nm_lit [100, 100] rfl (by decide), by decide +kernel⟩
  · exact ⟨nm_lit [101, 101] rfl (by decide), by decide +kernel⟩
  · exact ⟨nm_lit [102, 102] rfl (by decide), by decide +kernel⟩
theorem nm_q : Nm (st "q") := ⟨nm_lit [113] rfl (by decide), by decide +kernel⟩
def firsts : List Str := [st "x", st "y", st "z", st "ended", st "i", st "sets", st "mods", st "kindly", st "telling", st "abcdefgh"]
theorem nm_first : ∀ x ∈ firsts, 1 ≤ x.length ∧ x.length ≤ 8 ∧ ∀ c ∈ x.cps.toList, 97 ≤ c ∧ c ≤ 122 := by
  intro x hx
  simp only [firsts, List.mem_cons, List.not_mem_nil, or_false] at hx
  rcases hx with rfl | rfl | rfl | rfl | rfl | rfl | rfl | rfl | rfl | rfl
  · exact nm_lit [120] rfl (by decide)
  · exact nm_lit [121] rfl (by decide)
  · exact nm_lit [122] rfl (by decide)
  · exact nm_lit [101, 110, 100, 101, 100] rfl (by decide)
  · exact nm_lit [105] rfl (by decide)
  · exact nm_lit [115, 101, 116, 115] rfl (by decide)
  · exact nm_lit [109, 111, 100, 115] rfl (by decide)
  · exact nm_lit [107, 105, 110, 100, 108, 121] rfl (by decide)
  · exact nm_lit [116, 101, 108, 108, 105, 110, 103] rfl (by decide)
  · exact nm_lit [97, 98, 99, 100, 101, 102, 103, 104] rfl (by decide)
theorem pigeon {α : Type} [DecidableEq α] : ∀ (xs l : List α), xs.Nodup → (∀ x ∈ xs, x ∈ l) → xs.length ≤ l.length
  | [], l, _, _ => Nat.zero_le _
  | x :: xs, l, nd, h => by
    rw [List.nodup_cons] at nd
    have h1 := pigeon xs (l.erase x) nd.2 fun y hy => (List.mem_erase_of_ne (fun e => nd.1 (by rw [← e]; exact hy))).mpr (h y (List.mem_cons_of_mem _ hy))
    have h2 := List.length_erase_of_mem (h x List.mem_cons_self)
    have h3 : 0 < l.length := List.length_pos_of_mem (h x List.mem_cons_self)
    rw [List.length_cons]
    omega
def fixN (ns : List Str) (os : List Str) (c : Str) : Str := os.foldl (fun c o => if c ∈ ns then o else c) c
theorem fix_in {ns : List Str} : ∀ (os : List Str) (c : Str), fixN ns os c ∈ ns → c ∈ ns ∧ ∀ o ∈ os, o ∈ ns
  | [], c, h => ⟨h, fun _ h => (nomatch h)⟩
  | o :: os, c, h => by
    have h2 : fixN ns os (if c ∈ ns then o else c) ∈ ns := h
    obtain ⟨h3, h4⟩ := fix_in os _ h2
    by_cases hc : c ∈ ns
    · rw [if_pos hc] at h3
      exact ⟨hc, fun x hx => by
        rcases List.mem_cons.mp hx with rfl | hx
        · exact h3
        · exact h4 x hx⟩
    · rw [if_neg hc] at h3
      exact absurd h3 hc
theorem fix_new {ns : List Str} {c : Str} (h : ns.length ≤ 5) : fixN ns oth c ∉ ns := fun hc => by
  have z := pigeon oth ns (by decide +kernel) (fix_in oth c hc).2
  have : oth.length = 6 := rfl
  omega
theorem fix_nm {ns : List Str} : ∀ (os : List Str) (c : Str), Nm c → (∀ o ∈ os, Nm o) → Nm (fixN ns os c)
  | [], c, h, _ => h
  | o :: os, c, h, ho => by
    show Nm (fixN ns os (if c ∈ ns then o else c))
    refine fix_nm os _ ?_ fun x hx => ho x (List.mem_cons_of_mem _ hx)
    split
    · exact ho o List.mem_cons_self
    · exact h
theorem any_str (x : Str) : ∀ ys : List Str, ((ys.map PyData.str).any fun z => PyData.eqv z (.str x)) = decide (x ∈ ys)
  | [] => rfl
  | y :: ys => by
    rw [List.map_cons, List.any_cons, any_str x ys]
    show ((y == x) || decide (x ∈ ys)) = _
    by_cases h : y = x
    · subst h
      simp
    · have h' : ¬ x = y := fun e => h e.symm
      simp [h, h']
theorem inT_str {x : Str} {ys : List Str} : inT (.str x) (strL ys) = some (decide (x ∈ ys)) := by
  unfold inT
  have hf : (flatD (.str x) && (strL ys).all flatD) = true := by simp [flatD, strL]
  rw [if_pos hf, toPs_str]
  show some ((ys.map PyData.str).any fun z => PyData.eqv z (.str x)) = _
  rw [any_str]
theorem inD_str {x : Str} {ys : List Str} (hx : PyData.strOk x = true) (hy : ∀ y ∈ ys, PyData.strOk y = true) : inD (.str x) (strL ys) = some (decide (x ∈ ys)) := by
  unfold inD
  rw [toPs_str]
  show (if (SeqAt.shaped (.str x) && SeqAt.shaped (.list (ys.map PyData.str))) = true then some ((ys.map PyData.str).any fun z => PyData.eqv z (.str x)) else none) = _
  have h1 : SeqAt.shaped (.str x) = true := by
    show (PyData.strOk x && decide (0 ≤ 64)) = true
    rw [hx]
    rfl
  rw [h1, shaped_str hy, any_str]
  rfl
theorem o_adds {T : Tb} {om : Om} {s t : Str} (h : s.length + t.length ≤ 1000000) : bop T .add (.str s) (.str t) om = .ok (.str (s ++ t)) om := if_pos h
section
variable {wf m : Nat} {om r r0 : Om} {e : Int} {ns : List Str}
theorem letter {v : Int} (h0 : 0 ≤ v) (h : v < 26) : ∃ c : Nat, 97 ≤ c ∧ c ≤ 122 ∧ ∀ om, ixD (.str (st "abcdefghijklmnopqrstuvwxyz")) (.int v) om = .ok (.str ⟨#[c]⟩) om := by
  obtain ⟨k, rfl⟩ := Int.eq_ofNat_of_zero_le h0
  refine ⟨97 + k, by omega, by omega, fun om => ?_⟩
  have hk : k < 26 := by omega
  show (if (st "abcdefghijklmnopqrstuvwxyz").length ≤ 1000000 then match atI (st "abcdefghijklmnopqrstuvwxyz").cps.toList (k : Int) with | some c => Rs.ok (D.str ⟨#[c]⟩) om | none => .stuck else .stuck) = _
  rw [if_pos (by decide), PD.atI_nat]
  have e : (st "abcdefghijklmnopqrstuvwxyz").cps.toList = (List.range 26).map (97 + ·) := by decide +kernel
  rw [e, List.getElem?_map, List.getElem?_range hk]
  rfl
/-- a drawn word of letters -/
theorem word_loop {N : Int} {own : List D} {c3 c5 c6 : Cell} (hm : 0 < m) {n : Nat} (hn : n ≤ 8) (hp : PoolE om r e) : ∃ sl' om', forG (tab prog wf m) (.seq (.set 4 (.op .add (.v 4) (.ix (.k (.str "abcdefghijklmnopqrstuvwxyz")) (.call 18 [] (.cons (.v 0) (.cons (.k (.int 26)) .nil)))))) .skip) (.one 5) ((List.range n).map fun k : Nat => .int k) [.val (.amb 0), .val (.int N), .own own, c3, .val (.str (st "")), c5, c6] om = .next sl' om' ∧
    ∃ x c5', sl' = [.val (.amb 0), .val (.int N), .own own, c3, .val (.str x), c5', c6] ∧ x.cps.toList.length = n ∧ (∀ c ∈ x.cps.toList, 97 ≤ c ∧ c ≤ 122) ∧ PoolE om' r e := by
  obtain ⟨sl', om', h1, x, c5', rfl, h2, h3, h4⟩ := for_all (T := tab prog wf m) (i := 5) (f := fun k : Nat => D.int k) (b := .seq (.set 4 (.op .add (.v 4) (.ix (.k (.str "abcdefghijklmnopqrstuvwxyz")) (.call 18 [] (.cons (.v 0) (.cons (.k (.int 26)) .nil)))))) .skip)
    (List.range n) (fun done sl om' => ∃ (x : Str) (c5' : Cell), sl = [.val (.amb 0), .val (.int N), .own own, c3, .val (.str x), c5', c6] ∧ x.cps.toList.length = done.length ∧ (∀ c ∈ x.cps.toList, 97 ≤ c ∧ c ≤ 122) ∧ PoolE om' r e)
    (sl := [.val (.amb 0), .val (.int N), .own own, c3, .val (.str (st "")), c5, c6]) (om := om)
    ⟨st "", c5, rfl, rfl, fun c hc => (nomatch hc), hp⟩
    (fun done k rest hk sl om2 hI => by
      obtain ⟨x, c5', rfl, h2, h3, h4⟩ := hI
      have hdl : done.length < n := by
        have z := congrArg List.length hk
        rw [List.length_range, List.length_append, List.length_cons] at z
        omega
      obtain ⟨v, om3, e1, a1, b1, p1⟩ := draw (wf := wf) (m := m) hm (s := 26) (by decide) (by decide) h4
      obtain ⟨c, hc1, hc2, ec⟩ := letter a1 b1
      have hl : x.length + (⟨#[c]⟩ : Str).length ≤ 1000000 := by
        rw [TL.len_tl, TL.tl, h2]
        show done.length + 1 ≤ _
        omega
      have htl : (x ++ (⟨#[c]⟩ : Str)).cps.toList = x.cps.toList ++ [c] := TL.tl_append x ⟨#[c]⟩
      refine ⟨_, om3, ?_, x ++ ⟨#[c]⟩, .val (.int k), rfl, by rw [htl, List.length_append, List.length_append, h2]; rfl, fun y hy => ?_, p1⟩
      · simp [e1, ec, o_adds hl]
      · rw [htl, List.mem_append, List.mem_singleton] at hy
        rcases hy with hy | rfl
        · exact h3 y hy
        · exact ⟨hc1, hc2⟩)
  rw [List.length_range] at h2
  exact ⟨_, om', h1, x, c5', rfl, h2, h3, h4⟩
/-- another name where it is there already -/
theorem fix_loop {N : Int} {ys : List Str} {c3 c5 : Cell} (hy : ∀ y ∈ ys, PyData.strOk y = true) : ∀ (os : List Str) (x : Str) (c6 : Cell), PyData.strOk x = true → (∀ o ∈ os, PyData.strOk o = true) → ∃ c6', forG (tab prog wf m) (.seq (.ite (.cm .inn (.v 4) (.b 2)) (.seq (.set 4 (.v 6)) .skip) .skip) .skip) (.one 6) (strL os) [.val (.amb 0), .val (.int N), .own (strL ys), c3, .val (.str x), c5, c6] om =
    .next [.val (.amb 0), .val (.int N), .own (strL ys), c3, .val (.str (fixN ys os x)), c5, c6'] om
  | [], x, c6, _, _ => ⟨c6, rfl⟩
  | o :: os, x, c6, hx, ho => by
    have hi : ∀ om, cmp (tab prog wf m) .inn (.str x) (.lst (strL ys)) om = .ok (decide (x ∈ ys)) om := fun om => o_inn (inD_str hx hy)
    by_cases h : x ∈ ys
    · obtain ⟨c6', e⟩ := fix_loop hy os o (.val (.str o)) (ho o List.mem_cons_self) fun z hz => ho z (List.mem_cons_of_mem _ hz)
      refine ⟨c6', ?_⟩
      have e2 : fixN ys (o :: os) x = fixN ys os o := by
        show fixN ys os (if x ∈ ys then o else x) = _
        rw [if_pos h]
      rw [e2, ← e]
      show forG _ _ _ (.str o :: strL os) _ _ = _
      rw [f_cons]
      simp [hi, h]
    · obtain ⟨c6', e⟩ := fix_loop hy os x (.val (.str o)) hx fun z hz => ho z (List.mem_cons_of_mem _ hz)
      refine ⟨c6', ?_⟩
      have e2 : fixN ys (o :: os) x = fixN ys os x := by
        show fixN ys os (if x ∈ ys then o else x) = _
        rw [if_neg h]
      rw [e2, ← e]
      show forG _ _ _ (.str o :: strL os) _ _ = _
      rw [f_cons]
      simp [hi, h]
abbrev nBody : S := match B_Lnames with | .seq _ (.seq (.fo _ _ b) _) => b | _ => .skip
abbrev nRest : S := match nBody with | .seq _ (.seq _ b) => b | _ => .skip
/-- from a drawn word to the list with one name more -/
theorem name_rest {N : Int} {ys : List Str} {x : Str} {c3 c5 c6 : Cell} (hy : ∀ y ∈ ys, Nm y) (hl : ys.length ≤ 5) (hx : 1 ≤ x.length ∧ x.length ≤ 8 ∧ ∀ c ∈ x.cps.toList, 97 ≤ c ∧ c ≤ 122) :
    ∃ z c6', Nm z ∧ z ∉ ys ∧ evS (tab prog wf m) nRest [.val (.amb 0), .val (.int N), .own (strL ys), c3, .val (.str x), c5, c6] om = .next [.val (.amb 0), .val (.int N), .own (strL (ys ++ [z])), c3, .val (.str z), c5, c6'] om := by
  have hk : ∀ om, cmp (tab prog wf m) .inn (.str x) (.tup (strL keysL)) om = .ok (decide (x ∈ keysL)) om := fun om => o_innt inT_str
  have hk' : ∀ om, cmp (tab prog wf m) .inn (.str x) (.tup [.str (st "kinds"), .str (st "var"), .str (st "set"), .str (st "draw"), .str (st "tell"), .str (st "if"), .str (st "else"), .str (st "end"), .str (st "kind"), .str (st "mod")]) om = .ok (decide (x ∈ keysL)) om := hk
  have hyo : ∀ y ∈ ys, PyData.strOk y = true := fun y h => (hy y h).wd.ok
  obtain ⟨x', hx', hev⟩ : ∃ x', Nm x' ∧ ∀ b : S, evS (tab prog wf m) nRest [.val (.amb 0), .val (.int N), .own (strL ys), c3, .val (.str x), c5, c6] om = seqO (tab prog wf m) (.next [.val (.amb 0), .val (.int N), .own (strL ys), c3, .val (.str x'), c5, c6] om) (match nRest with | .seq _ b => b | _ => .skip) := by
    by_cases h : x ∈ keysL
    · exact ⟨st "q", nm_q, fun _ => by simp [nRest, nBody, B_Lnames, hk', h]⟩
    · exact ⟨x, ⟨hx, h⟩, fun _ => by simp [nRest, nBody, B_Lnames, hk', h]⟩
  rw [hev .skip]
  obtain ⟨c6', e⟩ := fix_loop (wf := wf) (m := m) (om := om) (N := N) (c3 := c3) (c5 := c5) hyo oth x' c6 hx'.wd.ok fun o ho => (nm_oth o ho).wd.ok
  refine ⟨fixN ys oth x', c6', fix_nm oth x' hx' nm_oth, fix_new hl, ?_⟩
  have e' : forG (tab prog wf m) (.seq (.ite (.cm .inn (.v 4) (.b 2)) (.seq (.set 4 (.v 6)) .skip) .skip) .skip) (.one 6) [.str (st "aa"), .str (st "bb"), .str (st "cc"), .str (st "dd"), .str (st "ee"), .str (st "ff")] [.val (.amb 0), .val (.int N), .own (strL ys), c3, .val (.str x'), c5, c6] om =
    .next [.val (.amb 0), .val (.int N), .own (strL ys), c3, .val (.str (fixN ys oth x')), c5, c6'] om := e
  have hz : (strL ys).length < 1000000 := by
    rw [List.length_map]
    omega
  simp only [nRest, nBody, B_Lnames]
  simp [e', strL, hl, Nat.lt_of_le_of_lt hl (by decide : 5 < 1000000)]
theorem names {n : Nat} (hn : n ≤ 4) (hm : 1 < m) (hp : PoolE om r e) : ∃ ys om', callN prog wf m 25 [.amb 0, .int n] om = .ok (.lst (strL ys)) om' ∧ ys.length = n ∧ ys.Nodup ∧ (∀ y ∈ ys, Nm y) ∧ PoolE om' r e := by
  obtain ⟨m, rfl⟩ : ∃ k, m = k + 1 := ⟨m - 1, by omega⟩
  obtain ⟨sl', om', h1, ys, c3, c4, c5, c6, rfl, h2, h3, h4, h5⟩ := for_all (T := tab prog wf m) (i := 3) (f := fun k : Nat => D.int k) (b := nBody)
    (List.range n) (fun done sl om' => ∃ (ys : List Str) (c3 c4 c5 c6 : Cell), sl = [.val (.amb 0), .val (.int n), .own (strL ys), c3, c4, c5, c6] ∧ ys.length = done.length ∧ ys.Nodup ∧ (∀ y ∈ ys, Nm y) ∧ PoolE om' r e)
    (sl := [.val (.amb 0), .val (.int n), .own [], .no, .no, .no, .no]) (om := om)
    ⟨[], .no, .no, .no, .no, rfl, rfl, List.nodup_nil, fun c hc => (nomatch hc), hp⟩
    (fun done k rest hk sl om2 hI => by
      obtain ⟨ys, c3, c4, c5, c6, rfl, h2, h3, h4, h5⟩ := hI
      have hdl : done.length < n := by
        have z := congrArg List.length hk
        rw [List.length_range, List.length_append, List.length_cons] at z
        omega
      obtain ⟨v, om3, e1, a1, b1, p1⟩ := draw (wf := wf) (m := m) (by omega) (s := 10) (by decide) (by decide) h5
      obtain ⟨x, hx, ex⟩ := pick (l := firsts) D.str a1 b1
      have ex' : ∀ om, ixD (.tup [.str (st "x"), .str (st "y"), .str (st "z"), .str (st "ended"), .str (st "i"), .str (st "sets"), .str (st "mods"), .str (st "kindly"), .str (st "telling"), .str (st "abcdefgh")]) (.int v) om = .ok (.str x) om := fun om => x_t ex
      obtain ⟨v2, om4, e2, a2, b2, p2⟩ := draw (wf := wf) (m := m) (by omega) (s := 3) (by decide) (by decide) p1
      by_cases hv : v2 = 0
      · obtain ⟨v3, om5, e3, a3, b3, p3⟩ := draw (wf := wf) (m := m) (by omega) (s := 8) (by decide) (by decide) p2
        obtain ⟨q, rfl⟩ := Int.eq_ofNat_of_zero_le a3
        obtain ⟨sl', om6, e4, x', c5', rfl, hx1, hx2, p4⟩ := word_loop (wf := wf) (m := m) (N := (n : Int)) (own := strL ys) (c3 := .val (.int k)) (c5 := c5) (c6 := c6) (by omega) (n := q + 1) (by omega) p3
        obtain ⟨z, c6', hz1, hz2, e5⟩ := name_rest (wf := wf) (m := m) (om := om6) (N := (n : Int)) (x := x') (c3 := .val (.int k)) (c5 := c5') (c6 := c6) h4 (by omega) ⟨by rw [TL.len_tl, TL.tl, hx1]; omega, by rw [TL.len_tl, TL.tl, hx1]; omega, hx2⟩
        have hr : kR1 (.ok (.int (1 + (q : Int))) om5) = .ok ((List.range (q + 1)).map fun (k : Nat) => .int k) om5 := by
          rw [r_rng1a (by omega) (by omega), show (1 + (q : Int)).toNat = q + 1 by omega]
        refine ⟨_, om6, ?_, ys ++ [z], .val (.int k), .val (.str z), c5', c6', rfl, by rw [List.length_append, List.length_append, h2]; rfl, ?_, ?_, p4⟩
        · rw [← e5]
          have hb : nBody = .seq (match nBody with | .seq a _ => a | _ => .skip) (.seq (match nBody with | .seq _ (.seq a _) => a | _ => .skip) nRest) := rfl
          rw [hb, z_seq]
          have h1 : seqO (tab prog wf m) (evS (tab prog wf m) (match nBody with | .seq a _ => a | _ => .skip) [.val (.amb 0), .val (.int n), .own (strL ys), .val (.int k), c4, c5, c6] om2) (.seq (match nBody with | .seq _ (.seq a _) => a | _ => .skip) nRest) = evS (tab prog wf m) nRest [.val (.amb 0), .val (.int n), .own (strL ys), .val (.int k), .val (.str x'), c5', c6] om6 := by
            simp only [nBody, B_Lnames]
            simp [e1, ex', e2, hv, e3, hr, e4]
          exact h1
        · rw [List.nodup_append]
          exact ⟨h3, by simp, fun a ha b hb => by rw [List.mem_singleton] at hb; subst hb; exact fun e => hz2 (by rw [← e]; exact ha)⟩
        · intro y hy
          rcases List.mem_append.mp hy with hy | hy
          · exact h4 y hy
          · rw [List.mem_singleton] at hy
            subst hy
            exact hz1
      · obtain ⟨z, c6', hz1, hz2, e5⟩ := name_rest (wf := wf) (m := m) (om := om4) (N := (n : Int)) (x := x) (c3 := .val (.int k)) (c5 := c5) (c6 := c6) h4 (by omega) (nm_first x hx)
        refine ⟨_, om4, ?_, ys ++ [z], .val (.int k), .val (.str z), c5, c6', rfl, by rw [List.length_append, List.length_append, h2]; rfl, ?_, ?_, p2⟩
        · rw [← e5]
          have hb : nBody = .seq (match nBody with | .seq a _ => a | _ => .skip) (.seq (match nBody with | .seq _ (.seq a _) => a | _ => .skip) nRest) := rfl
          rw [hb, z_seq]
          have h1 : seqO (tab prog wf m) (evS (tab prog wf m) (match nBody with | .seq a _ => a | _ => .skip) [.val (.amb 0), .val (.int n), .own (strL ys), .val (.int k), c4, c5, c6] om2) (.seq (match nBody with | .seq _ (.seq a _) => a | _ => .skip) nRest) = evS (tab prog wf m) nRest [.val (.amb 0), .val (.int n), .own (strL ys), .val (.int k), .val (.str x), c5, c6] om4 := by
            simp only [nBody, B_Lnames]
            simp [e1, ex', e2, hv]
          exact h1
        · rw [List.nodup_append]
          exact ⟨h3, by simp, fun a ha b hb => by rw [List.mem_singleton] at hb; subst hb; exact fun e => hz2 (by rw [← e]; exact ha)⟩
        · intro y hy
          rcases List.mem_append.mp hy with hy | hy
          · exact h4 y hy
          · rw [List.mem_singleton] at hy
            subst hy
            exact hz1)
  refine ⟨ys, om', call_ret (d := ⟨2, 7, B_Lnames, none⟩) rfl rfl rfl ?_, by rw [h2, List.length_range], h3, h4, h5⟩
  have hs : slots ⟨2, 7, B_Lnames, none⟩ [.amb 0, .int n] = [.val (.amb 0), .val (.int n), .no, .no, .no, .no, .no] := rfl
  rw [hs]
  have hr : kR1 (.ok (.int (n : Int)) om) = .ok ((List.range n).map fun (k : Nat) => .int k) om := by
    rw [r_rng1a (by omega) (by omega), Int.toNat_natCast]
  have hb : B_Lnames = .seq (.setO 2 (.lst .nil)) (.seq (.fo (.one 3) (.rng1 (.v 1)) nBody) (.seq (.fz 2) (.seq (.ret (.v 2)) .skip))) := rfl
  rw [hb]
  simp only [z_seq, z_setO, r_lst, r_l0, r_lst1, List.length_nil, Nat.zero_le, if_true, z_setO1, z_seq1, List.set_cons_succ, List.set_cons_zero, z_fo, r_rng1]
  rw [r_v rfl, hr, z_fo1, h1, z_seq1]
  rw [z_seq, z_fz rfl]
  simp
end
/-! ### watchers -/
structure Wt where
  kinds : Nat
  vs : List (Str × Nat)
  b : Bl
abbrev vD (p : Str × Nat) : D := .tup [.str p.1, .int p.2]
def Wt.d (w : Wt) : D := .tup [.int w.kinds, .tup (w.vs.map vD), .tup w.b.ds]
def Wt.ns (w : Wt) : List Str := w.vs.map (·.1)
structure Wt.Ok (w : Wt) : Prop where
  k1 : 1 ≤ w.kinds
  k4 : w.kinds ≤ 4
  len : w.vs.length ≤ 4
  nd : w.ns.Nodup
  nm : ∀ x ∈ w.ns, Nm x
  sz : ∀ p ∈ w.vs, 1 ≤ p.2 ∧ p.2 ≤ 65535
  b : w.b.ok w.ns 4
  dr : w.b.dr ≤ 6
  cnt : w.b.cnt ≤ 200
section
variable {wf m : Nat} {om r r0 : Om} {e : Int} {ns : List Str}
theorem size_of (hm : 1 < m) {sl : Sl} (h0 : sl[0]? = some (.val (.amb 0))) (hp : PoolE om r e) : ∃ (k : Nat) (om' : Om), evE (tab prog wf m) (.op .add (.k (.int 1)) (.ix (.tup (.cons (.call 18 [] (.cons (.v 0) (.cons (.k (.int 4)) .nil))) (.cons (.call 18 [] (.cons (.v 0) (.cons (.k (.int 4)) .nil))) (.cons (.op .mod (.call 20 [] (.cons (.v 0) .nil)) (.k (.int 65535))) .nil)))) (.call 18 [] (.cons (.v 0) (.cons (.k (.int 3)) .nil))))) sl om = .ok (.int k) om' ∧ (1 ≤ k ∧ k ≤ 65535) ∧ PoolE om' r e := by
  obtain ⟨v1, om1, e1, a1, b1, p1⟩ := draw (wf := wf) (m := m) (by omega) (s := 4) (by decide) (by decide) hp
  obtain ⟨v2, om2, e2, a2, b2, p2⟩ := draw (wf := wf) (m := m) (by omega) (s := 4) (by decide) (by decide) p1
  obtain ⟨k3, om3, e3, hk, p3⟩ := number (wf := wf) (m := m) hm p2
  obtain ⟨v4, om4, e4, a4, b4, p4⟩ := draw (wf := wf) (m := m) (by omega) (s := 3) (by decide) (by decide) p3
  obtain ⟨k1, rfl⟩ := Int.eq_ofNat_of_zero_le a1
  obtain ⟨k2, rfl⟩ := Int.eq_ofNat_of_zero_le a2
  have h4 : v4 = 0 ∨ v4 = 1 ∨ v4 = 2 := by omega
  have hv : ∀ om, evE (tab prog wf m) (.v 0) sl om = .ok (.amb 0) om := fun om => r_v h0
  have fin : ∃ k : Nat, k < 65535 ∧ ∀ om, ixD (.tup [.int k1, .int k2, .int ((k3 : Int) % 65535)]) (.int v4) om = .ok (.int k) om := by
    have h65 : (k3 : Int) % 65535 = ((k3 % 65535 : Nat) : Int) := by omega
    rw [h65]
    rcases h4 with rfl | rfl | rfl
    · exact ⟨k1, by omega, fun _ => by simp⟩
    · exact ⟨k2, by omega, fun _ => by simp⟩
    · exact ⟨k3 % 65535, by omega, fun _ => by simp⟩
  obtain ⟨k, hk', hx⟩ := fin
  refine ⟨1 + k, om4, ?_, by omega, p4⟩
  simp [hv, e1, e2, e3, e4, hx]
/-- the names of the rows drawn -/
theorem comp_names {vs : List (Str × Nat)} {sl : Sl} : cmpG (tab prog wf m) (.k (.bl true)) (.ix (.v 7) (.k (.int 0))) (.one 7) sl (vs.map vD) om = .ok (strL (vs.map (·.1))) om ∨ sl.length ≤ 7 := by
  by_cases h : sl.length ≤ 7
  · exact .inr h
  · left
    have z := comp_map (T := tab prog wf m) (om := om) (i := 7) (sl := sl) (cond := .k (.bl true)) (elt := .ix (.v 7) (.k (.int 0))) (f := vD) (g := fun p => .str p.1) vs (fun p hp => by
      refine ⟨by simp, ?_⟩
      have hg : (sl.set 7 (.val (vD p)))[7]? = some (.val (vD p)) := List.getElem?_set_self (by omega)
      rw [r_ix, r_v hg, r_ix1, r_k, r_ix2, x_t atI0])
    rw [z]
    congr 1
    rw [strL, List.map_map]
    rfl
theorem watcher (hm : 40 < m) (hp : PoolE om r0 e) : ∃ w om' dr e', callN prog wf m 26 [.amb 0, .int 6, .int 8] om = .ok (Wt.d w) om' ∧ w.Ok ∧ PoolE om' (r0 ++ [sc w.ns dr]) e' := by
  obtain ⟨m, rfl⟩ : ∃ k, m = k + 1 := ⟨m - 1, by omega⟩
  obtain ⟨v1, om1, e1, a1, b1, p1⟩ := draw (wf := wf) (m := m) (by omega) (s := 5) (by decide) (by decide) hp
  obtain ⟨c, rfl⟩ := Int.eq_ofNat_of_zero_le a1
  obtain ⟨ys, om2, e2, hl, hnd, hnm, p2⟩ := names (wf := wf) (m := m) (n := c) (by omega) (by omega) p1
  obtain ⟨sl', om3, e3, vs, c5, rfl, h1, h2, p3⟩ := for_all (T := tab prog wf m) (i := 5) (f := fun k : Nat => D.int k)
    (b := .seq (.app 3 (.tup (.cons (.ix (.v 4) (.v 5)) (.cons (.op .add (.k (.int 1)) (.ix (.tup (.cons (.call 18 [] (.cons (.v 0) (.cons (.k (.int 4)) .nil))) (.cons (.call 18 [] (.cons (.v 0) (.cons (.k (.int 4)) .nil))) (.cons (.op .mod (.call 20 [] (.cons (.v 0) .nil)) (.k (.int 65535))) .nil)))) (.call 18 [] (.cons (.v 0) (.cons (.k (.int 3)) .nil))))) .nil)))) .skip)
    (List.range ys.length) (fun done sl om' => ∃ (vs : List (Str × Nat)) (c5 : Cell), sl = [.val (.amb 0), .val (.int 6), .val (.int 8), .own (vs.map vD), .val (.lst (strL ys)), c5, .no, .no, .no, .no, .no] ∧ vs.map (·.1) = ys.take done.length ∧ (∀ p ∈ vs, 1 ≤ p.2 ∧ p.2 ≤ 65535) ∧ PoolE om' r0 e)
    (sl := [.val (.amb 0), .val (.int 6), .val (.int 8), .own [], .val (.lst (strL ys)), .no, .no, .no, .no, .no, .no]) (om := om2)
    ⟨[], .no, rfl, by simp, fun c hc => (nomatch hc), p2⟩
    (fun done k rest hk sl om2 hI => by
      obtain ⟨vs, c5, rfl, h2, h3, h4⟩ := hI
      have hdl : done.length < ys.length ∧ k = done.length := by
        have z := congrArg List.length hk
        rw [List.length_range, List.length_append, List.length_cons] at z
        refine ⟨by omega, ?_⟩
        have z2 := congrArg (fun l => l[done.length]?) hk
        simp only [List.getElem?_append_right (Nat.le_refl _), Nat.sub_self, List.getElem?_cons_zero] at z2
        rw [List.getElem?_range (by omega)] at z2
        exact (Option.some.inj z2).symm
      obtain ⟨hdl, rfl⟩ := hdl
      obtain ⟨q, om3, e4, hq, p3⟩ := size_of (wf := wf) (m := m) (by omega) (sl := [.val (.amb 0), .val (.int 6), .val (.int 8), .own (vs.map vD), .val (.lst (strL ys)), .val (.int done.length), .no, .no, .no, .no, .no]) rfl h4
      have hx : atI (strL ys) (done.length : Int) = some (.str ys[done.length]) := by
        rw [PD.atI_nat, List.getElem?_map, List.getElem?_eq_getElem hdl]
        rfl
      have hvl : (vs.map vD).length < 1000000 := by
        have z := congrArg List.length h2
        rw [List.length_map, List.length_take] at z
        rw [List.length_map]
        omega
      refine ⟨_, om3, ?_, vs ++ [(ys[done.length], q)], .val (.int done.length), rfl, ?_, ?_, p3⟩
      · simp only [List.set_cons_succ, List.set_cons_zero]
        rw [z_seq, z_app rfl, r_tup, r_l, r_ix, r_v rfl, r_ix1, r_v rfl, r_ix2, x_l hx, r_l1, r_l, e4, r_l1, r_l0, r_l2, r_l2, r_tup1, if_pos (by simp), z_app1, if_pos hvl, z_seq1, z_skip]
        simp
      · rw [List.map_append, h2, List.length_append, List.length_singleton, List.take_add_one, List.getElem?_eq_getElem hdl]
        rfl
      · intro p hp
        rcases List.mem_append.mp hp with hp | hp
        · exact h3 p hp
        · rw [List.mem_singleton] at hp
          subst hp
          exact hq)
  rw [List.length_range, List.take_length] at h1
  have hvl : vs.length = ys.length := by
    rw [← h1, List.length_map]
  obtain ⟨pn, pa, pb, pc, pd, rfl, ha, hc, hc'⟩ := p3
  have p4 : PoolE (.pl (poolD pn pa pb pc pd 12) :: (r0 ++ [sc ys 6])) (r0 ++ [sc ys 6]) 12 := ⟨_, _, _, _, _, rfl, ha, hc, hc'⟩
  obtain ⟨v5, om5, e5, a5, b5, p5⟩ := draw (wf := wf) (m := m) (by omega) (s := 4) (by decide) (by decide) p4
  obtain ⟨kd, rfl⟩ := Int.eq_ofNat_of_zero_le a5
  obtain ⟨b, om6, e6', e6, hb, hbd, p6, hbc⟩ := gen (wf := wf) (r0 := r0) (ns := ys) (by omega) 4 7 m om5 12 6 (by omega) (by omega) p5
  have e6'' : callN prog wf m 24 [.amb 0, .amb (r0.length + 1), .int 4, .int 7] om5 = .ok (.tup b.ds) om6 := e6
  obtain ⟨v7, om7, e7, a7, b7, p7⟩ := draw (wf := wf) (m := m) (by omega) (s := 2) (by decide) (by decide) p6
  obtain ⟨lim, hlim, el⟩ : ∃ k : Nat, (1 ≤ k ∧ k ≤ 188) ∧ ∀ om, ixD (.tup [.int 60, .int 188]) (.int v7) om = .ok (.int k) om := by
    have h4 : v7 = 0 ∨ v7 = 1 := by omega
    rcases h4 with rfl | rfl
    · exact ⟨60, by omega, fun _ => by simp⟩
    · exact ⟨188, by omega, fun _ => by simp⟩
  obtain ⟨v8, om8, e8, a8, b8, p8⟩ := draw (wf := wf) (m := m) (by omega) (s := (lim : Int)) (by omega) (by omega) p7
  obtain ⟨v9, om9, e9, a9, b9, p9⟩ := draw (wf := wf) (m := m) (by omega) (s := 8) (by decide) (by decide) p8
  obtain ⟨q8, rfl⟩ := Int.eq_ofNat_of_zero_le a8
  obtain ⟨mr, hmr, emr⟩ : ∃ k : Nat, k ≤ 187 ∧ ∀ om, ixD (.tup [.int 0, .int q8]) (.int (if v9 = 0 then 1 else 0)) om = .ok (.int k) om := by
    by_cases h : v9 = 0
    · exact ⟨q8, by omega, fun _ => by simp [h]⟩
    · exact ⟨0, by omega, fun _ => by simp [h]⟩
  have hcomp : cmpG (tab prog wf m) (.k (.bl true)) (.ix (.v 7) (.k (.int 0))) (.one 7) [.val (.amb 0), .val (.int 6), .val (.int 8), .own (vs.map vD), .val (.lst (strL ys)), c5, .no, .no, .no, .no, .no] (vs.map vD) (.pl (poolD pn pa pb pc pd e) :: r0) = .ok (strL ys) (.pl (poolD pn pa pb pc pd e) :: r0) := by
    rcases comp_names (wf := wf) (m := m) (om := .pl (poolD pn pa pb pc pd e) :: r0) (vs := vs) (sl := [.val (.amb 0), .val (.int 6), .val (.int 8), .own (vs.map vD), .val (.lst (strL ys)), c5, .no, .no, .no, .no, .no]) with h | h
    · rw [h, h1]
    · exact absurd h (by simp)
  refine ⟨⟨1 + kd, vs, b.app (Bl.tells mr)⟩, om9, 6 - b.dr, e6', call_ret (d := ⟨3, 11, B_Lwatcher, none⟩) rfl rfl rfl ?_, ?_, ?_⟩
  · have hs : slots ⟨3, 11, B_Lwatcher, none⟩ [.amb 0, .int 6, .int 8] = [.val (.amb 0), .val (.int 6), .val (.int 8), .no, .no, .no, .no, .no, .no, .no, .no] := rfl
    rw [hs]
    have hr : ∀ om, kR1 (.ok (.int (ys.length : Int)) om) = .ok ((List.range ys.length).map fun (k : Nat) => .int k) om := fun om => by
      rw [r_rng1a (by omega) (by omega), Int.toNat_natCast]
    have hv1 : vs.length ≤ 1000000 := by omega
    have hbl : b.ds.length ≤ 200 := by
      have := b.len_cnt
      rw [Bl.ds_len]
      omega
    have hmr' : (mr : Int) ≤ 1000 := by omega
    have hsum : b.ds.length + mr ≤ 1000000 := by omega
    have e5' : callN prog wf m 18 [.amb 0, .int 4] (.pl (poolD pn pa pb pc pd 12) :: (r0 ++ [.dc keysS [.lst (strL ys), .int 6, .int 8]])) = .ok (.int kd) om5 := e5
    simp [B_Lwatcher, e1, e2, hr, e3, hcomp, hv1, sp5, e5', e6'', e7, el, e8, e9, emr, hmr', hbl, hsum]
    simp [Wt.d, Bl.app_ds, Bl.tells_ds]
    done
  · have hns : (⟨1 + kd, vs, b.app (Bl.tells mr)⟩ : Wt).ns = ys := h1
    refine ⟨by show 1 ≤ 1 + kd; omega, by show 1 + kd ≤ 4; omega, by show vs.length ≤ 4; omega, by rw [hns]; exact hnd, by rw [hns]; exact hnm, h2, ?_, ?_, ?_⟩
    · rw [hns]
      exact Bl.app_ok hb (Bl.tells_ok mr)
    · show (b.app (Bl.tells mr)).dr ≤ 6
      rw [Bl.app_dr, Bl.tells_dr]
      omega
    · show (b.app (Bl.tells mr)).cnt ≤ 200
      rw [Bl.app_cnt, Bl.tells_cnt]
      omega
  · show PoolE om9 (r0 ++ [sc (vs.map (·.1)) (6 - b.dr)]) e6'
    rw [h1]
    exact p9
end
/-! ### words -/
theorem atl1 {α : Type} {a : α} : atI [a] (-1) = some a := rfl
theorem atl2 {α : Type} {a b : α} : atI [a, b] (-1) = some b := rfl
theorem atl3 {α : Type} {a b c : α} : atI [a, b, c] (-1) = some c := rfl
section
variable {wf m : Nat} {om r r0 : Om} {e : Int} {ns : List Str}
theorem ws_10 {e : Ex} (h : e.dep ≤ 10) : e.ws.length ≤ 1023 := by
  have h1 := e.ws_len
  have h2 : 2 ^ e.dep ≤ 2 ^ 10 := Nat.pow_le_pow_right (by decide) h
  omega
theorem k_lt {k : Nat} (h : k ≤ 65535) : k < 2 ^ 200 := Nat.lt_of_le_of_lt h (by decide)
/-- both ways to write an expression's words -/
theorem vwords : ∀ (e : Ex) (m : Nat), e.ok ns → e.dep ≤ 10 → e.dep < m → callN prog wf m 27 [e.d] om = .ok (.lst (strL e.ws)) om ∧ callN prog wf m 14 [e.d] om = .ok (.lst (strL e.ws)) om
  | .kind, m, _, _, hm => by
    obtain ⟨m, rfl⟩ : ∃ k, m = k + 1 := ⟨m - 1, by omega⟩
    exact ⟨call_ret (d := ⟨1, 1, B_Lvalue_words, none⟩) rfl rfl rfl (by simp [B_Lvalue_words, slots, Ex.d, Ex.ws, x_t atl1]), call_ret (d := ⟨1, 1, B_value_words, none⟩) rfl rfl rfl (by simp [B_value_words, slots, Ex.d, Ex.ws, x_t atl1])⟩
  | .var x, m, _, _, hm => by
    obtain ⟨m, rfl⟩ : ∃ k, m = k + 1 := ⟨m - 1, by omega⟩
    exact ⟨call_ret (d := ⟨1, 1, B_Lvalue_words, none⟩) rfl rfl rfl (by simp [B_Lvalue_words, slots, Ex.d, Ex.ws, x_t atl2]), call_ret (d := ⟨1, 1, B_value_words, none⟩) rfl rfl rfl (by simp [B_value_words, slots, Ex.d, Ex.ws, x_t atl2])⟩
  | .lit k, m, h, _, hm => by
    obtain ⟨m, rfl⟩ : ∃ k, m = k + 1 := ⟨m - 1, by omega⟩
    exact ⟨call_ret (d := ⟨1, 1, B_Lvalue_words, none⟩) rfl rfl rfl (by simp [B_Lvalue_words, slots, Ex.d, Ex.ws, x_t atl2, b_str (k_lt h)]), call_ret (d := ⟨1, 1, B_value_words, none⟩) rfl rfl rfl (by simp [B_value_words, slots, Ex.d, Ex.ws, x_t atl2, b_str (k_lt h)])⟩
  | .op s a b, m, h, hd, hm => by
    obtain ⟨m, rfl⟩ : ∃ k, m = k + 1 := ⟨m - 1, by omega⟩
    rw [Ex.dep] at hd hm
    rw [Ex.ok] at h
    obtain ⟨a1, a2⟩ := vwords a m h.2.1 (by omega) (by omega)
    obtain ⟨b1, b2⟩ := vwords b m h.2.2 (by omega) (by omega)
    have la := ws_10 (e := a) (by omega)
    have lb := ws_10 (e := b) (by omega)
    have l1 : a.ws.length + 1 ≤ 1000000 := by omega
    have l2 : a.ws.length + 1 + b.ws.length ≤ 1000000 := by omega
    have l3 : a.ws.length + b.ws.length + 1 ≤ 1000000 := by omega
    have l4 : 1 + a.ws.length ≤ 1000000 := by omega
    have l5 : a.ws.length + b.ws.length < 1000000 := by omega
    have l6 : a.ws.length < 1000000 := by omega
    exact ⟨call_ret (d := ⟨1, 1, B_Lvalue_words, none⟩) rfl rfl rfl (by simp [B_Lvalue_words, slots, Ex.d, Ex.ws, a1, b1, l1, l2, l4]), call_ret (d := ⟨1, 1, B_value_words, none⟩) rfl rfl rfl (by simp [B_value_words, slots, Ex.d, Ex.ws, a2, b2, l3])⟩
end
end K01

set_option Elab.async false
set_option linter.all false
set_option maxRecDepth 100000
set_option maxHeartbeats 1000000
/-! K01W: the words of watchers. -/
namespace K01
open PySem L2 PD
theorem cut2 {α : Type} {a b : D} : cutD [a, b] none (some (-1)) = [a] := rfl
theorem cut3 {α : Type} {a b c : D} : cutD [a, b, c] none (some (-1)) = [a, b] := rfl
theorem cut2' {α : Type} {a b : D} : cutD [a, b] (some 1) (some (-1)) = [] := rfl
theorem cut3' {α : Type} {a b c : D} : cutD [a, b, c] (some 1) (some (-1)) = [b] := rfl
section
variable {T : Tb} {wf m : Nat} {om r r0 : Om} {e : Int} {ns : List Str}
theorem cmpN {a b : Str} {v : Bool} (ha : Wd a) (hb : Wd b) (h : (a == b) = v) : cmp T .eq (.str a) (.str b) om = .ok v om := by
  rw [o_eqs ha.ok hb.ok, h]
theorem c_tell_if : cmp T .eq (.str (st "tell")) (.str (st "if")) om = .ok false om := cmpN wd_tell wd_if (by decide +kernel)
theorem c_set_if : cmp T .eq (.str (st "set")) (.str (st "if")) om = .ok false om := cmpN wd_set wd_if (by decide +kernel)
theorem c_draw_if : cmp T .eq (.str (st "draw")) (.str (st "if")) om = .ok false om := cmpN wd_draw wd_if (by decide +kernel)
theorem c_if_if : cmp T .eq (.str (st "if")) (.str (st "if")) om = .ok true om := cmpN wd_if wd_if (by decide +kernel)
theorem c_tell_draw : cmp T .eq (.str (st "tell")) (.str (st "draw")) om = .ok false om := cmpN wd_tell wd_draw (by decide +kernel)
theorem c_set_draw : cmp T .eq (.str (st "set")) (.str (st "draw")) om = .ok false om := cmpN wd_set wd_draw (by decide +kernel)
theorem c_draw_draw : cmp T .eq (.str (st "draw")) (.str (st "draw")) om = .ok true om := cmpN wd_draw wd_draw (by decide +kernel)
abbrev lBody : S := match B_Lblock_words with | .seq _ (.seq (.fo _ _ b) _) => b | _ => .skip
abbrev pBody : S := match B_block_words with | .seq _ (.seq (.fo _ _ b) _) => b | _ => .skip
theorem Bl.emp_len {b : Bl} (h : b.emp = true) : b.ds = [] := by
  cases b with
  | nil => rfl
  | cons s b => cases h
theorem Bl.emp_pos {b : Bl} (h : ¬ b.emp = true) : 0 < b.ds.length := by
  cases b with
  | nil => exact absurd rfl h
  | cons s b => rw [Bl.ds]; simp
theorem blL_of {b : Bl} (h : ∃ c2', forG (tab prog wf m) lBody (.one 2) b.ds [.val (.tup b.ds), .own [], .no] om = .next [.val (.tup b.ds), .own (strL b.ws), c2'] om) : callN prog wf (m + 1) 28 [.tup b.ds] om = .ok (.lst (strL b.ws)) om := by
  obtain ⟨c2, e⟩ := h
  refine call_ret (d := ⟨1, 3, B_Lblock_words, none⟩) rfl rfl rfl ?_
  have hs : slots ⟨1, 3, B_Lblock_words, none⟩ [.tup b.ds] = [.val (.tup b.ds), .no, .no] := rfl
  have hb : B_Lblock_words = .seq (.setO 1 (.lst .nil)) (.seq (.fo (.one 2) (.itl (.v 0)) lBody) (.seq (.fz 1) (.seq (.ret (.v 1)) .skip))) := rfl
  rw [hs, hb]
  simp only [z_seq, z_setO, r_lst, r_l0, r_lst1, List.length_nil, Nat.zero_le, if_true, z_setO1, z_seq1, List.set_cons_succ, List.set_cons_zero, z_fo, r_itl]
  rw [r_v rfl, r_itl2, z_fo1, e, z_seq1, z_seq, z_fz rfl]
  simp
theorem blP_of {b : Bl} (h : ∃ c2', forG (tab prog wf m) pBody (.one 2) b.ds [.val (.tup b.ds), .own [], .no] om = .next [.val (.tup b.ds), .own (strL b.ws), c2'] om) : callN prog wf (m + 1) 15 [.tup b.ds] om = .ok (.lst (strL b.ws)) om := by
  obtain ⟨c2, e⟩ := h
  refine call_ret (d := ⟨1, 3, B_block_words, none⟩) rfl rfl rfl ?_
  have hs : slots ⟨1, 3, B_block_words, none⟩ [.tup b.ds] = [.val (.tup b.ds), .no, .no] := rfl
  have hb : B_block_words = .seq (.setO 1 (.lst .nil)) (.seq (.fo (.one 2) (.itl (.v 0)) pBody) (.seq (.fz 1) (.seq (.ret (.v 1)) .skip))) := rfl
  rw [hs, hb]
  simp only [z_seq, z_setO, r_lst, r_l0, r_lst1, List.length_nil, Nat.zero_le, if_true, z_setO1, z_seq1, List.set_cons_succ, List.set_cons_zero, z_fo, r_itl]
  rw [r_v rfl, r_itl2, z_fo1, e, z_seq1, z_seq, z_fz rfl]
  simp
mutual
theorem stL : ∀ (s : St) (n m : Nat) (acc : List Str) (x0 : D), s.ok ns n → n + 12 < m → acc.length + 66 * s.cnt ≤ 900000 →
    evS (tab prog wf m) lBody [.val x0, .own (strL acc), .val s.d] om = .next [.val x0, .own (strL (acc ++ s.ws)), .val s.d] om
  | .tell e, n, m, acc, x0, h, hm, hl => by
    rw [St.ok] at h
    have w := (vwords (wf := wf) (om := om) e m h.1 (by omega) (by omega)).1
    have l := ws_10 (e := e) (by omega)
    have l1 : acc.length + 1 ≤ 1000000 := by omega
    have l2 : acc.length + 1 + e.ws.length ≤ 1000000 := by omega
    simp [lBody, B_Lblock_words, St.d, St.ws, c_tell_if, c_tell_draw, cut2, x_t atl2, w, l1, l2]
  | .set x e, n, m, acc, x0, h, hm, hl => by
    rw [St.ok] at h
    have w := (vwords (wf := wf) (om := om) e m h.2.1 (by omega) (by omega)).1
    have l := ws_10 (e := e) (by omega)
    have l1 : acc.length + 2 ≤ 1000000 := by omega
    have l2 : acc.length + 2 + e.ws.length ≤ 1000000 := by omega
    simp [lBody, B_Lblock_words, St.d, St.ws, c_set_if, c_set_draw, cut3, x_t atl3, w, l1, l2]
  | .draw x k, n, m, acc, x0, h, hm, hl => by
    rw [St.ok] at h
    have l1 : acc.length + 3 ≤ 1000000 := by omega
    simp [lBody, B_Lblock_words, St.d, St.ws, c_draw_if, c_draw_draw, b_str (k_lt (k := k) (by omega)), l1]
  | .ite e a b, 0, m, acc, x0, h, hm, hl => by rw [St.ok] at h; exact h.elim
  | .ite e a b, n + 1, m, acc, x0, h, hm, hl => by
    rw [St.ok] at h
    rw [St.cnt] at hl
    obtain ⟨m, rfl⟩ : ∃ k, m = k + 1 := ⟨m - 1, by omega⟩
    have w := (vwords (wf := wf) (om := om) e (m + 1) h.1 (by omega) (by omega)).1
    have wa := blL_of (loopL a n m [] (.tup a.ds) .no h.2.2.1 (by omega) (by rw [List.length_nil]; omega))
    have wb := blL_of (loopL b n m [] (.tup b.ds) .no h.2.2.2 (by omega) (by rw [List.length_nil]; omega))
    have l := ws_10 (e := e) (by omega)
    have la := Bl.ws_len a h.2.2.1
    have lb := Bl.ws_len b h.2.2.2
    have l1 : acc.length + 1 ≤ 1000000 := by omega
    have l2 : acc.length + 1 + e.ws.length ≤ 1000000 := by omega
    have l3 : acc.length + 1 + e.ws.length + a.ws.length ≤ 1000000 := by omega
    by_cases hb : b.emp = true
    · have hbd := Bl.emp_len hb
      have l4 : acc.length + (e.ws.length + a.ws.length + 1) < 1000000 := by omega
      simp [lBody, B_Lblock_words, St.d, St.ws, c_if_if, w, wa, hb, hbd, l1, l2, l3, l4]
      repeat (rw [if_pos (by omega)]; simp [hbd])
    · have hbd := Bl.emp_pos hb
      have l4 : acc.length + (e.ws.length + a.ws.length + 1) < 1000000 := by omega
      simp [lBody, B_Lblock_words, St.d, St.ws, c_if_if, w, wa, wb, hb, hbd, l1, l2, l3, l4]
      repeat (rw [if_pos (by omega)]; simp [hbd, wb])
theorem loopL : ∀ (b : Bl) (n m : Nat) (acc : List Str) (x0 : D) (c2 : Cell), b.ok ns n → n + 12 < m → acc.length + 66 * b.cnt ≤ 900000 →
    ∃ c2', forG (tab prog wf m) lBody (.one 2) b.ds [.val x0, .own (strL acc), c2] om = .next [.val x0, .own (strL (acc ++ b.ws)), c2'] om
  | .nil, n, m, acc, x0, c2, h, hm, hl => ⟨c2, by rw [Bl.ds, Bl.ws, f_nil, List.append_nil]⟩
  | .cons s b, n, m, acc, x0, c2, h, hm, hl => by
    rw [Bl.ok] at h
    rw [Bl.cnt] at hl
    have l := St.ws_len s h.1
    have hs := stL s n m acc x0 h.1 (by omega) (by omega)
    obtain ⟨c2', e⟩ := loopL b n m (acc ++ s.ws) x0 (.val s.d) h.2 (by omega) (by rw [List.length_append]; omega)
    refine ⟨c2', ?_⟩
    rw [Bl.ds, f_cons]
    simp only [List.set_cons_succ, List.set_cons_zero]
    rw [hs, f_n, e, Bl.ws, List.append_assoc]
end
mutual
theorem stP : ∀ (s : St) (n m : Nat) (acc : List Str) (x0 : D), s.ok ns n → n + 12 < m → acc.length + 66 * s.cnt ≤ 900000 →
    evS (tab prog wf m) pBody [.val x0, .own (strL acc), .val s.d] om = .next [.val x0, .own (strL (acc ++ s.ws)), .val s.d] om
  | .tell e, n, m, acc, x0, h, hm, hl => by
    rw [St.ok] at h
    have w := (vwords (wf := wf) (om := om) e m h.1 (by omega) (by omega)).2
    have l := ws_10 (e := e) (by omega)
    have l1 : acc.length < 1000000 := by omega
    simp [pBody, B_block_words, St.d, St.ws, c_tell_if, c_tell_draw, cut2', x_t atl2, w, l1]
    repeat (rw [if_pos (by omega)]; simp)
  | .set x e, n, m, acc, x0, h, hm, hl => by
    rw [St.ok] at h
    have w := (vwords (wf := wf) (om := om) e m h.2.1 (by omega) (by omega)).2
    have l := ws_10 (e := e) (by omega)
    have l1 : acc.length < 1000000 := by omega
    simp [pBody, B_block_words, St.d, St.ws, c_set_if, c_set_draw, cut3', x_t atl3, w, l1]
    repeat (rw [if_pos (by omega)]; simp)
  | .draw x k, n, m, acc, x0, h, hm, hl => by
    rw [St.ok] at h
    have l1 : acc.length < 1000000 := by omega
    simp [pBody, B_block_words, St.d, St.ws, c_draw_if, c_draw_draw, b_str (k_lt (k := k) (by omega)), l1]
    repeat (rw [if_pos (by omega)]; simp)
  | .ite e a b, 0, m, acc, x0, h, hm, hl => by rw [St.ok] at h; exact h.elim
  | .ite e a b, n + 1, m, acc, x0, h, hm, hl => by
    rw [St.ok] at h
    rw [St.cnt] at hl
    obtain ⟨m, rfl⟩ : ∃ k, m = k + 1 := ⟨m - 1, by omega⟩
    have w := (vwords (wf := wf) (om := om) e (m + 1) h.1 (by omega) (by omega)).2
    have wa := blP_of (loopP a n m [] (.tup a.ds) .no h.2.2.1 (by omega) (by rw [List.length_nil]; omega))
    have wb := blP_of (loopP b n m [] (.tup b.ds) .no h.2.2.2 (by omega) (by rw [List.length_nil]; omega))
    have l := ws_10 (e := e) (by omega)
    have la := Bl.ws_len a h.2.2.1
    have lb := Bl.ws_len b h.2.2.2
    have l1 : acc.length < 1000000 := by omega
    by_cases hb : b.emp = true
    · have hbd := Bl.emp_len hb
      simp [pBody, B_block_words, St.d, St.ws, c_if_if, w, wa, hb, hbd, l1]
      repeat (rw [if_pos (by omega)]; simp)
    · have hbd := Bl.emp_pos hb
      have hbe : b.ds.isEmpty = false := by
        cases q : b.ds with
        | nil => rw [q] at hbd; exact absurd hbd (by decide)
        | cons _ _ => rfl
      simp [pBody, B_block_words, St.d, St.ws, c_if_if, w, wa, wb, hb, hbe, l1]
      repeat (rw [if_pos (by omega)]; simp [hbe, wb])
theorem loopP : ∀ (b : Bl) (n m : Nat) (acc : List Str) (x0 : D) (c2 : Cell), b.ok ns n → n + 12 < m → acc.length + 66 * b.cnt ≤ 900000 →
    ∃ c2', forG (tab prog wf m) pBody (.one 2) b.ds [.val x0, .own (strL acc), c2] om = .next [.val x0, .own (strL (acc ++ b.ws)), c2'] om
  | .nil, n, m, acc, x0, c2, h, hm, hl => ⟨c2, by rw [Bl.ds, Bl.ws, f_nil, List.append_nil]⟩
  | .cons s b, n, m, acc, x0, c2, h, hm, hl => by
    rw [Bl.ok] at h
    rw [Bl.cnt] at hl
    have l := St.ws_len s h.1
    have hs := stP s n m acc x0 h.1 (by omega) (by omega)
    obtain ⟨c2', e⟩ := loopP b n m (acc ++ s.ws) x0 (.val s.d) h.2 (by omega) (by rw [List.length_append]; omega)
    refine ⟨c2', ?_⟩
    rw [Bl.ds, f_cons]
    simp only [List.set_cons_succ, List.set_cons_zero]
    rw [hs, f_n, e, Bl.ws, List.append_assoc]
end
theorem blL {b : Bl} {n : Nat} (h : b.ok ns n) (hc : b.cnt ≤ 200) (hn : n ≤ 4) (hm : 30 ≤ m) : callN prog wf m 28 [.tup b.ds] om = .ok (.lst (strL b.ws)) om := by
  obtain ⟨m, rfl⟩ : ∃ k, m = k + 1 := ⟨m - 1, by omega⟩
  exact blL_of (loopL b n m [] (.tup b.ds) .no h (by omega) (by rw [List.length_nil]; omega))
theorem blP {b : Bl} {n : Nat} (h : b.ok ns n) (hc : b.cnt ≤ 200) (hn : n ≤ 4) (hm : 30 ≤ m) : callN prog wf m 15 [.tup b.ds] om = .ok (.lst (strL b.ws)) om := by
  obtain ⟨m, rfl⟩ : ∃ k, m = k + 1 := ⟨m - 1, by omega⟩
  exact blP_of (loopP b n m [] (.tup b.ds) .no h (by omega) (by rw [List.length_nil]; omega))
end
/-! ### a watcher's words -/
def vW (p : Str × Nat) : List Str := [st "var", p.1, num p.2]
def Wt.ws (w : Wt) : List Str := st "kinds" :: num w.kinds :: ((w.vs.map vW).flatten ++ w.b.ws)
section
variable {wf m : Nat} {om r r0 : Om} {e : Int} {ns : List Str}
theorem vW_len {vs : List (Str × Nat)} (h : vs.length ≤ 4) : (vs.map vW).flatten.length ≤ 12 := by
  have h1 := flat_le (l := vs.map vW) (b := 3) fun x hx => by
    obtain ⟨p, _, rfl⟩ := List.mem_map.mp hx
    exact Nat.le_refl _
  rw [List.length_map] at h1
  omega
theorem lwords {w : Wt} (h : w.Ok) (hm : 32 ≤ m) : callN prog wf m 29 [w.d] om = .ok (.lst (strL w.ws)) om := by
  obtain ⟨m, rfl⟩ : ∃ k, m = k + 1 := ⟨m - 1, by omega⟩
  have hb := blL (wf := wf) (m := m) (om := om) h.b h.cnt (by omega) (by omega)
  have hbl := Bl.ws_len w.b h.b
  obtain ⟨sl', om', e1, c2, c3, rfl, ho⟩ := for_allT (T := tab prog wf m) (is := [2, 3]) (f := fun p : Str × Nat => [D.str p.1, .int p.2]) (fun _ => rfl)
    (b := .seq (.set 1 (.op .add (.v 1) (.lst (.cons (.k (.str "var")) (.cons (.v 2) (.cons (.bi .str (.v 3)) .nil)))))) .skip)
    w.vs (fun done sl om' => ∃ c2 c3, sl = [.val w.d, .val (.lst (strL (st "kinds" :: num w.kinds :: (done.map vW).flatten))), c2, c3] ∧ om' = om)
    (sl := [.val w.d, .val (.lst [.str (st "kinds"), .str (num w.kinds)]), .no, .no]) (om := om) ⟨.no, .no, rfl, rfl⟩
    (fun done p rest hk sl om1 hI => by
      obtain ⟨c2, c3, rfl, rfl⟩ := hI
      have hd : done.length ≤ 4 := by
        have z := congrArg List.length hk
        have := h.len
        rw [List.length_append] at z
        omega
      have hl := vW_len hd
      have hp := (h.sz p (by rw [hk]; simp)).2
      refine ⟨_, om1, ?_, .val (.str p.1), .val (.int p.2), rfl, rfl⟩
      have e : ((done ++ [p]).map vW).flatten = (done.map vW).flatten ++ vW p := by simp
      rw [e]
      generalize (done.map vW).flatten = L at hl ⊢
      have hl2 : L.length + 1 + 1 + 3 ≤ 1000000 := by omega
      simp [b_str (k_lt hp), vW, hl2])
  rw [ho] at e1
  refine call_ret (d := ⟨1, 4, B_Lwords, none⟩) rfl rfl rfl ?_
  have hs : slots ⟨1, 4, B_Lwords, none⟩ [w.d] = [.val w.d, .no, .no, .no] := rfl
  have hk : w.kinds ≤ 65535 := by
    have := h.k4
    omega
  have hl := vW_len h.len
  have hw : w.d = .tup [.int w.kinds, .tup (w.vs.map vD), .tup w.b.ds] := rfl
  have x0 : ∀ om, ixD w.d (.int 0) om = .ok (.int w.kinds) om := fun om => x_t atI0
  have x1 : ∀ om, ixD w.d (.int 1) om = .ok (.tup (w.vs.map vD)) om := fun om => x_t atI1
  have x2 : ∀ om, ixD w.d (.int 2) om = .ok (.tup w.b.ds) om := fun om => x_t atI2
  have e2 : forG (tab prog wf m) (.seq (.set 1 (.op .add (.v 1) (.lst (.cons (.k (.str "var")) (.cons (.v 2) (.cons (.bi .str (.v 3)) .nil)))))) .skip) (.many [2, 3]) (w.vs.map vD) [.val w.d, .val (.lst [.str (st "kinds"), .str (num w.kinds)]), .no, .no] om = .next [.val w.d, .val (.lst (strL (st "kinds" :: num w.kinds :: (w.vs.map vW).flatten))), c2, c3] om := e1
  rw [hs]
  have hl2 : (w.vs.map vW).flatten.length + 1 + 1 + w.b.ws.length ≤ 1000000 := by
    have := h.cnt
    omega
  have hc := h.cnt
  unfold Wt.ws
  generalize (w.vs.map vW).flatten = L at e2 hl hl2 ⊢
  simp [B_Lwords, x0, b_str (k_lt hk), x1, e2, x2, hb, hl2]
/-! ### the text -/
abbrev sp : Str := st " "
def jn (ws : List Str) : Str := Txt.join sp ws
structure Good (ws : List Str) : Prop where
  ne : ws ≠ []
  len : ws.length ≤ 20000
  wd : ∀ w ∈ ws, Wd w
theorem jn_ok {T : Tb} {ws : List Str} (h : Good ws) : mbf .join (st " ") (.lst (strL ws)) om = .ok (.str (jn ws)) om := by
  refine j_ok (s := Str.ofString " ") ?_
  have z := sum_le (l := ws) (b := 8) fun w hw => (h.wd w hw).1
  have hl := h.len
  have hsp : (Str.ofString " ").length = 1 := rfl
  rw [hsp]
  omega
theorem jn_len {ws : List Str} (h : Good ws) : (jn ws).length ≤ 200000 := by
  have z := sum_le (l := ws) (b := 8) fun w hw => (h.wd w hw).1
  have hl := h.len
  have hj := join_len sp ws
  have hsp : sp.length = 1 := rfl
  rw [hsp] at hj
  unfold jn
  omega
theorem sp_ok : sp.cps.all (· < 256) = true := by
  rw [Array.all_eq_true_iff_forall_mem]
  intro c hc
  have h : c ∈ [32] := Array.mem_toList_iff.mpr hc
  rw [List.mem_singleton.mp h]
  rfl
theorem split_ok {ws : List Str} (h : Good ws) : mbf .split (jn ws) (.str (Str.ofString " ")) om = .ok (.lst (strL ws)) om := by
  show (if ((Str.ofString " ").length == 0) = false ∧ (jn ws).length + 2 ≤ 1000000 then Rs.ok (D.lst ((Txt.split (jn ws) (Str.ofString " ")).map D.str)) om else .stuck) = _
  have hl := jn_len h
  rw [if_pos ⟨rfl, by omega⟩]
  have e : Txt.split (jn ws) (Str.ofString " ") = ws := TL.split_join (s := 32) (S := []) rfl sp_ok h.ne fun p hp hc => by
    have := (h.wd p hp).2.2 32 hc
    omega
  rw [e]
theorem joinL_mem {S : List Nat} {c : Nat} : ∀ {l : List (List Nat)}, c ∈ TL.joinL S l → c ∈ S ∨ ∃ x ∈ l, c ∈ x
  | [], h => by simp [TL.joinL] at h
  | [p], h => .inr ⟨p, List.mem_singleton.mpr rfl, by simpa [TL.joinL] using h⟩
  | p :: q :: r, h => by
    simp only [TL.joinL, List.mem_append] at h
    rcases h with h | h | h
    · exact .inr ⟨p, List.mem_cons_self, h⟩
    · exact .inl h
    · rcases joinL_mem h with h | ⟨x, hx, h⟩
      · exact .inl h
      · exact .inr ⟨x, List.mem_cons_of_mem _ hx, h⟩
theorem jn_strOk {ws : List Str} (h : Good ws) : PyData.strOk (jn ws) = true := strOk_of fun c hc => by
  have hc' : c ∈ TL.tl (Txt.join sp ws) := hc
  rw [TL.join_eq, TL.tl_join] at hc'
  rcases joinL_mem hc' with h' | ⟨x, hx, h'⟩
  · have : c ∈ [32] := h'
    rw [List.mem_singleton.mp this]
    decide
  · obtain ⟨w, hw, rfl⟩ := List.mem_map.mp hx
    exact ((h.wd w hw).2.2 c h').2
theorem wws_good {w : Wt} (h : w.Ok) : Good w.ws := by
  have hb := Bl.ws_len w.b h.b
  have hl := vW_len h.len
  have hc := h.cnt
  refine ⟨by simp [Wt.ws], by simp only [Wt.ws, List.length_cons, List.length_append]; omega, fun x hx => ?_⟩
  simp only [Wt.ws, List.mem_cons, List.mem_append] at hx
  rcases hx with rfl | rfl | hx | hx
  · exact wd_kinds
  · exact wd_num (by have := h.k4; omega)
  · obtain ⟨l, hl, hx⟩ := List.mem_flatten.mp hx
    obtain ⟨p, hp, rfl⟩ := List.mem_map.mp hl
    simp only [vW, List.mem_cons, List.not_mem_nil, or_false] at hx
    rcases hx with rfl | rfl | rfl
    · exact wd_var
    · exact (h.nm _ (List.mem_map_of_mem hp)).wd
    · exact wd_num (h.sz p hp).2
  · exact Bl.wd (fun x hx => (h.nm x hx).wd) w.b h.b x hx
abbrev Wt.o (w : Wt) : D := .obj 0 [.int w.kinds, .tup (w.vs.map vD), .tup w.b.ds]
theorem wtext {w : Wt} (h : w.Ok) (hm : 32 ≤ m) : callN prog wf m 16 [w.o] om = .ok (.str (jn w.ws)) om := by
  obtain ⟨m, rfl⟩ : ∃ k, m = k + 1 := ⟨m - 1, by omega⟩
  have hb := blP (wf := wf) (m := m) (om := om) h.b h.cnt (by omega) (by omega)
  have hbl := Bl.ws_len w.b h.b
  obtain ⟨sl', om', e1, c2, c3, rfl, ho⟩ := for_allT (T := tab prog wf m) (is := [2, 3]) (f := fun p : Str × Nat => [D.str p.1, .int p.2]) (fun _ => rfl)
    (b := .seq (.ext 1 (.lst (.cons (.k (.str "var")) (.cons (.v 2) (.cons (.bi .str (.v 3)) .nil))))) .skip)
    w.vs (fun done sl om' => ∃ c2 c3, sl = [.val w.o, .own (strL (st "kinds" :: num w.kinds :: (done.map vW).flatten)), c2, c3] ∧ om' = om)
    (sl := [.val w.o, .own [.str (st "kinds"), .str (num w.kinds)], .no, .no]) (om := om) ⟨.no, .no, rfl, rfl⟩
    (fun done p rest hk sl om1 hI => by
      obtain ⟨c2, c3, rfl, rfl⟩ := hI
      have hd : done.length ≤ 4 := by
        have z := congrArg List.length hk
        have := h.len
        rw [List.length_append] at z
        omega
      have hl := vW_len hd
      have hp := (h.sz p (by rw [hk]; simp)).2
      refine ⟨_, om1, ?_, .val (.str p.1), .val (.int p.2), rfl, rfl⟩
      have e : ((done ++ [p]).map vW).flatten = (done.map vW).flatten ++ vW p := by simp
      rw [e]
      generalize (done.map vW).flatten = L at hl ⊢
      have hl2 : L.length + 1 + 1 + 3 ≤ 1000000 := by omega
      simp [b_str (k_lt hp), vW, hl2])
  rw [ho] at e1
  refine call_ret (d := ⟨1, 4, B_watcher_text, none⟩) rfl rfl rfl ?_
  have hs : slots ⟨1, 4, B_watcher_text, none⟩ [w.o] = [.val w.o, .no, .no, .no] := rfl
  have hk : w.kinds ≤ 65535 := by
    have := h.k4
    omega
  have hl := vW_len h.len
  have e2 : forG (tab prog wf m) (.seq (.ext 1 (.lst (.cons (.k (.str "var")) (.cons (.v 2) (.cons (.bi .str (.v 3)) .nil))))) .skip) (.many [2, 3]) (w.vs.map vD) [.val w.o, .own [.str (st "kinds"), .str (num w.kinds)], .no, .no] om = .next [.val w.o, .own (strL (st "kinds" :: num w.kinds :: (w.vs.map vW).flatten)), c2, c3] om := e1
  have hj := jn_ok (T := tab prog wf m) (om := om) (wws_good h)
  unfold Wt.ws at hj
  rw [hs]
  have hl2 : (w.vs.map vW).flatten.length + 1 + 1 + w.b.ws.length ≤ 1000000 := by
    have := h.cnt
    omega
  have hc := h.cnt
  unfold Wt.ws
  generalize (w.vs.map vW).flatten = L at e2 hl hl2 hj ⊢
  have hj' : mbf .join (st " ") (.lst (D.str (st "kinds") :: D.str (num w.kinds) :: (List.map D.str L ++ List.map D.str w.b.ws))) om = .ok (.str (jn (st "kinds" :: num w.kinds :: (L ++ w.b.ws)))) om := by
    rw [← hj]
    simp
  simp [B_watcher_text, b_str (k_lt hk), e2, hb, hl2, hj']
end
end K01

set_option Elab.async false
set_option linter.all false
set_option maxRecDepth 100000
set_option maxHeartbeats 1000000
/-! K01R: the reader. -/
namespace K01
open PySem L2 PD
/-- the store with a reader behind pre -/
def RS (pre : Om) (ws : List Str) (a : Nat) (ns : List Str) (dr : Nat) : Om := pre ++ [.ob 1 [.lst (strL ws), .int a, .amb (pre.length + 1), .int dr], .pl (strL ns)]
def hd0 : List Str → Str
  | [] => st ""
  | w :: _ => w
section
variable {T : Tb} {pre : Om} {ws ns rest : List Str} {a dr m wf : Nat}
theorem rs0 : (RS pre ws a ns dr)[pre.length]? = some (.ob 1 [.lst (strL ws), .int a, .amb (pre.length + 1), .int dr]) := by simp [RS]
theorem rs1 : (RS pre ws a ns dr)[pre.length + 1]? = some (.pl (strL ns)) := by simp [RS]
theorem rsf0 : kFld (.ok (.amb pre.length) (RS pre ws a ns dr)) 1 0 = .ok (.lst (strL ws)) (RS pre ws a ns dr) := r_flda rs0 rfl
theorem rsf1 : kFld (.ok (.amb pre.length) (RS pre ws a ns dr)) 1 1 = .ok (.int a) (RS pre ws a ns dr) := r_flda rs0 rfl
theorem rsf2 : kFld (.ok (.amb pre.length) (RS pre ws a ns dr)) 1 2 = .ok (.amb (pre.length + 1)) (RS pre ws a ns dr) := r_flda rs0 rfl
theorem rsf3 : kFld (.ok (.amb pre.length) (RS pre ws a ns dr)) 1 3 = .ok (.int dr) (RS pre ws a ns dr) := r_flda rs0 rfl
theorem rsC : isC 1 (.amb pre.length) (RS pre ws a ns dr) = true := r_isCa rs0
/-- at += 1 -/
theorem rsN {sl : Sl} {i : Nat} (h : sl[i]? = some (.val (.amb pre.length))) : evS T (.auF i 1 1 (.k (.int 1))) sl (RS pre ws a ns dr) = .next sl (RS pre ws (a + 1) ns dr) := by
  rw [z_auF h rs0 rfl, r_k, z_auF1 rs0 (by simp)]
  simp [RS]
/-- draws += 1 -/
theorem rsD {sl : Sl} {i : Nat} (h : sl[i]? = some (.val (.amb pre.length))) : evS T (.auF i 1 3 (.k (.int 1))) sl (RS pre ws a ns dr) = .next sl (RS pre ws a ns (dr + 1)) := by
  rw [z_auF h rs0 rfl, r_k, z_auF1 rs0 (by simp)]
  simp [RS]
theorem drop_next {w : Str} (h : ws.drop a = w :: rest) : ws.drop (a + 1) = rest := by
  rw [← List.drop_drop, h]
  rfl
theorem word (hm : 0 < m) (h : ws.drop a = rest) : callN prog wf m 5 [.amb pre.length] (RS pre ws a ns dr) = .ok (.str (hd0 rest)) (RS pre ws a ns dr) := by
  obtain ⟨m, rfl⟩ : ∃ k, m = k + 1 := ⟨m - 1, by omega⟩
  refine call_ret (d := ⟨1, 1, B_Reader_word, none⟩) rfl rfl rfl ?_
  cases rest with
  | nil =>
    have hl : ws.length ≤ a := by simpa using h
    have hl' : ¬ a < ws.length := by omega
    simp [B_Reader_word, slots, rsf0, rsf1, hl', hd0]
  | cons w r =>
    have hl : a < ws.length := by
      apply Nat.lt_of_not_le
      intro hc
      rw [List.drop_of_length_le hc] at h
      cases h
    have hx : atI (strL ws) (a : Int) = some (.str w) := by
      rw [PD.atI_nat, List.getElem?_map]
      have e : ws[a]? = (ws.drop a)[0]? := by simp
      rw [e, h]
      rfl
    have hx' : ixD (.lst (List.map D.str ws)) (.int (a : Int)) (RS pre ws a ns dr) = .ok (.str w) (RS pre ws a ns dr) := x_l hx
    simp [B_Reader_word, slots, rsf0, rsf1, hl, hx', hd0]
/-- the call as it stands in a body -/
theorem wordE {sl : Sl} {i : Nat} (hm : 0 < m) (hi : sl[i]? = some (.val (.amb pre.length))) (h : ws.drop a = rest) : evE (tab prog wf m) (.meth 1 5 [] (.v i) .nil) sl (RS pre ws a ns dr) = .ok (.str (hd0 rest)) (RS pre ws a ns dr) := by
  rw [r_meth, r_v hi, r_meth1 rsC, r_l0, r_meth2]
  exact word hm h
theorem pass_lit {w : Str} (hm : 1 < m) (h : ws.drop a = w :: rest) : callN prog wf m 6 [.amb pre.length, .tup [.str w]] (RS pre ws a ns dr) = .ok (.str w) (RS pre ws (a + 1) ns dr) := by
  obtain ⟨m, rfl⟩ : ∃ k, m = k + 1 := ⟨m - 1, by omega⟩
  refine call_ret (d := ⟨2, 3, B_Reader_pass_word, none⟩) rfl rfl rfl ?_
  have hs : slots ⟨2, 3, B_Reader_pass_word, none⟩ [.amb pre.length, .tup [.str w]] = [.val (.amb pre.length), .val (.tup [.str w]), .no] := rfl
  have hi : ∀ om, cmp (tab prog wf m) .nin (.str w) (.tup [.str w]) om = .ok false om := fun om => by
    have z := o_nint (T := tab prog wf m) (om := om) (inT_str (x := w) (ys := [w]))
    simpa using z
  rw [hs]
  unfold B_Reader_pass_word
  rw [z_seq, z_set, wordE (by omega) rfl h, z_set1, z_seq1]
  simp only [List.set_cons_succ, List.set_cons_zero]
  rw [z_seq, z_ite, r_cm, r_v rfl, r_cm1, r_v rfl, r_cm2, show hd0 (w :: rest) = w from rfl, hi, r_bl, r_tr1, z_ite2, z_skip, z_seq1, z_seq, rsN rfl, z_seq1]
  simp
theorem pass_name {w : Str} (hw : Wd w) (hn : ∀ x ∈ ns, Wd x) (hw' : w ∈ ns) (hm : 1 < m) (h : ws.drop a = w :: rest) : callN prog wf m 6 [.amb pre.length, .amb (pre.length + 1)] (RS pre ws a ns dr) = .ok (.str w) (RS pre ws (a + 1) ns dr) := by
  obtain ⟨m, rfl⟩ : ∃ k, m = k + 1 := ⟨m - 1, by omega⟩
  refine call_ret (d := ⟨2, 3, B_Reader_pass_word, none⟩) rfl rfl rfl ?_
  have hs : slots ⟨2, 3, B_Reader_pass_word, none⟩ [.amb pre.length, .amb (pre.length + 1)] = [.val (.amb pre.length), .val (.amb (pre.length + 1)), .no] := rfl
  have hi : cmp (tab prog wf m) .nin (.str w) (.amb (pre.length + 1)) (RS pre ws a ns dr) = .ok false (RS pre ws a ns dr) := by
    rw [o_nina rs1 (inD_str hw.ok fun y hy => (hn y hy).ok), decide_eq_true hw']
    rfl
  rw [hs]
  unfold B_Reader_pass_word
  rw [z_seq, z_set, wordE (by omega) rfl h, z_set1, z_seq1]
  simp only [List.set_cons_succ, List.set_cons_zero]
  rw [z_seq, z_ite, r_cm, r_v rfl, r_cm1, r_v rfl, r_cm2, show hd0 (w :: rest) = w from rfl, hi, r_bl, r_tr1, z_ite2, z_skip, z_seq1, z_seq, rsN rfl, z_seq1]
  simp
theorem o_les {s t : Str} {om : Om} : cmp T .le (.str s) (.str t) om = .ok (!decide (t.cps.toList < s.cps.toList)) om := rfl
theorem lt1 {c d : Nat} : decide (([c] : List Nat) < [d]) = decide (c < d) := by
  refine decide_eq_decide.mpr ?_
  rw [List.cons_lt_cons_iff]
  simp
/-- all characters between two -/
theorem all_in {x : Str} {lo hi : Str} {l h : Nat} {om : Om} {sl : Sl} (hs : sl.length = 2 ∨ sl.length = 3) (e1 : lo.cps.toList = [l]) (e2 : hi.cps.toList = [h]) (hx : ∀ c ∈ x.cps.toList, l ≤ c ∧ c ≤ h) :
    cmpG T (.k (.bl true)) (.ch .le .le (.k (.str lo)) (.v 1) (.k (.str hi))) (.one 1) sl (x.cps.toList.map fun c => .str ⟨#[c]⟩) om = .ok (List.replicate x.cps.toList.length (.bl true)) om := by
  have z := comp_map (T := T) (sl := sl) (om := om) (i := 1) (cond := .k (.bl true)) (elt := .ch .le .le (.k (.str lo)) (.v 1) (.k (.str hi))) (f := fun c : Nat => .str ⟨#[c]⟩) (g := fun _ => .bl true) x.cps.toList (fun c hc => by
    refine ⟨by simp, ?_⟩
    have hg : (sl.set 1 (.val (.str ⟨#[c]⟩)))[1]? = some (.val (.str ⟨#[c]⟩)) := List.getElem?_set_self (by omega)
    have a1 := (hx c hc).1
    have a2 := (hx c hc).2
    have h1 : (!decide (([c] : List Nat) < [l])) = true := by rw [lt1, decide_eq_false (by omega)]; rfl
    have h2 : (!decide (([h] : List Nat) < [c])) = true := by rw [lt1, decide_eq_false (by omega)]; rfl
    have ec : (⟨#[c]⟩ : Str).cps.toList = [c] := rfl
    rw [r_ch, r_k, r_ch1, r_v hg, r_ch2, o_les, ec, e1, h1, r_ch3, r_k, r_cm2, o_les, ec, e2, h2, r_bl])
  rw [z, List.map_const']
theorem number_of {k : Nat} {om : Om} (hk : k ≤ 65535) (hm : 0 < m) : callN prog wf m 1 [.str (num k)] om = .ok (.int k) om := by
  obtain ⟨m, rfl⟩ : ∃ k, m = k + 1 := ⟨m - 1, by omega⟩
  refine call_ret (d := ⟨1, 3, B_number_of, none⟩) rfl rfl rfl ?_
  have hl5 : (num k).length ≤ 5 := num_len (by decide) (by omega)
  have hp : 0 < (num k).length := by
    rw [TL.len_tl, TL.tl]
    exact List.length_pos_iff.mpr (num_ne k)
  have hl : biD (tab prog wf m) .len (.str (num k)) om = .ok (.int ((num k).length : Int)) om := if_pos (by omega)
  have hc := all_in (T := tab prog wf m) (x := num k) (lo := st "0") (hi := st "9") (l := 48) (h := 57) (om := om) (sl := [.val (.str (num k)), .no, .no]) (.inr rfl) rfl rfl (fun c hc => by
    rw [tl_n] at hc
    have := TL.numL_digits k c hc
    omega)
  have hl2 : (num k).cps.toList.length ≤ 1000000 := by
    rw [← TL.len_tl]
    omega
  have hl3 : (num k).cps.size ≤ 1000000 := by simpa using hl2
  have b1 : (0 : Int) < ((num k).length : Int) := by omega
  have b2 : ((num k).length : Int) ≤ 5 := by omega
  have b3 : (k : Int) ≤ 65535 := by omega
  have heq : cmp (tab prog wf m) .eq (.str (num k)) (.str (num k)) om = .ok true om := by
    rw [o_eqs (num_ok k) (num_ok k)]
    simp
  have hs : slots ⟨1, 3, B_number_of, none⟩ [.str (num k)] = [.val (.str (num k)), .no, .no] := rfl
  rw [hs]
  unfold B_number_of
  rw [z_seq, z_ite, r_or, r_no, r_ch, r_k, r_ch1, r_bi, r_v rfl, r_bi1, hl, r_ch2, o_lt, decide_eq_true b1, r_ch3, r_k, r_cm2, o_le, decide_eq_true b2, r_bl, r_no1]
  simp only [Bool.not_true]
  rw [r_or2, r_no, r_bi, r_comp, r_itl, r_v rfl, r_itl3, r_comp1, if_pos (by rw [List.length_map]; exact hl2), wi_1]
  simp only [List.set_cons_succ, List.set_cons_zero]
  rw [hc, r_comp2, r_bi1, b_all, r_no1]
  simp only [Bool.not_true]
  rw [r_tr1, z_ite2, z_skip, z_seq1, z_seq, z_set, r_bi, r_v rfl, r_bi1, b_int (by omega), z_set1, z_seq1]
  simp [b_str (k_lt hk), heq, b3]
theorem pass_number {k lo hi : Nat} (hk : k ≤ 65535) (h1 : lo ≤ k) (h2 : k ≤ hi) (hm : 1 < m) (h : ws.drop a = num k :: rest) : callN prog wf m 7 [.amb pre.length, .int lo, .int hi] (RS pre ws a ns dr) = .ok (.int k) (RS pre ws (a + 1) ns dr) := by
  obtain ⟨m, rfl⟩ : ∃ k, m = k + 1 := ⟨m - 1, by omega⟩
  refine call_ret (d := ⟨3, 4, B_Reader_pass_number, none⟩) rfl rfl rfl ?_
  have hs : slots ⟨3, 4, B_Reader_pass_number, none⟩ [.amb pre.length, .int lo, .int hi] = [.val (.amb pre.length), .val (.int lo), .val (.int hi), .no] := rfl
  have b1 : (lo : Int) ≤ (k : Int) := by omega
  have b2 : (k : Int) ≤ (hi : Int) := by omega
  have hn := number_of (wf := wf) (m := m) (om := RS pre ws a ns dr) hk (by omega)
  rw [hs]
  unfold B_Reader_pass_number
  rw [z_seq, z_set, r_call, r_l, wordE (by omega) rfl h, r_l1, r_l0, r_l2, r_call1, show hd0 (num k :: rest) = num k from rfl]
  rw [show (tab prog wf m).call 1 ([D.str (num k)] ++ []) (RS pre ws a ns dr) = callN prog wf m 1 [.str (num k)] (RS pre ws a ns dr) from rfl, hn, z_set1, z_seq1]
  simp only [List.set_cons_succ, List.set_cons_zero]
  rw [z_seq, z_ite, r_or, r_cm, r_v rfl, r_cm1, r_k, r_cm2, o_isi, r_bl, r_or2, r_no, r_ch, r_v rfl, r_ch1, r_v rfl, r_ch2, o_le, decide_eq_true b1, r_ch3, r_v rfl, r_cm2, o_le, decide_eq_true b2, r_bl, r_no1]
  simp only [Bool.not_true]
  rw [r_tr1, z_ite2, z_skip, z_seq1, z_seq, rsN rfl, z_seq1]
  simp
theorem is_name {x : Str} {om : Om} (hx : Nm x) (hm : 0 < m) : callN prog wf m 0 [.str x] om = .ok (.bl true) om := by
  obtain ⟨m, rfl⟩ : ∃ k, m = k + 1 := ⟨m - 1, by omega⟩
  refine call_ret (d := ⟨1, 2, B_is_name, none⟩) rfl rfl rfl ?_
  obtain ⟨⟨h1, h2, h3⟩, h4⟩ := hx
  have hl : biD (tab prog wf m) .len (.str x) om = .ok (.int (x.length : Int)) om := if_pos (by omega)
  have hc := all_in (T := tab prog wf m) (x := x) (lo := st "a") (hi := st "z") (l := 97) (h := 122) (om := om) (sl := [.val (.str x), .no]) (.inl rfl) rfl rfl h3
  have hl2 : x.cps.toList.length ≤ 1000000 := by
    rw [← TL.tl, ← TL.len_tl]
    omega
  have b1 : (0 : Int) < (x.length : Int) := by omega
  have b2 : (x.length : Int) ≤ 8 := by omega
  have hk : cmp (tab prog wf m) .nin (.str x) (.tup (tup_KEYS.map D.str)) om = .ok true om := by
    have z := o_nint (T := tab prog wf m) (om := om) (inT_str (x := x) (ys := keysL))
    rw [decide_eq_false h4] at z
    exact z
  have hs : slots ⟨1, 2, B_is_name, none⟩ [.str x] = [.val (.str x), .no] := rfl
  rw [hs]
  unfold B_is_name
  rw [z_seq, z_ret, r_an, r_ch, r_k, r_ch1, r_bi, r_v rfl, r_bi1, hl, r_ch2, o_lt, decide_eq_true b1, r_ch3, r_k, r_cm2, o_le, decide_eq_true b2, r_bl, r_an1, r_an, r_cm, r_v rfl, r_cm1, r_k, r_cm2, hk, r_bl, r_an1]
  rw [r_bi, r_comp, r_itl, r_v rfl, r_itl3, r_comp1, if_pos (by rw [List.length_map]; exact hl2), wi_1]
  simp only [List.set_cons_succ, List.set_cons_zero]
  rw [hc, r_comp2, r_bi1, b_all, z_ret1, z_seq2]
/-! ### expressions -/
theorem signs_in (x : Str) : ∀ om, cmp T .inn (.str x) (.tup (tup_SIGNS.map D.str)) om = .ok (decide (x ∈ signs)) om := fun om => o_innt (inT_str (x := x) (ys := signs))
theorem kind_sign : st "kind" ∉ signs := by decide +kernel
theorem nm_sign {x : Str} (h : Nm x) : x ∉ signs := by
  intro hx
  simp only [signs, List.mem_cons, List.not_mem_nil, or_false] at hx
  have hc := h.1.2.2
  rcases hx with rfl | rfl | rfl | rfl | rfl | rfl | rfl
  · exact absurd (hc 43 (by decide)) (by omega)
  · exact absurd (hc 45 (by decide)) (by omega)
  · exact absurd (hc 42 (by decide)) (by omega)
  · exact absurd (hc 47 (by decide)) (by omega)
  · exact h.2 (by decide +kernel)
  · exact absurd (hc 60 (by decide)) (by omega)
  · exact absurd (hc 61 (by decide)) (by omega)
/-- the first figure of a number -/
theorem num_c (k : Nat) : ∃ c, c ∈ (num k).cps.toList ∧ 48 ≤ c ∧ c ≤ 57 := by
  cases q : (num k).cps.toList with
  | nil => exact absurd q (num_ne k)
  | cons c r =>
    refine ⟨c, List.mem_cons_self, ?_⟩
    have hc : c ∈ TL.numL k := by
      rw [← tl_n, q]
      exact List.mem_cons_self
    have := TL.numL_digits k c hc
    omega
theorem num_sign (k : Nat) : num k ∉ signs := by
  intro hx
  simp only [signs, List.mem_cons, List.not_mem_nil, or_false] at hx
  obtain ⟨c, hc, h1, h2⟩ := num_c k
  rcases hx with e | e | e | e | e | e | e
  · rw [e] at hc
    have : c ∈ [43] := hc
    simp at this
    omega
  · rw [e] at hc
    have : c ∈ [45] := hc
    simp at this
    omega
  · rw [e] at hc
    have : c ∈ [42] := hc
    simp at this
    omega
  · rw [e] at hc
    have : c ∈ [47] := hc
    simp at this
    omega
  · rw [e] at hc
    have : c ∈ [109, 111, 100] := hc
    simp at this
    omega
  · rw [e] at hc
    have : c ∈ [60] := hc
    simp at this
    omega
  · rw [e] at hc
    have : c ∈ [61] := hc
    simp at this
    omega
theorem num_nm {k : Nat} (hn : ∀ x ∈ ns, Nm x) : num k ∉ ns := fun hx => by
  obtain ⟨c, hc, h1, h2⟩ := num_c k
  have := (hn _ hx).1.2.2 c hc
  omega
theorem num_lit {k : Nat} {s : Str} (l : List Nat) (e : s.cps.toList = l) (h : l.all (fun c => decide (57 < c)) = true) : (num k == s) = false := by
  rw [beq_eq_false_iff_ne]
  intro e2
  obtain ⟨c, hc, h1, h2⟩ := num_c k
  rw [e2, e] at hc
  have := of_decide_eq_true (List.all_eq_true.mp h c hc)
  omega
theorem Ex.ws_hd (e : Ex) : ∃ w r, e.ws = w :: r := by
  cases e with
  | kind => exact ⟨_, _, rfl⟩
  | var x => exact ⟨_, _, rfl⟩
  | lit k => exact ⟨_, _, rfl⟩
  | op s a b => exact ⟨_, _, rfl⟩
theorem drop_app {u v : List Str} (h : ws.drop a = u ++ v) : ws.drop (a + u.length) = v := by
  rw [← List.drop_drop, h]
  simp
theorem expr (hn : ∀ x ∈ ns, Nm x) : ∀ (e : Ex) (room a m : Nat) (rest : List Str), e.ok ns → e.dep ≤ room → e.dep + 3 < m → ws.drop a = e.ws ++ rest →
    callN prog wf m 12 [.amb pre.length, .int room] (RS pre ws a ns dr) = .ok e.d (RS pre ws (a + e.ws.length) ns dr)
  | .kind, room, a, m, rest, h, hd, hm, hw => by
    obtain ⟨m, rfl⟩ : ∃ k, m = k + 1 := ⟨m - 1, by omega⟩
    have hw' : ws.drop a = st "kind" :: rest := hw
    have e1 := cmpN (T := tab prog wf m) (om := RS pre ws a ns dr) wd_kind wd_kind (v := true) (by simp)
    have e2 := signs_in (T := tab prog wf m) (st "kind") (RS pre ws a ns dr)
    rw [decide_eq_false kind_sign] at e2
    refine call_ret (d := ⟨2, 4, B_Reader_expression, none⟩) rfl rfl rfl ?_
    have hs : slots ⟨2, 4, B_Reader_expression, none⟩ [.amb pre.length, .int room] = [.val (.amb pre.length), .val (.int room), .no, .no] := rfl
    rw [hs]
    unfold B_Reader_expression
    rw [z_seq, z_set, wordE (by omega) rfl hw', z_set1, z_seq1, show hd0 (st "kind" :: rest) = st "kind" from rfl]
    simp only [List.set_cons_succ, List.set_cons_zero]
    rw [z_seq, z_ite, r_an, r_cm, r_v rfl, r_cm1, r_k, r_cm2, e2, r_bl, r_an2, r_tr1, z_ite2, z_skip, z_seq1]
    rw [z_seq, z_ite, r_cm, r_v rfl, r_cm1, r_k, r_cm2, e1, r_bl, r_tr1, z_ite1, z_seq, rsN rfl, z_seq1]
    simp [Ex.d, Ex.ws]
  | .var x, room, a, m, rest, h, hd, hm, hw => by
    obtain ⟨m, rfl⟩ : ∃ k, m = k + 1 := ⟨m - 1, by omega⟩
    have hx : x ∈ ns := h
    have hw' : ws.drop a = x :: rest := hw
    have hne : (x == st "kind") = false := by
      rw [beq_eq_false_iff_ne]
      intro e
      exact (hn x hx).2 (by rw [e]; decide +kernel)
    have e1 := cmpN (T := tab prog wf m) (om := RS pre ws a ns dr) (hn x hx).wd wd_kind hne
    have e2 := signs_in (T := tab prog wf m) x (RS pre ws a ns dr)
    rw [decide_eq_false (nm_sign (hn x hx))] at e2
    have e3 : cmp (tab prog wf m) .inn (.str x) (.amb (pre.length + 1)) (RS pre ws a ns dr) = .ok true (RS pre ws a ns dr) := by
      rw [o_inna rs1 (inD_str (hn x hx).wd.ok fun y hy => (hn y hy).wd.ok), decide_eq_true hx]
    refine call_ret (d := ⟨2, 4, B_Reader_expression, none⟩) rfl rfl rfl ?_
    have hs : slots ⟨2, 4, B_Reader_expression, none⟩ [.amb pre.length, .int room] = [.val (.amb pre.length), .val (.int room), .no, .no] := rfl
    rw [hs]
    unfold B_Reader_expression
    rw [z_seq, z_set, wordE (by omega) rfl hw', z_set1, z_seq1, show hd0 (x :: rest) = x from rfl]
    simp only [List.set_cons_succ, List.set_cons_zero]
    rw [z_seq, z_ite, r_an, r_cm, r_v rfl, r_cm1, r_k, r_cm2, e2, r_bl, r_an2, r_tr1, z_ite2, z_skip, z_seq1]
    rw [z_seq, z_ite, r_cm, r_v rfl, r_cm1, r_k, r_cm2, e1, r_bl, r_tr1, z_ite2, z_skip, z_seq1]
    rw [z_seq, z_ite, r_cm, r_v rfl, r_cm1, r_fld, r_v rfl, rsf2, r_cm2, e3, r_bl, r_tr1, z_ite1, z_seq, rsN rfl, z_seq1]
    simp [Ex.d, Ex.ws]
  | .lit k, room, a, m, rest, h, hd, hm, hw => by
    obtain ⟨m, rfl⟩ : ∃ k, m = k + 1 := ⟨m - 1, by omega⟩
    have hk : k ≤ 65535 := h
    have hw' : ws.drop a = num k :: rest := hw
    have e1 := cmpN (T := tab prog wf m) (om := RS pre ws a ns dr) (wd_num hk) wd_kind (num_lit [107, 105, 110, 100] rfl (by decide))
    have e2 := signs_in (T := tab prog wf m) (num k) (RS pre ws a ns dr)
    rw [decide_eq_false (num_sign k)] at e2
    have e3 : cmp (tab prog wf m) .inn (.str (num k)) (.amb (pre.length + 1)) (RS pre ws a ns dr) = .ok false (RS pre ws a ns dr) := by
      rw [o_inna rs1 (inD_str (num_ok k) fun y hy => (hn y hy).wd.ok), decide_eq_false (num_nm hn)]
    have e4 := pass_number (wf := wf) (m := m) (pre := pre) (ns := ns) (dr := dr) (lo := 0) (hi := 65535) hk (by omega) hk (by omega) hw'
    have e4' : callN prog wf m 7 [.amb pre.length, .int 0, .int 65535] (RS pre ws a ns dr) = .ok (.int k) (RS pre ws (a + 1) ns dr) := e4
    refine call_ret (d := ⟨2, 4, B_Reader_expression, none⟩) rfl rfl rfl ?_
    have hs : slots ⟨2, 4, B_Reader_expression, none⟩ [.amb pre.length, .int room] = [.val (.amb pre.length), .val (.int room), .no, .no] := rfl
    rw [hs]
    unfold B_Reader_expression
    rw [z_seq, z_set, wordE (by omega) rfl hw', z_set1, z_seq1, show hd0 (num k :: rest) = num k from rfl]
    simp only [List.set_cons_succ, List.set_cons_zero]
    rw [z_seq, z_ite, r_an, r_cm, r_v rfl, r_cm1, r_k, r_cm2, e2, r_bl, r_an2, r_tr1, z_ite2, z_skip, z_seq1]
    rw [z_seq, z_ite, r_cm, r_v rfl, r_cm1, r_k, r_cm2, e1, r_bl, r_tr1, z_ite2, z_skip, z_seq1]
    rw [z_seq, z_ite, r_cm, r_v rfl, r_cm1, r_fld, r_v rfl, rsf2, r_cm2, e3, r_bl, r_tr1, z_ite2, z_skip, z_seq1]
    simp [Ex.d, Ex.ws, rsC, e4']
  | .op s x y, room, a, m, rest, h, hd, hm, hw => by
    obtain ⟨m, rfl⟩ : ∃ k, m = k + 1 := ⟨m - 1, by omega⟩
    rw [Ex.ok] at h
    rw [Ex.dep] at hd hm
    have hw' : ws.drop a = s :: (x.ws ++ (y.ws ++ rest)) := by
      rw [hw, Ex.ws]
      simp
    have w1 := drop_next hw'
    have w2 := drop_app w1
    have hx1 : 1 ≤ x.dep := by cases x <;> simp [Ex.dep]
    obtain ⟨room, rfl⟩ : ∃ k, room = k + 1 := ⟨room - 1, by omega⟩
    have f1 := expr hn x room (a + 1) m _ h.2.1 (by omega) (by omega) w1
    have f2 := expr hn y room (a + 1 + x.ws.length) m _ h.2.2 (by omega) (by omega) w2
    have e2 := signs_in (T := tab prog wf m) s (RS pre ws a ns dr)
    rw [decide_eq_true h.1] at e2
    have hr1 : (1 : Int) < ((room + 1 : Nat) : Int) := by omega
    have hr2 : ((room + 1 : Nat) : Int) - 1 = (room : Int) := by omega
    refine call_ret (d := ⟨2, 4, B_Reader_expression, none⟩) rfl rfl rfl ?_
    have hs : slots ⟨2, 4, B_Reader_expression, none⟩ [.amb pre.length, .int ((room + 1 : Nat) : Int)] = [.val (.amb pre.length), .val (.int ((room + 1 : Nat) : Int)), .no, .no] := rfl
    generalize ((room + 1 : Nat) : Int) = R at hs hr1 hr2 ⊢
    rw [hs]
    unfold B_Reader_expression
    rw [z_seq, z_set, wordE (by omega) rfl hw', z_set1, z_seq1, show hd0 (s :: (x.ws ++ (y.ws ++ rest))) = s from rfl]
    simp only [List.set_cons_succ, List.set_cons_zero]
    rw [z_seq, z_ite, r_an, r_cm, r_v rfl, r_cm1, r_k, r_cm2, e2, r_bl, r_an1, r_cm, r_v rfl, r_cm1, r_k, r_cm2, o_gt, decide_eq_true hr1, r_bl, r_tr1, z_ite1, z_seq, rsN rfl, z_seq1]
    have ea : a + 1 + x.ws.length + y.ws.length = a + (x.ws.length + y.ws.length + 1) := by omega
    simp [Ex.d, Ex.ws, rsC, hr2, f1, f2, ea]
end
end K01

set_option Elab.async false
set_option linter.all false
set_option maxRecDepth 100000
set_option maxHeartbeats 1000000
/-! K01S: statements and blocks are read. -/
namespace K01
open PySem L2 PD
section
variable {T : Tb} {pre : Om} {ws ns rest : List Str} {a dr m wf : Nat} {om : Om}
theorem cmpO {x y : Str} {v : Bool} (hx : PyData.strOk x = true) (hy : PyData.strOk y = true) (h : (x == y) = v) : cmp T .eq (.str x) (.str y) om = .ok v om := by
  rw [o_eqs hx hy, h]
theorem ok_nil : PyData.strOk (st "") = true := strOk_lit [] rfl rfl
def Stop (w : Str) : Prop := w = st "" ∨ w = st "else" ∨ w = st "end"
theorem Stop.ok {w : Str} (h : Stop w) : PyData.strOk w = true := by
  rcases h with rfl | rfl | rfl
  · exact ok_nil
  · exact wd_else.ok
  · exact wd_end.ok
theorem Stop.ne {w : Str} (h : Stop w) : (w == st "set") = false ∧ (w == st "draw") = false ∧ (w == st "tell") = false ∧ (w == st "if") = false := by
  rcases h with rfl | rfl | rfl
  · decide +kernel
  · decide +kernel
  · decide +kernel
abbrev bSl (k : Nat) (n : Nat) (w : Str) : Sl := [.val (.amb k), .val (.int n), .val (.str w)]
theorem beg_start {n : Nat} {w : Str} {b : Bool} (hm : 1 < m) (h : ws.drop a = rest) (hw : hd0 rest = w)
    (hb : evS (tab prog wf (m - 1)) (match B_Reader_begins with | .seq _ b => b | _ => .skip) (bSl pre.length n w) (RS pre ws a ns dr) = .ret (.bl b) (RS pre ws a ns dr)) : callN prog wf m 10 [.amb pre.length, .int n] (RS pre ws a ns dr) = .ok (.bl b) (RS pre ws a ns dr) := by
  obtain ⟨m, rfl⟩ : ∃ k, m = k + 1 := ⟨m - 1, by omega⟩
  rw [Nat.add_sub_cancel] at hb
  refine call_ret (d := ⟨2, 3, B_Reader_begins, none⟩) rfl rfl rfl ?_
  have hs : slots ⟨2, 3, B_Reader_begins, none⟩ [.amb pre.length, .int n] = [.val (.amb pre.length), .val (.int n), .no] := rfl
  have hB : B_Reader_begins = .seq (.set 2 (.meth 1 5 [] (.v 0) .nil)) (match B_Reader_begins with | .seq _ b => b | _ => .skip) := rfl
  rw [hs, hB, z_seq, z_set, wordE (by omega) rfl h, z_set1, z_seq1, hw]
  exact hb
theorem beg_stop {n : Nat} (hm : 1 < m) (h : ws.drop a = rest) (hw : Stop (hd0 rest)) : callN prog wf m 10 [.amb pre.length, .int n] (RS pre ws a ns dr) = .ok (.bl false) (RS pre ws a ns dr) := by
  obtain ⟨n1, n2, n3, n4⟩ := hw.ne
  refine beg_start hm h rfl ?_
  have e1 := cmpO (T := tab prog wf (m - 1)) (om := RS pre ws a ns dr) hw.ok wd_set.ok n1
  have e2 := cmpO (T := tab prog wf (m - 1)) (om := RS pre ws a ns dr) hw.ok wd_draw.ok n2
  have e3 := cmpO (T := tab prog wf (m - 1)) (om := RS pre ws a ns dr) hw.ok wd_tell.ok n3
  have e4 := cmpO (T := tab prog wf (m - 1)) (om := RS pre ws a ns dr) hw.ok wd_if.ok n4
  simp [B_Reader_begins, e1, e2, e3, e4]
theorem beg_tell {n : Nat} (hm : 1 < m) (h : ws.drop a = st "tell" :: rest) : callN prog wf m 10 [.amb pre.length, .int n] (RS pre ws a ns dr) = .ok (.bl true) (RS pre ws a ns dr) := by
  refine beg_start hm h rfl ?_
  have e1 := cmpO (T := tab prog wf (m - 1)) (om := RS pre ws a ns dr) wd_tell.ok wd_set.ok (v := false) (by decide +kernel)
  have e2 := cmpO (T := tab prog wf (m - 1)) (om := RS pre ws a ns dr) wd_tell.ok wd_draw.ok (v := false) (by decide +kernel)
  have e3 := cmpO (T := tab prog wf (m - 1)) (om := RS pre ws a ns dr) wd_tell.ok wd_tell.ok (v := true) (by simp)
  simp [B_Reader_begins, hd0, e1, e2, e3]
theorem ns_bool (hn : ns ≠ []) : biD T .bool (.amb (pre.length + 1)) (RS pre ws a ns dr) = .ok (.bl true) (RS pre ws a ns dr) := by
  rw [b_boola rs1]
  cases ns with
  | nil => exact absurd rfl hn
  | cons _ _ => rfl
theorem beg_set {n : Nat} (hn : ns ≠ []) (hm : 1 < m) (h : ws.drop a = st "set" :: rest) : callN prog wf m 10 [.amb pre.length, .int n] (RS pre ws a ns dr) = .ok (.bl true) (RS pre ws a ns dr) := by
  refine beg_start hm h rfl ?_
  have e1 := cmpO (T := tab prog wf (m - 1)) (om := RS pre ws a ns dr) wd_set.ok wd_set.ok (v := true) (by simp)
  have e2 := ns_bool (T := tab prog wf (m - 1)) (pre := pre) (ws := ws) (a := a) (dr := dr) hn
  simp [B_Reader_begins, hd0, e1, rsf2, e2]
theorem beg_draw {n : Nat} (hn : ns ≠ []) (hd : dr < 6) (hm : 1 < m) (h : ws.drop a = st "draw" :: rest) : callN prog wf m 10 [.amb pre.length, .int n] (RS pre ws a ns dr) = .ok (.bl true) (RS pre ws a ns dr) := by
  refine beg_start hm h rfl ?_
  have e1 := cmpO (T := tab prog wf (m - 1)) (om := RS pre ws a ns dr) wd_draw.ok wd_set.ok (v := false) (by decide +kernel)
  have e2 := cmpO (T := tab prog wf (m - 1)) (om := RS pre ws a ns dr) wd_draw.ok wd_draw.ok (v := true) (by simp)
  have e3 := ns_bool (T := tab prog wf (m - 1)) (pre := pre) (ws := ws) (a := a) (dr := dr) hn
  have hd' : (dr : Int) < 6 := by omega
  simp [B_Reader_begins, hd0, e1, e2, rsf2, e3, rsf3, hd']
theorem beg_if {n : Nat} (hn : 0 < n) (hm : 1 < m) (h : ws.drop a = st "if" :: rest) : callN prog wf m 10 [.amb pre.length, .int n] (RS pre ws a ns dr) = .ok (.bl true) (RS pre ws a ns dr) := by
  refine beg_start hm h rfl ?_
  have e1 := cmpO (T := tab prog wf (m - 1)) (om := RS pre ws a ns dr) wd_if.ok wd_set.ok (v := false) (by decide +kernel)
  have e2 := cmpO (T := tab prog wf (m - 1)) (om := RS pre ws a ns dr) wd_if.ok wd_draw.ok (v := false) (by decide +kernel)
  have e3 := cmpO (T := tab prog wf (m - 1)) (om := RS pre ws a ns dr) wd_if.ok wd_tell.ok (v := false) (by decide +kernel)
  have e4 := cmpO (T := tab prog wf (m - 1)) (om := RS pre ws a ns dr) wd_if.ok wd_if.ok (v := true) (by simp)
  simp [B_Reader_begins, hd0, e1, e2, e3, e4, hn]
theorem beg_st {s : St} {n : Nat} (h : s.ok ns n) (hd : dr + s.dr ≤ 6) (hm : 1 < m) (hw : ws.drop a = s.ws ++ rest) : callN prog wf m 10 [.amb pre.length, .int n] (RS pre ws a ns dr) = .ok (.bl true) (RS pre ws a ns dr) := by
  cases s with
  | tell e => exact beg_tell hm (by rw [hw, St.ws]; rfl)
  | set x e =>
    rw [St.ok] at h
    exact beg_set (fun e => by rw [e] at h; cases h.1) hm (by rw [hw, St.ws]; rfl)
  | draw x k =>
    rw [St.ok] at h
    rw [St.dr] at hd
    exact beg_draw (fun e => by rw [e] at h; cases h.1) (by omega) hm (by rw [hw, St.ws]; rfl)
  | ite e x y =>
    cases n with
    | zero => rw [St.ok] at h; exact h.elim
    | succ n => exact beg_if (by omega) hm (by rw [hw, St.ws]; rfl)
abbrev kCond : E := .meth 1 10 [] (.v 0) (.cons (.v 1) .nil)
abbrev kLoop : S := .seq (.app 2 (.meth 1 11 [] (.v 0) (.cons (.v 1) .nil))) .skip
theorem blR_of {b : Bl} {n a' dr' : Nat} (h : whlG (tab prog wf m) kCond kLoop wf [.val (.amb pre.length), .val (.int n), .own []] (RS pre ws a ns dr) = .next [.val (.amb pre.length), .val (.int n), .own b.ds] (RS pre ws a' ns dr')) :
    callN prog wf (m + 1) 9 [.amb pre.length, .int n] (RS pre ws a ns dr) = .ok (.tup b.ds) (RS pre ws a' ns dr') := by
  refine call_ret (d := ⟨2, 3, B_Reader_block, none⟩) rfl rfl rfl ?_
  have hs : slots ⟨2, 3, B_Reader_block, none⟩ [.amb pre.length, .int n] = [.val (.amb pre.length), .val (.int n), .no] := rfl
  have hB : B_Reader_block = .seq (.setO 2 (.lst .nil)) (.seq (.whl kCond kLoop) (.seq (.ret (.bi .tuple (.b 2))) .skip)) := rfl
  rw [hs, hB]
  simp only [z_seq, z_setO, r_lst, r_l0, r_lst1, List.length_nil, Nat.zero_le, if_true, z_setO1, z_seq1, List.set_cons_succ, List.set_cons_zero, z_whl, t_wf]
  rw [h, z_seq1]
  simp
/-- what reading a statement gives -/
def StR (wf : Nat) (pre : Om) (ws ns : List Str) (s : St) : Prop := ∀ (n m a dr : Nat) (rest : List Str), s.ok ns n → s.cnt ≤ 250 → dr + s.dr ≤ 6 → 2 * n + 20 < m → ws.drop a = s.ws ++ rest →
  callN prog wf m 11 [.amb pre.length, .int n] (RS pre ws a ns dr) = .ok s.d (RS pre ws (a + s.ws.length) ns (dr + s.dr))
def BlR (wf : Nat) (pre : Om) (ws ns : List Str) (b : Bl) : Prop := ∀ (n m a dr : Nat) (rest : List Str), b.ok ns n → b.cnt ≤ 250 → dr + b.dr ≤ 6 → 2 * n + 21 < m → ws.drop a = b.ws ++ rest → Stop (hd0 rest) →
  callN prog wf m 9 [.amb pre.length, .int n] (RS pre ws a ns dr) = .ok (.tup b.ds) (RS pre ws (a + b.ws.length) ns (dr + b.dr))
def LpR (wf : Nat) (pre : Om) (ws ns : List Str) (b : Bl) : Prop := ∀ (n m a dr fuel : Nat) (rest : List Str) (acc : List D), b.ok ns n → b.cnt ≤ 250 → dr + b.dr ≤ 6 → 2 * n + 20 < m → b.len < fuel → acc.length + b.len ≤ 1000 → ws.drop a = b.ws ++ rest → Stop (hd0 rest) →
  whlG (tab prog wf m) kCond kLoop fuel [.val (.amb pre.length), .val (.int n), .own acc] (RS pre ws a ns dr) = .next [.val (.amb pre.length), .val (.int n), .own (acc ++ b.ds)] (RS pre ws (a + b.ws.length) ns (dr + b.dr))
theorem blR (hwf : 300 ≤ wf) {b : Bl} (h : LpR wf pre ws ns b) : BlR wf pre ws ns b := by
  intro n m a dr rest hok hc hd hm hw hs
  obtain ⟨m, rfl⟩ : ∃ k, m = k + 1 := ⟨m - 1, by omega⟩
  have := b.len_cnt
  exact blR_of (h n m a dr wf rest [] hok hc hd (by omega) (by omega) (by rw [List.length_nil]; omega) hw hs)
theorem lpR_nil : LpR wf pre ws ns .nil := by
  intro n m a dr fuel rest acc hok hc hd hm hf hl hw hs
  obtain ⟨f, rfl⟩ : ∃ k, fuel = k + 1 := ⟨fuel - 1, by omega⟩
  have hw' : ws.drop a = rest := hw
  have hb := beg_stop (wf := wf) (m := m) (pre := pre) (ns := ns) (dr := dr) (n := n) (by omega) hw' hs
  rw [w_step]
  simp [rsC, hb, Bl.ds, Bl.ws, Bl.dr]
theorem lpR_cons {s : St} {b : Bl} (h1 : StR wf pre ws ns s) (h2 : LpR wf pre ws ns b) : LpR wf pre ws ns (.cons s b) := by
  intro n m a dr fuel rest acc hok hc hd hm hf hl hw hs
  obtain ⟨f, rfl⟩ : ∃ k, fuel = k + 1 := ⟨fuel - 1, by omega⟩
  rw [Bl.ok] at hok
  rw [Bl.cnt] at hc
  rw [Bl.dr] at hd
  rw [Bl.len] at hf hl
  rw [Bl.ws, List.append_assoc] at hw
  have hb := beg_st (wf := wf) (m := m) (pre := pre) (n := n) hok.1 (dr := dr) (by omega) (by omega) hw
  have e1 := h1 n m a dr _ hok.1 (by omega) (by omega) (by omega) hw
  have e2 := h2 n m (a + s.ws.length) (dr + s.dr) f rest (acc ++ [s.d]) hok.2 (by omega) (by omega) hm (by omega) (by rw [List.length_append, List.length_singleton]; omega) (drop_app hw) hs
  have hal : acc.length < 1000000 := by omega
  rw [w_step]
  have hc : kTr (evE (tab prog wf m) kCond [.val (.amb pre.length), .val (.int n), .own acc] (RS pre ws a ns dr)) = .ok true (RS pre ws a ns dr) := by simp [rsC, hb]
  rw [hc, w_t]
  have hstep : evS (tab prog wf m) kLoop [.val (.amb pre.length), .val (.int n), .own acc] (RS pre ws a ns dr) = .next [.val (.amb pre.length), .val (.int n), .own (acc ++ [s.d])] (RS pre ws (a + s.ws.length) ns (dr + s.dr)) := by simp [rsC, e1, hal]
  rw [hstep, w_n, e2, Bl.ds, Bl.ws, Bl.dr, List.length_append, List.append_assoc, Nat.add_assoc, Nat.add_assoc]
  rfl
abbrev sTail : S := match B_Reader_statement with | .seq _ (.seq _ b) => b | _ => .skip
theorem st_start {s : St} {n : Nat} {w : Str} {r : List Str} {D' : D} {om' : Om} (hm : 1 < m) (h : ws.drop a = w :: r)
    (hb : evS (tab prog wf (m - 1)) sTail [.val (.amb pre.length), .val (.int n), .val (.str w), .no, .no, .no] (RS pre ws (a + 1) ns dr) = .ret D' om') : callN prog wf m 11 [.amb pre.length, .int n] (RS pre ws a ns dr) = .ok D' om' := by
  obtain ⟨m, rfl⟩ : ∃ k, m = k + 1 := ⟨m - 1, by omega⟩
  rw [Nat.add_sub_cancel] at hb
  refine call_ret (d := ⟨2, 6, B_Reader_statement, none⟩) rfl rfl rfl ?_
  have hs : slots ⟨2, 6, B_Reader_statement, none⟩ [.amb pre.length, .int n] = [.val (.amb pre.length), .val (.int n), .no, .no, .no, .no] := rfl
  have hB : B_Reader_statement = .seq (.set 2 (.meth 1 5 [] (.v 0) .nil)) (.seq (.auF 0 1 1 (.k (.int 1))) sTail) := rfl
  rw [hs, hB, z_seq, z_set, wordE (by omega) rfl h, z_set1, z_seq1, z_seq]
  simp only [List.set_cons_succ, List.set_cons_zero]
  rw [rsN rfl, z_seq1]
  exact hb
theorem stR_tell (hn : ∀ x ∈ ns, Nm x) {e : Ex} : StR wf pre ws ns (.tell e) := by
  intro n m a dr rest hok hc hd hm hw
  rw [St.ok] at hok
  rw [St.ws, List.cons_append] at hw
  have e1 := expr (wf := wf) (dr := dr) (pre := pre) hn e 6 (a + 1) (m - 1) rest hok.1 hok.2 (by omega) (drop_next hw)
  have e1' : callN prog wf (m - 1) 12 [.amb pre.length, .int 6] (RS pre ws (a + 1) ns dr) = .ok e.d (RS pre ws (a + 1 + e.ws.length) ns dr) := e1
  refine st_start (s := .tell e) (by omega) hw ?_
  have c1 := fun om => cmpO (T := tab prog wf (m - 1)) (om := om) wd_tell.ok wd_tell.ok (v := true) (by simp)
  have ea : a + 1 + e.ws.length = a + (e.ws.length + 1) := by omega
  simp [sTail, B_Reader_statement, c1, rsC, e1', St.d, St.ws, dr_tell, ea]
theorem stR_set (hn : ∀ x ∈ ns, Nm x) {x : Str} {e : Ex} : StR wf pre ws ns (.set x e) := by
  intro n m a dr rest hok hc hd hm hw
  rw [St.ok] at hok
  rw [St.ws, List.cons_append, List.cons_append] at hw
  have w1 := drop_next hw
  have e0 := pass_name (wf := wf) (m := m - 1) (dr := dr) (pre := pre) (hn x hok.1).wd (fun y hy => (hn y hy).wd) hok.1 (by omega) w1
  have e1 := expr (wf := wf) (dr := dr) (pre := pre) hn e 6 (a + 1 + 1) (m - 1) rest hok.2.1 hok.2.2 (by omega) (drop_next w1)
  have e1' : callN prog wf (m - 1) 12 [.amb pre.length, .int 6] (RS pre ws (a + 1 + 1) ns dr) = .ok e.d (RS pre ws (a + 1 + 1 + e.ws.length) ns dr) := e1
  refine st_start (s := .set x e) (by omega) hw ?_
  have c1 := fun om => cmpO (T := tab prog wf (m - 1)) (om := om) wd_set.ok wd_tell.ok (v := false) (by decide +kernel)
  have c2 := fun om => cmpO (T := tab prog wf (m - 1)) (om := om) wd_set.ok wd_set.ok (v := true) (by simp)
  have ea : a + 1 + 1 + e.ws.length = a + (e.ws.length + 1 + 1) := by omega
  simp [sTail, B_Reader_statement, c1, c2, rsC, rsf2, e0, e1', St.d, St.ws, dr_set, ea]
theorem stR_draw (hn : ∀ x ∈ ns, Nm x) {x : Str} {k : Nat} : StR wf pre ws ns (.draw x k) := by
  intro n m a dr rest hok hc hd hm hw
  rw [St.ok] at hok
  rw [St.ws] at hw
  have w0 : ws.drop a = st "draw" :: x :: num k :: rest := hw
  have w1 := drop_next w0
  have w2 := drop_next w1
  have e0 := pass_name (wf := wf) (m := m - 1) (dr := dr + 1) (pre := pre) (hn x hok.1).wd (fun y hy => (hn y hy).wd) hok.1 (by omega) w1
  have e1 := pass_number (wf := wf) (m := m - 1) (dr := dr + 1) (pre := pre) (ns := ns) (lo := 1) (hi := 8) (k := k) (by omega) hok.2.1 hok.2.2 (by omega) w2
  have e1' : callN prog wf (m - 1) 7 [.amb pre.length, .int 1, .int 8] (RS pre ws (a + 1 + 1) ns (dr + 1)) = .ok (.int k) (RS pre ws (a + 1 + 1 + 1) ns (dr + 1)) := e1
  refine st_start (s := .draw x k) (by omega) w0 ?_
  have c1 := fun om => cmpO (T := tab prog wf (m - 1)) (om := om) wd_draw.ok wd_tell.ok (v := false) (by decide +kernel)
  have c2 := fun om => cmpO (T := tab prog wf (m - 1)) (om := om) wd_draw.ok wd_set.ok (v := false) (by decide +kernel)
  have c3 := fun om => cmpO (T := tab prog wf (m - 1)) (om := om) wd_draw.ok wd_draw.ok (v := true) (by simp)
  have hD : evS (tab prog wf (m - 1)) (.auF 0 1 3 (.k (.int 1))) [.val (.amb pre.length), .val (.int n), .val (.str (st "draw")), .no, .no, .no] (RS pre ws (a + 1) ns dr) = .next [.val (.amb pre.length), .val (.int n), .val (.str (st "draw")), .no, .no, .no] (RS pre ws (a + 1) ns (dr + 1)) := rsD rfl
  simp [sTail, B_Reader_statement, c1, c2, c3, hD, rsC, rsf2, e0, e1', St.d, St.ws, St.dr]
theorem stR_ite (hn : ∀ x ∈ ns, Nm x) {e : Ex} {x y : Bl} (hx : BlR wf pre ws ns x) (hy : BlR wf pre ws ns y) : StR wf pre ws ns (.ite e x y) := by
  intro n m a dr rest hok hc hd hm hw
  cases n with
  | zero => rw [St.ok] at hok; exact hok.elim
  | succ n =>
    rw [St.ok] at hok
    rw [St.cnt] at hc
    rw [St.dr] at hd
    obtain ⟨he, hde, hxo, hyo⟩ := hok
    have c1 := fun om => cmpO (T := tab prog wf (m - 1)) (om := om) wd_if.ok wd_tell.ok (v := false) (by decide +kernel)
    have c2 := fun om => cmpO (T := tab prog wf (m - 1)) (om := om) wd_if.ok wd_set.ok (v := false) (by decide +kernel)
    have c3 := fun om => cmpO (T := tab prog wf (m - 1)) (om := om) wd_if.ok wd_draw.ok (v := false) (by decide +kernel)
    have hn1 : ((n + 1 : Nat) : Int) - 1 = (n : Int) := by omega
    by_cases hb : y.emp = true
    · have w0 : ws.drop a = st "if" :: (e.ws ++ (x.ws ++ (st "end" :: rest))) := by
        rw [hw, St.ws, if_pos hb]
        simp
      have w1 := drop_next w0
      have w2 := drop_app w1
      have w3 := drop_app w2
      have e1 : callN prog wf (m - 1) 12 [.amb pre.length, .int 6] (RS pre ws (a + 1) ns dr) = .ok e.d (RS pre ws (a + 1 + e.ws.length) ns dr) := expr (wf := wf) (dr := dr) (pre := pre) hn e 6 (a + 1) (m - 1) _ he hde (by omega) w1
      have e2 := hx n (m - 1) (a + 1 + e.ws.length) dr _ hxo (by omega) (by omega) (by omega) w2 (.inr (.inr rfl))
      have e3 := word (wf := wf) (m := m - 1) (pre := pre) (ns := ns) (dr := dr + x.dr) (by omega) w3
      have e4 := pass_lit (wf := wf) (m := m - 1) (pre := pre) (ns := ns) (dr := dr + x.dr) (by omega) w3
      have c4 := fun om => cmpO (T := tab prog wf (m - 1)) (om := om) wd_end.ok wd_else.ok (v := false) (by decide +kernel)
      have hyd : y = .nil := by
        cases y with
        | nil => rfl
        | cons s b => cases hb
      subst hyd
      refine st_start (s := .ite e x .nil) (by omega) w0 ?_
      have ea : a + 1 + e.ws.length + x.ws.length + 1 = a + (e.ws.length + (x.ws.length + 1) + 1) := by omega
      have hws : (St.ite e x .nil).ws.length = e.ws.length + (x.ws.length + 1) + 1 := by
        rw [St.ws, if_pos hb]
        simp
      have hdd : dr + (St.ite e x .nil).dr = dr + x.dr := by
        rw [St.dr, Bl.dr]
        omega
      rw [hws, hdd]
      generalize ((n + 1 : Nat) : Int) = N at hn1 ⊢
      simp [sTail, B_Reader_statement, c1, c2, c3, rsC, e1, hn1, e2, e3, hd0, c4, e4, St.d, Bl.ds, ea]
    · have w0 : ws.drop a = st "if" :: (e.ws ++ (x.ws ++ (st "else" :: (y.ws ++ (st "end" :: rest))))) := by
        rw [hw, St.ws, if_neg hb]
        simp
      have w1 := drop_next w0
      have w2 := drop_app w1
      have w3 := drop_app w2
      have w4 := drop_next w3
      have w5 := drop_app w4
      have e1 : callN prog wf (m - 1) 12 [.amb pre.length, .int 6] (RS pre ws (a + 1) ns dr) = .ok e.d (RS pre ws (a + 1 + e.ws.length) ns dr) := expr (wf := wf) (dr := dr) (pre := pre) hn e 6 (a + 1) (m - 1) _ he hde (by omega) w1
      have e2 := hx n (m - 1) (a + 1 + e.ws.length) dr _ hxo (by omega) (by omega) (by omega) w2 (.inr (.inl rfl))
      have e3 := word (wf := wf) (m := m - 1) (pre := pre) (ns := ns) (dr := dr + x.dr) (by omega) w3
      have e4 := hy n (m - 1) (a + 1 + e.ws.length + x.ws.length + 1) (dr + x.dr) _ hyo (by omega) (by omega) (by omega) w4 (.inr (.inr rfl))
      have e5 := pass_lit (wf := wf) (m := m - 1) (pre := pre) (ns := ns) (dr := dr + x.dr + y.dr) (by omega) w5
      have c4 := fun om => cmpO (T := tab prog wf (m - 1)) (om := om) wd_else.ok wd_else.ok (v := true) (by simp)
      have hyd := Bl.emp_pos hb
      have hye : y.ds.isEmpty = false := by
        cases q : y.ds with
        | nil => rw [q] at hyd; exact absurd hyd (by decide)
        | cons _ _ => rfl
      refine st_start (s := .ite e x y) (by omega) w0 ?_
      have ea : a + 1 + e.ws.length + x.ws.length + 1 + y.ws.length + 1 = a + (e.ws.length + (x.ws.length + (y.ws.length + 1 + 1)) + 1) := by omega
      have hws : (St.ite e x y).ws.length = e.ws.length + (x.ws.length + (y.ws.length + 1 + 1)) + 1 := by
        rw [St.ws, if_neg hb]
        simp
      have hdd : dr + (St.ite e x y).dr = dr + x.dr + y.dr := by
        rw [St.dr]
        omega
      have hN : evS (tab prog wf (m - 1)) (.auF 0 1 1 (.k (.int 1))) [.val (.amb pre.length), .val (.int ((n + 1 : Nat) : Int)), .val (.str (st "if")), .val e.d, .val (.tup x.ds), .val (.tup [])] (RS pre ws (a + 1 + e.ws.length + x.ws.length) ns (dr + x.dr)) = .next [.val (.amb pre.length), .val (.int ((n + 1 : Nat) : Int)), .val (.str (st "if")), .val e.d, .val (.tup x.ds), .val (.tup [])] (RS pre ws (a + 1 + e.ws.length + x.ws.length + 1) ns (dr + x.dr)) := rsN rfl
      rw [hws, hdd]
      generalize ((n + 1 : Nat) : Int) = N at hn1 hN ⊢
      simp [sTail, B_Reader_statement, c1, c2, c3, rsC, e1, hn1, e2, e3, hd0, c4, hN, e4, hye, e5, St.d, ea]
mutual
theorem stR (hwf : 300 ≤ wf) (hn : ∀ x ∈ ns, Nm x) : ∀ s : St, StR wf pre ws ns s
  | .tell _ => stR_tell hn
  | .set _ _ => stR_set hn
  | .draw _ _ => stR_draw hn
  | .ite _ x y => stR_ite hn (blR hwf (lpR hwf hn x)) (blR hwf (lpR hwf hn y))
theorem lpR (hwf : 300 ≤ wf) (hn : ∀ x ∈ ns, Nm x) : ∀ b : Bl, LpR wf pre ws ns b
  | .nil => lpR_nil
  | .cons s b => lpR_cons (stR hwf hn s) (lpR hwf hn b)
end
end
end K01

set_option Elab.async false
set_option linter.all false
set_option maxRecDepth 100000
set_option maxHeartbeats 1000000
/-! K01T: watchers are read; watchers compared. -/
namespace K01
open PySem L2 PD
section
variable {T : Tb} {pre : Om} {ws ns rest : List Str} {a dr m wf : Nat} {om : Om}
/-- Watcher(k, v, b) -/
theorem winit {k : Int} {dv db : D} {vs bs : List D} (hm : 0 < m) (hv : ∀ T : Tb, biD T .tuple dv om = .ok (.tup vs) om) (hb : ∀ T : Tb, biD T .tuple db om = .ok (.tup bs) om) : initN prog wf m 2 [.int k, dv, db] om = .ok [.int k, .tup vs, .tup bs] om := by
  obtain ⟨m, rfl⟩ : ∃ k, m = k + 1 := ⟨m - 1, by omega⟩
  refine init_next (d := ⟨4, 4, B_Watcher_init, some 0⟩) (c := 0) (sl := [.newo 0 [.int k, .tup vs, .tup bs], .val (.int k), .val dv, .val db]) rfl rfl rfl ?_ rfl
  show evS (tab prog wf m) B_Watcher_init [.newo 0 [], .val (.int k), .val dv, .val db] om = _
  unfold B_Watcher_init
  rw [z_seq, z_setF, r_v rfl, z_setF1 (j := 0) rfl rfl, z_seq1]
  simp only [List.set_cons_succ, List.set_cons_zero]
  rw [z_seq, z_setF, r_bi, r_v rfl, r_bi1, hv, z_setF1 (j := 1) rfl rfl, z_seq1]
  simp only [List.set_cons_succ, List.set_cons_zero]
  rw [z_seq, z_setF, r_bi, r_v rfl, r_bi1, hb, z_setF1 (j := 2) rfl rfl, z_seq1]
  simp
theorem mkW {k : Int} {dv db : D} {vs bs : List D} (hm : 0 < m) (hv : ∀ T : Tb, biD T .tuple dv om = .ok (.tup vs) om) (hb : ∀ T : Tb, biD T .tuple db om = .ok (.tup bs) om) : kMk (tab prog wf m) (.ok [.int k, dv, db] om) 0 2 [] = .ok (.obj 0 [.int k, .tup vs, .tup bs]) om := by
  rw [r_mk1]
  show kMk2 (tab prog wf m) (initN prog wf m 2 [.int k, dv, db] om) 0 = _
  rw [winit hm hv hb, r_mk2]
  exact if_pos rfl
/-! ### the reader is made -/
theorem rinit {w : List Str} (hg : Good w) (hm : 0 < m) : callN prog wf m 4 [.amb pre.length, .str (jn w)] (pre ++ [.ob 1 []]) = .ok .non (RS pre w 0 [] 0) := by
  obtain ⟨m, rfl⟩ : ∃ k, m = k + 1 := ⟨m - 1, by omega⟩
  have hne : (jn w == st "") = false := by
    rw [beq_eq_false_iff_ne]
    intro e
    have e2 : TL.tl (jn w) = TL.tl (st "") := by rw [e]
    obtain ⟨x, r, rfl⟩ : ∃ x r, w = x :: r := by
      cases w with
      | nil => exact absurd rfl hg.ne
      | cons x r => exact ⟨x, r, rfl⟩
    have hx := (hg.wd x List.mem_cons_self).2.1
    rw [show TL.tl (st "") = [] from rfl, jn, TL.join_eq, TL.tl_join] at e2
    cases r with
    | nil => exact hx (by simpa [TL.joinL] using e2)
    | cons y r =>
      simp only [List.map_cons, TL.joinL, List.append_eq_nil_iff] at e2
      exact hx e2.1
  have hc : ∀ om, cmp (tab prog wf m) .ne (.str (jn w)) (.str (st "")) om = .ok true om := fun om => by
    rw [o_nes (jn_strOk hg) ok_nil, hne]
    rfl
  have hsp : ∀ om, mbf .split (jn w) (.str (st " ")) om = .ok (.lst (strL w)) om := fun om => split_ok hg
  refine call_next (sl := [.val (.amb pre.length), .val (.str (jn w))]) (d := ⟨2, 2, B_Reader_init, none⟩) rfl rfl rfl ?_
  have hs : slots ⟨2, 2, B_Reader_init, none⟩ [.amb pre.length, .str (jn w)] = [.val (.amb pre.length), .val (.str (jn w))] := rfl
  rw [hs]
  unfold B_Reader_init
  have g0 : (pre ++ [Ob.ob 1 []])[pre.length]? = some (.ob 1 []) := by simp
  rw [z_seq, z_stF (k := pre.length) rfl, r_ite, r_cm, r_v rfl, r_cm1, r_k, r_cm2, hc, r_bl, r_tr1, r_ite1, r_mb, r_v rfl, r_mb1, r_k, r_mb2, hsp, z_stF2 (j := 0) g0 rfl, z_seq1]
  have g1 : (pre ++ [Ob.ob 1 []]).set pre.length (.ob 1 ([] ++ [.lst (strL w)])) = pre ++ [.ob 1 [.lst (strL w)]] := by simp
  have g2 : (pre ++ [Ob.ob 1 [.lst (strL w)]])[pre.length]? = some (.ob 1 [.lst (strL w)]) := by simp
  rw [g1, z_seq, z_stF (k := pre.length) rfl, r_k, z_stF2 (j := 1) g2 rfl, z_seq1]
  have g3 : (pre ++ [Ob.ob 1 [.lst (strL w)]]).set pre.length (.ob 1 ([.lst (strL w)] ++ [.int 0])) = pre ++ [.ob 1 [.lst (strL w), .int 0]] := by simp
  have g4 : (pre ++ [Ob.ob 1 [.lst (strL w), .int 0]] ++ [Ob.pl []])[pre.length]? = some (.ob 1 [.lst (strL w), .int 0]) := by simp
  rw [g3, z_seq, z_stF (k := pre.length) rfl, r_nl, r_lst, r_l0, r_lst1, if_pos (by simp), r_nl1, z_stF2 (j := 2) g4 rfl, z_seq1]
  have g5 : (pre ++ [Ob.ob 1 [.lst (strL w), .int 0]] ++ [Ob.pl []]).set pre.length (.ob 1 ([.lst (strL w), .int 0] ++ [.amb (pre ++ [Ob.ob 1 [.lst (strL w), .int 0]]).length])) = pre ++ [.ob 1 [.lst (strL w), .int 0, .amb (pre.length + 1)]] ++ [Ob.pl []] := by simp
  have g6 : (pre ++ [Ob.ob 1 [.lst (strL w), .int 0, .amb (pre.length + 1)]] ++ [Ob.pl []])[pre.length]? = some (.ob 1 [.lst (strL w), .int 0, .amb (pre.length + 1)]) := by simp
  rw [g5, z_seq, z_stF (k := pre.length) rfl, r_k, z_stF2 (j := 3) g6 rfl, z_seq1, z_skip]
  simp [RS]
/-! ### variables -/
/-- names.append(x) -/
theorem rsA {sl : Sl} {i j : Nat} {x : Str} (h : sl[i]? = some (.val (.amb pre.length))) (hx : sl[j]? = some (.val (.str x))) (hl : ns.length < 1000) : evS T (.appE (.fld 1 2 (.v i)) (.v j)) sl (RS pre ws a ns dr) = .next sl (RS pre ws a (ns ++ [x]) dr) := by
  rw [z_appE, r_fld, r_v h, rsf2, z_appE1 rs1, r_v hx, z_appE2 rs1 (by rw [List.length_map]; omega)]
  simp [RS]
abbrev vCond : E := .an (.cm .eq (.meth 1 5 [] (.v 0) .nil) (.k (.str "var"))) (.cm .lt (.bi .len (.b 2)) (.k (.int 4)))
abbrev vLoop : S := match B_Reader_watcher with | .seq _ (.seq _ (.seq _ (.seq (.whl _ b) _))) => b | _ => .skip
theorem vars_loop {kd : Int} : ∀ (vs done : List (Str × Nat)) (a fuel : Nat) (c3 : Cell), (done ++ vs).length ≤ 4 → ((done ++ vs).map (·.1)).Nodup → (∀ p ∈ done ++ vs, Nm p.1 ∧ 1 ≤ p.2 ∧ p.2 ≤ 65535) → 3 < m → vs.length < fuel → ws.drop a = (vs.map vW).flatten ++ rest → PyData.strOk (hd0 rest) = true → (hd0 rest == st "var") = false →
    ∃ c3', whlG (tab prog wf m) vCond vLoop fuel [.val (.amb pre.length), .val (.int kd), .own (done.map vD), c3, .no] (RS pre ws a (done.map (·.1)) dr) =
      .next [.val (.amb pre.length), .val (.int kd), .own ((done ++ vs).map vD), c3', .no] (RS pre ws (a + (vs.map vW).flatten.length) ((done ++ vs).map (·.1)) dr)
  | [], done, a, fuel, c3, hl, hnd, hok, hm, hf, hw, hr1, hr2 => by
    obtain ⟨f, rfl⟩ : ∃ k, fuel = k + 1 := ⟨fuel - 1, by omega⟩
    have hw' : ws.drop a = rest := hw
    have c1 := cmpO (T := tab prog wf m) (om := RS pre ws a (done.map (·.1)) dr) hr1 wd_var.ok hr2
    refine ⟨c3, ?_⟩
    rw [w_step, r_an, r_cm, wordE (by omega) rfl hw', r_cm1, r_k, r_cm2, c1, r_bl, r_an2, r_tr1, w_f]
    simp
  | (x, k) :: vs, done, a, fuel, c3, hl, hnd, hok, hm, hf, hw, hr1, hr2 => by
    obtain ⟨f, rfl⟩ : ∃ k, fuel = k + 1 := ⟨fuel - 1, by omega⟩
    obtain ⟨hxn, hk1, hk2⟩ := hok (x, k) (by simp)
    have w0 : ws.drop a = st "var" :: x :: num k :: ((vs.map vW).flatten ++ rest) := hw
    have w1 := drop_next w0
    have w2 := drop_next w1
    have w3 := drop_next w2
    have e1 : done ++ (x, k) :: vs = (done ++ [(x, k)]) ++ vs := by simp
    obtain ⟨c3', e2⟩ := vars_loop (kd := kd) vs (done ++ [(x, k)]) (a + 1 + 1 + 1) f (.val (.str x)) (by rw [← e1]; exact hl) (by rw [← e1]; exact hnd) (by rw [← e1]; exact hok) hm (by rw [List.length_cons] at hf; omega) w3 hr1 hr2
    have hdl : done.length < 4 := by
      rw [List.length_append, List.length_cons] at hl
      omega
    have hnew : x ∉ done.map (·.1) := by
      rw [List.map_append, List.map_cons, List.nodup_append] at hnd
      intro hx
      exact hnd.2.2 x hx x List.mem_cons_self rfl
    refine ⟨c3', ?_⟩
    have c1 := fun om => cmpO (T := tab prog wf m) (om := om) wd_var.ok wd_var.ok (v := true) (by simp)
    have b1 : ((done.map vD).length : Int) < 4 := by
      rw [List.length_map]
      omega
    have c2 : cmp (tab prog wf m) .inn (.str x) (.amb (pre.length + 1)) (RS pre ws (a + 1) (done.map (·.1)) dr) = .ok false (RS pre ws (a + 1) (done.map (·.1)) dr) := by
      rw [o_inna rs1 (inD_str hxn.wd.ok fun y hy => ?_), decide_eq_false hnew]
      obtain ⟨p, hp, rfl⟩ := List.mem_map.mp hy
      exact (hok p (List.mem_append_left _ hp)).1.wd.ok
    have e3 := is_name (wf := wf) (m := m) (om := RS pre ws (a + 1) (done.map (·.1)) dr) hxn (by omega)
    have e4 := pass_number (wf := wf) (m := m) (pre := pre) (ns := done.map (·.1) ++ [x]) (dr := dr) (lo := 1) (hi := 65535) (k := k) hk2 hk1 hk2 (by omega) w2
    have e4' : callN prog wf m 7 [.amb pre.length, .int 1, .int 65535] (RS pre ws (a + 1 + 1) (done.map (·.1) ++ [x]) dr) = .ok (.int k) (RS pre ws (a + 1 + 1 + 1) (done.map (·.1) ++ [x]) dr) := e4
    rw [w_step, r_an, r_cm, wordE (by omega) rfl w0, r_cm1, r_k, r_cm2, show hd0 (st "var" :: x :: num k :: ((vs.map vW).flatten ++ rest)) = st "var" from rfl, c1, r_bl, r_an1, r_cm, r_bi, r_bo rfl, r_bi1, b_lenl, r_cm1, r_k, r_cm2, o_lt, decide_eq_true b1, r_bl, r_tr1, w_t]
    have hstep : evS (tab prog wf m) vLoop [.val (.amb pre.length), .val (.int kd), .own (done.map vD), c3, .no] (RS pre ws a (done.map (·.1)) dr) = .next [.val (.amb pre.length), .val (.int kd), .own ((done ++ [(x, k)]).map vD), .val (.str x), .no] (RS pre ws (a + 1 + 1 + 1) ((done ++ [(x, k)]).map (·.1)) dr) := by
      show evS (tab prog wf m) (.seq (.auF 0 1 1 (.k (.int 1))) _) _ _ = _
      rw [z_seq, rsN rfl, z_seq1, z_seq, z_set, wordE (by omega) rfl w1, z_set1, z_seq1, show hd0 (x :: num k :: ((vs.map vW).flatten ++ rest)) = x from rfl]
      simp only [List.set_cons_succ, List.set_cons_zero]
      rw [z_seq, z_ite, r_or, r_no, r_call, r_l, r_v rfl, r_l1, r_l0, r_l2, r_call1]
      rw [show (tab prog wf m).call 0 ([D.str x] ++ []) (RS pre ws (a + 1) (done.map (·.1)) dr) = callN prog wf m 0 [.str x] (RS pre ws (a + 1) (done.map (·.1)) dr) from rfl, e3, r_no1]
      simp only [Bool.not_true]
      rw [r_or2, r_cm, r_v rfl, r_cm1, r_fld, r_v rfl, rsf2, r_cm2, c2, r_bl, r_tr1, z_ite2, z_skip, z_seq1, z_seq, rsN rfl, z_seq1, z_seq, rsA (j := 3) rfl rfl (by rw [List.length_map]; omega), z_seq1]
      have hvl : (done.map vD).length < 1000000 := by
        rw [List.length_map]
        omega
      rw [z_seq, z_app rfl, r_tup, r_l, r_v rfl, r_l1, r_l, r_meth, r_v rfl, r_meth1 rsC, r_l, r_k, r_l1, r_l, r_k, r_l1, r_l0, r_l2, r_l2, r_meth2]
      rw [show (tab prog wf m).call 7 (.amb pre.length :: ([D.int 1, .int 65535] ++ [])) (RS pre ws (a + 1 + 1) (done.map (·.1) ++ [x]) dr) = callN prog wf m 7 [.amb pre.length, .int 1, .int 65535] (RS pre ws (a + 1 + 1) (done.map (·.1) ++ [x]) dr) from rfl, e4', r_l1, r_l0, r_l2, r_l2, r_tup1, if_pos (by simp), z_app1, if_pos hvl, z_seq1, z_skip]
      simp
    rw [hstep, w_n, e2, ← e1]
    have ea : a + 1 + 1 + 1 + (vs.map vW).flatten.length = a + (((x, k) :: vs).map vW).flatten.length := by
      simp [vW]
      omega
    rw [ea]
theorem Bl.hd_ok {b : Bl} {n : Nat} (h : b.ok ns n) (hd : hd0 b.ws = st "" ∨ hd0 b.ws = st "tell" ∨ hd0 b.ws = st "set" ∨ hd0 b.ws = st "draw" ∨ hd0 b.ws = st "if") : PyData.strOk (hd0 b.ws) = true ∧ (hd0 b.ws == st "var") = false := by
  rcases hd with e | e | e | e | e <;> rw [e]
  · exact ⟨ok_nil, by decide +kernel⟩
  · exact ⟨wd_tell.ok, by decide +kernel⟩
  · exact ⟨wd_set.ok, by decide +kernel⟩
  · exact ⟨wd_draw.ok, by decide +kernel⟩
  · exact ⟨wd_if.ok, by decide +kernel⟩
theorem Bl.hd_is (b : Bl) : hd0 b.ws = st "" ∨ hd0 b.ws = st "tell" ∨ hd0 b.ws = st "set" ∨ hd0 b.ws = st "draw" ∨ hd0 b.ws = st "if" := by
  cases b with
  | nil => left; rw [Bl.ws]; rfl
  | cons s b =>
    rw [Bl.ws]
    cases s with
    | tell e => right; left; rw [St.ws]; rfl
    | set x e => right; right; left; rw [St.ws]; rfl
    | draw x k => right; right; right; left; rw [St.ws]; rfl
    | ite e x y => right; right; right; right; rw [St.ws]; rfl
theorem watcher_ok (hwf : 300 ≤ wf) {w : Wt} (h : w.Ok) (hm : 35 < m) : callN prog wf m 8 [.amb pre.length] (RS pre w.ws 0 [] 0) = .ok w.o (RS pre w.ws w.ws.length w.ns w.b.dr) := by
  obtain ⟨m, rfl⟩ : ∃ k, m = k + 1 := ⟨m - 1, by omega⟩
  have w0 : w.ws.drop 0 = st "kinds" :: num w.kinds :: ((w.vs.map vW).flatten ++ w.b.ws) := rfl
  have w1 := drop_next w0
  have w2 := drop_next w1
  have w3 := drop_app w2
  have e0 := pass_lit (wf := wf) (m := m) (pre := pre) (ns := []) (dr := 0) (by omega) w0
  have e1 := pass_number (wf := wf) (m := m) (pre := pre) (ns := []) (dr := 0) (lo := 1) (hi := 4) (k := w.kinds) (by have := h.k4; omega) h.k1 h.k4 (by omega) w1
  have e1' : callN prog wf m 7 [.amb pre.length, .int 1, .int 4] (RS pre w.ws (0 + 1) [] 0) = .ok (.int w.kinds) (RS pre w.ws (0 + 1 + 1) [] 0) := e1
  obtain ⟨k1, k2⟩ := Bl.hd_ok h.b w.b.hd_is
  obtain ⟨c3, e2⟩ := vars_loop (wf := wf) (m := m) (pre := pre) (dr := 0) (kd := (w.kinds : Int)) w.vs [] (0 + 1 + 1) wf .no (by simpa using h.len) (show ((([] : List (Str × Nat)) ++ w.vs).map (·.1)).Nodup from h.nd) (fun p hp => ⟨h.nm _ (List.mem_map_of_mem (by simpa using hp)), h.sz p (by simpa using hp)⟩) (by omega) (by have := h.len; omega) w2 k1 k2
  have w3' : w.ws.drop (0 + 1 + 1 + (w.vs.map vW).flatten.length) = w.b.ws ++ [] := by rw [w3, List.append_nil]
  have e3 := blR hwf (lpR (pre := pre) (ws := w.ws) hwf h.nm w.b) 4 m (0 + 1 + 1 + (w.vs.map vW).flatten.length) 0 [] h.b (by have := h.cnt; omega) (by have := h.dr; omega) (by omega) w3' (.inl rfl)
  have e3' : callN prog wf m 9 [.amb pre.length, .int 4] (RS pre w.ws (0 + 1 + 1 + (w.vs.map vW).flatten.length) w.ns 0) = .ok (.tup w.b.ds) (RS pre w.ws (0 + 1 + 1 + (w.vs.map vW).flatten.length + w.b.ws.length) w.ns (0 + w.b.dr)) := e3
  have hlen : 0 + 1 + 1 + (w.vs.map vW).flatten.length + w.b.ws.length = w.ws.length := by
    simp only [Wt.ws, List.length_cons, List.length_append]
    omega
  rw [hlen, Nat.zero_add w.b.dr] at e3'
  have e2' : whlG (tab prog wf m) vCond vLoop wf [.val (.amb pre.length), .val (.int w.kinds), .own [], .no, .no] (RS pre w.ws (0 + 1 + 1) [] 0) = .next [.val (.amb pre.length), .val (.int w.kinds), .own (w.vs.map vD), c3, .no] (RS pre w.ws (0 + 1 + 1 + (w.vs.map vW).flatten.length) w.ns 0) := e2
  refine call_ret (d := ⟨1, 5, B_Reader_watcher, none⟩) rfl rfl rfl ?_
  have hs : slots ⟨1, 5, B_Reader_watcher, none⟩ [.amb pre.length] = [.val (.amb pre.length), .no, .no, .no, .no] := rfl
  have hB : B_Reader_watcher = .seq (.drop (.meth 1 6 [] (.v 0) (.cons (.tup (.cons (.k (.str "kinds")) .nil)) .nil))) (.seq (.set 1 (.meth 1 7 [] (.v 0) (.cons (.k (.int 1)) (.cons (.k (.int 4)) .nil)))) (.seq (.setO 2 (.lst .nil)) (.seq (.whl vCond vLoop) (.seq (.set 4 (.meth 1 9 [] (.v 0) (.cons (.k (.int 4)) .nil))) (.seq (.ite (.cm .lt (.fld 1 1 (.v 0)) (.bi .len (.fld 1 0 (.v 0)))) (.seq .never .skip) .skip) (.seq (.fz 2) (.seq (.ret (.mk 0 2 [] (.cons (.v 1) (.cons (.v 2) (.cons (.v 4) .nil))))) .skip))))))) := rfl
  rw [hs, hB]
  have hmk := mkW (wf := wf) (m := m) (om := RS pre w.ws w.ws.length w.ns w.b.dr) (k := (w.kinds : Int)) (dv := .lst (w.vs.map vD)) (db := .tup w.b.ds) (by omega) (fun _ => rfl) (fun _ => rfl)
  rw [z_seq, z_drop, r_meth, r_v rfl, r_meth1 rsC, r_l, r_tup, r_l, r_k, r_l1, r_l0, r_l2, r_tup1, if_pos (by simp), r_l1, r_l0, r_l2, r_meth2]
  rw [show (tab prog wf m).call 6 (.amb pre.length :: ([D.tup [.str "kinds"]] ++ [])) (RS pre w.ws 0 [] 0) = callN prog wf m 6 [.amb pre.length, .tup [.str (st "kinds")]] (RS pre w.ws 0 [] 0) from rfl, e0, z_drop1, z_seq1]
  rw [z_seq, z_set, r_meth, r_v rfl, r_meth1 rsC, r_l, r_k, r_l1, r_l, r_k, r_l1, r_l0, r_l2, r_l2, r_meth2]
  rw [show (tab prog wf m).call 7 (.amb pre.length :: ([D.int 1, .int 4] ++ [])) (RS pre w.ws (0 + 1) [] 0) = callN prog wf m 7 [.amb pre.length, .int 1, .int 4] (RS pre w.ws (0 + 1) [] 0) from rfl, e1', z_set1, z_seq1]
  simp only [List.set_cons_succ, List.set_cons_zero]
  rw [z_seq, z_setO, r_lst, r_l0, r_lst1, if_pos (by simp), z_setO1, z_seq1]
  simp only [List.set_cons_succ, List.set_cons_zero]
  rw [z_seq, z_whl, t_wf, e2', z_seq1, z_seq, z_set, r_meth, r_v rfl, r_meth1 rsC, r_l, r_k, r_l1, r_l0, r_l2, r_meth2]
  rw [show (tab prog wf m).call 9 (.amb pre.length :: ([D.int 4] ++ [])) (RS pre w.ws (0 + 1 + 1 + (w.vs.map vW).flatten.length) w.ns 0) = callN prog wf m 9 [.amb pre.length, .int 4] (RS pre w.ws (0 + 1 + 1 + (w.vs.map vW).flatten.length) w.ns 0) from rfl, e3', z_set1, z_seq1]
  simp only [List.set_cons_succ, List.set_cons_zero]
  have hnl : ¬ ((w.ws.length : Nat) : Int) < (((strL w.ws).length : Nat) : Int) := by
    rw [List.length_map]
    omega
  rw [z_seq, z_ite, r_cm, r_fld, r_v rfl, rsf1, r_cm1, r_bi, r_fld, r_v rfl, rsf0, r_bi1, b_lenl, r_cm2, o_lt, decide_eq_false hnl, r_bl, r_tr1, z_ite2, z_skip, z_seq1]
  rw [z_seq, z_fz rfl, z_seq1]
  simp only [List.set_cons_succ, List.set_cons_zero]
  rw [z_seq, z_ret, r_mk, r_l, r_v rfl, r_l1, r_l, r_v rfl, r_l1, r_l, r_v rfl, r_l1, r_l0, r_l2, r_l2, r_l2, hmk, z_ret1, z_seq2]
theorem read_ok (hwf : 300 ≤ wf) {w : Wt} (h : w.Ok) (hm : 40 < m) : callN prog wf m 13 [.str (jn w.ws)] pre = .ok w.o (RS pre w.ws w.ws.length w.ns w.b.dr) := by
  obtain ⟨m, rfl⟩ : ∃ k, m = k + 1 := ⟨m - 1, by omega⟩
  have e0 := rinit (wf := wf) (m := m) (pre := pre) (wws_good h) (by omega)
  have e1 := watcher_ok (m := m) (pre := pre) hwf h (by omega)
  refine call_ret (d := ⟨1, 1, B_read_watcher, none⟩) rfl rfl rfl ?_
  have hs : slots ⟨1, 1, B_read_watcher, none⟩ [.str (jn w.ws)] = [.val (.str (jn w.ws))] := rfl
  rw [hs]
  unfold B_read_watcher
  rw [z_seq, z_ret, r_meth, r_mka, r_l, r_v rfl, r_l1, r_l0, r_l2, r_mka1]
  rw [show (tab prog wf m).call 4 (.amb pre.length :: ([D.str (jn w.ws)] ++ [])) (pre ++ [.ob 1 []]) = callN prog wf m 4 [.amb pre.length, .str (jn w.ws)] (pre ++ [.ob 1 []]) from rfl, e0, r_mka2, r_meth1 rsC, r_l0, r_meth2]
  rw [show (tab prog wf m).call 8 (.amb pre.length :: ([] ++ [])) (RS pre w.ws 0 [] 0) = callN prog wf m 8 [.amb pre.length] (RS pre w.ws 0 [] 0) from rfl, e1, z_ret1, z_seq2]
end
end K01

set_option Elab.async false
set_option linter.all false
set_option maxRecDepth 100000
set_option maxHeartbeats 1000000
/-! K01E: data compared. -/
namespace K01
open PySem L2 PD
def eqP (x y : D) : Bool := match toP x, toP y with
  | some p, some q => PyData.eqv p q
  | _, _ => false
theorem lay_shaped {n : Nat} {d : D} (h : Lay n d) (hn : n ≤ 64) : ∃ q, toP d = some q ∧ SeqAt.shaped q = true := by
  obtain ⟨q, h1, h2, h3⟩ := h
  refine ⟨q, h1, ?_⟩
  unfold SeqAt.shaped
  rw [h2, decide_eq_true (by omega)]
  rfl
section
variable {T : Tb} {om : Om} {n k : Nat} {x y : D} {xs ys : List D}
theorem o_eqP (hx : Lay n x) (hy : Lay k y) (hn : n ≤ 64) (hk : k ≤ 64) : cmp T .eq x y om = .ok (eqP x y) om := by
  obtain ⟨p, h1, h2⟩ := lay_shaped hx hn
  obtain ⟨q, h3, h4⟩ := lay_shaped hy hk
  rcases scal_case x y with ⟨_, _, _, _, rfl, _⟩ | h
  · cases h1
  · show eqD T x y om = _
    rw [h, eqP, h1, h3]
    show (if (SeqAt.shaped p && SeqAt.shaped q) = true then _ else _) = _
    rw [h2, h4]
    rfl
theorem o_neP (hx : Lay n x) (hy : Lay k y) (hn : n ≤ 64) (hk : k ≤ 64) : cmp T .ne x y om = .ok (!eqP x y) om := by
  obtain ⟨p, h1, h2⟩ := lay_shaped hx hn
  obtain ⟨q, h3, h4⟩ := lay_shaped hy hk
  show neD x y om = _
  unfold neD
  rw [eqP, h1, h3]
  show (if (SeqAt.shaped p && SeqAt.shaped q) = true then _ else _) = _
  rw [h2, h4]
  rfl
theorem eqP_int {i j : Int} : eqP (.int i) (.int j) = decide (i = j) := rfl
mutual
theorem eqv_refl : ∀ (d : D) (p : PyData), toP d = some p → PyData.eqv p p = true
  | .non, p, h => by cases h; rfl
  | .bl b, p, h => by cases h; simp [PyData.eqv]
  | .int i, p, h => by cases h; simp [PyData.eqv]
  | .str s, p, h => by cases h; simp [PyData.eqv]
  | .lst ds, p, h => by
    rw [toP] at h
    cases z : toPs ds with
    | none => rw [z] at h; cases h
    | some qs =>
      rw [z] at h
      cases h
      exact eqvs_refl ds qs z
  | .tup ds, p, h => by
    rw [toP] at h
    cases z : toPs ds with
    | none => rw [z] at h; cases h
    | some qs =>
      rw [z] at h
      cases h
      exact eqvs_refl ds qs z
  | .obj _ _, p, h => by cases h
  | .amb _, p, h => by cases h
  | .scr _, p, h => by cases h
theorem eqvs_refl : ∀ (ds : List D) (ps : List PyData), toPs ds = some ps → PyData.eqvAll ps ps = true
  | [], p, h => by cases h; rfl
  | d :: ds, p, h => by
    rw [toPs] at h
    cases z : toP d with
    | none => rw [z] at h; cases h
    | some q =>
      rw [z] at h
      cases zs : toPs ds with
      | none => rw [zs] at h; cases h
      | some qs =>
        rw [zs] at h
        cases h
        show (PyData.eqv q q && PyData.eqvAll qs qs) = true
        rw [eqv_refl d q z, eqvs_refl ds qs zs]
        rfl
end
theorem eqP_refl (h : Lay n x) : eqP x x = true := by
  obtain ⟨p, h1, _⟩ := h
  rw [eqP, h1]
  exact eqv_refl x p h1
theorem eqP_cons {a b : D} (ha : Lay n a) (hb : Lay n b) (hx : ∀ z ∈ xs, Lay n z) (hy : ∀ z ∈ ys, Lay n z) : eqP (.tup (a :: xs)) (.tup (b :: ys)) = (eqP a b && eqP (.tup xs) (.tup ys)) := by
  obtain ⟨p, h1, _⟩ := ha
  obtain ⟨q, h2, _⟩ := hb
  obtain ⟨ps, h3, _⟩ := lays hx
  obtain ⟨qs, h4, _⟩ := lays hy
  unfold eqP
  rw [toP, toP, toP, toP, toPs, toPs, h1, h2, h3, h4]
  rfl
theorem eqP_nn : eqP (.tup []) (.tup []) = true := rfl
theorem eqP_nc {b : D} (hb : Lay n b) (hy : ∀ z ∈ ys, Lay n z) : eqP (.tup []) (.tup (b :: ys)) = false := by
  obtain ⟨q, h2, _⟩ := hb
  obtain ⟨qs, h4, _⟩ := lays hy
  unfold eqP
  rw [toP, toP, toPs, toPs, h2, h4]
  rfl
theorem eqP_cn {b : D} (hb : Lay n b) (hy : ∀ z ∈ ys, Lay n z) : eqP (.tup (b :: ys)) (.tup []) = false := by
  obtain ⟨q, h2, _⟩ := hb
  obtain ⟨qs, h4, _⟩ := lays hy
  unfold eqP
  rw [toP, toP, toPs, toPs, h2, h4]
  rfl
theorem eqP_pre {us vs : List D} (hu : ∀ z ∈ us, Lay n z) (hv : ∀ z ∈ vs, Lay n z) : ∀ xs : List D, (∀ z ∈ xs, Lay n z) → eqP (.tup (xs ++ us)) (.tup (xs ++ vs)) = eqP (.tup us) (.tup vs)
  | [], _ => rfl
  | x :: xs, h => by
    have hx : ∀ z ∈ xs, Lay n z := fun z hz => h z (List.mem_cons_of_mem _ hz)
    rw [List.cons_append, List.cons_append, eqP_cons (h x List.mem_cons_self) (h x List.mem_cons_self) (fun z hz => (List.mem_append.mp hz).elim (hx z) (hu z)) fun z hz => (List.mem_append.mp hz).elim (hx z) (hv z), eqP_refl (h x List.mem_cons_self), eqP_pre hu hv xs hx]
    rfl
end
/-! ### two watchers -/
section
variable {wf m : Nat} {om : Om} {k k' : Int} {v v' b b' : D}
theorem weq {n : Nat} (hm : 0 < m) (hn : n ≤ 60) (hv : Lay n v) (hv' : Lay n v') (hb : Lay n b) (hb' : Lay n b') :
    callN prog wf m 3 [.obj 0 [.int k, v, b], .obj 0 [.int k', v', b']] om = .ok (.bl ((decide (k = k') && eqP v v') && eqP b b')) om := by
  obtain ⟨m, rfl⟩ : ∃ k, m = k + 1 := ⟨m - 1, by omega⟩
  refine call_ret (d := ⟨2, 2, B_Watcher_eq, none⟩) rfl rfl rfl ?_
  have hs : slots ⟨2, 2, B_Watcher_eq, none⟩ [.obj 0 [.int k, v, b], .obj 0 [.int k', v', b']] = [.val (.obj 0 [.int k, v, b]), .val (.obj 0 [.int k', v', b'])] := rfl
  have c1 : cmp (tab prog wf m) .eq (.tup [.int k, v]) (.tup [.int k', v']) om = .ok (decide (k = k') && eqP v v') om := by
    have t1 : Lay (n + 1) (.tup [.int k, v]) := lay_tup fun x hx => by
      simp only [List.mem_cons, List.not_mem_nil, or_false] at hx
      rcases hx with rfl | rfl
      · exact lay_int
      · exact hv
    have t2 : Lay (n + 1) (.tup [.int k', v']) := lay_tup fun x hx => by
      simp only [List.mem_cons, List.not_mem_nil, or_false] at hx
      rcases hx with rfl | rfl
      · exact lay_int
      · exact hv'
    rw [o_eqP t1 t2 (by omega) (by omega), eqP_cons (n := n) lay_int lay_int (fun z hz => by rw [List.mem_singleton] at hz; subst hz; exact hv) fun z hz => by rw [List.mem_singleton] at hz; subst hz; exact hv', eqP_int, eqP_cons (xs := []) (ys := []) hv hv' (fun z hz => by cases hz) (fun z hz => by cases hz), eqP_nn, Bool.and_true]
  have c2 : cmp (tab prog wf m) .eq b b' om = .ok (eqP b b') om := o_eqP hb hb' (by omega) (by omega)
  have hi : kIsi (.ok (.obj 0 [.int k', v', b']) om) [.own 0] = .ok (.bl true) om := rfl
  rw [hs]
  unfold B_Watcher_eq
  rw [z_seq, z_ret, r_an, r_isi, r_v rfl, hi, r_an1, r_an, r_cm, r_tup, r_l, r_fld, r_v rfl, r_fldo rfl, r_l1, r_l, r_fld, r_v rfl, r_fldo rfl, r_l1, r_l0, r_l2, r_l2, r_tup1, if_pos (by simp), r_cm1, r_tup, r_l, r_fld, r_v rfl, r_fldo rfl, r_l1, r_l, r_fld, r_v rfl, r_fldo rfl, r_l1, r_l0, r_l2, r_l2, r_tup1, if_pos (by simp), r_cm2, c1, r_bl]
  cases q : (decide (k = k') && eqP v v') with
  | false => rw [r_an2, z_ret1, z_seq2]; rfl
  | true => rw [r_an1, r_cm, r_fld, r_v rfl, r_fldo rfl, r_cm1, r_fld, r_v rfl, r_fldo rfl, r_cm2, c2, r_bl, z_ret1, z_seq2]; rfl
theorem o_eqW {n : Nat} (hm : 0 < m) (hn : n ≤ 60) (hv : Lay n v) (hv' : Lay n v') (hb : Lay n b) (hb' : Lay n b') :
    cmp (tab prog wf m) .eq (.obj 0 [.int k, v, b]) (.obj 0 [.int k', v', b']) om = .ok ((decide (k = k') && eqP v v') && eqP b b') om := by
  change eqD (tab prog wf m) (.obj 0 [.int k, v, b]) (.obj 0 [.int k', v', b']) om = _
  rw [eqD_obj, if_pos rfl]
  show (match callN prog wf m 3 [.obj 0 [.int k, v, b], .obj 0 [.int k', v', b']] om with
        | .ok (.bl b) om' => Rs.ok b om'
        | _ => .stuck) = _
  rw [weq hm hn hv hv' hb hb']
end
/-! ### data that is fine -/
theorem SameD.up {n : Nat} : ∀ {d : D}, SameD n d → SameD (n + 1) d := by
  induction n with
  | zero => intro d h; rw [SameD]; exact .inl h
  | succ n ih =>
    intro d h
    rw [SameD] at h ⊢
    rcases h with h | ⟨ds, h1, h2, h3⟩
    · exact .inl h
    · exact .inr ⟨ds, h1, h2, fun x hx => ih (h3 x hx)⟩
theorem SameD.le {n k : Nat} (hk : n ≤ k) {d : D} (h : SameD n d) : SameD k d := by
  induction hk with
  | refl => exact h
  | step _ ih => exact SameD.up ih
def Fine (n : Nat) (d : D) : Prop := SameD n d ∧ Lay n d
theorem Fine.le {n k : Nat} {d : D} (hk : n ≤ k) (h : Fine n d) : Fine k d := ⟨SameD.le hk h.1, h.2.up hk⟩
theorem fine_int {n : Nat} {i : Int} : Fine n (.int i) := ⟨SameD.le (Nat.zero_le n) (by rw [SameD]; exact .inl ⟨i, rfl⟩), lay_int⟩
theorem fine_str {n : Nat} {t : Str} (h : PyData.strOk t = true) : Fine n (.str t) := ⟨SameD.le (Nat.zero_le n) (by rw [SameD]; exact .inr (.inl ⟨t, rfl, h⟩)), lay_str h⟩
theorem fine_tup {n : Nat} {ds : List D} (hl : ds.length < 1000000) (h : ∀ x ∈ ds, Fine n x) : Fine (n + 1) (.tup ds) := ⟨by
  rw [SameD]
  exact .inr ⟨ds, .inr rfl, Nat.lt_trans hl (by decide), fun x hx => (h x hx).1⟩, lay_tup fun x hx => (h x hx).2⟩
theorem same_lst {n : Nat} {ds : List D} (hl : ds.length < 1000000) (h : ∀ x ∈ ds, SameD n x) : SameD (n + 1) (.lst ds) := by
  rw [SameD]
  exact .inr ⟨ds, .inl rfl, Nat.lt_trans hl (by decide), h⟩
theorem same_bl {n : Nat} {b : Bool} : SameD n (.bl b) := SameD.le (Nat.zero_le n) (by rw [SameD]; exact .inr (.inr (.inl ⟨b, rfl⟩)))
theorem fine_1 {n : Nat} {a : D} (ha : Fine n a) : Fine (n + 1) (.tup [a]) := fine_tup (by simp) fun x hx => by
  rw [List.mem_singleton] at hx
  subst hx
  exact ha
theorem fine_2 {n : Nat} {a b : D} (ha : Fine n a) (hb : Fine n b) : Fine (n + 1) (.tup [a, b]) := fine_tup (by simp) fun x hx => by
  simp only [List.mem_cons, List.not_mem_nil, or_false] at hx
  rcases hx with rfl | rfl
  · exact ha
  · exact hb
theorem fine_3 {n : Nat} {a b c : D} (ha : Fine n a) (hb : Fine n b) (hc : Fine n c) : Fine (n + 1) (.tup [a, b, c]) := fine_tup (by simp) fun x hx => by
  simp only [List.mem_cons, List.not_mem_nil, or_false] at hx
  rcases hx with rfl | rfl | rfl
  · exact ha
  · exact hb
  · exact hc
theorem fine_4 {n : Nat} {a b c d : D} (ha : Fine n a) (hb : Fine n b) (hc : Fine n c) (hd : Fine n d) : Fine (n + 1) (.tup [a, b, c, d]) := fine_tup (by simp) fun x hx => by
  simp only [List.mem_cons, List.not_mem_nil, or_false] at hx
  rcases hx with rfl | rfl | rfl | rfl
  · exact ha
  · exact hb
  · exact hc
  · exact hd
theorem fine_ex {ns : List Str} (hn : ∀ x ∈ ns, Wd x) : ∀ e : Ex, e.ok ns → Fine e.dep e.d
  | .kind, _ => fine_1 (fine_str wd_kind.ok)
  | .var x, h => fine_2 (fine_str (strOk_lit [118, 97, 114, 105, 97, 98, 108, 101] rfl (by decide))) (fine_str (hn x h).ok)
  | .lit k, _ => fine_2 (fine_str (strOk_lit [110, 117, 109, 98, 101, 114] rfl (by decide))) fine_int
  | .op s a b, h => by
    rw [Ex.ok] at h
    exact fine_3 (fine_str (wd_signs h.1).ok) ((fine_ex hn a h.2.1).le (Nat.le_max_left ..)) ((fine_ex hn b h.2.2).le (Nat.le_max_right ..))
mutual
theorem fine_st {ns : List Str} (hn : ∀ x ∈ ns, Wd x) : ∀ (s : St) (n : Nat), s.ok ns n → s.cnt ≤ 1000 → Fine (2 * n + 7) s.d
  | .tell e, n, h, _ => by
    rw [St.ok] at h
    exact fine_2 (fine_str wd_tell.ok) ((fine_ex hn e h.1).le (by omega))
  | .set x e, n, h, _ => by
    rw [St.ok] at h
    exact fine_3 (fine_str wd_set.ok) (fine_str (hn x h.1).ok) ((fine_ex hn e h.2.1).le (by omega))
  | .draw x k, n, h, _ => by
    rw [St.ok] at h
    exact fine_3 (fine_str wd_draw.ok) (fine_str (hn x h.1).ok) fine_int
  | .ite e a b, 0, h, _ => by rw [St.ok] at h; exact h.elim
  | .ite e a b, n + 1, h, hc => by
    rw [St.ok] at h
    rw [St.cnt] at hc
    have la := a.len_cnt
    have lb := b.len_cnt
    exact fine_4 (fine_str wd_if.ok) ((fine_ex hn e h.1).le (by omega)) (fine_tup (by rw [Bl.ds_len]; omega) (fine_bl hn a n h.2.2.1 (by omega))) (fine_tup (by rw [Bl.ds_len]; omega) (fine_bl hn b n h.2.2.2 (by omega)))
theorem fine_bl {ns : List Str} (hn : ∀ x ∈ ns, Wd x) : ∀ (b : Bl) (n : Nat), b.ok ns n → b.cnt ≤ 1000 → ∀ x ∈ b.ds, Fine (2 * n + 7) x
  | .nil, n, _, _ => fun x hx => by rw [Bl.ds] at hx; cases hx
  | .cons s b, n, h, hc => fun x hx => by
    rw [Bl.ok] at h
    rw [Bl.cnt] at hc
    rw [Bl.ds, List.mem_cons] at hx
    rcases hx with rfl | hx
    · exact fine_st hn s n h.1 (by omega)
    · exact fine_bl hn b n h.2 (by omega) x hx
end
theorem Wt.Ok.wd {w : Wt} (h : w.Ok) : ∀ x ∈ w.ns, Wd x := fun x hx => (h.nm x hx).wd
theorem Wt.Ok.fb {w : Wt} (h : w.Ok) : ∀ x ∈ w.b.ds, Fine 15 x := fine_bl h.wd w.b 4 h.b (by have := h.cnt; omega)
theorem fine_v {p : Str × Nat} (h : Wd p.1) : Fine 15 (vD p) := (fine_2 (n := 0) (fine_str h.ok) fine_int).le (by omega)
theorem Wt.Ok.fv {w : Wt} (h : w.Ok) : ∀ x ∈ w.vs.map vD, Fine 15 x := fun x hx => by
  obtain ⟨p, hp, rfl⟩ := List.mem_map.mp hx
  exact fine_v (h.wd _ (List.mem_map_of_mem hp))
theorem Wt.Ok.blen {w : Wt} (h : w.Ok) : w.b.ds.length ≤ 200 := by
  have := w.b.len_cnt
  have := h.cnt
  rw [Bl.ds_len]
  omega
theorem Wt.Ok.tv {w : Wt} (h : w.Ok) : Fine 16 (.tup (w.vs.map vD)) := fine_tup (by rw [List.length_map]; have := h.len; omega) h.fv
theorem Wt.Ok.tb {w : Wt} (h : w.Ok) : Fine 16 (.tup w.b.ds) := fine_tup (by have := h.blen; omega) h.fb
theorem Wt.Ok.td {w : Wt} (h : w.Ok) : Fine 17 w.d := fine_3 fine_int h.tv h.tb
end K01

set_option Elab.async false
set_option linter.all false
set_option maxRecDepth 100000
set_option maxHeartbeats 1000000
/-! K01L: the law holds, in plain Lean. -/
namespace K01
open PySem L2 PD
theorem same {d : D} {om : Om} {n m : Nat} (h : SameD n d) (hn : n < m) : callN prog 300 m 21 [d, d] om = .ok (.bl true) om := same_ok (p := prog) (f := 21) rfl rfl n d h m hn
theorem wx0 {w : Wt} {om : Om} : ixD w.d (.int 0) om = .ok (.int w.kinds) om := x_t atI0
theorem wx1 {w : Wt} {om : Om} : ixD w.d (.int 1) om = .ok (.tup (w.vs.map vD)) om := x_t atI1
theorem wx2 {w : Wt} {om : Om} : ixD w.d (.int 2) om = .ok (.tup w.b.ds) om := x_t atI2
theorem wl {T : Tb} {w : Wt} {om : Om} : biD T .list w.d om = .ok (.lst [.int w.kinds, .tup (w.vs.map vD), .tup w.b.ds]) om := rfl
theorem wsl {w : Wt} {om : Om} : slD w.d (some 1) none om = .ok (.tup [.tup (w.vs.map vD), .tup w.b.ds]) om := rfl
theorem iO {om : Om} {k : Int} {vs bs : List D} : initN prog 300 99 2 [.int k, .tup vs, .tup bs] om = .ok [.int k, .tup vs, .tup bs] om := winit (by decide) (fun _ => rfl) (fun _ => rfl)
theorem iL {om : Om} {k : Int} {vs bs : List D} : initN prog 300 99 2 [.int k, .lst vs, .lst bs] om = .ok [.int k, .tup vs, .tup bs] om := winit (by decide) (fun _ => rfl) (fun _ => rfl)
theorem nf0 : prog.nf 0 = 3 := rfl
/-- the law's end: two watchers, a list of unlike ones -/
abbrev dropS : Nat → S → S
  | n + 1, .seq _ b => dropS n b
  | _, s => s
theorem part1 {ns : List Int} (hl : ns.length ≤ 63) : ∃ (w w2 : Wt) (c6 c7 : Cell) (om : Om), w.Ok ∧ w2.Ok ∧
    evS (tab prog 300 99) B_law [.val (.scr (ns.map D.int)), .no, .no, .no, .no, .no, .no, .no, .no, .no] [] =
    evS (tab prog 300 99) (dropS 13 B_law) [.val (.scr (ns.map D.int)), .val (.amb 0), .val w.d, .val (.str (jn w.ws)), .val w.o, .val w.o, c6, c7, .val w2.d, .no] om := by
  have hpool : callN prog 300 99 17 [.scr (ns.map D.int), .int 0] [] = .ok (.lst (poolD ns 0 0 1 0 0)) [] := by
    refine call_retF (d := ⟨2, 2, B_Lpool, none⟩) rfl rfl ?_
    simp [B_Lpool, slots]
  have p0 : PoolE [.pl (poolD ns 0 0 1 0 0)] [] 0 := ⟨ns, 0, 0, 1, 0, rfl, by decide, by decide, by decide⟩
  obtain ⟨w, om1, dr1, en1, e1, hw, p1⟩ := watcher (wf := 300) (m := 99) (by decide) p0
  obtain ⟨ns1, a, b, c, d, hom1, ha, hc, hc'⟩ := p1
  have e2 := lwords (wf := 300) (m := 99) (om := om1) hw (by decide)
  have e3 := jn_ok (T := tab prog 300 99) (om := om1) (wws_good hw)
  have e4 := read_ok (wf := 300) (m := 99) (pre := om1) (by decide) hw (by decide)
  have t1 : SameD 18 (.lst [.int w.kinds, .tup (w.vs.map vD), .tup w.b.ds]) := same_lst (by simp) fun x hx => by
    simp only [List.mem_cons, List.not_mem_nil, or_false] at hx
    rcases hx with rfl | rfl | rfl
    · exact fine_int.1
    · exact (hw.tv.le (by decide)).1
    · exact (hw.tb.le (by decide)).1
  have t2 : SameD 1 (.lst [.str (jn w.ws), .str (jn w.ws)]) := same_lst (by simp) fun x hx => by
    simp only [List.mem_cons, List.not_mem_nil, or_false, or_self] at hx
    subst hx
    exact (fine_str (jn_strOk (wws_good hw))).1
  have t3 : SameD 1 (.lst [.bl true, .bl true]) := same_lst (by simp) fun x hx => by
    simp only [List.mem_cons, List.not_mem_nil, or_false, or_self] at hx
    subst hx
    exact same_bl
  have t4 : SameD 18 (.lst [.tup (w.vs.map vD), .tup w.b.ds]) := same_lst (by simp) fun x hx => by
    simp only [List.mem_cons, List.not_mem_nil, or_false] at hx
    rcases hx with rfl | rfl
    · exact (hw.tv.le (by decide)).1
    · exact (hw.tb.le (by decide)).1
  have s1 := fun om => same (om := om) (m := 99) t1 (by decide)
  have s2 := fun om => same (om := om) (m := 99) t2 (by decide)
  have s3 := fun om => same (om := om) (m := 99) t3 (by decide)
  have s4 := fun om => same (om := om) (m := 99) t4 (by decide)
  have e5 := fun om => wtext (wf := 300) (m := 99) (om := om) hw (by decide)
  have e6 : ∀ om, cmp (tab prog 300 99) .eq w.o w.o om = .ok true om := fun om => by
    rw [o_eqW (n := 16) (by decide) (by decide) hw.tv.2 hw.tv.2 hw.tb.2 hw.tb.2, eqP_refl hw.tv.2, eqP_refl hw.tb.2]
    simp
  generalize hR : RS om1 w.ws w.ws.length w.ns w.b.dr = R at e4
  have hR0 : R = .pl (poolD ns1 a b c d en1) :: R.tail := by
    rw [← hR, hom1]
    rfl
  have g1 : (R ++ [Ob.pl (w.vs.map vD), .pl w.b.ds])[R.length]? = some (.pl (w.vs.map vD)) := by simp
  have g2 : (R ++ [Ob.pl (w.vs.map vD ++ [.tup [.str (st "w"), .int 2]]), .pl w.b.ds])[R.length + 1]? = some (.pl w.b.ds) := by
    rw [List.getElem?_append_right (by simp)]
    simp
  have l1 : (w.vs.map vD).length < 1000000 := by
    have := hw.len
    rw [List.length_map]
    omega
  have l2 : w.b.ds.length < 1000000 := by
    have := hw.blen
    omega
  generalize hO : R ++ [.pl (w.vs.map vD ++ [.tup [.str (st "w"), .int 2]]), .pl (w.b.ds ++ [.tup [.str (st "tell"), .tup [.str (st "number"), .int 1]]])] = O
  have pO : PoolE O O.tail en1 := by
    rw [← hO, hR0]
    exact ⟨ns1, a, b, c, d, rfl, ha, hc, hc'⟩
  obtain ⟨w2, om3, dr2, en2, e7, hw2, p3⟩ := watcher (wf := 300) (m := 99) (by decide) pO
  refine ⟨w, w2, .val (.lst [.amb R.length, .amb (R.length + 1)]), .val w.o, om3, hw, hw2, ?_⟩
  have e1' : callN prog 300 99 26 [.amb 0, .int 6, .int 8] [.pl (poolD ns 0 0 1 0 0)] = .ok w.d om1 := e1
  unfold B_law
  have ia : initN prog 300 99 2 [.int w.kinds, .amb R.length, .amb (R.length + 1)] (R ++ [.pl (w.vs.map vD), .pl w.b.ds]) = .ok [.int w.kinds, .tup (w.vs.map vD), .tup w.b.ds] (R ++ [.pl (w.vs.map vD), .pl w.b.ds]) := winit (by decide) (fun _ => b_tupa (by simp)) (fun _ => b_tupa (by rw [List.getElem?_append_right (by simp)]; simp))
  simp [hpool, e1', e2, e3, e4, wx0, wx1, wx2, iL, nf0, wl, s1, e5, s2, e6, s3, ia, z_appE1 g1, z_appE2 g1 l1, z_appE1 g2, z_appE2 g2 l2, hO, wsl, s4, e7]
  done
theorem cut_last {l : List D} {x : D} : cutD (l ++ [x]) none (some (-1)) = l := by
  unfold cutD
  have e1 : HT.sIx (l ++ [x]).length 0 none = 0 := rfl
  have e2 : HT.sIx (l ++ [x]).length (l ++ [x]).length (some (-1)) = l.length := by
    simp [HT.sIx]
    omega
  rw [e1, e2]
  simp
theorem ix_last {l : List D} {x : D} : atI (l ++ [x]) (-1) = some x := by
  unfold atI ixN
  rw [if_neg (by decide), if_pos (by simp; omega)]
  have e : ((-1 : Int) + ((l ++ [x]).length : Int)).toNat = l.length := by
    rw [List.length_append, List.length_singleton]
    omega
  rw [Option.bind_some, e]
  simp
section
variable {sc0 c6 c7 c8 : Cell} {w w2 : Wt} {om : Om}
theorem part3 {us : List D} (hl : us.length ≤ 10) (h : ∀ u ∈ us, cmp (tab prog 300 99) .eq w.o u om = .ok false om ∧ cmp (tab prog 300 99) .eq u w.o om = .ok false om) :
    evS (tab prog 300 99) (dropS 17 B_law) [sc0, .val (.amb 0), .val w.d, .val (.str (jn w.ws)), .val w.o, .val w.o, c6, c7, c8, .own us] om = .ret (.bl true) om := by
  have hc1 := comp_map (T := tab prog 300 99) (om := om) (i := 8) (sl := [sc0, .val (.amb 0), .val w.d, .val (.str (jn w.ws)), .val w.o, .val w.o, c6, c7, .no, .own us]) (cond := .k (.bl true)) (elt := .cm .eq (.v 4) (.v 8)) (f := id) (g := fun _ => .bl false) us (fun u hu => by
    refine ⟨by simp, ?_⟩
    simp only [List.set_cons_succ, List.set_cons_zero, id]
    rw [r_cm, r_v rfl, r_cm1, r_v rfl, r_cm2, (h u hu).1, r_bl])
  have hc2 := comp_map (T := tab prog 300 99) (om := om) (i := 8) (sl := [sc0, .val (.amb 0), .val w.d, .val (.str (jn w.ws)), .val w.o, .val w.o, c6, c7, .no, .own us]) (cond := .k (.bl true)) (elt := .cm .eq (.v 8) (.v 4)) (f := id) (g := fun _ => .bl false) us (fun u hu => by
    refine ⟨by simp, ?_⟩
    simp only [List.set_cons_succ, List.set_cons_zero, id]
    rw [r_cm, r_v rfl, r_cm1, r_v rfl, r_cm2, (h u hu).2, r_bl])
  rw [List.map_id, List.map_const'] at hc1 hc2
  have hs : SameD 1 (.lst (List.replicate us.length (.bl false))) := same_lst (by rw [List.length_replicate]; omega) fun x hx => by
    rw [(List.mem_replicate.mp hx).2]
    exact same_bl
  have hs' := same (om := om) (m := 99) hs (by decide)
  have hl2 : us.length ≤ 1000000 := by omega
  have hl3 : (us.length : Int) ≤ 1000000 := by omega
  simp [dropS, B_law, hc1, hc2, hl2, hl3, hs']
theorem part2 (hw : w.Ok) (hw2 : w2.Ok) : evS (tab prog 300 99) (dropS 13 B_law) [sc0, .val (.amb 0), .val w.d, .val (.str (jn w.ws)), .val w.o, .val w.o, c6, c7, .val w2.d, .no] om = .ret (.bl true) om := by
  have hv := hw.tv.2
  have hb := hw.tb.2
  have hv2 := hw2.tv.2
  have hb2 := hw2.tb.2
  have q1 : ∀ om, cmp (tab prog 300 99) .eq w2.o w.o om = .ok ((decide ((w2.kinds : Int) = w.kinds) && eqP (.tup (w2.vs.map vD)) (.tup (w.vs.map vD))) && eqP (.tup w2.b.ds) (.tup w.b.ds)) om := fun om => o_eqW (n := 16) (by decide) (by decide) hv2 hv hb2 hb
  have q2 : ∀ om, cmp (tab prog 300 99) .eq w2.d w.d om = .ok ((decide ((w2.kinds : Int) = w.kinds) && eqP (.tup (w2.vs.map vD)) (.tup (w.vs.map vD))) && eqP (.tup w2.b.ds) (.tup w.b.ds)) om := fun om => by
    rw [o_eqP hw2.td.2 hw.td.2 (by decide) (by decide)]
    have e : eqP w2.d w.d = (eqP (.int w2.kinds) (.int w.kinds) && (eqP (.tup (w2.vs.map vD)) (.tup (w.vs.map vD)) && (eqP (.tup w2.b.ds) (.tup w.b.ds) && eqP (.tup []) (.tup [])))) := by
      unfold Wt.d
      rw [eqP_cons (n := 16) lay_int lay_int (fun z hz => ?_) (fun z hz => ?_), eqP_cons (n := 16) hv2 hv (fun z hz => ?_) (fun z hz => ?_), eqP_cons (n := 16) (xs := []) (ys := []) hb2 hb (fun z hz => by cases hz) (fun z hz => by cases hz)]
      · rw [List.mem_singleton] at hz
        subst hz
        exact hb2
      · rw [List.mem_singleton] at hz
        subst hz
        exact hb
      · simp only [List.mem_cons, List.not_mem_nil, or_false] at hz
        rcases hz with rfl | rfl
        · exact hv2
        · exact hb2
      · simp only [List.mem_cons, List.not_mem_nil, or_false] at hz
        rcases hz with rfl | rfl
        · exact hv
        · exact hb
    rw [e, eqP_nn, Bool.and_true, eqP_int, Bool.and_assoc]
  have q3 := fun (b : Bool) (om : Om) => same (om := om) (m := 99) (n := 0) (d := .bl b) same_bl (by decide)
  -- what is unlike
  have hk1 : ¬ ((w.kinds : Int) = (w.kinds : Int) % 4 + 1) := by
    have := hw.k1
    have := hw.k4
    omega
  have hk2 : ¬ ((w.kinds : Int) % 4 + 1 = (w.kinds : Int)) := fun e => hk1 e.symm
  have u1 : cmp (tab prog 300 99) .eq w.o (.obj 0 [.int ((w.kinds : Int) % 4 + 1), .tup (w.vs.map vD), .tup w.b.ds]) om = .ok false om ∧ cmp (tab prog 300 99) .eq (.obj 0 [.int ((w.kinds : Int) % 4 + 1), .tup (w.vs.map vD), .tup w.b.ds]) w.o om = .ok false om := by
    constructor
    · rw [o_eqW (n := 16) (by decide) (by decide) hv hv hb hb, decide_eq_false hk1]
      rfl
    · rw [o_eqW (n := 16) (by decide) (by decide) hv hv hb hb, decide_eq_false hk2]
      rfl
  have fx : Fine 15 (.tup [.str (st "tell"), .tup [.str (st "number"), .int 1]]) := (fine_2 (n := 1) (fine_str wd_tell.ok) (fine_2 (n := 0) (fine_str (strOk_lit [110, 117, 109, 98, 101, 114] rfl (by decide))) fine_int)).le (by decide)
  have hbx : ∀ z ∈ w.b.ds ++ [.tup [.str (st "tell"), .tup [.str (st "number"), .int 1]]], Fine 15 z := fun z hz => by
    rcases List.mem_append.mp hz with hz | hz
    · exact hw.fb z hz
    · rw [List.mem_singleton] at hz
      subst hz
      exact fx
  have hbt : Fine 16 (.tup (w.b.ds ++ [.tup [.str (st "tell"), .tup [.str (st "number"), .int 1]]])) := fine_tup (by rw [List.length_append, List.length_singleton]; have := hw.blen; omega) hbx
  have b1 : eqP (.tup w.b.ds) (.tup (w.b.ds ++ [.tup [.str (st "tell"), .tup [.str (st "number"), .int 1]]])) = false := by
    have z := eqP_pre (n := 15) (us := []) (vs := [.tup [.str (st "tell"), .tup [.str (st "number"), .int 1]]]) (fun z hz => by cases hz) (fun z hz => by rw [List.mem_singleton] at hz; subst hz; exact fx.2) w.b.ds (fun z hz => (hw.fb z hz).2)
    rw [List.append_nil] at z
    rw [z]
    exact eqP_nc (n := 15) (ys := []) fx.2 (fun z hz => by cases hz)
  have b2 : eqP (.tup (w.b.ds ++ [.tup [.str (st "tell"), .tup [.str (st "number"), .int 1]]])) (.tup w.b.ds) = false := by
    have z := eqP_pre (n := 15) (vs := []) (us := [.tup [.str (st "tell"), .tup [.str (st "number"), .int 1]]]) (fun z hz => by rw [List.mem_singleton] at hz; subst hz; exact fx.2) (fun z hz => by cases hz) w.b.ds (fun z hz => (hw.fb z hz).2)
    rw [List.append_nil] at z
    rw [z]
    exact eqP_cn (n := 15) (ys := []) fx.2 (fun z hz => by cases hz)
  have u3 : cmp (tab prog 300 99) .eq w.o (.obj 0 [.int w.kinds, .tup (w.vs.map vD), .tup (w.b.ds ++ [.tup [.str (st "tell"), .tup [.str (st "number"), .int 1]]])]) om = .ok false om ∧ cmp (tab prog 300 99) .eq (.obj 0 [.int w.kinds, .tup (w.vs.map vD), .tup (w.b.ds ++ [.tup [.str (st "tell"), .tup [.str (st "number"), .int 1]]])]) w.o om = .ok false om := by
    constructor
    · rw [o_eqW (n := 16) (by decide) (by decide) hv hv hb hbt.2, b1, Bool.and_false]
    · rw [o_eqW (n := 16) (by decide) (by decide) hv hv hbt.2 hb, b2, Bool.and_false]
  have hbl : w.b.ds.length + 1 ≤ 1000000 := by
    have := hw.blen
    omega
  have h4 : (0 : Int) < 4 := by decide
  rcases List.eq_nil_or_concat w.vs with hvs | ⟨vs', p, hvs⟩
  · have p3 := part3 (sc0 := sc0) (c6 := c6) (c7 := c7) (c8 := .val w2.d) (w := w) (om := om) (us := [.obj 0 [.int ((w.kinds : Int) % 4 + 1), .tup (w.vs.map vD), .tup w.b.ds], .obj 0 [.int w.kinds, .tup (w.vs.map vD), .tup (w.b.ds ++ [.tup [.str (st "tell"), .tup [.str (st "number"), .int 1]]])]]) (by simp) (fun u hu => by
      simp only [List.mem_cons, List.not_mem_nil, or_false] at hu
      rcases hu with rfl | rfl
      · exact u1
      · exact u3)
    rw [← p3]
    have hz : (w.vs.map vD).length = 0 := by rw [hvs]; rfl
    have hz' : w.vs.length = 0 := by rw [hvs]; rfl
    simp [dropS, B_law, wx0, wx1, wx2, iO, nf0, q1, q2, q3, hz', hbl]
    done
  · rw [List.concat_eq_append] at hvs
    have hp1 : Wd p.1 := hw.wd _ (List.mem_map_of_mem (by rw [hvs]; simp))
    have hvD : w.vs.map vD = vs'.map vD ++ [vD p] := by rw [hvs]; simp
    have fv' : ∀ z ∈ vs'.map vD, Fine 15 z := fun z hz => hw.fv z (by rw [hvD]; exact List.mem_append_left _ hz)
    have fp : Fine 15 (vD p) := fine_v hp1
    have fq : Fine 15 (.tup [.str p.1, .int ((p.2 : Int) % 9 + 1)]) := (fine_2 (n := 0) (fine_str hp1.ok) fine_int).le (by decide)
    have hlen : w.vs.length ≤ 4 := hw.len
    have hlen' : vs'.length + 1 ≤ 4 := by
      rw [hvs, List.length_append, List.length_singleton] at hlen
      exact hlen
    have fq2 : Fine 16 (.tup (vs'.map vD ++ [.tup [.str p.1, .int ((p.2 : Int) % 9 + 1)]])) := fine_tup (by rw [List.length_append, List.length_map, List.length_singleton]; omega) fun z hz => by
      rcases List.mem_append.mp hz with hz | hz
      · exact fv' z hz
      · rw [List.mem_singleton] at hz
        subst hz
        exact fq
    have pq : eqP (.tup (vs'.map vD ++ [.tup [.str p.1, .int ((p.2 : Int) % 9 + 1)]])) (.tup (w.vs.map vD)) = decide ((p.2 : Int) % 9 + 1 = p.2) := by
      rw [hvD, eqP_pre (n := 15) (fun z hz => by rw [List.mem_singleton] at hz; subst hz; exact fq.2) (fun z hz => by rw [List.mem_singleton] at hz; subst hz; exact fp.2) _ (fun z hz => (fv' z hz).2)]
      rw [eqP_cons (n := 15) (xs := []) (ys := []) fq.2 fp.2 (fun z hz => by cases hz) (fun z hz => by cases hz), eqP_nn, Bool.and_true]
      rw [eqP_cons (n := 15) (lay_str hp1.ok) (lay_str hp1.ok) (fun z hz => by rw [List.mem_singleton] at hz; subst hz; exact lay_int) (fun z hz => by rw [List.mem_singleton] at hz; subst hz; exact lay_int), eqP_refl (n := 15) (lay_str hp1.ok), Bool.true_and]
      rw [eqP_cons (n := 15) (xs := []) (ys := []) lay_int lay_int (fun z hz => by cases hz) (fun z hz => by cases hz), eqP_nn, Bool.and_true, eqP_int]
    have qp : eqP (.tup (w.vs.map vD)) (.tup (vs'.map vD ++ [.tup [.str p.1, .int ((p.2 : Int) % 9 + 1)]])) = decide ((p.2 : Int) = (p.2 : Int) % 9 + 1) := by
      rw [hvD, eqP_pre (n := 15) (fun z hz => by rw [List.mem_singleton] at hz; subst hz; exact fp.2) (fun z hz => by rw [List.mem_singleton] at hz; subst hz; exact fq.2) _ (fun z hz => (fv' z hz).2)]
      rw [eqP_cons (n := 15) (xs := []) (ys := []) fp.2 fq.2 (fun z hz => by cases hz) (fun z hz => by cases hz), eqP_nn, Bool.and_true]
      rw [eqP_cons (n := 15) (lay_str hp1.ok) (lay_str hp1.ok) (fun z hz => by rw [List.mem_singleton] at hz; subst hz; exact lay_int) (fun z hz => by rw [List.mem_singleton] at hz; subst hz; exact lay_int), eqP_refl (n := 15) (lay_str hp1.ok), Bool.true_and]
      rw [eqP_cons (n := 15) (xs := []) (ys := []) lay_int lay_int (fun z hz => by cases hz) (fun z hz => by cases hz), eqP_nn, Bool.and_true, eqP_int]
    have cl : ∀ om, slD (.tup (w.vs.map vD)) none (some (-1)) om = .ok (.tup (vs'.map vD)) om := fun om => by
      show Rs.ok (D.tup (cutD (w.vs.map vD) none (some (-1)))) om = _
      rw [hvD, cut_last]
    have ixl : ∀ om, ixD (.tup (w.vs.map vD)) (.int (-1)) om = .ok (.tup [.str p.1, .int p.2]) om := fun om => x_t (by rw [hvD]; exact ix_last)
    have hpos : 0 < w.vs.length := by
      rw [hvs, List.length_append, List.length_singleton]
      omega
    have h9 : (0 : Int) < 9 := by decide
    have hl3 : vs'.length + 1 ≤ 1000000 := by omega
    have ct1 : ∀ a b : D, cutD [a, b] none (some 1) = [a] := fun _ _ => rfl
    have ct2 : ∀ a b : D, cutD [a, b] (some 1) none = [b] := fun _ _ => rfl
    have hne : ∀ om, cmp (tab prog 300 99) .ne (.tup (vs'.map vD ++ [.tup [.str p.1, .int ((p.2 : Int) % 9 + 1)]])) (.tup (w.vs.map vD)) om = .ok (!decide ((p.2 : Int) % 9 + 1 = p.2)) om := fun om => by
      rw [o_neP fq2.2 hv (by decide) (by decide), pq]
    have hcg : cmpG (tab prog 300 99) (.cm .ne (.fld 0 1 (.v 8)) (.ix (.v 2) (.k (.int 1)))) (.v 8) (.one 8) [sc0, .val (.amb 0), .val w.d, .val (.str (jn w.ws)), .val w.o, .val w.o, c6, c7, .no, .own [.obj 0 [.int ((w.kinds : Int) % 4 + 1), .tup (w.vs.map vD), .tup w.b.ds], .obj 0 [.int w.kinds, .tup (vs'.map vD ++ [.tup [.str p.1, .int ((p.2 : Int) % 9 + 1)]]), .tup w.b.ds]]] [.obj 0 [.int w.kinds, .tup (vs'.map vD ++ [.tup [.str p.1, .int ((p.2 : Int) % 9 + 1)]]), .tup w.b.ds]] om =
        .ok (if (p.2 : Int) % 9 + 1 = p.2 then [] else [.obj 0 [.int w.kinds, .tup (vs'.map vD ++ [.tup [.str p.1, .int ((p.2 : Int) % 9 + 1)]]), .tup w.b.ds]]) om := by
      rw [c_cons]
      simp only [List.set_cons_succ, List.set_cons_zero]
      rw [r_cm, r_fld, r_v rfl, r_fldo rfl, r_cm1, r_ix, r_v rfl, r_ix1, r_k, r_ix2, wx1, r_cm2, hne, r_bl, r_tr1]
      by_cases hz : (p.2 : Int) % 9 + 1 = p.2
      · rw [decide_eq_true hz, if_pos hz]
        rfl
      · rw [decide_eq_false hz, if_neg hz]
        show kC _ (.ok true om) _ _ _ _ _ _ = _
        rw [c_t, r_v rfl, c_2, c_nil, c_3]
    have p3 := part3 (sc0 := sc0) (c6 := c6) (c7 := c7) (c8 := .val w2.d) (w := w) (om := om) (us := .obj 0 [.int ((w.kinds : Int) % 4 + 1), .tup (w.vs.map vD), .tup w.b.ds] :: ((if (p.2 : Int) % 9 + 1 = p.2 then [] else [.obj 0 [.int w.kinds, .tup (vs'.map vD ++ [.tup [.str p.1, .int ((p.2 : Int) % 9 + 1)]]), .tup w.b.ds]]) ++ [.obj 0 [.int w.kinds, .tup (w.vs.map vD), .tup (w.b.ds ++ [.tup [.str (st "tell"), .tup [.str (st "number"), .int 1]]])]])) (by split <;> simp) (fun u hu => by
      simp only [List.mem_cons, List.mem_append, List.not_mem_nil, or_false] at hu
      rcases hu with rfl | hu | rfl
      · exact u1
      · split at hu
        · cases hu
        · rename_i hz
          rw [List.mem_singleton] at hu
          subst hu
          constructor
          · rw [o_eqW (n := 16) (by decide) (by decide) hv fq2.2 hb hb, qp, decide_eq_false (show ¬ ((p.2 : Int) = (p.2 : Int) % 9 + 1) from fun e => hz e.symm), Bool.and_false, Bool.false_and]
          · rw [o_eqW (n := 16) (by decide) (by decide) fq2.2 hv hb hb, pq, decide_eq_false hz, Bool.and_false, Bool.false_and]
      · exact u3)
    rw [← p3]
    by_cases hz : (p.2 : Int) % 9 + 1 = p.2
    · simp only [if_pos hz] at hcg ⊢
      simp [dropS, B_law, wx0, wx1, wx2, iO, nf0, q1, q2, q3, hpos, hbl, cl, ixl, hl3, ct1, ct2, hcg]
      done
    · simp only [if_neg hz] at hcg ⊢
      simp [dropS, B_law, wx0, wx1, wx2, iO, nf0, q1, q2, q3, hpos, hbl, cl, ixl, hl3, ct1, ct2, hcg]
      done
end
theorem law_true (ns : List Int) (hl : ns.length ≤ 63) (hb : ∀ z ∈ ns, Builtin.Int.intBits z ≤ 1048576) : ∃ wf om', callN prog wf 100 30 [.scr (ns.map D.int)] [] = .ok (.bl true) om' := by
  obtain ⟨w, w2, c6, c7, om, hw, hw2, e⟩ := part1 hl
  refine ⟨300, om, call_ret (d := ⟨1, 10, B_law, none⟩) rfl rfl rfl ?_⟩
  have hs : slots ⟨1, 10, B_law, none⟩ [.scr (ns.map D.int)] = [.val (.scr (ns.map D.int)), .no, .no, .no, .no, .no, .no, .no, .no, .no] := rfl
  rw [hs, e]
  exact part2 hw hw2
end K01

set_option Elab.async false
set_option linter.all false
set_option maxRecDepth 100000
set_option maxHeartbeats 4000000
namespace K01
open PySem PySem.Spec PyProof.Rows L2 PD
section
variable {P : Program} {w : World} {K : PySem.W.Frag} {mg : Str → Option Value} {base : Heap} {ca : Nat → Addr} {fi : Nat → FI}
/-- where each def stands in the text -/
structure Deft (K : PySem.W.Frag) (fi : Nat → FI) : Prop where
  f0 : FunA K "is_name" "is_name" s_is_name (fi 0).addr (fi 0).fd
  p0 : (fi 0).ps = (["word"] : List Str)
  f1 : FunA K "number_of" "number_of" s_number_of (fi 1).addr (fi 1).fd
  p1 : (fi 1).ps = (["word"] : List Str)
  f2 : FunA K "__init__" "Watcher.__init__" s_Watcher_init (fi 2).addr (fi 2).fd
  p2 : (fi 2).ps = (["self", "kinds", "variables", "block"] : List Str)
  f3 : FunA K "__eq__" "Watcher.__eq__" s_Watcher_eq (fi 3).addr (fi 3).fd
  p3 : (fi 3).ps = (["self", "other"] : List Str)
  f4 : FunA K "__init__" "Reader.__init__" s_Reader_init (fi 4).addr (fi 4).fd
  p4 : (fi 4).ps = (["self", "text"] : List Str)
  f5 : FunA K "word" "Reader.word" s_Reader_word (fi 5).addr (fi 5).fd
  p5 : (fi 5).ps = (["self"] : List Str)
  f6 : FunA K "pass_word" "Reader.pass_word" s_Reader_pass_word (fi 6).addr (fi 6).fd
  p6 : (fi 6).ps = (["self", "allowed"] : List Str)
  f7 : FunA K "pass_number" "Reader.pass_number" s_Reader_pass_number (fi 7).addr (fi 7).fd
  p7 : (fi 7).ps = (["self", "least", "most"] : List Str)
  f8 : FunA K "watcher" "Reader.watcher" s_Reader_watcher (fi 8).addr (fi 8).fd
  p8 : (fi 8).ps = (["self"] : List Str)
  f9 : FunA K "block" "Reader.block" s_Reader_block (fi 9).addr (fi 9).fd
  p9 : (fi 9).ps = (["self", "room"] : List Str)
  f10 : FunA K "begins" "Reader.begins" s_Reader_begins (fi 10).addr (fi 10).fd
  p10 : (fi 10).ps = (["self", "room"] : List Str)
  f11 : FunA K "statement" "Reader.statement" s_Reader_statement (fi 11).addr (fi 11).fd
  p11 : (fi 11).ps = (["self", "room"] : List Str)
  f12 : FunA K "expression" "Reader.expression" s_Reader_expression (fi 12).addr (fi 12).fd
  p12 : (fi 12).ps = (["self", "room"] : List Str)
  f13 : FunA K "read_watcher" "read_watcher" s_read_watcher (fi 13).addr (fi 13).fd
  p13 : (fi 13).ps = (["text"] : List Str)
  f14 : FunA K "value_words" "value_words" s_value_words (fi 14).addr (fi 14).fd
  p14 : (fi 14).ps = (["expression"] : List Str)
  f15 : FunA K "block_words" "block_words" s_block_words (fi 15).addr (fi 15).fd
  p15 : (fi 15).ps = (["block"] : List Str)
  f16 : FunA K "watcher_text" "watcher_text" s_watcher_text (fi 16).addr (fi 16).fd
  p16 : (fi 16).ps = (["watcher"] : List Str)
  f17 : FunA K "_law_pool" "_law_pool" s_Lpool (fi 17).addr (fi 17).fd
  p17 : (fi 17).ps = (["_law_script", "_law_budget"] : List Str)
  f18 : FunA K "_law_draw" "_law_draw" s_Ldraw (fi 18).addr (fi 18).fd
  p18 : (fi 18).ps = (["_law_pool_here", "_law_size"] : List Str)
  f19 : FunA K "_law_spend" "_law_spend" s_Lspend (fi 19).addr (fi 19).fd
  p19 : (fi 19).ps = (["_law_pool_here"] : List Str)
  f20 : FunA K "_law_number" "_law_number" s_Lnumber (fi 20).addr (fi 20).fd
  p20 : (fi 20).ps = (["_law_pool_here"] : List Str)
  f21 : FunA K "_law_same" "_law_same" s_Lsame (fi 21).addr (fi 21).fd
  p21 : (fi 21).ps = (["_law_actual", "_law_due"] : List Str)
  f22 : FunA K "_law_value" "_law_value" s_Lvalue (fi 22).addr (fi 22).fd
  p22 : (fi 22).ps = (["_law_pool_here", "_law_names_here", "_law_deep"] : List Str)
  f23 : FunA K "_law_statement" "_law_statement" s_Lstatement (fi 23).addr (fi 23).fd
  p23 : (fi 23).ps = (["_law_pool_here", "_law_scope", "_law_room"] : List Str)
  f24 : FunA K "_law_block" "_law_block" s_Lblock (fi 24).addr (fi 24).fd
  p24 : (fi 24).ps = (["_law_pool_here", "_law_scope", "_law_room", "_law_most"] : List Str)
  f25 : FunA K "_law_names" "_law_names" s_Lnames (fi 25).addr (fi 25).fd
  p25 : (fi 25).ps = (["_law_pool_here", "_law_count"] : List Str)
  f26 : FunA K "_law_watcher" "_law_watcher" s_Lwatcher (fi 26).addr (fi 26).fd
  p26 : (fi 26).ps = (["_law_pool_here", "_law_draws", "_law_most"] : List Str)
  f27 : FunA K "_law_value_words" "_law_value_words" s_Lvalue_words (fi 27).addr (fi 27).fd
  p27 : (fi 27).ps = (["_law_due"] : List Str)
  f28 : FunA K "_law_block_words" "_law_block_words" s_Lblock_words (fi 28).addr (fi 28).fd
  p28 : (fi 28).ps = (["_law_block_here"] : List Str)
  f29 : FunA K "_law_words" "_law_words" s_Lwords (fi 29).addr (fi 29).fd
  p29 : (fi 29).ps = (["_law_watcher_here"] : List Str)
  f30 : FunA K "law" "law" s_law (fi 30).addr (fi 30).fd
  p30 : (fi 30).ps = (["_law_script"] : List Str)
theorem link (Tx : Txt K mg ca fi) (Dx : Deft K fi) : ∀ n, Lnk P w K mg base (lk ca) prog fi n
  | 0 => {
      fn := fun f d _ _ => fn_zero spD_zero
      ini := fun f d c _ _ => fn_zero spI_zero
      nf := nf_ok ca
      opm := opm_ok Tx
      eqm := eqm_ok Tx
      strm := strm_ok Tx }
  | n + 1 => by
    have hL := link Tx Dx n
    exact {
      nf := nf_ok ca
      opm := opm_ok Tx
      eqm := eqm_ok Tx
      strm := strm_ok Tx
      fn := fun f d h hc => by
        match f, h with
        | 0, h => cases h; rw [Dx.p0]; exact fn_ok (N := (["word", "char"] : List Str)) Dx.f0 sc_is_name rfl rfl rfl rfl (by decide) fun wf cdv A outer s H E hr => b_is_name hL Tx hr
        | 1, h => cases h; rw [Dx.p1]; exact fn_ok (N := (["word", "char", "number"] : List Str)) Dx.f1 sc_number_of rfl rfl rfl rfl (by decide) fun wf cdv A outer s H E hr => b_number_of hL Tx hr
        | 2, h => cases h; cases hc
        | 3, h => cases h; rw [Dx.p3]; exact fn_ok (N := (["self", "other"] : List Str)) Dx.f3 sc_Watcher_eq rfl rfl rfl rfl (by decide) fun wf cdv A outer s H E hr => b_Watcher_eq hL Tx hr
        | 4, h => cases h; rw [Dx.p4]; exact fn_ok (N := (["self", "text"] : List Str)) Dx.f4 sc_Reader_init rfl rfl rfl rfl (by decide) fun wf cdv A outer s H E hr => b_Reader_init hL Tx hr
        | 5, h => cases h; rw [Dx.p5]; exact fn_ok (N := (["self"] : List Str)) Dx.f5 sc_Reader_word rfl rfl rfl rfl (by decide) fun wf cdv A outer s H E hr => b_Reader_word hL Tx hr
        | 6, h => cases h; rw [Dx.p6]; exact fn_ok (N := (["self", "allowed", "word"] : List Str)) Dx.f6 sc_Reader_pass_word rfl rfl rfl rfl (by decide) fun wf cdv A outer s H E hr => b_Reader_pass_word hL Tx hr
        | 7, h => cases h; rw [Dx.p7]; exact fn_ok (N := (["self", "least", "most", "number"] : List Str)) Dx.f7 sc_Reader_pass_number rfl rfl rfl rfl (by decide) fun wf cdv A outer s H E hr => b_Reader_pass_number hL Tx hr
        | 8, h => cases h; rw [Dx.p8]; exact fn_ok (N := (["self", "kinds", "variables", "name", "block"] : List Str)) Dx.f8 sc_Reader_watcher rfl rfl rfl rfl (by decide) fun wf cdv A outer s H E hr => b_Reader_watcher hL Tx hr
        | 9, h => cases h; rw [Dx.p9]; exact fn_ok (N := (["self", "room", "rows"] : List Str)) Dx.f9 sc_Reader_block rfl rfl rfl rfl (by decide) fun wf cdv A outer s H E hr => b_Reader_block hL Tx hr
        | 10, h => cases h; rw [Dx.p10]; exact fn_ok (N := (["self", "room", "word"] : List Str)) Dx.f10 sc_Reader_begins rfl rfl rfl rfl (by decide) fun wf cdv A outer s H E hr => b_Reader_begins hL Tx hr
        | 11, h => cases h; rw [Dx.p11]; exact fn_ok (N := (["self", "room", "word", "test", "then", "other"] : List Str)) Dx.f11 sc_Reader_statement rfl rfl rfl rfl (by decide) fun wf cdv A outer s H E hr => b_Reader_statement hL Tx hr
        | 12, h => cases h; rw [Dx.p12]; exact fn_ok (N := (["self", "room", "word", "left"] : List Str)) Dx.f12 sc_Reader_expression rfl rfl rfl rfl (by decide) fun wf cdv A outer s H E hr => b_Reader_expression hL Tx hr
        | 13, h => cases h; rw [Dx.p13]; exact fn_ok (N := (["text"] : List Str)) Dx.f13 sc_read_watcher rfl rfl rfl rfl (by decide) fun wf cdv A outer s H E hr => b_read_watcher hL Tx hr
        | 14, h => cases h; rw [Dx.p14]; exact fn_ok (N := (["expression"] : List Str)) Dx.f14 sc_value_words rfl rfl rfl rfl (by decide) fun wf cdv A outer s H E hr => b_value_words hL Tx hr
        | 15, h => cases h; rw [Dx.p15]; exact fn_ok (N := (["block", "words", "row"] : List Str)) Dx.f15 sc_block_words rfl rfl rfl rfl (by decide) fun wf cdv A outer s H E hr => b_block_words hL Tx hr
        | 16, h => cases h; rw [Dx.p16]; exact fn_ok (N := (["watcher", "words", "name", "size"] : List Str)) Dx.f16 sc_watcher_text rfl rfl rfl rfl (by decide) fun wf cdv A outer s H E hr => b_watcher_text hL Tx hr
        | 17, h => cases h; rw [Dx.p17]; exact fn_ok (N := (["_law_script", "_law_budget"] : List Str)) Dx.f17 sc_Lpool rfl rfl rfl rfl (by decide) fun wf cdv A outer s H E hr => b_Lpool hL Tx hr
        | 18, h => cases h; rw [Dx.p18]; exact fn_ok (N := (["_law_pool_here", "_law_size", "_law_cell", "_law_value_here"] : List Str)) Dx.f18 sc_Ldraw rfl rfl rfl rfl (by decide) fun wf cdv A outer s H E hr => b_Ldraw hL Tx hr
        | 19, h => cases h; rw [Dx.p19]; exact fn_ok (N := (["_law_pool_here"] : List Str)) Dx.f19 sc_Lspend rfl rfl rfl rfl (by decide) fun wf cdv A outer s H E hr => b_Lspend hL Tx hr
        | 20, h => cases h; rw [Dx.p20]; exact fn_ok (N := (["_law_pool_here"] : List Str)) Dx.f20 sc_Lnumber rfl rfl rfl rfl (by decide) fun wf cdv A outer s H E hr => b_Lnumber hL Tx hr
        | 21, h => cases h; rw [Dx.p21]; exact fn_ok (N := (["_law_actual", "_law_due", "_law_k"] : List Str)) Dx.f21 sc_Lsame rfl rfl rfl rfl (by decide) fun wf cdv A outer s H E hr => b_Lsame hL Tx hr
        | 22, h => cases h; rw [Dx.p22]; exact fn_ok (N := (["_law_pool_here", "_law_names_here", "_law_deep", "_law_kind", "_law_sign", "_law_left"] : List Str)) Dx.f22 sc_Lvalue rfl rfl rfl rfl (by decide) fun wf cdv A outer s H E hr => b_Lvalue hL Tx hr
        | 23, h => cases h; rw [Dx.p23]; exact fn_ok (N := (["_law_pool_here", "_law_scope", "_law_room", "_law_kind", "_law_names_here", "_law_test", "_law_then"] : List Str)) Dx.f23 sc_Lstatement rfl rfl rfl rfl (by decide) fun wf cdv A outer s H E hr => b_Lstatement hL Tx hr
        | 24, h => cases h; rw [Dx.p24]; exact fn_ok (N := (["_law_pool_here", "_law_scope", "_law_room", "_law_most", "_law_block_here", "_law_k"] : List Str)) Dx.f24 sc_Lblock rfl rfl rfl rfl (by decide) fun wf cdv A outer s H E hr => b_Lblock hL Tx hr
        | 25, h => cases h; rw [Dx.p25]; exact fn_ok (N := (["_law_pool_here", "_law_count", "_law_names_here", "_law_k", "_law_name", "_law_turn", "_law_other"] : List Str)) Dx.f25 sc_Lnames rfl rfl rfl rfl (by decide) fun wf cdv A outer s H E hr => b_Lnames hL Tx hr
        | 26, h => cases h; rw [Dx.p26]; exact fn_ok (N := (["_law_pool_here", "_law_draws", "_law_most", "_law_variables", "_law_names_here", "_law_k", "_law_scope", "_law_row", "_law_kinds", "_law_block_here", "_law_more"] : List Str)) Dx.f26 sc_Lwatcher rfl rfl rfl rfl (by decide) fun wf cdv A outer s H E hr => b_Lwatcher hL Tx hr
        | 27, h => cases h; rw [Dx.p27]; exact fn_ok (N := (["_law_due"] : List Str)) Dx.f27 sc_Lvalue_words rfl rfl rfl rfl (by decide) fun wf cdv A outer s H E hr => b_Lvalue_words hL Tx hr
        | 28, h => cases h; rw [Dx.p28]; exact fn_ok (N := (["_law_block_here", "_law_words_here", "_law_due"] : List Str)) Dx.f28 sc_Lblock_words rfl rfl rfl rfl (by decide) fun wf cdv A outer s H E hr => b_Lblock_words hL Tx hr
        | 29, h => cases h; rw [Dx.p29]; exact fn_ok (N := (["_law_watcher_here", "_law_words_here", "_law_name", "_law_size"] : List Str)) Dx.f29 sc_Lwords rfl rfl rfl rfl (by decide) fun wf cdv A outer s H E hr => b_Lwords hL Tx hr
        | 30, h => cases h; rw [Dx.p30]; exact fn_ok (N := (["_law_script", "_law_pool_here", "_law_data", "_law_text", "_law_actual", "_law_made", "_law_lists", "_law_kept", "_law_other", "_law_unlike"] : List Str)) Dx.f30 sc_law rfl rfl rfl rfl (by decide) fun wf cdv A outer s H E hr => b_law hL Tx hr
        | k + 31, h => exact nomatch (show (none : Option Def) = some d from h)
      ini := fun f d c h hc => by
        match f, h with
        | 0, h => cases h; cases hc
        | 1, h => cases h; cases hc
        | 2, h => cases h; cases hc; rw [Dx.p2]; exact fnI_ok (N := (["self", "kinds", "variables", "block"] : List Str)) Dx.f2 sc_Watcher_init rfl rfl rfl rfl (by decide) fun wf cdv A outer s H E hr => b_Watcher_init hL Tx hr
        | 3, h => cases h; cases hc
        | 4, h => cases h; cases hc
        | 5, h => cases h; cases hc
        | 6, h => cases h; cases hc
        | 7, h => cases h; cases hc
        | 8, h => cases h; cases hc
        | 9, h => cases h; cases hc
        | 10, h => cases h; cases hc
        | 11, h => cases h; cases hc
        | 12, h => cases h; cases hc
        | 13, h => cases h; cases hc
        | 14, h => cases h; cases hc
        | 15, h => cases h; cases hc
        | 16, h => cases h; cases hc
        | 17, h => cases h; cases hc
        | 18, h => cases h; cases hc
        | 19, h => cases h; cases hc
        | 20, h => cases h; cases hc
        | 21, h => cases h; cases hc
        | 22, h => cases h; cases hc
        | 23, h => cases h; cases hc
        | 24, h => cases h; cases hc
        | 25, h => cases h; cases hc
        | 26, h => cases h; cases hc
        | 27, h => cases h; cases hc
        | 28, h => cases h; cases hc
        | 29, h => cases h; cases hc
        | 30, h => cases h; cases hc
        | k + 31, h => exact nomatch (show (none : Option Def) = some d from h) }
/-- law's: a list of at most 63 ints of at most 2^20 bits is handed in, True comes out -/
def spLaw (K : PySem.W.Frag) : Sp := fun vs H Q _ => ∃ (a : Addr) (ns : List Int), vs = [.ref a] ∧ SqL K H a (ns.map V.int) ∧ ns.length ≤ 63 ∧ (∀ z ∈ ns, Builtin.Int.intBits z ≤ 1048576) ∧ ∀ H', Q (.bl true) H'
theorem ints_rep {L : Lk} {G : Hp} {am : List Addr} : ∀ ns : List Int, RepL K L G am (ns.map D.int) (ns.map V.int)
  | [] => .nil
  | n :: ns => .cons (.int n) (ints_rep ns)
theorem law_sp {L : Lk} (vs : List V) (H : Hp) (Q : VK) (E : XK) (h : spLaw K vs H Q E) : spD K L prog 100 30 vs H Q E := by
  obtain ⟨a, ns, rfl, hS, hl, hb, k⟩ := h
  obtain ⟨wf, om', e⟩ := law_true ns hl hb
  have M : Mem K L (fun _ => none) H [] [] H := { gH := fun _ _ h => h, fH := fun _ _ h => (nomatch h), fg := fun _ _ h => (nomatch h), len := rfl, obs := fun _ _ _ h => (nomatch h), nd := List.nodup_nil, ag := fun _ h => (nomatch h), af := fun _ h => (nomatch h) }
  refine ⟨wf, fun _ => none, H, [], [], [.scr (ns.map D.int)], M, .cons (.scr hS (ints_rep ns)) .nil, ⟨_, rfl, rfl⟩, ?_⟩
  rw [if_neg (by decide), e]
  intro v H' G' am' g M r
  cases r
  exact k H'
end
theorem all_mk {P : Program} {w : World} {K : PySem.W.Frag} {h : Heap} {mg : Str → Option Value} {fa C0 C1 f0 f1 f2 f3 f4 f5 f6 f7 f8 f9 f10 f11 f12 f13 f14 f15 f16 f17 f18 f19 f20 f21 f22 f23 f24 f25 f26 f27 f28 f29 f30 : Addr} (X : K.In h) (G : h.Ns mainGlobals mg) (hfa : mg "law" = some (.ref fa))
    {od0 an0 : Option Addr} {sl0 : Array (Option Value)} {oc0 kV0 dc0 pm0 cd0 ct0 : Value} {od1 an1 : Option Addr} {sl1 : Array (Option Value)} {oc1 kV1 dc1 pm1 cd1 ct1 : Value} {od2 an2 : Option Addr} {sl2 : Array (Option Value)} {oc2 kV2 dc2 pm2 cd2 ct2 : Value} {od3 an3 : Option Addr} {sl3 : Array (Option Value)} {oc3 kV3 dc3 pm3 cd3 ct3 : Value} {od4 an4 : Option Addr} {sl4 : Array (Option Value)} {oc4 kV4 dc4 pm4 cd4 ct4 : Value} {od5 an5 : Option Addr} {sl5 : Array (Option Value)} {oc5 kV5 dc5 pm5 cd5 ct5 : Value} {od6 an6 : Option Addr} {sl6 : Array (Option Value)} {oc6 kV6 dc6 pm6 cd6 ct6 : Value} {od7 an7 : Option Addr} {sl7 : Array (Option Value)} {oc7 kV7 dc7 pm7 cd7 ct7 : Value} {od8 an8 : Option Addr} {sl8 : Array (Option Value)} {oc8 kV8 dc8 pm8 cd8 ct8 : Value} {od9 an9 : Option Addr} {sl9 : Array (Option Value)} {oc9 kV9 dc9 pm9 cd9 ct9 : Value} {od10 an10 : Option Addr} {sl10 : Array (Option Value)} {oc10 kV10 dc10 pm10 cd10 ct10 : Value} {od11 an11 : Option Addr} {sl11 : Array (Option Value)} {oc11 kV11 dc11 pm11 cd11 ct11 : Value} {od12 an12 : Option Addr} {sl12 : Array (Option Value)} {oc12 kV12 dc12 pm12 cd12 ct12 : Value} {od13 an13 : Option Addr} {sl13 : Array (Option Value)} {oc13 kV13 dc13 pm13 cd13 ct13 : Value} {od14 an14 : Option Addr} {sl14 : Array (Option Value)} {oc14 kV14 dc14 pm14 cd14 ct14 : Value} {od15 an15 : Option Addr} {sl15 : Array (Option Value)} {oc15 kV15 dc15 pm15 cd15 ct15 : Value} {od16 an16 : Option Addr} {sl16 : Array (Option Value)} {oc16 kV16 dc16 pm16 cd16 ct16 : Value} {od17 an17 : Option Addr} {sl17 : Array (Option Value)} {oc17 kV17 dc17 pm17 cd17 ct17 : Value} {od18 an18 : Option Addr} {sl18 : Array (Option Value)} {oc18 kV18 dc18 pm18 cd18 ct18 : Value} {od19 an19 : Option Addr} {sl19 : Array (Option Value)} {oc19 kV19 dc19 pm19 cd19 ct19 : Value} {od20 an20 : Option Addr} {sl20 : Array (Option Value)} {oc20 kV20 dc20 pm20 cd20 ct20 : Value} {od21 an21 : Option Addr} {sl21 : Array (Option Value)} {oc21 kV21 dc21 pm21 cd21 ct21 : Value} {od22 an22 : Option Addr} {sl22 : Array (Option Value)} {oc22 kV22 dc22 pm22 cd22 ct22 : Value} {od23 an23 : Option Addr} {sl23 : Array (Option Value)} {oc23 kV23 dc23 pm23 cd23 ct23 : Value} {od24 an24 : Option Addr} {sl24 : Array (Option Value)} {oc24 kV24 dc24 pm24 cd24 ct24 : Value} {od25 an25 : Option Addr} {sl25 : Array (Option Value)} {oc25 kV25 dc25 pm25 cd25 ct25 : Value} {od26 an26 : Option Addr} {sl26 : Array (Option Value)} {oc26 kV26 dc26 pm26 cd26 ct26 : Value} {od27 an27 : Option Addr} {sl27 : Array (Option Value)} {oc27 kV27 dc27 pm27 cd27 ct27 : Value} {od28 an28 : Option Addr} {sl28 : Array (Option Value)} {oc28 kV28 dc28 pm28 cd28 ct28 : Value} {od29 an29 : Option Addr} {sl29 : Array (Option Value)} {oc29 kV29 dc29 pm29 cd29 ct29 : Value} {od30 an30 : Option Addr} {sl30 : Array (Option Value)} {oc30 kV30 dc30 pm30 cd30 ct30 : Value} {K_KEYS : Addr} {oK_KEYS : Obj} {nK_KEYS : Nat} {tK_KEYS_0 tK_KEYS_1 tK_KEYS_2 tK_KEYS_3 tK_KEYS_4 tK_KEYS_5 tK_KEYS_6 tK_KEYS_7 tK_KEYS_8 tK_KEYS_9 : Tok} {K_SIGNS : Addr} {oK_SIGNS : Obj} {nK_SIGNS : Nat} {tK_SIGNS_0 tK_SIGNS_1 tK_SIGNS_2 tK_SIGNS_3 tK_SIGNS_4 tK_SIGNS_5 tK_SIGNS_6 : Tok}  {t_GREATEST : Tok} {t_MOST_KINDS : Tok} {t_MOST_NAMES : Tok} {t_MOST_PARTS : Tok} {t_MOST_DRAWS : Tok} {t_DEEPEST : Tok} {t_DEEPEST_IF : Tok}
    (aC0 : PySem.W.nsIn K mainGlobals "Watcher" = some (some (.ref C0)))
    (pg0 : PySem.W.plainGet K C0 Str.empty = true)
    (hd0 : PySem.W.hasDictIn K C0 = true)
    (po0 : PySem.W.plainOver K C0 = true)
    (sa0 : PySem.W.findIn K (.ref C0) "__setattr__" = some (some (.builtin "object.__setattr__")))
    (mk0 : PySem.W.makesIn K C0 = true)
    (kc0 : PySem.W.keepIn K (.ref C0) = true)
    (nf0_0 : PySem.W.findIn K (.ref C0) "kinds" = some none)
    (nf0_1 : PySem.W.findIn K (.ref C0) "variables" = some none)
    (nf0_2 : PySem.W.findIn K (.ref C0) "block" = some none)
    (ha0 : PySem.W.findIn K (.ref C0) "__class__" = some (some (.builtin "object.__class__")))
    (hm0 : PySem.W.mroIn K C0 (.type "object") = some true)
    (kt0 : PySem.W.kitOne K (.ref C0) (.ref C0) = some true)
    (aC1 : PySem.W.nsIn K mainGlobals "Reader" = some (some (.ref C1)))
    (pg1 : PySem.W.plainGet K C1 Str.empty = true)
    (hd1 : PySem.W.hasDictIn K C1 = true)
    (po1 : PySem.W.plainOver K C1 = true)
    (sa1 : PySem.W.findIn K (.ref C1) "__setattr__" = some (some (.builtin "object.__setattr__")))
    (mk1 : PySem.W.makesIn K C1 = true)
    (kc1 : PySem.W.keepIn K (.ref C1) = true)
    (nf1_0 : PySem.W.findIn K (.ref C1) "words" = some none)
    (nf1_1 : PySem.W.findIn K (.ref C1) "at" = some none)
    (nf1_2 : PySem.W.findIn K (.ref C1) "names" = some none)
    (nf1_3 : PySem.W.findIn K (.ref C1) "draws" = some none)
    (nt0 : PySem.W.notFirst K C0 (.ref C0) = true)
    (hn : PySem.W.specialIn K (.builtin "object.__class__") "__get__" = some (some (.builtin "getset_descriptor.__get__")))
    (ht : PySem.W.takesIn K (.builtin "object.__class__") = some true)
    (a0 : PySem.W.nsIn K mainGlobals "is_name" = some (some (.ref f0)))
    (l0 : K.lookup f0 = some ⟨oc0, od0, .func (PySem.W.fnOf "is_name" "is_name" (defArgs s_is_name) (defBody s_is_name) (defScope s_is_name) .none kV0 dc0 pm0 an0 cd0 ct0), sl0⟩)
    (c0 : PySem.W.codeIn K cd0 "is_name" = true)
    (k0 : PySem.W.keepIn K (.ref f0) = true)
    (a1 : PySem.W.nsIn K mainGlobals "number_of" = some (some (.ref f1)))
    (l1 : K.lookup f1 = some ⟨oc1, od1, .func (PySem.W.fnOf "number_of" "number_of" (defArgs s_number_of) (defBody s_number_of) (defScope s_number_of) .none kV1 dc1 pm1 an1 cd1 ct1), sl1⟩)
    (c1 : PySem.W.codeIn K cd1 "number_of" = true)
    (k1 : PySem.W.keepIn K (.ref f1) = true)
    (a2 : PySem.W.findIn K (.ref C0) "__init__" = some (some (.ref f2)))
    (i2 : PySem.W.isFn K (.ref f2) = true)
    (l2 : K.lookup f2 = some ⟨oc2, od2, .func (PySem.W.fnOf "__init__" "Watcher.__init__" (defArgs s_Watcher_init) (defBody s_Watcher_init) (defScope s_Watcher_init) .none kV2 dc2 pm2 an2 cd2 ct2), sl2⟩)
    (c2 : PySem.W.codeIn K cd2 "Watcher.__init__" = true)
    (k2 : PySem.W.keepIn K (.ref f2) = true)
    (a3 : PySem.W.findIn K (.ref C0) "__eq__" = some (some (.ref f3)))
    (i3 : PySem.W.isFn K (.ref f3) = true)
    (l3 : K.lookup f3 = some ⟨oc3, od3, .func (PySem.W.fnOf "__eq__" "Watcher.__eq__" (defArgs s_Watcher_eq) (defBody s_Watcher_eq) (defScope s_Watcher_eq) .none kV3 dc3 pm3 an3 cd3 ct3), sl3⟩)
    (c3 : PySem.W.codeIn K cd3 "Watcher.__eq__" = true)
    (k3 : PySem.W.keepIn K (.ref f3) = true)
    (a4 : PySem.W.findIn K (.ref C1) "__init__" = some (some (.ref f4)))
    (i4 : PySem.W.isFn K (.ref f4) = true)
    (l4 : K.lookup f4 = some ⟨oc4, od4, .func (PySem.W.fnOf "__init__" "Reader.__init__" (defArgs s_Reader_init) (defBody s_Reader_init) (defScope s_Reader_init) .none kV4 dc4 pm4 an4 cd4 ct4), sl4⟩)
    (c4 : PySem.W.codeIn K cd4 "Reader.__init__" = true)
    (k4 : PySem.W.keepIn K (.ref f4) = true)
    (a5 : PySem.W.findIn K (.ref C1) "word" = some (some (.ref f5)))
    (i5 : PySem.W.isFn K (.ref f5) = true)
    (l5 : K.lookup f5 = some ⟨oc5, od5, .func (PySem.W.fnOf "word" "Reader.word" (defArgs s_Reader_word) (defBody s_Reader_word) (defScope s_Reader_word) .none kV5 dc5 pm5 an5 cd5 ct5), sl5⟩)
    (c5 : PySem.W.codeIn K cd5 "Reader.word" = true)
    (k5 : PySem.W.keepIn K (.ref f5) = true)
    (a6 : PySem.W.findIn K (.ref C1) "pass_word" = some (some (.ref f6)))
    (i6 : PySem.W.isFn K (.ref f6) = true)
    (l6 : K.lookup f6 = some ⟨oc6, od6, .func (PySem.W.fnOf "pass_word" "Reader.pass_word" (defArgs s_Reader_pass_word) (defBody s_Reader_pass_word) (defScope s_Reader_pass_word) .none kV6 dc6 pm6 an6 cd6 ct6), sl6⟩)
    (c6 : PySem.W.codeIn K cd6 "Reader.pass_word" = true)
    (k6 : PySem.W.keepIn K (.ref f6) = true)
    (a7 : PySem.W.findIn K (.ref C1) "pass_number" = some (some (.ref f7)))
    (i7 : PySem.W.isFn K (.ref f7) = true)
    (l7 : K.lookup f7 = some ⟨oc7, od7, .func (PySem.W.fnOf "pass_number" "Reader.pass_number" (defArgs s_Reader_pass_number) (defBody s_Reader_pass_number) (defScope s_Reader_pass_number) .none kV7 dc7 pm7 an7 cd7 ct7), sl7⟩)
    (c7 : PySem.W.codeIn K cd7 "Reader.pass_number" = true)
    (k7 : PySem.W.keepIn K (.ref f7) = true)
    (a8 : PySem.W.findIn K (.ref C1) "watcher" = some (some (.ref f8)))
    (i8 : PySem.W.isFn K (.ref f8) = true)
    (l8 : K.lookup f8 = some ⟨oc8, od8, .func (PySem.W.fnOf "watcher" "Reader.watcher" (defArgs s_Reader_watcher) (defBody s_Reader_watcher) (defScope s_Reader_watcher) .none kV8 dc8 pm8 an8 cd8 ct8), sl8⟩)
    (c8 : PySem.W.codeIn K cd8 "Reader.watcher" = true)
    (k8 : PySem.W.keepIn K (.ref f8) = true)
    (a9 : PySem.W.findIn K (.ref C1) "block" = some (some (.ref f9)))
    (i9 : PySem.W.isFn K (.ref f9) = true)
    (l9 : K.lookup f9 = some ⟨oc9, od9, .func (PySem.W.fnOf "block" "Reader.block" (defArgs s_Reader_block) (defBody s_Reader_block) (defScope s_Reader_block) .none kV9 dc9 pm9 an9 cd9 ct9), sl9⟩)
    (c9 : PySem.W.codeIn K cd9 "Reader.block" = true)
    (k9 : PySem.W.keepIn K (.ref f9) = true)
    (a10 : PySem.W.findIn K (.ref C1) "begins" = some (some (.ref f10)))
    (i10 : PySem.W.isFn K (.ref f10) = true)
    (l10 : K.lookup f10 = some ⟨oc10, od10, .func (PySem.W.fnOf "begins" "Reader.begins" (defArgs s_Reader_begins) (defBody s_Reader_begins) (defScope s_Reader_begins) .none kV10 dc10 pm10 an10 cd10 ct10), sl10⟩)
    (c10 : PySem.W.codeIn K cd10 "Reader.begins" = true)
    (k10 : PySem.W.keepIn K (.ref f10) = true)
    (a11 : PySem.W.findIn K (.ref C1) "statement" = some (some (.ref f11)))
    (i11 : PySem.W.isFn K (.ref f11) = true)
    (l11 : K.lookup f11 = some ⟨oc11, od11, .func (PySem.W.fnOf "statement" "Reader.statement" (defArgs s_Reader_statement) (defBody s_Reader_statement) (defScope s_Reader_statement) .none kV11 dc11 pm11 an11 cd11 ct11), sl11⟩)
    (c11 : PySem.W.codeIn K cd11 "Reader.statement" = true)
    (k11 : PySem.W.keepIn K (.ref f11) = true)
    (a12 : PySem.W.findIn K (.ref C1) "expression" = some (some (.ref f12)))
    (i12 : PySem.W.isFn K (.ref f12) = true)
    (l12 : K.lookup f12 = some ⟨oc12, od12, .func (PySem.W.fnOf "expression" "Reader.expression" (defArgs s_Reader_expression) (defBody s_Reader_expression) (defScope s_Reader_expression) .none kV12 dc12 pm12 an12 cd12 ct12), sl12⟩)
    (c12 : PySem.W.codeIn K cd12 "Reader.expression" = true)
    (k12 : PySem.W.keepIn K (.ref f12) = true)
    (a13 : PySem.W.nsIn K mainGlobals "read_watcher" = some (some (.ref f13)))
    (l13 : K.lookup f13 = some ⟨oc13, od13, .func (PySem.W.fnOf "read_watcher" "read_watcher" (defArgs s_read_watcher) (defBody s_read_watcher) (defScope s_read_watcher) .none kV13 dc13 pm13 an13 cd13 ct13), sl13⟩)
    (c13 : PySem.W.codeIn K cd13 "read_watcher" = true)
    (k13 : PySem.W.keepIn K (.ref f13) = true)
    (a14 : PySem.W.nsIn K mainGlobals "value_words" = some (some (.ref f14)))
    (l14 : K.lookup f14 = some ⟨oc14, od14, .func (PySem.W.fnOf "value_words" "value_words" (defArgs s_value_words) (defBody s_value_words) (defScope s_value_words) .none kV14 dc14 pm14 an14 cd14 ct14), sl14⟩)
    (c14 : PySem.W.codeIn K cd14 "value_words" = true)
    (k14 : PySem.W.keepIn K (.ref f14) = true)
    (a15 : PySem.W.nsIn K mainGlobals "block_words" = some (some (.ref f15)))
    (l15 : K.lookup f15 = some ⟨oc15, od15, .func (PySem.W.fnOf "block_words" "block_words" (defArgs s_block_words) (defBody s_block_words) (defScope s_block_words) .none kV15 dc15 pm15 an15 cd15 ct15), sl15⟩)
    (c15 : PySem.W.codeIn K cd15 "block_words" = true)
    (k15 : PySem.W.keepIn K (.ref f15) = true)
    (a16 : PySem.W.nsIn K mainGlobals "watcher_text" = some (some (.ref f16)))
    (l16 : K.lookup f16 = some ⟨oc16, od16, .func (PySem.W.fnOf "watcher_text" "watcher_text" (defArgs s_watcher_text) (defBody s_watcher_text) (defScope s_watcher_text) .none kV16 dc16 pm16 an16 cd16 ct16), sl16⟩)
    (c16 : PySem.W.codeIn K cd16 "watcher_text" = true)
    (k16 : PySem.W.keepIn K (.ref f16) = true)
    (a17 : PySem.W.nsIn K mainGlobals "_law_pool" = some (some (.ref f17)))
    (l17 : K.lookup f17 = some ⟨oc17, od17, .func (PySem.W.fnOf "_law_pool" "_law_pool" (defArgs s_Lpool) (defBody s_Lpool) (defScope s_Lpool) .none kV17 dc17 pm17 an17 cd17 ct17), sl17⟩)
    (c17 : PySem.W.codeIn K cd17 "_law_pool" = true)
    (k17 : PySem.W.keepIn K (.ref f17) = true)
    (a18 : PySem.W.nsIn K mainGlobals "_law_draw" = some (some (.ref f18)))
    (l18 : K.lookup f18 = some ⟨oc18, od18, .func (PySem.W.fnOf "_law_draw" "_law_draw" (defArgs s_Ldraw) (defBody s_Ldraw) (defScope s_Ldraw) .none kV18 dc18 pm18 an18 cd18 ct18), sl18⟩)
    (c18 : PySem.W.codeIn K cd18 "_law_draw" = true)
    (k18 : PySem.W.keepIn K (.ref f18) = true)
    (a19 : PySem.W.nsIn K mainGlobals "_law_spend" = some (some (.ref f19)))
    (l19 : K.lookup f19 = some ⟨oc19, od19, .func (PySem.W.fnOf "_law_spend" "_law_spend" (defArgs s_Lspend) (defBody s_Lspend) (defScope s_Lspend) .none kV19 dc19 pm19 an19 cd19 ct19), sl19⟩)
    (c19 : PySem.W.codeIn K cd19 "_law_spend" = true)
    (k19 : PySem.W.keepIn K (.ref f19) = true)
    (a20 : PySem.W.nsIn K mainGlobals "_law_number" = some (some (.ref f20)))
    (l20 : K.lookup f20 = some ⟨oc20, od20, .func (PySem.W.fnOf "_law_number" "_law_number" (defArgs s_Lnumber) (defBody s_Lnumber) (defScope s_Lnumber) .none kV20 dc20 pm20 an20 cd20 ct20), sl20⟩)
    (c20 : PySem.W.codeIn K cd20 "_law_number" = true)
    (k20 : PySem.W.keepIn K (.ref f20) = true)
    (a21 : PySem.W.nsIn K mainGlobals "_law_same" = some (some (.ref f21)))
    (l21 : K.lookup f21 = some ⟨oc21, od21, .func (PySem.W.fnOf "_law_same" "_law_same" (defArgs s_Lsame) (defBody s_Lsame) (defScope s_Lsame) .none kV21 dc21 pm21 an21 cd21 ct21), sl21⟩)
    (c21 : PySem.W.codeIn K cd21 "_law_same" = true)
    (k21 : PySem.W.keepIn K (.ref f21) = true)
    (a22 : PySem.W.nsIn K mainGlobals "_law_value" = some (some (.ref f22)))
    (l22 : K.lookup f22 = some ⟨oc22, od22, .func (PySem.W.fnOf "_law_value" "_law_value" (defArgs s_Lvalue) (defBody s_Lvalue) (defScope s_Lvalue) .none kV22 dc22 pm22 an22 cd22 ct22), sl22⟩)
    (c22 : PySem.W.codeIn K cd22 "_law_value" = true)
    (k22 : PySem.W.keepIn K (.ref f22) = true)
    (a23 : PySem.W.nsIn K mainGlobals "_law_statement" = some (some (.ref f23)))
    (l23 : K.lookup f23 = some ⟨oc23, od23, .func (PySem.W.fnOf "_law_statement" "_law_statement" (defArgs s_Lstatement) (defBody s_Lstatement) (defScope s_Lstatement) .none kV23 dc23 pm23 an23 cd23 ct23), sl23⟩)
    (c23 : PySem.W.codeIn K cd23 "_law_statement" = true)
    (k23 : PySem.W.keepIn K (.ref f23) = true)
    (a24 : PySem.W.nsIn K mainGlobals "_law_block" = some (some (.ref f24)))
    (l24 : K.lookup f24 = some ⟨oc24, od24, .func (PySem.W.fnOf "_law_block" "_law_block" (defArgs s_Lblock) (defBody s_Lblock) (defScope s_Lblock) .none kV24 dc24 pm24 an24 cd24 ct24), sl24⟩)
    (c24 : PySem.W.codeIn K cd24 "_law_block" = true)
    (k24 : PySem.W.keepIn K (.ref f24) = true)
    (a25 : PySem.W.nsIn K mainGlobals "_law_names" = some (some (.ref f25)))
    (l25 : K.lookup f25 = some ⟨oc25, od25, .func (PySem.W.fnOf "_law_names" "_law_names" (defArgs s_Lnames) (defBody s_Lnames) (defScope s_Lnames) .none kV25 dc25 pm25 an25 cd25 ct25), sl25⟩)
    (c25 : PySem.W.codeIn K cd25 "_law_names" = true)
    (k25 : PySem.W.keepIn K (.ref f25) = true)
    (a26 : PySem.W.nsIn K mainGlobals "_law_watcher" = some (some (.ref f26)))
    (l26 : K.lookup f26 = some ⟨oc26, od26, .func (PySem.W.fnOf "_law_watcher" "_law_watcher" (defArgs s_Lwatcher) (defBody s_Lwatcher) (defScope s_Lwatcher) .none kV26 dc26 pm26 an26 cd26 ct26), sl26⟩)
    (c26 : PySem.W.codeIn K cd26 "_law_watcher" = true)
    (k26 : PySem.W.keepIn K (.ref f26) = true)
    (a27 : PySem.W.nsIn K mainGlobals "_law_value_words" = some (some (.ref f27)))
    (l27 : K.lookup f27 = some ⟨oc27, od27, .func (PySem.W.fnOf "_law_value_words" "_law_value_words" (defArgs s_Lvalue_words) (defBody s_Lvalue_words) (defScope s_Lvalue_words) .none kV27 dc27 pm27 an27 cd27 ct27), sl27⟩)
    (c27 : PySem.W.codeIn K cd27 "_law_value_words" = true)
    (k27 : PySem.W.keepIn K (.ref f27) = true)
    (a28 : PySem.W.nsIn K mainGlobals "_law_block_words" = some (some (.ref f28)))
    (l28 : K.lookup f28 = some ⟨oc28, od28, .func (PySem.W.fnOf "_law_block_words" "_law_block_words" (defArgs s_Lblock_words) (defBody s_Lblock_words) (defScope s_Lblock_words) .none kV28 dc28 pm28 an28 cd28 ct28), sl28⟩)
    (c28 : PySem.W.codeIn K cd28 "_law_block_words" = true)
    (k28 : PySem.W.keepIn K (.ref f28) = true)
    (a29 : PySem.W.nsIn K mainGlobals "_law_words" = some (some (.ref f29)))
    (l29 : K.lookup f29 = some ⟨oc29, od29, .func (PySem.W.fnOf "_law_words" "_law_words" (defArgs s_Lwords) (defBody s_Lwords) (defScope s_Lwords) .none kV29 dc29 pm29 an29 cd29 ct29), sl29⟩)
    (c29 : PySem.W.codeIn K cd29 "_law_words" = true)
    (k29 : PySem.W.keepIn K (.ref f29) = true)
    (a30 : PySem.W.nsIn K mainGlobals "law" = some (some (.ref f30)))
    (l30 : K.lookup f30 = some ⟨oc30, od30, .func (PySem.W.fnOf "law" "law" (defArgs s_law) (defBody s_law) (defScope s_law) .none kV30 dc30 pm30 an30 cd30 ct30), sl30⟩)
    (c30 : PySem.W.codeIn K cd30 "law" = true)
    (k30 : PySem.W.keepIn K (.ref f30) = true)
    (n_all : PySem.W.nsIn K mainGlobals "all" = some none)
    (n_bool : PySem.W.nsIn K mainGlobals "bool" = some none)
    (n_int : PySem.W.nsIn K mainGlobals "int" = some none)
    (n_isinstance : PySem.W.nsIn K mainGlobals "isinstance" = some none)
    (n_len : PySem.W.nsIn K mainGlobals "len" = some none)
    (n_list : PySem.W.nsIn K mainGlobals "list" = some none)
    (n_range : PySem.W.nsIn K mainGlobals "range" = some none)
    (n_str : PySem.W.nsIn K mainGlobals "str" = some none)
    (n_tuple : PySem.W.nsIn K mainGlobals "tuple" = some none)
    (aK_KEYS : PySem.W.nsIn K mainGlobals "KEYS" = some (some (.ref K_KEYS)))
    (lK_KEYS : K.lookup K_KEYS = some oK_KEYS)
    (cK_KEYS : oK_KEYS.cls = .type "tuple")
    (dK_KEYS : oK_KEYS.data = .seq #[.str "kinds" tK_KEYS_0, .str "var" tK_KEYS_1, .str "set" tK_KEYS_2, .str "draw" tK_KEYS_3, .str "tell" tK_KEYS_4, .str "if" tK_KEYS_5, .str "else" tK_KEYS_6, .str "end" tK_KEYS_7, .str "kind" tK_KEYS_8, .str "mod" tK_KEYS_9] nK_KEYS)
    (aK_SIGNS : PySem.W.nsIn K mainGlobals "SIGNS" = some (some (.ref K_SIGNS)))
    (lK_SIGNS : K.lookup K_SIGNS = some oK_SIGNS)
    (cK_SIGNS : oK_SIGNS.cls = .type "tuple")
    (dK_SIGNS : oK_SIGNS.data = .seq #[.str "+" tK_SIGNS_0, .str "-" tK_SIGNS_1, .str "*" tK_SIGNS_2, .str "/" tK_SIGNS_3, .str "mod" tK_SIGNS_4, .str "<" tK_SIGNS_5, .str "=" tK_SIGNS_6] nK_SIGNS)
    (g_GREATEST : PySem.W.nsIn K mainGlobals "GREATEST" = some (some (.int 65535 t_GREATEST)))
    (g_MOST_KINDS : PySem.W.nsIn K mainGlobals "MOST_KINDS" = some (some (.int 4 t_MOST_KINDS)))
    (g_MOST_NAMES : PySem.W.nsIn K mainGlobals "MOST_NAMES" = some (some (.int 4 t_MOST_NAMES)))
    (g_MOST_PARTS : PySem.W.nsIn K mainGlobals "MOST_PARTS" = some (some (.int 8 t_MOST_PARTS)))
    (g_MOST_DRAWS : PySem.W.nsIn K mainGlobals "MOST_DRAWS" = some (some (.int 6 t_MOST_DRAWS)))
    (g_DEEPEST : PySem.W.nsIn K mainGlobals "DEEPEST" = some (some (.int 6 t_DEEPEST)))
    (g_DEEPEST_IF : PySem.W.nsIn K mainGlobals "DEEPEST_IF" = some (some (.int 4 t_DEEPEST_IF))) :
    ∃ fd : FuncData, (∀ (s : Shared) (u : Value), BindsTo s fd ⟨[u], []⟩ [("_law_script", u)]) ∧ ∀ base : Heap, K.In base → base.Ns mainGlobals mg → FnOk P w K mg base (L2.CX P w) 200 fa fd ["_law_script"] (spLaw K) := by
  have e := hfa.symm.trans (PySem.W.mg_of X G a30)
  cases e
  let f30 := fa
  let fi : Nat → FI := fun i => match i with
    | 0 => ⟨f0, PySem.W.fnOf "is_name" "is_name" (defArgs s_is_name) (defBody s_is_name) (defScope s_is_name) .none kV0 dc0 pm0 an0 cd0 ct0, ["word"]⟩
    | 1 => ⟨f1, PySem.W.fnOf "number_of" "number_of" (defArgs s_number_of) (defBody s_number_of) (defScope s_number_of) .none kV1 dc1 pm1 an1 cd1 ct1, ["word"]⟩
    | 2 => ⟨f2, PySem.W.fnOf "__init__" "Watcher.__init__" (defArgs s_Watcher_init) (defBody s_Watcher_init) (defScope s_Watcher_init) .none kV2 dc2 pm2 an2 cd2 ct2, ["self", "kinds", "variables", "block"]⟩
    | 3 => ⟨f3, PySem.W.fnOf "__eq__" "Watcher.__eq__" (defArgs s_Watcher_eq) (defBody s_Watcher_eq) (defScope s_Watcher_eq) .none kV3 dc3 pm3 an3 cd3 ct3, ["self", "other"]⟩
    | 4 => ⟨f4, PySem.W.fnOf "__init__" "Reader.__init__" (defArgs s_Reader_init) (defBody s_Reader_init) (defScope s_Reader_init) .none kV4 dc4 pm4 an4 cd4 ct4, ["self", "text"]⟩
    | 5 => ⟨f5, PySem.W.fnOf "word" "Reader.word" (defArgs s_Reader_word) (defBody s_Reader_word) (defScope s_Reader_word) .none kV5 dc5 pm5 an5 cd5 ct5, ["self"]⟩
    | 6 => ⟨f6, PySem.W.fnOf "pass_word" "Reader.pass_word" (defArgs s_Reader_pass_word) (defBody s_Reader_pass_word) (defScope s_Reader_pass_word) .none kV6 dc6 pm6 an6 cd6 ct6, ["self", "allowed"]⟩
    | 7 => ⟨f7, PySem.W.fnOf "pass_number" "Reader.pass_number" (defArgs s_Reader_pass_number) (defBody s_Reader_pass_number) (defScope s_Reader_pass_number) .none kV7 dc7 pm7 an7 cd7 ct7, ["self", "least", "most"]⟩
    | 8 => ⟨f8, PySem.W.fnOf "watcher" "Reader.watcher" (defArgs s_Reader_watcher) (defBody s_Reader_watcher) (defScope s_Reader_watcher) .none kV8 dc8 pm8 an8 cd8 ct8, ["self"]⟩
    | 9 => ⟨f9, PySem.W.fnOf "block" "Reader.block" (defArgs s_Reader_block) (defBody s_Reader_block) (defScope s_Reader_block) .none kV9 dc9 pm9 an9 cd9 ct9, ["self", "room"]⟩
    | 10 => ⟨f10, PySem.W.fnOf "begins" "Reader.begins" (defArgs s_Reader_begins) (defBody s_Reader_begins) (defScope s_Reader_begins) .none kV10 dc10 pm10 an10 cd10 ct10, ["self", "room"]⟩
    | 11 => ⟨f11, PySem.W.fnOf "statement" "Reader.statement" (defArgs s_Reader_statement) (defBody s_Reader_statement) (defScope s_Reader_statement) .none kV11 dc11 pm11 an11 cd11 ct11, ["self", "room"]⟩
    | 12 => ⟨f12, PySem.W.fnOf "expression" "Reader.expression" (defArgs s_Reader_expression) (defBody s_Reader_expression) (defScope s_Reader_expression) .none kV12 dc12 pm12 an12 cd12 ct12, ["self", "room"]⟩
    | 13 => ⟨f13, PySem.W.fnOf "read_watcher" "read_watcher" (defArgs s_read_watcher) (defBody s_read_watcher) (defScope s_read_watcher) .none kV13 dc13 pm13 an13 cd13 ct13, ["text"]⟩
    | 14 => ⟨f14, PySem.W.fnOf "value_words" "value_words" (defArgs s_value_words) (defBody s_value_words) (defScope s_value_words) .none kV14 dc14 pm14 an14 cd14 ct14, ["expression"]⟩
    | 15 => ⟨f15, PySem.W.fnOf "block_words" "block_words" (defArgs s_block_words) (defBody s_block_words) (defScope s_block_words) .none kV15 dc15 pm15 an15 cd15 ct15, ["block"]⟩
    | 16 => ⟨f16, PySem.W.fnOf "watcher_text" "watcher_text" (defArgs s_watcher_text) (defBody s_watcher_text) (defScope s_watcher_text) .none kV16 dc16 pm16 an16 cd16 ct16, ["watcher"]⟩
    | 17 => ⟨f17, PySem.W.fnOf "_law_pool" "_law_pool" (defArgs s_Lpool) (defBody s_Lpool) (defScope s_Lpool) .none kV17 dc17 pm17 an17 cd17 ct17, ["_law_script", "_law_budget"]⟩
    | 18 => ⟨f18, PySem.W.fnOf "_law_draw" "_law_draw" (defArgs s_Ldraw) (defBody s_Ldraw) (defScope s_Ldraw) .none kV18 dc18 pm18 an18 cd18 ct18, ["_law_pool_here", "_law_size"]⟩
    | 19 => ⟨f19, PySem.W.fnOf "_law_spend" "_law_spend" (defArgs s_Lspend) (defBody s_Lspend) (defScope s_Lspend) .none kV19 dc19 pm19 an19 cd19 ct19, ["_law_pool_here"]⟩
    | 20 => ⟨f20, PySem.W.fnOf "_law_number" "_law_number" (defArgs s_Lnumber) (defBody s_Lnumber) (defScope s_Lnumber) .none kV20 dc20 pm20 an20 cd20 ct20, ["_law_pool_here"]⟩
    | 21 => ⟨f21, PySem.W.fnOf "_law_same" "_law_same" (defArgs s_Lsame) (defBody s_Lsame) (defScope s_Lsame) .none kV21 dc21 pm21 an21 cd21 ct21, ["_law_actual", "_law_due"]⟩
    | 22 => ⟨f22, PySem.W.fnOf "_law_value" "_law_value" (defArgs s_Lvalue) (defBody s_Lvalue) (defScope s_Lvalue) .none kV22 dc22 pm22 an22 cd22 ct22, ["_law_pool_here", "_law_names_here", "_law_deep"]⟩
    | 23 => ⟨f23, PySem.W.fnOf "_law_statement" "_law_statement" (defArgs s_Lstatement) (defBody s_Lstatement) (defScope s_Lstatement) .none kV23 dc23 pm23 an23 cd23 ct23, ["_law_pool_here", "_law_scope", "_law_room"]⟩
    | 24 => ⟨f24, PySem.W.fnOf "_law_block" "_law_block" (defArgs s_Lblock) (defBody s_Lblock) (defScope s_Lblock) .none kV24 dc24 pm24 an24 cd24 ct24, ["_law_pool_here", "_law_scope", "_law_room", "_law_most"]⟩
    | 25 => ⟨f25, PySem.W.fnOf "_law_names" "_law_names" (defArgs s_Lnames) (defBody s_Lnames) (defScope s_Lnames) .none kV25 dc25 pm25 an25 cd25 ct25, ["_law_pool_here", "_law_count"]⟩
    | 26 => ⟨f26, PySem.W.fnOf "_law_watcher" "_law_watcher" (defArgs s_Lwatcher) (defBody s_Lwatcher) (defScope s_Lwatcher) .none kV26 dc26 pm26 an26 cd26 ct26, ["_law_pool_here", "_law_draws", "_law_most"]⟩
    | 27 => ⟨f27, PySem.W.fnOf "_law_value_words" "_law_value_words" (defArgs s_Lvalue_words) (defBody s_Lvalue_words) (defScope s_Lvalue_words) .none kV27 dc27 pm27 an27 cd27 ct27, ["_law_due"]⟩
    | 28 => ⟨f28, PySem.W.fnOf "_law_block_words" "_law_block_words" (defArgs s_Lblock_words) (defBody s_Lblock_words) (defScope s_Lblock_words) .none kV28 dc28 pm28 an28 cd28 ct28, ["_law_block_here"]⟩
    | 29 => ⟨f29, PySem.W.fnOf "_law_words" "_law_words" (defArgs s_Lwords) (defBody s_Lwords) (defScope s_Lwords) .none kV29 dc29 pm29 an29 cd29 ct29, ["_law_watcher_here"]⟩
    | 30 => ⟨f30, PySem.W.fnOf "law" "law" (defArgs s_law) (defBody s_law) (defScope s_law) .none kV30 dc30 pm30 an30 cd30 ct30, ["_law_script"]⟩
    | _ => ⟨f0, PySem.W.fnOf "is_name" "is_name" (defArgs s_is_name) (defBody s_is_name) (defScope s_is_name) .none kV0 dc0 pm0 an0 cd0 ct0, ["word"]⟩
  let ca : Nat → Addr := fun c => match c with
    | 0 => C0
    | 1 => C1
    | _ => fa
  have Dx : Deft K fi := {
    f0 := ⟨⟨_, _, _, _, _, _, _, _, _, _, rfl, l0, c0⟩⟩
    p0 := rfl
    f1 := ⟨⟨_, _, _, _, _, _, _, _, _, _, rfl, l1, c1⟩⟩
    p1 := rfl
    f2 := ⟨⟨_, _, _, _, _, _, _, _, _, _, rfl, l2, c2⟩⟩
    p2 := rfl
    f3 := ⟨⟨_, _, _, _, _, _, _, _, _, _, rfl, l3, c3⟩⟩
    p3 := rfl
    f4 := ⟨⟨_, _, _, _, _, _, _, _, _, _, rfl, l4, c4⟩⟩
    p4 := rfl
    f5 := ⟨⟨_, _, _, _, _, _, _, _, _, _, rfl, l5, c5⟩⟩
    p5 := rfl
    f6 := ⟨⟨_, _, _, _, _, _, _, _, _, _, rfl, l6, c6⟩⟩
    p6 := rfl
    f7 := ⟨⟨_, _, _, _, _, _, _, _, _, _, rfl, l7, c7⟩⟩
    p7 := rfl
    f8 := ⟨⟨_, _, _, _, _, _, _, _, _, _, rfl, l8, c8⟩⟩
    p8 := rfl
    f9 := ⟨⟨_, _, _, _, _, _, _, _, _, _, rfl, l9, c9⟩⟩
    p9 := rfl
    f10 := ⟨⟨_, _, _, _, _, _, _, _, _, _, rfl, l10, c10⟩⟩
    p10 := rfl
    f11 := ⟨⟨_, _, _, _, _, _, _, _, _, _, rfl, l11, c11⟩⟩
    p11 := rfl
    f12 := ⟨⟨_, _, _, _, _, _, _, _, _, _, rfl, l12, c12⟩⟩
    p12 := rfl
    f13 := ⟨⟨_, _, _, _, _, _, _, _, _, _, rfl, l13, c13⟩⟩
    p13 := rfl
    f14 := ⟨⟨_, _, _, _, _, _, _, _, _, _, rfl, l14, c14⟩⟩
    p14 := rfl
    f15 := ⟨⟨_, _, _, _, _, _, _, _, _, _, rfl, l15, c15⟩⟩
    p15 := rfl
    f16 := ⟨⟨_, _, _, _, _, _, _, _, _, _, rfl, l16, c16⟩⟩
    p16 := rfl
    f17 := ⟨⟨_, _, _, _, _, _, _, _, _, _, rfl, l17, c17⟩⟩
    p17 := rfl
    f18 := ⟨⟨_, _, _, _, _, _, _, _, _, _, rfl, l18, c18⟩⟩
    p18 := rfl
    f19 := ⟨⟨_, _, _, _, _, _, _, _, _, _, rfl, l19, c19⟩⟩
    p19 := rfl
    f20 := ⟨⟨_, _, _, _, _, _, _, _, _, _, rfl, l20, c20⟩⟩
    p20 := rfl
    f21 := ⟨⟨_, _, _, _, _, _, _, _, _, _, rfl, l21, c21⟩⟩
    p21 := rfl
    f22 := ⟨⟨_, _, _, _, _, _, _, _, _, _, rfl, l22, c22⟩⟩
    p22 := rfl
    f23 := ⟨⟨_, _, _, _, _, _, _, _, _, _, rfl, l23, c23⟩⟩
    p23 := rfl
    f24 := ⟨⟨_, _, _, _, _, _, _, _, _, _, rfl, l24, c24⟩⟩
    p24 := rfl
    f25 := ⟨⟨_, _, _, _, _, _, _, _, _, _, rfl, l25, c25⟩⟩
    p25 := rfl
    f26 := ⟨⟨_, _, _, _, _, _, _, _, _, _, rfl, l26, c26⟩⟩
    p26 := rfl
    f27 := ⟨⟨_, _, _, _, _, _, _, _, _, _, rfl, l27, c27⟩⟩
    p27 := rfl
    f28 := ⟨⟨_, _, _, _, _, _, _, _, _, _, rfl, l28, c28⟩⟩
    p28 := rfl
    f29 := ⟨⟨_, _, _, _, _, _, _, _, _, _, rfl, l29, c29⟩⟩
    p29 := rfl
    f30 := ⟨⟨_, _, _, _, _, _, _, _, _, _, rfl, l30, c30⟩⟩
    p30 := rfl
  }
  have Tx : Txt K mg ca fi := {
    m0 := PySem.W.mg_of X G a0
    k0 := k0
    b0 := Fun.binds (st := s_is_name) ⟨⟨_, _, _, _, _, _, _, _, _, rfl, l0, c0⟩, k0⟩ fun _ _ _ _ _ _ us hl => match us, hl with | [_], _ => rfl
    m1 := PySem.W.mg_of X G a1
    k1 := k1
    b1 := Fun.binds (st := s_number_of) ⟨⟨_, _, _, _, _, _, _, _, _, rfl, l1, c1⟩, k1⟩ fun _ _ _ _ _ _ us hl => match us, hl with | [_], _ => rfl
    b2 := Fun.binds (st := s_Watcher_init) ⟨⟨_, _, _, _, _, _, _, _, _, rfl, l2, c2⟩, k2⟩ fun _ _ _ _ _ _ us hl => match us, hl with | [_, _, _, _], _ => rfl
    b3 := Fun.binds (st := s_Watcher_eq) ⟨⟨_, _, _, _, _, _, _, _, _, rfl, l3, c3⟩, k3⟩ fun _ _ _ _ _ _ us hl => match us, hl with | [_, _], _ => rfl
    b4 := Fun.binds (st := s_Reader_init) ⟨⟨_, _, _, _, _, _, _, _, _, rfl, l4, c4⟩, k4⟩ fun _ _ _ _ _ _ us hl => match us, hl with | [_, _], _ => rfl
    me5 := ⟨a5, i5, k5⟩
    b5 := Fun.binds (st := s_Reader_word) ⟨⟨_, _, _, _, _, _, _, _, _, rfl, l5, c5⟩, k5⟩ fun _ _ _ _ _ _ us hl => match us, hl with | [_], _ => rfl
    me6 := ⟨a6, i6, k6⟩
    b6 := Fun.binds (st := s_Reader_pass_word) ⟨⟨_, _, _, _, _, _, _, _, _, rfl, l6, c6⟩, k6⟩ fun _ _ _ _ _ _ us hl => match us, hl with | [_, _], _ => rfl
    me7 := ⟨a7, i7, k7⟩
    b7 := Fun.binds (st := s_Reader_pass_number) ⟨⟨_, _, _, _, _, _, _, _, _, rfl, l7, c7⟩, k7⟩ fun _ _ _ _ _ _ us hl => match us, hl with | [_, _, _], _ => rfl
    me8 := ⟨a8, i8, k8⟩
    b8 := Fun.binds (st := s_Reader_watcher) ⟨⟨_, _, _, _, _, _, _, _, _, rfl, l8, c8⟩, k8⟩ fun _ _ _ _ _ _ us hl => match us, hl with | [_], _ => rfl
    me9 := ⟨a9, i9, k9⟩
    b9 := Fun.binds (st := s_Reader_block) ⟨⟨_, _, _, _, _, _, _, _, _, rfl, l9, c9⟩, k9⟩ fun _ _ _ _ _ _ us hl => match us, hl with | [_, _], _ => rfl
    me10 := ⟨a10, i10, k10⟩
    b10 := Fun.binds (st := s_Reader_begins) ⟨⟨_, _, _, _, _, _, _, _, _, rfl, l10, c10⟩, k10⟩ fun _ _ _ _ _ _ us hl => match us, hl with | [_, _], _ => rfl
    me11 := ⟨a11, i11, k11⟩
    b11 := Fun.binds (st := s_Reader_statement) ⟨⟨_, _, _, _, _, _, _, _, _, rfl, l11, c11⟩, k11⟩ fun _ _ _ _ _ _ us hl => match us, hl with | [_, _], _ => rfl
    me12 := ⟨a12, i12, k12⟩
    b12 := Fun.binds (st := s_Reader_expression) ⟨⟨_, _, _, _, _, _, _, _, _, rfl, l12, c12⟩, k12⟩ fun _ _ _ _ _ _ us hl => match us, hl with | [_, _], _ => rfl
    m13 := PySem.W.mg_of X G a13
    k13 := k13
    b13 := Fun.binds (st := s_read_watcher) ⟨⟨_, _, _, _, _, _, _, _, _, rfl, l13, c13⟩, k13⟩ fun _ _ _ _ _ _ us hl => match us, hl with | [_], _ => rfl
    m14 := PySem.W.mg_of X G a14
    k14 := k14
    b14 := Fun.binds (st := s_value_words) ⟨⟨_, _, _, _, _, _, _, _, _, rfl, l14, c14⟩, k14⟩ fun _ _ _ _ _ _ us hl => match us, hl with | [_], _ => rfl
    m15 := PySem.W.mg_of X G a15
    k15 := k15
    b15 := Fun.binds (st := s_block_words) ⟨⟨_, _, _, _, _, _, _, _, _, rfl, l15, c15⟩, k15⟩ fun _ _ _ _ _ _ us hl => match us, hl with | [_], _ => rfl
    m16 := PySem.W.mg_of X G a16
    k16 := k16
    b16 := Fun.binds (st := s_watcher_text) ⟨⟨_, _, _, _, _, _, _, _, _, rfl, l16, c16⟩, k16⟩ fun _ _ _ _ _ _ us hl => match us, hl with | [_], _ => rfl
    m17 := PySem.W.mg_of X G a17
    k17 := k17
    b17 := Fun.binds (st := s_Lpool) ⟨⟨_, _, _, _, _, _, _, _, _, rfl, l17, c17⟩, k17⟩ fun _ _ _ _ _ _ us hl => match us, hl with | [_, _], _ => rfl
    m18 := PySem.W.mg_of X G a18
    k18 := k18
    b18 := Fun.binds (st := s_Ldraw) ⟨⟨_, _, _, _, _, _, _, _, _, rfl, l18, c18⟩, k18⟩ fun _ _ _ _ _ _ us hl => match us, hl with | [_, _], _ => rfl
    m19 := PySem.W.mg_of X G a19
    k19 := k19
    b19 := Fun.binds (st := s_Lspend) ⟨⟨_, _, _, _, _, _, _, _, _, rfl, l19, c19⟩, k19⟩ fun _ _ _ _ _ _ us hl => match us, hl with | [_], _ => rfl
    m20 := PySem.W.mg_of X G a20
    k20 := k20
    b20 := Fun.binds (st := s_Lnumber) ⟨⟨_, _, _, _, _, _, _, _, _, rfl, l20, c20⟩, k20⟩ fun _ _ _ _ _ _ us hl => match us, hl with | [_], _ => rfl
    m21 := PySem.W.mg_of X G a21
    k21 := k21
    b21 := Fun.binds (st := s_Lsame) ⟨⟨_, _, _, _, _, _, _, _, _, rfl, l21, c21⟩, k21⟩ fun _ _ _ _ _ _ us hl => match us, hl with | [_, _], _ => rfl
    m22 := PySem.W.mg_of X G a22
    k22 := k22
    b22 := Fun.binds (st := s_Lvalue) ⟨⟨_, _, _, _, _, _, _, _, _, rfl, l22, c22⟩, k22⟩ fun _ _ _ _ _ _ us hl => match us, hl with | [_, _, _], _ => rfl
    m23 := PySem.W.mg_of X G a23
    k23 := k23
    b23 := Fun.binds (st := s_Lstatement) ⟨⟨_, _, _, _, _, _, _, _, _, rfl, l23, c23⟩, k23⟩ fun _ _ _ _ _ _ us hl => match us, hl with | [_, _, _], _ => rfl
    m24 := PySem.W.mg_of X G a24
    k24 := k24
    b24 := Fun.binds (st := s_Lblock) ⟨⟨_, _, _, _, _, _, _, _, _, rfl, l24, c24⟩, k24⟩ fun _ _ _ _ _ _ us hl => match us, hl with | [_, _, _, _], _ => rfl
    m25 := PySem.W.mg_of X G a25
    k25 := k25
    b25 := Fun.binds (st := s_Lnames) ⟨⟨_, _, _, _, _, _, _, _, _, rfl, l25, c25⟩, k25⟩ fun _ _ _ _ _ _ us hl => match us, hl with | [_, _], _ => rfl
    m26 := PySem.W.mg_of X G a26
    k26 := k26
    b26 := Fun.binds (st := s_Lwatcher) ⟨⟨_, _, _, _, _, _, _, _, _, rfl, l26, c26⟩, k26⟩ fun _ _ _ _ _ _ us hl => match us, hl with | [_, _, _], _ => rfl
    m27 := PySem.W.mg_of X G a27
    k27 := k27
    b27 := Fun.binds (st := s_Lvalue_words) ⟨⟨_, _, _, _, _, _, _, _, _, rfl, l27, c27⟩, k27⟩ fun _ _ _ _ _ _ us hl => match us, hl with | [_], _ => rfl
    m28 := PySem.W.mg_of X G a28
    k28 := k28
    b28 := Fun.binds (st := s_Lblock_words) ⟨⟨_, _, _, _, _, _, _, _, _, rfl, l28, c28⟩, k28⟩ fun _ _ _ _ _ _ us hl => match us, hl with | [_], _ => rfl
    m29 := PySem.W.mg_of X G a29
    k29 := k29
    b29 := Fun.binds (st := s_Lwords) ⟨⟨_, _, _, _, _, _, _, _, _, rfl, l29, c29⟩, k29⟩ fun _ _ _ _ _ _ us hl => match us, hl with | [_], _ => rfl
    m30 := PySem.W.mg_of X G a30
    k30 := k30
    cl0 := ⟨pg0, hd0, po0, sa0⟩
    mc0 := PySem.W.mg_of X G aC0
    mk0 := ⟨mk0, a2, i2, kc0⟩
    na0_0 := nf0_0
    na0_1 := nf0_1
    na0_2 := nf0_2
    isc0 := ⟨⟨pg0, hd0, po0, sa0⟩, ha0, hn, ht, hm0⟩
    kit0 := kt0
    cl1 := ⟨pg1, hd1, po1, sa1⟩
    mc1 := PySem.W.mg_of X G aC1
    mk1 := ⟨mk1, a4, i4, kc1⟩
    na1_0 := nf1_0
    na1_1 := nf1_1
    na1_2 := nf1_2
    na1_3 := nf1_3
    nt0 := nt0
    a3 := a3
    i3 := i3
    n_all := PySem.W.mg_none_of X G n_all
    n_bool := PySem.W.mg_none_of X G n_bool
    n_int := PySem.W.mg_none_of X G n_int
    n_isinstance := PySem.W.mg_none_of X G n_isinstance
    n_len := PySem.W.mg_none_of X G n_len
    n_list := PySem.W.mg_none_of X G n_list
    n_range := PySem.W.mg_none_of X G n_range
    n_str := PySem.W.mg_none_of X G n_str
    n_tuple := PySem.W.mg_none_of X G n_tuple
    t_KEYS := ⟨_, PySem.W.mg_of X G aK_KEYS, fun H => .inr ⟨oK_KEYS, _, _, lK_KEYS, cK_KEYS, dK_KEYS, (show 10 ≤ sizeLine by rw [sizeLine_eq]; decide), .cons ⟨_, rfl⟩ (.cons ⟨_, rfl⟩ (.cons ⟨_, rfl⟩ (.cons ⟨_, rfl⟩ (.cons ⟨_, rfl⟩ (.cons ⟨_, rfl⟩ (.cons ⟨_, rfl⟩ (.cons ⟨_, rfl⟩ (.cons ⟨_, rfl⟩ (.cons ⟨_, rfl⟩ (.nil))))))))))⟩⟩
    t_SIGNS := ⟨_, PySem.W.mg_of X G aK_SIGNS, fun H => .inr ⟨oK_SIGNS, _, _, lK_SIGNS, cK_SIGNS, dK_SIGNS, (show 7 ≤ sizeLine by rw [sizeLine_eq]; decide), .cons ⟨_, rfl⟩ (.cons ⟨_, rfl⟩ (.cons ⟨_, rfl⟩ (.cons ⟨_, rfl⟩ (.cons ⟨_, rfl⟩ (.cons ⟨_, rfl⟩ (.cons ⟨_, rfl⟩ (.nil)))))))⟩⟩
    g_GREATEST := ⟨_, PySem.W.mg_of X G g_GREATEST⟩
    g_MOST_KINDS := ⟨_, PySem.W.mg_of X G g_MOST_KINDS⟩
    g_MOST_NAMES := ⟨_, PySem.W.mg_of X G g_MOST_NAMES⟩
    g_MOST_PARTS := ⟨_, PySem.W.mg_of X G g_MOST_PARTS⟩
    g_MOST_DRAWS := ⟨_, PySem.W.mg_of X G g_MOST_DRAWS⟩
    g_DEEPEST := ⟨_, PySem.W.mg_of X G g_DEEPEST⟩
    g_DEEPEST_IF := ⟨_, PySem.W.mg_of X G g_DEEPEST_IF⟩
  }
  refine ⟨(fi 30).fd, fun s v => .of_eq rfl, fun base _ _ => ?_⟩
  have hL : Lnk P w K mg base (lk ca) prog fi 100 := link Tx Dx 100
  exact (hL.fn 30 _ rfl rfl).imp law_sp
theorem walk {l : PySem.W.OpenLaw} {qq : Program} {loose : List Str} {XP : (Str → Option Value) → Heap → Prop} {YP : World → Heap → Prop} {d : DefRec} {K : Params → PySem.W.Frag} (hn : l.most = some 63) (hdf : d.params.defaults = [])
    (hY : ∀ (w : World) (h : Heap), YP w h → (K w.params).In h)
    (F : ∀ (w : World) (mg : Str → Option Value) (fa : Addr) (h : Heap), (K w.params).In h → h.Ns mainGlobals mg → mg d.name = some (.ref fa) →
      ∃ fd : FuncData, (∀ (s : Shared) (u : Value), BindsTo s fd ⟨[u], []⟩ [("_law_script", u)]) ∧ ∀ base : Heap, (K w.params).In base → base.Ns mainGlobals mg → FnOk l.prog w (K w.params) mg base (L2.CX l.prog w) 200 fa fd ["_law_script"] (spLaw (K w.params))) :
    PySem.W.WalkO qq loose XP YP l.row.toRowW d [] (fun f vs => PySem.call f vs) :=
  L2.walk_ofB (n := 63) (k := 200) (x := "_law_script") (CX := fun w => L2.CX l.prog w) (sp := fun w => spLaw (K w.params)) hn (by decide) hdf ⟨rfl, by decide, by decide⟩ hY F (fun _ _ a ns hl hb _ hS => ⟨a, ns, rfl, hS, hl, hb, fun _ => rfl⟩) fun _ _ _ _ _ z => by
    obtain ⟨_, _, _, _, _, _, _, _, _, _, _, _, z⟩ := z
    exact z
end K01
open PySem PySem.W PyProof.Rows
set_option maxRecDepth 100000 in
set_option maxHeartbeats 0 in
theorem PySem.Challenge.cw_seesmore_k01_watchers_read_and_written_holds : PySem.Challenge.rw_seesmore_k01_watchers_read_and_written.Holds := by
  w_on; o_law; k_head; (case hw => w_witness2)
  k_fill
  refine K01.walk (l := PySem.Challenge.rw_seesmore_k01_watchers_read_and_written) rfl rfl (fun w h Y => PySem.W.kIn_of Y) ?F
  case F =>
    intro w mg fa h KX G hmg
    refine' K01.all_mk KX G hmg ?aC0 ?pg0 ?hd0 ?po0 ?sa0 ?mk0 ?kc0 ?nf0_0 ?nf0_1 ?nf0_2 ?ha0 ?hm0 ?kt0 ?aC1 ?pg1 ?hd1 ?po1 ?sa1 ?mk1 ?kc1 ?nf1_0 ?nf1_1 ?nf1_2 ?nf1_3 ?nt0 ?hn ?ht ?a0 ?l0 ?c0 ?k0 ?a1 ?l1 ?c1 ?k1 ?a2 ?i2 ?l2 ?c2 ?k2 ?a3 ?i3 ?l3 ?c3 ?k3 ?a4 ?i4 ?l4 ?c4 ?k4 ?a5 ?i5 ?l5 ?c5 ?k5 ?a6 ?i6 ?l6 ?c6 ?k6 ?a7 ?i7 ?l7 ?c7 ?k7 ?a8 ?i8 ?l8 ?c8 ?k8 ?a9 ?i9 ?l9 ?c9 ?k9 ?a10 ?i10 ?l10 ?c10 ?k10 ?a11 ?i11 ?l11 ?c11 ?k11 ?a12 ?i12 ?l12 ?c12 ?k12 ?a13 ?l13 ?c13 ?k13 ?a14 ?l14 ?c14 ?k14 ?a15 ?l15 ?c15 ?k15 ?a16 ?l16 ?c16 ?k16 ?a17 ?l17 ?c17 ?k17 ?a18 ?l18 ?c18 ?k18 ?a19 ?l19 ?c19 ?k19 ?a20 ?l20 ?c20 ?k20 ?a21 ?l21 ?c21 ?k21 ?a22 ?l22 ?c22 ?k22 ?a23 ?l23 ?c23 ?k23 ?a24 ?l24 ?c24 ?k24 ?a25 ?l25 ?c25 ?k25 ?a26 ?l26 ?c26 ?k26 ?a27 ?l27 ?c27 ?k27 ?a28 ?l28 ?c28 ?k28 ?a29 ?l29 ?c29 ?k29 ?a30 ?l30 ?c30 ?k30 ?n_all ?n_bool ?n_int ?n_isinstance ?n_len ?n_list ?n_range ?n_str ?n_tuple ?aK_KEYS ?lK_KEYS ?cK_KEYS ?dK_KEYS ?aK_SIGNS ?lK_SIGNS ?cK_SIGNS ?dK_SIGNS ?g_GREATEST ?g_MOST_KINDS ?g_MOST_NAMES ?g_MOST_PARTS ?g_MOST_DRAWS ?g_DEEPEST ?g_DEEPEST_IF
    (case aC0 => k_is)
    (case pg0 => k_is)
    (case hd0 => k_is)
    (case po0 => k_is)
    (case sa0 => k_is)
    (case mk0 => k_is)
    (case kc0 => k_is)
    (case nf0_0 => k_is)
    (case nf0_1 => k_is)
    (case nf0_2 => k_is)
    (case ha0 => k_is)
    (case hm0 => k_is)
    (case kt0 => kit_is)
    (case aC1 => k_is)
    (case pg1 => k_is)
    (case hd1 => k_is)
    (case po1 => k_is)
    (case sa1 => k_is)
    (case mk1 => k_is)
    (case kc1 => k_is)
    (case nf1_0 => k_is)
    (case nf1_1 => k_is)
    (case nf1_2 => k_is)
    (case nf1_3 => k_is)
    (case nt0 => k_is)
    (case hn => k_is)
    (case ht => k_is)
    (case a0 => k_is)
    (case l0 => k_is)
    (case c0 => k_is)
    (case k0 => k_is)
    (case a1 => k_is)
    (case l1 => k_is)
    (case c1 => k_is)
    (case k1 => k_is)
    (case a2 => k_is)
    (case i2 => k_is)
    (case l2 => k_is)
    (case c2 => k_is)
    (case k2 => k_is)
    (case a3 => k_is)
    (case i3 => k_is)
    (case l3 => k_is)
    (case c3 => k_is)
    (case k3 => k_is)
    (case a4 => k_is)
    (case i4 => k_is)
    (case l4 => k_is)
    (case c4 => k_is)
    (case k4 => k_is)
    (case a5 => k_is)
    (case i5 => k_is)
    (case l5 => k_is)
    (case c5 => k_is)
    (case k5 => k_is)
    (case a6 => k_is)
    (case i6 => k_is)
    (case l6 => k_is)
    (case c6 => k_is)
    (case k6 => k_is)
    (case a7 => k_is)
    (case i7 => k_is)
    (case l7 => k_is)
    (case c7 => k_is)
    (case k7 => k_is)
    (case a8 => k_is)
    (case i8 => k_is)
    (case l8 => k_is)
    (case c8 => k_is)
    (case k8 => k_is)
    (case a9 => k_is)
    (case i9 => k_is)
    (case l9 => k_is)
    (case c9 => k_is)
    (case k9 => k_is)
    (case a10 => k_is)
    (case i10 => k_is)
    (case l10 => k_is)
    (case c10 => k_is)
    (case k10 => k_is)
    (case a11 => k_is)
    (case i11 => k_is)
    (case l11 => k_is)
    (case c11 => k_is)
    (case k11 => k_is)
    (case a12 => k_is)
    (case i12 => k_is)
    (case l12 => k_is)
    (case c12 => k_is)
    (case k12 => k_is)
    (case a13 => k_is)
    (case l13 => k_is)
    (case c13 => k_is)
    (case k13 => k_is)
    (case a14 => k_is)
    (case l14 => k_is)
    (case c14 => k_is)
    (case k14 => k_is)
    (case a15 => k_is)
    (case l15 => k_is)
    (case c15 => k_is)
    (case k15 => k_is)
    (case a16 => k_is)
    (case l16 => k_is)
    (case c16 => k_is)
    (case k16 => k_is)
    (case a17 => k_is)
    (case l17 => k_is)
    (case c17 => k_is)
    (case k17 => k_is)
    (case a18 => k_is)
    (case l18 => k_is)
    (case c18 => k_is)
    (case k18 => k_is)
    (case a19 => k_is)
    (case l19 => k_is)
    (case c19 => k_is)
    (case k19 => k_is)
    (case a20 => k_is)
    (case l20 => k_is)
    (case c20 => k_is)
    (case k20 => k_is)
    (case a21 => k_is)
    (case l21 => k_is)
    (case c21 => k_is)
    (case k21 => k_is)
    (case a22 => k_is)
    (case l22 => k_is)
    (case c22 => k_is)
    (case k22 => k_is)
    (case a23 => k_is)
    (case l23 => k_is)
    (case c23 => k_is)
    (case k23 => k_is)
    (case a24 => k_is)
    (case l24 => k_is)
    (case c24 => k_is)
    (case k24 => k_is)
    (case a25 => k_is)
    (case l25 => k_is)
    (case c25 => k_is)
    (case k25 => k_is)
    (case a26 => k_is)
    (case l26 => k_is)
    (case c26 => k_is)
    (case k26 => k_is)
    (case a27 => k_is)
    (case l27 => k_is)
    (case c27 => k_is)
    (case k27 => k_is)
    (case a28 => k_is)
    (case l28 => k_is)
    (case c28 => k_is)
    (case k28 => k_is)
    (case a29 => k_is)
    (case l29 => k_is)
    (case c29 => k_is)
    (case k29 => k_is)
    (case a30 => k_is)
    (case l30 => k_is)
    (case c30 => k_is)
    (case k30 => k_is)
    (case n_all => k_is)
    (case n_bool => k_is)
    (case n_int => k_is)
    (case n_isinstance => k_is)
    (case n_len => k_is)
    (case n_list => k_is)
    (case n_range => k_is)
    (case n_str => k_is)
    (case n_tuple => k_is)
    (case aK_KEYS => k_is)
    (case lK_KEYS => k_is)
    (case cK_KEYS => rfl)
    (case dK_KEYS => rfl)
    (case aK_SIGNS => k_is)
    (case lK_SIGNS => k_is)
    (case cK_SIGNS => rfl)
    (case dK_SIGNS => rfl)
    (case g_GREATEST => k_is)
    (case g_MOST_KINDS => k_is)
    (case g_MOST_NAMES => k_is)
    (case g_MOST_PARTS => k_is)
    (case g_MOST_DRAWS => k_is)
    (case g_DEEPEST => k_is)
    (case g_DEEPEST_IF => k_is)
#print axioms PySem.Challenge.cw_seesmore_k01_watchers_read_and_written_holds

