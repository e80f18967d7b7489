import PyProof.Rows.All
import Wide.All
import OpenK.AllK
import Wide.FinOn
import HandS.ForMost
import HandS.ForExc
import HandS.Wide
import HandS.Star
import HandS.CallSlots
import HandS.WordsExc
import HandS.Flow
import HandS.IsInst
import HandS.Deep
import HandS.TupAny
import HandS.FStr
import HandS.EndBits
import HandS.ExcField
import HandS.ExcIs
import HandS.Defaults
import PySem.Challenge.RW_seesmore_k00_fractions
set_option Elab.async false
set_option linter.all false
set_option maxRecDepth 100000
set_option maxHeartbeats 2000000
/-! PD: Python by data: values as trees (D), a store of the few objects that change (Om), a small language (E, S) and what it computes; behind it the proof that the machine computes the same. -/
namespace PD
open PySem PySem.Spec PyProof.Rows L2

/-! ### data -/
inductive D where
  | non | bl (b : Bool) | int (i : Int) | str (s : Str)
  | lst (ds : List D) | tup (ds : List D) | obj (c : Nat) (fs : List D) | amb (k : Nat) | scr (ds : List D)
  deriving Inhabited
inductive Cell where
  | no | val (d : D) | own (ds : List D) | newo (c : Nat) (fs : List D) | exn
  deriving Inhabited
inductive Ob where
  | pl (ds : List D) | ob (c : Nat) (fs : List D)
  deriving Inhabited
abbrev Om := List Ob
abbrev Sl := List Cell
inductive Rs (α : Type) where
  | stuck | ok (a : α) (om : Om) | exc (c : Nat) (fs : List D) (om : Om)
def Rs.bind {α β : Type} (x : Rs α) (f : α → Om → Rs β) : Rs β := match x with
  | .stuck => .stuck
  | .ok a om => f a om
  | .exc c fs om => .exc c fs om
theorem bind_ok {α β : Type} {a : α} {om : Om} {f : α → Om → Rs β} : (Rs.ok a om).bind f = f a om := rfl
theorem bind_exc {α β : Type} {c : Nat} {fs : List D} {om : Om} {f : α → Om → Rs β} : (Rs.exc c fs om : Rs α).bind f = .exc c fs om := rfl
theorem bind_stuck {α β : Type} {f : α → Om → Rs β} : (Rs.stuck : Rs α).bind f = .stuck := rfl

mutual
def toP : D → Option PyData
  | .non => some .none
  | .bl b => some (.bool b)
  | .int i => some (.int i)
  | .str s => some (.str s)
  | .lst ds => (toPs ds).map .list
  | .tup ds => (toPs ds).map .tuple
  | .obj _ _ => none
  | .amb _ => none
  | .scr _ => none
def toPs : List D → Option (List PyData)
  | [] => some []
  | d :: ds => match toP d with
    | some p => match toPs ds with
      | some ps => some (p :: ps)
      | none => none
    | none => none
end

/-! ### data in the heap -/
/-- where classes stand, and their fields in order -/
structure Lk where
  ca : Nat → Addr
  fn : Nat → List Str
  /-- the caught exception: where it stands; its dict, its field -/
  xa : Option (Addr × Option (Addr × Str × V)) := none
mutual
inductive Rep (K : PySem.W.Frag) (L : Lk) (G : Hp) (am : List Addr) : D → V → Prop
  | non : Rep K L G am .non .non
  | bl (b : Bool) : Rep K L G am (.bl b) (.bl b)
  | int (i : Int) : Rep K L G am (.int i) (.int i)
  | str (s : Str) : Rep K L G am (.str s) (.str s)
  | lst {a : Addr} {vs : List V} {ds : List D} (h : G a = some (.lst vs)) (r : RepL K L G am ds vs) : Rep K L G am (.lst ds) (.ref a)
  | tup {a : Addr} {vs : List V} {ds : List D} (h : G a = some (.tup vs)) (r : RepL K L G am ds vs) : Rep K L G am (.tup ds) (.ref a)
  | obj {c : Nat} {a dx : Addr} {vs : List V} {fs : List D} (h : G a = some (.ins (L.ca c) dx ((L.fn c).zip vs))) (n : vs.length = (L.fn c).length) (r : RepL K L G am fs vs) : Rep K L G am (.obj c fs) (.ref a)
  | amb {k : Nat} {a : Addr} (h : am[k]? = some a) : Rep K L G am (.amb k) (.ref a)
  | scr {a : Addr} {vs : List V} {ds : List D} (h : SqL K G a vs) (r : RepL K L G am ds vs) : Rep K L G am (.scr ds) (.ref a)
inductive RepL (K : PySem.W.Frag) (L : Lk) (G : Hp) (am : List Addr) : List D → List V → Prop
  | nil : RepL K L G am [] []
  | cons {d : D} {v : V} {ds : List D} {vs : List V} (h : Rep K L G am d v) (r : RepL K L G am ds vs) : RepL K L G am (d :: ds) (v :: vs)
end
def Ex (G G' : Hp) : Prop := ∀ a o, G a = some o → G' a = some o
structure Grow (G : Hp) (am : List Addr) (G' : Hp) (am' : List Addr) : Prop where
  ex : Ex G G'
  am : ∃ t, am' = am ++ t
section
variable {K : PySem.W.Frag} {L : Lk} {G G' G'' H H' F : Hp} {am am' am'' : List Addr}
theorem Ex.refl : Ex G G := fun _ _ h => h
theorem Ex.trans (a : Ex G G') (b : Ex G' G'') : Ex G G'' := fun x o h => b x o (a x o h)
theorem Ex.new {p : Addr} {o : HO} (h : G p = none) : Ex G (upd G p o) := fun a u e => by
  rw [upd_ne (ne_of_none e h)]
  exact e
theorem Grow.refl : Grow G am G am := ⟨Ex.refl, [], (List.append_nil _).symm⟩
theorem Grow.trans (a : Grow G am G' am') (b : Grow G' am' G'' am'') : Grow G am G'' am'' := ⟨a.ex.trans b.ex, by
  obtain ⟨t, rfl⟩ := a.am
  obtain ⟨u, rfl⟩ := b.am
  exact ⟨t ++ u, List.append_assoc ..⟩⟩
theorem Grow.of {p : Addr} {o : HO} (h : G p = none) : Grow G am (upd G p o) am := ⟨Ex.new h, [], (List.append_nil _).symm⟩
theorem Grow.get (g : Grow G am G' am') {k : Nat} {a : Addr} (h : am[k]? = some a) : am'[k]? = some a := by
  obtain ⟨t, rfl⟩ := g.am
  rw [List.getElem?_append_left (List.getElem?_eq_some_iff.mp h).1]
  exact h
theorem sqL_ex {a : Addr} {xs : List V} (e : Ex G G') (h : SqL K G a xs) : SqL K G' a xs := by
  rcases h with (h | ⟨o, h⟩) | h
  · exact .inl (.inl (e _ _ h))
  · exact .inl (.inr ⟨o, e _ _ h⟩)
  · exact .inr h
theorem sqT_ex {a : Addr} {xs : List V} (e : Ex G G') (h : SqT K G a xs) : SqT K G' a xs := by
  rcases h with (h | ⟨o, h⟩) | h
  · exact .inl (.inl (e _ _ h))
  · exact .inl (.inr ⟨o, e _ _ h⟩)
  · exact .inr h
mutual
theorem Rep.grow (g : Grow G am G' am') : ∀ (d : D) (v : V), Rep K L G am d v → Rep K L G' am' d v
  | _, _, .non => .non
  | _, _, .bl b => .bl b
  | _, _, .int i => .int i
  | _, _, .str s => .str s
  | .lst ds, _, .lst h r => .lst (g.ex _ _ h) (RepL.grow g ds _ r)
  | .tup ds, _, .tup h r => .tup (g.ex _ _ h) (RepL.grow g ds _ r)
  | .obj c fs, _, .obj h n r => .obj (g.ex _ _ h) n (RepL.grow g fs _ r)
  | _, _, .amb h => .amb (g.get h)
  | .scr ds, _, .scr h r => .scr (sqL_ex g.ex h) (RepL.grow g ds _ r)
theorem RepL.grow (g : Grow G am G' am') : ∀ (ds : List D) (vs : List V), RepL K L G am ds vs → RepL K L G' am' ds vs
  | _, _, .nil => .nil
  | d :: ds, v :: vs, .cons h r => .cons (Rep.grow g d v h) (RepL.grow g ds vs r)
end
theorem Rep.up (g : Grow G am G' am') {d : D} {v : V} (h : Rep K L G am d v) : Rep K L G' am' d v := Rep.grow g d v h
theorem RepL.up (g : Grow G am G' am') {d : List D} {v : List V} (h : RepL K L G am d v) : RepL K L G' am' d v := RepL.grow g d v h
theorem RepL.length : ∀ {ds : List D} {vs : List V}, RepL K L G am ds vs → ds.length = vs.length
  | _, _, .nil => rfl
  | _, _, .cons _ r => by rw [List.length_cons, List.length_cons, RepL.length r]
theorem RepL.append : ∀ {ds es : List D} {vs ws : List V}, RepL K L G am ds vs → RepL K L G am es ws → RepL K L G am (ds ++ es) (vs ++ ws)
  | _, _, _, _, .nil, r => r
  | _, _, _, _, .cons h q, r => .cons h (RepL.append q r)
theorem RepL.get : ∀ {ds : List D} {vs : List V} {i : Nat} {d : D}, RepL K L G am ds vs → ds[i]? = some d → ∃ v, vs[i]? = some v ∧ Rep K L G am d v
  | _, _, _, _, .nil, h => by simp at h
  | _, _, 0, _, .cons h _, e => ⟨_, rfl, by
    have := Option.some.inj e
    subst this
    exact h⟩
  | _ :: ds, _ :: vs, i + 1, d, .cons _ r, e => by
    have e' : ds[i]? = some d := e
    exact RepL.get (ds := ds) (vs := vs) (i := i) (d := d) r e'
theorem RepL.getV : ∀ {ds : List D} {vs : List V} {i : Nat} {v : V}, RepL K L G am ds vs → vs[i]? = some v → ∃ d, ds[i]? = some d ∧ Rep K L G am d v
  | _, _, _, _, .nil, h => by simp at h
  | _, _, 0, _, .cons h _, e => ⟨_, rfl, by
    have := Option.some.inj e
    subst this
    exact h⟩
  | _ :: ds, _ :: vs, i + 1, v, .cons _ r, e => by
    have e' : vs[i]? = some v := e
    exact RepL.getV (ds := ds) (vs := vs) (i := i) (v := v) r e'
theorem RepL.take : ∀ {ds : List D} {vs : List V} (n : Nat), RepL K L G am ds vs → RepL K L G am (ds.take n) (vs.take n)
  | _, _, 0, _ => .nil
  | _, _, _ + 1, .nil => .nil
  | _, _, n + 1, .cons h r => .cons h (RepL.take n r)
theorem RepL.drop : ∀ {ds : List D} {vs : List V} (n : Nat), RepL K L G am ds vs → RepL K L G am (ds.drop n) (vs.drop n)
  | _, _, 0, r => r
  | _, _, _ + 1, .nil => .nil
  | _, _, n + 1, .cons _ r => RepL.drop n r
theorem RepL.set : ∀ {ds : List D} {vs : List V} (i : Nat) {d : D} {v : V}, RepL K L G am ds vs → Rep K L G am d v → RepL K L G am (ds.set i d) (vs.set i v)
  | _, _, _, _, _, .nil, _ => .nil
  | _, _, 0, _, _, .cons _ r, q => .cons q r
  | _, _, i + 1, _, _, .cons h r, q => .cons h (RepL.set i r q)
theorem RepL.rep {ds : List D} {vs : List V} (r : RepL K L G am ds vs) : ∀ n : Nat, RepL K L G am (List.replicate n ds).flatten (List.replicate n vs).flatten
  | 0 => .nil
  | n + 1 => by
    rw [List.replicate_succ, List.replicate_succ, List.flatten_cons, List.flatten_cons]
    exact r.append (RepL.rep r n)
end
/-! ### the store of the objects that change -/
def ObR (K : PySem.W.Frag) (L : Lk) (G : Hp) (am : List Addr) (H : Hp) : Ob → Addr → Prop
  | .pl ds, a => ∃ vs, H a = some (.lst vs) ∧ RepL K L G am ds vs
  | .ob c fs, a => ∃ dx vs, H a = some (.ins (L.ca c) dx ((L.fn c).zip vs)) ∧ vs.length ≤ (L.fn c).length ∧ RepL K L G am fs vs
/-- G: what stands for good; F: what others hold and nobody here touches; am: where the objects that change stand -/
structure Mem (K : PySem.W.Frag) (L : Lk) (F G : Hp) (am : List Addr) (om : Om) (H : Hp) : Prop where
  gH : Ex G H
  fH : Ex F H
  fg : ∀ a o, F a = some o → G a = none
  len : am.length = om.length
  obs : ∀ (k : Nat) (a : Addr) (o : Ob), am[k]? = some a → om[k]? = some o → ObR K L G am H o a
  nd : am.Nodup
  ag : ∀ a ∈ am, G a = none
  af : ∀ a ∈ am, F a = none
theorem ObR.grow {K : PySem.W.Frag} {L : Lk} {G G' H H' : Hp} {am am' : List Addr} (g : Grow G am G' am') {o : Ob} {a : Addr} (h : ObR K L G am H o a) (e : ∀ u, H a = some u → H' a = some u) : ObR K L G' am' H' o a := by
  cases o with
  | pl ds =>
    obtain ⟨vs, h1, r⟩ := h
    exact ⟨vs, e _ h1, r.up g⟩
  | ob c fs =>
    obtain ⟨dx, vs, h1, n, r⟩ := h
    exact ⟨dx, vs, e _ h1, n, r.up g⟩
theorem ObR.some {K : PySem.W.Frag} {L : Lk} {G H : Hp} {am : List Addr} {o : Ob} {a : Addr} (h : ObR K L G am H o a) : ∃ u, H a = some u := by
  cases o with
  | pl ds =>
    obtain ⟨vs, h1, r⟩ := h
    exact ⟨_, h1⟩
  | ob c fs =>
    obtain ⟨dx, vs, h1, n, r⟩ := h
    exact ⟨_, h1⟩
section
variable {K : PySem.W.Frag} {L : Lk} {F G H : Hp} {am : List Addr} {om : Om} {p : Addr} {u : HO}
theorem Mem.amb (M : Mem K L F G am om H) {k : Nat} {a : Addr} (h : am[k]? = some a) : ∃ o, om[k]? = some o ∧ ObR K L G am H o a := by
  have hk : k < om.length := by
    rw [← M.len]
    exact (List.getElem?_eq_some_iff.mp h).1
  exact ⟨om[k], List.getElem?_eq_getElem hk, M.obs k a _ h (List.getElem?_eq_getElem hk)⟩
theorem Mem.there (M : Mem K L F G am om H) {a : Addr} (h : a ∈ am) : ∃ u, H a = some u := by
  obtain ⟨k, hk, e⟩ := List.mem_iff_getElem.mp h
  obtain ⟨o, _, r⟩ := M.amb (k := k) (a := a) (by rw [List.getElem?_eq_getElem hk, e])
  exact r.some
theorem Mem.none_g (M : Mem K L F G am om H) (h : H p = none) : G p = none := by
  cases e : G p with
  | none => rfl
  | some o =>
    rw [M.gH _ _ e] at h
    cases h
theorem Mem.none_f (M : Mem K L F G am om H) (h : H p = none) : F p = none := by
  cases e : F p with
  | none => rfl
  | some o =>
    rw [M.fH _ _ e] at h
    cases h
theorem Mem.none_am (M : Mem K L F G am om H) (h : H p = none) : p ∉ am := fun hp => by
  obtain ⟨u, e⟩ := M.there hp
  rw [e] at h
  cases h
/-- a new object for good -/
theorem Mem.new (M : Mem K L F G am om H) (h : H p = none) : Mem K L F (upd G p u) am om (upd H p u) := by
  have hg := M.none_g h
  have hf := M.none_f h
  refine ⟨fun a o e => ?_, fun a o e => ?_, fun a o e => ?_, M.len, fun k a o h1 h2 => ?_, M.nd, fun a ha => ?_, M.af⟩
  · by_cases c : a = p
    · subst c
      rw [upd_same] at e ⊢
      exact e
    · rw [upd_ne c] at e ⊢
      exact M.gH _ _ e
  · rw [upd_ne (fun c => by rw [c, hf] at e; cases e)]
    exact M.fH _ _ e
  · rw [upd_ne (fun c => by rw [c, hf] at e; cases e)]
    exact M.fg _ _ e
  · refine (M.obs k a o h1 h2).grow (Grow.of hg) fun u e => ?_
    rw [upd_ne (ne_of_none e h)]
    exact e
  · rw [upd_ne (fun c => M.none_am h (by rw [← c]; exact ha))]
    exact M.ag _ ha
/-- a new object that somebody here holds alone -/
theorem Mem.newF (M : Mem K L F G am om H) (h : H p = none) : Mem K L (upd F p u) G am om (upd H p u) := by
  have hg := M.none_g h
  have hf := M.none_f h
  refine ⟨fun a o e => ?_, fun a o e => ?_, fun a o e => ?_, M.len, fun k a o h1 h2 => ?_, M.nd, M.ag, fun a ha => ?_⟩
  · rw [upd_ne (fun c => by rw [c, hg] at e; cases e)]
    exact M.gH _ _ e
  · by_cases c : a = p
    · subst c
      rw [upd_same] at e ⊢
      exact e
    · rw [upd_ne c] at e ⊢
      exact M.fH _ _ e
  · by_cases c : a = p
    · subst c
      exact hg
    · rw [upd_ne c] at e
      exact M.fg _ _ e
  · refine (M.obs k a o h1 h2).grow Grow.refl fun u e => ?_
    rw [upd_ne (ne_of_none e h)]
    exact e
  · rw [upd_ne (fun c => M.none_am h (by rw [← c]; exact ha))]
    exact M.af _ ha
/-- an object untracked by all here may come into H -/
theorem Mem.more (M : Mem K L F G am om H) (h : H p = none) : Mem K L F G am om (upd H p u) := by
  have hg := M.none_g h
  have hf := M.none_f h
  refine ⟨fun a o e => ?_, fun a o e => ?_, M.fg, M.len, fun k a o h1 h2 => ?_, M.nd, M.ag, M.af⟩
  · rw [upd_ne (fun c => by rw [c, hg] at e; cases e)]
    exact M.gH _ _ e
  · rw [upd_ne (fun c => by rw [c, hf] at e; cases e)]
    exact M.fH _ _ e
  · refine (M.obs k a o h1 h2).grow Grow.refl fun u e => ?_
    rw [upd_ne (ne_of_none e h)]
    exact e
/-- what is held alone is changed -/
theorem Mem.setF (M : Mem K L F G am om H) {o : HO} (h : F p = some o) : Mem K L (upd F p u) G am om (upd H p u) := by
  have hg := M.fg _ _ h
  have ha : p ∉ am := fun c => by
    rw [M.af _ c] at h
    cases h
  refine ⟨fun a o e => ?_, fun a o e => ?_, fun a o e => ?_, M.len, fun k a o h1 h2 => ?_, M.nd, M.ag, fun a hm => ?_⟩
  · rw [upd_ne (fun c => by rw [c, hg] at e; cases e)]
    exact M.gH _ _ e
  · by_cases c : a = p
    · subst c
      rw [upd_same] at e ⊢
      exact e
    · rw [upd_ne c] at e ⊢
      exact M.fH _ _ e
  · by_cases c : a = p
    · subst c
      exact hg
    · rw [upd_ne c] at e
      exact M.fg _ _ e
  · refine (M.obs k a o h1 h2).grow Grow.refl fun u e => ?_
    rw [upd_ne (fun c => ha (by rw [← c]; exact List.mem_of_getElem? h1))]
    exact e
  · rw [upd_ne (fun c => ha (by rw [← c]; exact hm))]
    exact M.af _ hm
theorem Mem.inF (M : Mem K L F G am om H) {o : HO} (h : F p = some o) : p ∉ am := fun c => by
  rw [M.af _ c] at h
  cases h
/-- what is held alone is given away for good -/
theorem Mem.freeze (M : Mem K L F G am om H) {o : HO} (h : F p = some o) {F' : Hp} (e1 : ∀ a u, F' a = some u → F a = some u ∧ a ≠ p) : Mem K L F' (upd G p o) am om H := by
  have hg := M.fg _ _ h
  have ha := M.inF h
  refine ⟨fun a u e => ?_, fun a u e => M.fH _ _ (e1 a u e).1, fun a u e => ?_, M.len, fun k a u h1 h2 => ?_, M.nd, fun a hm => ?_, fun a hm => ?_⟩
  · by_cases c : a = p
    · subst c
      rw [upd_same] at e
      rw [← e]
      exact M.fH _ _ h
    · rw [upd_ne c] at e
      exact M.gH _ _ e
  · rw [upd_ne (e1 a u e).2]
    exact M.fg _ _ (e1 a u e).1
  · exact (M.obs k a u h1 h2).grow (Grow.of hg) fun _ e => e
  · rw [upd_ne (fun c => ha (by rw [← c]; exact hm))]
    exact M.ag _ hm
  · cases e : F' a with
    | none => rfl
    | some u =>
      have z := (e1 a u e).1
      rw [M.af _ hm] at z
      cases z
/-- an object of the store is changed -/
theorem Mem.setA (M : Mem K L F G am om H) {k : Nat} {o' : Ob} (h : am[k]? = some p) (r : ObR K L G am (upd H p u) o' p) : Mem K L F G am (om.set k o') (upd H p u) := by
  have hm : p ∈ am := List.mem_of_getElem? h
  have hg := M.ag _ hm
  have hf := M.af _ hm
  have hk : k < am.length := (List.getElem?_eq_some_iff.mp h).1
  refine ⟨fun a o e => ?_, fun a o e => ?_, M.fg, by rw [List.length_set]; exact M.len, fun j a o h1 h2 => ?_, M.nd, M.ag, M.af⟩
  · rw [upd_ne (fun c => by rw [c, hg] at e; cases e)]
    exact M.gH _ _ e
  · rw [upd_ne (fun c => by rw [c, hf] at e; cases e)]
    exact M.fH _ _ e
  · by_cases c : j = k
    · subst c
      rw [h] at h1
      cases h1
      rw [List.getElem?_set_self (by rw [← M.len]; exact hk)] at h2
      cases h2
      exact r
    · rw [List.getElem?_set_ne (fun z => c z.symm)] at h2
      refine (M.obs j a o h1 h2).grow Grow.refl fun u e => ?_
      have hne : a ≠ p := fun z => by
        subst z
        have hj : j < am.length := (List.getElem?_eq_some_iff.mp h1).1
        have e1 := (List.getElem?_eq_some_iff.mp h1).2
        have e2 := (List.getElem?_eq_some_iff.mp h).2
        exact c ((List.getElem_inj M.nd).mp (e1.trans e2.symm))
      rw [upd_ne hne]
      exact e
/-- a new object of the store -/
theorem Mem.newA (M : Mem K L F G am om H) (h : H p = none) {o' : Ob} (r : ObR K L G (am ++ [p]) (upd H p u) o' p) : Mem K L F G (am ++ [p]) (om ++ [o']) (upd H p u) := by
  have hg := M.none_g h
  have hf := M.none_f h
  have ha := M.none_am h
  refine ⟨fun a o e => ?_, fun a o e => ?_, M.fg, by rw [List.length_append, List.length_append, M.len]; rfl, fun j a o h1 h2 => ?_, ?_, fun a hm => ?_, fun a hm => ?_⟩
  · rw [upd_ne (fun c => by rw [c, hg] at e; cases e)]
    exact M.gH _ _ e
  · rw [upd_ne (fun c => by rw [c, hf] at e; cases e)]
    exact M.fH _ _ e
  · by_cases c : j < am.length
    · rw [List.getElem?_append_left c] at h1
      rw [List.getElem?_append_left (by rw [← M.len]; exact c)] at h2
      refine (M.obs j a o h1 h2).grow ⟨Ex.refl, [p], rfl⟩ fun u e => ?_
      rw [upd_ne (ne_of_none e h)]
      exact e
    · rw [List.getElem?_append_right (by omega)] at h1
      rw [List.getElem?_append_right (by rw [← M.len]; omega), ← M.len] at h2
      have hj : j - am.length = 0 := by
        cases q : j - am.length with
        | zero => rfl
        | succ m =>
          rw [q] at h1
          simp at h1
      rw [hj] at h1 h2
      simp at h1 h2
      subst h1; subst h2
      exact r
  · rw [List.nodup_append]
    refine ⟨M.nd, by simp, fun a h1 b h2 => ?_⟩
    simp at h2
    subst h2
    exact fun c => ha (by rw [← c]; exact h1)
  · rw [List.mem_append] at hm
    rcases hm with hm | hm
    · exact M.ag _ hm
    · simp at hm
      subst hm
      exact hg
  · rw [List.mem_append] at hm
    rcases hm with hm | hm
    · exact M.af _ hm
    · simp at hm
      subst hm
      exact hf
end
/-! ### the slots -/
def CellR (K : PySem.W.Frag) (L : Lk) (F G : Hp) (am : List Addr) : Cell → Option V → Prop
  | .no, _ => True
  | .val d, o => ∃ v, o = some v ∧ Rep K L G am d v
  | .own ds, o => ∃ a vs, o = some (.ref a) ∧ F a = some (.lst vs) ∧ RepL K L G am ds vs
  | .newo c fs, o => ∃ a dx vs, o = some (.ref a) ∧ F a = some (.ins (L.ca c) dx ((L.fn c).zip vs)) ∧ vs.length ≤ (L.fn c).length ∧ RepL K L G am fs vs
  | .exn, o => ∃ a x, L.xa = some (a, x) ∧ o = some (.ref a) ∧ ∀ dd nm v, x = some (dd, nm, v) → G dd = some (.xd [(nm, v)])
def SlR (K : PySem.W.Frag) (L : Lk) (F G : Hp) (am : List Addr) (sl : Sl) (σ : L2.St) : Prop :=
  sl.length = σ.length ∧ ∀ (i : Nat) (c : Cell) (o : Option V), sl[i]? = some c → σ[i]? = some o → CellR K L F G am c o
section
variable {K : PySem.W.Frag} {L : Lk} {F G G' H : Hp} {am am' : List Addr} {om : Om} {sl : Sl} {σ : L2.St}
theorem CellR.grow (g : Grow G am G' am') {c : Cell} {o : Option V} (h : CellR K L F G am c o) : CellR K L F G' am' c o := by
  cases c with
  | no => trivial
  | val d =>
    obtain ⟨v, e, r⟩ := h
    exact ⟨v, e, r.up g⟩
  | own ds =>
    obtain ⟨a, vs, e, f, r⟩ := h
    exact ⟨a, vs, e, f, r.up g⟩
  | newo c fs =>
    obtain ⟨a, dx, vs, e, f, n, r⟩ := h
    exact ⟨a, dx, vs, e, f, n, r.up g⟩
  | exn =>
    obtain ⟨a, x, e1, e2, k⟩ := h
    exact ⟨a, x, e1, e2, fun dd nm v q => g.ex _ _ (k dd nm v q)⟩
theorem SlR.grow (g : Grow G am G' am') (h : SlR K L F G am sl σ) : SlR K L F G' am' sl σ := ⟨h.1, fun i c o a b => (h.2 i c o a b).grow g⟩
theorem SlR.at (h : SlR K L F G am sl σ) {i : Nat} {c : Cell} (e : sl[i]? = some c) : ∃ o, σ[i]? = some o ∧ CellR K L F G am c o := by
  have hi : i < σ.length := by
    rw [← h.1]
    exact (List.getElem?_eq_some_iff.mp e).1
  exact ⟨σ[i], List.getElem?_eq_getElem hi, h.2 i c _ e (List.getElem?_eq_getElem hi)⟩
theorem SlR.set (h : SlR K L F G am sl σ) {i : Nat} {c : Cell} {o : Option V} (r : CellR K L F G am c o) : SlR K L F G am (sl.set i c) (σ.set i o) := by
  refine ⟨by rw [List.length_set, List.length_set]; exact h.1, fun j c' o' a b => ?_⟩
  by_cases e : i = j
  · subst e
    have h1 : i < sl.length := by
      have := (List.getElem?_eq_some_iff.mp a).1
      rwa [List.length_set] at this
    rw [List.getElem?_set_self h1] at a
    rw [List.getElem?_set_self (by rw [← h.1]; exact h1)] at b
    cases a; cases b
    exact r
  · rw [List.getElem?_set_ne e] at a b
    exact h.2 j c' o' a b
end
end PD

set_option Elab.async false
set_option linter.all false
set_option maxRecDepth 100000
set_option maxHeartbeats 2000000
/-! PDB: the small language and what it computes. -/
namespace PD
open PySem PySem.Spec PyProof.Rows L2
inductive Bop where
  | add | sub | mul | fdiv | mod | pow
inductive Cop where
  | eq | ne | lt | le | gt | ge | inn | nin | is | isn
inductive Ty where
  | tuple | list | int | bool | str | own (c : Nat)
inductive Bi where
  | len | abs | str | int | list | tuple | bool | sum | any | all
inductive Mb where
  | join | split | partition
inductive Tg where
  | one (i : Nat) | many (is : List Nat)
/-- expressions; nil, cons, star: argument lists; itl .. zip: what a loop walks -/
inductive E where
  | v (i : Nat) | b (i : Nat) | k (d : D)
  | op (o : Bop) (a b : E) | cat (a b : E) | rp (a b : E) | neg (a : E)
  | no (a : E) | an (a b : E) | or (a b : E) | ite (c a b : E)
  | cm (o : Cop) (a b : E) | ch (o o' : Cop) (a b c : E)
  | call (f : Nat) (dv : List D) (as : E) | mk (c f : Nat) (dv : List D) (as : E) | mka (c f : Nat) (dv : List D) (as : E) | meth (c f : Nat) (dv : List D) (o as : E)
  | fld (c j : Nat) (a : E) | fs (c j : Nat) | xf (i : Nat) (d : D) | bi (b : Bi) (a : E) | mb (m : Mb) (o a : E) | isi (ts : List Ty) (a : E)
  | ix (a b : E) | sl (a lo hi : E) | nop | fstr (as : E)
  | tup (as : E) | lst (as : E) | comp (tg : Tg) (it cond elt : E)
  | nil | cons (a as : E) | star (a as : E)
  | itl (a : E) | rng1 (a : E) | rng2 (a b : E) | enu (a : E) | zip (a b : E)
/-- the program's table: calls, makers of instances, operators by own methods -/
structure Tb where
  wf : Nat
  call : Nat → List D → Om → Rs D
  init : Nat → List D → Om → Rs (List D)
  fresh : Nat → Bool
  opm : Nat → Bop → Option Nat
  eqm : Nat → Option Nat
  strm : Nat → Option Nat
  nf : Nat → Nat
instance (i j : Int) : Decidable (CMulW i j) := inferInstanceAs (Decidable (_ < _))
instance (i j : Int) : Decidable (CDivW i j) := inferInstanceAs (Decidable (_ ∧ _))
instance (i j : Int) : Decidable (CPow i j) := inferInstanceAs (Decidable (_ ∧ _ ∧ _))
/-- nothing may be raised -/
def Rs.nox {α : Type} (r : Rs α) : Rs α := match r with
  | .ok a om => .ok a om
  | _ => .stuck
theorem nox_ok {α : Type} {a : α} {om : Om} : (Rs.ok a om).nox = .ok a om := rfl
def bop (T : Tb) : Bop → D → D → Om → Rs D
  | .add, .int i, .int j, om => .ok (.int (i + j)) om
  | .sub, .int i, .int j, om => .ok (.int (i - j)) om
  | .mul, .int i, .int j, om => if CMulW i j then .ok (.int (i * j)) om else .stuck
  | .fdiv, .int i, .int j, om => if CDivW i j then .ok (.int (i / j)) om else .stuck
  | .mod, .int i, .int j, om => if 0 < j then .ok (.int (i % j)) om else .stuck
  | .pow, .int i, .int j, om => if CPow i j then .ok (.int (i ^ j.toNat)) om else .stuck
  | .add, .str s, .str t, om => if s.length + t.length ≤ 1000000 then .ok (.str (s ++ t)) om else .stuck
  | .add, .lst xs, .lst ys, om => if xs.length + ys.length ≤ 1000000 then .ok (.lst (xs ++ ys)) om else .stuck
  | .add, .tup xs, .tup ys, om => if xs.length + ys.length ≤ 1000000 then .ok (.tup (xs ++ ys)) om else .stuck
  | .mul, .lst xs, .int k, om => if 0 ≤ k ∧ k ≤ 1000000 ∧ xs.length * k.toNat ≤ 1000000 then .ok (.lst (List.replicate k.toNat xs).flatten) om else .stuck
  | o, .obj c fs, .obj c' gs, om => if c = c' then match T.opm c o with
      | some f => (T.call f [.obj c fs, .obj c' gs] om).nox
      | none => .stuck
    else .stuck
  | _, _, _, _ => .stuck
/-- list + list, list * int: a new list -/
def catD : D → D → Om → Rs D
  | .lst xs, .lst ys, om => if xs.length + ys.length ≤ 1000000 then .ok (.lst (xs ++ ys)) om else .stuck
  | _, _, _ => .stuck
def repD : D → D → Om → Rs D
  | .lst xs, .int k, om => if 0 ≤ k ∧ k ≤ 1000000 ∧ xs.length * k.toNat ≤ 1000000 then .ok (.lst (List.replicate k.toNat xs).flatten) om else .stuck
  | _, _, _ => .stuck
def eqD (T : Tb) (x y : D) (om : Om) : Rs Bool := match x, y with
  | .obj c fs, .obj c' gs => if c = c' then match T.eqm c with
      | some f => match T.call f [.obj c fs, .obj c' gs] om with
        | .ok (.bl b) om' => .ok b om'
        | _ => .stuck
      | none => .stuck
    else .stuck
  | x, y => match toP x, toP y with
    | some p, some q => if (SeqAt.shaped p && SeqAt.shaped q) = true then .ok (PyData.eqv p q) om else .stuck
    | _, _ => .stuck
def inD (x : D) (ys : List D) : Option Bool := match toP x, toPs ys with
  | some p, some qs => if (SeqAt.shaped p && SeqAt.shaped (.list qs)) = true then some (qs.any fun z => PyData.eqv z p) else none
  | _, _ => none
def flatD : D → Bool
  | .non => true | .bl _ => true | .int _ => true | .str _ => true
  | _ => false
def inT (x : D) (ys : List D) : Option Bool := if (flatD x && ys.all flatD) = true then match toP x, toPs ys with
    | some p, some qs => some (qs.any fun z => PyData.eqv z p)
    | _, _ => none
  else none
def ltD : D → D → Option Bool
  | .int i, .int j => some (decide (i < j))
  | .str i, .str j => some (decide (i.cps.toList < j.cps.toList))
  | _, _ => none
def leD : D → D → Option Bool
  | .int i, .int j => some (decide (i ≤ j))
  | .str i, .str j => some (!decide (j.cps.toList < i.cps.toList))
  | _, _ => none
def gtD : D → D → Option Bool
  | .int i, .int j => some (decide (j < i))
  | _, _ => none
def geD : D → D → Option Bool
  | .int i, .int j => some (decide (j ≤ i))
  | _, _ => none
def inX (x : D) : D → Option Bool
  | .str j => match x with
    | .str i => some (!(Builtin.Str.occurrences j i 0 j.length 1).isEmpty)
    | _ => none
  | .lst ys => inD x ys
  | .tup ys => inT x ys
  | _ => none
def isN (x : D) : D → Option Bool
  | .non => match x with
    | .non => some true
    | .bl _ => some false
    | .int _ => some false
    | .str _ => some false
    | .lst _ => some false
    | .tup _ => some false
    | .obj _ _ => some false
    | _ => none
  | _ => none
def opt (o : Option Bool) (om : Om) : Rs Bool := match o with
  | some b => .ok b om
  | none => .stuck
def neD (x y : D) (om : Om) : Rs Bool := match toP x, toP y with
  | some p, some q => if (SeqAt.shaped p && SeqAt.shaped q) = true then .ok (!PyData.eqv p q) om else .stuck
  | _, _ => .stuck
def cmp (T : Tb) (o : Cop) (x y : D) (om : Om) : Rs Bool := match o with
  | .eq => eqD T x y om
  | .ne => neD x y om
  | .lt => opt (ltD x y) om
  | .le => opt (leD x y) om
  | .gt => opt (gtD x y) om
  | .ge => opt (geD x y) om
  | .inn => opt (inX x y) om
  | .nin => opt ((inX x y).map (!·)) om
  | .is => opt (isN x y) om
  | .isn => opt ((isN x y).map (!·)) om
def truD : D → Option Bool
  | .non => some false
  | .bl b => some b
  | .int i => some (i != 0)
  | .str s => if s.length ≤ 1000000 then some ((s.length : Int) != 0) else none
  | .lst ds => some (!ds.isEmpty)
  | .tup ds => some (!ds.isEmpty)
  | _ => none
def tru (d : D) (om : Om) : Rs Bool := match truD d with
  | some b => .ok b om
  | none => .stuck
def intsD : List D → Option (List Int)
  | [] => some []
  | .int i :: r => (intsD r).map (i :: ·)
  | _ :: _ => none
def blsD : List D → Option (List Bool)
  | [] => some []
  | .bl i :: r => (blsD r).map (i :: ·)
  | _ :: _ => none
def strsD : List D → Option (List Str)
  | [] => some []
  | .str i :: r => (strsD r).map (i :: ·)
  | _ :: _ => none
def biD (T : Tb) : Bi → D → Om → Rs D
  | .len, .lst ds, om => .ok (.int ds.length) om
  | .len, .tup ds, om => .ok (.int ds.length) om
  | .len, .scr ds, om => .ok (.int ds.length) om
  | .len, .str s, om => if s.length ≤ 1000000 then .ok (.int s.length) om else .stuck
  | .abs, .int i, om => .ok (.int (if i < 0 then -i else i)) om
  | .str, .int i, om => if i.natAbs.log2 < 1920 then .ok (.str (toString i)) om else .stuck
  | .str, .obj c fs, om => match T.strm c with
    | some f => match T.call f [.obj c fs] om with
      | .ok (.str s) om' => .ok (.str s) om'
      | _ => .stuck
    | none => .stuck
  | .int, .int i, om => .ok (.int i) om
  | .int, .bl b, om => .ok (.int (if b then 1 else 0)) om
  | .int, .str s, om => match PySem.intText? s with
    | some n => if s.length ≤ 640 then .ok (.int n) om else .stuck
    | none => .stuck
  | .bool, .int i, om => .ok (.bl (i != 0)) om
  | .bool, .bl b, om => .ok (.bl b) om
  | .list, .lst ds, om => .ok (.lst ds) om
  | .list, .tup ds, om => .ok (.lst ds) om
  | .list, .scr ds, om => .ok (.lst ds) om
  | .tuple, .lst ds, om => .ok (.tup ds) om
  | .tuple, .tup ds, om => .ok (.tup ds) om
  | .sum, .lst ds, om => match intsD ds with
    | some ns => .ok (.int ns.sum) om
    | none => .stuck
  | .any, .lst ds, om => match blsD ds with
    | some bs => .ok (.bl (bs.any id)) om
    | none => .stuck
  | .all, .lst ds, om => match blsD ds with
    | some bs => .ok (.bl (bs.all id)) om
    | none => .stuck
  | _, _, _ => .stuck
def mbf : Mb → Str → D → Om → Rs D
  | .join, s, .lst ds, om => match strsD ds with
    | some ys => if (ys.map (·.length)).sum + ys.length * s.length ≤ 1000000 then .ok (.str (Txt.join s ys)) om else .stuck
    | none => .stuck
  | .split, a, .str b, om => if (b.length == 0) = false ∧ a.length + 2 ≤ 1000000 then .ok (.lst ((Txt.split a b).map D.str)) om else .stuck
  | .partition, a, .str b, om => if (b.length == 0) = false ∧ a.length ≤ 1000000 then .ok (.tup [.str (Txt.partition a b).1, .str (Txt.partition a b).2.1, .str (Txt.partition a b).2.2]) om else .stuck
  | _, _, _, _ => .stuck
def isT : Ty → D → Option Bool
  | .tuple, d => match d with | .tup _ => some true | .non => some false | .bl _ => some false | .int _ => some false | .str _ => some false | .lst _ => some false | _ => none
  | .list, d => match d with | .lst _ => some true | .non => some false | .bl _ => some false | .int _ => some false | .str _ => some false | .tup _ => some false | _ => none
  | .int, d => match d with | .int _ => some true | .bl _ => some true | .non => some false | .str _ => some false | .tup _ => some false | .lst _ => some false | _ => none
  | .bool, d => match d with | .bl _ => some true | .int _ => some false | .non => some false | .str _ => some false | .tup _ => some false | .lst _ => some false | _ => none
  | .str, d => match d with | .str _ => some true | .int _ => some false | .non => some false | .bl _ => some false | .tup _ => some false | .lst _ => some false | _ => none
  | .own c, d => match d with | .obj c' _ => if c' = c then some true else none | _ => none
def isA : List Ty → D → Option Bool
  | [], _ => some false
  | t :: ts, d => match isT t d with
    | some true => some true
    | some false => isA ts d
    | none => none
def ixD : D → D → Om → Rs D
  | .lst ds, .int i, om => match atI ds i with | some d => .ok d om | none => .stuck
  | .tup ds, .int i, om => match atI ds i with | some d => .ok d om | none => .stuck
  | .scr ds, .int i, om => match atI ds i with | some d => .ok d om | none => .stuck
  | .str s, .int i, om => if s.length ≤ 1000000 then match atI s.cps.toList i with | some c => .ok (.str ⟨#[c]⟩) om | none => .stuck else .stuck
  | .amb k, .int i, om => match om[k]? with
    | some (.pl ds) => match atI ds i with | some d => .ok d om | none => .stuck
    | _ => .stuck
  | _, _, _ => .stuck
def cutD (xs : List D) (lo hi : Option Int) : List D := (xs.drop (HT.sIx xs.length 0 lo)).take (HT.sIx xs.length xs.length hi - HT.sIx xs.length 0 lo)
def slD : D → Option Int → Option Int → Om → Rs D
  | .lst ds, lo, hi, om => .ok (.lst (cutD ds lo hi)) om
  | .tup ds, lo, hi, om => .ok (.tup (cutD ds lo hi)) om
  | .str s, lo, hi, om => if s.length ≤ 1000000 then .ok (.str (cutS s lo hi)) om else .stuck
  | _, _, _, _ => .stuck
def fldD (c j : Nat) : D → Om → Rs D
  | .obj c' fs, om => if c' = c then match fs[j]? with | some d => .ok d om | none => .stuck else .stuck
  | .amb k, om => match om[k]? with
    | some (.ob c' fs) => if c' = c then match fs[j]? with | some d => .ok d om | none => .stuck else .stuck
    | _ => .stuck
  | _, _ => .stuck
/-- an instance of that class -/
def isC (c : Nat) (x : D) (om : Om) : Bool := match x with
  | .obj c' _ => c' == c
  | .amb k => match om[k]? with
    | some (.ob c' _) => c' == c
    | _ => false
  | _ => false
def sets (sl : Sl) : List Nat → List D → Sl
  | i :: is, d :: ds => sets (sl.set i (.val d)) is ds
  | _, _ => sl
def setT (sl : Sl) : Tg → D → Option Sl
  | .one i, d => some (sl.set i (.val d))
  | .many is, .tup ds => if ds.length = is.length then some (sets sl is ds) else none
  | _, _ => none
def items : D → Option (List D)
  | .lst ds => some ds
  | .tup ds => some ds
  | .scr ds => some ds
  | .str s => some (s.cps.toList.map fun c => .str ⟨#[c]⟩)
  | _ => none
def fmt (T : Tb) : D → Om → Rs Str
  | .str s, om => if s.length ≤ 1000000 then .ok s om else .stuck
  | .int i, om => if i.natAbs.log2 < 1920 then .ok (toString i) om else .stuck
  | _, _ => .stuck
def part : D → Option Int
  | .int i => some i
  | _ => none
def tgIx : Tg → List Nat
  | .one i => [i]
  | .many is => is
def wipeS (sl : Sl) : List Nat → Sl
  | [] => sl
  | i :: is => (wipeS sl is).set i .no
def compGo (ct : Sl → Om → Rs Bool) (el : Sl → Om → Rs D) (tg : Tg) (sl : Sl) : List D → Om → Rs (List D)
  | [], om => .ok [] om
  | d :: ds, om => match setT sl tg d with
    | none => .stuck
    | some sl' => match ct sl' om with
      | .ok true om1 => match el sl' om1 with
        | .ok x om2 => match compGo ct el tg sl ds om2 with
          | .ok xs om3 => .ok (x :: xs) om3
          | _ => .stuck
        | _ => .stuck
      | .ok false om1 => compGo ct el tg sl ds om1
      | _ => .stuck
def isNop : E → Bool
  | .nop => true
  | _ => false
mutual
def evE (T : Tb) : E → Sl → Om → Rs D
  | .v i, sl, om => match sl[i]? with | some (.val d) => .ok d om | _ => .stuck
  | .b i, sl, om => match sl[i]? with | some (.val d) => .ok d om | some (.own ds) => .ok (.lst ds) om | _ => .stuck
  | .k d, _, om => .ok d om
  | .op o a b, sl, om => (evE T a sl om).bind fun x om => (evE T b sl om).bind fun y om => bop T o x y om
  | .cat a b, sl, om => (evE T a sl om).bind fun x om => (evE T b sl om).bind fun y om => catD x y om
  | .rp a b, sl, om => (evE T a sl om).bind fun x om => (evE T b sl om).bind fun y om => repD x y om
  | .neg a, sl, om => (evE T a sl om).bind fun x om => match x with | .int i => .ok (.int (-i)) om | _ => .stuck
  | .no a, sl, om => (evE T a sl om).bind fun x om => (tru x om).bind fun b om => .ok (.bl (!b)) om
  | .an a b, sl, om => (evE T a sl om).bind fun x om => (tru x om).bind fun c om => if c = true then evE T b sl om else .ok x om
  | .or a b, sl, om => (evE T a sl om).bind fun x om => (tru x om).bind fun c om => if c = true then .ok x om else evE T b sl om
  | .ite c a b, sl, om => (evE T c sl om).bind fun x om => (tru x om).bind fun c om => if c = true then evE T a sl om else evE T b sl om
  | .cm o a b, sl, om => (evE T a sl om).bind fun x om => (evE T b sl om).bind fun y om => (cmp T o x y om).bind fun c om => .ok (.bl c) om
  | .ch o o' a b c, sl, om => (evE T a sl om).bind fun x om => (evE T b sl om).bind fun y om => (cmp T o x y om).bind fun r om => if r = true then (evE T c sl om).bind fun z om => (cmp T o' y z om).bind fun r om => .ok (.bl r) om else .ok (.bl false) om
  | .call f dv as, sl, om => (evL T as sl om).bind fun xs om => T.call f (xs ++ dv) om
  | .mk c f dv as, sl, om => (evL T as sl om).bind fun xs om => (T.init f (xs ++ dv) om).bind fun fs om => if fs.length = T.nf c then .ok (.obj c fs) om else .stuck
  | .mka c f dv as, sl, om => (evL T as sl om).bind fun xs om => (T.call f (.amb om.length :: (xs ++ dv)) (om ++ [.ob c []])).bind fun r om' => match r with | .non => .ok (.amb om.length) om' | _ => .stuck
  | .meth c f dv o as, sl, om => (evE T o sl om).bind fun x om => if isC c x om = true then (evL T as sl om).bind fun xs om => T.call f (x :: (xs ++ dv)) om else .stuck
  | .fs c j, sl, om => match sl[(0 : Nat)]? with
    | some (.newo c' fs) => if c' = c then match fs[j]? with | some d => .ok d om | none => .stuck else .stuck
    | _ => .stuck
  | .fld c j a, sl, om => (evE T a sl om).bind fun x om => fldD c j x om
  | .xf i d, sl, om => match sl[i]? with | some .exn => .ok d om | _ => .stuck
  | .bi b a, sl, om => (evE T a sl om).bind fun x om => biD T b x om
  | .mb m o a, sl, om => (evE T o sl om).bind fun x om => match x with
    | .str s => (evE T a sl om).bind fun y om => mbf m s y om
    | _ => .stuck
  | .isi ts a, sl, om => (evE T a sl om).bind fun x om => match isA ts x with | some b => .ok (.bl b) om | none => .stuck
  | .ix a b, sl, om => (evE T a sl om).bind fun x om => (evE T b sl om).bind fun y om => ixD x y om
  | .sl a lo hi, sl, om => (evE T a sl om).bind fun x om => (evO T lo sl om).bind fun l om => (evO T hi sl om).bind fun h om => slD x l h om
  | .fstr as, sl, om => (evJ T as (⟨#[]⟩ : Str) sl om).bind fun s om => .ok (.str s) om
  | .tup as, sl, om => (evL T as sl om).bind fun xs om => if xs.length ≤ 1000000 then .ok (.tup xs) om else .stuck
  | .lst as, sl, om => (evL T as sl om).bind fun xs om => if xs.length ≤ 1000000 then .ok (.lst xs) om else .stuck
  | .comp tg it cond elt, sl, om => (evI T it sl om).bind fun ds om => if ds.length ≤ 1000000 then (compGo (fun sl om => (evE T cond sl om).bind fun x om => tru x om) (evE T elt) tg (wipeS sl (tgIx tg)) ds om).bind fun xs om => .ok (.lst xs) om else .stuck
  | .nop, _, _ => .stuck
  | .nil, _, _ => .stuck
  | .cons _ _, _, _ => .stuck
  | .star _ _, _, _ => .stuck
  | .itl _, _, _ => .stuck
  | .rng1 _, _, _ => .stuck
  | .rng2 _ _, _, _ => .stuck
  | .enu _, _, _ => .stuck
  | .zip _ _, _, _ => .stuck
/-- an argument list -/
def evL (T : Tb) : E → Sl → Om → Rs (List D)
  | .nil, _, om => .ok [] om
  | .cons a r, sl, om => (evE T a sl om).bind fun x om => (evL T r sl om).bind fun xs om => .ok (x :: xs) om
  | .star a r, sl, om => (evE T a sl om).bind fun x om => match x with
    | .lst ys => (evL T r sl om).bind fun xs om => .ok (ys ++ xs) om
    | .tup ys => (evL T r sl om).bind fun xs om => .ok (ys ++ xs) om
    | _ => .stuck
  | _, _, _ => .stuck
/-- a slice's part -/
def evO (T : Tb) : E → Sl → Om → Rs (Option Int)
  | .cons a .nil, sl, om => (evE T a sl om).bind fun x om => match x with | .int i => .ok (some i) om | _ => .stuck
  | .nop, _, om => .ok none om
  | _, _, _ => .stuck
/-- the parts of an f-string -/
def evJ (T : Tb) : E → Str → Sl → Om → Rs Str
  | .nil, acc, _, om => .ok acc om
  | .cons a r, acc, sl, om => (evE T a sl om).bind fun x om => (fmt T x om).bind fun y om => if (acc ++ y).length ≤ 1000000 then evJ T r (acc ++ y) sl om else .stuck
  | _, _, _, _ => .stuck
/-- what a loop walks -/
def evI (T : Tb) : E → Sl → Om → Rs (List D)
  | .itl a, sl, om => (evE T a sl om).bind fun x om => match items x with | some ds => .ok ds om | none => .stuck
  | .rng1 a, sl, om => (evE T a sl om).bind fun x om => match x with
    | .int n => if -(2 ^ 62) ≤ n ∧ n < 2 ^ 62 then .ok ((List.range n.toNat).map fun (k : Nat) => .int k) om else .stuck
    | _ => .stuck
  | .rng2 a b, sl, om => (evE T a sl om).bind fun x om => (evE T b sl om).bind fun y om => match x, y with
    | .int m, .int n => if (-(2 ^ 62) ≤ m ∧ m < 2 ^ 62) ∧ -(2 ^ 62) ≤ n ∧ n < 2 ^ 62 then .ok ((List.range (n - m).toNat).map fun (k : Nat) => .int (m + k)) om else .stuck
    | _, _ => .stuck
  | .enu a, sl, om => (evE T a sl om).bind fun x om => match x with
    | .lst ds => .ok ((List.range ds.length).zipWith (fun (k : Nat) d => .tup [.int k, d]) ds) om
    | _ => .stuck
  | .zip a b, sl, om => (evE T a sl om).bind fun x om => (evE T b sl om).bind fun y om => match x, y with
    | .lst ds, .lst es => .ok (ds.zipWith (fun d e => .tup [d, e]) es) om
    | _, _ => .stuck
  | _, _, _ => .stuck
end
def evT (T : Tb) (e : E) (sl : Sl) (om : Om) : Rs Bool := (evE T e sl om).bind fun x om => tru x om
/-! ### statements -/
inductive S where
  | skip | seq (a b : S)
  | set (i : Nat) (e : E) | setO (i : Nat) (e : E) | setA (i : Nat) (e : E) | fz (i : Nat)
  | setT (is : List Nat) (e : E) | par (i j : Nat) (a b : E)
  | app (i : Nat) (e : E) | appA (i : Nat) (e : E) | ext (i : Nat) (e : E) | setI (i : Nat) (x e : E) | setIA (i : Nat) (x e : E)
  | setF (c j : Nat) (e : E) | stF (i c j : Nat) (e : E) | auF (i c j : Nat) (e : E) | aug (i : Nat) (o : Bop) (e : E)
  | drop (e : E) | ite (c : E) (a b : S) | whl (c : E) (b : S) | fo (tg : Tg) (it : E) (b : S)
  | ret (e : E) | retF (e : E) | retO (i : Nat) | retN | brk | cnt | never
  | rais (c : Nat) (as : E) | tr (b : S) (cs : Nat → Option Bool) (i : Nat) (hd : Nat → List D → S)
inductive Out where
  | stuck | next (sl : Sl) (om : Om) | brk (sl : Sl) (om : Om) | cnt (sl : Sl) (om : Om)
  | ret (d : D) (om : Om) | retF (ds : List D) (om : Om) | exc (c : Nat) (fs : List D) (sl : Sl) (om : Om)
def Rs.out {α : Type} (r : Rs α) (sl : Sl) (f : α → Om → Out) : Out := match r with
  | .stuck => .stuck
  | .ok a om => f a om
  | .exc c fs om => .exc c fs sl om
theorem out_ok {α : Type} {a : α} {om : Om} {sl : Sl} {f : α → Om → Out} : (Rs.ok a om).out sl f = f a om := rfl
theorem out_exc {α : Type} {c : Nat} {fs : List D} {om : Om} {sl : Sl} {f : α → Om → Out} : (Rs.exc c fs om : Rs α).out sl f = .exc c fs sl om := rfl
def whileGo (c : Sl → Om → Rs Bool) (b : Sl → Om → Out) : Nat → Sl → Om → Out
  | 0, _, _ => .stuck
  | n + 1, sl, om => (c sl om).out sl fun t om => if t = true then match b sl om with
      | .next sl om => whileGo c b n sl om
      | .cnt sl om => whileGo c b n sl om
      | .brk sl om => .next sl om
      | o => o
    else .next sl om
def forGo (b : Sl → Om → Out) (tg : Tg) : List D → Sl → Om → Out
  | [], sl, om => .next sl om
  | d :: ds, sl, om => match setT sl tg d with
    | none => .stuck
    | some sl => match b sl om with
      | .next sl om => forGo b tg ds sl om
      | .cnt sl om => forGo b tg ds sl om
      | .brk sl om => .next sl om
      | o => o
/-- the caught exception is forgotten -/
def unx (sl : Sl) : Sl := sl.map fun c => match c with
  | .exn => .no
  | c => c
def aft (i : Nat) : Out → Out
  | .next sl om => .next (unx (sl.set i .no)) om
  | .brk sl om => .brk (unx (sl.set i .no)) om
  | .cnt sl om => .cnt (unx (sl.set i .no)) om
  | .ret d om => .ret d om
  | .retF ds om => .retF ds om
  | _ => .stuck
def evS (T : Tb) : S → Sl → Om → Out
  | .skip, sl, om => .next sl om
  | .seq a b, sl, om => match evS T a sl om with
    | .next sl om => evS T b sl om
    | o => o
  | .set i e, sl, om => (evE T e sl om).out sl fun d om => .next (sl.set i (.val d)) om
  | .setO i e, sl, om => (evE T e sl om).out sl fun d om => match d with
    | .lst ds => .next (sl.set i (.own ds)) om
    | _ => .stuck
  | .setA i e, sl, om => (evE T e sl om).out sl fun d om => match d with
    | .lst ds => .next (sl.set i (.val (.amb om.length))) (om ++ [.pl ds])
    | _ => .stuck
  | .fz i, sl, om => match sl[i]? with
    | some (.own ds) => .next (sl.set i (.val (.lst ds))) om
    | _ => .next sl om
  | .setT is e, sl, om => (evE T e sl om).out sl fun d om => match PD.setT sl (.many is) d with
    | some sl => .next sl om
    | none => .stuck
  | .par i j a b, sl, om => (evE T a sl om).out sl fun x om => (evE T b sl om).out sl fun y om => .next ((sl.set i (.val x)).set j (.val y)) om
  | .app i e, sl, om => match sl[i]? with
    | some (.own ds) => (evE T e sl om).out sl fun d om => if ds.length < 1000000 then .next (sl.set i (.own (ds ++ [d]))) om else .stuck
    | _ => .stuck
  | .appA i e, sl, om => match sl[i]? with
    | some (.val (.amb k)) => match om[k]? with
      | some (.pl _) => (evE T e sl om).out sl fun d om => match om[k]? with
        | some (.pl ds) => if ds.length < 1000000 then .next sl (om.set k (.pl (ds ++ [d]))) else .stuck
        | _ => .stuck
      | _ => .stuck
    | _ => .stuck
  | .ext i e, sl, om => match sl[i]? with
    | some (.own ds) => (evE T e sl om).out sl fun d om => match d with
      | .lst es => if ds.length + es.length ≤ 1000000 then .next (sl.set i (.own (ds ++ es))) om else .stuck
      | _ => .stuck
    | _ => .stuck
  | .setI i x e, sl, om => match sl[i]? with
    | some (.own ds) => (evE T e sl om).out sl fun d om => (evE T x sl om).out sl fun n om => match n with
      | .int n => match ixN ds.length n with
        | some j => .next (sl.set i (.own (ds.set j d))) om
        | none => .stuck
      | _ => .stuck
    | _ => .stuck
  | .setIA i x e, sl, om => match sl[i]? with
    | some (.val (.amb k)) => (evE T e sl om).out sl fun d om => (evE T x sl om).out sl fun n om => match n with
      | .int n => match om[k]? with
        | some (.pl ds) => match ixN ds.length n with
          | some j => .next sl (om.set k (.pl (ds.set j d)))
          | none => .stuck
        | _ => .stuck
      | _ => .stuck
    | _ => .stuck
  | .setF c j e, sl, om => (evE T e sl om).out sl fun d om => match sl[(0 : Nat)]? with
    | some (.newo c' fs) => if c' = c ∧ fs.length = j then .next (sl.set 0 (.newo c (fs ++ [d]))) om else .stuck
    | _ => .stuck
  | .stF i c j e, sl, om => match sl[i]? with
    | some (.val (.amb k)) => (evE T e sl om).out sl fun d om => match om[k]? with
      | some (.ob c' fs) => if c' = c then if j < fs.length then .next sl (om.set k (.ob c (fs.set j d))) else if j = fs.length then .next sl (om.set k (.ob c (fs ++ [d]))) else .stuck else .stuck
      | _ => .stuck
    | _ => .stuck
  | .auF i c j e, sl, om => match sl[i]? with
    | some (.val (.amb k)) => match om[k]? with
      | some (.ob c' fs) => if c' = c then match fs[j]? with
          | some (.int m) => (evE T e sl om).out sl fun y om => match y with
            | .int n => match om[k]? with
              | some (.ob c' fs) => if c' = c ∧ j < fs.length then .next sl (om.set k (.ob c (fs.set j (.int (m + n))))) else .stuck
              | _ => .stuck
            | _ => .stuck
          | _ => .stuck
        else .stuck
      | _ => .stuck
    | _ => .stuck
  | .aug i o e, sl, om => match sl[i]? with
    | some (.val (.int m)) => (evE T e sl om).out sl fun y om => match o, y with
      | .add, .int n => .next (sl.set i (.val (.int (m + n)))) om
      | .sub, .int n => .next (sl.set i (.val (.int (m - n)))) om
      | _, _ => .stuck
    | _ => .stuck
  | .drop e, sl, om => (evE T e sl om).out sl fun _ om => .next sl om
  | .ite c a b, sl, om => (evT T c sl om).out sl fun t om => if t = true then evS T a sl om else evS T b sl om
  | .whl c b, sl, om => whileGo (evT T c) (evS T b) T.wf sl om
  | .fo tg it b, sl, om => (evI T it sl om).out sl fun ds om => forGo (evS T b) tg ds sl om
  | .ret e, sl, om => (evE T e sl om).out sl fun d om => .ret d om
  | .retF e, sl, om => (evE T e sl om).out sl fun d om => match d with
    | .lst ds => .retF ds om
    | _ => .stuck
  | .retO i, sl, om => match sl[i]? with
    | some (.own ds) => .retF ds om
    | _ => .stuck
  | .retN, _, om => .ret .non om
  | .brk, sl, om => .brk sl om
  | .cnt, sl, om => .cnt sl om
  | .never, _, _ => .stuck
  | .rais c as, sl, om => (evL T as sl om).out sl fun fs om => .exc c fs sl om
  | .tr b cs i hd, sl, om => match evS T b sl om with
    | .exc c fs sl om => match cs c with
      | some true => aft i (evS T (hd c fs) ((unx sl).set i .exn) om)
      | some false => .exc c fs sl om
      | none => .stuck
    | o => o
/-! ### the program -/
structure Def where
  np : Nat
  nl : Nat
  body : S
  cls : Option Nat := none
structure Prog where
  defs : Nat → Option Def
  fresh : Nat → Bool
  opm : Nat → Bop → Option Nat
  eqm : Nat → Option Nat
  strm : Nat → Option Nat
  nf : Nat → Nat
def slots (d : Def) (ds : List D) : Sl := ds.map .val ++ List.replicate (d.nl - d.np) .no
mutual
def callN (p : Prog) (wf : Nat) : Nat → Nat → List D → Om → Rs D
  | 0, _, _, _ => .stuck
  | n + 1, f, ds, om => match p.defs f with
    | none => .stuck
    | some d => if ds.length = d.np then match evS ⟨wf, callN p wf n, initN p wf n, p.fresh, p.opm, p.eqm, p.strm, p.nf⟩ d.body (slots d ds) om with
        | .ret x om' => if p.fresh f = true then .stuck else .ok x om'
        | .retF xs om' => .ok (.lst xs) om'
        | .next _ om' => if p.fresh f = true then .stuck else .ok .non om'
        | .exc c fs _ om' => .exc c fs om'
        | _ => .stuck
      else .stuck
def initN (p : Prog) (wf : Nat) : Nat → Nat → List D → Om → Rs (List D)
  | 0, _, _, _ => .stuck
  | n + 1, f, ds, om => match p.defs f with
    | none => .stuck
    | some d => match d.cls with
      | none => .stuck
      | some c => if ds.length + 1 = d.np then match evS ⟨wf, callN p wf n, initN p wf n, p.fresh, p.opm, p.eqm, p.strm, p.nf⟩ d.body (.newo c [] :: (ds.map .val ++ List.replicate (d.nl - d.np) .no)) om with
          | .next sl om' => match sl[(0 : Nat)]? with
            | some (.newo c' fs) => if c' = c then .ok fs om' else .stuck
            | _ => .stuck
          | .exc c fs _ om' => .exc c fs om'
          | _ => .stuck
        else .stuck
end
def tab (p : Prog) (wf n : Nat) : Tb := ⟨wf, callN p wf n, initN p wf n, p.fresh, p.opm, p.eqm, p.strm, p.nf⟩
end PD

set_option Elab.async false
set_option linter.all false
set_option maxRecDepth 100000
set_option maxHeartbeats 2000000
/-! PDC: expressions are computed by the machine as evE says. -/
namespace PD
open PySem PySem.Spec PyProof.Rows L2
theorem sz_le {n : Nat} (h : n ≤ 1000000) : n ≤ sizeLine := Nat.le_trans h (by decide)
theorem sz_lt {n : Nat} (h : n < 1000000) : n < sizeLine := Nat.lt_of_lt_of_le h (by decide)
section
variable {X : Cx} {e : Expr}
theorem _root_.L2.PE.imp {t t' : TE} (h : PE X e t) (k : ∀ σ H Q, t' σ H Q → t σ H Q) : PE X e t' := ⟨fun pins s σ H Q I q => h.run pins s σ H Q I (k σ H Q q)⟩
theorem _root_.L2.PT.imp {t t' : TT} (h : PT X e t) (k : ∀ σ H Q, t' σ H Q → t σ H Q) : PT X e t' := ⟨fun pins s σ H Q I q => h.run pins s σ H Q I (k σ H Q q)⟩
theorem _root_.L2.PW.imp {t t' : TT} (h : PW X e t) (k : ∀ σ H Q, t' σ H Q → t σ H Q) : PW X e t' := ⟨fun whole pins s σ H Q I q => h.run whole pins s σ H Q I (k σ H Q q)⟩
theorem _root_.L2.PA.imp {es : List Expr} {t t' : TA} (h : PA X es t) (k : ∀ σ H Q, t' σ H Q → t σ H Q) : PA X es t' := ⟨fun pos pins s σ H Q I q => h.run pos pins s σ H Q I (k σ H Q q)⟩
theorem _root_.L2.PO.imp {o : Option Expr} {t t' : TO} (h : PO X o t) (k : ∀ σ H Q, t' σ H Q → t σ H Q) : PO X o t' := ⟨fun pins s σ H Q I q => h.run pins s σ H Q I (k σ H Q q)⟩
theorem _root_.L2.PI.imp {tg : Expr} {t t' : TI} (h : PI X tg e t) (k : ∀ σ H Q, t' σ H Q → t σ H Q) : PI X tg e t' := ⟨fun pins s σ H Q I q => h.run pins s σ H Q I (k σ H Q q)⟩
theorem _root_.L2.PI.alt {tg : Expr} {t t' : TI} (h : PI X tg e t) (h' : PI X tg e t') : PI X tg e (fun σ H Q => t σ H Q ∨ t' σ H Q) := ⟨fun pins s σ H Q I q => q.elim (h.run pins s σ H Q I) (h'.run pins s σ H Q I)⟩
theorem _root_.L2.PG.imp {t t' : TG} (h : PG X e t) (k : ∀ v σ H Q, t' v σ H Q → t v σ H Q) : PG X e t' := ⟨fun pins s σ H v u Q I r q => h.run pins s σ H v u Q I r (k v σ H Q q)⟩
theorem _root_.L2.PS.imp {st : Stmt} {t t' : TS} (h : PS X st t) (k : ∀ D σ H, t' D σ H → t D σ H) : PS X st t' := ⟨fun pins s σ H D I q => h.run pins s σ H D I (k D σ H q)⟩
theorem _root_.L2.PSs.imp {st : List Stmt} {t t' : TS} (h : PSs X st t) (k : ∀ D σ H, t' D σ H → t D σ H) : PSs X st t' := ⟨fun pins s σ H D I q => h.run pins s σ H D I (k D σ H q)⟩
end
/-! ### what is wanted behind a step -/
def ExcR (K : PySem.W.Frag) (L : Lk) (G : Hp) (am : List Addr) (c : Nat) (fs : List D) (cv : Value) (dd : Option Addr) : Prop :=
  cv = .ref (L.ca c) ∧ match fs with
    | [] => dd = none
    | d :: _ => ∃ x v nm, dd = some x ∧ (L.fn c).head? = some nm ∧ G x = some (.xd [(nm, v)]) ∧ Rep K L G am d v
def Post {α β : Type} (K : PySem.W.Frag) (L : Lk) (R : Hp → List Addr → α → β → Prop) (F G : Hp) (am : List Addr) (r : Rs α) (E : XK) (Q : β → Hp → Prop) : Prop := match r with
  | .stuck => False
  | .ok a om' => ∀ b H' G' am', Grow G am G' am' → Mem K L F G' am' om' H' → R G' am' a b → Q b H'
  | .exc c fs om' => ∀ cv dd H' G' am', Grow G am G' am' → Mem K L F G' am' om' H' → ExcR K L G' am' c fs cv dd → E cv dd H'
def PostF (K : PySem.W.Frag) (L : Lk) (F G : Hp) (am : List Addr) (r : Rs D) (E : XK) (Q : VK) : Prop := match r with
  | .stuck => False
  | .ok d om' => ∃ ds, d = .lst ds ∧ ∀ p vs H' G' am', Grow G am G' am' → F p = none → Mem K L (upd F p (.lst vs)) G' am' om' H' → RepL K L G' am' ds vs → Q (.ref p) H'
  | .exc c fs om' => ∀ cv dd H' G' am', Grow G am G' am' → Mem K L F G' am' om' H' → ExcR K L G' am' c fs cv dd → E cv dd H'
/-- a value that is read for a moment: also a list that a slot holds alone -/
def RepB (K : PySem.W.Frag) (L : Lk) (F G : Hp) (am : List Addr) (d : D) (v : V) : Prop := Rep K L G am d v ∨ ∃ a vs ds, d = .lst ds ∧ v = .ref a ∧ F a = some (.lst vs) ∧ RepL K L G am ds vs
def eqR {α : Type} : Hp → List Addr → α → α → Prop := fun _ _ a b => b = a
section
variable {K : PySem.W.Frag} {L : Lk} {F G G' H : Hp} {am am' : List Addr} {om : Om} {α β γ δ : Type} {R : Hp → List Addr → α → β → Prop} {R' : Hp → List Addr → γ → δ → Prop} {E : XK} {Q : β → Hp → Prop} {r : Rs α} {v : V} {d : D} {ds : List D}
theorem Post.grow (g : Grow G am G' am') (h : Post K L R F G am r E Q) : Post K L R F G' am' r E Q := by
  cases r with
  | stuck => exact h
  | ok a om' => exact fun b H' G'' am'' g' => h b H' G'' am'' (g.trans g')
  | exc c fs om' => exact fun cv dd H' G'' am'' g' => h cv dd H' G'' am'' (g.trans g')
theorem PostF.grow {r : Rs D} {Q : VK} (g : Grow G am G' am') (h : PostF K L F G am r E Q) : PostF K L F G' am' r E Q := by
  cases r with
  | stuck => exact h
  | ok a om' =>
    obtain ⟨ds, e, h⟩ := h
    exact ⟨ds, e, fun p vs H' G'' am'' g' => h p vs H' G'' am'' (g.trans g')⟩
  | exc c fs om' => exact fun cv dd H' G'' am'' g' => h cv dd H' G'' am'' (g.trans g')
/-- the first of two steps -/
theorem Post.bind {f : α → Om → Rs γ} {Q' : δ → Hp → Prop} (h : Post K L R' F G am (r.bind f) E Q')
    (k : ∀ a om1 b H1 G1 am1, Grow G am G1 am1 → Mem K L F G1 am1 om1 H1 → R G1 am1 a b → Post K L R' F G1 am1 (f a om1) E Q' → Q b H1) : Post K L R F G am r E Q := by
  cases r with
  | stuck => exact h
  | ok a om1 => exact fun b H1 G1 am1 g M rr => k a om1 b H1 G1 am1 g M rr (Post.grow g h)
  | exc c fs om1 => exact h
theorem PostF.bind {f : α → Om → Rs D} {Q' : VK} (h : PostF K L F G am (r.bind f) E Q')
    (k : ∀ a om1 b H1 G1 am1, Grow G am G1 am1 → Mem K L F G1 am1 om1 H1 → R G1 am1 a b → PostF K L F G1 am1 (f a om1) E Q' → Q b H1) : Post K L R F G am r E Q := by
  cases r with
  | stuck => exact h
  | ok a om1 => exact fun b H1 G1 am1 g M rr => k a om1 b H1 G1 am1 g M rr (PostF.grow g h)
  | exc c fs om1 => exact h
theorem Post.mono (h : Post K L R F G am r E Q) {Q' : β → Hp → Prop} (k : ∀ b H, Q b H → Q' b H) : Post K L R F G am r E Q' := by
  cases r with
  | stuck => exact h
  | ok a om1 => exact fun b H1 G1 am1 g M rr => k _ _ (h b H1 G1 am1 g M rr)
  | exc c fs om1 => exact h
theorem RepB.up (g : Grow G am G' am') (h : RepB K L F G am d v) : RepB K L F G' am' d v := by
  rcases h with h | ⟨a, vs, ds, e, e2, f, r⟩
  · exact .inl (h.up g)
  · exact .inr ⟨a, vs, ds, e, e2, f, r.up g⟩
theorem RepB.int {i : Int} (h : RepB K L F G am (.int i) v) : v = .int i := by
  rcases h with h | ⟨_, _, _, e, _⟩
  · cases h
    rfl
  · cases e
theorem RepB.str {s : Str} (h : RepB K L F G am (.str s) v) : v = .str s := by
  rcases h with h | ⟨_, _, _, e, _⟩
  · cases h
    rfl
  · cases e
theorem RepB.bl {b : Bool} (h : RepB K L F G am (.bl b) v) : v = .bl b := by
  rcases h with h | ⟨_, _, _, e, _⟩
  · cases h
    rfl
  · cases e
theorem RepB.non (h : RepB K L F G am .non v) : v = .non := by
  rcases h with h | ⟨_, _, _, e, _⟩
  · cases h
    rfl
  · cases e
theorem RepB.lst (h : RepB K L F G am (.lst ds) v) (M : Mem K L F G am om H) : ∃ a vs, v = .ref a ∧ H a = some (.lst vs) ∧ RepL K L G am ds vs := by
  rcases h with h | ⟨a, vs, _, e, rfl, f, r⟩
  · cases h with
    | lst h r => exact ⟨_, _, rfl, M.gH _ _ h, r⟩
  · cases e
    exact ⟨a, vs, rfl, M.fH _ _ f, r⟩
theorem RepB.tup (h : RepB K L F G am (.tup ds) v) : ∃ a vs, v = .ref a ∧ G a = some (.tup vs) ∧ RepL K L G am ds vs := by
  rcases h with h | ⟨_, _, _, e, _⟩
  · cases h with
    | tup h r => exact ⟨_, _, rfl, h, r⟩
  · cases e
theorem RepB.scr (h : RepB K L F G am (.scr ds) v) : ∃ a vs, v = .ref a ∧ SqL K G a vs ∧ RepL K L G am ds vs := by
  rcases h with h | ⟨_, _, _, e, _⟩
  · cases h with
    | scr h r => exact ⟨_, _, rfl, h, r⟩
  · cases e
theorem RepB.obj {c : Nat} (h : RepB K L F G am (.obj c ds) v) : ∃ a dx vs, v = .ref a ∧ G a = some (.ins (L.ca c) dx ((L.fn c).zip vs)) ∧ vs.length = (L.fn c).length ∧ RepL K L G am ds vs := by
  rcases h with h | ⟨_, _, _, e, _⟩
  · cases h with
    | obj h n r => exact ⟨_, _, _, rfl, h, n, r⟩
  · cases e
theorem RepB.objE {c : Nat} (h : RepB K L F G am (.obj c ds) v) : Rep K L G am (.obj c ds) v := by
  rcases h with h | ⟨_, _, _, e, _⟩
  · exact h
  · cases e
theorem RepB.amb {k : Nat} (h : RepB K L F G am (.amb k) v) : ∃ a, v = .ref a ∧ am[k]? = some a := by
  rcases h with h | ⟨_, _, _, e, _⟩
  · cases h with
    | amb h => exact ⟨_, rfl, h⟩
  · cases e
theorem Rep.b (h : Rep K L G am d v) : RepB K L F G am d v := .inl h
end
/-! ### readings -/
section
variable (K : PySem.W.Frag) (L : Lk) (T : Tb) (W : WX)
def rdE (e : E) : TE := fun σ H Q => ∃ F G am om sl, Mem K L F G am om H ∧ SlR K L F G am sl σ ∧ Post K L (Rep K L) F G am (evE T e sl om) (fun cv dd H => W cv dd σ H) Q
def rdB (e : E) : TE := fun σ H Q => ∃ F G am om sl, Mem K L F G am om H ∧ SlR K L F G am sl σ ∧ Post K L (RepB K L F) F G am (evE T e sl om) (fun cv dd H => W cv dd σ H) Q
def rdF (e : E) : TE := fun σ H Q => ∃ F G am om sl, Mem K L F G am om H ∧ SlR K L F G am sl σ ∧ PostF K L F G am (evE T e sl om) (fun cv dd H => W cv dd σ H) Q
def rdT (e : E) : TT := fun σ H Q => ∃ F G am om sl, Mem K L F G am om H ∧ SlR K L F G am sl σ ∧ Post K L eqR F G am (evT T e sl om) (fun cv dd H => W cv dd σ H) Q
def rdL (e : E) : TA := fun σ H Q => ∃ F G am om sl, Mem K L F G am om H ∧ SlR K L F G am sl σ ∧ Post K L (RepL K L) F G am (evL T e sl om) (fun cv dd H => W cv dd σ H) Q
def rdO (e : E) : TO := fun σ H Q => ∃ F G am om sl, Mem K L F G am om H ∧ SlR K L F G am sl σ ∧ Post K L eqR F G am (evO T e sl om) (fun cv dd H => W cv dd σ H) Q
end
section
variable {X : Cx} {L : Lk} {T : Tb} {W : WX} {a b c : Expr} {ea eb ec : E} {pos : Pos}
theorem pB (h : PE X a (rdE X.K L T W ea)) : PE X a (rdB X.K L T W ea) := h.imp fun σ H Q ⟨F, G, am, om, sl, M, S, p⟩ => ⟨F, G, am, om, sl, M, S, by
  cases q : evE T ea sl om with
  | stuck => rw [q] at p; exact p
  | ok d om' => rw [q] at p; exact fun b H' G' am' g M' r => p b H' G' am' g M' (.inl r)
  | exc c fs om' => rw [q] at p; exact p⟩
/-- a new list that nobody else holds is as good as one that stands for good -/
theorem rdE_F {σ : L2.St} {H : Hp} {Q : VK} (hl : ∀ sl om d om', evE T ea sl om = .ok d om' → ∃ ds, d = .lst ds) (h : rdE X.K L T W ea σ H Q) : rdF X.K L T W ea σ H Q := by
  obtain ⟨F, G, am, om, sl, M, S, p⟩ := h
  refine ⟨F, G, am, om, sl, M, S, ?_⟩
  cases q : evE T ea sl om with
  | stuck => rw [q] at p; exact p
  | ok d om' =>
    rw [q] at p
    obtain ⟨ds, rfl⟩ := hl sl om d om' q
    refine ⟨ds, rfl, fun pp vs H' G' am' g hf M' r => ?_⟩
    have hg : G' pp = none := M'.fg _ _ upd_same
    refine p (.ref pp) H' (upd G' pp (.lst vs)) am' (g.trans (Grow.of hg)) (M'.freeze upd_same fun a u e => ?_) (.lst upd_same (r.up (Grow.of hg)))
    have hne : a ≠ pp := fun z => by rw [z, hf] at e; cases e
    exact ⟨by rw [upd_ne hne]; exact e, hne⟩
  | exc c fs om' => rw [q] at p; exact p
theorem pFE (h : PE X a (rdF X.K L T W ea)) (hl : ∀ sl om d om', evE T ea sl om = .ok d om' → ∃ ds, d = .lst ds) : PE X a (rdE X.K L T W ea) := h.imp fun σ H Q => rdE_F hl
/-! ### names and constants -/
theorem pE_var {i : Nat} {x : Str} (hN : X.N[i]? = some x) (hv : Vis X.env.scope x) (hd : (x == ("__debug__" : Str)) = false := by decide) (hcd : (x == ("__classdict__" : Str)) = false := by decide) : PE X (.Name x pos) (rdE X.K L T W (.v i)) :=
  (pe_var hN hv hd hcd).imp fun σ H Q ⟨F, G, am, om, sl, M, S, p⟩ => by
    cases q : sl[i]? with
    | none =>
      have e : evE T (.v i) sl om = .stuck := by simp only [evE, q]
      rw [e] at p
      exact p.elim
    | some c =>
      cases c with
      | val d =>
        have e : evE T (.v i) sl om = .ok d om := by simp only [evE, q]
        rw [e] at p
        obtain ⟨o, ho, v, rfl, r⟩ := S.at q
        exact ⟨v, ho, p v H G am Grow.refl M r⟩
      | no =>
        have e : evE T (.v i) sl om = .stuck := by simp only [evE, q]
        rw [e] at p
        exact p.elim
      | own ds =>
        have e : evE T (.v i) sl om = .stuck := by simp only [evE, q]
        rw [e] at p
        exact p.elim
      | newo c fs =>
        have e : evE T (.v i) sl om = .stuck := by simp only [evE, q]
        rw [e] at p
        exact p.elim
      | exn =>
        have e : evE T (.v i) sl om = .stuck := by simp only [evE, q]
        rw [e] at p
        exact p.elim
theorem pB_var {i : Nat} {x : Str} (hN : X.N[i]? = some x) (hv : Vis X.env.scope x) (hd : (x == ("__debug__" : Str)) = false := by decide) (hcd : (x == ("__classdict__" : Str)) = false := by decide) : PE X (.Name x pos) (rdB X.K L T W (.b i)) :=
  (pe_var hN hv hd hcd).imp fun σ H Q ⟨F, G, am, om, sl, M, S, p⟩ => by
    cases q : sl[i]? with
    | none =>
      have e : evE T (.b i) sl om = .stuck := by simp only [evE, q]
      rw [e] at p
      exact p.elim
    | some c =>
      cases c with
      | val d =>
        have e : evE T (.b i) sl om = .ok d om := by simp only [evE, q]
        rw [e] at p
        obtain ⟨o, ho, v, rfl, r⟩ := S.at q
        exact ⟨v, ho, p v H G am Grow.refl M (.inl r)⟩
      | no =>
        have e : evE T (.b i) sl om = .stuck := by simp only [evE, q]
        rw [e] at p
        exact p.elim
      | own ds =>
        have e : evE T (.b i) sl om = .ok (.lst ds) om := by simp only [evE, q]
        rw [e] at p
        obtain ⟨o, ho, a, vs, rfl, f, r⟩ := S.at q
        exact ⟨.ref a, ho, p _ H G am Grow.refl M (.inr ⟨a, vs, ds, rfl, rfl, f, r⟩)⟩
      | newo c fs =>
        have e : evE T (.b i) sl om = .stuck := by simp only [evE, q]
        rw [e] at p
        exact p.elim
      | exn =>
        have e : evE T (.b i) sl om = .stuck := by simp only [evE, q]
        rw [e] at p
        exact p.elim
theorem pE_k {d : D} {v : V} (h : PE X a (tC v)) (r : ∀ K L G am, Rep K L G am d v) : PE X a (rdE X.K L T W (.k d)) :=
  h.imp fun σ H Q ⟨F, G, am, om, sl, M, S, p⟩ => p v H G am Grow.refl M (r _ _ _ _)
theorem pE_int {i : Int} {j : Nat} : PE X (.Constant (.int i) j pos) (rdE X.K L T W (.k (.int i))) := pE_k pe_int fun _ _ _ _ => .int i
theorem pE_str {s : Str} {j : Nat} : PE X (.Constant (.str s) j pos) (rdE X.K L T W (.k (.str s))) := pE_k pe_str fun _ _ _ _ => .str s
theorem pE_bl {i : Bool} {j : Nat} : PE X (.Constant (.bool i) j pos) (rdE X.K L T W (.k (.bl i))) := pE_k pe_bl fun _ _ _ _ => .bl i
theorem pE_non {j : Nat} : PE X (.Constant .none j pos) (rdE X.K L T W (.k .non)) := pE_k pe_non fun _ _ _ _ => .non
theorem pE_gi {x : Str} {i : Int} {t : Tok} (hg : Gl X x) (hm : X.mg x = some (.int i t)) (hd : (x == ("__debug__" : Str)) = false := by decide) : PE X (.Name x pos) (rdE X.K L T W (.k (.int i))) := pE_k (v := .int i) (pe_glob hg hm ⟨t, rfl⟩ hd) fun _ _ _ _ => .int i
/-! ### two operands -/
theorem bin2 {o : Rs D → (D → Om → Rs D)} : True := trivial
/-- reading a and then b -/
theorem rd2 {σ : L2.St} {H : Hp} {Q : VK} {K : PySem.W.Frag} {f : D → D → Om → Rs D} {F G : Hp} {am : List Addr} {om : Om} {sl : Sl} (M : Mem K L F G am om H) (S : SlR K L F G am sl σ)
    (p : Post K L (Rep K L) F G am ((evE T ea sl om).bind fun x om => (evE T eb sl om).bind fun y om => f x y om) (fun cv dd H => W cv dd σ H) Q)
    {r : R2} (k : ∀ x y H' G' am' om' dx dy, Mem K L F G' am' om' H' → RepB K L F G' am' dx x → RepB K L F G' am' dy y → Post K L (Rep K L) F G' am' (f dx dy om') (fun cv dd H => W cv dd σ H) Q → r x y H' Q) :
    rdB K L T W ea σ H fun x H1 => rdB K L T W eb σ H1 fun y H2 => r x y H2 Q :=
  ⟨F, G, am, om, sl, M, S, p.bind fun dx om1 x H1 G1 am1 g1 M1 rx p1 => ⟨F, G1, am1, om1, sl, M1, S.grow g1, p1.bind fun dy om2 y H2 G2 am2 g2 M2 ry p2 => k x y H2 G2 am2 om2 dx dy M2 (rx.up g2) ry p2⟩⟩
end
end PD

set_option Elab.async false
set_option linter.all false
set_option maxRecDepth 100000
set_option maxHeartbeats 2000000
/-! PDD: calls of the program's own defs; operators. -/
namespace PD
open PySem PySem.Spec PyProof.Rows L2
/-! ### the promise of a def: what callN says -/
def spD (K : PySem.W.Frag) (L : Lk) (p : Prog) (n f : Nat) : Sp := fun vs H Q E => ∃ wf F G am om ds, Mem K L F G am om H ∧ RepL K L G am ds vs ∧ (∃ d, p.defs f = some d ∧ ds.length = d.np) ∧
  if p.fresh f = true then PostF K L F G am (callN p wf n f ds om) E Q else Post K L (Rep K L) F G am (callN p wf n f ds om) E Q
/-- of the maker of a frozen instance: self is held alone and has no fields yet -/
def spI (K : PySem.W.Frag) (L : Lk) (p : Prog) (n f : Nat) : Sp := fun vs H Q E => ∃ wf F G am om ds c x dx us, vs = .ref x :: us ∧ Mem K L F G am om H ∧ F x = some (.ins (L.ca c) dx []) ∧ RepL K L G am ds us ∧ (∃ d, p.defs f = some d ∧ d.cls = some c ∧ ds.length + 1 = d.np) ∧
  match initN p wf n f ds om with
  | .stuck => False
  | .ok fs om' => ∀ ws H' G' am', Grow G am G' am' → Mem K L (upd F x (.ins (L.ca c) dx ((L.fn c).zip ws))) G' am' om' H' → RepL K L G' am' fs ws → Q .non H'
  | .exc c' fs om' => ∀ cv dd H' G' am', Grow G am G' am' → Mem K L (fun a => if a = x then none else F a) G' am' om' H' → ExcR K L G' am' c' fs cv dd → E cv dd H'
structure FI where
  addr : Addr
  fd : FuncData
  ps : List Str
def Bop.py : Bop → Operator
  | .add => .Add
  | .sub => .Sub
  | .mul => .Mult
  | .fdiv => .FloorDiv
  | .mod => .Mod
  | .pow => .Pow
/-- where the program's defs stand; each keeps its promise at n -/
structure Lnk (P : Program) (w : World) (K : PySem.W.Frag) (mg : Str → Option Value) (base : Heap) (L : Lk) (p : Prog) (fi : Nat → FI) (n : Nat) : Prop where
  fn : ∀ f d, p.defs f = some d → d.cls = none → FnOk P w K mg base (L2.CX P w) (2 * n) (fi f).addr (fi f).fd (fi f).ps (spD K L p n f)
  ini : ∀ f d c, p.defs f = some d → d.cls = some c → FnOk P w K mg base (L2.CX P w) (2 * n) (fi f).addr (fi f).fd (fi f).ps (spI K L p n f)
  nf : ∀ c, p.nf c = (L.fn c).length
  opm : ∀ c o f, p.opm c o = some f → (∃ d, p.defs f = some d ∧ d.cls = none ∧ d.np = 2) ∧ p.fresh f = false ∧ PySem.W.selfFirst K (L.ca c) = true ∧
    PySem.W.findIn K (.ref (L.ca c)) (PySem.dunder o.py.info.2) = some (some (.ref (fi f).addr)) ∧ PySem.W.isFn K (.ref (fi f).addr) = true ∧ Binds K (fi f).fd (fi f).ps []
  eqm : ∀ c f, p.eqm c = some f → (∃ d, p.defs f = some d ∧ d.cls = none ∧ d.np = 2) ∧ p.fresh f = false ∧ PySem.W.notFirst K (L.ca c) (.ref (L.ca c)) = true ∧
    PySem.W.findIn K (.ref (L.ca c)) "__eq__" = some (some (.ref (fi f).addr)) ∧ PySem.W.isFn K (.ref (fi f).addr) = true ∧ Binds K (fi f).fd (fi f).ps []
  strm : ∀ c f, p.strm c = some f → (∃ d, p.defs f = some d ∧ d.cls = none ∧ d.np = 1) ∧ p.fresh f = false ∧
    PySem.W.findIn K (.ref (L.ca c)) "__str__" = some (some (.ref (fi f).addr)) ∧ PySem.W.isFn K (.ref (fi f).addr) = true ∧ Binds K (fi f).fd (fi f).ps []
section
variable {X : Cx} {L : Lk} {p : Prog} {fi : Nat → FI} {n wf : Nat}
theorem passE0 {σ : L2.St} : PassesAt (L2.CX X.prog X.w) X σ (fun _ _ _ => False) := fun pins H s e s' I c => by
  obtain ⟨_, _, _, _, _, _, _, _, _, _, _, _, z⟩ := c
  exact z.elim
/-- an operator by an own method -/
theorem own_bin {pins : List (Addr × Obj)} {s : Shared} {σ : L2.St} {H : Hp} {Q : VK} {o : Bop} {c f : Nat} {fs gs : List D} {x y : V} {v u : Value} {F G : Hp} {am : List Addr} {om : Om} {E : XK}
    (hL : Lnk X.prog X.w X.K X.mg X.base L p fi n) (hr : Room (2 * n + 1) X.A) (I : Inv X pins σ H s) (rx : RelV x v) (ry : RelV y u) (M : Mem X.K L F G am om H) (hx : Rep X.K L G am (.obj c fs) x) (hy : Rep X.K L G am (.obj c gs) y)
    (hf : p.opm c o = some f) (hp : Post X.K L (Rep X.K L) F G am (callN p wf n f [.obj c fs, .obj c gs] om).nox E Q) : wpAny (model X.prog X.w) X.A (binaryOp o.py v u) (EP X pins σ Q) X.xe s := by
  obtain ⟨⟨d, hd, hc, hnp⟩, hfr, hsf, hfind, hfn, hb⟩ := hL.opm c o f hf
  have hx0 := hx
  have hy0 := hy
  cases hx with
  | @obj _ a dx vs _ ha na ra =>
  cases hy with
  | @obj _ b dy ws _ hb' nb rb =>
  cases rx
  cases ry
  obtain ⟨mA, J, _⟩ := ins_get I.hok (M.gH _ _ ha)
  obtain ⟨mB, J', _⟩ := ins_get I.hok (M.gH _ _ hb')
  obtain ⟨od, J, _⟩ := J.look
  obtain ⟨od', J', _⟩ := J'.look
  obtain ⟨m, hF⟩ := I.fr
  refine PySem.W.binop_K hF I.ok.mod.kin J J'.type hsf hfind hfn ?_
  have hsp : spD X.K L p n f ([V.ref a, V.ref b] ++ []) H Q (fun _ _ _ => False) := by
    refine ⟨wf, F, G, am, om, _, M, .cons hx0 (.cons hy0 .nil), ⟨d, hd, by rw [hnp]; rfl⟩, ?_⟩
    rw [if_neg (by rw [hfr]; decide)]
    cases q : callN p wf n f [.obj c fs, .obj c gs] om with
    | stuck => rw [q] at hp; exact hp
    | ok a om' => rw [q] at hp; exact hp
    | exc c fs om' => rw [q] at hp; exact hp.elim
  refine wpAny_mono (run_fnSD (ds := []) (us := [.ref a, .ref b]) (vs := [.ref a, .ref b]) (dvs := []) (E := fun _ => fun _ _ _ => False) (hL.fn f d hd hc) (hr.mono (by omega)) hb .nil passE0 I (.cons rfl (.cons rfl .nil)) hsp) (fun v s' hv => ?_) fun _ _ e => e
  obtain ⟨z, H', I', rz, q⟩ := hv
  cases z with
  | non => cases rz; exact ⟨.non, H', I', rfl, q⟩
  | bl b => cases rz; exact ⟨.bl b, H', I', rfl, q⟩
  | int i => obtain ⟨t, rfl⟩ := rz; exact ⟨.int i, H', I', ⟨t, rfl⟩, q⟩
  | str i => obtain ⟨t, rfl⟩ := rz; exact ⟨.str i, H', I', ⟨t, rfl⟩, q⟩
  | byt i => obtain ⟨t, rfl⟩ := rz; exact ⟨.byt i, H', I', ⟨t, rfl⟩, q⟩
  | flt i => obtain ⟨t, rfl⟩ := rz; exact ⟨.flt i, H', I', ⟨t, rfl⟩, q⟩
  | ref a => cases rz; exact ⟨.ref a, H', I', rfl, q⟩
  | ty a => cases rz; exact ⟨.ty a, H', I', rfl, q⟩
def rOp (K : PySem.W.Frag) (L : Lk) (T : Tb) (o : Bop) : R2 := fun x y H Q => ∃ F G am om dx dy E, Mem K L F G am om H ∧ RepB K L F G am dx x ∧ RepB K L F G am dy y ∧ Post K L (Rep K L) F G am (bop T o dx dy om) E Q
theorem op_bop (hL : Lnk X.prog X.w X.K X.mg X.base L p fi n) (hr : Room (2 * n + 1) X.A) (o : Bop) : OpR X (binaryOp o.py) (rOp X.K L (tab p wf n) o) := by
  rintro pins s σ H x y v u Q I rx ry ⟨F, G, am, om, dx, dy, E, M, hx, hy, hp⟩
  unfold bop at hp
  split at hp
  · cases hx.int; cases hy.int
    exact op_add pins s σ H _ _ v u Q I rx ry ⟨_, _, rfl, rfl, hp _ H G am Grow.refl M (.int _)⟩
  · cases hx.int; cases hy.int
    exact op_sub pins s σ H _ _ v u Q I rx ry ⟨_, _, rfl, rfl, hp _ H G am Grow.refl M (.int _)⟩
  · cases hx.int; cases hy.int
    split at hp
    · rename_i hc
      exact op_mulW pins s σ H _ _ v u Q I rx ry ⟨_, _, rfl, rfl, hc, hp _ H G am Grow.refl M (.int _)⟩
    · exact hp.elim
  · cases hx.int; cases hy.int
    split at hp
    · rename_i hc
      exact op_fdivW pins s σ H _ _ v u Q I rx ry ⟨_, _, rfl, rfl, hc, hp _ H G am Grow.refl M (.int _)⟩
    · exact hp.elim
  · cases hx.int; cases hy.int
    split at hp
    · rename_i hc
      exact op_mod pins s σ H _ _ v u Q I rx ry ⟨_, _, rfl, rfl, hc, hp _ H G am Grow.refl M (.int _)⟩
    · exact hp.elim
  · cases hx.int; cases hy.int
    split at hp
    · rename_i hc
      exact op_pow pins s σ H _ _ v u Q I rx ry ⟨_, _, rfl, rfl, hc, hp _ H G am Grow.refl M (.int _)⟩
    · exact hp.elim
  · cases hx.str; cases hy.str
    split at hp
    · rename_i hc
      exact op_add_str pins s σ H _ _ v u Q I rx ry ⟨_, _, rfl, rfl, sz_le hc, hp _ H G am Grow.refl M (.str _)⟩
    · exact hp.elim
  · obtain ⟨a, vs, rfl, ha, ra⟩ := hx.lst M
    obtain ⟨b, ws, rfl, hb, rb⟩ := hy.lst M
    split at hp
    · rename_i hc
      refine op_cat pins s σ H _ _ v u Q I rx ry ⟨_, _, _, _, rfl, rfl, ha, hb, sz_le (by rw [← ra.length, ← rb.length]; exact hc), fun q hq => ?_⟩
      exact hp _ _ _ am (Grow.of (M.none_g hq)) (M.new hq) (.lst upd_same ((ra.append rb).up (Grow.of (M.none_g hq))))
    · exact hp.elim
  · obtain ⟨a, vs, rfl, ha, ra⟩ := hx.tup
    obtain ⟨b, ws, rfl, hb, rb⟩ := hy.tup
    split at hp
    · rename_i hc
      refine op_catA pins s σ H _ _ v u Q I rx ry ⟨a, b, vs, ws, rfl, rfl, SqT.of (M.gH _ _ ha), SqT.of (M.gH _ _ hb), sz_le (by rw [← ra.length, ← rb.length]; exact hc), fun e => ?_, fun _ e => ?_, fun _ _ q hq => ?_⟩
      · subst e
        cases ra
        exact hp _ H G am Grow.refl M (.tup hb rb)
      · subst e
        cases rb
        rw [List.append_nil] at hp
        exact hp _ H G am Grow.refl M (.tup ha ra)
      · exact hp _ _ _ am (Grow.of (M.none_g hq)) (M.new hq) (.tup upd_same ((ra.append rb).up (Grow.of (M.none_g hq))))
    · exact hp.elim
  · obtain ⟨a, vs, rfl, ha, ra⟩ := hx.lst M
    cases hy.int
    split at hp
    · rename_i hc
      obtain ⟨h0, h1, h2⟩ := hc
      refine op_rep pins s σ H _ _ v u Q I rx ry ⟨_, _, _, rfl, rfl, ha, by omega, by omega, sz_le (by rw [← ra.length]; exact h2), fun q hq => ?_⟩
      exact hp _ _ _ am (Grow.of (M.none_g hq)) (M.new hq) (.lst upd_same ((ra.rep _).up (Grow.of (M.none_g hq))))
    · exact hp.elim
  · split at hp
    · rename_i hc
      subst hc
      split at hp
      · rename_i f hf
        exact own_bin hL hr I rx ry M hx.objE hy.objE hf hp
      · exact hp.elim
    · exact hp.elim
  · exact hp.elim
end
section
variable {X : Cx} {L : Lk} {p : Prog} {fi : Nat → FI} {n wf : Nat} {W : WX} {a b c : Expr} {ea eb ec : E} {pos : Pos}
theorem pE_op (hL : Lnk X.prog X.w X.K X.mg X.base L p fi n) (hr : Room (2 * n + 1) X.A) (o : Bop) (ha : PE X a (rdB X.K L (tab p wf n) W ea)) (hb : PE X b (rdB X.K L (tab p wf n) W eb)) : PE X (.BinOp a o.py b pos) (rdE X.K L (tab p wf n) W (.op o ea eb)) :=
  (pe_op (op_bop hL hr o) ha hb).imp fun σ H Q ⟨F, G, am, om, sl, M, S, pp⟩ => rd2 M S pp fun x y H' G' am' om' dx dy M' rx ry p2 => ⟨F, G', am', om', dx, dy, _, M', rx, ry, p2⟩
def rCatF (K : PySem.W.Frag) (L : Lk) (f : D → D → Om → Rs D) : R2 := fun x y H Q => ∃ F G am om dx dy E, Mem K L F G am om H ∧ RepB K L F G am dx x ∧ RepB K L F G am dy y ∧ PostF K L F G am (f dx dy om) E Q
theorem op_catF : OpR X (binaryOp .Add) (rCatF X.K L catD) := by
  rintro pins s σ H x y v u Q I rx ry ⟨F, G, am, om, dx, dy, E, M, hx, hy, hp⟩
  unfold catD at hp
  split at hp
  · obtain ⟨a, vs, rfl, ha, ra⟩ := hx.lst M
    obtain ⟨b, ws, rfl, hb, rb⟩ := hy.lst M
    split at hp
    · rename_i hc
      obtain ⟨ds, e, hp⟩ := hp
      cases e
      refine op_cat pins s σ H _ _ v u Q I rx ry ⟨_, _, _, _, rfl, rfl, ha, hb, sz_le (by rw [← ra.length, ← rb.length]; exact hc), fun q hq => ?_⟩
      exact hp _ _ _ _ am Grow.refl (M.none_f hq) (M.newF hq) (ra.append rb)
    · exact hp.elim
  · exact hp.elim
theorem op_repF : OpR X (binaryOp .Mult) (rCatF X.K L repD) := by
  rintro pins s σ H x y v u Q I rx ry ⟨F, G, am, om, dx, dy, E, M, hx, hy, hp⟩
  unfold repD at hp
  split at hp
  · obtain ⟨a, vs, rfl, ha, ra⟩ := hx.lst M
    cases hy.int
    split at hp
    · rename_i hc
      obtain ⟨h0, h1, h2⟩ := hc
      obtain ⟨ds, e, hp⟩ := hp
      cases e
      refine op_rep pins s σ H _ _ v u Q I rx ry ⟨_, _, _, rfl, rfl, ha, by omega, by omega, sz_le (by rw [← ra.length]; exact h2), fun q hq => ?_⟩
      exact hp _ _ _ _ am Grow.refl (M.none_f hq) (M.newF hq) (ra.rep _)
    · exact hp.elim
  · exact hp.elim
/-- reading a and then b, a new list behind -/
theorem rd2F {T : Tb} {σ : L2.St} {H : Hp} {Q : VK} {K : PySem.W.Frag} {f : D → D → Om → Rs D} {F G : Hp} {am : List Addr} {om : Om} {sl : Sl} (M : Mem K L F G am om H) (S : SlR K L F G am sl σ)
    (p : PostF K L F G am ((evE T ea sl om).bind fun x om => (evE T eb sl om).bind fun y om => f x y om) (fun cv dd H => W cv dd σ H) Q)
    {r : R2} (k : ∀ x y H' G' am' om' dx dy, Mem K L F G' am' om' H' → RepB K L F G' am' dx x → RepB K L F G' am' dy y → PostF K L F G' am' (f dx dy om') (fun cv dd H => W cv dd σ H) Q → r x y H' Q) :
    rdB K L T W ea σ H fun x H1 => rdB K L T W eb σ H1 fun y H2 => r x y H2 Q :=
  ⟨F, G, am, om, sl, M, S, p.bind fun dx om1 x H1 G1 am1 g1 M1 rx p1 => ⟨F, G1, am1, om1, sl, M1, S.grow g1, p1.bind fun dy om2 y H2 G2 am2 g2 M2 ry p2 => k x y H2 G2 am2 om2 dx dy M2 (rx.up g2) ry p2⟩⟩
theorem pF_cat {T : Tb} (ha : PE X a (rdB X.K L T W ea)) (hb : PE X b (rdB X.K L T W eb)) : PE X (.BinOp a .Add b pos) (rdF X.K L T W (.cat ea eb)) :=
  (pe_op op_catF ha hb).imp fun σ H Q ⟨F, G, am, om, sl, M, S, pp⟩ => rd2F M S pp fun x y H' G' am' om' dx dy M' rx ry p2 => ⟨F, G', am', om', dx, dy, _, M', rx, ry, p2⟩
theorem pF_rp {T : Tb} (ha : PE X a (rdB X.K L T W ea)) (hb : PE X b (rdB X.K L T W eb)) : PE X (.BinOp a .Mult b pos) (rdF X.K L T W (.rp ea eb)) :=
  (pe_op op_repF ha hb).imp fun σ H Q ⟨F, G, am, om, sl, M, S, pp⟩ => rd2F M S pp fun x y H' G' am' om' dx dy M' rx ry p2 => ⟨F, G', am', om', dx, dy, _, M', rx, ry, p2⟩
end
end PD

set_option Elab.async false
set_option linter.all false
set_option maxRecDepth 100000
set_option maxHeartbeats 400000
/-! PDE: comparisons, tests. -/
namespace PD
open PySem PySem.Spec PyProof.Rows L2
section
variable {K : PySem.W.Frag} {L : Lk} {F G H : Hp} {am : List Addr} {om : Om}
mutual
theorem dpG (e : Ex G H) : ∀ (d : D) (v : V) (q : PyData), Rep K L G am d v → toP d = some q → Dp K H v q
  | _, _, q, .non, h => by cases h; exact .non
  | _, _, q, .bl b, h => by cases h; exact .bl b
  | _, _, q, .int b, h => by cases h; exact .int b
  | _, _, q, .str b, h => by cases h; exact .str b
  | .lst ds, _, q, .lst (vs := vs) h r, hq => by
    rw [toP] at hq
    cases z : toPs ds with
    | none => rw [z] at hq; cases hq
    | some qs =>
      rw [z] at hq
      cases hq
      exact .lst (SqL.of (e _ _ h)) (dpGs e ds vs qs r z)
  | .tup ds, _, q, .tup (vs := vs) h r, hq => by
    rw [toP] at hq
    cases z : toPs ds with
    | none => rw [z] at hq; cases hq
    | some qs =>
      rw [z] at hq
      cases hq
      exact .tup (SqT.of (e _ _ h)) (dpGs e ds vs qs r z)
  | .obj _ _, _, q, _, h => by cases h
  | .amb _, _, q, _, h => by cases h
  | .scr _, _, q, _, h => by cases h
theorem dpGs (e : Ex G H) : ∀ (ds : List D) (vs : List V) (qs : List PyData), RepL K L G am ds vs → toPs ds = some qs → DpAll K H vs qs
  | [], _, qs, .nil, h => by cases h; exact .nil
  | d :: ds, v :: vs, qs, .cons h r, hq => by
    rw [toPs] at hq
    cases z : toP d with
    | none => rw [z] at hq; cases hq
    | some q =>
      rw [z] at hq
      cases zs : toPs ds with
      | none => rw [zs] at hq; cases hq
      | some qs' =>
        rw [zs] at hq
        cases hq
        exact .cons (dpG e d v q h z) (dpGs e ds vs qs' r zs)
end
theorem RepB.dp {d : D} {v : V} {q : PyData} (h : RepB K L F G am d v) (M : Mem K L F G am om H) (hq : toP d = some q) : Dp K H v q := by
  rcases h with h | ⟨a, vs, ds, rfl, rfl, f, r⟩
  · exact dpG M.gH d v q h hq
  · rw [toP] at hq
    cases z : toPs ds with
    | none => rw [z] at hq; cases hq
    | some qs =>
      rw [z] at hq
      cases hq
      exact .lst (SqL.of (M.fH _ _ f)) (dpGs M.gH ds vs qs r z)
/-- a flat value's data -/
def fV : V → PyData
  | .bl b => .bool b
  | .int i => .int i
  | .str s => .str s
  | _ => .none
theorem fV_eqv : ∀ x y : V, flatV x = true → flatV y = true → eqV x y = PyData.eqv (fV x) (fV y) := by
  intro x y hx hy
  cases x <;> cases y <;> first | (simp [flatV] at hx; done) | (simp [flatV] at hy; done) | simp [eqV, fV, PyData.eqv]
theorem flat_r {d : D} {v : V} {q : PyData} (r : Rep K L G am d v) (f : flatD d = true) (h : toP d = some q) : flatV v = true ∧ q = fV v := by
  cases r with
  | non => simp only [toP, Option.some.injEq] at h; exact ⟨rfl, h.symm⟩
  | bl b => simp only [toP, Option.some.injEq] at h; exact ⟨rfl, h.symm⟩
  | int b => simp only [toP, Option.some.injEq] at h; exact ⟨rfl, h.symm⟩
  | str b => simp only [toP, Option.some.injEq] at h; exact ⟨rfl, h.symm⟩
  | lst _ _ => cases f
  | tup _ _ => cases f
  | obj _ _ _ => cases f
  | amb _ => cases f
  | scr _ _ => cases f
theorem flat_v {d : D} {v : V} {q : PyData} (r : Rep K L G am d v) (f : flatD d = true) (h : toP d = some q) : flatV v = true ∧ ∀ (d' : D) (v' : V) (q' : PyData), Rep K L G am d' v' → flatD d' = true → toP d' = some q' → eqV v v' = PyData.eqv q q' := by
  obtain ⟨a, rfl⟩ := flat_r r f h
  refine ⟨a, fun d' v' q' r' f' h' => ?_⟩
  obtain ⟨b, rfl⟩ := flat_r r' f' h'
  exact fV_eqv _ _ a b
theorem inV_of {x : D} {v : V} {q : PyData} (rx : Rep K L G am x v) (fx : flatD x = true) (hx : toP x = some q) : ∀ {ys : List D} {vs : List V} {qs : List PyData}, RepL K L G am ys vs → ys.all flatD = true → toPs ys = some qs →
    vs.all flatV = true ∧ inV v vs = qs.any fun z => PyData.eqv z q
  | _, _, _, .nil, _, h => by cases h; exact ⟨rfl, rfl⟩
  | d :: ds, w :: ws, qs, .cons h r, f, hq => by
    rw [List.all_cons, Bool.and_eq_true] at f
    rw [toPs] at hq
    cases z : toP d with
    | none => rw [z] at hq; cases hq
    | some q1 =>
      rw [z] at hq
      cases zs : toPs ds with
      | none => rw [zs] at hq; cases hq
      | some qs' =>
        rw [zs] at hq
        cases hq
        obtain ⟨a, b⟩ := inV_of rx fx hx r f.2 zs
        obtain ⟨c, e⟩ := flat_v h f.1 z
        refine ⟨by rw [List.all_cons, c, a]; rfl, ?_⟩
        show List.any (w :: ws) _ = _
        rw [List.any_cons, List.any_cons, e x v q rx fx hx]
        exact congrArg _ b
end
def Cop.py : Cop → CmpOp
  | .eq => .Eq
  | .ne => .NotEq
  | .lt => .Lt
  | .le => .LtE
  | .gt => .Gt
  | .ge => .GtE
  | .inn => .In
  | .nin => .NotIn
  | .is => .Is
  | .isn => .IsNot
section
variable {X : Cx} {L : Lk} {p : Prog} {fi : Nat → FI} {n wf : Nat}
def rCm (K : PySem.W.Frag) (L : Lk) (T : Tb) (o : Cop) : R2 := fun x y H Q => ∃ F G am om dx dy E, Mem K L F G am om H ∧ RepB K L F G am dx x ∧ RepB K L F G am dy y ∧ Post K L eqR F G am (cmp T o dx dy om) E fun b H' => Q (.bl b) H'
theorem eqD_obj (T : Tb) (c c' : Nat) (fs gs : List D) (om : Om) : eqD T (.obj c fs) (.obj c' gs) om = if c = c' then match T.eqm c with
      | some f => match T.call f [.obj c fs, .obj c' gs] om with
        | .ok (.bl b) om' => .ok b om'
        | _ => .stuck
      | none => .stuck
    else .stuck := rfl
/-- == and != by an own __eq__ -/
theorem own_eq {pins : List (Addr × Obj)} {s : Shared} {σ : L2.St} {H : Hp} {Q : VK} {c f : Nat} {fs gs : List D} {x y : V} {v u : Value} {F G : Hp} {am : List Addr} {om om' : Om} {b : Bool}
    (hL : Lnk X.prog X.w X.K X.mg X.base L p fi n) (hr : Room (2 * n + 1) X.A) (I : Inv X pins σ H s) (rx : RelV x v) (ry : RelV y u) (M : Mem X.K L F G am om H) (hx : Rep X.K L G am (.obj c fs) x) (hy : Rep X.K L G am (.obj c gs) y)
    (hf : p.eqm c = some f) (hc : callN p wf n f [.obj c fs, .obj c gs] om = .ok (.bl b) om') (hp : ∀ H' G' am', Grow G am G' am' → Mem X.K L F G' am' om' H' → Q (.bl b) H') : wpAny (model X.prog X.w) X.A (compareOp .Eq v u) (EP X pins σ Q) X.xe s := by
  obtain ⟨⟨d, hd, hcl, hnp⟩, hfr, hsf, hfind, hfn, hb⟩ := hL.eqm c f hf
  have hx0 := hx
  have hy0 := hy
  cases hx with
  | @obj _ a dx vs _ ha na ra =>
  cases hy with
  | @obj _ b' dy ws _ hb' nb rb =>
  cases rx
  cases ry
  obtain ⟨mA, J, _⟩ := ins_get I.hok (M.gH _ _ ha)
  obtain ⟨mB, J', _⟩ := ins_get I.hok (M.gH _ _ hb')
  obtain ⟨od, J, _⟩ := J.look
  obtain ⟨od', J', _⟩ := J'.look
  obtain ⟨m, hF⟩ := I.fr
  show wpAny _ _ (richCompare .Eq _ _) _ _ _
  refine PySem.W.cmp_K (op := .Eq) (tb := .ref (L.ca c)) hr.units0 hF I.ok.mod.kin J J'.type hsf hfind hfn ?_
  have hsp : spD X.K L p n f ([V.ref a, V.ref b'] ++ []) H (fun z H' => z = .bl b ∧ Q z H') (fun _ _ _ => False) := by
    refine ⟨wf, F, G, am, om, _, M, .cons hx0 (.cons hy0 .nil), ⟨d, hd, by rw [hnp]; rfl⟩, ?_⟩
    rw [if_neg (by rw [hfr]; decide), hc]
    intro v H' G' am' g M' r
    cases r
    exact ⟨rfl, hp H' G' am' g M'⟩
  refine wpAny_mono (run_fnSD (ds := []) (us := [.ref a, .ref b']) (vs := [.ref a, .ref b']) (dvs := []) (E := fun _ => fun _ _ _ => False) (hL.fn f d hd hcl) (hr.mono (by omega)) hb .nil passE0 I (.cons rfl (.cons rfl .nil)) hsp) (fun v s' hv => ?_) fun _ _ e => e
  obtain ⟨z, H', I', rz, ez, q⟩ := hv
  subst ez
  cases rz
  exact ⟨.bl b, H', I', rfl, q⟩
theorem scal_case (x y : D) : (∃ c c' fs gs, x = .obj c fs ∧ y = .obj c' gs) ∨ ∀ (T : Tb) (om : Om), eqD T x y om = match toP x, toP y with
      | some p, some q => if (SeqAt.shaped p && SeqAt.shaped q) = true then .ok (PyData.eqv p q) om else .stuck
      | _, _ => .stuck := by
  cases x <;> first | exact .inr fun _ _ => rfl | (cases y <;> first | exact .inr fun _ _ => rfl | exact .inl ⟨_, _, _, _, rfl, rfl⟩)
theorem opt_ok {K : PySem.W.Frag} {F G H : Hp} {am : List Addr} {om : Om} {o : Option Bool} {E : XK} {Q : Bool → Hp → Prop} (M : Mem K L F G am om H) (h : Post K L eqR F G am (opt o om) E Q) : ∃ b, o = some b ∧ Q b H := by
  cases o with
  | none => exact h.elim
  | some b => exact ⟨b, rfl, h b H G am Grow.refl M rfl⟩
theorem op_cmp (hL : Lnk X.prog X.w X.K X.mg X.base L p fi n) (hr : Room (2 * n + 1) X.A) (hu : X.A.units + 65 < cLine) (o : Cop) : OpR X (compareOp o.py) (rCm X.K L (tab p wf n) o) := by
  rintro pins s σ H x y v u Q I rx ry ⟨F, G, am, om, dx, dy, E, M, hx, hy, hp⟩
  cases o with
  | eq =>
    change Post X.K L eqR F G am (eqD (tab p wf n) dx dy om) E _ at hp
    rcases scal_case dx dy with ⟨c, c', fs, gs, rfl, rfl⟩ | he
    · rw [eqD_obj] at hp
      split at hp
      · rename_i hc
        subst hc
        split at hp
        · rename_i f hf
          split at hp
          · rename_i b om' hcall
            exact own_eq (b := b) (om' := om') hL hr I rx ry M hx.objE hy.objE hf hcall fun H' G' am' g M' => hp b H' G' am' g M' rfl
          · exact hp.elim
        · exact hp.elim
      · exact hp.elim
    · rw [he] at hp
      split at hp
      · rename_i q q' h1 h2
        split at hp
        · rename_i hs
          rw [Bool.and_eq_true] at hs
          exact op_eqD (by omega) pins s σ H _ _ v u Q I rx ry ⟨_, _, hx.dp M h1, hy.dp M h2, hs.1, hs.2, hp _ H G am Grow.refl M rfl⟩
        · exact hp.elim
      · exact hp.elim
  | ne =>
    change Post X.K L eqR F G am (neD dx dy om) E _ at hp
    unfold neD at hp
    split at hp
    · rename_i q q' h1 h2
      split at hp
      · rename_i hs
        rw [Bool.and_eq_true] at hs
        exact op_neD (by omega) pins s σ H _ _ v u Q I rx ry ⟨_, _, hx.dp M h1, hy.dp M h2, hs.1, hs.2, hp _ H G am Grow.refl M rfl⟩
      · exact hp.elim
    · exact hp.elim
  | lt =>
    obtain ⟨b, e, q⟩ := opt_ok M hp
    unfold ltD at e
    split at e
    · cases e; cases hx.int; cases hy.int
      exact op_lt pins s σ H _ _ v u Q I rx ry ⟨_, _, rfl, rfl, q⟩
    · cases e; cases hx.str; cases hy.str
      exact op_lt_str pins s σ H _ _ v u Q I rx ry ⟨_, _, rfl, rfl, q⟩
    · cases e
  | le =>
    obtain ⟨b, e, q⟩ := opt_ok M hp
    unfold leD at e
    split at e
    · cases e; cases hx.int; cases hy.int
      exact op_le pins s σ H _ _ v u Q I rx ry ⟨_, _, rfl, rfl, q⟩
    · cases e; cases hx.str; cases hy.str
      exact op_le_str pins s σ H _ _ v u Q I rx ry ⟨_, _, rfl, rfl, q⟩
    · cases e
  | gt =>
    obtain ⟨b, e, q⟩ := opt_ok M hp
    unfold gtD at e
    split at e
    · cases e; cases hx.int; cases hy.int
      exact op_gt pins s σ H _ _ v u Q I rx ry ⟨_, _, rfl, rfl, q⟩
    · cases e
  | ge =>
    obtain ⟨b, e, q⟩ := opt_ok M hp
    unfold geD at e
    split at e
    · cases e; cases hx.int; cases hy.int
      exact op_ge pins s σ H _ _ v u Q I rx ry ⟨_, _, rfl, rfl, q⟩
    · cases e
  | inn =>
    obtain ⟨b, e, q⟩ := opt_ok M hp
    unfold inX at e
    split at e
    · split at e
      · cases e; cases hx.str; cases hy.str
        exact op_in_str pins s σ H _ _ v u Q I rx ry ⟨_, _, rfl, rfl, q⟩
      · cases e
    · unfold inD at e
      split at e
      · rename_i h1 h2
        split at e
        · rename_i hs
          rw [Bool.and_eq_true] at hs
          cases e
          exact op_inD hu pins s σ H _ _ v u Q I rx ry ⟨_, _, hx.dp M h1, hy.dp M (by rw [toP, h2]; rfl), hs.1, hs.2, q⟩
        · cases e
      · cases e
    · obtain ⟨a, vs, rfl, ha, ra⟩ := hy.tup
      unfold inT at e
      split at e
      · rename_i hs
        rw [Bool.and_eq_true] at hs
        split at e
        · rename_i h1 h2
          cases e
          have hx' : Rep X.K L G am dx x := by
            rcases hx with h | ⟨_, _, _, rfl, _⟩
            · exact h
            · cases hs.1
          obtain ⟨f1, f2⟩ := inV_of hx' hs.1 h1 ra hs.2 h2
          refine op_in_seq pins s σ H _ _ v u Q I rx ry ⟨a, vs, rfl, .inr (SqT.of (M.gH _ _ ha)), (flat_v hx' hs.1 h1).1, f1, ?_⟩
          rw [f2]
          exact q
        · cases e
      · cases e
    · cases e
  | nin =>
    obtain ⟨b, e, q⟩ := opt_ok M hp
    cases z : inX dx dy with
    | none => rw [z] at e; cases e
    | some b0 =>
      rw [z] at e
      cases e
      unfold inX at z
      split at z
      · split at z
        · cases z; cases hx.str; cases hy.str
          exact op_notIn_str pins s σ H _ _ v u Q I rx ry ⟨_, _, rfl, rfl, q⟩
        · cases z
      · unfold inD at z
        split at z
        · rename_i h1 h2
          split at z
          · rename_i hs
            rw [Bool.and_eq_true] at hs
            cases z
            exact op_notInD hu pins s σ H _ _ v u Q I rx ry ⟨_, _, hx.dp M h1, hy.dp M (by rw [toP, h2]; rfl), hs.1, hs.2, q⟩
          · cases z
        · cases z
      · obtain ⟨a, vs, rfl, ha, ra⟩ := hy.tup
        unfold inT at z
        split at z
        · rename_i hs
          rw [Bool.and_eq_true] at hs
          split at z
          · rename_i h1 h2
            cases z
            have hx' : Rep X.K L G am dx x := by
              rcases hx with h | ⟨_, _, _, rfl, _⟩
              · exact h
              · cases hs.1
            obtain ⟨f1, f2⟩ := inV_of hx' hs.1 h1 ra hs.2 h2
            refine op_notIn_seq pins s σ H _ _ v u Q I rx ry ⟨a, vs, rfl, .inr (SqT.of (M.gH _ _ ha)), (flat_v hx' hs.1 h1).1, f1, ?_⟩
            rw [f2]
            exact q
          · cases z
        · cases z
      · cases z
  | is =>
    obtain ⟨b, e, q⟩ := opt_ok M hp
    unfold isN at e
    split at e
    · cases hy.non
      refine op_isN pins s σ H _ _ v u Q I rx ry ⟨rfl, ?_⟩
      split at e
      · cases e; cases hx.non; exact q
      · cases e; cases hx.bl; exact q
      · cases e; cases hx.int; exact q
      · cases e; cases hx.str; exact q
      · cases e
        obtain ⟨a, vs, rfl, _⟩ := hx.lst M
        exact q
      · cases e
        obtain ⟨a, vs, rfl, _⟩ := hx.tup
        exact q
      · cases e
        obtain ⟨a, dx, vs, rfl, _⟩ := hx.obj
        exact q
      · cases e
    · cases e
  | isn =>
    obtain ⟨b, e, q⟩ := opt_ok M hp
    cases z : isN dx dy with
    | none => rw [z] at e; cases e
    | some b0 =>
      rw [z] at e
      cases e
      unfold isN at z
      split at z
      · cases hy.non
        refine op_notN pins s σ H _ _ v u Q I rx ry ⟨rfl, ?_⟩
        split at z
        · cases z; cases hx.non; exact q
        · cases z; cases hx.bl; exact q
        · cases z; cases hx.int; exact q
        · cases z; cases hx.str; exact q
        · cases z
          obtain ⟨a, vs, rfl, _⟩ := hx.lst M
          exact q
        · cases z
          obtain ⟨a, vs, rfl, _⟩ := hx.tup
          exact q
        · cases z
          obtain ⟨a, dx, vs, rfl, _⟩ := hx.obj
          exact q
        · cases z
      · cases z
end
end PD

set_option Elab.async false
set_option linter.all false
set_option maxRecDepth 100000
set_option maxHeartbeats 400000
/-! PDF: comparisons, truth, and, or, not, if as expressions and tests. -/
namespace PD
open PySem PySem.Spec PyProof.Rows L2
section
variable {K : PySem.W.Frag} {L : Lk} {F G G' H : Hp} {am am' : List Addr} {om : Om} {α β : Type}
theorem isEmpty_len {α β : Type} {xs : List α} {ys : List β} (h : xs.length = ys.length) : xs.isEmpty = ys.isEmpty := by
  cases xs <;> cases ys <;> first | rfl | cases h
theorem tru_V {d : D} {v : V} {b : Bool} (M : Mem K L F G am om H) (r : RepB K L F G am d v) (h : truD d = some b) : TruV K v H b := by
  cases d with
  | non => cases r.non; cases h; exact rfl
  | bl c => cases r.bl; cases h; exact rfl
  | int i => cases r.int; cases h; exact rfl
  | str s =>
    cases r.str
    simp only [truD] at h
    split at h
    · rename_i hs
      cases h
      exact ⟨sz_le hs, rfl⟩
    · cases h
  | lst ds =>
    obtain ⟨a, vs, rfl, ha, ra⟩ := r.lst M
    cases h
    exact .inl ⟨vs, SqL.of ha, by rw [isEmpty_len ra.length]⟩
  | tup ds =>
    obtain ⟨a, vs, rfl, ha, ra⟩ := r.tup
    cases h
    exact .inr (.inl ⟨vs, SqT.of (M.gH _ _ ha), by rw [isEmpty_len ra.length]⟩)
  | obj _ _ => cases h
  | amb _ => cases h
  | scr _ => cases h
/-- the truth of what was read -/
theorem tru_post {γ δ : Type} {d : D} {v : V} {f : Bool → Om → Rs γ} {R : Hp → List Addr → γ → δ → Prop} {E : XK} {Q : δ → Hp → Prop} (M : Mem K L F G am om H) (r : RepB K L F G am d v) (h : Post K L R F G am ((tru d om).bind f) E Q) :
    ∃ b, TruV K v H b ∧ tru d om = .ok b om ∧ Post K L R F G am (f b om) E Q := by
  unfold tru at h ⊢
  cases q : truD d with
  | none => rw [q] at h; exact h.elim
  | some b =>
    rw [q] at h
    exact ⟨b, tru_V M r q, rfl, h⟩
end
section
variable {X : Cx} {L : Lk} {p : Prog} {fi : Nat → FI} {n wf : Nat} {W : WX} {T : Tb} {a b c : Expr} {ea eb ec : E} {pos : Pos} {rest : List Expr}
/-! ### tests -/
theorem pT_tru (ha : PE X a (rdB X.K L T W ea)) (he : ∀ whole, isTrue a X.env whole = (do let v ← whole; standAt a.pos; holding [v] (truthy v))) : PT X a (rdT X.K L T W ea) :=
  (pt_truth ha he).imp fun σ H Q ⟨F, G, am, om, sl, M, S, pp⟩ => ⟨F, G, am, om, sl, M, S, pp.bind fun d om1 v H1 G1 am1 g1 M1 r1 p1 => by
    unfold tru at p1
    cases q : truD d with
    | none => rw [q] at p1; exact p1.elim
    | some t =>
      rw [q] at p1
      exact ⟨t, tru_V M1 r1 q, p1 t H1 G1 am1 Grow.refl M1 rfl⟩⟩
theorem bind_assoc {α β γ : Type} (r : Rs α) (f : α → Om → Rs β) (g : β → Om → Rs γ) : (r.bind f).bind g = r.bind fun a om => (f a om).bind g := by cases r <;> rfl
theorem cm_true {K : PySem.W.Frag} {F G : Hp} {am : List Addr} {E : XK} {Q : Bool → Hp → Prop} {r : Rs Bool} (h : Post K L eqR F G am ((r.bind fun c om => Rs.ok (D.bl c) om).bind fun x om => tru x om) E Q) : Post K L eqR F G am r E Q := by
  cases r with
  | stuck => exact h
  | ok c om => exact h
  | exc c fs om => exact h
theorem pT_cm (hL : Lnk X.prog X.w X.K X.mg X.base L p fi n) (hr : Room (2 * n + 1) X.A) (o : Cop) (ha : PE X a (rdB X.K L (tab p wf n) W ea)) (hb : PE X b (rdB X.K L (tab p wf n) W eb)) (hm : behindInMarks o.py b = false) : PT X (.Compare a [o.py] [b] pos) (rdT X.K L (tab p wf n) W (.cm o ea eb)) :=
  (pt_cmpR (op_cmp hL hr (by have := hr.un; omega) o) ha hb hm).imp fun σ H Q ⟨F, G, am, om, sl, M, S, pp⟩ => by
    have pp' : Post X.K L eqR F G am ((evE (tab p wf n) ea sl om).bind fun x om => (evE (tab p wf n) eb sl om).bind fun y om => cmp (tab p wf n) o x y om) (fun cv dd H => W cv dd σ H) Q := by
      have e : evT (tab p wf n) (.cm o ea eb) sl om = ((evE (tab p wf n) ea sl om).bind fun x om => (evE (tab p wf n) eb sl om).bind fun y om => (cmp (tab p wf n) o x y om).bind fun c om => .ok (.bl c) om).bind fun x om => tru x om := rfl
      rw [e] at pp
      cases q : evE (tab p wf n) ea sl om with
      | stuck => rw [q] at pp; exact pp
      | exc c fs om1 => rw [q] at pp; exact pp
      | ok x om1 =>
        rw [q] at pp
        simp only [bind_ok] at pp ⊢
        cases q2 : evE (tab p wf n) eb sl om1 with
        | stuck => rw [q2] at pp; exact pp
        | exc c fs om1 => rw [q2] at pp; exact pp
        | ok y om2 =>
          rw [q2] at pp
          simp only [bind_ok] at pp ⊢
          exact cm_true pp
    exact ⟨F, G, am, om, sl, M, S, pp'.bind fun dx om1 x H1 G1 am1 g1 M1 rx p1 => ⟨F, G1, am1, om1, sl, M1, S.grow g1, p1.bind fun dy om2 y H2 G2 am2 g2 M2 ry p2 =>
      ⟨F, G2, am2, om2, dx, dy, _, M2, rx.up g2, ry, p2.mono fun b H3 q => ⟨b, rfl, q⟩⟩⟩⟩
theorem pE_cm (hL : Lnk X.prog X.w X.K X.mg X.base L p fi n) (hr : Room (2 * n + 1) X.A) (o : Cop) (ha : PE X a (rdB X.K L (tab p wf n) W ea)) (hb : PE X b (rdB X.K L (tab p wf n) W eb)) (hm : behindInMarks o.py b = false) : PE X (.Compare a [o.py] [b] pos) (rdE X.K L (tab p wf n) W (.cm o ea eb)) :=
  (pe_cmpR (op_cmp hL hr (by have := hr.un; omega) o) ha hb hm).imp fun σ H Q ⟨F, G, am, om, sl, M, S, pp⟩ =>
    ⟨F, G, am, om, sl, M, S, pp.bind fun dx om1 x H1 G1 am1 g1 M1 rx p1 => ⟨F, G1, am1, om1, sl, M1, S.grow g1, p1.bind fun dy om2 y H2 G2 am2 g2 M2 ry p2 =>
      ⟨F, G2, am2, om2, dx, dy, _, M2, rx.up g2, ry, p2.bind fun b om3 b' H3 G3 am3 g3 M3 e p3 => by
        cases e
        exact p3 (.bl b) H3 G3 am3 Grow.refl M3 (.bl b)⟩⟩⟩
theorem pE_ch (hL : Lnk X.prog X.w X.K X.mg X.base L p fi n) (hr : Room (2 * n + 1) X.A) (o o' : Cop) (ha : PE X a (rdB X.K L (tab p wf n) W ea)) (hb : PE X b (rdB X.K L (tab p wf n) W eb)) (hc : PE X c (rdB X.K L (tab p wf n) W ec)) (hm : lastMarks [o.py, o'.py] [b, c] = false) :
    PE X (.Compare a [o.py, o'.py] [b, c] pos) (rdE X.K L (tab p wf n) W (.ch o o' ea eb ec)) :=
  (pe_chain (op_cmp hL hr (by have := hr.un; omega) o) (op_cmp hL hr (by have := hr.un; omega) o') ha hb hc hm).imp fun σ H Q ⟨F, G, am, om, sl, M, S, pp⟩ =>
    ⟨F, G, am, om, sl, M, S, pp.bind fun dx om1 x H1 G1 am1 g1 M1 rx p1 => ⟨F, G1, am1, om1, sl, M1, S.grow g1, p1.bind fun dy om2 y H2 G2 am2 g2 M2 ry p2 =>
      ⟨F, G2, am2, om2, dx, dy, _, M2, rx.up g2, ry, p2.bind fun b om3 b' H3 G3 am3 g3 M3 e p3 => by
        cases e
        refine ⟨b, rfl, ?_⟩
        cases b with
        | true =>
          rw [if_pos rfl] at p3 ⊢
          exact ⟨F, G3, am3, om3, sl, M3, ((S.grow g1).grow g2).grow g3, p3.bind fun dz om4 z H4 G4 am4 g4 M4 rz p4 => ⟨F, G4, am4, om4, dy, dz, _, M4, (ry.up g3).up g4, rz, p4.bind fun b om5 b' H5 G5 am5 g5 M5 e p5 => by
            cases e
            exact p5 (.bl b) H5 G5 am5 Grow.refl M5 (.bl b)⟩⟩
        | false =>
          rw [if_neg (by decide)] at p3 ⊢
          exact p3 (.bl false) H3 G3 am3 Grow.refl M3 (.bl false)⟩⟩⟩
/-- a bool as a value is a bool as a test -/
theorem pT_val (ha : PE X a (rdE X.K L T W ea)) (he : ∀ whole, isTrue a X.env whole = (do let v ← whole; standAt a.pos; holding [v] (truthy v))) : PT X a (rdT X.K L T W ea) := pT_tru (pB ha) he
theorem pT_ch (hL : Lnk X.prog X.w X.K X.mg X.base L p fi n) (hr : Room (2 * n + 1) X.A) (o o' : Cop) (ha : PE X a (rdB X.K L (tab p wf n) W ea)) (hb : PE X b (rdB X.K L (tab p wf n) W eb)) (hc : PE X c (rdB X.K L (tab p wf n) W ec)) (hm : lastMarks [o.py, o'.py] [b, c] = false) :
    PT X (.Compare a [o.py, o'.py] [b, c] pos) (rdT X.K L (tab p wf n) W (.ch o o' ea eb ec)) :=
  (pt_chain (op_cmp (wf := wf) hL hr (by have := hr.un; omega) o) (op_cmp (wf := wf) hL hr (by have := hr.un; omega) o') ha hb hc hm).imp fun σ H Q ⟨F, G, am, om, sl, M, S, pp⟩ => by
    have e : evT (tab p wf n) (.ch o o' ea eb ec) sl om = (evE (tab p wf n) ea sl om).bind fun x om => (evE (tab p wf n) eb sl om).bind fun y om => (cmp (tab p wf n) o x y om).bind fun r om => (if r = true then (evE (tab p wf n) ec sl om).bind fun z om => (cmp (tab p wf n) o' y z om).bind fun r om => .ok (.bl r) om else .ok (.bl false) om).bind fun x om => tru x om := by
      show (((evE (tab p wf n) ea sl om).bind fun x om => (evE (tab p wf n) eb sl om).bind fun y om => (cmp (tab p wf n) o x y om).bind fun r om => if r = true then (evE (tab p wf n) ec sl om).bind fun z om => (cmp (tab p wf n) o' y z om).bind fun r om => .ok (.bl r) om else .ok (.bl false) om)).bind (fun x om => tru x om) = _
      simp only [bind_assoc]
    rw [e] at pp
    exact ⟨F, G, am, om, sl, M, S, pp.bind fun dx om1 x H1 G1 am1 g1 M1 rx p1 => ⟨F, G1, am1, om1, sl, M1, S.grow g1, p1.bind fun dy om2 y H2 G2 am2 g2 M2 ry p2 =>
      ⟨F, G2, am2, om2, dx, dy, _, M2, rx.up g2, ry, p2.bind fun b om3 b' H3 G3 am3 g3 M3 e p3 => by
        cases e
        refine ⟨b, rfl, ?_⟩
        cases b with
        | true =>
          rw [if_pos rfl] at p3 ⊢
          rw [bind_assoc] at p3
          exact ⟨F, G3, am3, om3, sl, M3, ((S.grow g1).grow g2).grow g3, p3.bind fun dz om4 z H4 G4 am4 g4 M4 rz p4 => ⟨F, G4, am4, om4, dy, dz, _, M4, (ry.up g3).up g4, rz, (cm_true p4).mono fun b H q => ⟨b, rfl, q⟩⟩⟩
        | false =>
          rw [if_neg (by decide)] at p3 ⊢
          exact ⟨false, rfl, p3 false H3 G3 am3 Grow.refl M3 rfl⟩⟩⟩⟩
/-! ### not, and, or -/
theorem pT_no (ha : PT X a (rdT X.K L T W ea)) : PT X (.UnaryOp .Not a pos) (rdT X.K L T W (.no ea)) :=
  (pt_not ha).imp fun σ H Q ⟨F, G, am, om, sl, M, S, pp⟩ => by
    have e : evT T (.no ea) sl om = (evT T ea sl om).bind fun b om => .ok (!b) om := by
      show ((evE T ea sl om).bind fun x om => (tru x om).bind fun b om => .ok (.bl (!b)) om).bind (fun x om => tru x om) = ((evE T ea sl om).bind fun x om => tru x om).bind fun b om => .ok (!b) om
      cases evE T ea sl om with
      | stuck => rfl
      | exc c fs om => rfl
      | ok d om =>
        simp only [bind_ok]
        cases tru d om <;> rfl
    rw [e] at pp
    exact ⟨F, G, am, om, sl, M, S, pp.bind fun b om1 b' H1 G1 am1 g1 M1 z p1 => by
      cases z
      exact p1 _ H1 G1 am1 Grow.refl M1 rfl⟩
theorem pW_an1 (ha : PT X a (rdT X.K L T W ea)) : PW X (.BoolOp .And [a] pos) (rdT X.K L T W ea) := pw_and1 ha
theorem pW_or1 (ha : PT X a (rdT X.K L T W ea)) : PW X (.BoolOp .Or [a] pos) (rdT X.K L T W ea) := pw_or1 ha
theorem pW_an (ha : PT X a (rdT X.K L T W ea)) (hb : PW X (.BoolOp .And (b :: rest) pos) (rdT X.K L T W eb)) : PW X (.BoolOp .And (a :: b :: rest) pos) (rdT X.K L T W (.an ea eb)) :=
  (pw_and ha hb).imp fun σ H Q ⟨F, G, am, om, sl, M, S, pp⟩ => by
    have e : evT T (.an ea eb) sl om = (evT T ea sl om).bind fun c om => if c = true then evT T eb sl om else .ok false om := by
      show ((evE T ea sl om).bind fun x om => (tru x om).bind fun c om => if c = true then evE T eb sl om else .ok x om).bind (fun x om => tru x om) = ((evE T ea sl om).bind fun x om => tru x om).bind fun c om => if c = true then evT T eb sl om else .ok false om
      cases evE T ea sl om with
      | stuck => rfl
      | exc c fs om => rfl
      | ok d om =>
        simp only [bind_ok]
        unfold tru
        cases q : truD d with
        | none => rfl
        | some t =>
          simp only [bind_ok]
          cases t with
          | true => rfl
          | false =>
            simp only [Bool.false_eq_true, if_false, bind_ok]
            rw [q]
    rw [e] at pp
    exact ⟨F, G, am, om, sl, M, S, pp.bind fun t om1 t' H1 G1 am1 g1 M1 z p1 => by
      cases z
      cases t with
      | true =>
        rw [if_pos rfl] at p1 ⊢
        exact ⟨F, G1, am1, om1, sl, M1, S.grow g1, p1⟩
      | false =>
        rw [if_neg (by decide)] at p1 ⊢
        exact p1 _ H1 G1 am1 Grow.refl M1 rfl⟩
theorem pW_or (ha : PT X a (rdT X.K L T W ea)) (hb : PW X (.BoolOp .Or (b :: rest) pos) (rdT X.K L T W eb)) : PW X (.BoolOp .Or (a :: b :: rest) pos) (rdT X.K L T W (.or ea eb)) :=
  (pw_or ha hb).imp fun σ H Q ⟨F, G, am, om, sl, M, S, pp⟩ => by
    have e : evT T (.or ea eb) sl om = (evT T ea sl om).bind fun c om => if c = true then .ok true om else evT T eb sl om := by
      show ((evE T ea sl om).bind fun x om => (tru x om).bind fun c om => if c = true then .ok x om else evE T eb sl om).bind (fun x om => tru x om) = ((evE T ea sl om).bind fun x om => tru x om).bind fun c om => if c = true then .ok true om else evT T eb sl om
      cases evE T ea sl om with
      | stuck => rfl
      | exc c fs om => rfl
      | ok d om =>
        simp only [bind_ok]
        unfold tru
        cases q : truD d with
        | none => rfl
        | some t =>
          simp only [bind_ok]
          cases t with
          | false => rfl
          | true =>
            simp only [if_true, bind_ok]
            rw [q]
    rw [e] at pp
    exact ⟨F, G, am, om, sl, M, S, pp.bind fun t om1 t' H1 G1 am1 g1 M1 z p1 => by
      cases z
      cases t with
      | false =>
        rw [if_neg (by decide)] at p1 ⊢
        exact ⟨F, G1, am1, om1, sl, M1, S.grow g1, p1⟩
      | true =>
        rw [if_pos rfl] at p1 ⊢
        exact p1 _ H1 G1 am1 Grow.refl M1 rfl⟩
theorem pE_no (ha : PE X a (rdB X.K L T W ea)) : PE X (.UnaryOp .Not a pos) (rdE X.K L T W (.no ea)) :=
  (pe_notT ha).imp fun σ H Q ⟨F, G, am, om, sl, M, S, pp⟩ => ⟨F, G, am, om, sl, M, S, pp.bind fun d om1 v H1 G1 am1 g1 M1 r1 p1 => by
    obtain ⟨b, t, _, q⟩ := tru_post M1 r1 p1
    exact ⟨b, t, q _ H1 G1 am1 Grow.refl M1 (.bl _)⟩⟩
theorem pE_one {op : BoolOp} (ha : PE X a (rdE X.K L T W ea)) : PE X (.BoolOp op [a] pos) (rdE X.K L T W ea) := pe_one ha
theorem pE_an (ha : PE X a (rdE X.K L T W ea)) (hb : PE X (.BoolOp .And (b :: rest) pos) (rdE X.K L T W eb)) : PE X (.BoolOp .And (a :: b :: rest) pos) (rdE X.K L T W (.an ea eb)) :=
  (pe_andT ha hb).imp fun σ H Q ⟨F, G, am, om, sl, M, S, pp⟩ => ⟨F, G, am, om, sl, M, S, pp.bind fun d om1 v H1 G1 am1 g1 M1 r1 p1 => by
    obtain ⟨b, t, _, q⟩ := tru_post M1 r1.b p1
    refine ⟨b, t, ?_⟩
    cases b with
    | true =>
      rw [if_pos rfl] at q ⊢
      exact ⟨F, G1, am1, om1, sl, M1, S.grow g1, q⟩
    | false =>
      rw [if_neg (by decide)] at q ⊢
      exact q _ H1 G1 am1 Grow.refl M1 r1⟩
theorem pE_or (ha : PE X a (rdE X.K L T W ea)) (hb : PE X (.BoolOp .Or (b :: rest) pos) (rdE X.K L T W eb)) : PE X (.BoolOp .Or (a :: b :: rest) pos) (rdE X.K L T W (.or ea eb)) :=
  (pe_orT ha hb).imp fun σ H Q ⟨F, G, am, om, sl, M, S, pp⟩ => ⟨F, G, am, om, sl, M, S, pp.bind fun d om1 v H1 G1 am1 g1 M1 r1 p1 => by
    obtain ⟨b, t, _, q⟩ := tru_post M1 r1.b p1
    refine ⟨b, t, ?_⟩
    cases b with
    | false =>
      rw [if_neg (by decide)] at q ⊢
      exact ⟨F, G1, am1, om1, sl, M1, S.grow g1, q⟩
    | true =>
      rw [if_pos rfl] at q ⊢
      exact q _ H1 G1 am1 Grow.refl M1 r1⟩
theorem pE_ite (hc : PT X c (rdT X.K L T W ec)) (ha : PE X a (rdE X.K L T W ea)) (hb : PE X b (rdE X.K L T W eb)) : PE X (.IfExp c a b pos) (rdE X.K L T W (.ite ec ea eb)) :=
  (pe_ifExp hc ha hb).imp fun σ H Q ⟨F, G, am, om, sl, M, S, pp⟩ => by
    have e : evE T (.ite ec ea eb) sl om = (evT T ec sl om).bind fun c om => if c = true then evE T ea sl om else evE T eb sl om := by
      show ((evE T ec sl om).bind fun x om => (tru x om).bind fun c om => if c = true then evE T ea sl om else evE T eb sl om) = ((evE T ec sl om).bind fun x om => tru x om).bind fun c om => if c = true then evE T ea sl om else evE T eb sl om
      cases evE T ec sl om <;> rfl
    rw [e] at pp
    exact ⟨F, G, am, om, sl, M, S, pp.bind fun t om1 t' H1 G1 am1 g1 M1 z p1 => by
      cases z
      cases t with
      | true =>
        rw [if_pos rfl] at p1 ⊢
        exact ⟨F, G1, am1, om1, sl, M1, S.grow g1, p1⟩
      | false =>
        rw [if_neg (by decide)] at p1 ⊢
        exact ⟨F, G1, am1, om1, sl, M1, S.grow g1, p1⟩⟩
theorem pE_neg (ha : PE X a (rdE X.K L T W ea)) : PE X (.UnaryOp .USub a pos) (rdE X.K L T W (.neg ea)) :=
  (pe_un un_neg ha).imp fun σ H Q ⟨F, G, am, om, sl, M, S, pp⟩ => ⟨F, G, am, om, sl, M, S, pp.bind fun d om1 v H1 G1 am1 g1 M1 r1 p1 => by
    split at p1
    · cases r1
      exact ⟨_, rfl, p1 _ H1 G1 am1 Grow.refl M1 (.int _)⟩
    · exact p1.elim⟩
end
end PD

set_option Elab.async false
set_option linter.all false
set_option maxRecDepth 100000
set_option maxHeartbeats 400000
/-! PDG: argument lists, displays, calls of defs and methods, instances made, fields. -/
namespace PD
open PySem PySem.Spec PyProof.Rows L2
/-- where a field stands -/
def fnIx : List Str → Str → Option Nat
  | [], _ => none
  | g :: r, f => if f = g then some 0 else (fnIx r f).map (· + 1)
theorem lookup_ix : ∀ {ns : List Str} {f : Str} {j : Nat} {vs : List V}, fnIx ns f = some j → (ns.zip vs).lookup f = vs[j]?
  | [], _, _, _, h => by cases h
  | g :: r, f, j, [], h => by simp
  | g :: r, f, j, v :: vs, h => by
    unfold fnIx at h
    rw [List.zip_cons_cons, List.lookup_cons]
    by_cases c : f = g
    · rw [if_pos c] at h
      cases h
      have e : (f == g) = true := by simpa using c
      rw [e]
      rfl
    · rw [if_neg c] at h
      have e : (f == g) = false := by simpa using c
      rw [e]
      cases q : fnIx r f with
      | none => rw [q] at h; cases h
      | some i =>
        rw [q] at h
        cases h
        rw [List.getElem?_cons_succ]
        exact lookup_ix q
theorem lookup_no : ∀ {ns : List Str} {f : Str} {vs : List V}, fnIx ns f = none → (ns.zip vs).lookup f = none
  | [], _, _, _ => rfl
  | g :: r, f, [], h => rfl
  | g :: r, f, v :: vs, h => by
    unfold fnIx at h
    rw [List.zip_cons_cons, List.lookup_cons]
    by_cases c : f = g
    · rw [if_pos c] at h
      cases h
    · rw [if_neg c] at h
      have e : (f == g) = false := by simpa using c
      rw [e]
      cases q : fnIx r f with
      | some i => rw [q] at h; cases h
      | none => exact lookup_no q
section
variable {X : Cx} {L : Lk} {p : Prog} {fi : Nat → FI} {n wf : Nat} {W : WX} {T : Tb} {a b c e o : Expr} {es : List Expr} {ea eb ec eo er : E} {pos apos cpos spos : Pos}
theorem pA_nil : PA X [] (rdL X.K L T W .nil) := pa_nil.imp fun σ H Q ⟨F, G, am, om, sl, M, S, pp⟩ => pp [] H G am Grow.refl M .nil
theorem pA_cons (ha : PE X e (rdE X.K L T W ea)) (hr : PA X es (rdL X.K L T W er)) (hs : starEach (e :: es) X.env = (false, eval e X.env) :: starEach es X.env := by rfl) : PA X (e :: es) (rdL X.K L T W (.cons ea er)) :=
  (pa_cons ha hr hs).imp fun σ H Q ⟨F, G, am, om, sl, M, S, pp⟩ => ⟨F, G, am, om, sl, M, S, pp.bind fun d om1 v H1 G1 am1 g1 M1 r1 p1 => ⟨F, G1, am1, om1, sl, M1, S.grow g1, p1.bind fun ds om2 vs H2 G2 am2 g2 M2 r2 p2 => p2 _ H2 G2 am2 Grow.refl M2 (.cons (r1.up g2) r2)⟩⟩
theorem pA_star (ha : PE X e (rdB X.K L T W ea)) (hr : PA X es (rdL X.K L T W er)) (hs : starEach (.Starred e spos :: es) X.env = (true, eval e X.env) :: starEach es X.env := by rfl) : PA X (.Starred e spos :: es) (rdL X.K L T W (.star ea er)) :=
  (StX.pa_star ha hr hs).imp fun σ H Q ⟨F, G, am, om, sl, M, S, pp⟩ => ⟨F, G, am, om, sl, M, S, pp.bind fun d om1 v H1 G1 am1 g1 M1 r1 p1 => by
    split at p1
    · obtain ⟨q, vs, rfl, hq, rq⟩ := r1.lst M1
      exact ⟨q, vs, rfl, .inr (SqL.of hq), F, G1, am1, om1, sl, M1, S.grow g1, p1.bind fun ds om2 ws H2 G2 am2 g2 M2 r2 p2 => p2 _ H2 G2 am2 Grow.refl M2 ((rq.up g2).append r2)⟩
    · obtain ⟨q, vs, rfl, hq, rq⟩ := r1.tup
      exact ⟨q, vs, rfl, .inl (SqT.of (M1.gH _ _ hq)), F, G1, am1, om1, sl, M1, S.grow g1, p1.bind fun ds om2 ws H2 G2 am2 g2 M2 r2 p2 => p2 _ H2 G2 am2 Grow.refl M2 ((rq.up g2).append r2)⟩
    · exact p1.elim⟩
theorem pE_tup {x1 : Nat} (ha : PA X es (rdL X.K L T W er)) : PE X (.Tuple es x1 pos) (rdE X.K L T W (.tup er)) :=
  (pe_tup ha).imp fun σ H Q ⟨F, G, am, om, sl, M, S, pp⟩ => ⟨F, G, am, om, sl, M, S, pp.bind fun ds om1 vs H1 G1 am1 g1 M1 r1 p1 => by
    split at p1
    · rename_i hz
      refine ⟨sz_le (by rw [← r1.length]; exact hz), fun q hq => ?_⟩
      exact p1 _ _ _ am1 (Grow.of (M1.none_g hq)) (M1.new hq) (.tup upd_same (r1.up (Grow.of (M1.none_g hq))))
    · exact p1.elim⟩
theorem pF_lst (ha : PA X es (rdL X.K L T W er)) : PE X (.List es pos) (rdF X.K L T W (.lst er)) :=
  (pe_lst ha).imp fun σ H Q ⟨F, G, am, om, sl, M, S, pp⟩ => ⟨F, G, am, om, sl, M, S, pp.bind fun ds om1 vs H1 G1 am1 g1 M1 r1 p1 => by
    split at p1
    · rename_i hz
      refine ⟨sz_le (by rw [← r1.length]; exact hz), fun q hq => ?_⟩
      obtain ⟨ds', e, p1⟩ := p1
      cases e
      exact p1 _ _ _ _ am1 Grow.refl (M1.none_f hq) (M1.newF hq) r1
    · exact p1.elim⟩
theorem bind_lst {r : Rs (List D)} {f : List D → Om → Rs D} (hf : ∀ xs om d om', f xs om = .ok d om' → ∃ ds, d = .lst ds) {d : D} {om' : Om} (h : r.bind f = .ok d om') : ∃ ds, d = .lst ds := by
  cases r with
  | stuck => cases h
  | exc c fs om => cases h
  | ok xs om => exact hf _ _ _ _ h
theorem pE_lst (ha : PA X es (rdL X.K L T W er)) : PE X (.List es pos) (rdE X.K L T W (.lst er)) := pFE (pF_lst ha) fun sl om d om' h => by
  refine bind_lst (r := evL T er sl om) (fun xs om d om' h => ?_) h
  split at h
  · cases h; exact ⟨_, rfl⟩
  · cases h
/-! ### calls -/
theorem pE_call {f : Nat} {d : Def} {x : Str} {pp : Pos} {dv : List D} {dvs : List V} {dV : List Value} (hL : Lnk X.prog X.w X.K X.mg X.base L p fi n) (hr : Room (2 * n + 1) X.A) (tk : Takes X W) (hd : p.defs f = some d) (hc : d.cls = none) (hfr : p.fresh f = false)
    (hg : Gl X x) (hm : X.mg x = some (.ref (fi f).addr)) (hk : PySem.W.keepIn X.K (.ref (fi f).addr) = true) (hb : Binds X.K (fi f).fd (fi f).ps dV) (hv : Vals dvs dV) (rv : ∀ G am, RepL X.K L G am dv dvs)
    (ha : PA X (e :: es) (rdL X.K L (tab p wf n) W er)) (hdb : (x == ("__debug__" : Str)) = false := by decide) (he : starEach (e :: es) X.env = (false, eval e X.env) :: starEach es X.env := by rfl) (hpl : (backTo pos (starEach es X.env)).any (·.1) = false := by rfl) :
    PE X (.Call (.Name x pp) (e :: es) [] pos) (rdE X.K L (tab p wf n) W (.call f dv er)) :=
  (pe_callSD (E := WE W) (hL.fn f d hd hc) (hr.mono (by omega)) hg hm hk hb hv (fun σ => passAt tk σ) ha hdb he hpl).imp fun σ H Q ⟨F, G, am, om, sl, M, S, pp⟩ => ⟨F, G, am, om, sl, M, S, pp.bind fun ds om1 vs H1 G1 am1 g1 M1 r1 p1 => by
    have hl : (ds ++ dv).length = d.np := by
      cases n with
      | zero => exact p1.elim
      | succ n =>
        change Post X.K L (Rep X.K L) F G1 am1 (callN p wf (n + 1) f (ds ++ dv) om1) _ _ at p1
        unfold callN at p1
        rw [hd] at p1
        dsimp only at p1
        split at p1
        · assumption
        · exact p1.elim
    refine ⟨wf, F, G1, am1, om1, ds ++ dv, M1, r1.append (rv G1 am1), ⟨d, hd, hl⟩, ?_⟩
    rw [if_neg (by rw [hfr]; decide)]
    exact p1⟩
/-- a def that hands out a new list -/
theorem pF_call {f : Nat} {d : Def} {x : Str} {pp : Pos} {dv : List D} {dvs : List V} {dV : List Value} (hL : Lnk X.prog X.w X.K X.mg X.base L p fi n) (hr : Room (2 * n + 1) X.A) (tk : Takes X W) (hd : p.defs f = some d) (hc : d.cls = none) (hfr : p.fresh f = true)
    (hg : Gl X x) (hm : X.mg x = some (.ref (fi f).addr)) (hk : PySem.W.keepIn X.K (.ref (fi f).addr) = true) (hb : Binds X.K (fi f).fd (fi f).ps dV) (hv : Vals dvs dV) (rv : ∀ G am, RepL X.K L G am dv dvs)
    (ha : PA X (e :: es) (rdL X.K L (tab p wf n) W er)) (hdb : (x == ("__debug__" : Str)) = false := by decide) (he : starEach (e :: es) X.env = (false, eval e X.env) :: starEach es X.env := by rfl) (hpl : (backTo pos (starEach es X.env)).any (·.1) = false := by rfl) :
    PE X (.Call (.Name x pp) (e :: es) [] pos) (rdF X.K L (tab p wf n) W (.call f dv er)) :=
  (pe_callSD (E := WE W) (hL.fn f d hd hc) (hr.mono (by omega)) hg hm hk hb hv (fun σ => passAt tk σ) ha hdb he hpl).imp fun σ H Q ⟨F, G, am, om, sl, M, S, pp⟩ => ⟨F, G, am, om, sl, M, S, pp.bind fun ds om1 vs H1 G1 am1 g1 M1 r1 p1 => by
    have hl : (ds ++ dv).length = d.np := by
      cases n with
      | zero => exact p1.elim
      | succ n =>
        change PostF X.K L F G1 am1 (callN p wf (n + 1) f (ds ++ dv) om1) _ _ at p1
        unfold callN at p1
        rw [hd] at p1
        dsimp only at p1
        split at p1
        · assumption
        · exact p1.elim
    refine ⟨wf, F, G1, am1, om1, ds ++ dv, M1, r1.append (rv G1 am1), ⟨d, hd, hl⟩, ?_⟩
    rw [if_pos hfr]
    exact p1⟩
/-! ### methods -/
section
variable {CX : CXT} {k : Nat} {f C : Addr} {fd : FuncData} {ps : List Str} {sp : Sp} {dvs : List V} {ds : List Value} {E' : L2.St → XK} {m : Str} {ta : TE} {t : TA}
def tMethSD (C : Addr) (m : Str) (sp : Sp) (dvs : List V) (E : L2.St → XK) (ta : TE) (t : TA) : TE := fun σ H Q => ta σ H fun x H1 => ∃ a dx fs, x = .ref a ∧ H1 a = some (.ins C dx fs) ∧ fs.lookup m = none ∧
  t σ H1 fun vs H2 => sp (x :: (vs ++ dvs)) H2 Q (E σ)
theorem pe_methSD {pl : Sem Bool} {E' : L2.St → XK} (he : PE X o ta) (c : Cls X.K C) (hm : Meth X.K C m f) (F : FnOk X.prog X.w X.K X.mg X.base CX k f fd ps sp) (hr : Room k X.A) (hb : Binds X.K fd ps ds) (hd : Vals dvs ds) (hx : ∀ σ, PassesAt CX X σ (E' σ)) (ha : PA X (e :: es) t)
    (hst : starEach (e :: es) X.env = (false, eval e X.env) :: starEach es X.env := by rfl) (hpl : (backTo pos (starEach es X.env)).any (·.1) = false := by rfl)
    (ht : eval (.Call (.Attribute o m apos) (e :: es) [] pos) X.env = (do
      let ov ← eval o X.env
      standAt apos.atName
      let (f, first) ← holding [ov] (getMethod ov m pl)
      callWith pos f first (backTo pos (starEach (e :: es) X.env)) (backToKw pos (keywordEach [] X.env))) := by rfl) :
    PE X (.Call (.Attribute o m apos) (e :: es) [] pos) (tMethSD C m sp dvs E' ta t) := by
  refine ⟨fun pins s σ H Q I h => ?_⟩
  refine PySem.W.methodCall_KW (pl := pl) (thn (he.run pins s σ H _ I h) fun u s1 ⟨x, H1, I1, rx, a, dx, fs, ex, ea, l, q⟩ => ?_) ht
  subst ex
  obtain rfl : u = Value.ref a := rx
  refine getmeth_ok I1 ea c hm l ?_
  refine PySem.W.callWith_K (first := [.ref a]) (h₀ := X.base) I.ok.mod.kin hm.kp (thn (ha.run pos pins s1 σ H1 _ I1 q) fun us s2 ⟨vs, H2, I2, r, q2⟩ => ⟨I2.kIn, ?_⟩) hst hpl
  exact run_fnSD (us := .ref a :: us) (vs := .ref a :: vs) F hr hb hd (hx σ) I2 (.cons rfl r) q2
theorem pe_methSD0 {pl : Sem Bool} {E' : L2.St → XK} (he : PE X o ta) (c : Cls X.K C) (hm : Meth X.K C m f) (F : FnOk X.prog X.w X.K X.mg X.base CX k f fd ps sp) (hr : Room k X.A) (hb : Binds X.K fd ps ds) (hd : Vals dvs ds) (hx : ∀ σ, PassesAt CX X σ (E' σ))
    (ht : eval (.Call (.Attribute o m apos) [] [] pos) X.env = (do
      let ov ← eval o X.env
      standAt apos.atName
      let (f, first) ← holding [ov] (getMethod ov m pl)
      callWith pos f first (backTo pos (starEach [] X.env)) (backToKw pos (keywordEach [] X.env))) := by rfl) :
    PE X (.Call (.Attribute o m apos) [] [] pos) (tMethSD C m sp dvs E' ta tNil) := by
  refine ⟨fun pins s σ H Q I h => ?_⟩
  refine PySem.W.methodCall_KW (pl := pl) (thn (he.run pins s σ H _ I h) fun u s1 ⟨x, H1, I1, rx, a, dx, fs, ex, ea, l, q⟩ => ?_) ht
  subst ex
  obtain rfl : u = Value.ref a := rx
  refine getmeth_ok I1 ea c hm l ?_
  exact PySem.W.callWith_K0 I1.kIn hm.kp (run_fnSD (us := [.ref a]) (vs := [.ref a]) F hr hb hd (hx σ) I1 (.cons rfl .nil) q)
theorem run_makeSD {pins : List (Addr × Obj)} {σ : L2.St} {H : Hp} {s : Shared} {Q : VK} {E : XK} {us : List Value} {vs : List V} (M : Mk X.K C f) (F : FnOk X.prog X.w X.K X.mg X.base CX k f fd ps sp) (hr : Room (k + 1) X.A) (hb : Binds X.K fd ps ds) (hd : Vals dvs ds)
    (hx : PassesAt CX X σ E) (I : Inv X pins σ H s) (r : Vals vs us)
    (h : ∀ x dx, H x = none → H dx = none → dx ≠ x → sp (.ref x :: (vs ++ dvs)) (upd (upd H dx (.own x)) x (.ins C dx [])) (fun v H2 => v = .non ∧ Q (.ref x) H2) E) :
    wpAny (model X.prog X.w) X.A (call (.ref C) us) (EP X pins σ Q) X.xe s := by
  have hq := h (s.heap.objs.size + 1) s.heap.objs.size (I.hok.fresh (Nat.le_succ _)) (I.hok.fresh (Nat.le_refl _)) (Nat.ne_of_lt (Nat.lt_succ_self _))
  have I2 := Inv.made (C := C) I
  have r2 : Vals (V.ref (s.heap.objs.size + 1) :: (vs ++ dvs)) (Value.ref (s.heap.objs.size + 1) :: (us ++ ds)) := .cons rfl (r.append hd)
  have hl : (Value.ref (s.heap.objs.size + 1) :: us ++ ds).length = ps.length := by
    have e := r2.length
    rw [F.len _ _ _ _ hq] at e
    exact e.symm
  refine wpAny_call (make_map (f := f) I.kIn M.makes M.init (beq_iff_eq.mp M.fn) (codeAny_mono (F.run _ X.stack _ _ ⟨Value.ref (s.heap.objs.size + 1) :: us, []⟩ (Value.ref (s.heap.objs.size + 1) :: (us ++ ds)) _ _ E (hr.make C us [])
    (I2.env0.make C us []) (hb _ (Value.ref (s.heap.objs.size + 1) :: us) I2.kIn hl) r2 hq) fun r s' hq' => ?_))
  cases r with
  | error e => exact hx pins _ _ e s' I2 hq'
  | ok fl =>
    cases fl with
    | ret u =>
      obtain ⟨v, H', I3, rv, ev, q3⟩ := I2.after hq'
      subst ev
      exact ⟨rv, ⟨V.ref (s.heap.objs.size + 1), H', I3, rfl, q3⟩⟩
    | next => exact False.elim hq'
    | brk => exact False.elim hq'
    | cont => exact False.elim hq'
def tMakeSD (C : Addr) (sp : Sp) (dvs : List V) (E : L2.St → XK) (t : TA) : TE := fun σ H Q => t σ H fun vs H1 => ∀ x dx, H1 x = none → H1 dx = none → dx ≠ x →
  sp (.ref x :: (vs ++ dvs)) (upd (upd H1 dx (.own x)) x (.ins C dx [])) (fun v H2 => v = .non ∧ Q (.ref x) H2) (E σ)
theorem pe_makeSD {x : Str} {pp : Pos} {E' : L2.St → XK} (M : Mk X.K C f) (F : FnOk X.prog X.w X.K X.mg X.base CX k f fd ps sp) (hr : Room (k + 1) X.A) (hg : Gl X x) (hm : X.mg x = some (.ref C)) (hb : Binds X.K fd ps ds) (hd : Vals dvs ds) (hx : ∀ σ, PassesAt CX X σ (E' σ))
    (ha : PA X (e :: es) t) (hdb : (x == ("__debug__" : Str)) = false := by decide) (he : starEach (e :: es) X.env = (false, eval e X.env) :: starEach es X.env := by rfl) (hpl : (backTo pos (starEach es X.env)).any (·.1) = false := by rfl) :
    PE X (.Call (.Name x pp) (e :: es) [] pos) (tMakeSD C sp dvs E' t) := by
  refine ⟨fun pins s σ H Q I h => ?_⟩
  refine wpAny_Call_Name_kw (ld_glob I hg hm ?_ hdb)
  refine PySem.W.callWith_K (h₀ := X.base) I.ok.mod.kin M.kp (thn (ha.run pos pins s σ H _ I h) fun us s1 ⟨vs, H1, I1, r, q⟩ => ⟨I1.kIn, ?_⟩) he hpl
  exact run_makeSD M F hr hb hd (hx σ) I1 r q
end
/-- the receiver of a method: an instance of class c, of the store or for good -/
theorem recv {K : PySem.W.Frag} {F G H : Hp} {am : List Addr} {om : Om} {d : D} {v : V} {cc : Nat} (M : Mem K L F G am om H) (r : Rep K L G am d v) (h : isC cc d om = true) :
    ∃ a dx vs, v = .ref a ∧ H a = some (.ins (L.ca cc) dx ((L.fn cc).zip vs)) := by
  unfold isC at h
  split at h
  · rename_i c' fs
    have e : c' = cc := by simpa using h
    subst e
    cases r with
    | obj h n r => exact ⟨_, _, _, rfl, M.gH _ _ h⟩
  · rename_i k
    split at h
    · rename_i c' fs e
      have e' : c' = cc := by simpa using h
      subst e'
      cases r with
      | amb h =>
        obtain ⟨dx, vs, h1, _⟩ := M.obs _ _ _ h e
        exact ⟨_, dx, vs, rfl, h1⟩
    · cases h
  · cases h
theorem len_call {r : D → Prop} {f : Nat} {d : Def} {K : PySem.W.Frag} {F G : Hp} {am : List Addr} {ds : List D} {om : Om} {E : XK} {Q : VK} (hd : p.defs f = some d) (h : Post K L (Rep K L) F G am (callN p wf n f ds om) E Q) : ds.length = d.np := by
  cases n with
  | zero => exact h.elim
  | succ n =>
    unfold callN at h
    rw [hd] at h
    dsimp only at h
    split at h
    · assumption
    · exact h.elim
theorem pE_meth {f cc : Nat} {d : Def} {m : Str} {dv : List D} {dvs : List V} {dV : List Value} {pl : Sem Bool} (hL : Lnk X.prog X.w X.K X.mg X.base L p fi n) (hr : Room (2 * n + 1) X.A) (tk : Takes X W) (hd : p.defs f = some d) (hc : d.cls = none) (hfr : p.fresh f = false)
    (cl : Cls X.K (L.ca cc)) (hm : Meth X.K (L.ca cc) m (fi f).addr) (hno : fnIx (L.fn cc) m = none) (hb : Binds X.K (fi f).fd (fi f).ps dV) (hv : Vals dvs dV) (rv : ∀ G am, RepL X.K L G am dv dvs)
    (ho : PE X o (rdE X.K L (tab p wf n) W eo)) (ha : PA X (e :: es) (rdL X.K L (tab p wf n) W er))
    (hst : starEach (e :: es) X.env = (false, eval e X.env) :: starEach es X.env := by rfl) (hpl : (backTo pos (starEach es X.env)).any (·.1) = false := by rfl)
    (ht : eval (.Call (.Attribute o m apos) (e :: es) [] pos) X.env = (do
      let ov ← eval o X.env
      standAt apos.atName
      let (f, first) ← holding [ov] (getMethod ov m pl)
      callWith pos f first (backTo pos (starEach (e :: es) X.env)) (backToKw pos (keywordEach [] X.env))) := by rfl) :
    PE X (.Call (.Attribute o m apos) (e :: es) [] pos) (rdE X.K L (tab p wf n) W (.meth cc f dv eo er)) :=
  (pe_methSD (pl := pl) (E' := WE W) ho cl hm (hL.fn f d hd hc) (hr.mono (by omega)) hb hv (fun σ => passAt tk σ) ha hst hpl ht).imp fun σ H Q ⟨F, G, am, om, sl, M, S, pp⟩ => ⟨F, G, am, om, sl, M, S, pp.bind fun dx om1 x H1 G1 am1 g1 M1 r1 p1 => by
    split at p1
    · rename_i hi
      obtain ⟨a, dxx, vs, rfl, ha⟩ := recv M1 r1 hi
      refine ⟨a, dxx, _, rfl, ha, lookup_no hno, F, G1, am1, om1, sl, M1, S.grow g1, p1.bind fun ds om2 ws H2 G2 am2 g2 M2 r2 p2 => ?_⟩
      refine ⟨wf, F, G2, am2, om2, dx :: (ds ++ dv), M2, .cons (r1.up g2) (r2.append (rv G2 am2)), ⟨d, hd, len_call (r := fun _ => True) hd p2⟩, ?_⟩
      rw [if_neg (by rw [hfr]; decide)]
      exact p2
    · exact p1.elim⟩
theorem pE_meth0 {f cc : Nat} {d : Def} {m : Str} {dv : List D} {dvs : List V} {dV : List Value} {pl : Sem Bool} (hL : Lnk X.prog X.w X.K X.mg X.base L p fi n) (hr : Room (2 * n + 1) X.A) (tk : Takes X W) (hd : p.defs f = some d) (hc : d.cls = none) (hfr : p.fresh f = false)
    (cl : Cls X.K (L.ca cc)) (hm : Meth X.K (L.ca cc) m (fi f).addr) (hno : fnIx (L.fn cc) m = none) (hb : Binds X.K (fi f).fd (fi f).ps dV) (hv : Vals dvs dV) (rv : ∀ G am, RepL X.K L G am dv dvs)
    (ho : PE X o (rdE X.K L (tab p wf n) W eo))
    (ht : eval (.Call (.Attribute o m apos) [] [] pos) X.env = (do
      let ov ← eval o X.env
      standAt apos.atName
      let (f, first) ← holding [ov] (getMethod ov m pl)
      callWith pos f first (backTo pos (starEach [] X.env)) (backToKw pos (keywordEach [] X.env))) := by rfl) :
    PE X (.Call (.Attribute o m apos) [] [] pos) (rdE X.K L (tab p wf n) W (.meth cc f dv eo .nil)) :=
  (pe_methSD0 (pl := pl) (E' := WE W) ho cl hm (hL.fn f d hd hc) (hr.mono (by omega)) hb hv (fun σ => passAt tk σ) ht).imp fun σ H Q ⟨F, G, am, om, sl, M, S, pp⟩ => ⟨F, G, am, om, sl, M, S, pp.bind fun dx om1 x H1 G1 am1 g1 M1 r1 p1 => by
    split at p1
    · rename_i hi
      obtain ⟨a, dxx, vs, rfl, ha⟩ := recv M1 r1 hi
      refine ⟨a, dxx, _, rfl, ha, lookup_no hno, ?_⟩
      have p2 : Post X.K L (Rep X.K L) F G1 am1 (callN p wf n f (dx :: dv) om1) (fun cv dd H => W cv dd σ H) Q := p1
      refine ⟨wf, F, G1, am1, om1, dx :: dv, M1, .cons r1 (rv G1 am1), ⟨d, hd, len_call (r := fun _ => True) hd p2⟩, ?_⟩
      rw [if_neg (by rw [hfr]; decide)]
      exact p2
    · exact p1.elim⟩
/-! ### instances made -/
theorem noF {F : Hp} {x : Addr} {o : HO} (h : F x = none) : (fun a => if a = x then none else upd F x o a) = F := by
  funext a
  by_cases c : a = x
  · subst c
    rw [if_pos rfl, h]
  · rw [if_neg c, upd_ne c]
theorem pE_mk {f cc : Nat} {d : Def} {x : Str} {pp : Pos} {dv : List D} {dvs : List V} {dV : List Value} (hL : Lnk X.prog X.w X.K X.mg X.base L p fi n) (hr : Room (2 * n + 1) X.A) (tk : Takes X W) (hd : p.defs f = some d) (hc : d.cls = some cc)
    (hM : Mk X.K (L.ca cc) (fi f).addr) (hg : Gl X x) (hm : X.mg x = some (.ref (L.ca cc))) (hb : Binds X.K (fi f).fd (fi f).ps dV) (hv : Vals dvs dV) (rv : ∀ G am, RepL X.K L G am dv dvs)
    (ha : PA X (e :: es) (rdL X.K L (tab p wf n) W er)) (hdb : (x == ("__debug__" : Str)) = false := by decide) (he : starEach (e :: es) X.env = (false, eval e X.env) :: starEach es X.env := by rfl) (hpl : (backTo pos (starEach es X.env)).any (·.1) = false := by rfl) :
    PE X (.Call (.Name x pp) (e :: es) [] pos) (rdE X.K L (tab p wf n) W (.mk cc f dv er)) :=
  (pe_makeSD (E' := WE W) hM (hL.ini f d cc hd hc) hr hg hm hb hv (fun σ => passAt tk σ) ha hdb he hpl).imp fun σ H Q ⟨F, G, am, om, sl, M, S, pp⟩ => ⟨F, G, am, om, sl, M, S, pp.bind fun ds om1 vs H1 G1 am1 g1 M1 r1 p1 x dx nx ndx ne => by
    have hl : (ds ++ dv).length + 1 = d.np := by
      cases n with
      | zero => exact p1.elim
      | succ n =>
        change Post X.K L (Rep X.K L) F G1 am1 ((initN p wf (n + 1) f (ds ++ dv) om1).bind _) _ _ at p1
        unfold initN at p1
        rw [hd] at p1
        dsimp only at p1
        rw [hc] at p1
        dsimp only at p1
        split at p1
        · assumption
        · exact p1.elim
    have nx' : (upd H1 dx (.own x)) x = none := by
      rw [upd_ne (fun c => ne c.symm)]
      exact nx
    have hf : F x = none := M1.none_f nx
    have M2 := (M1.more (u := .own x) ndx).newF (u := .ins (L.ca cc) dx []) nx'
    refine ⟨wf, upd F x (.ins (L.ca cc) dx []), G1, am1, om1, ds ++ dv, cc, x, dx, vs ++ dvs, rfl, M2, upd_same, r1.append (rv G1 am1), ⟨d, hd, hc, hl⟩, ?_⟩
    change Post X.K L (Rep X.K L) F G1 am1 ((initN p wf n f (ds ++ dv) om1).bind _) _ _ at p1
    cases q : initN p wf n f (ds ++ dv) om1 with
    | stuck => rw [q] at p1; exact p1
    | exc c' fs om' =>
      rw [q] at p1
      intro cv dd H' G' am' g M' er
      rw [noF hf] at M'
      exact p1 cv dd H' G' am' g M' er
    | ok fs om' =>
      rw [q] at p1
      intro ws H' G' am' g M' rr
      refine ⟨rfl, ?_⟩
      rw [bind_ok] at p1
      split at p1
      · rename_i hn
        rw [upd_upd] at M'
        have hg' : G' x = none := M'.fg _ _ upd_same
        refine p1 _ H' (upd G' x (.ins (L.ca cc) dx ((L.fn cc).zip ws))) am' (g.trans (Grow.of hg')) (M'.freeze upd_same fun a u e => ?_) (.obj upd_same ?_ (rr.up (Grow.of hg')))
        · have hne : a ≠ x := fun z => by rw [z, hf] at e; cases e
          exact ⟨by rw [upd_ne hne]; exact e, hne⟩
        · rw [← rr.length]
          exact hn.trans (hL.nf cc)
      · exact p1.elim⟩
/-- an instance that will change: into the store -/
theorem pE_mka {f cc : Nat} {d : Def} {x : Str} {pp : Pos} {dv : List D} {dvs : List V} {dV : List Value} (hL : Lnk X.prog X.w X.K X.mg X.base L p fi n) (hr : Room (2 * n + 1) X.A) (tk : Takes X W) (hd : p.defs f = some d) (hc : d.cls = none) (hfr : p.fresh f = false)
    (hM : Mk X.K (L.ca cc) (fi f).addr) (hg : Gl X x) (hm : X.mg x = some (.ref (L.ca cc))) (hb : Binds X.K (fi f).fd (fi f).ps dV) (hv : Vals dvs dV) (rv : ∀ G am, RepL X.K L G am dv dvs)
    (ha : PA X (e :: es) (rdL X.K L (tab p wf n) W er)) (hdb : (x == ("__debug__" : Str)) = false := by decide) (he : starEach (e :: es) X.env = (false, eval e X.env) :: starEach es X.env := by rfl) (hpl : (backTo pos (starEach es X.env)).any (·.1) = false := by rfl) :
    PE X (.Call (.Name x pp) (e :: es) [] pos) (rdE X.K L (tab p wf n) W (.mka cc f dv er)) :=
  (pe_makeSD (E' := WE W) hM (hL.fn f d hd hc) hr hg hm hb hv (fun σ => passAt tk σ) ha hdb he hpl).imp fun σ H Q ⟨F, G, am, om, sl, M, S, pp⟩ => ⟨F, G, am, om, sl, M, S, pp.bind fun ds om1 vs H1 G1 am1 g1 M1 r1 p1 x dx nx ndx ne => by
    have nx' : (upd H1 dx (.own x)) x = none := by
      rw [upd_ne (fun c => ne c.symm)]
      exact nx
    have M2 : Mem X.K L F G1 (am1 ++ [x]) (om1 ++ [.ob cc []]) (upd (upd H1 dx (.own x)) x (.ins (L.ca cc) dx [])) := (M1.more (u := .own x) ndx).newA nx' ⟨dx, [], by rw [upd_same, List.zip_nil_right], Nat.zero_le _, .nil⟩
    have gA : Grow G1 am1 G1 (am1 ++ [x]) := ⟨Ex.refl, [x], rfl⟩
    have hk : (am1 ++ [x])[om1.length]? = some x := by
      rw [← M1.len, List.getElem?_append_right (Nat.le_refl _), Nat.sub_self]
      rfl
    change Post X.K L (Rep X.K L) F G1 am1 ((callN p wf n f (.amb om1.length :: (ds ++ dv)) (om1 ++ [.ob cc []])).bind _) _ _ at p1
    have p2 : Post X.K L (Rep X.K L) F G1 (am1 ++ [x]) (callN p wf n f (.amb om1.length :: (ds ++ dv)) (om1 ++ [.ob cc []])) (fun cv dd H => W cv dd σ H) (fun v H2 => v = .non ∧ Q (.ref x) H2) := (Post.grow gA p1).bind fun r om' v H' G' am' g M' rr p3 => by
      split at p3
      · cases rr
        exact ⟨rfl, p3 _ H' G' am' Grow.refl M' (.amb (g.get hk))⟩
      · exact p3.elim
    refine ⟨wf, F, G1, am1 ++ [x], om1 ++ [.ob cc []], .amb om1.length :: (ds ++ dv), M2, .cons (.amb hk) ((r1.append (rv G1 am1)).up gA), ⟨d, hd, len_call (r := fun _ => True) hd p2⟩, ?_⟩
    rw [if_neg (by rw [hfr]; decide)]
    exact p2⟩
/-! ### fields -/
theorem pE_fld {cc j : Nat} {m : Str} (ha : PE X a (rdE X.K L T W ea)) (cl : Cls X.K (L.ca cc)) (hn : NoAttr X.K (L.ca cc) m) (hj : fnIx (L.fn cc) m = some j) (hb : attributeBase a m X.env (eval a X.env) = eval a X.env) :
    PE X (.Attribute a m pos) (rdE X.K L T W (.fld cc j ea)) :=
  (pe_fld ha hb).imp fun σ H Q ⟨F, G, am, om, sl, M, S, pp⟩ => ⟨F, G, am, om, sl, M, S, pp.bind fun d om1 v H1 G1 am1 g1 M1 r1 p1 => by
    unfold fldD at p1
    split at p1
    · rename_i c' fs om2
      split at p1
      · rename_i hc
        subst hc
        split at p1
        · rename_i d' hd'
          cases r1 with
          | obj h n' r =>
            obtain ⟨v', hv', rv⟩ := r.get hd'
            exact ⟨_, _, _, _, v', rfl, M1.gH _ _ h, cl, hn, by rw [lookup_ix hj]; exact hv', p1 v' H1 G1 am1 Grow.refl M1 rv⟩
        · exact p1.elim
      · exact p1.elim
    · rename_i k om2
      split at p1
      · rename_i c' fs hk
        split at p1
        · rename_i hc
          subst hc
          split at p1
          · rename_i d' hd'
            cases r1 with
            | amb h =>
              obtain ⟨dx, vs, h1, _, r⟩ := M1.obs _ _ _ h hk
              obtain ⟨v', hv', rv⟩ := r.get hd'
              exact ⟨_, _, _, _, v', rfl, h1, cl, hn, by rw [lookup_ix hj]; exact hv', p1 v' H1 G1 am1 Grow.refl M1 rv⟩
          · exact p1.elim
        · exact p1.elim
      · exact p1.elim
    · exact p1.elim⟩
/-- a field of the instance that is being made -/
theorem pE_fs {cc j : Nat} {m x : Str} (h0 : X.N[(0 : Nat)]? = some x) (hv : Vis X.env.scope x) (cl : Cls X.K (L.ca cc)) (hn : NoAttr X.K (L.ca cc) m) (hj : fnIx (L.fn cc) m = some j)
    (hb : attributeBase (.Name x apos) m X.env (eval (.Name x apos) X.env) = eval (.Name x apos) X.env) (hd : (x == ("__debug__" : Str)) = false := by decide) (hcd : (x == ("__classdict__" : Str)) = false := by decide) :
    PE X (.Attribute (.Name x apos) m pos) (rdE X.K L T W (.fs cc j)) :=
  (pe_fld (pe_var h0 hv hd hcd) hb).imp fun σ H Q ⟨F, G, am, om, sl, M, S, pp⟩ => by
    simp only [evE] at pp
    split at pp
    · rename_i c' fs h1
      obtain ⟨o, ho, a, dx, vs, rfl, hF, _, r⟩ := S.at h1
      split at pp
      · rename_i hc
        subst hc
        split at pp
        · rename_i d hd'
          obtain ⟨v, hv', rv⟩ := r.get hd'
          exact ⟨_, ho, a, _, dx, _, v, rfl, M.fH _ _ hF, cl, hn, by rw [lookup_ix hj]; exact hv', pp v H G am Grow.refl M rv⟩
        · exact pp.elim
      · exact pp.elim
    · exact pp.elim
end
end PD

set_option Elab.async false
set_option linter.all false
set_option maxRecDepth 100000
set_option maxHeartbeats 400000
/-! PDH: built-ins, isinstance, subscripts, slices, methods of texts. -/
namespace PD
open PySem PySem.Spec PyProof.Rows L2
def Bi.py : Bi → Value
  | .len => .builtin "len"
  | .abs => .builtin "abs"
  | .str => .type "str"
  | .int => .type "int"
  | .list => .type "list"
  | .tuple => .type "tuple"
  | .bool => .type "bool"
  | .sum => .builtin "sum"
  | .any => .builtin "any"
  | .all => .builtin "all"
section
variable {K : PySem.W.Frag} {L : Lk} {F G G' H : Hp} {am am' : List Addr} {om : Om}
theorem ints_v : ∀ {ds : List D} {vs : List V} {ns : List Int}, RepL K L G am ds vs → intsD ds = some ns → vs = ns.map V.int
  | _, _, _, .nil, h => by cases h; rfl
  | .int i :: ds, v :: vs, ns, .cons h r, e => by
    cases h
    unfold intsD at e
    cases q : intsD ds with
    | none => rw [q] at e; cases e
    | some ms =>
      rw [q] at e
      cases e
      rw [ints_v r q]
      rfl
  | .non :: ds, _, _, .cons _ _, e => by cases e
  | .bl _ :: ds, _, _, .cons _ _, e => by cases e
  | .str _ :: ds, _, _, .cons _ _, e => by cases e
  | .lst _ :: ds, _, _, .cons _ _, e => by cases e
  | .tup _ :: ds, _, _, .cons _ _, e => by cases e
  | .obj _ _ :: ds, _, _, .cons _ _, e => by cases e
  | .amb _ :: ds, _, _, .cons _ _, e => by cases e
  | .scr _ :: ds, _, _, .cons _ _, e => by cases e
theorem bls_v : ∀ {ds : List D} {vs : List V} {ns : List Bool}, RepL K L G am ds vs → blsD ds = some ns → vs = ns.map V.bl
  | _, _, _, .nil, h => by cases h; rfl
  | .bl i :: ds, v :: vs, ns, .cons h r, e => by
    cases h
    unfold blsD at e
    cases q : blsD ds with
    | none => rw [q] at e; cases e
    | some ms =>
      rw [q] at e
      cases e
      rw [bls_v r q]
      rfl
  | .non :: ds, _, _, .cons _ _, e => by cases e
  | .int _ :: ds, _, _, .cons _ _, e => by cases e
  | .str _ :: ds, _, _, .cons _ _, e => by cases e
  | .lst _ :: ds, _, _, .cons _ _, e => by cases e
  | .tup _ :: ds, _, _, .cons _ _, e => by cases e
  | .obj _ _ :: ds, _, _, .cons _ _, e => by cases e
  | .amb _ :: ds, _, _, .cons _ _, e => by cases e
  | .scr _ :: ds, _, _, .cons _ _, e => by cases e
theorem strs_v : ∀ {ds : List D} {vs : List V} {ns : List Str}, RepL K L G am ds vs → strsD ds = some ns → vs = ns.map V.str
  | _, _, _, .nil, h => by cases h; rfl
  | .str i :: ds, v :: vs, ns, .cons h r, e => by
    cases h
    unfold strsD at e
    cases q : strsD ds with
    | none => rw [q] at e; cases e
    | some ms =>
      rw [q] at e
      cases e
      rw [strs_v r q]
      rfl
  | .non :: ds, _, _, .cons _ _, e => by cases e
  | .bl _ :: ds, _, _, .cons _ _, e => by cases e
  | .int _ :: ds, _, _, .cons _ _, e => by cases e
  | .lst _ :: ds, _, _, .cons _ _, e => by cases e
  | .tup _ :: ds, _, _, .cons _ _, e => by cases e
  | .obj _ _ :: ds, _, _, .cons _ _, e => by cases e
  | .amb _ :: ds, _, _, .cons _ _, e => by cases e
  | .scr _ :: ds, _, _, .cons _ _, e => by cases e
theorem strs_rep : ∀ (xs : List Str), RepL K L G am (xs.map D.str) (xs.map V.str)
  | [] => .nil
  | x :: xs => .cons (.str x) (strs_rep xs)
theorem at_v {ds : List D} {vs : List V} {i : Int} {d : D} (r : RepL K L G am ds vs) (h : atI ds i = some d) : ∃ v, atI vs i = some v ∧ Rep K L G am d v := by
  unfold atI at h ⊢
  rw [← r.length]
  cases q : ixN ds.length i with
  | none => rw [q] at h; cases h
  | some j =>
    rw [q] at h
    exact r.get h
theorem cut_v {ds : List D} {vs : List V} {lo hi : Option Int} (r : RepL K L G am ds vs) : RepL K L G am (cutD ds lo hi) (cutV vs lo hi) := by
  unfold cutD cutV
  rw [← r.length]
  exact (r.drop _).take _
end
section
variable {X : Cx} {L : Lk} {p : Prog} {fi : Nat → FI} {n wf : Nat}
def rBi (K : PySem.W.Frag) (L : Lk) (T : Tb) (b : Bi) : List V → Hp → VK → Prop := fun xs H Q => ∃ F G am om d x E, xs = [x] ∧ Mem K L F G am om H ∧ RepB K L F G am d x ∧ Post K L (Rep K L) F G am (biD T b d om) E Q
/-- str(x) by an own __str__ -/
theorem own_str {pins : List (Addr × Obj)} {s : Shared} {σ : L2.St} {H : Hp} {Q : VK} {c f : Nat} {fs : List D} {x : V} {v : Value} {F G : Hp} {am : List Addr} {om om' : Om} {b : Str}
    (hL : Lnk X.prog X.w X.K X.mg X.base L p fi n) (hr : Room (2 * n + 1) X.A) (I : Inv X pins σ H s) (rx : RelV x v) (M : Mem X.K L F G am om H) (hx : Rep X.K L G am (.obj c fs) x)
    (hf : p.strm c = some f) (hc : callN p wf n f [.obj c fs] om = .ok (.str b) om') (hp : ∀ H' G' am', Grow G am G' am' → Mem X.K L F G' am' om' H' → Q (.str b) H') : wpAny (model X.prog X.w) X.A (call (.type "str") [v]) (EP X pins σ Q) X.xe s := by
  obtain ⟨⟨d, hd, hcl, hnp⟩, hfr, hfind, hfn, hb⟩ := hL.strm c f hf
  have hx0 := hx
  cases hx with
  | @obj _ a dx vs _ ha na ra =>
  cases rx
  obtain ⟨mA, J, _⟩ := ins_get I.hok (M.gH _ _ ha)
  obtain ⟨od, J, _⟩ := J.look
  have hu : X.A.in1.in1.units < cLine := by
    have := hr.un
    show X.A.units + 1 + 1 < _
    omega
  have hr2 : Room (2 * n) X.A.in1.in1 := ⟨hr.hd, by have := hr.dp; show X.A.depth + 3 * (2 * n) + 5 < _; omega, by have := hr.un; show X.A.units + 1 + 1 + 16 * (2 * n) + 200 < _; omega⟩
  have hsp : spD X.K L p n f [V.ref a] H (fun z H' => z = V.str b ∧ Q (.str b) H') (fun _ _ _ => False) := by
    refine ⟨wf, F, G, am, om, _, M, .cons hx0 .nil, ⟨d, hd, by rw [hnp]; rfl⟩, ?_⟩
    rw [if_neg (by rw [hfr]; decide), hc]
    intro v H' G' am' g M' r
    cases r
    exact ⟨rfl, hp H' G' am' g M'⟩
  have hlen : (fi f).ps.length = 1 := ((hL.fn f d hd hcl).len _ _ _ _ hsp).symm
  refine PySem.W.kso_call hu I.kIn J hfind hfn (wpAny_call (codeAny_mono ((hL.fn f d hd hcl).run X.A.in1.in1 X.stack s H ⟨[.ref a], []⟩ [.ref a] [.ref a] _ (fun _ _ _ => False) hr2 I.env0.in1.in1 (by
    have z := hb s [.ref a] I.kIn (by rw [List.append_nil, hlen]; rfl)
    rw [List.append_nil] at z
    exact z) (.cons rfl .nil) hsp) fun r s' hq => ?_))
  cases r with
  | error e => exact passE0 (σ := σ) pins H s e s' I hq
  | ok fl =>
    cases fl with
    | ret u =>
      obtain ⟨z, H', I', rz, ez, q⟩ := I.after hq
      subst ez
      obtain ⟨t, rfl⟩ := rz
      exact ⟨.str b, H', I', ⟨t, rfl⟩, q⟩
    | next => exact False.elim hq
    | brk => exact False.elim hq
    | cont => exact False.elim hq
theorem cr_bi (hL : Lnk X.prog X.w X.K X.mg X.base L p fi n) (hr : Room (2 * n + 1) X.A) (hcalm : X.calm = true) (b : Bi) : CallR X b.py (rBi X.K L (tab p wf n) b) := by
  rintro pins s σ H xs us Q I rv ⟨F, G, am, om, d, x, E, rfl, M, r, hp⟩
  have rv0 := rv
  unfold biD at hp
  split at hp
  · obtain ⟨a, vs, rfl, ha, ra⟩ := r.lst M
    exact call_len pins s σ H _ us Q I rv ⟨_, _, rfl, .inl ⟨vs, SqL.of ha, rfl⟩, by rw [← ra.length]; exact hp _ H G am Grow.refl M (.int _)⟩
  · obtain ⟨a, vs, rfl, ha, ra⟩ := r.tup
    exact call_len pins s σ H _ us Q I rv ⟨_, _, rfl, .inr ⟨vs, SqT.of (M.gH _ _ ha), rfl⟩, by rw [← ra.length]; exact hp _ H G am Grow.refl M (.int _)⟩
  · obtain ⟨a, vs, rfl, ha, ra⟩ := r.scr
    exact call_len pins s σ H _ us Q I rv ⟨_, _, rfl, .inl ⟨vs, sqL_ex M.gH ha, rfl⟩, by rw [← ra.length]; exact hp _ H G am Grow.refl M (.int _)⟩
  · cases r.str
    split at hp
    · rename_i hz
      exact call_len pins s σ H _ us Q I rv ⟨_, _, rfl, ⟨sz_le hz, rfl⟩, hp _ H G am Grow.refl M (.int _)⟩
    · exact hp.elim
  · cases r.int
    exact call_abs pins s σ H _ us Q I rv ⟨_, rfl, hp _ H G am Grow.refl M (.int _)⟩
  · cases r.int
    split at hp
    · rename_i hz
      exact call_str_int pins s σ H _ us Q I rv ⟨_, rfl, hz, hp _ H G am Grow.refl M (.str _)⟩
    · exact hp.elim
  · split at hp
    · rename_i f hf
      split at hp
      · rename_i b om' hcall
        cases rv with
        | cons h1 h2 =>
          cases h2
          exact own_str (b := b) (om' := om') hL hr I h1 M r.objE hf hcall fun H' G' am' g M' => hp _ H' G' am' g M' (.str b)
      · exact hp.elim
    · exact hp.elim
  · cases r.int
    exact call_int1 pins s σ H _ us Q I rv (.inl ⟨_, rfl, hp _ H G am Grow.refl M (.int _)⟩)
  · cases r.bl
    exact call_int1 pins s σ H _ us Q I rv (.inr ⟨_, rfl, hp _ H G am Grow.refl M (.int _)⟩)
  · cases r.str
    split at hp
    · rename_i m hm
      split at hp
      · rename_i hz
        exact call_int_str pins s σ H _ us Q I rv ⟨_, _, rfl, hm, hz, hp _ H G am Grow.refl M (.int _)⟩
      · exact hp.elim
    · exact hp.elim
  · cases r.int
    exact call_bool1 pins s σ H _ us Q I rv (.inl ⟨_, rfl, hp _ H G am Grow.refl M (.bl _)⟩)
  · cases r.bl
    exact call_bool1 pins s σ H _ us Q I rv (.inr ⟨_, rfl, hp _ H G am Grow.refl M (.bl _)⟩)
  · obtain ⟨a, vs, rfl, ha, ra⟩ := r.lst M
    exact call_list_of pins s σ H _ us Q I rv ⟨_, _, rfl, .inl (SqL.of ha), fun q hq => hp _ _ _ am (Grow.of (M.none_g hq)) (M.new hq) (.lst upd_same (ra.up (Grow.of (M.none_g hq))))⟩
  · obtain ⟨a, vs, rfl, ha, ra⟩ := r.tup
    exact call_list_of pins s σ H _ us Q I rv ⟨_, _, rfl, .inr (SqT.of (M.gH _ _ ha)), fun q hq => hp _ _ _ am (Grow.of (M.none_g hq)) (M.new hq) (.lst upd_same (ra.up (Grow.of (M.none_g hq))))⟩
  · obtain ⟨a, vs, rfl, ha, ra⟩ := r.scr
    exact call_list_of pins s σ H _ us Q I rv ⟨_, _, rfl, .inl (sqL_ex M.gH ha), fun q hq => hp _ _ _ am (Grow.of (M.none_g hq)) (M.new hq) (.lst upd_same (ra.up (Grow.of (M.none_g hq))))⟩
  · obtain ⟨a, vs, rfl, ha, ra⟩ := r.lst M
    exact call_tuple_of pins s σ H _ us Q I rv ⟨_, _, rfl, .inl ⟨SqL.of ha, fun q hq => hp _ _ _ am (Grow.of (M.none_g hq)) (M.new hq) (.tup upd_same (ra.up (Grow.of (M.none_g hq))))⟩⟩
  · obtain ⟨a, vs, rfl, ha, ra⟩ := r.tup
    exact call_tuple_of pins s σ H _ us Q I rv ⟨_, vs, rfl, .inr ⟨SqT.of (M.gH _ _ ha), hp _ H G am Grow.refl M (.tup ha ra)⟩⟩
  · obtain ⟨a, vs, rfl, ha, ra⟩ := r.lst M
    split at hp
    · rename_i ns hn
      exact cr_sum hcalm pins s σ H _ us Q I rv ⟨a, ns, rfl, by rw [← ints_v ra hn]; exact SqL.of ha, hp _ H G am Grow.refl M (.int _)⟩
    · exact hp.elim
  · obtain ⟨a, vs, rfl, ha, ra⟩ := r.lst M
    split at hp
    · rename_i ns hn
      exact cr_any hcalm pins s σ H _ us Q I rv ⟨a, ns, rfl, by rw [← bls_v ra hn]; exact SqL.of ha, hp _ H G am Grow.refl M (.bl _)⟩
    · exact hp.elim
  · obtain ⟨a, vs, rfl, ha, ra⟩ := r.lst M
    split at hp
    · rename_i ns hn
      exact cr_all hcalm pins s σ H _ us Q I rv ⟨a, ns, rfl, by rw [← bls_v ra hn]; exact SqL.of ha, hp _ H G am Grow.refl M (.bl _)⟩
    · exact hp.elim
  · exact hp.elim
/-- list(x): a new list that nobody else holds -/
def rLiF (K : PySem.W.Frag) (L : Lk) (T : Tb) : List V → Hp → VK → Prop := fun xs H Q => ∃ F G am om d x E, xs = [x] ∧ Mem K L F G am om H ∧ RepB K L F G am d x ∧ PostF K L F G am (biD T .list d om) E Q
theorem cr_liF {T : Tb} : CallR X (.type "list") (rLiF X.K L T) := by
  rintro pins s σ H xs us Q I rv ⟨F, G, am, om, d, x, E, rfl, M, r, hp⟩
  cases d with
  | lst ds =>
    obtain ⟨a, vs, rfl, ha, ra⟩ := r.lst M
    obtain ⟨ds', e, hp⟩ := hp
    cases e
    exact call_list_of pins s σ H _ us Q I rv ⟨_, _, rfl, .inl (SqL.of ha), fun q hq => hp _ _ _ _ am Grow.refl (M.none_f hq) (M.newF hq) ra⟩
  | tup ds =>
    obtain ⟨a, vs, rfl, ha, ra⟩ := r.tup
    obtain ⟨ds', e, hp⟩ := hp
    cases e
    exact call_list_of pins s σ H _ us Q I rv ⟨_, _, rfl, .inr (SqT.of (M.gH _ _ ha)), fun q hq => hp _ _ _ _ am Grow.refl (M.none_f hq) (M.newF hq) ra⟩
  | scr ds =>
    obtain ⟨a, vs, rfl, ha, ra⟩ := r.scr
    obtain ⟨ds', e, hp⟩ := hp
    cases e
    exact call_list_of pins s σ H _ us Q I rv ⟨_, _, rfl, .inl (sqL_ex M.gH ha), fun q hq => hp _ _ _ _ am Grow.refl (M.none_f hq) (M.newF hq) ra⟩
  | non => exact hp.elim
  | bl _ => exact hp.elim
  | int _ => exact hp.elim
  | str _ => exact hp.elim
  | obj _ _ => exact hp.elim
  | amb _ => exact hp.elim
end
section
variable {X : Cx} {L : Lk} {p : Prog} {fi : Nat → FI} {n wf : Nat} {W : WX} {T : Tb} {a b c e o : Expr} {es : List Expr} {ea eb ec eo er : E} {pos apos cpos spos : Pos}
/-- one argument, as it is read -/
theorem pA1 (ha : PE X a (rdB X.K L T W ea)) (hs : starEach (a :: []) X.env = (false, eval a X.env) :: starEach [] X.env := by rfl) : PA X [a] (tCons (rdB X.K L T W ea) tNil) := pa_cons ha pa_nil hs
theorem rd1 {σ : L2.St} {H : Hp} {Q : VK} {K : PySem.W.Frag} {f : D → Om → Rs D} {F G : Hp} {am : List Addr} {om : Om} {sl : Sl} (M : Mem K L F G am om H) (S : SlR K L F G am sl σ)
    (pp : Post K L (Rep K L) F G am ((evE T ea sl om).bind fun x om => f x om) (fun cv dd H => W cv dd σ H) Q) {r : V → Hp → VK → Prop}
    (k : ∀ x H' G' am' om' dx, Mem K L F G' am' om' H' → RepB K L F G' am' dx x → Post K L (Rep K L) F G' am' (f dx om') (fun cv dd H => W cv dd σ H) Q → r x H' Q) : rdB K L T W ea σ H fun x H1 => r x H1 Q :=
  ⟨F, G, am, om, sl, M, S, pp.bind fun dx om1 x H1 G1 am1 g1 M1 rx p1 => k x H1 G1 am1 om1 dx M1 rx p1⟩
theorem rd1F {σ : L2.St} {H : Hp} {Q : VK} {K : PySem.W.Frag} {f : D → Om → Rs D} {F G : Hp} {am : List Addr} {om : Om} {sl : Sl} (M : Mem K L F G am om H) (S : SlR K L F G am sl σ)
    (pp : PostF K L F G am ((evE T ea sl om).bind fun x om => f x om) (fun cv dd H => W cv dd σ H) Q) {r : V → Hp → VK → Prop}
    (k : ∀ x H' G' am' om' dx, Mem K L F G' am' om' H' → RepB K L F G' am' dx x → PostF K L F G' am' (f dx om') (fun cv dd H => W cv dd σ H) Q → r x H' Q) : rdB K L T W ea σ H fun x H1 => r x H1 Q :=
  ⟨F, G, am, om, sl, M, S, pp.bind fun dx om1 x H1 G1 am1 g1 M1 rx p1 => k x H1 G1 am1 om1 dx M1 rx p1⟩
theorem pE_biB {id : String} {x : Str} {pp : Pos} (hL : Lnk X.prog X.w X.K X.mg X.base L p fi n) (hr : Room (2 * n + 1) X.A) (hcalm : X.calm = true) (b : Bi) (hb : b.py = .builtin id) (hg : Gl X x) (hm : X.mg x = none) (hv : bootBuiltins x = some (.builtin id))
    (ha : PE X a (rdB X.K L (tab p wf n) W ea)) (hn : x ≠ "__name__" := by decide) (hdb : (x == ("__debug__" : Str)) = false := by decide)
    (he : starEach (a :: []) X.env = (false, eval a X.env) :: starEach [] X.env := by rfl) (hpl : (backTo pos (starEach [] X.env)).any (·.1) = false := by rfl) : PE X (.Call (.Name x pp) (a :: []) [] pos) (rdE X.K L (tab p wf n) W (.bi b ea)) :=
  (pe_callB (hb ▸ cr_bi hL hr hcalm b) hg hm hv (pA1 ha he) hn hdb he hpl).imp fun σ H Q ⟨F, G, am, om, sl, M, S, pp⟩ =>
    rd1 (r := fun x H1 Q => tNil σ H1 fun xs H2 => rBi X.K L (tab p wf n) b (x :: xs) H2 Q) M S pp fun x H' G' am' om' dx M' rx p1 => ⟨F, G', am', om', dx, x, _, rfl, M', rx, p1⟩
theorem pE_biT {id : String} {x : Str} {pp : Pos} (hL : Lnk X.prog X.w X.K X.mg X.base L p fi n) (hr : Room (2 * n + 1) X.A) (hcalm : X.calm = true) (b : Bi) (hb : b.py = .type id) (hg : Gl X x) (hm : X.mg x = none) (hv : bootBuiltins x = some (.type id))
    (ha : PE X a (rdB X.K L (tab p wf n) W ea)) (hn : x ≠ "__name__" := by decide) (hdb : (x == ("__debug__" : Str)) = false := by decide)
    (he : starEach (a :: []) X.env = (false, eval a X.env) :: starEach [] X.env := by rfl) (hpl : (backTo pos (starEach [] X.env)).any (·.1) = false := by rfl) : PE X (.Call (.Name x pp) (a :: []) [] pos) (rdE X.K L (tab p wf n) W (.bi b ea)) :=
  (pe_callTy (hb ▸ cr_bi hL hr hcalm b) hg hm hv (pA1 ha he) hn hdb he hpl).imp fun σ H Q ⟨F, G, am, om, sl, M, S, pp⟩ =>
    rd1 (r := fun x H1 Q => tNil σ H1 fun xs H2 => rBi X.K L (tab p wf n) b (x :: xs) H2 Q) M S pp fun x H' G' am' om' dx M' rx p1 => ⟨F, G', am', om', dx, x, _, rfl, M', rx, p1⟩
theorem pF_list {pp : Pos} (hg : Gl X "list") (hm : X.mg "list" = none) (hv : bootBuiltins "list" = some (.type "list"))
    (ha : PE X a (rdB X.K L T W ea)) (he : starEach (a :: []) X.env = (false, eval a X.env) :: starEach [] X.env := by rfl) (hpl : (backTo pos (starEach [] X.env)).any (·.1) = false := by rfl) : PE X (.Call (.Name "list" pp) (a :: []) [] pos) (rdF X.K L T W (.bi .list ea)) :=
  (pe_callTy cr_liF hg hm hv (pA1 ha he) (by decide) (by decide) he hpl).imp fun σ H Q ⟨F, G, am, om, sl, M, S, pp⟩ =>
    rd1F (r := fun x H1 Q => tNil σ H1 fun xs H2 => rLiF X.K L T (x :: xs) H2 Q) M S pp fun x H' G' am' om' dx M' rx p1 => ⟨F, G', am', om', dx, x, _, rfl, M', rx, p1⟩
/-! ### isinstance -/
/-- the type of a datum -/
def tyD (L : Lk) : D → Option Value
  | .non => some (.type "NoneType")
  | .bl _ => some (.type "bool")
  | .int _ => some (.type "int")
  | .str _ => some (.type "str")
  | .lst _ => some (.type "list")
  | .tup _ => some (.type "tuple")
  | .obj c _ => some (.ref (L.ca c))
  | _ => none
/-- what isinstance asks of a class -/
structure IsC (K : PySem.W.Frag) (C : Addr) : Prop where
  cl : Cls K C
  ha : PySem.W.findIn K (.ref C) "__class__" = some (some (.builtin "object.__class__"))
  hn : PySem.W.specialIn K (.builtin "object.__class__") "__get__" = some (some (.builtin "getset_descriptor.__get__"))
  ht : PySem.W.takesIn K (.builtin "object.__class__") = some true
  hm : PySem.W.mroIn K C (.type "object") = some true
theorem tyX_of {K : PySem.W.Frag} {F G H : Hp} {am : List Addr} {om : Om} {d : D} {v : V} {t : Value} (M : Mem K L F G am om H) (r : RepB K L F G am d v) (hc : ∀ c fs, d = .obj c fs → IsC K (L.ca c)) (h : tyD L d = some t) : TyX K H v t := by
  cases d with
  | non => cases r.non; cases h; exact .base .non
  | bl b => cases r.bl; cases h; exact .base (.bl b)
  | int b => cases r.int; cases h; exact .base (.int b)
  | str b => cases r.str; cases h; exact .base (.str b)
  | lst ds =>
    obtain ⟨a, vs, rfl, ha, ra⟩ := r.lst M
    cases h
    exact .base (.lst ha)
  | tup ds =>
    obtain ⟨a, vs, rfl, ha, ra⟩ := r.tup
    cases h
    exact .base (.tup (M.gH _ _ ha))
  | obj c fs =>
    obtain ⟨a, dx, vs, rfl, ha, _⟩ := r.obj
    cases h
    have z := hc c fs rfl
    exact .base (.ins (M.gH _ _ ha) z.cl z.ha z.hn z.ht z.hm)
  | amb _ => cases h
  | scr _ => cases h
/-- a class as isinstance's second argument -/
structure TyOk (K : PySem.W.Frag) (L : Lk) (ty : Ty) (v : V) (u : Value) : Prop where
  cv : ClsV v u
  kit : ∀ d b, isT ty d = some b → ∃ t, tyD L d = some t ∧ PySem.W.kitOne K t u = some b ∧ ∀ c fs, d = .obj c fs → IsC K (L.ca c)
theorem tyOk_b {K : PySem.W.Frag} {L : Lk} {ty : Ty} {nm : String} (h : (ty = .tuple ∧ nm = "tuple") ∨ (ty = .list ∧ nm = "list") ∨ (ty = .int ∧ nm = "int") ∨ (ty = .bool ∧ nm = "bool") ∨ (ty = .str ∧ nm = "str")) : TyOk K L ty (.ty nm) (.type nm) := by
  refine ⟨.ty nm, fun d b hd => ?_⟩
  rcases h with ⟨rfl, rfl⟩ | ⟨rfl, rfl⟩ | ⟨rfl, rfl⟩ | ⟨rfl, rfl⟩ | ⟨rfl, rfl⟩
  all_goals
    cases d <;> first | (simp only [isT] at hd; cases hd; done) | (simp only [isT] at hd; cases hd; exact ⟨_, rfl, kit_ty (by decide +kernel), fun _ _ e => by cases e⟩)
theorem tyOk_o {K : PySem.W.Frag} {L : Lk} {c : Nat} (hk : PySem.W.kitOne K (.ref (L.ca c)) (.ref (L.ca c)) = some true) (hi : IsC K (L.ca c)) : TyOk K L (.own c) (.ref (L.ca c)) (.ref (L.ca c)) := by
  refine ⟨.own _, fun d b hd => ?_⟩
  cases d <;> simp only [isT] at hd <;> try cases hd
  rename_i c' fs
  split at hd
  · rename_i e
    subst e
    cases hd
    exact ⟨_, rfl, hk, fun c2 _ e => by cases e; exact hi⟩
  · cases hd
theorem pE_isi {pp : Pos} {ty : Ty} {cv : V} {u : Value} (hg : Gl X "isinstance") (hm : X.mg "isinstance" = none) (hv : bootBuiltins "isinstance" = some (.builtin "isinstance")) (ht : TyOk X.K L ty cv u)
    (ha : PE X a (rdB X.K L T W ea)) (hc : PE X c (tC cv)) (he : starEach (a :: [c]) X.env = (false, eval a X.env) :: starEach [c] X.env := by rfl) (he2 : starEach (c :: []) X.env = (false, eval c X.env) :: starEach [] X.env := by rfl) (hpl : (backTo pos (starEach [c] X.env)).any (·.1) = false := by rfl) :
    PE X (.Call (.Name "isinstance" pp) [a, c] [] pos) (rdE X.K L T W (.isi [ty] ea)) :=
  (pe_callB call_isi hg hm hv (pa_cons ha (pa_cons hc pa_nil he2) he) (by decide) (by decide) he hpl).imp fun σ H Q ⟨F, G, am, om, sl, M, S, pp⟩ =>
    rd1 (r := fun x H1 Q => tCons (tC cv) tNil σ H1 fun xs H2 => rIsi X.K (x :: xs) H2 Q) M S pp fun x H' G' am' om' dx M' rx p1 => by
      unfold isA at p1
      split at p1
      · rename_i b hb
        split at hb
        · rename_i h1
          cases hb
          obtain ⟨t, h2, h3, h4⟩ := ht.kit _ _ h1
          exact ⟨x, cv, t, u, true, rfl, ht.cv, tyX_of M' rx h4 h2, h3, p1 _ H' G' am' Grow.refl M' (.bl _)⟩
        · rename_i h1
          cases hb
          obtain ⟨t, h2, h3, h4⟩ := ht.kit _ _ h1
          exact ⟨x, cv, t, u, false, rfl, ht.cv, tyX_of M' rx h4 h2, h3, p1 _ H' G' am' Grow.refl M' (.bl _)⟩
        · cases hb
      · exact p1.elim
/-! ### subscripts -/
def rIxD (K : PySem.W.Frag) (L : Lk) : R2 := fun x y H Q => ∃ F G am om dx dy E, Mem K L F G am om H ∧ RepB K L F G am dx x ∧ RepB K L F G am dy y ∧ Post K L (Rep K L) F G am (ixD dx dy om) E Q
theorem ix_D : IxR X (rIxD X.K L) := by
  rintro value slice pins s σ H x y v u Q I rx ry ⟨F, G, am, om, dx, dy, E, M, hx, hy, hp⟩ hsub
  unfold ixD at hp
  split at hp
  · obtain ⟨a, vs, rfl, ha, ra⟩ := hx.lst M
    cases hy.int
    split at hp
    · rename_i d hd
      obtain ⟨w, hw, rw'⟩ := at_v ra hd
      exact ix_list value slice pins s σ H _ _ v u Q I rx ry ⟨_, _, _, w, rfl, rfl, SqL.of ha, hw, hp _ H G am Grow.refl M rw'⟩ hsub
    · exact hp.elim
  · obtain ⟨a, vs, rfl, ha, ra⟩ := hx.tup
    cases hy.int
    split at hp
    · rename_i d hd
      obtain ⟨w, hw, rw'⟩ := at_v ra hd
      exact ix_tup value slice pins s σ H _ _ v u Q I rx ry ⟨_, _, _, w, rfl, rfl, SqT.of (M.gH _ _ ha), hw, hp _ H G am Grow.refl M rw'⟩ hsub
    · exact hp.elim
  · obtain ⟨a, vs, rfl, ha, ra⟩ := hx.scr
    cases hy.int
    split at hp
    · rename_i d hd
      obtain ⟨w, hw, rw'⟩ := at_v ra hd
      exact ix_list value slice pins s σ H _ _ v u Q I rx ry ⟨_, _, _, w, rfl, rfl, sqL_ex M.gH ha, hw, hp _ H G am Grow.refl M rw'⟩ hsub
    · exact hp.elim
  · cases hx.str
    cases hy.int
    split at hp
    · rename_i hz
      split at hp
      · rename_i d hd
        exact ix_str value slice pins s σ H _ _ v u Q I rx ry ⟨_, _, d, rfl, rfl, sz_le hz, hd, hp _ H G am Grow.refl M (.str _)⟩ hsub
      · exact hp.elim
    · exact hp.elim
  · obtain ⟨a, rfl, hk⟩ := hx.amb
    cases hy.int
    split at hp
    · rename_i ds hds
      obtain ⟨vs, ha, ra⟩ := M.obs _ _ _ hk hds
      split at hp
      · rename_i d hd
        obtain ⟨w, hw, rw'⟩ := at_v ra hd
        exact ix_list value slice pins s σ H _ _ v u Q I rx ry ⟨_, _, _, w, rfl, rfl, SqL.of ha, hw, hp _ H G am Grow.refl M rw'⟩ hsub
      · exact hp.elim
    · exact hp.elim
  · exact hp.elim
theorem pE_ix (ha : PE X a (rdB X.K L T W ea)) (hb : PE X b (rdB X.K L T W eb)) (hs : PlainIx b) : PE X (.Subscript a b pos) (rdE X.K L T W (.ix ea eb)) :=
  (pe_ix ix_D ha hb hs).imp fun σ H Q ⟨F, G, am, om, sl, M, S, pp⟩ => rd2 M S pp fun x y H' G' am' om' dx dy M' rx ry p2 => ⟨F, G', am', om', dx, dy, _, M', rx, ry, p2⟩
/-! ### slices -/
theorem pO_none : PO X none (rdO X.K L T W .nop) := po_none.imp fun σ H Q ⟨F, G, am, om, sl, M, S, pp⟩ => pp none H G am Grow.refl M rfl
theorem pO_some (ha : PE X a (rdB X.K L T W ea)) : PO X (some a) (rdO X.K L T W (.cons ea .nil)) :=
  (po_some ha).imp fun σ H Q ⟨F, G, am, om, sl, M, S, pp⟩ => ⟨F, G, am, om, sl, M, S, pp.bind fun d om1 v H1 G1 am1 g1 M1 r1 p1 => by
    split at p1
    · cases r1.int
      exact ⟨_, rfl, p1 _ H1 G1 am1 Grow.refl M1 rfl⟩
    · exact p1.elim⟩
def rSlD (K : PySem.W.Frag) (L : Lk) : V → Option Int → Option Int → Hp → VK → Prop := fun x lo hi H Q => ∃ F G am om dx E, Mem K L F G am om H ∧ RepB K L F G am dx x ∧ Post K L (Rep K L) F G am (slD dx lo hi om) E Q
theorem sl_D : L2.SlR X (rSlD X.K L) := by
  rintro pins s σ H x v vl vu lo hi sl Q I rx hs pl pu ⟨F, G, am, om, dx, E, M, hx, hp⟩
  unfold slD at hp
  split at hp
  · obtain ⟨a, vs, rfl, ha, ra⟩ := hx.lst M
    exact sl_list pins s σ H _ v vl vu lo hi sl Q I rx hs pl pu ⟨a, vs, rfl, SqL.of ha, fun q hq => hp _ _ _ am (Grow.of (M.none_g hq)) (M.new hq) (.lst upd_same ((cut_v ra).up (Grow.of (M.none_g hq))))⟩
  · obtain ⟨a, vs, rfl, ha, ra⟩ := hx.tup
    refine sl_tupA pins s σ H _ v vl vu lo hi sl Q I rx hs pl pu ⟨a, vs, rfl, SqT.of (M.gH _ _ ha), fun hw => ?_, fun _ q hq => hp _ _ _ am (Grow.of (M.none_g hq)) (M.new hq) (.tup upd_same ((cut_v ra).up (Grow.of (M.none_g hq))))⟩
    refine hp _ H G am Grow.refl M (.tup ha ?_)
    have z := cut_v (lo := lo) (hi := hi) ra
    have e : cutV vs lo hi = vs := by
      unfold cutV
      rw [hw.1, hw.2, List.drop_zero, Nat.sub_zero, List.take_length]
    rw [e] at z
    exact z
  · cases hx.str
    split at hp
    · rename_i hz
      exact sl_str pins s σ H _ v vl vu lo hi sl Q I rx hs pl pu ⟨_, rfl, sz_le hz, hp _ H G am Grow.refl M (.str _)⟩
    · exact hp.elim
  · exact hp.elim
theorem rd_sl {σ : L2.St} {H : Hp} {Q : VK} {el eh : E} {F G : Hp} {am : List Addr} {om : Om} {sl : Sl} (M : Mem X.K L F G am om H) (S : SlR X.K L F G am sl σ) (pp : Post X.K L (Rep X.K L) F G am (evE T (.sl ea el eh) sl om) (fun cv dd H => W cv dd σ H) Q) :
    tSl (rSlD X.K L) (rdB X.K L T W ea) (rdO X.K L T W el) (rdO X.K L T W eh) σ H Q :=
  ⟨F, G, am, om, sl, M, S, Post.bind pp fun dx om1 x H1 G1 am1 g1 M1 rx p1 => ⟨F, G1, am1, om1, sl, M1, S.grow g1, p1.bind fun l om2 l' H2 G2 am2 g2 M2 e p2 => by
    cases e
    exact ⟨F, G2, am2, om2, sl, M2, (S.grow g1).grow g2, p2.bind fun h om3 h' H3 G3 am3 g3 M3 e p3 => by
      cases e
      exact ⟨F, G3, am3, om3, dx, _, M3, (rx.up g2).up g3, p3⟩⟩⟩⟩
theorem pE_sl {lo hi : Option Expr} {el eh : E} {p2 : Pos} (ha : PE X a (rdB X.K L T W ea)) (hl : PO X lo (rdO X.K L T W el)) (hh : PO X hi (rdO X.K L T W eh)) : PE X (.Subscript a (.Slice lo hi none p2) pos) (rdE X.K L T W (.sl ea el eh)) :=
  (pe_slice sl_D ha hl hh).imp fun σ H Q ⟨F, G, am, om, sl, M, S, pp⟩ => rd_sl M S pp
/-! ### methods of texts -/
def Mb.py : Mb → String
  | .join => "str.join"
  | .split => "str.split"
  | .partition => "str.partition"
def rMb (K : PySem.W.Frag) (L : Lk) (m : Mb) : V → List V → Hp → VK → Prop := fun x xs H Q => ∃ F G am om s dy y E, x = .str s ∧ xs = [y] ∧ Mem K L F G am om H ∧ RepB K L F G am dy y ∧ Post K L (Rep K L) F G am (mbf m s dy om) E Q
theorem mt_mb (L : Lk) (m : Mb) : MtR X m.py (rMb X.K L m) := by
  rintro pins s σ H x xs v us Q I rx rv ⟨F, G, am, om, sx, dy, y, E, rfl, rfl, M, hy, hp⟩
  unfold mbf at hp
  split at hp
  · obtain ⟨a, vs, rfl, ha, ra⟩ := hy.lst M
    split at hp
    · rename_i ys hys
      split at hp
      · rename_i hz
        exact mt_join pins s σ H _ _ v us Q I rx rv ⟨_, a, ys, rfl, rfl, .inl (by rw [← strs_v ra hys]; exact SqL.of ha), Nat.le_trans hz (by decide), hp _ H G am Grow.refl M (.str _)⟩
      · exact hp.elim
    · exact hp.elim
  · cases hy.str
    split at hp
    · rename_i hz
      refine mt_split pins s σ H _ _ v us Q I rx rv ⟨_, _, rfl, rfl, hz.1, sz_le hz.2, fun q hq => ?_⟩
      exact hp _ _ _ am (Grow.of (M.none_g hq)) (M.new hq) (.lst upd_same (strs_rep _))
    · exact hp.elim
  · cases hy.str
    split at hp
    · rename_i hz
      refine mt_partition pins s σ H _ _ v us Q I rx rv ⟨_, _, rfl, rfl, hz.1, sz_le hz.2, fun q hq => ?_⟩
      exact hp _ _ _ am (Grow.of (M.none_g hq)) (M.new hq) (.tup upd_same (.cons (.str _) (.cons (.str _) (.cons (.str _) .nil))))
    · exact hp.elim
  · exact hp.elim
/-- o.m(a), m a method of texts -/
theorem pE_mb {name : Str} (m : Mb) (slot : Slot "str" name m.py) (ty : typeOf (.builtin m.py) = pure (.type "method_descriptor")) (ho : PE X o (rdB X.K L T W eo)) (ha : PE X a (rdB X.K L T W ea))
    (hs : starEach [a] X.env = [(false, eval a X.env)] := by rfl) (hbase : attributeBase o name X.env (eval o X.env) = eval o X.env := by rfl) (hline : (apos.endLine == pos.line) = true := by rfl) :
    PE X (.Call (.Attribute o name apos) [a] [] pos) (rdE X.K L T W (.mb m eo ea)) :=
  (pe_m1 slot ty (mt_mb L m) ho ha hs hbase hline).imp fun σ H Q ⟨F, G, am, om, sl, M, S, pp⟩ => ⟨F, G, am, om, sl, M, S, pp.bind fun dx om1 x H1 G1 am1 g1 M1 rx p1 => by
    split at p1
    · rename_i s
      cases rx.str
      exact ⟨⟨s, rfl⟩, F, G1, am1, om1, sl, M1, S.grow g1, p1.bind fun dy om2 y H2 G2 am2 g2 M2 ry p2 => ⟨F, G2, am2, om2, s, dy, y, _, rfl, rfl, M2, ry, p2⟩⟩
    · exact p1.elim⟩
def rMbF (K : PySem.W.Frag) (L : Lk) : V → List V → Hp → VK → Prop := fun x xs H Q => ∃ F G am om s dy y E, x = .str s ∧ xs = [y] ∧ Mem K L F G am om H ∧ RepB K L F G am dy y ∧ PostF K L F G am (mbf .split s dy om) E Q
theorem mt_mbF (L : Lk) : MtR X "str.split" (rMbF X.K L) := by
  rintro pins s σ H x xs v us Q I rx rv ⟨F, G, am, om, sx, dy, y, E, rfl, rfl, M, hy, hp⟩
  cases dy with
  | str b =>
    cases hy.str
    simp only [mbf] at hp
    split at hp
    · rename_i hz
      obtain ⟨ds, e, hp⟩ := hp
      cases e
      refine mt_split pins s σ H _ _ v us Q I rx rv ⟨_, _, rfl, rfl, hz.1, sz_le hz.2, fun q hq => ?_⟩
      exact hp _ _ _ _ am Grow.refl (M.none_f hq) (M.newF hq) (strs_rep _)
    · exact hp.elim
  | non => exact hp.elim
  | bl _ => exact hp.elim
  | int _ => exact hp.elim
  | lst _ => exact hp.elim
  | tup _ => exact hp.elim
  | obj _ _ => exact hp.elim
  | amb _ => exact hp.elim
  | scr _ => exact hp.elim
theorem pF_split (slot : Slot "str" "split" "str.split") (ty : typeOf (.builtin "str.split") = pure (.type "method_descriptor")) (ho : PE X o (rdB X.K L T W eo)) (ha : PE X a (rdB X.K L T W ea))
    (hs : starEach [a] X.env = [(false, eval a X.env)] := by rfl) (hbase : attributeBase o "split" X.env (eval o X.env) = eval o X.env := by rfl) (hline : (apos.endLine == pos.line) = true := by rfl) :
    PE X (.Call (.Attribute o "split" apos) [a] [] pos) (rdF X.K L T W (.mb .split eo ea)) :=
  (pe_m1 slot ty (mt_mbF L) ho ha hs hbase hline).imp fun σ H Q ⟨F, G, am, om, sl, M, S, pp⟩ => ⟨F, G, am, om, sl, M, S, pp.bind fun dx om1 x H1 G1 am1 g1 M1 rx p1 => by
    split at p1
    · rename_i s
      cases rx.str
      exact ⟨⟨s, rfl⟩, F, G1, am1, om1, sl, M1, S.grow g1, p1.bind fun dy om2 y H2 G2 am2 g2 M2 ry p2 => ⟨F, G2, am2, om2, s, dy, y, _, rfl, rfl, M2, ry, p2⟩⟩
    · exact p1.elim⟩
/-! ### f-strings -/
theorem pE_fmt {pos : Pos} (ha : PE X a (rdB X.K L T W ea)) : PE X (.FormattedValue a (-1) none pos) (fun σ H Q => ∃ F G am om sl, Mem X.K L F G am om H ∧ SlR X.K L F G am sl σ ∧ Post X.K L (fun _ _ (s : Str) v => v = .str s) F G am ((evE T ea sl om).bind fun x om => fmt T x om) (fun cv dd H => W cv dd σ H) Q) :=
  (pe_fmt ha).imp fun σ H Q ⟨F, G, am, om, sl, M, S, pp⟩ => ⟨F, G, am, om, sl, M, S, pp.bind fun d om1 v H1 G1 am1 g1 M1 r1 p1 => by
    unfold fmt at p1
    split at p1
    · cases r1.str
      split at p1
      · rename_i hz
        exact .inl ⟨_, rfl, sz_le hz, p1 _ H1 G1 am1 Grow.refl M1 rfl⟩
      · exact p1.elim
    · cases r1.int
      split at p1
      · rename_i hz
        exact .inr ⟨_, rfl, hz, p1 _ H1 G1 am1 Grow.refl M1 rfl⟩
      · exact p1.elim
    · exact p1.elim⟩

/-- a part of an f-string -/
abbrev rdP (K : PySem.W.Frag) (L : Lk) (T : Tb) (W : WX) (ee : E) : TE := fun σ H Q => ∃ F G am om sl, Mem K L F G am om H ∧ SlR K L F G am sl σ ∧ Post K L (fun _ _ (s : Str) v => v = .str s) F G am ((evE T ee sl om).bind fun x om => fmt T x om) (fun cv dd H => W cv dd σ H) Q
theorem pP_str {x : Str} {k : Nat} {pos : Pos} : PE X (.Constant (.str x) k pos) (rdP X.K L T W (.k (.str x))) :=
  pe_str.imp fun σ H Q ⟨F, G, am, om, sl, M, S, pp⟩ => by
    have e : ((evE T (.k (.str x)) sl om).bind fun x om => fmt T x om) = if x.length ≤ 1000000 then .ok x om else .stuck := rfl
    rw [e] at pp
    split at pp
    · exact pp _ H G am Grow.refl M rfl
    · exact pp.elim
def PJr (X : Cx) (L : Lk) (T : Tb) (W : WX) (es : List Expr) (ee : E) : Prop := ∃ ts, PJ X es ts ∧ ∀ (acc : Str) σ H (Q : Str → Hp → Prop), (∃ F G am om sl, Mem X.K L F G am om H ∧ SlR X.K L F G am sl σ ∧ Post X.K L (fun _ _ (s : Str) v => v = s) F G am (evJ T ee acc sl om) (fun cv dd H => W cv dd σ H) Q) → tJs ts acc σ H Q
theorem pJ_nil : PJr X L T W [] .nil := ⟨[], .nil, fun acc σ H Q ⟨F, G, am, om, sl, M, S, pp⟩ => pp acc H G am Grow.refl M rfl⟩
theorem rs_assoc {α β γ : Type} (r : Rs α) (f : α → Om → Rs β) (g : β → Om → Rs γ) : (r.bind fun x om => (f x om).bind g) = (r.bind f).bind g := by cases r <;> rfl
theorem pJ_cons {e : Expr} {es : List Expr} {ea er : E} (h : PE X e (rdP X.K L T W ea)) (hr : PJr X L T W es er) : PJr X L T W (e :: es) (.cons ea er) := by
  obtain ⟨ts, hj, ht⟩ := hr
  refine ⟨_, .cons h hj, fun acc σ H Q ⟨F, G, am, om, sl, M, S, pp⟩ => ⟨F, G, am, om, sl, M, S, ?_⟩⟩
  have e : evJ T (.cons ea er) acc sl om = ((evE T ea sl om).bind fun x om => fmt T x om).bind fun y om => if (acc ++ y).length ≤ 1000000 then evJ T er (acc ++ y) sl om else .stuck := by
    rw [evJ, ← rs_assoc]
  rw [e] at pp
  refine pp.bind fun y om1 v H1 G1 am1 g1 M1 r1 p1 => ?_
  split at p1
  · rename_i hz
    exact ⟨y, r1, sz_le hz, ht _ σ H1 Q ⟨F, G1, am1, om1, sl, M1, S.grow g1, p1⟩⟩
  · exact p1.elim
theorem empty_eq : (Str.empty : Str) = ⟨#[]⟩ := rfl
theorem pE_fstr {v1 v2 : Expr} {rest : List Expr} {er : E} {pos : Pos} (h : PJr X L T W (v1 :: v2 :: rest) er) : PE X (.JoinedStr (v1 :: v2 :: rest) pos) (rdE X.K L T W (.fstr er)) := by
  obtain ⟨ts, hj, ht⟩ := h
  refine (pe_joined hj).imp fun σ H Q ⟨F, G, am, om, sl, M, S, pp⟩ => ht _ σ H _ ⟨F, G, am, om, sl, M, S, ?_⟩
  have e : evE T (.fstr er) sl om = (evJ T er (⟨#[]⟩ : Str) sl om).bind fun s om => .ok (.str s) om := by rw [evE]
  rw [e] at pp
  exact pp.bind fun s om1 v H1 G1 am1 g1 M1 r1 p1 => by
    rw [r1]
    exact p1 _ H1 G1 am1 Grow.refl M1 (.str s)
end
end PD

set_option Elab.async false
set_option linter.all false
set_option maxRecDepth 100000
set_option maxHeartbeats 400000
/-! PDI: what loops walk; targets; list comprehensions. -/
namespace PD
open PySem PySem.Spec PyProof.Rows L2
/-! ### what is walked -/
structure Yl (K : PySem.W.Frag) (L : Lk) (P : Hp → Prop) (G : Hp) (am : List Addr) (J : It) (ds : List D) : Prop where
  go : ∀ (i : Nat) (d : D) F' G' am' om' H', ds[i]? = some d → P F' → Grow G am G' am' → Mem K L F' G' am' om' H' → J.go i H' ∧ ∀ x H3, J.yld i H' x H3 → ∃ G3, Grow G' am' G3 am' ∧ Mem K L F' G3 am' om' H3 ∧ Rep K L G3 am' d x
  stop : ∀ F' G' am' om' H', P F' → Grow G am G' am' → Mem K L F' G' am' om' H' → J.stop ds.length H'
def PostI (K : PySem.W.Frag) (L : Lk) (P : Hp → Hp → Prop) (F G : Hp) (am : List Addr) (r : Rs (List D)) (E : XK) (R : It → Hp → Prop) : Prop := match r with
  | .stuck => False
  | .ok ds om' => ∀ J H' G' am', Grow G am G' am' → Mem K L F G' am' om' H' → Yl K L (P F) G' am' J ds → R J H'
  | .exc c fs om' => ∀ cv dd H' G' am', Grow G am G' am' → Mem K L F G' am' om' H' → ExcR K L G' am' c fs cv dd → E cv dd H'
/-- any others' objects | at least those of the entry -/
def pAny : Hp → Hp → Prop := fun _ _ => True
def rdI (K : PySem.W.Frag) (L : Lk) (T : Tb) (W : WX) (P : Hp → Hp → Prop) (e : E) : TI := fun σ H R => ∃ F G am om sl, Mem K L F G am om H ∧ SlR K L F G am sl σ ∧ PostI K L P F G am (evI T e sl om) (fun cv dd H => W cv dd σ H) R
section
variable {K : PySem.W.Frag} {L : Lk} {F F' G G' H : Hp} {am am' : List Addr} {om : Om} {E : XK} {R : It → Hp → Prop}
theorem PostI.grow {P : Hp → Hp → Prop} {r : Rs (List D)} (g : Grow G am G' am') (h : PostI K L P F G am r E R) : PostI K L P F G' am' r E R := by
  cases r with
  | stuck => exact h
  | ok a om' => exact fun J H' G'' am'' g' => h J H' G'' am'' (g.trans g')
  | exc c fs om' => exact fun cv dd H' G'' am'' g' => h cv dd H' G'' am'' (g.trans g')
theorem PostI.bind {P : Hp → Hp → Prop} {α β : Type} {Rr : Hp → List Addr → α → β → Prop} {r : Rs α} {Q : β → Hp → Prop} {f : α → Om → Rs (List D)} (h : PostI K L P F G am (r.bind f) E R)
    (k : ∀ a om1 b H1 G1 am1, Grow G am G1 am1 → Mem K L F G1 am1 om1 H1 → Rr G1 am1 a b → PostI K L P F G1 am1 (f a om1) E R → Q b H1) : Post K L Rr F G am r E Q := by
  cases r with
  | stuck => exact h
  | ok a om1 => exact fun b H1 G1 am1 g M rr => k a om1 b H1 G1 am1 g M rr (PostI.grow g h)
  | exc c fs om1 => exact h
theorem SqL.inj2 {K : PySem.W.Frag} {H : Hp} {a : Addr} {xs ys : List V} (h : H a = some (.lst xs)) (h' : SqL K H a ys) (hk : ∀ o, K.lookup a ≠ some o) : ys = xs := by
  rcases h' with (h' | ⟨o, h'⟩) | ⟨o, _, _, h', _⟩
  · rw [h] at h'; cases h'; rfl
  · rw [h] at h'; cases h'
  · exact absurd h' (hk o)
end
section
variable {X : Cx} {L : Lk} {p : Prog} {fi : Nat → FI} {n wf : Nat} {W : WX} {T : Tb} {a b c e o iter tg elt : Expr} {es : List Expr} {ea eb ec eo er : E} {pos apos cpos spos : Pos}
/-- a list at a, for good or held alone -/
theorem yl_list {K : PySem.W.Frag} {P : Hp → Prop} {G : Hp} {am : List Addr} {q : Addr} {ds : List D} {vs : List V} (h : ∀ F' G' am' om' H', P F' → Grow G am G' am' → Mem K L F' G' am' om' H' → SqL K H' q vs) (r : RepL K L G am ds vs) : Yl K L P G am (Itl K q) ds := by
  refine ⟨fun i d F' G' am' om' H' hd hP g M => ?_, fun F' G' am' om' H' hP g M => ⟨vs, h _ _ _ _ _ hP g M, by rw [← r.length]; exact Nat.le_refl _⟩⟩
  obtain ⟨v, hv, rv⟩ := r.get hd
  refine ⟨⟨vs, v, h _ _ _ _ _ hP g M, hv⟩, fun x H3 hy => ?_⟩
  obtain ⟨rfl, hx⟩ := hy
  have e := hx vs (h _ _ _ _ _ hP g M)
  rw [hv] at e
  cases e
  exact ⟨G', Grow.refl, M, rv.up g⟩
theorem yl_tup {K : PySem.W.Frag} {P : Hp → Prop} {G : Hp} {am : List Addr} {q : Addr} {ds : List D} {vs : List V} (h : G q = some (.tup vs)) (r : RepL K L G am ds vs) : Yl K L P G am (Itt K q) ds := by
  refine ⟨fun i d F' G' am' om' H' hd hP g M => ?_, fun F' G' am' om' H' hP g M => ⟨vs, SqT.of (M.gH _ _ (g.ex _ _ h)), by rw [← r.length]; exact Nat.le_refl _⟩⟩
  obtain ⟨v, hv, rv⟩ := r.get hd
  refine ⟨⟨vs, v, SqT.of (M.gH _ _ (g.ex _ _ h)), hv⟩, fun x H3 hy => ?_⟩
  obtain ⟨rfl, hx⟩ := hy
  have e := hx vs (SqT.of (M.gH _ _ (g.ex _ _ h)))
  rw [hv] at e
  cases e
  exact ⟨G', Grow.refl, M, rv.up g⟩
theorem yl_str {K : PySem.W.Frag} {P : Hp → Prop} {G : Hp} {am : List Addr} (s : Str) : Yl K L P G am (Its s) (s.cps.toList.map fun c => .str ⟨#[c]⟩) := by
  refine ⟨fun i d F' G' am' om' H' hd hP g M => ?_, fun F' G' am' om' H' hP g M => by rw [List.length_map, Array.length_toList]; exact Nat.le_refl s.cps.size⟩
  rw [List.getElem?_map] at hd
  cases q : s.cps.toList[i]? with
  | none => rw [q] at hd; cases hd
  | some c =>
    rw [q] at hd
    cases hd
    have hi : i < s.cps.size := by
      have := (List.getElem?_eq_some_iff.mp q).1
      rwa [Array.length_toList] at this
    refine ⟨hi, fun x H3 hy => ?_⟩
    obtain ⟨rfl, c', hc', rfl⟩ := hy
    have e : c' = c := by
      rw [Array.getElem?_toList] at q
      rw [q] at hc'
      exact (Option.some.inj hc').symm
    subst e
    exact ⟨G', Grow.refl, M, .str _⟩
/-- a list, a tuple, a text: read for a moment -/
theorem pI_b (ha : PE X iter (rdB X.K L T W ea)) : PI X tg iter (rdI X.K L T W Ex (.itl ea)) :=
  ((pi_list ha).alt ((pi_tup ha).alt (pi_str ha))).imp fun σ H R ⟨F, G, am, om, sl, M, S, pp⟩ => by
    cases q : evE T ea sl om with
    | stuck =>
      simp only [evI, q, bind_stuck] at pp
      exact pp.elim
    | exc c fs om1 =>
      refine .inl ⟨F, G, am, om, sl, M, S, ?_⟩
      simp only [evI, q, bind_exc] at pp
      rw [q]
      exact pp
    | ok d om1 =>
      simp only [evI, q, bind_ok] at pp
      cases d with
      | lst ds =>
        refine .inl ⟨F, G, am, om, sl, M, S, ?_⟩
        rw [q]
        intro v H1 G1 am1 g1 M1 r1
        rcases r1 with r1 | ⟨a', vs, ds', e1, rfl, hF, ra⟩
        · cases r1 with
          | lst h r =>
            exact ⟨_, rfl, ⟨_, SqL.of (M1.gH _ _ h)⟩, pp _ H1 G1 am1 g1 M1 (yl_list (fun F' G' am' om' H' _ g M' => SqL.of (M'.gH _ _ (g.ex _ _ h))) r)⟩
        · cases e1
          exact ⟨_, rfl, ⟨_, SqL.of (M1.fH _ _ hF)⟩, pp _ H1 G1 am1 g1 M1 (yl_list (fun F' G' am' om' H' hP g M' => SqL.of (M'.fH _ _ (hP _ _ hF))) ra)⟩
      | scr ds =>
        refine .inl ⟨F, G, am, om, sl, M, S, ?_⟩
        rw [q]
        intro v H1 G1 am1 g1 M1 r1
        obtain ⟨a', vs, rfl, h, r⟩ := r1.scr
        exact ⟨_, rfl, ⟨_, sqL_ex M1.gH h⟩, pp _ H1 G1 am1 g1 M1 (yl_list (fun F' G' am' om' H' _ g M' => sqL_ex (g.ex.trans M'.gH) h) r)⟩
      | tup ds =>
        refine .inr (.inl ⟨F, G, am, om, sl, M, S, ?_⟩)
        rw [q]
        intro v H1 G1 am1 g1 M1 r1
        obtain ⟨a', vs, rfl, h, r⟩ := r1.tup
        exact ⟨_, rfl, ⟨_, SqT.of (M1.gH _ _ h)⟩, pp _ H1 G1 am1 g1 M1 (yl_tup h r)⟩
      | str s =>
        refine .inr (.inr ⟨F, G, am, om, sl, M, S, ?_⟩)
        rw [q]
        intro v H1 G1 am1 g1 M1 r1
        cases r1.str
        exact ⟨s, rfl, pp _ H1 G1 am1 g1 M1 (yl_str s)⟩
      | non => exact pp.elim
      | bl _ => exact pp.elim
      | int _ => exact pp.elim
      | obj _ _ => exact pp.elim
      | amb _ => exact pp.elim
theorem pI_e (ha : PE X iter (rdE X.K L T W ea)) : PI X tg iter (rdI X.K L T W pAny (.itl ea)) :=
  ((pi_list ha).alt ((pi_tup ha).alt (pi_str ha))).imp fun σ H R ⟨F, G, am, om, sl, M, S, pp⟩ => by
    cases q : evE T ea sl om with
    | stuck =>
      simp only [evI, q, bind_stuck] at pp
      exact pp.elim
    | exc c fs om1 =>
      refine .inl ⟨F, G, am, om, sl, M, S, ?_⟩
      simp only [evI, q, bind_exc] at pp
      rw [q]
      exact pp
    | ok d om1 =>
      simp only [evI, q, bind_ok] at pp
      cases d with
      | lst ds =>
        refine .inl ⟨F, G, am, om, sl, M, S, ?_⟩
        rw [q]
        intro v H1 G1 am1 g1 M1 r1
        cases r1 with
        | lst h r =>
          exact ⟨_, rfl, ⟨_, SqL.of (M1.gH _ _ h)⟩, pp _ H1 G1 am1 g1 M1 (yl_list (fun F' G' am' om' H' _ g M' => SqL.of (M'.gH _ _ (g.ex _ _ h))) r)⟩
      | scr ds =>
        refine .inl ⟨F, G, am, om, sl, M, S, ?_⟩
        rw [q]
        intro v H1 G1 am1 g1 M1 r1
        cases r1 with
        | scr h r =>
          exact ⟨_, rfl, ⟨_, sqL_ex M1.gH h⟩, pp _ H1 G1 am1 g1 M1 (yl_list (fun F' G' am' om' H' _ g M' => sqL_ex (g.ex.trans M'.gH) h) r)⟩
      | tup ds =>
        refine .inr (.inl ⟨F, G, am, om, sl, M, S, ?_⟩)
        rw [q]
        intro v H1 G1 am1 g1 M1 r1
        cases r1 with
        | tup h r =>
          exact ⟨_, rfl, ⟨_, SqT.of (M1.gH _ _ h)⟩, pp _ H1 G1 am1 g1 M1 (yl_tup h r)⟩
      | str s =>
        refine .inr (.inr ⟨F, G, am, om, sl, M, S, ?_⟩)
        rw [q]
        intro v H1 G1 am1 g1 M1 r1
        cases r1
        exact ⟨s, rfl, pp _ H1 G1 am1 g1 M1 (yl_str s)⟩
      | non => exact pp.elim
      | bl _ => exact pp.elim
      | int _ => exact pp.elim
      | obj _ _ => exact pp.elim
      | amb _ => exact pp.elim
theorem yl_range {K : PySem.W.Frag} {P : Hp → Prop} {G : Hp} {am : List Addr} (lo : Int) (m : Nat) : Yl K L P G am (Itr lo m) ((List.range m).map fun (k : Nat) => .int (lo + k)) := by
  refine ⟨fun i d F' G' am' om' H' hd hP g M => ?_, fun F' G' am' om' H' hP g M => by rw [List.length_map, List.length_range]; exact Nat.le_refl m⟩
  rw [List.getElem?_map] at hd
  cases q : (List.range m)[i]? with
  | none => rw [q] at hd; cases hd
  | some c =>
    rw [q] at hd
    cases hd
    have hi : i < m := by
      have := (List.getElem?_eq_some_iff.mp q).1
      rwa [List.length_range] at this
    have ec : c = i := by
      rw [List.getElem?_range hi] at q
      exact (Option.some.inj q).symm
    subst ec
    refine ⟨hi, fun x H3 hy => ?_⟩
    obtain ⟨rfl, rfl⟩ := hy
    exact ⟨G', Grow.refl, M, .int _⟩
theorem pI_rng1 {P : Hp → Hp → Prop} {pp : Pos} (hg : Gl X "range") (hm : X.mg "range" = none) (ha : PE X a (rdB X.K L T W ea)) (hs : starEach [a] X.env = [(false, eval a X.env)] := by rfl) : PI X tg (.Call (.Name "range" pp) [a] [] pos) (rdI X.K L T W P (.rng1 ea)) :=
  (pi_range1 hg hm (pA1 ha hs) hs).imp fun σ H R ⟨F, G, am, om, sl, M, S, pp⟩ => ⟨F, G, am, om, sl, M, S, PostI.bind pp fun d om1 v H1 G1 am1 g1 M1 r1 p1 => by
    split at p1
    · cases r1.int
      split at p1
      · rename_i hz
        refine ⟨_, rfl, hz.1, hz.2, p1 _ H1 G1 am1 Grow.refl M1 ?_⟩
        have z := yl_range (K := X.K) (L := L) (P := P F) (G := G1) (am := am1) 0 (Int.toNat ‹Int›)
        simpa using z
      · exact p1.elim
    · exact p1.elim⟩
theorem pI_rng2 {P : Hp → Hp → Prop} {pp : Pos} (hg : Gl X "range") (hm : X.mg "range" = none) (ha : PE X a (rdB X.K L T W ea)) (hb : PE X b (rdB X.K L T W eb)) (hs : starEach [a, b] X.env = [(false, eval a X.env), (false, eval b X.env)] := by rfl) (hs2 : starEach [b] X.env = [(false, eval b X.env)] := by rfl) :
    PI X tg (.Call (.Name "range" pp) [a, b] [] pos) (rdI X.K L T W P (.rng2 ea eb)) :=
  (pi_range2 hg hm (pa_cons ha (pA1 hb hs2) (by rw [hs, hs2])) hs hs2).imp fun σ H R ⟨F, G, am, om, sl, M, S, pp⟩ => ⟨F, G, am, om, sl, M, S, PostI.bind pp fun d om1 v H1 G1 am1 g1 M1 r1 p1 => ⟨F, G1, am1, om1, sl, M1, S.grow g1, PostI.bind p1 fun d2 om2 v2 H2 G2 am2 g2 M2 r2 p2 => by
    split at p2
    · cases (r1.up g2).int
      cases r2.int
      split at p2
      · rename_i hz
        exact ⟨_, _, rfl, ⟨hz.1.1, hz.1.2, hz.2.1, hz.2.2⟩, p2 _ H2 G2 am2 Grow.refl M2 (yl_range _ _)⟩
      · exact p2.elim
    · exact p2.elim⟩⟩
/-! ### targets -/
theorem wipe_set {σ : L2.St} {i : Nat} {o : Option V} : ∀ {vs : List Nat}, i ∈ vs → wipe (σ.set i o) vs = wipe σ vs
  | v :: vs, h => by
    show (wipe (σ.set i o) vs).set v none = (wipe σ vs).set v none
    by_cases c : i ∈ vs
    · rw [wipe_set c]
    · have e : i = v := by
        cases h with
        | head => rfl
        | tail _ h => exact absurd h c
      subst e
      have z : ∀ (us : List Nat), i ∉ us → wipe (σ.set i o) us = (wipe σ us).set i o := by
        intro us
        induction us with
        | nil => intro _; rfl
        | cons u us ih =>
          intro hn
          show (wipe (σ.set i o) us).set u none = ((wipe σ us).set u none).set i o
          rw [ih (fun m => hn (List.mem_cons_of_mem _ m)), List.set_comm _ _ (fun q => hn (by rw [q]; exact List.mem_cons_self))]
      rw [z vs c, List.set_set]
structure TgOk (K : PySem.W.Frag) (L : Lk) (g : TG) (tg : Tg) : Prop where
  run : ∀ F G am om H sl σ d x sl' Q, Mem K L F G am om H → SlR K L F G am sl σ → Rep K L G am d x → setT sl tg d = some sl' → (∀ σ', SlR K L F G am sl' σ' → (∀ vs, (∀ i ∈ tgIx tg, i ∈ vs) → wipe σ' vs = wipe σ vs) → Q σ' H) → g x σ H Q
theorem tg_one {K : PySem.W.Frag} {i : Nat} : TgOk K L (gName i) (.one i) := ⟨fun F G am om H sl σ d x sl' Q M S r h k => by
  cases h
  exact k _ (S.set ⟨x, rfl, r⟩) fun vs hv => wipe_set (hv i (List.mem_singleton.mpr rfl))⟩
structure TgsOk (K : PySem.W.Frag) (L : Lk) (g : TGs) (is : List Nat) : Prop where
  run : ∀ F G am om H sl σ ds xs Q, Mem K L F G am om H → SlR K L F G am sl σ → RepL K L G am ds xs → ds.length = is.length → (∀ σ', SlR K L F G am (sets sl is ds) σ' → (∀ vs, (∀ i ∈ is, i ∈ vs) → wipe σ' vs = wipe σ vs) → Q σ' H) → g xs σ H Q
theorem tgs_nil {K : PySem.W.Frag} : TgsOk K L gNil [] := ⟨fun F G am om H sl σ ds xs Q M S r h k => by
  cases r with
  | nil => exact ⟨rfl, k σ S fun _ _ => rfl⟩
  | cons _ _ => cases h⟩
theorem tgs_cons {K : PySem.W.Frag} {i : Nat} {is : List Nat} {g : TGs} (h : TgsOk K L g is) : TgsOk K L (gCons (gName i) g) (i :: is) := ⟨fun F G am om H sl σ ds xs Q M S r hl k => by
  cases r with
  | nil => cases hl
  | @cons d v ds vs hd r =>
    refine ⟨v, vs, rfl, h.run F G am om H (sl.set i (.val d)) _ ds vs Q M (S.set ⟨v, rfl, hd⟩) r (by simpa using hl) fun σ' S' hw => k σ' S' fun us hu => ?_⟩
    rw [hw us (fun j hj => hu j (List.mem_cons_of_mem _ hj)), wipe_set (hu i List.mem_cons_self)]⟩
theorem tg_many {K : PySem.W.Frag} {is : List Nat} {g : TGs} (h : TgsOk K L g is) : TgOk K L (gTup K is.length g) (.many is) := ⟨fun F G am om H sl σ d x sl' Q M S r hs k => by
  cases d with
  | tup ds =>
    simp only [setT] at hs
    split at hs
    · rename_i hl
      cases hs
      cases r with
      | tup ht r =>
        exact ⟨_, _, rfl, SqT.of (M.gH _ _ ht), by rw [← r.length]; exact hl, h.run F G am om H sl σ ds _ Q M S r hl k⟩
    · cases hs
  | _ => cases hs⟩
theorem SlR.monoF {K : PySem.W.Frag} {F F' G : Hp} {am : List Addr} {sl : Sl} {σ : L2.St} (e : Ex F F') (h : SlR K L F G am sl σ) : SlR K L F' G am sl σ := ⟨h.1, fun i c o a b => by
  have z := h.2 i c o a b
  cases c with
  | no => trivial
  | val d => exact z
  | own ds =>
    obtain ⟨a, vs, e1, f, r⟩ := z
    exact ⟨a, vs, e1, e _ _ f, r⟩
  | newo c fs =>
    obtain ⟨a, dx, vs, e1, f, n, r⟩ := z
    exact ⟨a, dx, vs, e1, e _ _ f, n, r⟩
  | exn => exact z⟩
theorem SlR.wipe {K : PySem.W.Frag} {F G : Hp} {am : List Addr} {sl : Sl} {σ : L2.St} (h : SlR K L F G am sl σ) : ∀ vs : List Nat, SlR K L F G am (wipeS sl vs) (L2.wipe σ vs)
  | [] => h
  | v :: vs => (SlR.wipe h vs).set trivial
theorem wipe_get : ∀ (vs : List Nat) (σ : L2.St) (i : Nat), (L2.wipe σ vs)[i]? = if i ∈ vs then (σ[i]?).map (fun _ => none) else σ[i]?
  | [], σ, i => by simp [L2.wipe]
  | v :: vs, σ, i => by
    show ((L2.wipe σ vs).set v none)[i]? = _
    by_cases c : v = i
    · subst c
      rw [if_pos List.mem_cons_self, List.getElem?_set]
      rw [if_pos rfl]
      by_cases h : v < (L2.wipe σ vs).length
      · rw [if_pos h]
        have h2 : v < σ.length := by rwa [wipe_length] at h
        rw [List.getElem?_eq_getElem h2]
        rfl
      · rw [if_neg h]
        have h2 : ¬ v < σ.length := by rwa [wipe_length] at h
        rw [List.getElem?_eq_none (by omega)]
        rfl
    · rw [List.getElem?_set_ne c, wipe_get vs σ i]
      by_cases h : i ∈ vs
      · rw [if_pos h, if_pos (List.mem_cons_of_mem _ h)]
      · rw [if_neg h, if_neg (fun z => by
          cases z with
          | head => exact c rfl
          | tail _ z => exact h z)]
theorem wipe_wipe (vs : List Nat) (σ : L2.St) : L2.wipe (L2.wipe σ vs) vs = L2.wipe σ vs := by
  apply List.ext_getElem?
  intro i
  rw [wipe_get, wipe_get]
  by_cases h : i ∈ vs
  · rw [if_pos h, if_pos h]
    cases σ[i]? <;> rfl
  · rw [if_neg h, if_neg h]
theorem compGo_noexc {ct : Sl → Om → Rs Bool} {el : Sl → Om → Rs D} {t : Tg} {sl : Sl} : ∀ {ds : List D} {om : Om} {c : Nat} {fs : List D} {om' : Om}, compGo ct el t sl ds om ≠ .exc c fs om'
  | [], om, c, fs, om', h => by simp [compGo] at h
  | d :: ds, om, c, fs, om', h => by
    simp only [compGo] at h
    split at h
    · cases h
    · split at h
      · split at h
        · split at h
          · cases h
          · cases h
        · cases h
      · exact compGo_noexc h
      · cases h
/-! ### list comprehensions -/
abbrev W0 : WX := fun _ _ _ _ => False
theorem post_ok {α β : Type} {K : PySem.W.Frag} {R : Hp → List Addr → α → β → Prop} {F G : Hp} {am : List Addr} {a : α} {om' : Om} {r : Rs α} {E : XK} {Q : β → Hp → Prop} (e : r = .ok a om') (h : ∀ b H' G' am', Grow G am G' am' → Mem K L F G' am' om' H' → R G' am' a b → Q b H') : Post K L R F G am r E Q := by
  rw [e]
  exact h
theorem lc_of {g : TG} {tt : TT} {t : Tg} {it cond el : E} (hT : TgOk X.K L g t) (htt : ∀ σ H Q, rdT X.K L T W0 cond σ H Q → tt σ H Q) (σ : L2.St) (H : Hp) (Q : VK) (h : rdF X.K L T W (.comp t it cond el) σ H Q) :
    tLc (rdI X.K L T W Ex it) g tt (rdE X.K L T W0 el) (tgIx t) σ H Q := by
  obtain ⟨F, G, am, om, sl, M, S, pp⟩ := h
  refine ⟨F, G, am, om, sl, M, S, ?_⟩
  simp only [evE] at pp
  cases q : evI T it sl om with
  | stuck => rw [q] at pp; exact pp
  | exc c fs om1 => rw [q] at pp; exact pp
  | ok ds om1 =>
    rw [q, bind_ok] at pp
    intro J H1 G1 am1 g1 M1 Y Da hDa
    split at pp
    · rename_i hlen
      cases q2 : compGo (fun sl om => (evE T cond sl om).bind fun x om => tru x om) (evE T el) t (wipeS sl (tgIx t)) ds om1 with
      | stuck => rw [q2] at pp; exact pp.elim
      | exc c fs om2 => 
        exact absurd q2 compGo_noexc
      | ok tot omf =>
        rw [q2, bind_ok] at pp
        obtain ⟨tot', et, pp⟩ := pp
        cases et
        have hF0 : F Da = none := M1.none_f hDa
        have eF : ∀ o, Ex F (upd F Da o) := fun o => Ex.new hF0
        refine ⟨fun i m H' => m = ds.length - i ∧ i ≤ ds.length ∧ ∃ G' am' om' acc xs ys, Grow G1 am1 G' am' ∧ Mem X.K L (upd F Da (.lst acc)) G' am' om' H' ∧ RepL X.K L G' am' xs acc ∧ acc.length ≤ i ∧
          compGo (fun sl om => (evE T cond sl om).bind fun x om => tru x om) (evE T el) t (wipeS sl (tgIx t)) (ds.drop i) om' = .ok ys omf ∧ xs ++ ys = tot, ⟨ds.length, by omega, by omega, G1, am1, om1, [], [], tot, Grow.refl, M1.newF hDa, .nil, Nat.le_refl _, by rw [List.drop_zero]; exact q2, rfl⟩, ?_⟩
        rintro i m H' ⟨hm, hi', G', am', om', acc, xs, ys, g', M', rx, hacc, hgo, htot⟩
        by_cases hlt : i < ds.length
        · right
          have hd : ds[i]? = some ds[i] := List.getElem?_eq_getElem hlt
          obtain ⟨ygo, yyl⟩ := Y.go i ds[i] _ G' am' om' H' hd (eF _) g' M'
          refine ⟨ygo, _, fun H'' hn => ⟨ds.length - (i + 1), by omega, hn⟩, fun x H3 hy => ?_⟩
          obtain ⟨G3, g3, M3, r3⟩ := yyl x H3 hy
          rw [List.drop_eq_getElem_cons hlt] at hgo
          simp only [compGo] at hgo
          split at hgo
          · cases hgo
          · rename_i sl' hset
            have S0 : SlR X.K L (upd F Da (.lst acc)) G3 am' (wipeS sl (tgIx t)) (L2.wipe σ (tgIx t)) := (((S.monoF (eF _)).grow g1).grow (g'.trans g3)).wipe _
            refine hT.run _ G3 am' om' H3 _ _ ds[i] x sl' _ M3 S0 r3 hset fun σ2 S2 hw => ⟨?_, ?_⟩
            · rw [hw (tgIx t) (fun _ h => h), wipe_wipe]
            · refine htt σ2 H3 _ ⟨_, G3, am', om', sl', M3, S2, ?_⟩
              have eT : ((evE T cond sl' om').bind fun x om => tru x om) = evT T cond sl' om' := rfl
              rw [eT] at hgo
              cases q3 : evT T cond sl' om' with
              | stuck => rw [q3] at hgo; cases hgo
              | exc c fs om3 => rw [q3] at hgo; cases hgo
              | ok bb om3 =>
                rw [q3] at hgo
                intro b' H4 G4 am4 g4 M4 e4
                cases e4
                cases bb with
                | true =>
                  rw [if_pos rfl]
                  dsimp only at hgo
                  cases q4 : evE T el sl' om3 with
                  | stuck => rw [q4] at hgo; cases hgo
                  | exc c fs om4 => rw [q4] at hgo; cases hgo
                  | ok y om4 =>
                    rw [q4] at hgo
                    dsimp only at hgo
                    split at hgo
                    · rename_i ys' om5 q5
                      cases hgo
                      refine ⟨_, G4, am4, om3, sl', M4, S2.grow g4, post_ok q4 fun v H5 G5 am5 g5 M5 r5 => ?_⟩
                      refine ⟨acc, M5.fH _ _ upd_same, sz_lt (by omega), rfl, hlt, G5, am5, om4, acc ++ [v], xs ++ [y], ys', g'.trans (g3.trans (g4.trans g5)), ?_, (rx.up (g3.trans (g4.trans g5))).append (.cons r5 .nil), by rw [List.length_append]; simpa using hacc, q5, by rw [List.append_assoc]; exact htot⟩
                      have z := M5.setF (u := .lst (acc ++ [v])) upd_same
                      rw [upd_upd] at z
                      exact z
                    · cases hgo
                | false =>
                  rw [if_neg (by decide)]
                  dsimp only at hgo
                  exact ⟨rfl, hlt, G4, am4, om3, acc, xs, ys, g'.trans (g3.trans g4), M4, rx.up (g3.trans g4), by omega, hgo, htot⟩
        · left
          have e : i = ds.length := by omega
          subst e
          rw [List.drop_length] at hgo
          simp only [compGo] at hgo
          cases hgo
          rw [List.append_nil] at htot
          subst htot
          exact ⟨Y.stop _ G' am' _ H' (eF _) g' M', pp Da acc H' G' am' (g1.trans g') hF0 M' rx⟩
    · exact pp.elim
theorem comp_lst {t : Tg} {it cond el : E} (sl : Sl) (om : Om) (d : D) (om' : Om) (h : evE T (.comp t it cond el) sl om = .ok d om') : ∃ ds, d = .lst ds := by
  simp only [evE] at h
  cases q : evI T it sl om with
  | stuck => rw [q] at h; cases h
  | exc c fs om1 => rw [q] at h; cases h
  | ok ds om1 =>
    rw [q, bind_ok] at h
    split at h
    · generalize compGo _ _ _ _ _ _ = r at h
      cases r with
      | stuck => cases h
      | exc c fs om2 => cases h
      | ok xs om2 => cases h; exact ⟨_, rfl⟩
    · cases h
theorem lc_ofE {g : TG} {tt : TT} {t : Tg} {it cond el : E} (hT : TgOk X.K L g t) (htt : ∀ σ H Q, rdT X.K L T W0 cond σ H Q → tt σ H Q) (σ : L2.St) (H : Hp) (Q : VK) (h : rdE X.K L T W (.comp t it cond el) σ H Q) :
    tLc (rdI X.K L T W Ex it) g tt (rdE X.K L T W0 el) (tgIx t) σ H Q := lc_of hT htt σ H Q (rdE_F comp_lst h)
theorem pF_comp {ifs : List Expr} {scope : Scope} {own : List (Str × Nat)} {g : TG} {tt : TT} {t : Tg} {it cond el : E} (hc : X.calm = true) (hN : X.N.Nodup) (hi : PI X tg iter (rdI X.K L T W Ex it)) (ok : BlkOk X.N X.env.scope scope own) (ho : own.map (·.2) = tgIx t) (hT : TgOk X.K L g t)
    (htt : ∀ σ H Q, rdT X.K L T W0 cond σ H Q → tt σ H Q)
    (hg : ∀ (s : Shared) (H : Hp) (C : Addr) (cl : List (Str × Addr)) (fp : List Addr), PG (X.blk s H scope (compEnvC scope cl C X.env) fp) tg g)
    (ht : ∀ (s : Shared) (H : Hp) (C : Addr) (cl : List (Str × Addr)) (fp : List Addr), PTs (X.blk s H scope (compEnvC scope cl C X.env) fp) ifs tt)
    (he : ∀ (s : Shared) (H : Hp) (C : Addr) (cl : List (Str × Addr)) (fp : List Addr), PE (X.blk s H scope (compEnvC scope cl C X.env) fp) elt (rdE X.K L T W0 el)) (hs : ∀ x, foldedSetIterable iter X.env x = pure x := by intro _; rfl) :
    PE X (.ListComp elt [⟨tg, iter, ifs, 0⟩] scope pos) (rdF X.K L T W (.comp t it cond el)) :=
  (pe_lc hc hN hi ok hg ht he hs).imp fun σ H Q h => by
    rw [ho]
    exact lc_of hT htt σ H Q h
theorem pE_comp {ifs : List Expr} {scope : Scope} {own : List (Str × Nat)} {g : TG} {tt : TT} {t : Tg} {it cond el : E} (hc : X.calm = true) (hN : X.N.Nodup) (hi : PI X tg iter (rdI X.K L T W Ex it)) (ok : BlkOk X.N X.env.scope scope own) (ho : own.map (·.2) = tgIx t) (hT : TgOk X.K L g t)
    (htt : ∀ σ H Q, rdT X.K L T W0 cond σ H Q → tt σ H Q)
    (hg : ∀ (s : Shared) (H : Hp) (C : Addr) (cl : List (Str × Addr)) (fp : List Addr), PG (X.blk s H scope (compEnvC scope cl C X.env) fp) tg g)
    (ht : ∀ (s : Shared) (H : Hp) (C : Addr) (cl : List (Str × Addr)) (fp : List Addr), PTs (X.blk s H scope (compEnvC scope cl C X.env) fp) ifs tt)
    (he : ∀ (s : Shared) (H : Hp) (C : Addr) (cl : List (Str × Addr)) (fp : List Addr), PE (X.blk s H scope (compEnvC scope cl C X.env) fp) elt (rdE X.K L T W0 el)) (hs : ∀ x, foldedSetIterable iter X.env x = pure x := by intro _; rfl) :
    PE X (.ListComp elt [⟨tg, iter, ifs, 0⟩] scope pos) (rdE X.K L T W (.comp t it cond el)) := pFE (pF_comp hc hN hi ok ho hT htt hg ht he hs) comp_lst
/-- no test -/
theorem tt_yes {K : PySem.W.Frag} (σ : L2.St) (H : Hp) (Q : Bool → Hp → Prop) (h : rdT K L T W0 (.k (.bl true)) σ H Q) : tYes σ H Q := by
  obtain ⟨F, G, am, om, sl, M, S, pp⟩ := h
  exact pp true H G am Grow.refl M rfl
end
end PD

set_option Elab.async false
set_option linter.all false
set_option maxRecDepth 100000
set_option maxHeartbeats 400000
/-! PDJ: statements. -/
namespace PD
open PySem PySem.Spec PyProof.Rows L2
def isOwn : Cell → Bool
  | .own _ => true
  | .newo _ _ => true
  | _ => false
/-- what others hold at a def's entry; the instance that it makes, and its dict -/
structure FB where
  h : Hp
  sf : Option (Addr × Addr)
/-- the state within a def: F0, G0, am0 as they were at its entry -/
structure StR (K : PySem.W.Frag) (L : Lk) (F0 : FB) (G0 : Hp) (am0 : List Addr) (sl : Sl) (om : Om) (σ : L2.St) (H F G : Hp) (am : List Addr) : Prop where
  f0 : Ex F0.h F
  g : Grow G0 am0 G am
  mem : Mem K L F G am om H
  slr : SlR K L F G am sl σ
  own : ∀ (i : Nat) (c : Cell) (a : Addr), sl[i]? = some c → isOwn c = true → σ[i]? = some (some (.ref a)) → F0.h a = none ∧ ∀ (j : Nat) (c' : Cell), j ≠ i → sl[j]? = some c' → isOwn c' = true → σ[j]? ≠ some (some (.ref a))
  slf : ∀ (i : Nat) (c : Nat) (fs : List D), sl[i]? = some (.newo c fs) → ∃ x dx vs, σ[i]? = some (some (.ref x)) ∧ F x = some (.ins (L.ca c) dx ((L.fn c).zip vs)) ∧ F0.sf = some (x, dx)
def StOk (K : PySem.W.Frag) (L : Lk) (F0 : FB) (G0 : Hp) (am0 : List Addr) (sl : Sl) (om : Om) (σ : L2.St) (H : Hp) : Prop := ∃ F G am, StR K L F0 G0 am0 sl om σ H F G am
def OutP (K : PySem.W.Frag) (L : Lk) (F0 : FB) (G0 : Hp) (am0 : List Addr) (W : WX) (D : Ends) : Out → Prop
  | .stuck => False
  | .next sl om => ∀ σ H, StOk K L F0 G0 am0 sl om σ H → D.nx σ H
  | .brk sl om => ∀ σ H, StOk K L F0 G0 am0 sl om σ H → D.bk σ H
  | .cnt sl om => ∀ σ H, StOk K L F0 G0 am0 sl om σ H → D.ct σ H
  | .ret d om => ∀ v H G am, Grow G0 am0 G am → Mem K L F0.h G am om H → Rep K L G am d v → D.rt v H
  | .retF ds om => ∀ p vs H G am, Grow G0 am0 G am → F0.h p = none → Mem K L (upd F0.h p (.lst vs)) G am om H → RepL K L G am ds vs → D.rt (.ref p) H
  | .exc c fs sl om => ∀ cv dd σ H F G am, StR K L F0 G0 am0 sl om σ H F G am → ExcR K L G am c fs cv dd → W cv dd σ H
def rdS (K : PySem.W.Frag) (L : Lk) (T : Tb) (W : WX) (F0 : FB) (G0 : Hp) (am0 : List Addr) (s : S) : TS := fun D σ H => ∃ sl om, StOk K L F0 G0 am0 sl om σ H ∧ OutP K L F0 G0 am0 W D (evS T s sl om)
section
variable {K : PySem.W.Frag} {L : Lk} {F0 : FB} {G0 F G G' H H' : Hp} {am0 am am' : List Addr} {sl : Sl} {om om' : Om} {σ : L2.St}
theorem StR.grow (R : StR K L F0 G0 am0 sl om σ H F G am) (g : Grow G am G' am') (M : Mem K L F G' am' om' H') : StR K L F0 G0 am0 sl om' σ H' F G' am' :=
  ⟨R.f0, R.g.trans g, M, R.slr.grow g, R.own, R.slf⟩
theorem set_own {sl : Sl} {σ : L2.St} {i j : Nat} {c c' : Cell} {o : Option V} {a : Addr} (h1 : (sl.set i c)[j]? = some c') (h2 : (σ.set i o)[j]? = some (some (.ref a))) : (j = i ∧ c' = c ∧ o = some (.ref a)) ∨ (j ≠ i ∧ sl[j]? = some c' ∧ σ[j]? = some (some (.ref a))) := by
  by_cases e : i = j
  · subst e
    left
    rw [List.getElem?_set] at h1 h2
    rw [if_pos rfl] at h1 h2
    split at h1 <;> split at h2 <;> first | (cases h1; done) | (cases h2; done) | (cases h1; cases h2; exact ⟨rfl, rfl, rfl⟩)
  · right
    rw [List.getElem?_set_ne e] at h1 h2
    exact ⟨fun z => e z.symm, h1, h2⟩
/-- a slot gets a value that is not held alone -/
theorem StR.setVal (R : StR K L F0 G0 am0 sl om σ H F G am) {i : Nat} {c : Cell} {o : Option V} (hc : isOwn c = false) (r : CellR K L F G am c o) : StR K L F0 G0 am0 (sl.set i c) om (σ.set i o) H F G am := by
  refine ⟨R.f0, R.g, R.mem, R.slr.set r, fun j c1 a h1 h2 h3 => ?_, fun j c1 fs h1 => ?_⟩
  rotate_left
  · have hj : i ≠ j := fun e => by
      subst e
      rw [List.getElem?_set] at h1
      rw [if_pos rfl] at h1
      split at h1
      · cases h1; cases hc
      · cases h1
    rw [List.getElem?_set_ne hj] at h1
    obtain ⟨x, dx, vs, e1, e2, e3⟩ := R.slf j c1 fs h1
    exact ⟨x, dx, vs, by rw [List.getElem?_set_ne hj]; exact e1, e2, e3⟩
  rcases set_own h1 h3 with ⟨rfl, rfl, _⟩ | ⟨hj, h1', h3'⟩
  · rw [hc] at h2; cases h2
  · obtain ⟨z1, z2⟩ := R.own j c1 a h1' h2 h3'
    refine ⟨z1, fun k c2 hk g1 g2 g3 => ?_⟩
    rcases set_own g1 g3 with ⟨rfl, rfl, _⟩ | ⟨_, g1', g3'⟩
    · rw [hc] at g2; cases g2
    · exact z2 k c2 hk g1' g2 g3'
/-- what an own slot's address is -/
theorem own_addr (S : SlR K L F G am sl σ) {j : Nat} {c : Cell} {a : Addr} (h1 : sl[j]? = some c) (h2 : isOwn c = true) (h3 : σ[j]? = some (some (.ref a))) : ∃ o, F a = some o := by
  have z := S.2 j c _ h1 h3
  cases c with
  | no => cases h2
  | val d => cases h2
  | own ds =>
    obtain ⟨b, vs, e, f, _⟩ := z
    cases e
    exact ⟨_, f⟩
  | newo c fs =>
    obtain ⟨b, dx, vs, e, f, _⟩ := z
    cases e
    exact ⟨_, f⟩
  | exn => cases h2
/-- a slot gets a new thing that it holds alone -/
theorem StR.setNew (R : StR K L F0 G0 am0 sl om σ H F G am) {i : Nat} {c : Cell} {p : Addr} {u : HO} {G' : Hp} {am' : List Addr} {om' : Om} {H' : Hp} (g : Grow G am G' am') (hp : F p = none) (M : Mem K L (upd F p u) G' am' om' H') (r : CellR K L (upd F p u) G' am' c (some (.ref p))) (hnn : ∀ c' fs, c ≠ .newo c' fs) :
    StR K L F0 G0 am0 (sl.set i c) om' (σ.set i (some (.ref p))) H' (upd F p u) G' am' := by
  have eF : Ex F (upd F p u) := Ex.new hp
  refine ⟨R.f0.trans eF, R.g.trans g, M, ((R.slr.monoF eF).grow g).set r, fun j c1 a h1 h2 h3 => ?_, fun j c1 fs h1 => ?_⟩
  rotate_left
  · have hj : i ≠ j := fun e => by
      subst e
      rw [List.getElem?_set] at h1
      rw [if_pos rfl] at h1
      split at h1
      · exact hnn _ _ (Option.some.inj h1)
      · cases h1
    rw [List.getElem?_set_ne hj] at h1
    obtain ⟨x, dx, vs, e1, e2, e3⟩ := R.slf j c1 fs h1
    exact ⟨x, dx, vs, by rw [List.getElem?_set_ne hj]; exact e1, eF _ _ e2, e3⟩
  rcases set_own h1 h3 with ⟨rfl, rfl, e⟩ | ⟨hj, h1', h3'⟩
  · cases e
    refine ⟨?_, fun k c2 hk g1 g2 g3 => ?_⟩
    · cases q : F0.h p with
      | none => rfl
      | some o =>
        rw [R.f0 _ _ q] at hp
        cases hp
    · rcases set_own g1 g3 with ⟨e, _⟩ | ⟨_, g1', g3'⟩
      · exact hk e
      · obtain ⟨o, ho⟩ := own_addr R.slr g1' g2 g3'
        rw [ho] at hp
        cases hp
  · obtain ⟨z1, z2⟩ := R.own j c1 a h1' h2 h3'
    refine ⟨z1, fun k c2 hk g1 g2 g3 => ?_⟩
    rcases set_own g1 g3 with ⟨_, _, e⟩ | ⟨_, g1', g3'⟩
    · cases e
      obtain ⟨o, ho⟩ := own_addr R.slr h1' h2 h3'
      rw [ho] at hp
      cases hp
    · exact z2 k c2 hk g1' g2 g3'
/-- what a slot holds alone is changed -/
theorem StR.setUpd (R : StR K L F0 G0 am0 sl om σ H F G am) {i : Nat} {c c0 : Cell} {p : Addr} {u : HO} (h0 : sl[i]? = some c0) (ho : isOwn c0 = true) (hσ : σ[i]? = some (some (.ref p))) (r : CellR K L (upd F p u) G am c (some (.ref p))) (hsf : ∀ c' fs, c = .newo c' fs → ∃ dx vs, u = .ins (L.ca c') dx ((L.fn c').zip vs) ∧ F0.sf = some (p, dx)) :
    StR K L F0 G0 am0 (sl.set i c) om σ (upd H p u) (upd F p u) G am := by
  obtain ⟨z1, z2⟩ := R.own i c0 p h0 ho hσ
  obtain ⟨o, hF⟩ := own_addr R.slr h0 ho hσ
  have hne : ∀ j b c1, j ≠ i → sl[j]? = some c1 → isOwn c1 = true → σ[j]? = some (some (.ref b)) → b ≠ p := fun j b c1 hj h1 h2 h3 e => z2 j c1 hj h1 h2 (e ▸ h3)
  have hs : (σ.set i (some (.ref p))) = σ := by
    apply List.ext_getElem?
    intro k
    rw [List.getElem?_set]
    split
    · rename_i e
      subst e
      split
      · exact hσ.symm
      · rename_i hl
        exact (List.getElem?_eq_none (by omega)).symm
    · rfl
  refine ⟨fun a u' e => ?_, R.g, R.mem.setF hF, ?_, fun j c1 a h1 h2 h3 => ?_, fun j c1 fs h1 => ?_⟩
  rotate_right
  · by_cases e : i = j
    · subst e
      rw [List.getElem?_set] at h1
      rw [if_pos rfl] at h1
      split at h1
      · obtain ⟨dx, vs, e1, e2⟩ := hsf c1 fs (Option.some.inj h1)
        exact ⟨p, dx, vs, hσ, by rw [upd_same, e1], e2⟩
      · cases h1
    · rw [List.getElem?_set_ne e] at h1
      obtain ⟨x, dx, vs, e1, e2, e3⟩ := R.slf j c1 fs h1
      exact ⟨x, dx, vs, e1, by rw [upd_ne (hne j x _ (fun q => e q.symm) h1 rfl e1)]; exact e2, e3⟩
  · rw [upd_ne (fun q => by rw [q, z1] at e; cases e)]
    exact R.f0 _ _ e
  · refine ⟨by rw [List.length_set]; exact R.slr.1, fun j c1 o1 h1 h2 => ?_⟩
    by_cases e : i = j
    · subst e
      rw [List.getElem?_set] at h1
      rw [if_pos rfl] at h1
      split at h1
      · cases h1
        rw [hσ] at h2
        cases h2
        exact r
      · cases h1
    · rw [List.getElem?_set_ne e] at h1
      have z := R.slr.2 j c1 o1 h1 h2
      cases c1 with
      | no => trivial
      | val d => exact z
      | own ds =>
        obtain ⟨b, vs, rfl, f, rr⟩ := z
        exact ⟨b, vs, rfl, by rw [upd_ne (hne j b _ (fun q => e q.symm) h1 rfl h2)]; exact f, rr⟩
      | newo c fs =>
        obtain ⟨b, dx, vs, rfl, f, nn, rr⟩ := z
        exact ⟨b, dx, vs, rfl, by rw [upd_ne (hne j b _ (fun q => e q.symm) h1 rfl h2)]; exact f, nn, rr⟩
      | exn => exact z
  · rw [← hs] at h3
    rcases set_own h1 h3 with ⟨rfl, rfl, e⟩ | ⟨hj, h1', h3'⟩
    · cases e
      refine ⟨z1, fun k c2 hk g1 g2 g3 => ?_⟩
      rw [List.getElem?_set_ne (fun q => hk q.symm)] at g1
      exact z2 k c2 hk g1 g2 g3
    · obtain ⟨y1, y2⟩ := R.own j c1 a h1' h2 h3'
      refine ⟨y1, fun k c2 hk g1 g2 g3 => ?_⟩
      rw [← hs] at g3
      rcases set_own g1 g3 with ⟨rfl, rfl, e⟩ | ⟨_, g1', g3'⟩
      · cases e
        exact hne j _ c1 hj h1' h2 h3' rfl
      · exact y2 k c2 hk g1' g2 g3'
/-- the store is changed alone -/
theorem StR.setMem (R : StR K L F0 G0 am0 sl om σ H F G am) (M : Mem K L F G am om' H') : StR K L F0 G0 am0 sl om' σ H' F G am := ⟨R.f0, R.g, M, R.slr, R.own, R.slf⟩
/-- what others hold, fewer of it -/
theorem Mem.less {F1 : Hp} (M : Mem K L F G am om H) (e : Ex F1 F) : Mem K L F1 G am om H := ⟨M.gH, fun a o h => M.fH a o (e a o h), fun a o h => M.fg a o (e a o h), M.len, M.obs, M.nd, M.ag, fun a h => by
  cases q : F1 a with
  | none => rfl
  | some o =>
    have z := M.af a h
    rw [e _ _ q] at z
    cases z⟩
/-- a slot's list is given away for good -/
theorem StR.frz (R : StR K L F0 G0 am0 sl om σ H F G am) {i : Nat} {ds : List D} (h0 : sl[i]? = some (.own ds)) : StOk K L F0 G0 am0 (sl.set i (.val (.lst ds))) om σ H := by
  obtain ⟨o, ho, p, vs, rfl, hF, r⟩ := R.slr.at h0
  obtain ⟨z1, z2⟩ := R.own i _ p h0 rfl ho
  have hG : G p = none := R.mem.fg _ _ hF
  have hs : σ.set i (some (.ref p)) = σ := by
    apply List.ext_getElem?
    intro k
    rw [List.getElem?_set]
    split
    · rename_i e
      subst e
      split
      · exact ho.symm
      · rename_i hl
        exact (List.getElem?_eq_none (by omega)).symm
    · rfl
  have gG : Grow G am (upd G p (.lst vs)) am := Grow.of hG
  refine ⟨fun a => if a = p then none else F a, upd G p (.lst vs), am, fun a u e => ?_, R.g.trans gG, R.mem.freeze hF (fun a u e => ?_), ⟨by rw [List.length_set]; exact R.slr.1, fun j c o h1 h2 => ?_⟩, fun j c a h1 h2 h3 => ?_, fun j c fs h1 => ?_⟩
  rotate_right
  · by_cases e : i = j
    · subst e
      rw [List.getElem?_set] at h1
      rw [if_pos rfl] at h1
      split at h1
      · cases h1
      · cases h1
    · rw [List.getElem?_set_ne e] at h1
      obtain ⟨x, dx, vs', e1, e2, e3⟩ := R.slf j c fs h1
      have hx : x ≠ p := fun q => z2 j _ (fun q => e q.symm) h1 rfl (q ▸ e1)
      exact ⟨x, dx, vs', e1, by show (if x = p then none else F x) = _; rw [if_neg hx]; exact e2, e3⟩
  · have : a ≠ p := fun q => by rw [q, z1] at e; cases e
    rw [if_neg this]
    exact R.f0 _ _ e
  · split at e
    · cases e
    · exact ⟨e, by assumption⟩
  · by_cases e : i = j
    · subst e
      rw [List.getElem?_set] at h1
      rw [if_pos rfl] at h1
      split at h1
      · cases h1
        rw [ho] at h2
        cases h2
        exact ⟨_, rfl, .lst upd_same (r.up gG)⟩
      · cases h1
    · rw [List.getElem?_set_ne e] at h1
      have z := (R.slr.2 j c o h1 h2).grow gG
      cases c with
      | no => trivial
      | val d => exact z
      | own ds =>
        obtain ⟨b, vs, rfl, f, rr⟩ := z
        have : b ≠ p := fun q => z2 j _ (fun q => e q.symm) h1 rfl (q ▸ h2)
        exact ⟨b, vs, rfl, by show (if b = p then none else F b) = _; rw [if_neg this]; exact f, rr⟩
      | newo c fs =>
        obtain ⟨b, dx, vs, rfl, f, nn, rr⟩ := z
        have : b ≠ p := fun q => z2 j _ (fun q => e q.symm) h1 rfl (q ▸ h2)
        exact ⟨b, dx, vs, rfl, by show (if b = p then none else F b) = _; rw [if_neg this]; exact f, nn, rr⟩
      | exn => exact z
  · rw [← hs] at h3
    rcases set_own h1 h3 with ⟨rfl, rfl, e⟩ | ⟨hj, h1', h3'⟩
    · cases h2
    · obtain ⟨y1, y2⟩ := R.own j c a h1' h2 h3'
      refine ⟨y1, fun k c2 hk g1 g2 g3 => ?_⟩
      rw [← hs] at g3
      rcases set_own g1 g3 with ⟨rfl, rfl, e⟩ | ⟨_, g1', g3'⟩
      · cases g2
      · exact y2 k c2 hk g1' g2 g3'
/-- from an expression's end to a statement's -/
theorem out_post {α β : Type} {Rr : Hp → List Addr → α → β → Prop} {W : WX} {D : Ends} {r : Rs α} {f : α → Om → Out} (R : StR K L F0 G0 am0 sl om σ H F G am) (h : OutP K L F0 G0 am0 W D (r.out sl f)) {Q : β → Hp → Prop}
    (k : ∀ a om1 b H1 G1 am1, Grow G am G1 am1 → StR K L F0 G0 am0 sl om1 σ H1 F G1 am1 → Rr G1 am1 a b → OutP K L F0 G0 am0 W D (f a om1) → Q b H1) : Post K L Rr F G am r (fun cv dd H => W cv dd σ H) Q := by
  cases r with
  | stuck => exact h
  | ok a om1 => exact fun b H1 G1 am1 g M rr => k a om1 b H1 G1 am1 g (R.grow g M) rr h
  | exc c fs om1 => exact fun cv dd H1 G1 am1 g M er => h cv dd σ H1 F G1 am1 (R.grow g M) er
theorem out_postF {W : WX} {Dn : Ends} {r : Rs D} {f : D → Om → Out} (R : StR K L F0 G0 am0 sl om σ H F G am) (h : OutP K L F0 G0 am0 W Dn (r.out sl f)) {Q : VK}
    (hs : ∀ d om1, (∀ ds, d ≠ .lst ds) → f d om1 = .stuck)
    (k : ∀ ds om1 p vs H1 G1 am1, Grow G am G1 am1 → F p = none → Mem K L (upd F p (.lst vs)) G1 am1 om1 H1 → RepL K L G1 am1 ds vs → OutP K L F0 G0 am0 W Dn (f (.lst ds) om1) → Q (.ref p) H1) : PostF K L F G am r (fun cv dd H => W cv dd σ H) Q := by
  cases r with
  | stuck => exact h
  | ok d om1 =>
    by_cases e : ∃ ds, d = .lst ds
    · obtain ⟨ds, rfl⟩ := e
      exact ⟨ds, rfl, fun p vs H1 G1 am1 g hp M rr => k ds om1 p vs H1 G1 am1 g hp M rr h⟩
    · have z := hs d om1 fun ds q => e ⟨ds, q⟩
      change OutP K L F0 G0 am0 W Dn (f d om1) at h
      rw [z] at h
      exact h.elim
  | exc c fs om1 => exact fun cv dd H1 G1 am1 g M er => h cv dd σ H1 F G1 am1 (R.grow g M) er
end
end PD

set_option Elab.async false
set_option linter.all false
set_option maxRecDepth 100000
set_option maxHeartbeats 400000
/-! PDK: the statements' rules. -/
namespace PD
open PySem PySem.Spec PyProof.Rows L2
/-- a new list that was held alone goes into the store -/
theorem Mem.toA {K : PySem.W.Frag} {L : Lk} {F G H : Hp} {am : List Addr} {om : Om} {p : Addr} {u : HO} (M : Mem K L (upd F p u) G am om H) (hf : F p = none) {o' : Ob} (r : ObR K L G (am ++ [p]) H o' p) : Mem K L F G (am ++ [p]) (om ++ [o']) H := by
  have hg := M.fg _ _ upd_same
  have ha := M.inF upd_same
  have eF : Ex F (upd F p u) := Ex.new hf
  refine ⟨M.gH, fun a o e => M.fH a o (eF a o e), fun a o e => M.fg a o (eF a o e), by rw [List.length_append, List.length_append, M.len]; rfl, fun j a o h1 h2 => ?_, ?_, fun a hm => ?_, fun a hm => ?_⟩
  · by_cases c : j < am.length
    · rw [List.getElem?_append_left c] at h1
      rw [List.getElem?_append_left (by rw [← M.len]; exact c)] at h2
      exact (M.obs j a o h1 h2).grow ⟨Ex.refl, [p], rfl⟩ fun u e => e
    · rw [List.getElem?_append_right (by omega)] at h1
      rw [List.getElem?_append_right (by rw [← M.len]; omega), ← M.len] at h2
      have hj : j - am.length = 0 := by
        cases q : j - am.length with
        | zero => rfl
        | succ m =>
          rw [q] at h1
          simp at h1
      rw [hj] at h1 h2
      simp at h1 h2
      subst h1; subst h2
      exact r
  · rw [List.nodup_append]
    refine ⟨M.nd, by simp, fun a h1 b h2 => ?_⟩
    simp at h2
    subst h2
    exact fun c => ha (by rw [← c]; exact h1)
  · rw [List.mem_append] at hm
    rcases hm with hm | hm
    · exact M.ag _ hm
    · simp at hm
      subst hm
      exact hg
  · rw [List.mem_append] at hm
    rcases hm with hm | hm
    · have z := M.af _ hm
      cases q : F a with
      | none => rfl
      | some o =>
        rw [eF _ _ q] at z
        cases z
    · simp at hm
      subst hm
      exact hf
section
variable {K : PySem.W.Frag} {L : Lk} {W : WX} {F0 : FB} {G0 G1 : Hp} {am0 am1 : List Addr} {Dn : Ends} {o : Out} {sl : Sl} {om : Om} {σ : L2.St} {H : Hp}
theorem StR.base {F G : Hp} {am : List Addr} (g : Grow G0 am0 G1 am1) (h : StR K L F0 G1 am1 sl om σ H F G am) : StR K L F0 G0 am0 sl om σ H F G am := ⟨h.f0, g.trans h.g, h.mem, h.slr, h.own, h.slf⟩
theorem StOk.base (g : Grow G0 am0 G1 am1) (h : StOk K L F0 G1 am1 sl om σ H) : StOk K L F0 G0 am0 sl om σ H := by
  obtain ⟨F, G, am, h⟩ := h
  exact ⟨F, G, am, h.base g⟩
theorem OutP.base (g : Grow G0 am0 G1 am1) (h : OutP K L F0 G0 am0 W Dn o) : OutP K L F0 G1 am1 W Dn o := by
  cases o with
  | stuck => exact h
  | next sl om => exact fun σ H s => h σ H (s.base g)
  | brk sl om => exact fun σ H s => h σ H (s.base g)
  | cnt sl om => exact fun σ H s => h σ H (s.base g)
  | ret d om => exact fun v H G am gg => h v H G am (g.trans gg)
  | retF ds om => exact fun p vs H G am gg => h p vs H G am (g.trans gg)
  | exc c fs sl om => exact fun cv dd σ H F G am s => h cv dd σ H F G am (s.base g)
end
/-- a statement, a block: as evS says, whatever the entry -/
def QS (X : Cx) (L : Lk) (T : Tb) (W : WX) (st : Stmt) (s : S) : Prop := ∀ F0 G0 am0, PS X st (rdS X.K L T W F0 G0 am0 s)
def QSs (X : Cx) (L : Lk) (T : Tb) (W : WX) (sts : List Stmt) (s : S) : Prop := ∀ F0 G0 am0, PSs X sts (rdS X.K L T W F0 G0 am0 s)
section
variable {X : Cx} {L : Lk} {p : Prog} {fi : Nat → FI} {n wf : Nat} {W : WX} {T : Tb} {st : Stmt} {sts : List Stmt} {s s' : S} {i j : Nat} {ee ea eb ex : E} {e a b o ix : Expr} {pos apos cpos : Pos}
theorem qs_nil : QSs X L T W [] .skip := fun F0 G0 am0 => pss_nil.imp fun D σ H ⟨sl, om, k, o⟩ => o σ H k
theorem qs_cons (h1 : QS X L T W st s) (h2 : QSs X L T W sts s') : QSs X L T W (st :: sts) (.seq s s') := fun F0 G0 am0 => (pss_cons (h1 F0 G0 am0) (h2 F0 G0 am0)).imp fun D σ H ⟨sl, om, k, o⟩ => ⟨sl, om, k, by
  have e : evS T (.seq s s') sl om = match evS T s sl om with
    | .next sl om => evS T s' sl om
    | o => o := rfl
  rw [e] at o
  cases q : evS T s sl om with
  | stuck => rw [q] at o; exact o
  | next sl' om' => rw [q] at o; exact fun σ' H' k' => ⟨sl', om', k', o⟩
  | brk sl' om' => rw [q] at o; exact o
  | cnt sl' om' => rw [q] at o; exact o
  | ret d om' => rw [q] at o; exact o
  | retF d om' => rw [q] at o; exact o
  | exc c fs sl' om' => rw [q] at o; exact o⟩
theorem qs_one (h1 : QS X L T W st s) : QSs X L T W [st] s := fun F0 G0 am0 => pss_one (h1 F0 G0 am0)
/-- nobody may change the list at i from here on -/
theorem qs_fz (h : QSs X L T W sts s) : QSs X L T W sts (.seq (.fz i) s) := fun F0 G0 am0 => (h F0 G0 am0).imp fun D σ H ⟨sl, om, ⟨F, G, am, R⟩, o⟩ => by
  have e : evS T (.seq (.fz i) s) sl om = match evS T (.fz i) sl om with
    | .next sl om => evS T s sl om
    | o => o := rfl
  rw [e] at o
  simp only [evS] at o
  cases q : sl[i]? with
  | none => rw [q] at o; exact ⟨sl, om, ⟨F, G, am, R⟩, o⟩
  | some c =>
    cases c with
    | own ds => rw [q] at o; exact ⟨_, om, R.frz q, o⟩
    | no => rw [q] at o; exact ⟨sl, om, ⟨F, G, am, R⟩, o⟩
    | val d => rw [q] at o; exact ⟨sl, om, ⟨F, G, am, R⟩, o⟩
    | newo c fs => rw [q] at o; exact ⟨sl, om, ⟨F, G, am, R⟩, o⟩
    | exn => rw [q] at o; exact ⟨sl, om, ⟨F, G, am, R⟩, o⟩
theorem q_pass : QS X L T W (.Pass pos) .skip := fun F0 G0 am0 => ps_pass.imp fun D σ H ⟨sl, om, k, o⟩ => o σ H k
theorem q_brk : QS X L T W (.Break pos) .brk := fun F0 G0 am0 => ps_break.imp fun D σ H ⟨sl, om, k, o⟩ => o σ H k
theorem q_cnt : QS X L T W (.Continue pos) .cnt := fun F0 G0 am0 => ps_continue.imp fun D σ H ⟨sl, om, k, o⟩ => o σ H k
theorem q_never : QS X L T W st .never := fun F0 G0 am0 => ps_never.imp fun D σ H ⟨sl, om, k, o⟩ => o
theorem q_doc {x : Str} {k : Nat} : QS X L T W (.Expr (.Constant (.str x) k pos) apos) .skip := fun F0 G0 am0 => ps_doc.imp fun D σ H ⟨sl, om, k, o⟩ => o σ H k
theorem q_drop (h : PE X e (rdE X.K L T W ee)) (hs : swapsWith e none pos.line X.env = pure false := by rfl) : QS X L T W (.Expr e pos) (.drop ee) := fun F0 G0 am0 => (ps_expr h hs).imp fun D σ H ⟨sl, om, ⟨F, G, am, R⟩, o⟩ =>
  ⟨F, G, am, om, sl, R.mem, R.slr, out_post R o fun d om1 v H1 G1 am1 g R1 r1 o1 => o1 σ H1 ⟨F, G1, am1, R1⟩⟩
theorem q_ret (h : PE X e (rdE X.K L T W ee)) : QS X L T W (.Return (some e) pos) (.ret ee) := fun F0 G0 am0 => (ps_ret h).imp fun D σ H ⟨sl, om, ⟨F, G, am, R⟩, o⟩ =>
  ⟨F, G, am, om, sl, R.mem, R.slr, out_post R o fun d om1 v H1 G1 am1 g R1 r1 o1 => o1 v H1 G1 am1 R1.g (R1.mem.less R1.f0) r1⟩
theorem q_retN : QS X L T W (.Return none pos) .retN := fun F0 G0 am0 => ps_retN.imp fun D σ H ⟨sl, om, ⟨F, G, am, R⟩, o⟩ => o .non H G am R.g (R.mem.less R.f0) .non
theorem upd_ex {F0 F : Hp} {p : Addr} {o : HO} (e : Ex F0 F) : Ex (upd F0 p o) (upd F p o) := fun a u h => by
  by_cases c : a = p
  · subst c
    rw [upd_same] at h ⊢
    exact h
  · rw [upd_ne c] at h ⊢
    exact e _ _ h
theorem ex_none {F0 F : Hp} {p : Addr} (e : Ex F0 F) (h : F p = none) : F0 p = none := by
  cases q : F0 p with
  | none => rfl
  | some o =>
    rw [e _ _ q] at h
    cases h
theorem q_retF (h : PE X e (rdF X.K L T W ee)) : QS X L T W (.Return (some e) pos) (.retF ee) := fun F0 G0 am0 => (ps_ret h).imp fun D σ H ⟨sl, om, ⟨F, G, am, R⟩, o⟩ =>
  ⟨F, G, am, om, sl, R.mem, R.slr, out_postF R o (fun d om1 hd => by cases d <;> first | rfl | exact absurd rfl (hd _)) fun ds om1 q vs H1 G1 am1 g hp M rr o1 => o1 q vs H1 G1 am1 (R.g.trans g) (ex_none R.f0 hp) (M.less (upd_ex R.f0)) rr⟩
/-- return x, x a list that its slot holds alone -/
theorem q_retO {x : Str} (hN : X.N[i]? = some x) (hv : Vis X.env.scope x) (hd : (x == ("__debug__" : Str)) = false := by decide) (hcd : (x == ("__classdict__" : Str)) = false := by decide) : QS X L T W (.Return (some (.Name x apos)) pos) (.retO i) := fun F0 G0 am0 =>
  (ps_ret (pe_var hN hv hd hcd)).imp fun D σ H ⟨sl, om, ⟨F, G, am, R⟩, o⟩ => by
    simp only [evS] at o
    split at o
    · rename_i ds h0
      obtain ⟨ov, ho, q, vs, rfl, hF, r⟩ := R.slr.at h0
      obtain ⟨z1, _⟩ := R.own i _ q h0 rfl ho
      refine ⟨_, ho, o q vs H G am R.g z1 (R.mem.less fun a u e => ?_) r⟩
      by_cases c : a = q
      · subst c
        rw [upd_same] at e
        rw [← e]
        exact hF
      · rw [upd_ne c] at e
        exact R.f0 _ _ e
    · exact o.elim
/-! ### stores to names -/
theorem q_set (h : PS X st (tAsg (rdE X.K L T W ee) (gName i))) : QS X L T W st (.set i ee) := fun F0 G0 am0 => h.imp fun D σ H ⟨sl, om, ⟨F, G, am, R⟩, o⟩ =>
  ⟨F, G, am, om, sl, R.mem, R.slr, out_post R o fun d om1 v H1 G1 am1 g R1 r1 o1 => o1 _ H1 ⟨F, G1, am1, R1.setVal rfl ⟨v, rfl, r1⟩⟩⟩
theorem q_setO (h : PS X st (tAsg (rdF X.K L T W ee) (gName i))) : QS X L T W st (.setO i ee) := fun F0 G0 am0 => h.imp fun D σ H ⟨sl, om, ⟨F, G, am, R⟩, o⟩ =>
  ⟨F, G, am, om, sl, R.mem, R.slr, out_postF R o (fun d om1 hd => by cases d <;> first | rfl | exact absurd rfl (hd _)) fun ds om1 q vs H1 G1 am1 g hp M rr o1 => o1 _ H1 ⟨_, G1, am1, R.setNew g hp M ⟨q, vs, rfl, upd_same, rr⟩ (fun _ _ e => by cases e)⟩⟩
theorem q_setA (h : PS X st (tAsg (rdF X.K L T W ee) (gName i))) : QS X L T W st (.setA i ee) := fun F0 G0 am0 => h.imp fun D σ H ⟨sl, om, ⟨F, G, am, R⟩, o⟩ =>
  ⟨F, G, am, om, sl, R.mem, R.slr, out_postF R o (fun d om1 hd => by cases d <;> first | rfl | exact absurd rfl (hd _)) fun ds om1 q vs H1 G1 am1 g hp M rr o1 => by
    have gA : Grow G1 am1 G1 (am1 ++ [q]) := ⟨Ex.refl, [q], rfl⟩
    have M2 : Mem X.K L F G1 (am1 ++ [q]) (om1 ++ [.pl ds]) H1 := M.toA hp ⟨vs, M.fH _ _ upd_same, rr.up gA⟩
    have hk : (am1 ++ [q])[om1.length]? = some q := by
      rw [← M.len, List.getElem?_append_right (Nat.le_refl _), Nat.sub_self]
      rfl
    exact o1 _ H1 ⟨F, G1, am1 ++ [q], (R.grow (g.trans gA) M2).setVal rfl ⟨_, rfl, .amb hk⟩⟩⟩
/-! ### targets, by the state -/
structure TgS (K : PySem.W.Frag) (L : Lk) (g : TG) (tg : Tg) : Prop where
  run : ∀ F0 G0 am0 F G am om H sl σ d x sl' Q, StR K L F0 G0 am0 sl om σ H F G am → Rep K L G am d x → setT sl tg d = some sl' → (∀ σ', StR K L F0 G0 am0 sl' om σ' H F G am → Q σ' H) → g x σ H Q
theorem tgS_one {K : PySem.W.Frag} {i : Nat} : TgS K L (gName i) (.one i) := ⟨fun F0 G0 am0 F G am om H sl σ d x sl' Q R r h k => by
  cases h
  exact k _ (R.setVal rfl ⟨x, rfl, r⟩)⟩
structure TgsS (K : PySem.W.Frag) (L : Lk) (g : TGs) (is : List Nat) : Prop where
  run : ∀ F0 G0 am0 F G am om H sl σ ds xs Q, StR K L F0 G0 am0 sl om σ H F G am → RepL K L G am ds xs → ds.length = is.length → (∀ σ', StR K L F0 G0 am0 (sets sl is ds) om σ' H F G am → Q σ' H) → g xs σ H Q
theorem tgsS_nil {K : PySem.W.Frag} : TgsS K L gNil [] := ⟨fun F0 G0 am0 F G am om H sl σ ds xs Q R r h k => by
  cases r with
  | nil => exact ⟨rfl, k σ R⟩
  | cons _ _ => cases h⟩
theorem tgsS_cons {K : PySem.W.Frag} {i : Nat} {is : List Nat} {g : TGs} (h : TgsS K L g is) : TgsS K L (gCons (gName i) g) (i :: is) := ⟨fun F0 G0 am0 F G am om H sl σ ds xs Q R r hl k => by
  cases r with
  | nil => cases hl
  | @cons d v ds vs hd r => exact ⟨v, vs, rfl, h.run F0 G0 am0 F G am om H (sl.set i (.val d)) _ ds vs Q (R.setVal rfl ⟨v, rfl, hd⟩) r (by simpa using hl) fun σ' S' => k σ' S'⟩⟩
theorem tgS_many {K : PySem.W.Frag} {is : List Nat} {g : TGs} (h : TgsS K L g is) : TgS K L (gTup K is.length g) (.many is) := ⟨fun F0 G0 am0 F G am om H sl σ d x sl' Q R r hs k => by
  cases d with
  | tup ds =>
    simp only [setT] at hs
    split at hs
    · rename_i hl
      cases hs
      cases r with
      | tup ht r =>
        exact ⟨_, _, rfl, SqT.of (R.mem.gH _ _ ht), by rw [← r.length]; exact hl, h.run F0 G0 am0 F G am om H sl σ ds _ Q R r hl k⟩
    · cases hs
  | _ => cases hs⟩
theorem q_setT {is : List Nat} {g : TG} (hT : TgS X.K L g (.many is)) (h : PS X st (tAsg (rdE X.K L T W ee) g)) : QS X L T W st (.setT is ee) := fun F0 G0 am0 => h.imp fun D σ H ⟨sl, om, ⟨F, G, am, R⟩, o⟩ =>
  ⟨F, G, am, om, sl, R.mem, R.slr, out_post R o fun d om1 v H1 G1 am1 g R1 r1 o1 => by
    split at o1
    · rename_i sl' hs
      exact hT.run F0 G0 am0 F G1 am1 om1 H1 sl σ d v sl' _ R1 r1 hs fun σ' R2 => o1 σ' H1 ⟨F, G1, am1, R2⟩
    · exact o1.elim⟩
theorem q_par (h : PS X st (tPar i j (tCons (rdE X.K L T W ea) (tCons (rdE X.K L T W eb) tNil)))) : QS X L T W st (.par i j ea eb) := fun F0 G0 am0 => h.imp fun D σ H ⟨sl, om, ⟨F, G, am, R⟩, o⟩ =>
  ⟨F, G, am, om, sl, R.mem, R.slr, out_post R o fun d om1 v H1 G1 am1 g R1 r1 o1 => ⟨F, G1, am1, om1, sl, R1.mem, R1.slr, out_post R1 o1 fun d2 om2 v2 H2 G2 am2 g2 R2 r2 o2 =>
    ⟨v, v2, rfl, o2 _ H2 ⟨F, G2, am2, (R2.setVal (c := .val d) rfl ⟨v, rfl, r1.up g2⟩).setVal (c := .val d2) rfl ⟨v2, rfl, r2⟩⟩⟩⟩⟩
theorem q_aug {x : Str} {o : Bop} (ho : o = .add ∨ o = .sub) (h : PS X st (tAug i (rdE X.K L T W ee) (ipI (match o with | .add => fun i j => i + j | _ => fun i j => i - j)))) : QS X L T W st (.aug i o ee) := fun F0 G0 am0 => h.imp fun D σ H ⟨sl, om, ⟨F, G, am, R⟩, oo⟩ => by
  simp only [evS] at oo
  split at oo
  · rename_i m h0
    obtain ⟨ov, hv, v, rfl, rv⟩ := R.slr.at h0
    cases rv
    refine ⟨_, hv, F, G, am, om, sl, R.mem, R.slr, out_post R oo fun d om1 v H1 G1 am1 g R1 r1 o1 => ?_⟩
    rcases ho with rfl | rfl
    · cases d with
      | int k =>
        cases r1
        exact ⟨m, k, rfl, rfl, o1 _ H1 ⟨F, G1, am1, R1.setVal rfl ⟨_, rfl, .int _⟩⟩⟩
      | _ => exact o1.elim
    · cases d with
      | int k =>
        cases r1
        exact ⟨m, k, rfl, rfl, o1 _ H1 ⟨F, G1, am1, R1.setVal rfl ⟨_, rfl, .int _⟩⟩⟩
      | _ => exact o1.elim
  · exact oo.elim
/-! ### lists that grow, items stored -/
theorem q_app {x : Str} {apos2 : Pos} (hN : X.N[i]? = some x) (hv : Vis X.env.scope x) (he : PE X e (rdE X.K L T W ee)) (hd : (x == ("__debug__" : Str)) = false := by decide) (hcd : (x == ("__classdict__" : Str)) = false := by decide)
    (hp : ∀ {to : TE} {t : TA}, PE X (.Name x apos) to → PA X [e] t → PS X (.Expr (.Call (.Attribute (.Name x apos) "append" apos2) [e] [] cpos) pos) (tDrop (tBM X.K "list" rAppend to t))) (hs : starEach (e :: []) X.env = (false, eval e X.env) :: starEach [] X.env := by rfl) : QS X L T W (.Expr (.Call (.Attribute (.Name x apos) "append" apos2) [e] [] cpos) pos) (.app i ee) := fun F0 G0 am0 =>
  (hp (pe_var hN hv hd hcd) (pa_cons he pa_nil hs)).imp fun D σ H ⟨sl, om, ⟨F, G, am, R⟩, o⟩ => by
    simp only [evS] at o
    split at o
    · rename_i ds h0
      obtain ⟨ov, ho, q, vs, rfl, hF, r⟩ := R.slr.at h0
      refine ⟨_, ho, .inl ⟨rfl, vs, SqL.of (R.mem.fH _ _ hF)⟩, F, G, am, om, sl, R.mem, R.slr, out_post R o fun d om1 v H1 G1 am1 g R1 r1 o1 => ?_⟩
      split at o1
      · rename_i hlt
        exact ⟨q, vs, v, rfl, rfl, R1.mem.fH _ _ hF, sz_lt (by rw [← r.length]; exact hlt), o1 σ _ ⟨_, G1, am1, R1.setUpd h0 rfl ho ⟨q, vs ++ [v], rfl, upd_same, (r.up g).append (.cons r1 .nil)⟩ (fun _ _ e => by cases e)⟩⟩
      · exact o1.elim
    · exact o.elim
theorem q_appA {x : Str} {apos2 : Pos} (hN : X.N[i]? = some x) (hv : Vis X.env.scope x) (he : PE X e (rdE X.K L T W ee)) (hd : (x == ("__debug__" : Str)) = false := by decide) (hcd : (x == ("__classdict__" : Str)) = false := by decide)
    (hp : ∀ {to : TE} {t : TA}, PE X (.Name x apos) to → PA X [e] t → PS X (.Expr (.Call (.Attribute (.Name x apos) "append" apos2) [e] [] cpos) pos) (tDrop (tBM X.K "list" rAppend to t))) (hs : starEach (e :: []) X.env = (false, eval e X.env) :: starEach [] X.env := by rfl) : QS X L T W (.Expr (.Call (.Attribute (.Name x apos) "append" apos2) [e] [] cpos) pos) (.appA i ee) := fun F0 G0 am0 =>
  (hp (pe_var hN hv hd hcd) (pa_cons he pa_nil hs)).imp fun D σ H ⟨sl, om, ⟨F, G, am, R⟩, o⟩ => by
    simp only [evS] at o
    split at o
    · rename_i k h0
      split at o
      · rename_i ds0 h1
        obtain ⟨ov, ho, v0, rfl, rv⟩ := R.slr.at h0
        cases rv with
        | @amb _ q hk =>
          obtain ⟨vs0, hq0, _⟩ := R.mem.obs _ _ _ hk h1
          refine ⟨_, ho, .inl ⟨rfl, vs0, SqL.of hq0⟩, F, G, am, om, sl, R.mem, R.slr, out_post R o fun d om1 v H1 G1 am1 g R1 r1 o1 => ?_⟩
          split at o1
          · rename_i ds h2
            obtain ⟨vs, hq, r⟩ := R1.mem.obs _ _ _ (g.get hk) h2
            split at o1
            · rename_i hlt
              exact ⟨q, vs, v, rfl, rfl, hq, sz_lt (by rw [← r.length]; exact hlt), o1 σ _ ⟨_, G1, am1, R1.setMem (R1.mem.setA (g.get hk) ⟨_, upd_same, r.append (.cons r1 .nil)⟩)⟩⟩
            · exact o1.elim
          · exact o1.elim
      · exact o.elim
    · exact o.elim
theorem q_ext {x : Str} {apos2 : Pos} (hN : X.N[i]? = some x) (hv : Vis X.env.scope x) (he : PE X e (rdE X.K L T W ee)) (hd : (x == ("__debug__" : Str)) = false := by decide) (hcd : (x == ("__classdict__" : Str)) = false := by decide)
    (hp : ∀ {to : TE} {t : TA}, PE X (.Name x apos) to → PA X [e] t → PS X (.Expr (.Call (.Attribute (.Name x apos) "extend" apos2) [e] [] cpos) pos) (tDrop (tBM X.K "list" rExtend to t))) (hs : starEach (e :: []) X.env = (false, eval e X.env) :: starEach [] X.env := by rfl) : QS X L T W (.Expr (.Call (.Attribute (.Name x apos) "extend" apos2) [e] [] cpos) pos) (.ext i ee) := fun F0 G0 am0 =>
  (hp (pe_var hN hv hd hcd) (pa_cons he pa_nil hs)).imp fun D σ H ⟨sl, om, ⟨F, G, am, R⟩, o⟩ => by
    simp only [evS] at o
    split at o
    · rename_i ds h0
      obtain ⟨ov, ho, q, vs, rfl, hF, r⟩ := R.slr.at h0
      refine ⟨_, ho, .inl ⟨rfl, vs, SqL.of (R.mem.fH _ _ hF)⟩, F, G, am, om, sl, R.mem, R.slr, out_post R o fun d om1 v H1 G1 am1 g R1 r1 o1 => ?_⟩
      split at o1
      · rename_i es
        split at o1
        · rename_i hlt
          cases r1 with
          | lst hb rb =>
            exact ⟨q, _, vs, _, rfl, rfl, R1.mem.fH _ _ hF, R1.mem.gH _ _ hb, sz_le (by rw [← r.length, ← rb.length]; exact hlt), o1 σ _ ⟨_, G1, am1, R1.setUpd h0 rfl ho ⟨q, _, rfl, upd_same, (r.up g).append rb⟩ (fun _ _ e => by cases e)⟩⟩
        · exact o1.elim
      · exact o1.elim
    · exact o.elim
theorem q_setI {x : Str} (hN : X.N[i]? = some x) (hv : Vis X.env.scope x) (hd : (x == ("__debug__" : Str)) = false := by decide) (hcd : (x == ("__classdict__" : Str)) = false := by decide)
    (hp : ∀ {to : TE}, PE X (.Name x apos) to → PS X (.Assign [.Subscript (.Name x apos) ix cpos] e pos) (tAsg (rdE X.K L T W ee) (gSub to (rdE X.K L T W ex) rSetL))) : QS X L T W (.Assign [.Subscript (.Name x apos) ix cpos] e pos) (.setI i ex ee) := fun F0 G0 am0 =>
  (hp (pe_var hN hv hd hcd)).imp fun D σ H ⟨sl, om, ⟨F, G, am, R⟩, o⟩ => by
    simp only [evS] at o
    split at o
    · rename_i ds h0
      obtain ⟨ov, ho, q, vs, rfl, hF, r⟩ := R.slr.at h0
      refine ⟨F, G, am, om, sl, R.mem, R.slr, out_post R o fun d om1 v H1 G1 am1 g R1 r1 o1 => ?_⟩
      refine ⟨_, ho, F, G1, am1, om1, sl, R1.mem, R1.slr, out_post R1 o1 fun dn om2 vn H2 G2 am2 g2 R2 r2 o2 => ?_⟩
      split at o2
      · rename_i m
        split at o2
        · rename_i j hj
          cases r2
          exact ⟨q, vs, m, j, rfl, rfl, R2.mem.fH _ _ hF, by rw [← r.length]; exact hj, o2 σ _ ⟨_, G2, am2, R2.setUpd h0 rfl ho ⟨q, _, rfl, upd_same, ((r.up g).up g2).set j (r1.up g2)⟩ (fun _ _ e => by cases e)⟩⟩
        · exact o2.elim
      · exact o2.elim
    · exact o.elim
theorem q_setIA {x : Str} (hN : X.N[i]? = some x) (hv : Vis X.env.scope x) (hd : (x == ("__debug__" : Str)) = false := by decide) (hcd : (x == ("__classdict__" : Str)) = false := by decide)
    (hp : ∀ {to : TE}, PE X (.Name x apos) to → PS X (.Assign [.Subscript (.Name x apos) ix cpos] e pos) (tAsg (rdE X.K L T W ee) (gSub to (rdE X.K L T W ex) rSetL))) : QS X L T W (.Assign [.Subscript (.Name x apos) ix cpos] e pos) (.setIA i ex ee) := fun F0 G0 am0 =>
  (hp (pe_var hN hv hd hcd)).imp fun D σ H ⟨sl, om, ⟨F, G, am, R⟩, o⟩ => by
    simp only [evS] at o
    split at o
    · rename_i k h0
      obtain ⟨ov, ho, v0, rfl, rv⟩ := R.slr.at h0
      cases rv with
      | @amb _ q hk =>
        refine ⟨F, G, am, om, sl, R.mem, R.slr, out_post R o fun d om1 v H1 G1 am1 g R1 r1 o1 => ?_⟩
        refine ⟨_, ho, F, G1, am1, om1, sl, R1.mem, R1.slr, out_post R1 o1 fun dn om2 vn H2 G2 am2 g2 R2 r2 o2 => ?_⟩
        split at o2
        · rename_i m
          split at o2
          · rename_i ds h2
            obtain ⟨vs, hq, r⟩ := R2.mem.obs _ _ _ (g2.get (g.get hk)) h2
            split at o2
            · rename_i j hj
              cases r2
              exact ⟨q, vs, m, j, rfl, rfl, hq, by rw [← r.length]; exact hj, o2 σ _ ⟨_, G2, am2, R2.setMem (R2.mem.setA (g2.get (g.get hk)) ⟨_, upd_same, r.set j (r1.up g2)⟩)⟩⟩
            · exact o2.elim
          · exact o2.elim
        · exact o2.elim
    · exact o.elim
/-! ### fields stored -/
theorem put_new : ∀ {ns : List Str} {f : Str} {j : Nat} {vs : List V} {v : V}, fnIx ns f = some j → vs.length = j → putF f v (ns.zip vs) = ns.zip (vs ++ [v])
  | [], _, _, _, _, h, _ => by cases h
  | g :: r, f, j, [], v, h, e => by
    unfold fnIx at h
    by_cases c : f = g
    · subst c
      cases r <;> rfl
    · rw [if_neg c] at h
      subst e
      cases q : fnIx r f <;> rw [q] at h <;> cases h
  | g :: r, f, j, w :: vs, v, h, e => by
    unfold fnIx at h
    by_cases c : f = g
    · rw [if_pos c] at h
      cases h
      cases e
    · rw [if_neg c] at h
      cases q : fnIx r f with
      | none => rw [q] at h; cases h
      | some i =>
        rw [q] at h
        cases h
        show (if g = f then _ else (g, w) :: putF f v (r.zip vs)) = _
        rw [if_neg (fun z => c z.symm), put_new q (by simpa using e)]
        rfl
theorem put_old : ∀ {ns : List Str} {f : Str} {j : Nat} {vs : List V} {v : V}, fnIx ns f = some j → j < vs.length → putF f v (ns.zip vs) = ns.zip (vs.set j v)
  | [], _, _, _, _, h, _ => by cases h
  | g :: r, f, j, [], v, h, e => by cases e
  | g :: r, f, j, w :: vs, v, h, e => by
    unfold fnIx at h
    by_cases c : f = g
    · subst c
      rw [if_pos rfl] at h
      cases h
      show (if f = f then _ else _) = _
      rw [if_pos rfl]
      rfl
    · rw [if_neg c] at h
      cases q : fnIx r f with
      | none => rw [q] at h; cases h
      | some i =>
        rw [q] at h
        cases h
        show (if g = f then _ else (g, w) :: putF f v (r.zip vs)) = _
        rw [if_neg (fun z => c z.symm), put_old q (by simpa using e)]
        rfl
theorem ix_lt : ∀ {ns : List Str} {f : Str} {j : Nat}, fnIx ns f = some j → j < ns.length
  | [], _, _, h => by cases h
  | g :: r, f, j, h => by
    unfold fnIx at h
    by_cases c : f = g
    · rw [if_pos c] at h
      cases h
      exact Nat.succ_pos _
    · rw [if_neg c] at h
      cases q : fnIx r f with
      | none => rw [q] at h; cases h
      | some i =>
        rw [q] at h
        cases h
        exact Nat.succ_lt_succ (ix_lt q)
theorem zip_len {ns : List Str} {vs : List V} (h : ns.length < 1000) : (ns.zip vs).length < 1000 := by
  rw [List.length_zip]
  omega
/-- self.f = e, self being made -/
theorem q_setF {cc : Nat} {m x : Str} (hN : X.N[(0 : Nat)]? = some x) (hv : Vis X.env.scope x) (cl : Cls X.K (L.ca cc)) (hn : NoAttr X.K (L.ca cc) m) (hj : fnIx (L.fn cc) m = some j) (hz : (L.fn cc).length < 1000)
    (he : PE X e (rdE X.K L T W ee)) (hs : swapsWith e (some (.Attribute (.Name x apos) m cpos)) pos.line X.env = pure false) (hd : (x == ("__debug__" : Str)) = false := by decide) (hcd : (x == ("__classdict__" : Str)) = false := by decide) :
    QS X L T W (.Assign [.Attribute (.Name x apos) m cpos] e pos) (.setF cc j ee) := fun F0 G0 am0 =>
  (ps_fld (pe_var hN hv hd hcd) he hs).imp fun D σ H ⟨sl, om, ⟨F, G, am, R⟩, o⟩ =>
    ⟨F, G, am, om, sl, R.mem, R.slr, out_post R o fun d om1 v H1 G1 am1 g R1 r1 o1 => by
      split at o1
      · rename_i c' fs h0
        split at o1
        · rename_i hc
          obtain ⟨rfl, hl⟩ := hc
          obtain ⟨ov, ho, q, dx, vs, rfl, hF, hle, r⟩ := R1.slr.at h0
          refine ⟨_, ho, q, _, dx, _, rfl, R1.mem.fH _ _ hF, cl, hn, zip_len hz, ?_⟩
          rw [put_new hj (by rw [← r.length]; exact hl)]
          have hle' : (vs ++ [v]).length ≤ (L.fn c').length := by
            rw [List.length_append, ← r.length, hl]
            exact ix_lt hj
          obtain ⟨x', dx', vs', e1, e2, e3⟩ := R1.slf _ _ _ h0
          rw [ho] at e1
          cases e1
          rw [hF] at e2
          have edx : dx' = dx := by injection e2 with e2; injection e2 with _ e2 _; exact e2.symm
          rw [edx] at e3
          exact o1 σ _ ⟨_, G1, am1, R1.setUpd h0 rfl ho ⟨q, dx, vs ++ [v], rfl, upd_same, hle', r.append (.cons r1 .nil)⟩ (fun _ _ e => by cases e; exact ⟨dx, vs ++ [v], rfl, e3⟩)⟩
        · exact o1.elim
      · exact o1.elim⟩
/-- x.f = e, x of the store -/
theorem q_stF {cc : Nat} {m x : Str} (hN : X.N[i]? = some x) (hv : Vis X.env.scope x) (cl : Cls X.K (L.ca cc)) (hn : NoAttr X.K (L.ca cc) m) (hj : fnIx (L.fn cc) m = some j) (hz : (L.fn cc).length < 1000)
    (he : PE X e (rdE X.K L T W ee)) (hs : swapsWith e (some (.Attribute (.Name x apos) m cpos)) pos.line X.env = pure false) (hd : (x == ("__debug__" : Str)) = false := by decide) (hcd : (x == ("__classdict__" : Str)) = false := by decide) :
    QS X L T W (.Assign [.Attribute (.Name x apos) m cpos] e pos) (.stF i cc j ee) := fun F0 G0 am0 =>
  (ps_fld (pe_var hN hv hd hcd) he hs).imp fun D σ H ⟨sl, om, ⟨F, G, am, R⟩, o⟩ => by
    simp only [evS] at o
    split at o
    · rename_i k h0
      obtain ⟨ov, ho, v0, rfl, rv⟩ := R.slr.at h0
      cases rv with
      | @amb _ q hk =>
        refine ⟨F, G, am, om, sl, R.mem, R.slr, out_post R o fun d om1 v H1 G1 am1 g R1 r1 o1 => ?_⟩
        split at o1
        · rename_i c' fs h2
          split at o1
          · rename_i hc
            subst hc
            obtain ⟨dx, vs, hq, hle, r⟩ := R1.mem.obs _ _ _ (g.get hk) h2
            refine ⟨_, ho, q, _, dx, _, rfl, hq, cl, hn, zip_len hz, ?_⟩
            split at o1
            · rename_i hlt
              rw [put_old hj (by rw [← r.length]; exact hlt)]
              exact o1 σ _ ⟨_, G1, am1, R1.setMem (R1.mem.setA (g.get hk) ⟨dx, _, upd_same, by rw [List.length_set]; exact hle, r.set j r1⟩)⟩
            · split at o1
              · rename_i heq
                rw [put_new hj (by rw [← r.length]; exact heq.symm)]
                refine o1 σ _ ⟨_, G1, am1, R1.setMem (R1.mem.setA (g.get hk) ⟨dx, _, upd_same, ?_, r.append (.cons r1 .nil)⟩)⟩
                rw [List.length_append, ← r.length, ← heq]
                exact ix_lt hj
              · exact o1.elim
          · exact o1.elim
        · exact o1.elim
    · exact o.elim
/-- x.f += e, x of the store, ints -/
theorem q_auF {cc : Nat} {m x : Str} (hN : X.N[i]? = some x) (hv : Vis X.env.scope x) (cl : Cls X.K (L.ca cc)) (hn : NoAttr X.K (L.ca cc) m) (hj : fnIx (L.fn cc) m = some j) (hz : (L.fn cc).length < 1000)
    (he : PE X e (rdE X.K L T W ee)) (hd : (x == ("__debug__" : Str)) = false := by decide) (hcd : (x == ("__classdict__" : Str)) = false := by decide) :
    QS X L T W (.AugAssign (.Attribute (.Name x apos) m cpos) .Add e pos) (.auF i cc j ee) := fun F0 G0 am0 =>
  (ps_fldaug (pe_var hN hv hd hcd) he in_add).imp fun D σ H ⟨sl, om, ⟨F, G, am, R⟩, o⟩ => by
    simp only [evS] at o
    split at o
    · rename_i k h0
      obtain ⟨ov, ho, v0, rfl, rv⟩ := R.slr.at h0
      cases rv with
      | @amb _ q hk =>
        split at o
        · rename_i c' fs h2
          split at o
          · rename_i hc
            subst hc
            split at o
            · rename_i mm hm
              obtain ⟨dx, vs, hq, hle, r⟩ := R.mem.obs _ _ _ hk h2
              obtain ⟨vm, hvm, rm⟩ := r.get hm
              cases rm
              refine ⟨_, ho, q, _, dx, _, _, rfl, hq, cl, hn, by rw [lookup_ix hj]; exact hvm, F, G, am, om, sl, R.mem, R.slr, out_post R o fun d om1 v H1 G1 am1 g R1 r1 o1 => ?_⟩
              split at o1
              · rename_i nn
                cases r1
                split at o1
                · rename_i c2 fs2 h3
                  split at o1
                  · rename_i hc2
                    obtain ⟨rfl, hlt⟩ := hc2
                    obtain ⟨dx2, vs2, hq2, hle2, r2⟩ := R1.mem.obs _ _ _ (g.get hk) h3
                    refine ⟨mm, nn, rfl, rfl, dx2, _, hq2, zip_len hz, ?_⟩
                    rw [put_old hj (by rw [← r2.length]; exact hlt)]
                    exact o1 σ _ ⟨_, G1, am1, R1.setMem (R1.mem.setA (g.get hk) ⟨dx2, _, upd_same, by rw [List.length_set]; exact hle2, r2.set j (.int _)⟩)⟩
                  · exact o1.elim
                · exact o1.elim
              · exact o1.elim
            · exact o.elim
          · exact o.elim
        · exact o.elim
    · exact o.elim
/-! ### if, while, for -/
theorem q_ite {c : Expr} {ec : E} {p1 p2 : List Stmt} (hc : PT X c (rdT X.K L T W ec)) (ha : QSs X L T W p1 s) (hb : QSs X L T W p2 s') : QS X L T W (.If c p1 p2 pos) (.ite ec s s') := fun F0 G0 am0 =>
  (ps_if hc (ha F0 G0 am0) (hb F0 G0 am0)).imp fun D σ H ⟨sl, om, ⟨F, G, am, R⟩, o⟩ => ⟨F, G, am, om, sl, R.mem, R.slr, out_post R o fun t om1 t' H1 G1 am1 g R1 e o1 => by
    cases e
    cases t with
    | true =>
      rw [if_pos rfl] at o1 ⊢
      exact ⟨sl, om1, ⟨F, G1, am1, R1⟩, o1⟩
    | false =>
      rw [if_neg (by decide)] at o1 ⊢
      exact ⟨sl, om1, ⟨F, G1, am1, R1⟩, o1⟩⟩
theorem q_whl {c : Expr} {ec : E} {body : List Stmt} (hp : PassesOwn (model X.prog X.w) X.A X.env X.xe) (hc : PT X c (rdT X.K L T W ec)) (hb : QSs X L T W body s) : QS X L T W (.While c body [] pos) (.whl ec s) := fun F0 G0 am0 =>
  (ps_while hp hc (hb F0 G0 am0)).imp fun D σ H ⟨sl, om, k, o⟩ => by
    refine ⟨fun m σ H => ∃ sl om, StOk X.K L F0 G0 am0 sl om σ H ∧ OutP X.K L F0 G0 am0 W D (whileGo (evT T ec) (evS T s) m sl om), ⟨T.wf, sl, om, k, o⟩, ?_⟩
    rintro m σ H ⟨sl, om, ⟨F, G, am, R⟩, o⟩
    cases m with
    | zero => exact o.elim
    | succ m =>
      refine ⟨F, G, am, om, sl, R.mem, R.slr, out_post R o fun t om1 t' H1 G1 am1 g R1 e o1 => ?_⟩
      cases e
      cases t with
      | false =>
        rw [if_neg (by decide)] at o1 ⊢
        exact o1 σ H1 ⟨F, G1, am1, R1⟩
      | true =>
        rw [if_pos rfl] at o1 ⊢
        refine ⟨fun σ H => ∃ sl om, StOk X.K L F0 G0 am0 sl om σ H ∧ OutP X.K L F0 G0 am0 W D (whileGo (evT T ec) (evS T s) m sl om), fun σ' H' h => ⟨m, Nat.lt_succ_self m, h⟩, sl, om1, ⟨F, G1, am1, R1⟩, ?_⟩
        cases q : evS T s sl om1 with
        | stuck => rw [q] at o1; exact o1
        | next sl' om' => rw [q] at o1; exact fun σ' H' k' => ⟨sl', om', k', o1⟩
        | brk sl' om' => rw [q] at o1; exact o1
        | cnt sl' om' => rw [q] at o1; exact fun σ' H' k' => ⟨sl', om', k', o1⟩
        | ret d om' => rw [q] at o1; exact o1
        | retF d om' => rw [q] at o1; exact o1
        | exc c fs sl' om' => rw [q] at o1; exact o1
theorem qs_any (hb : QSs X L T W sts s) : PSs X sts (fun D σ H => ∃ F0 G0 am0, rdS X.K L T W F0 G0 am0 s D σ H) := ⟨fun pins st σ H D I ⟨F0, G0, am0, h⟩ => (hb F0 G0 am0).run pins st σ H D I h⟩
theorem q_fo {iter tg : Expr} {it : E} {t : Tg} {g : TG} {body : List Stmt} (hp : PassesOwn (model X.prog X.w) X.A X.env X.xe) (hcalm : X.calm = true) (hi : PI X tg iter (rdI X.K L T W pAny it)) (hg : PG X tg g) (hT : TgS X.K L g t) (hb : QSs X L T W body s)
    (hs : ∀ x, foldedSetIterable iter X.env x = pure x := by intro _; rfl) : QS X L T W (.For tg iter body [] pos) (.fo t it s) := fun F0 G0 am0 =>
  (ps_for hp hcalm hi hg (qs_any hb) hs).imp fun D σ H ⟨sl, om, ⟨F, G, am, R⟩, o⟩ => by
    refine ⟨F, G, am, om, sl, R.mem, R.slr, ?_⟩
    simp only [evS] at o
    cases q : evI T it sl om with
    | stuck => rw [q] at o; exact o
    | exc c fs om1 =>
      rw [q] at o
      exact fun cv dd H1 G1 am1 gg M er => o cv dd σ H1 F G1 am1 (R.grow gg M) er
    | ok ds om1 =>
      rw [q, out_ok] at o
      intro J H1 G1 am1 gg M1 Y
      have R1 := R.grow gg M1
      refine ⟨fun i m σ' H' => m = ds.length - i ∧ i ≤ ds.length ∧ ∃ sl' om' F' G' am', StR X.K L F0 G1 am1 sl' om' σ' H' F' G' am' ∧ OutP X.K L F0 G0 am0 W D (forGo (evS T s) t (ds.drop i) sl' om'), ⟨ds.length, by omega, by omega, sl, om1, F, G1, am1, ⟨R1.f0, Grow.refl, R1.mem, R1.slr, R1.own, R1.slf⟩, by rw [List.drop_zero]; exact o⟩, ?_⟩
      rintro i m σ' H' ⟨hm, hi', sl', om', F', G', am', R', o'⟩
      by_cases hlt : i < ds.length
      · right
        have hd : ds[i]? = some ds[i] := List.getElem?_eq_getElem hlt
        obtain ⟨ygo, yyl⟩ := Y.go i ds[i] F' G' am' om' H' hd trivial R'.g R'.mem
        refine ⟨ygo, _, fun σ2 H2 hn => ⟨ds.length - (i + 1), by omega, hn⟩, fun x H3 hy => ?_⟩
        obtain ⟨G3, g3, M3, r3⟩ := yyl x H3 hy
        have R3 := R'.grow g3 M3
        rw [List.drop_eq_getElem_cons hlt] at o'
        simp only [forGo] at o'
        split at o'
        · exact o'.elim
        · rename_i sl2 hset
          refine hT.run F0 G1 am1 F' G3 am' om' H3 sl' σ' ds[i] x sl2 _ R3 r3 hset fun σ2 R4 => ?_
          refine ⟨F0, G1, am1, sl2, om', ⟨F', G3, am', R4⟩, ?_⟩
          have next : ∀ sl' om', OutP X.K L F0 G0 am0 W D (forGo (evS T s) t (ds.drop (i + 1)) sl' om') → ∀ σ H, StOk X.K L F0 G1 am1 sl' om' σ H → (ds.length - (i + 1) = ds.length - (i + 1) ∧ i + 1 ≤ ds.length ∧ ∃ sl' om' F' G' am', StR X.K L F0 G1 am1 sl' om' σ H F' G' am' ∧ OutP X.K L F0 G0 am0 W D (forGo (evS T s) t (ds.drop (i + 1)) sl' om')) :=
            fun sl' om' oo σ H ⟨F5, G5, am5, R5⟩ => ⟨rfl, hlt, sl', om', F5, G5, am5, R5, oo⟩
          cases q2 : evS T s sl2 om' with
          | stuck => rw [q2] at o'; exact o'
          | next sl3 om3 => rw [q2] at o'; exact next sl3 om3 o'
          | brk sl3 om3 => rw [q2] at o'; exact fun σ5 H5 k5 => o' σ5 H5 (k5.base (R.g.trans gg))
          | cnt sl3 om3 => rw [q2] at o'; exact next sl3 om3 o'
          | ret d om3 => rw [q2] at o'; exact fun v H5 G5 am5 g5 => o' v H5 G5 am5 ((R.g.trans gg).trans g5)
          | retF d om3 => rw [q2] at o'; exact fun p vs H5 G5 am5 g5 => o' p vs H5 G5 am5 ((R.g.trans gg).trans g5)
          | exc c fs sl3 om3 => rw [q2] at o'; exact fun cv dd σ5 H5 F5 G5 am5 k5 => o' cv dd σ5 H5 F5 G5 am5 (k5.base (R.g.trans gg))
      · left
        have e : i = ds.length := by omega
        subst e
        rw [List.drop_length] at o'
        exact ⟨Y.stop F' G' am' om' H' trivial R'.g R'.mem, o' σ' H' ⟨F', G', am', R'.base (R.g.trans gg)⟩⟩
end
end PD

set_option Elab.async false
set_option linter.all false
set_option maxRecDepth 100000
set_option maxHeartbeats 400000
/-! PDL: a def keeps its promise, by its body. -/
namespace PD
open PySem PySem.Spec PyProof.Rows L2
section
variable {K : PySem.W.Frag} {L : Lk} {F G : Hp} {am : List Addr}
theorem slr_start {ds : List D} {vs : List V} (r : RepL K L G am ds vs) (k : Nat) : SlR K L F G am (ds.map .val ++ List.replicate k .no) (vs.map some ++ List.replicate k none) := by
  refine ⟨by simp [r.length], fun i c o h1 h2 => ?_⟩
  by_cases hi : i < ds.length
  · rw [List.getElem?_append_left (by rw [List.length_map]; exact hi), List.getElem?_map] at h1
    rw [List.getElem?_append_left (by rw [List.length_map, ← r.length]; exact hi), List.getElem?_map] at h2
    rw [List.getElem?_eq_getElem hi] at h1
    cases h1
    obtain ⟨v, hv, rv⟩ := r.get (List.getElem?_eq_getElem hi)
    rw [hv] at h2
    cases h2
    exact ⟨v, rfl, rv⟩
  · rw [List.getElem?_append_right (by rw [List.length_map]; omega)] at h1
    have e : c = .no := by
      have z := List.mem_of_getElem? h1
      exact (List.mem_replicate.mp z).2
    subst e
    trivial
theorem no_own {ds : List D} {k i : Nat} {c : Cell} (h : ((ds.map Cell.val) ++ List.replicate k .no)[i]? = some c) : isOwn c = false := by
  have z := List.mem_of_getElem? h
  rw [List.mem_append] at z
  rcases z with z | z
  · obtain ⟨d, _, rfl⟩ := List.mem_map.mp z
    rfl
  · rw [(List.mem_replicate.mp z).2]
    rfl
end
section
variable {P : Program} {w : World} {K : PySem.W.Frag} {mg : Str → Option Value} {base : Heap} {L : Lk} {p : Prog} {fi : Nat → FI} {n : Nat}
/-- where a def's body runs -/
abbrev cxF (P : Program) (w : World) (K : PySem.W.Frag) (mg : Str → Option Value) (base : Heap) (N : List Str) (qual : Str) (st : Stmt) (f : Addr) (cdv : Value) (A : Around) (outer : List Env) (s : Shared) (H : Hp) (E : XK) : Cx := cxOf (L2.CX P w) P w K mg base N qual (defScope st) f cdv A outer s H E
/-- a def as it stands behind the top, whatever its defaults -/
structure FunA (K : PySem.W.Frag) (x qual : Str) (st : Stmt) (f : Addr) (fd : FuncData) : Prop where
  ex : ∃ (oc : Value) (od : Option Addr) (dV kV doc pm : Value) (an : Option Addr) (cdv ct : Value) (osl : Array (Option Value)),
    fd = PySem.W.fnOf x qual (defArgs st) (defBody st) (defScope st) dV kV doc pm an cdv ct ∧ K.lookup f = some ⟨oc, od, .func fd, osl⟩ ∧ PySem.W.codeIn K cdv qual = true
theorem FunA.okX {x qual : Str} {st : Stmt} {f : Addr} {fd : FuncData} {N ps : List Str} {k : Nat} {sp : Sp} (F : FunA K x qual st f fd) (S : FnScope N ps (defScope st)) (len : ∀ vs H Q E, sp vs H Q E → vs.length = ps.length)
    (hbody : ∀ (cdv : Value) (A : Around) (outer : List Env) (s : Shared) (H : Hp) (vs : List V) (Q : VK) (E : XK), Room k (A.deeper (envOfC qual (defScope st) s.heap.objs.size f cdv)) → sp vs H Q E →
      ∃ t, PSs (cxOf (L2.CX P w) P w K mg base N qual (defScope st) f cdv A outer s H E) (defBody st) t ∧ t { nx := fun _ H' => Q .non H', rt := Q } (L2.start N vs) H) : FnOk P w K mg base (L2.CX P w) (k + 1) f fd ps sp := by
  obtain ⟨oc, od, dV, kV, doc, pm, an, cdv, ct, osl, rfl, lk, hcd⟩ := F.ex
  exact fn_of lk hcd S len fun A outer s H vs Q E hr hsp => hbody cdv A outer s H vs Q E hr hsp
theorem fn_zero {f : Addr} {fd : FuncData} {ps : List Str} {sp : Sp} (h : ∀ vs H Q E, ¬ sp vs H Q E) : FnOk P w K mg base (L2.CX P w) 0 f fd ps sp := ⟨fun vs H Q E q => (h vs H Q E q).elim, fun A outer s H args us vs Q E _ _ _ _ q => (h vs H Q E q).elim⟩
theorem spD_zero {f : Nat} (vs : List V) (H : Hp) (Q : VK) (E : XK) : ¬ spD K L p 0 f vs H Q E := by
  rintro ⟨wf, F, G, am, om, ds, _, _, _, h⟩
  split at h <;> exact h.elim
theorem spI_zero {f : Nat} (vs : List V) (H : Hp) (Q : VK) (E : XK) : ¬ spI K L p 0 f vs H Q E := by
  rintro ⟨wf, F, G, am, om, ds, c, x, dx, us, _, _, _, _, _, h⟩
  exact h.elim
theorem fn_ok {x qual : Str} {st : Stmt} {fd : FuncData} {N ps : List Str} {f : Nat} {d : Def} {a : Addr} (Fn : FunA K x qual st a fd) (S : FnScope N ps (defScope st)) (hd : p.defs f = some d) (hc : d.cls = none) (hnp : d.np = ps.length) (hnl : d.nl = N.length) (hle : ps.length ≤ N.length)
    (body : ∀ (wf : Nat) (cdv : Value) (A : Around) (outer : List Env) (s : Shared) (H : Hp) (E : XK), Room (2 * n + 1) (A.deeper (envOfC qual (defScope st) s.heap.objs.size a cdv)) →
      QSs (cxF P w K mg base N qual st a cdv A outer s H E) L (tab p wf n) (fun cls d _ H => E cls d H) (defBody st) d.body) :
    FnOk P w K mg base (L2.CX P w) (2 * (n + 1)) a fd ps (spD K L p (n + 1) f) := by
  refine Fn.okX (k := 2 * n + 1) S (fun vs H Q E h => ?_) (fun cdv A outer s H vs Q E hr h => ?_)
  · obtain ⟨wf, F, G, am, om, ds, M, r, ⟨d', hd', hl⟩, _⟩ := h
    rw [hd] at hd'
    cases hd'
    rw [← r.length, hl, hnp]
  · obtain ⟨wf, F, G, am, om, ds, M, r, ⟨d', hd', hl⟩, post⟩ := h
    rw [hd] at hd'
    cases hd'
    refine ⟨rdS K L (tab p wf n) (fun cls d _ H => E cls d H) ⟨F, none⟩ G am d.body, body wf cdv A outer s H E hr _ _ _, slots d ds, om, ⟨F, G, am, Ex.refl, Grow.refl, M, ?_, fun i c a h1 h2 => ?_, fun i c fs h1 => ?_⟩, ?_⟩
    · have e1 : L2.start N vs = vs.map some ++ List.replicate (d.nl - d.np) none := by
        unfold L2.start
        rw [hnl, ← r.length, hl]
      rw [e1]
      exact slr_start r _
    · rw [no_own h1] at h2
      cases h2
    · have z := no_own h1
      cases z
    · have e : callN p wf (n + 1) f ds om = match evS (tab p wf n) d.body (slots d ds) om with
          | .ret x om' => if p.fresh f = true then .stuck else .ok x om'
          | .retF xs om' => .ok (.lst xs) om'
          | .next _ om' => if p.fresh f = true then .stuck else .ok .non om'
          | .exc c fs _ om' => .exc c fs om'
          | _ => .stuck := by
        rw [callN, hd]
        dsimp only
        rw [if_pos hl]
        rfl
      rw [e] at post
      cases q : evS (tab p wf n) d.body (slots d ds) om with
      | stuck => rw [q] at post; split at post <;> exact post
      | brk sl om => rw [q] at post; split at post <;> exact post.elim
      | cnt sl om => rw [q] at post; split at post <;> exact post.elim
      | exc c fs sl om' =>
        rw [q] at post
        intro cv dd σ H' F' G' am' R er
        split at post
        · exact post cv dd H' G' am' R.g (R.mem.less R.f0) er
        · exact post cv dd H' G' am' R.g (R.mem.less R.f0) er
      | next sl om' =>
        rw [q] at post
        rintro σ H' ⟨F', G', am', R⟩
        split at post
        · exact post.elim
        · exact post .non H' G' am' R.g (R.mem.less R.f0) .non
      | ret x om' =>
        rw [q] at post
        intro v H' G' am' g M' rr
        split at post
        · exact post.elim
        · exact post v H' G' am' g M' rr
      | retF xs om' =>
        rw [q] at post
        intro q' ws H' G' am' g hF M' rr
        split at post
        · obtain ⟨ds', e', post⟩ := post
          cases e'
          exact post q' ws H' G' am' g hF M' rr
        · have hg : G' q' = none := M'.fg _ _ upd_same
          refine post (.ref q') H' (upd G' q' (.lst ws)) am' (g.trans (Grow.of hg)) (M'.freeze upd_same fun a u e => ?_) (.lst upd_same (rr.up (Grow.of hg)))
          have hne : a ≠ q' := fun z => by
            rw [z] at e
            have e' : F q' = some u := e
            have hF' : F q' = none := hF
            rw [hF'] at e'
            cases e'
          exact ⟨by rw [upd_ne hne]; exact e, hne⟩
/-- the maker of a frozen instance -/
theorem fnI_ok {x qual : Str} {st : Stmt} {fd : FuncData} {N ps : List Str} {f c : Nat} {d : Def} {a : Addr} (Fn : FunA K x qual st a fd) (S : FnScope N ps (defScope st)) (hd : p.defs f = some d) (hc : d.cls = some c) (hnp : d.np = ps.length) (hnl : d.nl = N.length) (hle : ps.length ≤ N.length)
    (body : ∀ (wf : Nat) (cdv : Value) (A : Around) (outer : List Env) (s : Shared) (H : Hp) (E : XK), Room (2 * n + 1) (A.deeper (envOfC qual (defScope st) s.heap.objs.size a cdv)) →
      QSs (cxF P w K mg base N qual st a cdv A outer s H E) L (tab p wf n) (fun cls d _ H => E cls d H) (defBody st) d.body) :
    FnOk P w K mg base (L2.CX P w) (2 * (n + 1)) a fd ps (spI K L p (n + 1) f) := by
  refine Fn.okX (k := 2 * n + 1) S (fun vs H Q E h => ?_) (fun cdv A outer s H vs Q E hr h => ?_)
  · obtain ⟨wf, F, G, am, om, ds, c', x', dx, us, rfl, M, hF, r, ⟨d', hd', _, hl⟩, _⟩ := h
    rw [hd] at hd'
    cases hd'
    rw [List.length_cons, ← r.length, hl, hnp]
  · obtain ⟨wf, F, G, am, om, ds, c', x', dx, us, rfl, M, hF, r, ⟨d', hd', hc', hl⟩, post⟩ := h
    rw [hd] at hd'
    cases hd'
    rw [hc] at hc'
    cases hc'
    have eF : Ex (fun b => if b = x' then none else F b) F := fun b o h => by
      dsimp only at h
      split at h
      · cases h
      · exact h
    refine ⟨rdS K L (tab p wf n) (fun cls d _ H => E cls d H) ⟨fun b => if b = x' then none else F b, some (x', dx)⟩ G am d.body, body wf cdv A outer s H E hr _ _ _, .newo c [] :: (ds.map .val ++ List.replicate (d.nl - d.np) .no), om, ⟨F, G, am, eF, Grow.refl, M, ?_, fun i c1 a1 h1 h2 h3 => ?_, fun i c1 fs h1 => ?_⟩, ?_⟩
    · have e1 : L2.start N (V.ref x' :: us) = some (V.ref x') :: (us.map some ++ List.replicate (d.nl - d.np) none) := by
        unfold L2.start
        rw [List.map_cons, List.length_cons, hnl, ← r.length, hl]
        rfl
      rw [e1]
      obtain ⟨z1, z2⟩ := slr_start (F := F) r (d.nl - d.np)
      refine ⟨by rw [List.length_cons, List.length_cons, z1], fun i c1 o h1 h2 => ?_⟩
      cases i with
      | zero =>
        cases h1
        cases h2
        exact ⟨x', dx, [], rfl, by rw [List.zip_nil_right]; exact hF, Nat.zero_le _, .nil⟩
      | succ i => exact z2 i c1 o h1 h2
    · cases i with
      | zero =>
        cases h1
        have e : a1 = x' := by
          have h3' : some (some (V.ref x')) = some (some (V.ref a1)) := h3
          cases h3'
          rfl
        subst e
        refine ⟨if_pos rfl, fun j c2 hj g1 g2 => ?_⟩
        cases j with
        | zero => exact absurd rfl hj
        | succ j =>
          rw [no_own g1] at g2
          cases g2
      | succ i =>
        rw [no_own h1] at h2
        cases h2
    · cases i with
      | zero =>
        cases h1
        exact ⟨x', dx, [], rfl, by rw [List.zip_nil_right]; exact hF, rfl⟩
      | succ i =>
        have z := no_own h1
        cases z
    · have e : initN p wf (n + 1) f ds om = match evS (tab p wf n) d.body (.newo c [] :: (ds.map .val ++ List.replicate (d.nl - d.np) .no)) om with
          | .next sl om' => match sl[(0 : Nat)]? with
            | some (.newo c' fs) => if c' = c then .ok fs om' else .stuck
            | _ => .stuck
          | .exc c fs _ om' => .exc c fs om'
          | _ => .stuck := by
        rw [initN, hd]
        dsimp only
        rw [hc]
        dsimp only
        rw [if_pos hl]
        rfl
      rw [e] at post
      cases q : evS (tab p wf n) d.body (.newo c [] :: (ds.map .val ++ List.replicate (d.nl - d.np) .no)) om with
      | stuck => rw [q] at post; exact post
      | brk sl om => rw [q] at post; exact post.elim
      | cnt sl om => rw [q] at post; exact post.elim
      | ret x om => rw [q] at post; exact post.elim
      | retF x om => rw [q] at post; exact post.elim
      | exc c1 fs sl om' =>
        rw [q] at post
        intro cv dd σ H' F' G' am' R er
        exact post cv dd H' G' am' R.g (R.mem.less R.f0) er
      | next sl om' =>
        rw [q] at post
        rintro σ H' ⟨F', G', am', R⟩
        dsimp only at post
        cases q0 : sl[(0 : Nat)]? with
        | none => rw [q0] at post; exact post.elim
        | some c0 =>
          rw [q0] at post
          cases c0 with
          | no => exact post.elim
          | val _ => exact post.elim
          | own _ => exact post.elim
          | exn => exact post.elim
          | newo c1 fs =>
            dsimp only at post
            by_cases hcc : c1 = c
            · subst hcc
              rw [if_pos rfl] at post
              obtain ⟨o, ho, a1, dx1, ws, rfl, hF1, _, rr⟩ := R.slr.at q0
              obtain ⟨x2, dx2, ws2, e1, e2, e3⟩ := R.slf _ _ _ q0
              rw [ho] at e1
              cases e1
              cases e3
              rw [hF1] at e2
              have edx : dx1 = dx := by injection e2 with e2; injection e2
              subst edx
              refine post ws H' G' am' R.g (R.mem.less fun b o hb => ?_) rr
              by_cases cb : b = x'
              · subst cb
                rw [upd_same] at hb
                rw [← hb]
                exact hF1
              · rw [upd_ne cb] at hb
                refine R.f0 b o ?_
                show (if b = x' then none else F b) = _
                rw [if_neg cb]
                exact hb
            · rw [if_neg hcc] at post
              exact post.elim
end
end PD

set_option Elab.async false
set_option linter.all false
set_option maxRecDepth 100000
set_option maxHeartbeats 400000
/-! PDP: own exceptions: raised, caught. -/
namespace PD
open PySem PySem.Spec PyProof.Rows L2
/-- L at a caught exception -/
def Lk.wx (L : Lk) (x : Option (Addr × Option (Addr × Str × V))) : Lk := { L with xa := x }
section
variable {K : PySem.W.Frag} {L L' : Lk} {F G H : Hp} {am : List Addr} {om : Om}
mutual
theorem rep_sw (hc : L'.ca = L.ca) (hf : L'.fn = L.fn) : ∀ (d : D) (v : V), Rep K L G am d v → Rep K L' G am d v
  | _, _, .non => .non
  | _, _, .bl b => .bl b
  | _, _, .int i => .int i
  | _, _, .str s => .str s
  | .lst ds, _, .lst h r => .lst h (repL_sw hc hf ds _ r)
  | .tup ds, _, .tup h r => .tup h (repL_sw hc hf ds _ r)
  | .obj c fs, _, .obj h n r => .obj (by rw [hc, hf]; exact h) (by rw [hf]; exact n) (repL_sw hc hf fs _ r)
  | _, _, .amb h => .amb h
  | .scr ds, _, .scr h r => .scr h (repL_sw hc hf ds _ r)
theorem repL_sw (hc : L'.ca = L.ca) (hf : L'.fn = L.fn) : ∀ (ds : List D) (vs : List V), RepL K L G am ds vs → RepL K L' G am ds vs
  | _, _, .nil => .nil
  | d :: ds, v :: vs, .cons h r => .cons (rep_sw hc hf d v h) (repL_sw hc hf ds vs r)
end
theorem obR_sw (hc : L'.ca = L.ca) (hf : L'.fn = L.fn) {o : Ob} {a : Addr} (h : ObR K L G am H o a) : ObR K L' G am H o a := by
  cases o with
  | pl ds =>
    obtain ⟨vs, h1, r⟩ := h
    exact ⟨vs, h1, repL_sw hc hf _ _ r⟩
  | ob c fs =>
    unfold ObR at h ⊢
    rw [hc, hf]
    first
      | (obtain ⟨dx, vs, h1, h2, r⟩ := h; exact ⟨dx, vs, h1, h2, repL_sw hc hf _ _ r⟩)
      | (obtain ⟨dx, vs, h1, r⟩ := h; exact ⟨dx, vs, h1, repL_sw hc hf _ _ r⟩)
theorem mem_sw (hc : L'.ca = L.ca) (hf : L'.fn = L.fn) (M : Mem K L F G am om H) : Mem K L' F G am om H :=
  ⟨M.gH, M.fH, M.fg, M.len, fun k a o h1 h2 => obR_sw hc hf (M.obs k a o h1 h2), M.nd, M.ag, M.af⟩
theorem slR_sw (hc : L'.ca = L.ca) (hf : L'.fn = L.fn) {sl : Sl} {σ : L2.St} (h : SlR K L F G am sl σ) : SlR K L' F G am (unx sl) σ := by
  refine ⟨by rw [unx, List.length_map]; exact h.1, fun i c o h1 h2 => ?_⟩
  rw [unx, List.getElem?_map] at h1
  cases q : sl[i]? with
  | none => rw [q] at h1; cases h1
  | some c0 =>
    rw [q] at h1
    cases h1
    have z := h.2 i c0 o q h2
    cases c0 with
    | no => trivial
    | val d =>
      obtain ⟨v, e, r⟩ := z
      exact ⟨v, e, rep_sw hc hf _ _ r⟩
    | own ds =>
      obtain ⟨a, vs, e, f, r⟩ := z
      exact ⟨a, vs, e, f, repL_sw hc hf _ _ r⟩
    | newo c fs =>
      obtain ⟨a, dx, vs, e, f, n, r⟩ := z
      exact ⟨a, dx, vs, e, by rw [hc, hf]; exact f, by rw [hf]; exact n, repL_sw hc hf _ _ r⟩
    | exn => trivial
theorem unx_get {sl : Sl} {i : Nat} {c : Cell} (h : (unx sl)[i]? = some c) : ∃ c0, sl[i]? = some c0 ∧ (c = c0 ∨ c = .no) := by
  rw [unx, List.getElem?_map] at h
  cases q : sl[i]? with
  | none => rw [q] at h; cases h
  | some c0 =>
    rw [q] at h
    cases h
    cases c0 with
    | exn => exact ⟨_, rfl, .inr rfl⟩
    | no => exact ⟨_, rfl, .inl rfl⟩
    | val d => exact ⟨_, rfl, .inl rfl⟩
    | own d => exact ⟨_, rfl, .inl rfl⟩
    | newo c d => exact ⟨_, rfl, .inl rfl⟩
theorem stR_sw (hc : L'.ca = L.ca) (hf : L'.fn = L.fn) {F0 : FB} {G0 : Hp} {am0 : List Addr} {sl : Sl} {σ : L2.St} (R : StR K L F0 G0 am0 sl om σ H F G am) : StR K L' F0 G0 am0 (unx sl) om σ H F G am := by
  refine ⟨R.f0, R.g, mem_sw hc hf R.mem, slR_sw hc hf R.slr, fun i c a h1 h2 h3 => ?_, fun i c fs h1 => ?_⟩
  · obtain ⟨c0, q, e⟩ := unx_get h1
    rcases e with rfl | rfl
    · obtain ⟨y1, y2⟩ := R.own i c a q h2 h3
      refine ⟨y1, fun j c' hj g1 g2 => ?_⟩
      obtain ⟨c1, q1, e1⟩ := unx_get g1
      rcases e1 with rfl | rfl
      · exact y2 j c' hj q1 g2
      · cases g2
    · cases h2
  · obtain ⟨c0, q, e⟩ := unx_get h1
    rcases e with rfl | e
    · rw [hc, hf]
      exact R.slf i c fs q
    · cases e
end
section
variable {X : Cx} {L : Lk} {p : Prog} {fi : Nat → FI} {n wf : Nat} {W : WX} {T : Tb}
theorem qs_never {sts : List Stmt} : QSs X L T W sts .never := fun F0 G0 am0 => ⟨fun pins s σ H D I ⟨sl, om, k, o⟩ => o.elim⟩
/-- raise C('text'), C without fields -/
theorem q_rais0 {x m : Str} {j c : Nat} {pp p2 pos pos' : Pos} {B newId initId : String} {bmB : List Value} (hcalm : X.calm = true) (tk : Takes X W) (F : ExcBaseFacts B newId initId bmB) (q : PySem.W.excIn X.K (L.ca c) bmB newId = true) (gC : X.mg x = some (.ref (L.ca c)))
    (kC : PySem.W.keepIn X.K (.ref (L.ca c)) = true) (r : Raises X (.ref (L.ca c))) (hg : Gl X x) (hdb : (x == ("__debug__" : Str)) = false := by decide) :
    QS X L T W (.Raise (some (.Call (.Name x pp) [.Constant (.str m) j p2] [] pos)) none pos') (.rais c .nil) := fun F0 G0 am0 =>
  (ps_raise hcalm tk (pmk_own F q gC kC r hg hdb)).imp fun D σ H ⟨sl, om, ⟨F, G, am, R⟩, o⟩ => by
    have e : evS T (.rais c .nil) sl om = .exc c [] sl om := by
      rw [evS, evL]
      rfl
    rw [e] at o
    exact o _ _ σ H F G am R ⟨rfl, rfl⟩
/-- what is known of a caught exception's field -/
def XfR (K : PySem.W.Frag) (L : Lk) (c : Nat) (fs : List D) (d : Option Addr) (xf : Option (Addr × Str × V)) : Prop := match fs with
  | [] => d = none ∧ xf = none
  | d0 :: _ => ∃ dd v nm G am, d = some dd ∧ (L.fn c).head? = some nm ∧ xf = some (dd, nm, v) ∧ Rep K L G am d0 v
theorem aft_out {K : PySem.W.Frag} {W W0 : WX} {F0 : FB} {G0 : Hp} {am0 : List Addr} {Dn : Ends} {i : Nat} {o : Out} {x : Option (Addr × Option (Addr × Str × V))} (h : OutP K L F0 G0 am0 W Dn (aft i o)) :
    OutP K (L.wx x) F0 G0 am0 W0 { nx := fun σ' H' => Dn.nx (σ'.set i none) H', rt := Dn.rt, bk := fun σ' H' => Dn.bk (σ'.set i none) H', ct := fun σ' H' => Dn.ct (σ'.set i none) H' } o := by
  have st : ∀ {sl : Sl} {om : Om} {σ : L2.St} {H : Hp}, StOk K (L.wx x) F0 G0 am0 sl om σ H → StOk K L F0 G0 am0 (unx (sl.set i .no)) om (σ.set i none) H := fun ⟨F, G, am, R⟩ =>
    ⟨F, G, am, stR_sw (L := L.wx x) (L' := L) rfl rfl (R.setVal (i := i) (c := .no) (o := none) rfl trivial)⟩
  cases o with
  | stuck => exact h
  | exc c fs sl om => exact h.elim
  | next sl om => exact fun σ H k => h _ _ (st k)
  | brk sl om => exact fun σ H k => h _ _ (st k)
  | cnt sl om => exact fun σ H k => h _ _ (st k)
  | ret d om => exact fun v H G am g M r => h v H G am g (mem_sw (L := L.wx x) rfl rfl M) (rep_sw (L := L.wx x) (L' := L) rfl rfl _ _ r)
  | retF ds om => exact fun p vs H G am g hn M r => h p vs H G am g hn (mem_sw (L := L.wx x) rfl rfl M) (repL_sw (L := L.wx x) (L' := L) rfl rfl _ _ r)
/-- try .. except c as n -/
theorem q_try {x nm : Str} {cc : Nat} {i : Nat} {body suite : List Stmt} {b₀ : Stmt} {np pos pos' : Pos} {sb : S} {cs : Nat → Option Bool} {hd : Nat → List D → S}
    (hs : X.stack = X.env :: X.outer) (hf : X.env.frame = some X.env.locals) (hN : X.N.Nodup) (hi : X.N[i]? = some nm) (hln : X.env.kindOf nm = some .local) (hc : Names X x (.ref (L.ca cc))) (tk : Takes X W)
    (hcs : ∀ c b, cs c = some b → PySem.W.exmOne X.K (.ref (L.ca c)) (.ref (L.ca cc)) = some b)
    (hb : ∀ (W' : WX) (pn : List (Addr × Obj)) (xe : Value → Shared → Prop), Takes (X.tr pn xe) W' → PassesOwn (model X.prog X.w) X.A X.env xe → QSs (X.tr pn xe) L T W' body sb)
    (hsu : ∀ (c : Nat) (fs : List D) (a : Addr) (oe : Obj) (d : Option Addr) (pn : List (Addr × Obj)) (xf : Option (Addr × Str × V)), cs c = some true → Zc (.ref (L.ca c)) d oe → (∃ vs, oe.data = .fields vs) → XfR X.K L c fs d xf →
      QSs (X.suite a ((a, oe) :: pn)) (L.wx (some (a, xf))) T (fun _ _ _ _ => False) (b₀ :: suite) (hd c fs)) :
    QS X L T W (.Try body [.ExceptHandler (some (.Name x np)) (some nm) (b₀ :: suite) pos'] [] [] pos) (.tr sb cs i hd) := fun F0 G0 am0 => by
  refine (ps_try_as (Wout := W) (c := .ref (L.ca cc)) (i := i) (tb := fun W' => rdS X.K L T W' F0 G0 am0 sb)
    (ts := fun a cls d Dn σ H => ∃ (c : Nat) (fs : List D) (xf : Option (Addr × Str × V)), cls = .ref (L.ca c) ∧ cs c = some true ∧ XfR X.K L c fs d xf ∧ rdS X.K (L.wx (some (a, xf))) T (fun _ _ _ _ => False) F0 G0 am0 (hd c fs) Dn σ H)
    hs hf hN hi hln hc tk (fun W' pn xe t po => hb W' pn xe t po F0 G0 am0) (fun a oe cls d pn hz hv => ?_)).imp fun Dn σ H ⟨sl, om, k, o⟩ => ?_
  · refine ⟨fun pins s σ H Dn I h => ?_⟩
    obtain ⟨c, fs, xf, ec, hcc, hx, h⟩ := h
    subst ec
    exact (hsu c fs a oe d pn xf hcc hz hv hx F0 G0 am0).run pins s σ H Dn I h
  · refine ⟨sl, om, k, ?_⟩
    have e : evS T (.tr sb cs i hd) sl om = match evS T sb sl om with
      | .exc c fs sl om => match cs c with
        | some true => aft i (evS T (hd c fs) ((unx sl).set i .exn) om)
        | some false => .exc c fs sl om
        | none => .stuck
      | o => o := by rw [evS] <;> rfl
    rw [e] at o
    cases q : evS T sb sl om with
    | stuck => rw [q] at o; exact o
    | next sl' om' => rw [q] at o; exact o
    | brk sl' om' => rw [q] at o; exact o
    | cnt sl' om' => rw [q] at o; exact o
    | ret d om' => rw [q] at o; exact o
    | retF d om' => rw [q] at o; exact o
    | exc c fs sl1 om1 =>
      rw [q] at o
      dsimp only at o
      intro cv dd σ1 H1 F G am R er
      obtain ⟨ecv, er2⟩ := er
      subst ecv
      cases qc : cs c with
      | none => rw [qc] at o; exact o.elim
      | some b =>
        refine ⟨b, hcs c b qc, fun hbt a ha => ?_, fun hbf => ?_⟩
        · subst hbt
          rw [qc] at o
          have main : ∀ xf, XfR X.K L c fs dd xf → (∀ d2 nm v, xf = some (d2, nm, v) → G d2 = some (.xd [(nm, v)])) → ∃ (c' : Nat) (fs' : List D) (xf : Option (Addr × Str × V)), (Value.ref (L.ca c)) = .ref (L.ca c') ∧ cs c' = some true ∧ XfR X.K L c' fs' dd xf ∧
              rdS X.K (L.wx (some (a, xf))) T (fun _ _ _ _ => False) F0 G0 am0 (hd c' fs') { nx := fun σ' H' => Dn.nx (σ'.set i none) H', rt := Dn.rt, bk := fun σ' H' => Dn.bk (σ'.set i none) H', ct := fun σ' H' => Dn.ct (σ'.set i none) H' } (σ1.set i (some (.ref a))) H1 := fun xf hx hg =>
            ⟨c, fs, xf, rfl, qc, hx, (unx sl1).set i .exn, om1, ⟨F, G, am, (stR_sw (L := L) (L' := L.wx (some (a, xf))) rfl rfl R).setVal (i := i) (c := .exn) (o := some (.ref a)) rfl ⟨a, xf, rfl, rfl, hg⟩⟩, aft_out o⟩
          cases fs with
          | nil => exact main none ⟨er2, rfl⟩ fun _ _ _ e => by cases e
          | cons d0 fs =>
            obtain ⟨y, v, nm', e1, e2, e3, e4⟩ := er2
            exact main (some (y, nm', v)) ⟨y, v, nm', G, am, e1, e2, rfl, e4⟩ fun d2 nm2 v2 e => by cases e; exact e3
        · subst hbf
          rw [qc] at o
          exact o _ _ σ1 H1 F G am R ⟨rfl, er2⟩
end

/-! ### in the suite of a caught exception without fields -/
section
variable {X : Cx} {L : Lk} {T : Tb} {W : WX} {a D0 : Addr} {oe : Obj} {pn : List (Addr × Obj)} {xf : Option (Addr × Str × V)} {i : Nat} {nm : Str} {b : Bool} {p1 p3 pp pos : Pos} {c : Expr} {es : List Expr} {cv : V} {cvs : List V} {cu : Value} {cus : List Value} {x1 : Nat}
theorem kit_exc (C : ExcC X.K D0) (hz : Zc (.ref D0) none oe) (hf : ∃ vs, oe.data = .fields vs) {pins : List (Addr × Obj)} {σ : L2.St} {H : Hp} {s : Shared} (I : Inv (X.suite a ((a, oe) :: pn)) pins σ H s) : ∃ P : Heap → Prop, PySem.W.KitX X.K (.ref a) (.ref D0) P ∧ P s.heap := by
  have hp := (I.pin (a, oe) (List.mem_append_left _ (List.mem_cons_self ..))).1
  obtain ⟨fv, hfv⟩ := hf
  refine ⟨_, PySem.W.handS_kitx_exc (x := a) (ox := oe) C.hg C.hk C.hs C.hd C.ha C.hn C.ht C.hm, ⟨hp, hz.1, ?_, ?_⟩⟩
  · unfold PySem.W.notCls
    rw [hfv] <;> rfl
  · rw [hz.2]
    trivial
def rX1 (K : PySem.W.Frag) (D0 a : Addr) : List V → Hp → VK → Prop := fun xs H Q => ∃ (cv : V) (cu : Value) (b : Bool), xs = [.ref a, cv] ∧ ClsV cv cu ∧ PySem.W.kitOne K (.ref D0) cu = some b ∧ Q (.bl b) H
def rXT (K : PySem.W.Frag) (D0 a : Addr) : List V → Hp → VK → Prop := fun xs H Q => ∃ (tp : Addr) (cvs : List V) (cus : List Value) (b : Bool), xs = [.ref a, .ref tp] ∧ H tp = some (.tup cvs) ∧ Paired ClsV cvs cus ∧ PySem.W.kitAny K (.ref D0) cus = some b ∧ Q (.bl b) H
theorem call_x1 (C : ExcC X.K D0) (hz : Zc (.ref D0) none oe) (hf : ∃ vs, oe.data = .fields vs) : CallR (X.suite a ((a, oe) :: pn)) (.builtin "isinstance") (rX1 X.K D0 a) := by
  rintro pins s σ H xs us Q I r ⟨cv, cu, b, rfl, kc, e, q⟩
  obtain ⟨w1, w2, rfl, r1, r2⟩ := vals2 r
  obtain rfl : w1 = Value.ref a := r1
  have e2 := kc.eq r2
  subst e2
  obtain ⟨P, Z, hP⟩ := kit_exc C hz hf I
  exact PySem.W.kia_one Z I.kIn hP e (fun z => nomatch z) fun tk => ⟨.bl b, H, I.tok tk, rfl, q⟩
theorem call_xT (C : ExcC X.K D0) (hz : Zc (.ref D0) none oe) (hf : ∃ vs, oe.data = .fields vs) : CallR (X.suite a ((a, oe) :: pn)) (.builtin "isinstance") (rXT X.K D0 a) := by
  rintro pins s σ H xs us Q I r ⟨tp, cvs, cus, b, rfl, hT, kc, e, q⟩
  obtain ⟨w1, w2, rfl, r1, r2⟩ := vals2 r
  obtain rfl : w1 = Value.ref a := r1
  obtain rfl : w2 = Value.ref tp := r2
  obtain ⟨P, Z, hP⟩ := kit_exc C hz hf I
  obtain ⟨_, its, rv, ob, g1, g2, nn, g3⟩ := (show ObjOk X.prog X.w H s.heap tp (.tup cvs) from I.hok tp _ hT)
  have e3 := ClsV.all kc rv
  subst e3
  obtain ⟨ocl, odd, odt, osl⟩ := ob
  dsimp only at g2 g3
  subst g2 g3
  exact PySem.W.kia_tup Z I.kIn hP g1 e (fun z => nomatch z) fun tk => ⟨.bl b, H, I.tok tk, rfl, q⟩
theorem exn_at {K : PySem.W.Frag} {F G : Hp} {am : List Addr} {sl : Sl} {σ : L2.St} (S : SlR K (L.wx (some (a, xf))) F G am sl σ) (h : sl[i]? = some .exn) : σ[i]? = some (some (.ref a)) ∧ ∀ dd nm v, xf = some (dd, nm, v) → G dd = some (.xd [(nm, v)]) := by
  obtain ⟨o, ho, a', x, e1, e2, k⟩ := S.at h
  have e3 : some (a, xf) = some (a', x) := e1
  cases e3
  exact ⟨by rw [ho, e2], k⟩
theorem xf_cases {sl : Sl} {om : Om} {d : D} : (sl[i]? = some .exn ∧ evE T (.xf i d) sl om = .ok d om) ∨ evE T (.xf i d) sl om = .stuck := by
  rw [evE]
  split
  · rename_i h
    exact .inl ⟨h, rfl⟩
  · exact .inr rfl
/-- isinstance(e, C) -/
theorem pE_x1 (C : ExcC X.K D0) (hz : Zc (.ref D0) none oe) (hf : ∃ vs, oe.data = .fields vs) (hN : (X.suite a ((a, oe) :: pn)).N[i]? = some nm) (hv : Vis (X.suite a ((a, oe) :: pn)).env.scope nm) (hg : Gl (X.suite a ((a, oe) :: pn)) "isinstance") (hm : X.mg "isinstance" = none)
    (kc : ClsV cv cu) (hk : PySem.W.kitOne X.K (.ref D0) cu = some b) (hc : PE (X.suite a ((a, oe) :: pn)) c (tC cv)) (hdb : (nm == ("__debug__" : Str)) = false := by decide) (hcd : (nm == ("__classdict__" : Str)) = false := by decide)
    (he : starEach (.Name nm p1 :: [c]) X.env = (false, eval (.Name nm p1) X.env) :: starEach [c] X.env := by rfl) (he2 : starEach (c :: []) X.env = (false, eval c X.env) :: starEach [] X.env := by rfl) (hpl : (backTo pos (starEach [c] X.env)).any (·.1) = false := by rfl) :
    PE (X.suite a ((a, oe) :: pn)) (.Call (.Name "isinstance" pp) [.Name nm p1, c] [] pos) (rdE X.K (L.wx (some (a, xf))) T W (.xf i (.bl b))) :=
  (pe_callB (call_x1 C hz hf) hg hm rfl (pa_cons (pe_var hN hv hdb hcd) (pa_cons hc pa_nil he2) he) (by decide) (by decide) he hpl).imp fun σ H Q ⟨F, G, am, om, sl, M, S, q⟩ => by
    rcases xf_cases (T := T) (i := i) (sl := sl) (om := om) (d := .bl b) with ⟨h, e⟩ | e
    · rw [e] at q
      exact ⟨.ref a, (exn_at S h).1, cv, cu, b, rfl, kc, hk, q _ H G am Grow.refl M (.bl b)⟩
    · rw [e] at q
      exact q.elim
/-- isinstance(e, (C1, C2, ..)) -/
theorem pE_xT (C : ExcC X.K D0) (hz : Zc (.ref D0) none oe) (hf : ∃ vs, oe.data = .fields vs) (hN : (X.suite a ((a, oe) :: pn)).N[i]? = some nm) (hv : Vis (X.suite a ((a, oe) :: pn)).env.scope nm) (hg : Gl (X.suite a ((a, oe) :: pn)) "isinstance") (hm : X.mg "isinstance" = none)
    (kc : Paired ClsV cvs cus) (hk : PySem.W.kitAny X.K (.ref D0) cus = some b) (hl : cvs.length ≤ 1000) {ta : TA} (hc : PA (X.suite a ((a, oe) :: pn)) es ta) (hta : ∀ σ H (Q : List V → Hp → Prop), Q cvs H → ta σ H Q) (hdb : (nm == ("__debug__" : Str)) = false := by decide) (hcd : (nm == ("__classdict__" : Str)) = false := by decide)
    (he : starEach (.Name nm p1 :: [.Tuple es x1 p3]) X.env = (false, eval (.Name nm p1) X.env) :: starEach [.Tuple es x1 p3] X.env := by rfl) (he2 : starEach (.Tuple es x1 p3 :: []) X.env = (false, eval (.Tuple es x1 p3) X.env) :: starEach [] X.env := by rfl) (hpl : (backTo pos (starEach [.Tuple es x1 p3] X.env)).any (·.1) = false := by rfl) :
    PE (X.suite a ((a, oe) :: pn)) (.Call (.Name "isinstance" pp) [.Name nm p1, .Tuple es x1 p3] [] pos) (rdE X.K (L.wx (some (a, xf))) T W (.xf i (.bl b))) :=
  (pe_callB (call_xT C hz hf) hg hm rfl (pa_cons (pe_var hN hv hdb hcd) (pa_cons (pe_tup hc) pa_nil he2) he) (by decide) (by decide) he hpl).imp fun σ H Q ⟨F, G, am, om, sl, M, S, q⟩ => by
    rcases xf_cases (T := T) (i := i) (sl := sl) (om := om) (d := .bl b) with ⟨h, e⟩ | e
    · rw [e] at q
      refine ⟨.ref a, (exn_at S h).1, hta _ _ _ ⟨sz_le (by omega), fun t ht => ⟨t, cvs, cus, b, rfl, upd_same, kc, hk, ?_⟩⟩⟩
      exact q _ _ _ am (Grow.of (M.none_g ht)) (M.new ht) (.bl b)
    · rw [e] at q
      exact q.elim
/-- e.f: a text or an int -/
theorem pE_xf {f : Str} {d : Option Addr} {d0 : D} {fs : List D} {cc : Nat} (TC : XfC X.K (L.ca cc)) (hno : PySem.W.findIn X.K (.ref (L.ca cc)) f = some none) (hz : Zc (.ref (L.ca cc)) d oe) (hf : ∃ vs, oe.data = .fields vs) (hx : XfR X.K L cc (d0 :: fs) d xf) (hfn : (L.fn cc).head? = some f)
    (hflat : (∃ t, d0 = .str t) ∨ (∃ z, d0 = .int z)) (hN : (X.suite a ((a, oe) :: pn)).N[i]? = some nm) (hv : Vis (X.suite a ((a, oe) :: pn)).env.scope nm) (hdb : (nm == ("__debug__" : Str)) = false := by decide) (hcd : (nm == ("__classdict__" : Str)) = false := by decide)
    (hb : attributeBase (.Name nm p1) f X.env (eval (.Name nm p1) X.env) = eval (.Name nm p1) X.env := by rfl) :
    PE (X.suite a ((a, oe) :: pn)) (.Attribute (.Name nm p1) f pos) (rdE X.K (L.wx (some (a, xf))) T W (.xf i d0)) :=
  (pe_xf TC hno hz hf (pe_var hN hv hdb hcd) hb).imp fun σ H Q ⟨F, G, am, om, sl, M, S, q⟩ => by
    rcases xf_cases (T := T) (i := i) (sl := sl) (om := om) (d := d0) with ⟨h, e⟩ | e
    · rw [e] at q
      obtain ⟨dd, v, nm', G', am', e1, e2, e3, e4⟩ := hx
      have e5 : nm' = f := by
        rw [hfn] at e2
        exact (Option.some.inj e2).symm
      subst e5
      obtain ⟨z1, z2⟩ := exn_at S h
      refine ⟨.ref a, z1, rfl, rfl, dd, [(nm', v)], v, e1, M.gH _ _ (z2 _ _ _ e3), by simp [List.lookup], ?_⟩
      rcases hflat with ⟨t, rfl⟩ | ⟨t, rfl⟩
      · cases e4
        exact q _ H G am Grow.refl M (.str t)
      · cases e4
        exact q _ H G am Grow.refl M (.int t)
    · rw [e] at q
      exact q.elim
end
end PD

set_option Elab.async false
set_option linter.all false
set_option maxRecDepth 100000
set_option maxHeartbeats 1000000
/-! The program's defs in the small language, and that each is what it says: printed by gen.py. -/
namespace K00
open PySem PySem.Spec PyProof.Rows L2 PD
def top (i : Nat) : Stmt := PySem.Challenge.pw_seesmore_k00_fractions.main.body.getD i (.Pass ⟨0, 0, 0, 0⟩)
abbrev s_Ratio_init : Stmt := inClass (top 9) 0
abbrev s_Ratio_eq : Stmt := inClass (top 9) 1
abbrev s_Ratio_add : Stmt := inClass (top 9) 2
abbrev s_Ratio_sub : Stmt := inClass (top 9) 3
abbrev s_Ratio_mul : Stmt := inClass (top 9) 4
abbrev s_Ratio_str : Stmt := inClass (top 9) 5
abbrev s_Ratio_less : Stmt := inClass (top 9) 6
abbrev s_Ratio_by : Stmt := inClass (top 9) 7
abbrev s_common : Stmt := top 10
abbrev s_Lpool : Stmt := top 12
abbrev s_Ldraw : Stmt := top 13
abbrev s_Lsame : Stmt := top 14
abbrev s_Lless : Stmt := top 15
abbrev s_Lplus : Stmt := top 16
abbrev s_Lminus : Stmt := top 17
abbrev s_Ltimes : Stmt := top 18
abbrev s_Lbelow : Stmt := top 19
abbrev s_Lratio : Stmt := top 20
abbrev s_Lis : Stmt := top 21
abbrev s_Lrefused : Stmt := top 22
abbrev s_Lpair : Stmt := top 23
abbrev s_Lchain : Stmt := top 24
abbrev s_law : Stmt := top 25
def cs_Lrefused_0 : Nat → Option Bool := fun c => match c with
  | 3 => some true
  | _ => none
def hd_Lrefused_0 (c : Nat) (fs : List D) : S := if c = 3 then (match fs with
    | [] => (.seq (.ite (.xf 2 (.bl false)) (.seq (.ret (.k (.bl false))) .skip) .skip) (.seq (.ret (.an (.xf 2 (.bl true)) (.xf 2 (.bl true)))) .skip))
    | _ => .never) else .never
def B_Ratio_init : S := (.seq (.ite (.cm .le (.v 2) (.k (.int 0))) (.seq (.rais 3 .nil) .skip) .skip) (.seq (.set 3 (.call 8 [] (.cons (.bi .abs (.v 1)) (.cons (.v 2) .nil)))) (.seq (.setF 0 0 (.op .fdiv (.v 1) (.v 3))) (.seq (.setF 0 1 (.op .fdiv (.v 2) (.v 3))) .skip))))
def B_Ratio_eq : S := (.seq (.ret (.an (.isi [.own 0] (.v 1)) (.an (.cm .eq (.fld 0 0 (.v 0)) (.fld 0 0 (.v 1))) (.cm .eq (.fld 0 1 (.v 0)) (.fld 0 1 (.v 1)))))) .skip)
def B_Ratio_add : S := (.seq (.ret (.mk 0 0 [] (.cons (.op .add (.op .mul (.fld 0 0 (.v 0)) (.fld 0 1 (.v 1))) (.op .mul (.fld 0 0 (.v 1)) (.fld 0 1 (.v 0)))) (.cons (.op .mul (.fld 0 1 (.v 0)) (.fld 0 1 (.v 1))) .nil)))) .skip)
def B_Ratio_sub : S := (.seq (.ret (.mk 0 0 [] (.cons (.op .sub (.op .mul (.fld 0 0 (.v 0)) (.fld 0 1 (.v 1))) (.op .mul (.fld 0 0 (.v 1)) (.fld 0 1 (.v 0)))) (.cons (.op .mul (.fld 0 1 (.v 0)) (.fld 0 1 (.v 1))) .nil)))) .skip)
def B_Ratio_mul : S := (.seq (.ret (.mk 0 0 [] (.cons (.op .mul (.fld 0 0 (.v 0)) (.fld 0 0 (.v 1))) (.cons (.op .mul (.fld 0 1 (.v 0)) (.fld 0 1 (.v 1))) .nil)))) .skip)
def B_Ratio_str : S := (.seq (.ite (.cm .eq (.fld 0 1 (.v 0)) (.k (.int 1))) (.seq (.ret (.bi .str (.fld 0 0 (.v 0)))) .skip) .skip) (.seq (.ret (.fstr (.cons (.fld 0 0 (.v 0)) (.cons (.k (.str "/")) (.cons (.fld 0 1 (.v 0)) .nil))))) .skip))
def B_Ratio_less : S := (.seq (.ret (.cm .lt (.op .mul (.fld 0 0 (.v 0)) (.fld 0 1 (.v 1))) (.op .mul (.fld 0 0 (.v 1)) (.fld 0 1 (.v 0))))) .skip)
def B_Ratio_by : S := (.seq (.ite (.cm .eq (.fld 0 0 (.v 1)) (.k (.int 0))) (.seq (.rais 3 .nil) .skip) .skip) (.seq (.set 2 (.ite (.cm .gt (.fld 0 0 (.v 1)) (.k (.int 0))) (.k (.int 1)) (.neg (.k (.int 1))))) (.seq (.ret (.mk 0 0 [] (.cons (.op .mul (.op .mul (.v 2) (.fld 0 0 (.v 0))) (.fld 0 1 (.v 1))) (.cons (.op .mul (.op .mul (.v 2) (.fld 0 0 (.v 1))) (.fld 0 1 (.v 0))) .nil)))) .skip)))
def B_common : S := (.seq (.whl (.v 1) (.seq (.par 0 1 (.v 1) (.op .mod (.v 0) (.v 1))) .skip)) (.seq (.ret (.v 0)) .skip))
def B_Lpool : S := (.seq (.retF (.lst (.cons (.bi .list (.v 0)) (.cons (.k (.int 0)) (.cons (.k (.int 0)) (.cons (.k (.int 1)) (.cons (.k (.int 0)) (.cons (.v 1) .nil)))))))) .skip)
def B_Ldraw : S := (.seq (.ite (.an (.cm .le (.ix (.v 0) (.k (.int 2))) (.k (.int 0))) (.an (.cm .le (.ix (.v 0) (.k (.int 4))) (.k (.int 0))) (.cm .lt (.ix (.v 0) (.k (.int 1))) (.bi .len (.ix (.v 0) (.k (.int 0))))))) (.seq (.set 2 (.ix (.ix (.v 0) (.k (.int 0))) (.ix (.v 0) (.k (.int 1))))) (.seq (.setIA 0 (.k (.int 1)) (.op .add (.ix (.v 0) (.k (.int 1))) (.k (.int 1)))) (.seq (.setIA 0 (.k (.int 3)) (.op .mod (.bi .int (.op .add (.op .mul (.ix (.v 0) (.k (.int 3))) (.k (.int 31))) (.v 2))) (.k (.int 2147483647)))) (.seq (.setIA 0 (.k (.int 4)) (.k (.int 7))) (.seq (.ite (.cm .ge (.v 2) (.op .pow (.k (.int 10)) (.k (.int 18)))) (.seq (.setIA 0 (.k (.int 2)) (.v 2)) .skip) .skip) .skip))))) .skip) (.seq (.ite (.cm .gt (.ix (.v 0) (.k (.int 2))) (.k (.int 0))) (.seq (.set 3 (.op .mod (.bi .int (.ix (.v 0) (.k (.int 2)))) (.v 1))) (.seq (.setIA 0 (.k (.int 2)) (.op .fdiv (.ix (.v 0) (.k (.int 2))) (.v 1))) (.seq (.setIA 0 (.k (.int 4)) (.k (.int 0))) (.seq (.ret (.v 3)) .skip)))) .skip) (.seq (.setIA 0 (.k (.int 4)) (.op .sub (.ix (.v 0) (.k (.int 4))) (.k (.int 1)))) (.seq (.setIA 0 (.k (.int 3)) (.op .mod (.bi .int (.op .add (.op .mul (.ix (.v 0) (.k (.int 3))) (.k (.int 48271))) (.k (.int 12345)))) (.k (.int 2147483647)))) (.seq (.ret (.op .mod (.op .mod (.bi .int (.op .add (.op .mul (.ix (.v 0) (.k (.int 3))) (.k (.int 69621))) (.k (.int 7919)))) (.k (.int 2147483647))) (.v 1))) .skip)))))
def B_Lsame : S := (.seq (.ite (.or (.isi [.tuple] (.v 1)) (.isi [.list] (.v 1))) (.seq (.ite (.or (.cm .ne (.isi [.tuple] (.v 1)) (.isi [.tuple] (.v 0))) (.cm .ne (.isi [.list] (.v 1)) (.isi [.list] (.v 0)))) (.seq (.ret (.k (.bl false))) .skip) .skip) (.seq (.ite (.cm .ne (.bi .len (.v 0)) (.bi .len (.v 1))) (.seq (.ret (.k (.bl false))) .skip) .skip) (.seq (.fo (.one 2) (.rng1 (.bi .len (.v 1))) (.seq (.ite (.no (.call 11 [] (.cons (.ix (.v 0) (.v 2)) (.cons (.ix (.v 1) (.v 2)) .nil)))) (.seq (.ret (.k (.bl false))) .skip) .skip) .skip)) (.seq (.ret (.k (.bl true))) .skip)))) .skip) (.seq (.ite (.or (.cm .is (.v 1) (.k .non)) (.isi [.bool] (.v 1))) (.seq (.ret (.an (.cm .eq (.cm .is (.v 0) (.k .non)) (.cm .is (.v 1) (.k .non))) (.an (.or (.cm .is (.v 1) (.k .non)) (.isi [.bool] (.v 0))) (.cm .eq (.v 0) (.v 1))))) .skip) .skip) (.seq (.ite (.isi [.int] (.v 1)) (.seq (.ret (.an (.isi [.int] (.v 0)) (.an (.no (.isi [.bool] (.v 0))) (.cm .eq (.v 0) (.v 1))))) .skip) .skip) (.seq (.ret (.an (.isi [.str] (.v 0)) (.cm .eq (.v 0) (.v 1)))) .skip))))
def B_Lless : S := (.seq (.set 2 (.bi .abs (.v 0))) (.seq (.set 3 (.v 1)) (.seq (.fo (.one 4) (.rng1 (.k (.int 4000))) (.seq (.ite (.cm .eq (.v 3) (.k (.int 0))) (.seq .brk .skip) .skip) (.seq (.par 2 3 (.v 3) (.op .mod (.bi .int (.v 2)) (.v 3))) .skip))) (.seq (.ret (.tup (.cons (.op .fdiv (.v 0) (.v 2)) (.cons (.op .fdiv (.v 1) (.v 2)) .nil)))) .skip))))
def B_Lplus : S := (.seq (.ret (.call 12 [] (.cons (.op .add (.op .mul (.ix (.v 0) (.k (.int 0))) (.ix (.v 1) (.k (.int 1)))) (.op .mul (.ix (.v 1) (.k (.int 0))) (.ix (.v 0) (.k (.int 1))))) (.cons (.op .mul (.ix (.v 0) (.k (.int 1))) (.ix (.v 1) (.k (.int 1)))) .nil)))) .skip)
def B_Lminus : S := (.seq (.ret (.call 12 [] (.cons (.op .sub (.op .mul (.ix (.v 0) (.k (.int 0))) (.ix (.v 1) (.k (.int 1)))) (.op .mul (.ix (.v 1) (.k (.int 0))) (.ix (.v 0) (.k (.int 1))))) (.cons (.op .mul (.ix (.v 0) (.k (.int 1))) (.ix (.v 1) (.k (.int 1)))) .nil)))) .skip)
def B_Ltimes : S := (.seq (.ret (.call 12 [] (.cons (.op .mul (.ix (.v 0) (.k (.int 0))) (.ix (.v 1) (.k (.int 0)))) (.cons (.op .mul (.ix (.v 0) (.k (.int 1))) (.ix (.v 1) (.k (.int 1)))) .nil)))) .skip)
def B_Lbelow : S := (.seq (.ret (.cm .lt (.op .mul (.ix (.v 0) (.k (.int 0))) (.ix (.v 1) (.k (.int 1)))) (.op .mul (.ix (.v 1) (.k (.int 0))) (.ix (.v 0) (.k (.int 1)))))) .skip)
def B_Lratio : S := (.seq (.ret (.mk 0 0 [] (.cons (.ix (.v 0) (.k (.int 0))) (.cons (.ix (.v 0) (.k (.int 1))) .nil)))) .skip)
def B_Lis : S := (.seq (.ret (.an (.isi [.own 0] (.v 0)) (.call 11 [] (.cons (.lst (.cons (.fld 0 0 (.v 0)) (.cons (.fld 0 1 (.v 0)) .nil))) (.cons (.bi .list (.v 1)) .nil))))) .skip)
def B_Lrefused : S := (.seq (.tr (.seq (.ite (.cm .is (.v 1) (.k .non)) (.seq (.drop (.mk 0 0 [] (.cons (.ix (.v 0) (.k (.int 0))) (.cons (.ix (.v 0) (.k (.int 1))) .nil)))) .skip) (.seq (.drop (.meth 0 7 [] (.mk 0 0 [] (.cons (.ix (.v 0) (.k (.int 0))) (.cons (.ix (.v 0) (.k (.int 1))) .nil))) (.cons (.mk 0 0 [] (.cons (.ix (.v 1) (.k (.int 0))) (.cons (.ix (.v 1) (.k (.int 1))) .nil))) .nil))) .skip)) .skip) cs_Lrefused_0 2 hd_Lrefused_0) (.seq (.ret (.k (.bl false))) .skip))
def B_Lpair : S := (.seq (.set 1 (.op .sub (.call 10 [] (.cons (.v 0) (.cons (.k (.int 2000001)) .nil))) (.k (.int 1000000)))) (.seq (.ret (.tup (.cons (.ix (.tup (.cons (.v 1) (.cons (.op .sub (.call 10 [] (.cons (.v 0) (.cons (.k (.int 9)) .nil))) (.k (.int 4))) (.cons (.k (.int 0)) .nil)))) (.call 10 [] (.cons (.v 0) (.cons (.k (.int 3)) .nil)))) (.cons (.op .add (.k (.int 1)) (.ix (.tup (.cons (.call 10 [] (.cons (.v 0) (.cons (.k (.int 1000)) .nil))) (.cons (.call 10 [] (.cons (.v 0) (.cons (.k (.int 6)) .nil))) .nil))) (.call 10 [] (.cons (.v 0) (.cons (.k (.int 2)) .nil))))) .nil)))) .skip))
def B_Lchain : S := (.seq (.set 1 (.k (.int 1))) (.seq (.set 2 (.k (.int 1))) (.seq (.fo (.one 3) (.rng1 (.v 0)) (.seq (.set 4 (.v 2)) (.seq (.set 2 (.op .add (.v 1) (.v 2))) (.seq (.set 1 (.v 4)) .skip)))) (.seq (.ret (.tup (.cons (.v 1) (.cons (.v 2) .nil)))) .skip))))
def B_law : S := (.seq (.setA 1 (.call 9 [] (.cons (.v 0) (.cons (.k (.int 0)) .nil)))) (.seq (.fo (.one 2) (.rng1 (.k (.int 4))) (.seq (.set 3 (.call 20 [] (.cons (.v 1) .nil))) (.seq (.ite (.cm .eq (.call 10 [] (.cons (.v 1) (.cons (.k (.int 5)) .nil))) (.k (.int 0))) (.seq (.set 3 (.call 21 [] (.cons (.op .add (.k (.int 1)) (.call 10 [] (.cons (.v 1) (.cons (.k (.int 1500)) .nil)))) .nil))) .skip) .skip) (.seq (.set 4 (.ix (.tup (.cons (.call 20 [] (.cons (.v 1) .nil)) (.cons (.v 3) .nil))) (.bi .int (.cm .eq (.call 10 [] (.cons (.v 1) (.cons (.k (.int 5)) .nil))) (.k (.int 0)))))) (.seq (.set 5 (.call 17 [] (.cons (.v 3) .nil))) (.seq (.set 6 (.call 17 [] (.cons (.v 4) .nil))) (.seq (.set 7 (.call 12 [] (.cons (.ix (.v 3) (.k (.int 0))) (.cons (.ix (.v 3) (.k (.int 1))) .nil)))) (.seq (.set 8 (.bi .str (.ix (.v 7) (.k (.int 0))))) (.seq (.ite (.cm .gt (.ix (.v 7) (.k (.int 1))) (.k (.int 1))) (.seq (.set 8 (.op .add (.op .add (.v 8) (.k (.str "/"))) (.bi .str (.ix (.v 7) (.k (.int 1)))))) .skip) .skip) (.seq (.ite (.or (.no (.call 18 [] (.cons (.v 5) (.cons (.v 7) .nil)))) (.or (.no (.call 11 [] (.cons (.bi .str (.v 5)) (.cons (.v 8) .nil)))) (.no (.call 18 [] (.cons (.op .add (.v 5) (.v 6)) (.cons (.call 13 [] (.cons (.v 3) (.cons (.v 4) .nil))) .nil)))))) (.seq (.ret (.k (.bl false))) .skip) .skip) (.seq (.ite (.or (.no (.call 18 [] (.cons (.op .sub (.v 5) (.v 6)) (.cons (.call 14 [] (.cons (.v 3) (.cons (.v 4) .nil))) .nil)))) (.no (.call 18 [] (.cons (.op .mul (.v 5) (.v 6)) (.cons (.call 15 [] (.cons (.v 3) (.cons (.v 4) .nil))) .nil))))) (.seq (.ret (.k (.bl false))) .skip) .skip) (.seq (.ite (.or (.no (.call 11 [] (.cons (.meth 0 6 [] (.v 5) (.cons (.v 6) .nil)) (.cons (.call 16 [] (.cons (.v 3) (.cons (.v 4) .nil))) .nil)))) (.no (.call 11 [] (.cons (.cm .eq (.v 5) (.v 6)) (.cons (.cm .eq (.call 12 [] (.cons (.ix (.v 4) (.k (.int 0))) (.cons (.ix (.v 4) (.k (.int 1))) .nil))) (.v 7)) .nil))))) (.seq (.ret (.k (.bl false))) .skip) .skip) (.seq (.set 9 (.op .sub (.k (.int 1)) (.op .mul (.k (.int 2)) (.bi .int (.cm .lt (.ix (.v 4) (.k (.int 0))) (.k (.int 0))))))) (.seq (.ite (.cm .eq (.ix (.v 4) (.k (.int 0))) (.k (.int 0))) (.seq (.ite (.no (.call 19 [] (.cons (.v 3) (.cons (.v 4) .nil)))) (.seq (.ret (.k (.bl false))) .skip) .skip) .skip) (.seq (.ite (.no (.call 18 [] (.cons (.meth 0 7 [] (.v 5) (.cons (.v 6) .nil)) (.cons (.call 12 [] (.cons (.op .mul (.op .mul (.ix (.v 3) (.k (.int 0))) (.ix (.v 4) (.k (.int 1)))) (.v 9)) (.cons (.op .mul (.op .mul (.ix (.v 3) (.k (.int 1))) (.ix (.v 4) (.k (.int 0)))) (.v 9)) .nil))) .nil)))) (.seq (.ret (.k (.bl false))) .skip) .skip) .skip)) (.seq (.ite (.or (.no (.call 18 [] (.cons (.v 5) (.cons (.v 7) .nil)))) (.or (.no (.call 18 [] (.cons (.v 6) (.cons (.call 12 [] (.cons (.ix (.v 4) (.k (.int 0))) (.cons (.ix (.v 4) (.k (.int 1))) .nil))) .nil)))) (.no (.call 11 [] (.cons (.meth 0 6 [] (.v 5) (.cons (.v 6) .nil)) (.cons (.call 16 [] (.cons (.v 3) (.cons (.v 4) .nil))) .nil)))))) (.seq (.ret (.k (.bl false))) .skip) .skip) .skip))))))))))))))) (.seq (.fo (.one 2) (.rng1 (.k (.int 2))) (.seq (.ite (.no (.call 19 [] (.cons (.tup (.cons (.op .sub (.call 10 [] (.cons (.v 1) (.cons (.k (.int 9)) .nil))) (.k (.int 4))) (.cons (.op .sub (.k (.int 0)) (.ix (.tup (.cons (.call 10 [] (.cons (.v 1) (.cons (.k (.int 3)) .nil))) (.cons (.call 10 [] (.cons (.v 1) (.cons (.k (.int 1001)) .nil))) .nil))) (.v 2))) .nil))) (.cons (.k .non) .nil)))) (.seq (.ret (.k (.bl false))) .skip) .skip) .skip)) (.seq (.ret (.call 18 [] (.cons (.mk 0 0 [(.int 1)] (.cons (.k (.int 7)) .nil)) (.cons (.tup (.cons (.k (.int 7)) (.cons (.k (.int 1)) .nil))) .nil)))) .skip))))
def dl : List Def := [⟨3, 4, B_Ratio_init, some 0⟩, ⟨2, 2, B_Ratio_eq, none⟩, ⟨2, 2, B_Ratio_add, none⟩, ⟨2, 2, B_Ratio_sub, none⟩, ⟨2, 2, B_Ratio_mul, none⟩, ⟨1, 1, B_Ratio_str, none⟩, ⟨2, 2, B_Ratio_less, none⟩, ⟨2, 3, B_Ratio_by, none⟩, ⟨2, 2, B_common, none⟩, ⟨2, 2, B_Lpool, none⟩, ⟨2, 4, B_Ldraw, none⟩, ⟨2, 3, B_Lsame, none⟩, ⟨2, 5, B_Lless, none⟩, ⟨2, 2, B_Lplus, none⟩, ⟨2, 2, B_Lminus, none⟩, ⟨2, 2, B_Ltimes, none⟩, ⟨2, 2, B_Lbelow, none⟩, ⟨1, 1, B_Lratio, none⟩, ⟨2, 2, B_Lis, none⟩, ⟨2, 3, B_Lrefused, none⟩, ⟨1, 2, B_Lpair, none⟩, ⟨1, 5, B_Lchain, none⟩, ⟨1, 10, B_law, none⟩]
def frl : List Nat := [9]
def p_opm : Nat → Bop → Option Nat := fun c o => match c, o with
  | 0, .add => some 2
  | 0, .sub => some 3
  | 0, .mul => some 4
  | _, _ => none
def p_eqm : Nat → Option Nat := fun c => match c with
  | 0 => some 1
  | _ => none
def p_strm : Nat → Option Nat := fun c => match c with
  | 0 => some 5
  | _ => none
def p_nf : Nat → Nat := fun c => match c with
  | 0 => 2
  | 1 => 0
  | 2 => 1
  | 3 => 0
  | 4 => 1
  | 5 => 1
  | 6 => 1
  | 7 => 1
  | _ => 0
def prog : Prog := { defs := fun i => dl[i]?, fresh := fun i => frl.contains i, opm := p_opm, eqm := p_eqm, strm := p_strm, nf := p_nf }
def fnl (c : Nat) : List Str := match c with
  | 0 => ["num", "den"]
  | 1 => []
  | 2 => ["at"]
  | 3 => []
  | 4 => ["what"]
  | 5 => ["what"]
  | 6 => ["at"]
  | 7 => ["what"]
  | _ => []
def lk (ca : Nat → Addr) : Lk := { ca := ca, fn := fnl }
/-- what the top has written -/
structure Txt (K : PySem.W.Frag) (mg : Str → Option Value) (ca : Nat → Addr) (fi : Nat → FI) : Prop where
  bd0_2 : ∃ ds, Vals [V.int 1] ds ∧ Binds K (fi 0).fd (fi 0).ps ds
  b0 : Binds K (fi 0).fd (fi 0).ps []
  b1 : Binds K (fi 1).fd (fi 1).ps []
  b2 : Binds K (fi 2).fd (fi 2).ps []
  b3 : Binds K (fi 3).fd (fi 3).ps []
  b4 : Binds K (fi 4).fd (fi 4).ps []
  b5 : Binds K (fi 5).fd (fi 5).ps []
  me6 : Meth K (ca 0) "less" (fi 6).addr
  b6 : Binds K (fi 6).fd (fi 6).ps []
  me7 : Meth K (ca 0) "by" (fi 7).addr
  b7 : Binds K (fi 7).fd (fi 7).ps []
  m8 : mg "common" = some (.ref (fi 8).addr)
  k8 : PySem.W.keepIn K (.ref (fi 8).addr) = true
  b8 : Binds K (fi 8).fd (fi 8).ps []
  m9 : mg "_law_pool" = some (.ref (fi 9).addr)
  k9 : PySem.W.keepIn K (.ref (fi 9).addr) = true
  b9 : Binds K (fi 9).fd (fi 9).ps []
  m10 : mg "_law_draw" = some (.ref (fi 10).addr)
  k10 : PySem.W.keepIn K (.ref (fi 10).addr) = true
  b10 : Binds K (fi 10).fd (fi 10).ps []
  m11 : mg "_law_same" = some (.ref (fi 11).addr)
  k11 : PySem.W.keepIn K (.ref (fi 11).addr) = true
  b11 : Binds K (fi 11).fd (fi 11).ps []
  m12 : mg "_law_less" = some (.ref (fi 12).addr)
  k12 : PySem.W.keepIn K (.ref (fi 12).addr) = true
  b12 : Binds K (fi 12).fd (fi 12).ps []
  m13 : mg "_law_plus" = some (.ref (fi 13).addr)
  k13 : PySem.W.keepIn K (.ref (fi 13).addr) = true
  b13 : Binds K (fi 13).fd (fi 13).ps []
  m14 : mg "_law_minus" = some (.ref (fi 14).addr)
  k14 : PySem.W.keepIn K (.ref (fi 14).addr) = true
  b14 : Binds K (fi 14).fd (fi 14).ps []
  m15 : mg "_law_times" = some (.ref (fi 15).addr)
  k15 : PySem.W.keepIn K (.ref (fi 15).addr) = true
  b15 : Binds K (fi 15).fd (fi 15).ps []
  m16 : mg "_law_below" = some (.ref (fi 16).addr)
  k16 : PySem.W.keepIn K (.ref (fi 16).addr) = true
  b16 : Binds K (fi 16).fd (fi 16).ps []
  m17 : mg "_law_ratio" = some (.ref (fi 17).addr)
  k17 : PySem.W.keepIn K (.ref (fi 17).addr) = true
  b17 : Binds K (fi 17).fd (fi 17).ps []
  m18 : mg "_law_is" = some (.ref (fi 18).addr)
  k18 : PySem.W.keepIn K (.ref (fi 18).addr) = true
  b18 : Binds K (fi 18).fd (fi 18).ps []
  m19 : mg "_law_refused" = some (.ref (fi 19).addr)
  k19 : PySem.W.keepIn K (.ref (fi 19).addr) = true
  b19 : Binds K (fi 19).fd (fi 19).ps []
  m20 : mg "_law_pair" = some (.ref (fi 20).addr)
  k20 : PySem.W.keepIn K (.ref (fi 20).addr) = true
  b20 : Binds K (fi 20).fd (fi 20).ps []
  m21 : mg "_law_chain" = some (.ref (fi 21).addr)
  k21 : PySem.W.keepIn K (.ref (fi 21).addr) = true
  b21 : Binds K (fi 21).fd (fi 21).ps []
  m22 : mg "law" = some (.ref (fi 22).addr)
  k22 : PySem.W.keepIn K (.ref (fi 22).addr) = true
  cl0 : Cls K (ca 0)
  mc0 : mg "Ratio" = some (.ref (ca 0))
  mk0 : Mk K (ca 0) (fi 0).addr
  na0_0 : NoAttr K (ca 0) "num"
  na0_1 : NoAttr K (ca 0) "den"
  isc0 : IsC K (ca 0)
  kit0 : PySem.W.kitOne K (.ref (ca 0)) (.ref (ca 0)) = some true
  xm6 : mg "BadPaper" = some (.ref (ca 6))
  xm3 : mg "BadRatio" = some (.ref (ca 3))
  xi3 : PySem.W.excIn K (ca 3) [.type "ValueError", .type "Exception", .type "BaseException", .type "object"] "ValueError.__new__" = true
  xk3 : PySem.W.keepIn K (.ref (ca 3)) = true
  xb3 : PySem.W.subIn K (.ref (ca 3)) (.type "BaseException") = some true
  xt3 : PySem.W.typeIn K (.ref (ca 3)) = some (.type "type")
  xc3 : ExcC K (ca 3)
  xm4 : mg "BadTable" = some (.ref (ca 4))
  xm5 : mg "BadTask" = some (.ref (ca 5))
  xm2 : mg "BadText" = some (.ref (ca 2))
  xm1 : mg "SeeError" = some (.ref (ca 1))
  xm7 : mg "TooLarge" = some (.ref (ca 7))
  ko3_BadPaper : PySem.W.kitOne K (.ref (ca 3)) (.ref (ca 6)) = some false
  ko3_BadRatio : PySem.W.kitOne K (.ref (ca 3)) (.ref (ca 3)) = some true
  ko3_BadTable : PySem.W.kitOne K (.ref (ca 3)) (.ref (ca 4)) = some false
  ko3_BadTask : PySem.W.kitOne K (.ref (ca 3)) (.ref (ca 5)) = some false
  ko3_BadText : PySem.W.kitOne K (.ref (ca 3)) (.ref (ca 2)) = some false
  ko3_TooLarge : PySem.W.kitOne K (.ref (ca 3)) (.ref (ca 7)) = some false
  ko3_ValueError : PySem.W.kitOne K (.ref (ca 3)) (.type "ValueError") = some true
  em3_1 : PySem.W.exmOne K (.ref (ca 3)) (.ref (ca 1)) = some true
  sf0_add : PySem.W.selfFirst K (ca 0) = true
  a2 : PySem.W.findIn K (.ref (ca 0)) "__add__" = some (some (.ref (fi 2).addr))
  i2 : PySem.W.isFn K (.ref (fi 2).addr) = true
  sf0_sub : PySem.W.selfFirst K (ca 0) = true
  a3 : PySem.W.findIn K (.ref (ca 0)) "__sub__" = some (some (.ref (fi 3).addr))
  i3 : PySem.W.isFn K (.ref (fi 3).addr) = true
  sf0_mul : PySem.W.selfFirst K (ca 0) = true
  a4 : PySem.W.findIn K (.ref (ca 0)) "__mul__" = some (some (.ref (fi 4).addr))
  i4 : PySem.W.isFn K (.ref (fi 4).addr) = true
  nt0 : PySem.W.notFirst K (ca 0) (.ref (ca 0)) = true
  a1 : PySem.W.findIn K (.ref (ca 0)) "__eq__" = some (some (.ref (fi 1).addr))
  i1 : PySem.W.isFn K (.ref (fi 1).addr) = true
  a5 : PySem.W.findIn K (.ref (ca 0)) "__str__" = some (some (.ref (fi 5).addr))
  i5 : PySem.W.isFn K (.ref (fi 5).addr) = true
  n_ValueError : mg "ValueError" = none
  n_abs : mg "abs" = none
  n_bool : mg "bool" = none
  n_int : mg "int" = none
  n_isinstance : mg "isinstance" = none
  n_len : mg "len" = none
  n_list : mg "list" = none
  n_range : mg "range" = none
  n_str : mg "str" = none
  n_tuple : mg "tuple" = none
section
variable {P : Program} {w : World} {K : PySem.W.Frag} {mg : Str → Option Value} {base : Heap} {ca : Nat → Addr} {fi : Nat → FI} {n : Nat}
theorem sc_Ratio_init : FnScope ["self", "num", "den", "shared"] ["self", "num", "den"] (defScope s_Ratio_init) := ⟨rfl, rfl, rfl, by decide +kernel, rfl, by decide +kernel, by decide +kernel⟩
theorem b_Ratio_init (hL : Lnk P w K mg base (lk ca) prog fi n) (Tx : Txt K mg ca fi) {wf : Nat} {cdv : Value} {A : Around} {outer : List Env} {s : Shared} {H : Hp} {E : XK} (hr : Room (2 * n + 1) (A.deeper (envOfC "Ratio.__init__" (defScope s_Ratio_init) s.heap.objs.size (fi 0).addr cdv))) :
    QSs (cxF P w K mg base ["self", "num", "den", "shared"] "Ratio.__init__" s_Ratio_init (fi 0).addr cdv A outer s H E) (lk ca) (tab prog wf n) (fun cls d _ H => E cls d H) (defBody s_Ratio_init) B_Ratio_init :=
  (qs_cons (q_ite (pT_cm hL hr .le (pB (pE_var (i := 2) rfl (by first | exact Or.inl rfl | exact Or.inr (Or.inl rfl) | exact Or.inr (Or.inr rfl)))) (pB pE_int) (nomark _))
      (qs_cons (q_rais0 rfl (takes_of rfl rfl rfl rfl) PySem.F.excBase_ValueError Tx.xi3 Tx.xm3 Tx.xk3 (raises_own Tx.xb3 Tx.xt3) rfl) qs_nil)
      qs_nil)
      (qs_cons (q_set (ps_set (i := 3) sc_Ratio_init.nd rfl (by first | exact Or.inl rfl | exact Or.inr rfl) (pE_call (f := 8) hL hr (takes_of rfl rfl rfl rfl) rfl rfl rfl rfl Tx.m8 Tx.k8 Tx.b8 .nil (fun _ _ => .nil) (pA_cons (pE_biB hL hr rfl .abs rfl rfl Tx.n_abs (by decide +kernel) (pB (pE_var (i := 1) rfl (by first | exact Or.inl rfl | exact Or.inr (Or.inl rfl) | exact Or.inr (Or.inr rfl))))) (pA_cons (pE_var (i := 2) rfl (by first | exact Or.inl rfl | exact Or.inr (Or.inl rfl) | exact Or.inr (Or.inr rfl))) pA_nil)))))
      (qs_cons (q_setF rfl (by first | exact Or.inl rfl | exact Or.inr (Or.inl rfl) | exact Or.inr (Or.inr rfl)) Tx.cl0 Tx.na0_0 rfl (show 2 < 1000 by decide) (pE_op hL hr .fdiv (pB (pE_var (i := 1) rfl (by first | exact Or.inl rfl | exact Or.inr (Or.inl rfl) | exact Or.inr (Or.inr rfl)))) (pB (pE_var (i := 3) rfl (by first | exact Or.inl rfl | exact Or.inr (Or.inl rfl) | exact Or.inr (Or.inr rfl))))) rfl)
      (qs_cons (q_setF rfl (by first | exact Or.inl rfl | exact Or.inr (Or.inl rfl) | exact Or.inr (Or.inr rfl)) Tx.cl0 Tx.na0_1 rfl (show 2 < 1000 by decide) (pE_op hL hr .fdiv (pB (pE_var (i := 2) rfl (by first | exact Or.inl rfl | exact Or.inr (Or.inl rfl) | exact Or.inr (Or.inr rfl)))) (pB (pE_var (i := 3) rfl (by first | exact Or.inl rfl | exact Or.inr (Or.inl rfl) | exact Or.inr (Or.inr rfl))))) rfl) qs_nil))))
theorem sc_Ratio_eq : FnScope ["self", "other"] ["self", "other"] (defScope s_Ratio_eq) := ⟨rfl, rfl, rfl, by decide +kernel, rfl, by decide +kernel, by decide +kernel⟩
theorem b_Ratio_eq (hL : Lnk P w K mg base (lk ca) prog fi n) (Tx : Txt K mg ca fi) {wf : Nat} {cdv : Value} {A : Around} {outer : List Env} {s : Shared} {H : Hp} {E : XK} (hr : Room (2 * n + 1) (A.deeper (envOfC "Ratio.__eq__" (defScope s_Ratio_eq) s.heap.objs.size (fi 1).addr cdv))) :
    QSs (cxF P w K mg base ["self", "other"] "Ratio.__eq__" s_Ratio_eq (fi 1).addr cdv A outer s H E) (lk ca) (tab prog wf n) (fun cls d _ H => E cls d H) (defBody s_Ratio_eq) B_Ratio_eq :=
  (qs_cons (q_ret (pE_an (pE_isi rfl Tx.n_isinstance (by decide +kernel) (tyOk_o Tx.kit0 Tx.isc0) (pB (pE_var (i := 1) rfl (by first | exact Or.inl rfl | exact Or.inr (Or.inl rfl) | exact Or.inr (Or.inr rfl)))) (pe_glob (v := .ref (ca 0)) rfl Tx.mc0 rfl)) (pE_an (pE_cm hL hr .eq (pB (pE_fld (pE_var (i := 0) rfl (by first | exact Or.inl rfl | exact Or.inr (Or.inl rfl) | exact Or.inr (Or.inr rfl))) Tx.cl0 Tx.na0_0 rfl rfl)) (pB (pE_fld (pE_var (i := 1) rfl (by first | exact Or.inl rfl | exact Or.inr (Or.inl rfl) | exact Or.inr (Or.inr rfl))) Tx.cl0 Tx.na0_0 rfl rfl)) (nomark _)) (pE_one (pE_cm hL hr .eq (pB (pE_fld (pE_var (i := 0) rfl (by first | exact Or.inl rfl | exact Or.inr (Or.inl rfl) | exact Or.inr (Or.inr rfl))) Tx.cl0 Tx.na0_1 rfl rfl)) (pB (pE_fld (pE_var (i := 1) rfl (by first | exact Or.inl rfl | exact Or.inr (Or.inl rfl) | exact Or.inr (Or.inr rfl))) Tx.cl0 Tx.na0_1 rfl rfl)) (nomark _)))))) qs_nil)
theorem sc_Ratio_add : FnScope ["self", "other"] ["self", "other"] (defScope s_Ratio_add) := ⟨rfl, rfl, rfl, by decide +kernel, rfl, by decide +kernel, by decide +kernel⟩
theorem b_Ratio_add (hL : Lnk P w K mg base (lk ca) prog fi n) (Tx : Txt K mg ca fi) {wf : Nat} {cdv : Value} {A : Around} {outer : List Env} {s : Shared} {H : Hp} {E : XK} (hr : Room (2 * n + 1) (A.deeper (envOfC "Ratio.__add__" (defScope s_Ratio_add) s.heap.objs.size (fi 2).addr cdv))) :
    QSs (cxF P w K mg base ["self", "other"] "Ratio.__add__" s_Ratio_add (fi 2).addr cdv A outer s H E) (lk ca) (tab prog wf n) (fun cls d _ H => E cls d H) (defBody s_Ratio_add) B_Ratio_add :=
  (qs_cons (q_ret (pE_mk (f := 0) hL hr (takes_of rfl rfl rfl rfl) rfl rfl Tx.mk0 rfl Tx.mc0 Tx.b0 .nil (fun _ _ => .nil) (pA_cons (pE_op hL hr .add (pB (pE_op hL hr .mul (pB (pE_fld (pE_var (i := 0) rfl (by first | exact Or.inl rfl | exact Or.inr (Or.inl rfl) | exact Or.inr (Or.inr rfl))) Tx.cl0 Tx.na0_0 rfl rfl)) (pB (pE_fld (pE_var (i := 1) rfl (by first | exact Or.inl rfl | exact Or.inr (Or.inl rfl) | exact Or.inr (Or.inr rfl))) Tx.cl0 Tx.na0_1 rfl rfl)))) (pB (pE_op hL hr .mul (pB (pE_fld (pE_var (i := 1) rfl (by first | exact Or.inl rfl | exact Or.inr (Or.inl rfl) | exact Or.inr (Or.inr rfl))) Tx.cl0 Tx.na0_0 rfl rfl)) (pB (pE_fld (pE_var (i := 0) rfl (by first | exact Or.inl rfl | exact Or.inr (Or.inl rfl) | exact Or.inr (Or.inr rfl))) Tx.cl0 Tx.na0_1 rfl rfl))))) (pA_cons (pE_op hL hr .mul (pB (pE_fld (pE_var (i := 0) rfl (by first | exact Or.inl rfl | exact Or.inr (Or.inl rfl) | exact Or.inr (Or.inr rfl))) Tx.cl0 Tx.na0_1 rfl rfl)) (pB (pE_fld (pE_var (i := 1) rfl (by first | exact Or.inl rfl | exact Or.inr (Or.inl rfl) | exact Or.inr (Or.inr rfl))) Tx.cl0 Tx.na0_1 rfl rfl))) pA_nil)))) qs_nil)
theorem sc_Ratio_sub : FnScope ["self", "other"] ["self", "other"] (defScope s_Ratio_sub) := ⟨rfl, rfl, rfl, by decide +kernel, rfl, by decide +kernel, by decide +kernel⟩
theorem b_Ratio_sub (hL : Lnk P w K mg base (lk ca) prog fi n) (Tx : Txt K mg ca fi) {wf : Nat} {cdv : Value} {A : Around} {outer : List Env} {s : Shared} {H : Hp} {E : XK} (hr : Room (2 * n + 1) (A.deeper (envOfC "Ratio.__sub__" (defScope s_Ratio_sub) s.heap.objs.size (fi 3).addr cdv))) :
    QSs (cxF P w K mg base ["self", "other"] "Ratio.__sub__" s_Ratio_sub (fi 3).addr cdv A outer s H E) (lk ca) (tab prog wf n) (fun cls d _ H => E cls d H) (defBody s_Ratio_sub) B_Ratio_sub :=
  (qs_cons (q_ret (pE_mk (f := 0) hL hr (takes_of rfl rfl rfl rfl) rfl rfl Tx.mk0 rfl Tx.mc0 Tx.b0 .nil (fun _ _ => .nil) (pA_cons (pE_op hL hr .sub (pB (pE_op hL hr .mul (pB (pE_fld (pE_var (i := 0) rfl (by first | exact Or.inl rfl | exact Or.inr (Or.inl rfl) | exact Or.inr (Or.inr rfl))) Tx.cl0 Tx.na0_0 rfl rfl)) (pB (pE_fld (pE_var (i := 1) rfl (by first | exact Or.inl rfl | exact Or.inr (Or.inl rfl) | exact Or.inr (Or.inr rfl))) Tx.cl0 Tx.na0_1 rfl rfl)))) (pB (pE_op hL hr .mul (pB (pE_fld (pE_var (i := 1) rfl (by first | exact Or.inl rfl | exact Or.inr (Or.inl rfl) | exact Or.inr (Or.inr rfl))) Tx.cl0 Tx.na0_0 rfl rfl)) (pB (pE_fld (pE_var (i := 0) rfl (by first | exact Or.inl rfl | exact Or.inr (Or.inl rfl) | exact Or.inr (Or.inr rfl))) Tx.cl0 Tx.na0_1 rfl rfl))))) (pA_cons (pE_op hL hr .mul (pB (pE_fld (pE_var (i := 0) rfl (by first | exact Or.inl rfl | exact Or.inr (Or.inl rfl) | exact Or.inr (Or.inr rfl))) Tx.cl0 Tx.na0_1 rfl rfl)) (pB (pE_fld (pE_var (i := 1) rfl (by first | exact Or.inl rfl | exact Or.inr (Or.inl rfl) | exact Or.inr (Or.inr rfl))) Tx.cl0 Tx.na0_1 rfl rfl))) pA_nil)))) qs_nil)
theorem sc_Ratio_mul : FnScope ["self", "other"] ["self", "other"] (defScope s_Ratio_mul) := ⟨rfl, rfl, rfl, by decide +kernel, rfl, by decide +kernel, by decide +kernel⟩
theorem b_Ratio_mul (hL : Lnk P w K mg base (lk ca) prog fi n) (Tx : Txt K mg ca fi) {wf : Nat} {cdv : Value} {A : Around} {outer : List Env} {s : Shared} {H : Hp} {E : XK} (hr : Room (2 * n + 1) (A.deeper (envOfC "Ratio.__mul__" (defScope s_Ratio_mul) s.heap.objs.size (fi 4).addr cdv))) :
    QSs (cxF P w K mg base ["self", "other"] "Ratio.__mul__" s_Ratio_mul (fi 4).addr cdv A outer s H E) (lk ca) (tab prog wf n) (fun cls d _ H => E cls d H) (defBody s_Ratio_mul) B_Ratio_mul :=
  (qs_cons (q_ret (pE_mk (f := 0) hL hr (takes_of rfl rfl rfl rfl) rfl rfl Tx.mk0 rfl Tx.mc0 Tx.b0 .nil (fun _ _ => .nil) (pA_cons (pE_op hL hr .mul (pB (pE_fld (pE_var (i := 0) rfl (by first | exact Or.inl rfl | exact Or.inr (Or.inl rfl) | exact Or.inr (Or.inr rfl))) Tx.cl0 Tx.na0_0 rfl rfl)) (pB (pE_fld (pE_var (i := 1) rfl (by first | exact Or.inl rfl | exact Or.inr (Or.inl rfl) | exact Or.inr (Or.inr rfl))) Tx.cl0 Tx.na0_0 rfl rfl))) (pA_cons (pE_op hL hr .mul (pB (pE_fld (pE_var (i := 0) rfl (by first | exact Or.inl rfl | exact Or.inr (Or.inl rfl) | exact Or.inr (Or.inr rfl))) Tx.cl0 Tx.na0_1 rfl rfl)) (pB (pE_fld (pE_var (i := 1) rfl (by first | exact Or.inl rfl | exact Or.inr (Or.inl rfl) | exact Or.inr (Or.inr rfl))) Tx.cl0 Tx.na0_1 rfl rfl))) pA_nil)))) qs_nil)
theorem sc_Ratio_str : FnScope ["self"] ["self"] (defScope s_Ratio_str) := ⟨rfl, rfl, rfl, by decide +kernel, rfl, by decide +kernel, by decide +kernel⟩
theorem b_Ratio_str (hL : Lnk P w K mg base (lk ca) prog fi n) (Tx : Txt K mg ca fi) {wf : Nat} {cdv : Value} {A : Around} {outer : List Env} {s : Shared} {H : Hp} {E : XK} (hr : Room (2 * n + 1) (A.deeper (envOfC "Ratio.__str__" (defScope s_Ratio_str) s.heap.objs.size (fi 5).addr cdv))) :
    QSs (cxF P w K mg base ["self"] "Ratio.__str__" s_Ratio_str (fi 5).addr cdv A outer s H E) (lk ca) (tab prog wf n) (fun cls d _ H => E cls d H) (defBody s_Ratio_str) B_Ratio_str :=
  (qs_cons (q_ite (pT_cm hL hr .eq (pB (pE_fld (pE_var (i := 0) rfl (by first | exact Or.inl rfl | exact Or.inr (Or.inl rfl) | exact Or.inr (Or.inr rfl))) Tx.cl0 Tx.na0_1 rfl rfl)) (pB pE_int) (nomark _))
      (qs_cons (q_ret (pE_biT hL hr rfl .str rfl rfl Tx.n_str (by decide +kernel) (pB (pE_fld (pE_var (i := 0) rfl (by first | exact Or.inl rfl | exact Or.inr (Or.inl rfl) | exact Or.inr (Or.inr rfl))) Tx.cl0 Tx.na0_0 rfl rfl)))) qs_nil)
      qs_nil)
      (qs_cons (q_ret (pE_fstr (pJ_cons (pE_fmt (pB (pE_fld (pE_var (i := 0) rfl (by first | exact Or.inl rfl | exact Or.inr (Or.inl rfl) | exact Or.inr (Or.inr rfl))) Tx.cl0 Tx.na0_0 rfl rfl))) (pJ_cons pP_str (pJ_cons (pE_fmt (pB (pE_fld (pE_var (i := 0) rfl (by first | exact Or.inl rfl | exact Or.inr (Or.inl rfl) | exact Or.inr (Or.inr rfl))) Tx.cl0 Tx.na0_1 rfl rfl))) pJ_nil))))) qs_nil))
theorem sc_Ratio_less : FnScope ["self", "other"] ["self", "other"] (defScope s_Ratio_less) := ⟨rfl, rfl, rfl, by decide +kernel, rfl, by decide +kernel, by decide +kernel⟩
theorem b_Ratio_less (hL : Lnk P w K mg base (lk ca) prog fi n) (Tx : Txt K mg ca fi) {wf : Nat} {cdv : Value} {A : Around} {outer : List Env} {s : Shared} {H : Hp} {E : XK} (hr : Room (2 * n + 1) (A.deeper (envOfC "Ratio.less" (defScope s_Ratio_less) s.heap.objs.size (fi 6).addr cdv))) :
    QSs (cxF P w K mg base ["self", "other"] "Ratio.less" s_Ratio_less (fi 6).addr cdv A outer s H E) (lk ca) (tab prog wf n) (fun cls d _ H => E cls d H) (defBody s_Ratio_less) B_Ratio_less :=
  (qs_cons (q_ret (pE_cm hL hr .lt (pB (pE_op hL hr .mul (pB (pE_fld (pE_var (i := 0) rfl (by first | exact Or.inl rfl | exact Or.inr (Or.inl rfl) | exact Or.inr (Or.inr rfl))) Tx.cl0 Tx.na0_0 rfl rfl)) (pB (pE_fld (pE_var (i := 1) rfl (by first | exact Or.inl rfl | exact Or.inr (Or.inl rfl) | exact Or.inr (Or.inr rfl))) Tx.cl0 Tx.na0_1 rfl rfl)))) (pB (pE_op hL hr .mul (pB (pE_fld (pE_var (i := 1) rfl (by first | exact Or.inl rfl | exact Or.inr (Or.inl rfl) | exact Or.inr (Or.inr rfl))) Tx.cl0 Tx.na0_0 rfl rfl)) (pB (pE_fld (pE_var (i := 0) rfl (by first | exact Or.inl rfl | exact Or.inr (Or.inl rfl) | exact Or.inr (Or.inr rfl))) Tx.cl0 Tx.na0_1 rfl rfl)))) (nomark _))) qs_nil)
theorem sc_Ratio_by : FnScope ["self", "other", "sign"] ["self", "other"] (defScope s_Ratio_by) := ⟨rfl, rfl, rfl, by decide +kernel, rfl, by decide +kernel, by decide +kernel⟩
theorem b_Ratio_by (hL : Lnk P w K mg base (lk ca) prog fi n) (Tx : Txt K mg ca fi) {wf : Nat} {cdv : Value} {A : Around} {outer : List Env} {s : Shared} {H : Hp} {E : XK} (hr : Room (2 * n + 1) (A.deeper (envOfC "Ratio.by" (defScope s_Ratio_by) s.heap.objs.size (fi 7).addr cdv))) :
    QSs (cxF P w K mg base ["self", "other", "sign"] "Ratio.by" s_Ratio_by (fi 7).addr cdv A outer s H E) (lk ca) (tab prog wf n) (fun cls d _ H => E cls d H) (defBody s_Ratio_by) B_Ratio_by :=
  (qs_cons (q_ite (pT_cm hL hr .eq (pB (pE_fld (pE_var (i := 1) rfl (by first | exact Or.inl rfl | exact Or.inr (Or.inl rfl) | exact Or.inr (Or.inr rfl))) Tx.cl0 Tx.na0_0 rfl rfl)) (pB pE_int) (nomark _))
      (qs_cons (q_rais0 rfl (takes_of rfl rfl rfl rfl) PySem.F.excBase_ValueError Tx.xi3 Tx.xm3 Tx.xk3 (raises_own Tx.xb3 Tx.xt3) rfl) qs_nil)
      qs_nil)
      (qs_cons (q_set (ps_set (i := 2) sc_Ratio_by.nd rfl (by first | exact Or.inl rfl | exact Or.inr rfl) (pE_ite (pT_cm hL hr .gt (pB (pE_fld (pE_var (i := 1) rfl (by first | exact Or.inl rfl | exact Or.inr (Or.inl rfl) | exact Or.inr (Or.inr rfl))) Tx.cl0 Tx.na0_0 rfl rfl)) (pB pE_int) (nomark _)) pE_int (pE_neg pE_int))))
      (qs_cons (q_ret (pE_mk (f := 0) hL hr (takes_of rfl rfl rfl rfl) rfl rfl Tx.mk0 rfl Tx.mc0 Tx.b0 .nil (fun _ _ => .nil) (pA_cons (pE_op hL hr .mul (pB (pE_op hL hr .mul (pB (pE_var (i := 2) rfl (by first | exact Or.inl rfl | exact Or.inr (Or.inl rfl) | exact Or.inr (Or.inr rfl)))) (pB (pE_fld (pE_var (i := 0) rfl (by first | exact Or.inl rfl | exact Or.inr (Or.inl rfl) | exact Or.inr (Or.inr rfl))) Tx.cl0 Tx.na0_0 rfl rfl)))) (pB (pE_fld (pE_var (i := 1) rfl (by first | exact Or.inl rfl | exact Or.inr (Or.inl rfl) | exact Or.inr (Or.inr rfl))) Tx.cl0 Tx.na0_1 rfl rfl))) (pA_cons (pE_op hL hr .mul (pB (pE_op hL hr .mul (pB (pE_var (i := 2) rfl (by first | exact Or.inl rfl | exact Or.inr (Or.inl rfl) | exact Or.inr (Or.inr rfl)))) (pB (pE_fld (pE_var (i := 1) rfl (by first | exact Or.inl rfl | exact Or.inr (Or.inl rfl) | exact Or.inr (Or.inr rfl))) Tx.cl0 Tx.na0_0 rfl rfl)))) (pB (pE_fld (pE_var (i := 0) rfl (by first | exact Or.inl rfl | exact Or.inr (Or.inl rfl) | exact Or.inr (Or.inr rfl))) Tx.cl0 Tx.na0_1 rfl rfl))) pA_nil)))) qs_nil)))
theorem sc_common : FnScope ["one", "other"] ["one", "other"] (defScope s_common) := ⟨rfl, rfl, rfl, by decide +kernel, rfl, by decide +kernel, by decide +kernel⟩
theorem b_common (hL : Lnk P w K mg base (lk ca) prog fi n) (Tx : Txt K mg ca fi) {wf : Nat} {cdv : Value} {A : Around} {outer : List Env} {s : Shared} {H : Hp} {E : XK} (hr : Room (2 * n + 1) (A.deeper (envOfC "common" (defScope s_common) s.heap.objs.size (fi 8).addr cdv))) :
    QSs (cxF P w K mg base ["one", "other"] "common" s_common (fi 8).addr cdv A outer s H E) (lk ca) (tab prog wf n) (fun cls d _ H => E cls d H) (defBody s_common) B_common :=
  (qs_cons (q_whl (passes_of rfl) (pT_tru (pB (pE_var (i := 1) rfl (by first | exact Or.inl rfl | exact Or.inr (Or.inl rfl) | exact Or.inr (Or.inr rfl)))) (fun _ => rfl))
      (qs_cons (q_par (ps_par rfl sc_common.nd rfl rfl (by decide) rfl rfl (pa_cons (pE_var (i := 1) rfl (by first | exact Or.inl rfl | exact Or.inr (Or.inl rfl) | exact Or.inr (Or.inr rfl))) (pa_cons (pE_op hL hr .mod (pB (pE_var (i := 0) rfl (by first | exact Or.inl rfl | exact Or.inr (Or.inl rfl) | exact Or.inr (Or.inr rfl)))) (pB (pE_var (i := 1) rfl (by first | exact Or.inl rfl | exact Or.inr (Or.inl rfl) | exact Or.inr (Or.inr rfl))))) pa_nil)) rfl)) qs_nil))
      (qs_cons (q_ret (pE_var (i := 0) rfl (by first | exact Or.inl rfl | exact Or.inr (Or.inl rfl) | exact Or.inr (Or.inr rfl)))) qs_nil))
theorem sc_Lpool : FnScope ["_law_script", "_law_budget"] ["_law_script", "_law_budget"] (defScope s_Lpool) := ⟨rfl, rfl, rfl, by decide +kernel, rfl, by decide +kernel, by decide +kernel⟩
theorem b_Lpool (hL : Lnk P w K mg base (lk ca) prog fi n) (Tx : Txt K mg ca fi) {wf : Nat} {cdv : Value} {A : Around} {outer : List Env} {s : Shared} {H : Hp} {E : XK} (hr : Room (2 * n + 1) (A.deeper (envOfC "_law_pool" (defScope s_Lpool) s.heap.objs.size (fi 9).addr cdv))) :
    QSs (cxF P w K mg base ["_law_script", "_law_budget"] "_law_pool" s_Lpool (fi 9).addr cdv A outer s H E) (lk ca) (tab prog wf n) (fun cls d _ H => E cls d H) (defBody s_Lpool) B_Lpool :=
  (qs_cons (q_retF (pF_lst (pA_cons (pE_biT hL hr rfl .list rfl rfl Tx.n_list (by decide +kernel) (pB (pE_var (i := 0) rfl (by first | exact Or.inl rfl | exact Or.inr (Or.inl rfl) | exact Or.inr (Or.inr rfl))))) (pA_cons pE_int (pA_cons pE_int (pA_cons pE_int (pA_cons pE_int (pA_cons (pE_var (i := 1) rfl (by first | exact Or.inl rfl | exact Or.inr (Or.inl rfl) | exact Or.inr (Or.inr rfl))) pA_nil)))))))) qs_nil)
theorem sc_Ldraw : FnScope ["_law_pool_here", "_law_size", "_law_cell", "_law_value"] ["_law_pool_here", "_law_size"] (defScope s_Ldraw) := ⟨rfl, rfl, rfl, by decide +kernel, rfl, by decide +kernel, by decide +kernel⟩
theorem b_Ldraw (hL : Lnk P w K mg base (lk ca) prog fi n) (Tx : Txt K mg ca fi) {wf : Nat} {cdv : Value} {A : Around} {outer : List Env} {s : Shared} {H : Hp} {E : XK} (hr : Room (2 * n + 1) (A.deeper (envOfC "_law_draw" (defScope s_Ldraw) s.heap.objs.size (fi 10).addr cdv))) :
    QSs (cxF P w K mg base ["_law_pool_here", "_law_size", "_law_cell", "_law_value"] "_law_draw" s_Ldraw (fi 10).addr cdv A outer s H E) (lk ca) (tab prog wf n) (fun cls d _ H => E cls d H) (defBody s_Ldraw) B_Ldraw :=
  (qs_cons (q_ite (L2.PW.pt (pW_an (pT_cm hL hr .le (pB (pE_ix (pB (pE_var (i := 0) rfl (by first | exact Or.inl rfl | exact Or.inr (Or.inl rfl) | exact Or.inr (Or.inr rfl)))) (pB pE_int) (fun _ _ => rfl))) (pB pE_int) (nomark _)) (pW_an (pT_cm hL hr .le (pB (pE_ix (pB (pE_var (i := 0) rfl (by first | exact Or.inl rfl | exact Or.inr (Or.inl rfl) | exact Or.inr (Or.inr rfl)))) (pB pE_int) (fun _ _ => rfl))) (pB pE_int) (nomark _)) (pW_an1 (pT_cm hL hr .lt (pB (pE_ix (pB (pE_var (i := 0) rfl (by first | exact Or.inl rfl | exact Or.inr (Or.inl rfl) | exact Or.inr (Or.inr rfl)))) (pB pE_int) (fun _ _ => rfl))) (pB (pE_biB hL hr rfl .len rfl rfl Tx.n_len (by decide +kernel) (pB (pE_ix (pB (pE_var (i := 0) rfl (by first | exact Or.inl rfl | exact Or.inr (Or.inl rfl) | exact Or.inr (Or.inr rfl)))) (pB pE_int) (fun _ _ => rfl))))) (nomark _))))))
      (qs_cons (q_set (ps_set (i := 2) sc_Ldraw.nd rfl (by first | exact Or.inl rfl | exact Or.inr rfl) (pE_ix (pB (pE_ix (pB (pE_var (i := 0) rfl (by first | exact Or.inl rfl | exact Or.inr (Or.inl rfl) | exact Or.inr (Or.inr rfl)))) (pB pE_int) (fun _ _ => rfl))) (pB (pE_ix (pB (pE_var (i := 0) rfl (by first | exact Or.inl rfl | exact Or.inr (Or.inl rfl) | exact Or.inr (Or.inr rfl)))) (pB pE_int) (fun _ _ => rfl))) (fun _ _ => rfl))))
      (qs_cons (q_setIA (i := 0) rfl (by first | exact Or.inl rfl | exact Or.inr (Or.inl rfl) | exact Or.inr (Or.inr rfl)) (hp := fun h => ps_asg (pE_op hL hr .add (pB (pE_ix (pB (pE_var (i := 0) rfl (by first | exact Or.inl rfl | exact Or.inr (Or.inl rfl) | exact Or.inr (Or.inr rfl)))) (pB pE_int) (fun _ _ => rfl))) (pB pE_int)) (pg_sub h pE_int set_list)))
      (qs_cons (q_setIA (i := 0) rfl (by first | exact Or.inl rfl | exact Or.inr (Or.inl rfl) | exact Or.inr (Or.inr rfl)) (hp := fun h => ps_asg (pE_op hL hr .mod (pB (pE_biT hL hr rfl .int rfl rfl Tx.n_int (by decide +kernel) (pB (pE_op hL hr .add (pB (pE_op hL hr .mul (pB (pE_ix (pB (pE_var (i := 0) rfl (by first | exact Or.inl rfl | exact Or.inr (Or.inl rfl) | exact Or.inr (Or.inr rfl)))) (pB pE_int) (fun _ _ => rfl))) (pB pE_int))) (pB (pE_var (i := 2) rfl (by first | exact Or.inl rfl | exact Or.inr (Or.inl rfl) | exact Or.inr (Or.inr rfl)))))))) (pB pE_int)) (pg_sub h pE_int set_list)))
      (qs_cons (q_setIA (i := 0) rfl (by first | exact Or.inl rfl | exact Or.inr (Or.inl rfl) | exact Or.inr (Or.inr rfl)) (hp := fun h => ps_asg pE_int (pg_sub h pE_int set_list)))
      (qs_cons (q_ite (pT_cm hL hr .ge (pB (pE_var (i := 2) rfl (by first | exact Or.inl rfl | exact Or.inr (Or.inl rfl) | exact Or.inr (Or.inr rfl)))) (pB (pE_op hL hr .pow (pB pE_int) (pB pE_int))) (nomark _))
      (qs_cons (q_setIA (i := 0) rfl (by first | exact Or.inl rfl | exact Or.inr (Or.inl rfl) | exact Or.inr (Or.inr rfl)) (hp := fun h => ps_asg (pE_var (i := 2) rfl (by first | exact Or.inl rfl | exact Or.inr (Or.inl rfl) | exact Or.inr (Or.inr rfl))) (pg_sub h pE_int set_list))) qs_nil)
      qs_nil) qs_nil)))))
      qs_nil)
      (qs_cons (q_ite (pT_cm hL hr .gt (pB (pE_ix (pB (pE_var (i := 0) rfl (by first | exact Or.inl rfl | exact Or.inr (Or.inl rfl) | exact Or.inr (Or.inr rfl)))) (pB pE_int) (fun _ _ => rfl))) (pB pE_int) (nomark _))
      (qs_cons (q_set (ps_set (i := 3) sc_Ldraw.nd rfl (by first | exact Or.inl rfl | exact Or.inr rfl) (pE_op hL hr .mod (pB (pE_biT hL hr rfl .int rfl rfl Tx.n_int (by decide +kernel) (pB (pE_ix (pB (pE_var (i := 0) rfl (by first | exact Or.inl rfl | exact Or.inr (Or.inl rfl) | exact Or.inr (Or.inr rfl)))) (pB pE_int) (fun _ _ => rfl))))) (pB (pE_var (i := 1) rfl (by first | exact Or.inl rfl | exact Or.inr (Or.inl rfl) | exact Or.inr (Or.inr rfl)))))))
      (qs_cons (q_setIA (i := 0) rfl (by first | exact Or.inl rfl | exact Or.inr (Or.inl rfl) | exact Or.inr (Or.inr rfl)) (hp := fun h => ps_asg (pE_op hL hr .fdiv (pB (pE_ix (pB (pE_var (i := 0) rfl (by first | exact Or.inl rfl | exact Or.inr (Or.inl rfl) | exact Or.inr (Or.inr rfl)))) (pB pE_int) (fun _ _ => rfl))) (pB (pE_var (i := 1) rfl (by first | exact Or.inl rfl | exact Or.inr (Or.inl rfl) | exact Or.inr (Or.inr rfl))))) (pg_sub h pE_int set_list)))
      (qs_cons (q_setIA (i := 0) rfl (by first | exact Or.inl rfl | exact Or.inr (Or.inl rfl) | exact Or.inr (Or.inr rfl)) (hp := fun h => ps_asg pE_int (pg_sub h pE_int set_list)))
      (qs_cons (q_ret (pE_var (i := 3) rfl (by first | exact Or.inl rfl | exact Or.inr (Or.inl rfl) | exact Or.inr (Or.inr rfl)))) qs_nil))))
      qs_nil)
      (qs_cons (q_setIA (i := 0) rfl (by first | exact Or.inl rfl | exact Or.inr (Or.inl rfl) | exact Or.inr (Or.inr rfl)) (hp := fun h => ps_asg (pE_op hL hr .sub (pB (pE_ix (pB (pE_var (i := 0) rfl (by first | exact Or.inl rfl | exact Or.inr (Or.inl rfl) | exact Or.inr (Or.inr rfl)))) (pB pE_int) (fun _ _ => rfl))) (pB pE_int)) (pg_sub h pE_int set_list)))
      (qs_cons (q_setIA (i := 0) rfl (by first | exact Or.inl rfl | exact Or.inr (Or.inl rfl) | exact Or.inr (Or.inr rfl)) (hp := fun h => ps_asg (pE_op hL hr .mod (pB (pE_biT hL hr rfl .int rfl rfl Tx.n_int (by decide +kernel) (pB (pE_op hL hr .add (pB (pE_op hL hr .mul (pB (pE_ix (pB (pE_var (i := 0) rfl (by first | exact Or.inl rfl | exact Or.inr (Or.inl rfl) | exact Or.inr (Or.inr rfl)))) (pB pE_int) (fun _ _ => rfl))) (pB pE_int))) (pB pE_int))))) (pB pE_int)) (pg_sub h pE_int set_list)))
      (qs_cons (q_ret (pE_op hL hr .mod (pB (pE_op hL hr .mod (pB (pE_biT hL hr rfl .int rfl rfl Tx.n_int (by decide +kernel) (pB (pE_op hL hr .add (pB (pE_op hL hr .mul (pB (pE_ix (pB (pE_var (i := 0) rfl (by first | exact Or.inl rfl | exact Or.inr (Or.inl rfl) | exact Or.inr (Or.inr rfl)))) (pB pE_int) (fun _ _ => rfl))) (pB pE_int))) (pB pE_int))))) (pB pE_int))) (pB (pE_var (i := 1) rfl (by first | exact Or.inl rfl | exact Or.inr (Or.inl rfl) | exact Or.inr (Or.inr rfl)))))) qs_nil)))))
theorem sc_Lsame : FnScope ["_law_actual", "_law_due", "_law_k"] ["_law_actual", "_law_due"] (defScope s_Lsame) := ⟨rfl, rfl, rfl, by decide +kernel, rfl, by decide +kernel, by decide +kernel⟩
theorem b_Lsame (hL : Lnk P w K mg base (lk ca) prog fi n) (Tx : Txt K mg ca fi) {wf : Nat} {cdv : Value} {A : Around} {outer : List Env} {s : Shared} {H : Hp} {E : XK} (hr : Room (2 * n + 1) (A.deeper (envOfC "_law_same" (defScope s_Lsame) s.heap.objs.size (fi 11).addr cdv))) :
    QSs (cxF P w K mg base ["_law_actual", "_law_due", "_law_k"] "_law_same" s_Lsame (fi 11).addr cdv A outer s H E) (lk ca) (tab prog wf n) (fun cls d _ H => E cls d H) (defBody s_Lsame) B_Lsame :=
  (qs_cons (q_ite (L2.PW.pt (pW_or (pT_tru (pB (pE_isi rfl Tx.n_isinstance (by decide +kernel) (tyOk_b (by simp)) (pB (pE_var (i := 1) rfl (by first | exact Or.inl rfl | exact Or.inr (Or.inl rfl) | exact Or.inr (Or.inr rfl)))) (pe_bltn (v := .ty "tuple") rfl Tx.n_tuple (by decide +kernel) rfl))) (fun _ => rfl)) (pW_or1 (pT_tru (pB (pE_isi rfl Tx.n_isinstance (by decide +kernel) (tyOk_b (by simp)) (pB (pE_var (i := 1) rfl (by first | exact Or.inl rfl | exact Or.inr (Or.inl rfl) | exact Or.inr (Or.inr rfl)))) (pe_bltn (v := .ty "list") rfl Tx.n_list (by decide +kernel) rfl))) (fun _ => rfl)))))
      (qs_cons (q_ite (L2.PW.pt (pW_or (pT_cm hL hr .ne (pB (pE_isi rfl Tx.n_isinstance (by decide +kernel) (tyOk_b (by simp)) (pB (pE_var (i := 1) rfl (by first | exact Or.inl rfl | exact Or.inr (Or.inl rfl) | exact Or.inr (Or.inr rfl)))) (pe_bltn (v := .ty "tuple") rfl Tx.n_tuple (by decide +kernel) rfl))) (pB (pE_isi rfl Tx.n_isinstance (by decide +kernel) (tyOk_b (by simp)) (pB (pE_var (i := 0) rfl (by first | exact Or.inl rfl | exact Or.inr (Or.inl rfl) | exact Or.inr (Or.inr rfl)))) (pe_bltn (v := .ty "tuple") rfl Tx.n_tuple (by decide +kernel) rfl))) (nomark _)) (pW_or1 (pT_cm hL hr .ne (pB (pE_isi rfl Tx.n_isinstance (by decide +kernel) (tyOk_b (by simp)) (pB (pE_var (i := 1) rfl (by first | exact Or.inl rfl | exact Or.inr (Or.inl rfl) | exact Or.inr (Or.inr rfl)))) (pe_bltn (v := .ty "list") rfl Tx.n_list (by decide +kernel) rfl))) (pB (pE_isi rfl Tx.n_isinstance (by decide +kernel) (tyOk_b (by simp)) (pB (pE_var (i := 0) rfl (by first | exact Or.inl rfl | exact Or.inr (Or.inl rfl) | exact Or.inr (Or.inr rfl)))) (pe_bltn (v := .ty "list") rfl Tx.n_list (by decide +kernel) rfl))) (nomark _)))))
      (qs_cons (q_ret pE_bl) qs_nil)
      qs_nil)
      (qs_cons (q_ite (pT_cm hL hr .ne (pB (pE_biB hL hr rfl .len rfl rfl Tx.n_len (by decide +kernel) (pB (pE_var (i := 0) rfl (by first | exact Or.inl rfl | exact Or.inr (Or.inl rfl) | exact Or.inr (Or.inr rfl)))))) (pB (pE_biB hL hr rfl .len rfl rfl Tx.n_len (by decide +kernel) (pB (pE_var (i := 1) rfl (by first | exact Or.inl rfl | exact Or.inr (Or.inl rfl) | exact Or.inr (Or.inr rfl)))))) (nomark _))
      (qs_cons (q_ret pE_bl) qs_nil)
      qs_nil)
      (qs_cons (q_fo (passes_of rfl) rfl (pI_rng1 rfl Tx.n_range (pB (pE_biB hL hr rfl .len rfl rfl Tx.n_len (by decide +kernel) (pB (pE_var (i := 1) rfl (by first | exact Or.inl rfl | exact Or.inr (Or.inl rfl) | exact Or.inr (Or.inr rfl))))))) (pg_name (i := 2) sc_Lsame.nd rfl (by first | exact Or.inl rfl | exact Or.inr rfl)) tgS_one
      (qs_cons (q_ite (pT_no (pT_tru (pB (pE_call (f := 11) hL hr (takes_of rfl rfl rfl rfl) rfl rfl rfl rfl Tx.m11 Tx.k11 Tx.b11 .nil (fun _ _ => .nil) (pA_cons (pE_ix (pB (pE_var (i := 0) rfl (by first | exact Or.inl rfl | exact Or.inr (Or.inl rfl) | exact Or.inr (Or.inr rfl)))) (pB (pE_var (i := 2) rfl (by first | exact Or.inl rfl | exact Or.inr (Or.inl rfl) | exact Or.inr (Or.inr rfl)))) (fun _ _ => rfl)) (pA_cons (pE_ix (pB (pE_var (i := 1) rfl (by first | exact Or.inl rfl | exact Or.inr (Or.inl rfl) | exact Or.inr (Or.inr rfl)))) (pB (pE_var (i := 2) rfl (by first | exact Or.inl rfl | exact Or.inr (Or.inl rfl) | exact Or.inr (Or.inr rfl)))) (fun _ _ => rfl)) pA_nil)))) (fun _ => rfl)))
      (qs_cons (q_ret pE_bl) qs_nil)
      qs_nil) qs_nil))
      (qs_cons (q_ret pE_bl) qs_nil))))
      qs_nil)
      (qs_cons (q_ite (L2.PW.pt (pW_or (pT_cm hL hr .is (pB (pE_var (i := 1) rfl (by first | exact Or.inl rfl | exact Or.inr (Or.inl rfl) | exact Or.inr (Or.inr rfl)))) (pB pE_non) (nomark _)) (pW_or1 (pT_tru (pB (pE_isi rfl Tx.n_isinstance (by decide +kernel) (tyOk_b (by simp)) (pB (pE_var (i := 1) rfl (by first | exact Or.inl rfl | exact Or.inr (Or.inl rfl) | exact Or.inr (Or.inr rfl)))) (pe_bltn (v := .ty "bool") rfl Tx.n_bool (by decide +kernel) rfl))) (fun _ => rfl)))))
      (qs_cons (q_ret (pE_an (pE_cm hL hr .eq (pB (pE_cm hL hr .is (pB (pE_var (i := 0) rfl (by first | exact Or.inl rfl | exact Or.inr (Or.inl rfl) | exact Or.inr (Or.inr rfl)))) (pB pE_non) (nomark _))) (pB (pE_cm hL hr .is (pB (pE_var (i := 1) rfl (by first | exact Or.inl rfl | exact Or.inr (Or.inl rfl) | exact Or.inr (Or.inr rfl)))) (pB pE_non) (nomark _))) (nomark _)) (pE_an (pE_or (pE_cm hL hr .is (pB (pE_var (i := 1) rfl (by first | exact Or.inl rfl | exact Or.inr (Or.inl rfl) | exact Or.inr (Or.inr rfl)))) (pB pE_non) (nomark _)) (pE_one (pE_isi rfl Tx.n_isinstance (by decide +kernel) (tyOk_b (by simp)) (pB (pE_var (i := 0) rfl (by first | exact Or.inl rfl | exact Or.inr (Or.inl rfl) | exact Or.inr (Or.inr rfl)))) (pe_bltn (v := .ty "bool") rfl Tx.n_bool (by decide +kernel) rfl)))) (pE_one (pE_cm hL hr .eq (pB (pE_var (i := 0) rfl (by first | exact Or.inl rfl | exact Or.inr (Or.inl rfl) | exact Or.inr (Or.inr rfl)))) (pB (pE_var (i := 1) rfl (by first | exact Or.inl rfl | exact Or.inr (Or.inl rfl) | exact Or.inr (Or.inr rfl)))) (nomark _)))))) qs_nil)
      qs_nil)
      (qs_cons (q_ite (pT_tru (pB (pE_isi rfl Tx.n_isinstance (by decide +kernel) (tyOk_b (by simp)) (pB (pE_var (i := 1) rfl (by first | exact Or.inl rfl | exact Or.inr (Or.inl rfl) | exact Or.inr (Or.inr rfl)))) (pe_bltn (v := .ty "int") rfl Tx.n_int (by decide +kernel) rfl))) (fun _ => rfl))
      (qs_cons (q_ret (pE_an (pE_isi rfl Tx.n_isinstance (by decide +kernel) (tyOk_b (by simp)) (pB (pE_var (i := 0) rfl (by first | exact Or.inl rfl | exact Or.inr (Or.inl rfl) | exact Or.inr (Or.inr rfl)))) (pe_bltn (v := .ty "int") rfl Tx.n_int (by decide +kernel) rfl)) (pE_an (pE_no (pB (pE_isi rfl Tx.n_isinstance (by decide +kernel) (tyOk_b (by simp)) (pB (pE_var (i := 0) rfl (by first | exact Or.inl rfl | exact Or.inr (Or.inl rfl) | exact Or.inr (Or.inr rfl)))) (pe_bltn (v := .ty "bool") rfl Tx.n_bool (by decide +kernel) rfl)))) (pE_one (pE_cm hL hr .eq (pB (pE_var (i := 0) rfl (by first | exact Or.inl rfl | exact Or.inr (Or.inl rfl) | exact Or.inr (Or.inr rfl)))) (pB (pE_var (i := 1) rfl (by first | exact Or.inl rfl | exact Or.inr (Or.inl rfl) | exact Or.inr (Or.inr rfl)))) (nomark _)))))) qs_nil)
      qs_nil)
      (qs_cons (q_ret (pE_an (pE_isi rfl Tx.n_isinstance (by decide +kernel) (tyOk_b (by simp)) (pB (pE_var (i := 0) rfl (by first | exact Or.inl rfl | exact Or.inr (Or.inl rfl) | exact Or.inr (Or.inr rfl)))) (pe_bltn (v := .ty "str") rfl Tx.n_str (by decide +kernel) rfl)) (pE_one (pE_cm hL hr .eq (pB (pE_var (i := 0) rfl (by first | exact Or.inl rfl | exact Or.inr (Or.inl rfl) | exact Or.inr (Or.inr rfl)))) (pB (pE_var (i := 1) rfl (by first | exact Or.inl rfl | exact Or.inr (Or.inl rfl) | exact Or.inr (Or.inr rfl)))) (nomark _))))) qs_nil))))
theorem sc_Lless : FnScope ["_law_num", "_law_den", "_law_a", "_law_b", "_law_k"] ["_law_num", "_law_den"] (defScope s_Lless) := ⟨rfl, rfl, rfl, by decide +kernel, rfl, by decide +kernel, by decide +kernel⟩
theorem b_Lless (hL : Lnk P w K mg base (lk ca) prog fi n) (Tx : Txt K mg ca fi) {wf : Nat} {cdv : Value} {A : Around} {outer : List Env} {s : Shared} {H : Hp} {E : XK} (hr : Room (2 * n + 1) (A.deeper (envOfC "_law_less" (defScope s_Lless) s.heap.objs.size (fi 12).addr cdv))) :
    QSs (cxF P w K mg base ["_law_num", "_law_den", "_law_a", "_law_b", "_law_k"] "_law_less" s_Lless (fi 12).addr cdv A outer s H E) (lk ca) (tab prog wf n) (fun cls d _ H => E cls d H) (defBody s_Lless) B_Lless :=
  (qs_cons (q_set (ps_set (i := 2) sc_Lless.nd rfl (by first | exact Or.inl rfl | exact Or.inr rfl) (pE_biB hL hr rfl .abs rfl rfl Tx.n_abs (by decide +kernel) (pB (pE_var (i := 0) rfl (by first | exact Or.inl rfl | exact Or.inr (Or.inl rfl) | exact Or.inr (Or.inr rfl)))))))
      (qs_cons (q_set (ps_set (i := 3) sc_Lless.nd rfl (by first | exact Or.inl rfl | exact Or.inr rfl) (pE_var (i := 1) rfl (by first | exact Or.inl rfl | exact Or.inr (Or.inl rfl) | exact Or.inr (Or.inr rfl)))))
      (qs_cons (q_fo (passes_of rfl) rfl (pI_rng1 rfl Tx.n_range (pB pE_int)) (pg_name (i := 4) sc_Lless.nd rfl (by first | exact Or.inl rfl | exact Or.inr rfl)) tgS_one
      (qs_cons (q_ite (pT_cm hL hr .eq (pB (pE_var (i := 3) rfl (by first | exact Or.inl rfl | exact Or.inr (Or.inl rfl) | exact Or.inr (Or.inr rfl)))) (pB pE_int) (nomark _))
      (qs_cons q_brk qs_nil)
      qs_nil)
      (qs_cons (q_par (ps_par rfl sc_Lless.nd rfl rfl (by decide) rfl rfl (pa_cons (pE_var (i := 3) rfl (by first | exact Or.inl rfl | exact Or.inr (Or.inl rfl) | exact Or.inr (Or.inr rfl))) (pa_cons (pE_op hL hr .mod (pB (pE_biT hL hr rfl .int rfl rfl Tx.n_int (by decide +kernel) (pB (pE_var (i := 2) rfl (by first | exact Or.inl rfl | exact Or.inr (Or.inl rfl) | exact Or.inr (Or.inr rfl)))))) (pB (pE_var (i := 3) rfl (by first | exact Or.inl rfl | exact Or.inr (Or.inl rfl) | exact Or.inr (Or.inr rfl))))) pa_nil)) rfl)) qs_nil)))
      (qs_cons (q_ret (pE_tup (pA_cons (pE_op hL hr .fdiv (pB (pE_var (i := 0) rfl (by first | exact Or.inl rfl | exact Or.inr (Or.inl rfl) | exact Or.inr (Or.inr rfl)))) (pB (pE_var (i := 2) rfl (by first | exact Or.inl rfl | exact Or.inr (Or.inl rfl) | exact Or.inr (Or.inr rfl))))) (pA_cons (pE_op hL hr .fdiv (pB (pE_var (i := 1) rfl (by first | exact Or.inl rfl | exact Or.inr (Or.inl rfl) | exact Or.inr (Or.inr rfl)))) (pB (pE_var (i := 2) rfl (by first | exact Or.inl rfl | exact Or.inr (Or.inl rfl) | exact Or.inr (Or.inr rfl))))) pA_nil)))) qs_nil))))
theorem sc_Lplus : FnScope ["_law_one", "_law_other"] ["_law_one", "_law_other"] (defScope s_Lplus) := ⟨rfl, rfl, rfl, by decide +kernel, rfl, by decide +kernel, by decide +kernel⟩
theorem b_Lplus (hL : Lnk P w K mg base (lk ca) prog fi n) (Tx : Txt K mg ca fi) {wf : Nat} {cdv : Value} {A : Around} {outer : List Env} {s : Shared} {H : Hp} {E : XK} (hr : Room (2 * n + 1) (A.deeper (envOfC "_law_plus" (defScope s_Lplus) s.heap.objs.size (fi 13).addr cdv))) :
    QSs (cxF P w K mg base ["_law_one", "_law_other"] "_law_plus" s_Lplus (fi 13).addr cdv A outer s H E) (lk ca) (tab prog wf n) (fun cls d _ H => E cls d H) (defBody s_Lplus) B_Lplus :=
  (qs_cons (q_ret (pE_call (f := 12) hL hr (takes_of rfl rfl rfl rfl) rfl rfl rfl rfl Tx.m12 Tx.k12 Tx.b12 .nil (fun _ _ => .nil) (pA_cons (pE_op hL hr .add (pB (pE_op hL hr .mul (pB (pE_ix (pB (pE_var (i := 0) rfl (by first | exact Or.inl rfl | exact Or.inr (Or.inl rfl) | exact Or.inr (Or.inr rfl)))) (pB pE_int) (fun _ _ => rfl))) (pB (pE_ix (pB (pE_var (i := 1) rfl (by first | exact Or.inl rfl | exact Or.inr (Or.inl rfl) | exact Or.inr (Or.inr rfl)))) (pB pE_int) (fun _ _ => rfl))))) (pB (pE_op hL hr .mul (pB (pE_ix (pB (pE_var (i := 1) rfl (by first | exact Or.inl rfl | exact Or.inr (Or.inl rfl) | exact Or.inr (Or.inr rfl)))) (pB pE_int) (fun _ _ => rfl))) (pB (pE_ix (pB (pE_var (i := 0) rfl (by first | exact Or.inl rfl | exact Or.inr (Or.inl rfl) | exact Or.inr (Or.inr rfl)))) (pB pE_int) (fun _ _ => rfl)))))) (pA_cons (pE_op hL hr .mul (pB (pE_ix (pB (pE_var (i := 0) rfl (by first | exact Or.inl rfl | exact Or.inr (Or.inl rfl) | exact Or.inr (Or.inr rfl)))) (pB pE_int) (fun _ _ => rfl))) (pB (pE_ix (pB (pE_var (i := 1) rfl (by first | exact Or.inl rfl | exact Or.inr (Or.inl rfl) | exact Or.inr (Or.inr rfl)))) (pB pE_int) (fun _ _ => rfl)))) pA_nil)))) qs_nil)
theorem sc_Lminus : FnScope ["_law_one", "_law_other"] ["_law_one", "_law_other"] (defScope s_Lminus) := ⟨rfl, rfl, rfl, by decide +kernel, rfl, by decide +kernel, by decide +kernel⟩
theorem b_Lminus (hL : Lnk P w K mg base (lk ca) prog fi n) (Tx : Txt K mg ca fi) {wf : Nat} {cdv : Value} {A : Around} {outer : List Env} {s : Shared} {H : Hp} {E : XK} (hr : Room (2 * n + 1) (A.deeper (envOfC "_law_minus" (defScope s_Lminus) s.heap.objs.size (fi 14).addr cdv))) :
    QSs (cxF P w K mg base ["_law_one", "_law_other"] "_law_minus" s_Lminus (fi 14).addr cdv A outer s H E) (lk ca) (tab prog wf n) (fun cls d _ H => E cls d H) (defBody s_Lminus) B_Lminus :=
  (qs_cons (q_ret (pE_call (f := 12) hL hr (takes_of rfl rfl rfl rfl) rfl rfl rfl rfl Tx.m12 Tx.k12 Tx.b12 .nil (fun _ _ => .nil) (pA_cons (pE_op hL hr .sub (pB (pE_op hL hr .mul (pB (pE_ix (pB (pE_var (i := 0) rfl (by first | exact Or.inl rfl | exact Or.inr (Or.inl rfl) | exact Or.inr (Or.inr rfl)))) (pB pE_int) (fun _ _ => rfl))) (pB (pE_ix (pB (pE_var (i := 1) rfl (by first | exact Or.inl rfl | exact Or.inr (Or.inl rfl) | exact Or.inr (Or.inr rfl)))) (pB pE_int) (fun _ _ => rfl))))) (pB (pE_op hL hr .mul (pB (pE_ix (pB (pE_var (i := 1) rfl (by first | exact Or.inl rfl | exact Or.inr (Or.inl rfl) | exact Or.inr (Or.inr rfl)))) (pB pE_int) (fun _ _ => rfl))) (pB (pE_ix (pB (pE_var (i := 0) rfl (by first | exact Or.inl rfl | exact Or.inr (Or.inl rfl) | exact Or.inr (Or.inr rfl)))) (pB pE_int) (fun _ _ => rfl)))))) (pA_cons (pE_op hL hr .mul (pB (pE_ix (pB (pE_var (i := 0) rfl (by first | exact Or.inl rfl | exact Or.inr (Or.inl rfl) | exact Or.inr (Or.inr rfl)))) (pB pE_int) (fun _ _ => rfl))) (pB (pE_ix (pB (pE_var (i := 1) rfl (by first | exact Or.inl rfl | exact Or.inr (Or.inl rfl) | exact Or.inr (Or.inr rfl)))) (pB pE_int) (fun _ _ => rfl)))) pA_nil)))) qs_nil)
theorem sc_Ltimes : FnScope ["_law_one", "_law_other"] ["_law_one", "_law_other"] (defScope s_Ltimes) := ⟨rfl, rfl, rfl, by decide +kernel, rfl, by decide +kernel, by decide +kernel⟩
theorem b_Ltimes (hL : Lnk P w K mg base (lk ca) prog fi n) (Tx : Txt K mg ca fi) {wf : Nat} {cdv : Value} {A : Around} {outer : List Env} {s : Shared} {H : Hp} {E : XK} (hr : Room (2 * n + 1) (A.deeper (envOfC "_law_times" (defScope s_Ltimes) s.heap.objs.size (fi 15).addr cdv))) :
    QSs (cxF P w K mg base ["_law_one", "_law_other"] "_law_times" s_Ltimes (fi 15).addr cdv A outer s H E) (lk ca) (tab prog wf n) (fun cls d _ H => E cls d H) (defBody s_Ltimes) B_Ltimes :=
  (qs_cons (q_ret (pE_call (f := 12) hL hr (takes_of rfl rfl rfl rfl) rfl rfl rfl rfl Tx.m12 Tx.k12 Tx.b12 .nil (fun _ _ => .nil) (pA_cons (pE_op hL hr .mul (pB (pE_ix (pB (pE_var (i := 0) rfl (by first | exact Or.inl rfl | exact Or.inr (Or.inl rfl) | exact Or.inr (Or.inr rfl)))) (pB pE_int) (fun _ _ => rfl))) (pB (pE_ix (pB (pE_var (i := 1) rfl (by first | exact Or.inl rfl | exact Or.inr (Or.inl rfl) | exact Or.inr (Or.inr rfl)))) (pB pE_int) (fun _ _ => rfl)))) (pA_cons (pE_op hL hr .mul (pB (pE_ix (pB (pE_var (i := 0) rfl (by first | exact Or.inl rfl | exact Or.inr (Or.inl rfl) | exact Or.inr (Or.inr rfl)))) (pB pE_int) (fun _ _ => rfl))) (pB (pE_ix (pB (pE_var (i := 1) rfl (by first | exact Or.inl rfl | exact Or.inr (Or.inl rfl) | exact Or.inr (Or.inr rfl)))) (pB pE_int) (fun _ _ => rfl)))) pA_nil)))) qs_nil)
theorem sc_Lbelow : FnScope ["_law_one", "_law_other"] ["_law_one", "_law_other"] (defScope s_Lbelow) := ⟨rfl, rfl, rfl, by decide +kernel, rfl, by decide +kernel, by decide +kernel⟩
theorem b_Lbelow (hL : Lnk P w K mg base (lk ca) prog fi n) (Tx : Txt K mg ca fi) {wf : Nat} {cdv : Value} {A : Around} {outer : List Env} {s : Shared} {H : Hp} {E : XK} (hr : Room (2 * n + 1) (A.deeper (envOfC "_law_below" (defScope s_Lbelow) s.heap.objs.size (fi 16).addr cdv))) :
    QSs (cxF P w K mg base ["_law_one", "_law_other"] "_law_below" s_Lbelow (fi 16).addr cdv A outer s H E) (lk ca) (tab prog wf n) (fun cls d _ H => E cls d H) (defBody s_Lbelow) B_Lbelow :=
  (qs_cons (q_ret (pE_cm hL hr .lt (pB (pE_op hL hr .mul (pB (pE_ix (pB (pE_var (i := 0) rfl (by first | exact Or.inl rfl | exact Or.inr (Or.inl rfl) | exact Or.inr (Or.inr rfl)))) (pB pE_int) (fun _ _ => rfl))) (pB (pE_ix (pB (pE_var (i := 1) rfl (by first | exact Or.inl rfl | exact Or.inr (Or.inl rfl) | exact Or.inr (Or.inr rfl)))) (pB pE_int) (fun _ _ => rfl))))) (pB (pE_op hL hr .mul (pB (pE_ix (pB (pE_var (i := 1) rfl (by first | exact Or.inl rfl | exact Or.inr (Or.inl rfl) | exact Or.inr (Or.inr rfl)))) (pB pE_int) (fun _ _ => rfl))) (pB (pE_ix (pB (pE_var (i := 0) rfl (by first | exact Or.inl rfl | exact Or.inr (Or.inl rfl) | exact Or.inr (Or.inr rfl)))) (pB pE_int) (fun _ _ => rfl))))) (nomark _))) qs_nil)
theorem sc_Lratio : FnScope ["_law_pair_here"] ["_law_pair_here"] (defScope s_Lratio) := ⟨rfl, rfl, rfl, by decide +kernel, rfl, by decide +kernel, by decide +kernel⟩
theorem b_Lratio (hL : Lnk P w K mg base (lk ca) prog fi n) (Tx : Txt K mg ca fi) {wf : Nat} {cdv : Value} {A : Around} {outer : List Env} {s : Shared} {H : Hp} {E : XK} (hr : Room (2 * n + 1) (A.deeper (envOfC "_law_ratio" (defScope s_Lratio) s.heap.objs.size (fi 17).addr cdv))) :
    QSs (cxF P w K mg base ["_law_pair_here"] "_law_ratio" s_Lratio (fi 17).addr cdv A outer s H E) (lk ca) (tab prog wf n) (fun cls d _ H => E cls d H) (defBody s_Lratio) B_Lratio :=
  (qs_cons (q_ret (pE_mk (f := 0) hL hr (takes_of rfl rfl rfl rfl) rfl rfl Tx.mk0 rfl Tx.mc0 Tx.b0 .nil (fun _ _ => .nil) (pA_cons (pE_ix (pB (pE_var (i := 0) rfl (by first | exact Or.inl rfl | exact Or.inr (Or.inl rfl) | exact Or.inr (Or.inr rfl)))) (pB pE_int) (fun _ _ => rfl)) (pA_cons (pE_ix (pB (pE_var (i := 0) rfl (by first | exact Or.inl rfl | exact Or.inr (Or.inl rfl) | exact Or.inr (Or.inr rfl)))) (pB pE_int) (fun _ _ => rfl)) pA_nil)))) qs_nil)
theorem sc_Lis : FnScope ["_law_ratio_here", "_law_due"] ["_law_ratio_here", "_law_due"] (defScope s_Lis) := ⟨rfl, rfl, rfl, by decide +kernel, rfl, by decide +kernel, by decide +kernel⟩
theorem b_Lis (hL : Lnk P w K mg base (lk ca) prog fi n) (Tx : Txt K mg ca fi) {wf : Nat} {cdv : Value} {A : Around} {outer : List Env} {s : Shared} {H : Hp} {E : XK} (hr : Room (2 * n + 1) (A.deeper (envOfC "_law_is" (defScope s_Lis) s.heap.objs.size (fi 18).addr cdv))) :
    QSs (cxF P w K mg base ["_law_ratio_here", "_law_due"] "_law_is" s_Lis (fi 18).addr cdv A outer s H E) (lk ca) (tab prog wf n) (fun cls d _ H => E cls d H) (defBody s_Lis) B_Lis :=
  (qs_cons (q_ret (pE_an (pE_isi rfl Tx.n_isinstance (by decide +kernel) (tyOk_o Tx.kit0 Tx.isc0) (pB (pE_var (i := 0) rfl (by first | exact Or.inl rfl | exact Or.inr (Or.inl rfl) | exact Or.inr (Or.inr rfl)))) (pe_glob (v := .ref (ca 0)) rfl Tx.mc0 rfl)) (pE_one (pE_call (f := 11) hL hr (takes_of rfl rfl rfl rfl) rfl rfl rfl rfl Tx.m11 Tx.k11 Tx.b11 .nil (fun _ _ => .nil) (pA_cons (pE_lst (pA_cons (pE_fld (pE_var (i := 0) rfl (by first | exact Or.inl rfl | exact Or.inr (Or.inl rfl) | exact Or.inr (Or.inr rfl))) Tx.cl0 Tx.na0_0 rfl rfl) (pA_cons (pE_fld (pE_var (i := 0) rfl (by first | exact Or.inl rfl | exact Or.inr (Or.inl rfl) | exact Or.inr (Or.inr rfl))) Tx.cl0 Tx.na0_1 rfl rfl) pA_nil))) (pA_cons (pE_biT hL hr rfl .list rfl rfl Tx.n_list (by decide +kernel) (pB (pE_var (i := 1) rfl (by first | exact Or.inl rfl | exact Or.inr (Or.inl rfl) | exact Or.inr (Or.inr rfl))))) pA_nil)))))) qs_nil)
theorem sc_Lrefused : FnScope ["_law_one", "_law_other", "e"] ["_law_one", "_law_other"] (defScope s_Lrefused) := ⟨rfl, rfl, rfl, by decide +kernel, rfl, by decide +kernel, by decide +kernel⟩
theorem hcs_Lrefused_0 (Tx : Txt K mg ca fi) : ∀ c b, cs_Lrefused_0 c = some b → PySem.W.exmOne K (.ref ((lk ca).ca c)) (.ref ((lk ca).ca 1)) = some b := by
  intro c b h
  unfold cs_Lrefused_0 at h
  split at h <;> cases h
  all_goals first | exact Tx.em3_1
theorem b_Lrefused (hL : Lnk P w K mg base (lk ca) prog fi n) (Tx : Txt K mg ca fi) {wf : Nat} {cdv : Value} {A : Around} {outer : List Env} {s : Shared} {H : Hp} {E : XK} (hr : Room (2 * n + 1) (A.deeper (envOfC "_law_refused" (defScope s_Lrefused) s.heap.objs.size (fi 19).addr cdv))) :
    QSs (cxF P w K mg base ["_law_one", "_law_other", "e"] "_law_refused" s_Lrefused (fi 19).addr cdv A outer s H E) (lk ca) (tab prog wf n) (fun cls d _ H => E cls d H) (defBody s_Lrefused) B_Lrefused :=
  (qs_cons (q_try (i := 2) (cc := 1) rfl rfl sc_Lrefused.nd rfl rfl ⟨rfl, by decide, .inl Tx.xm1⟩ (takes_of rfl rfl rfl rfl) (hcs_Lrefused_0 Tx)
      (fun W_ pn xe tkB poB => (qs_cons (q_ite (pT_cm hL hr .is (pB (pE_var (i := 1) rfl (by first | exact Or.inl rfl | exact Or.inr (Or.inl rfl) | exact Or.inr (Or.inr rfl)))) (pB pE_non) (nomark _))
      (qs_cons (q_drop (pE_mk (f := 0) hL hr tkB rfl rfl Tx.mk0 rfl Tx.mc0 Tx.b0 .nil (fun _ _ => .nil) (pA_cons (pE_ix (pB (pE_var (i := 0) rfl (by first | exact Or.inl rfl | exact Or.inr (Or.inl rfl) | exact Or.inr (Or.inr rfl)))) (pB pE_int) (fun _ _ => rfl)) (pA_cons (pE_ix (pB (pE_var (i := 0) rfl (by first | exact Or.inl rfl | exact Or.inr (Or.inl rfl) | exact Or.inr (Or.inr rfl)))) (pB pE_int) (fun _ _ => rfl)) pA_nil)))) qs_nil)
      (qs_cons (q_drop (pE_meth (f := 7) hL hr tkB rfl rfl rfl Tx.cl0 Tx.me7 rfl Tx.b7 .nil (fun _ _ => .nil) (pE_mk (f := 0) hL hr tkB rfl rfl Tx.mk0 rfl Tx.mc0 Tx.b0 .nil (fun _ _ => .nil) (pA_cons (pE_ix (pB (pE_var (i := 0) rfl (by first | exact Or.inl rfl | exact Or.inr (Or.inl rfl) | exact Or.inr (Or.inr rfl)))) (pB pE_int) (fun _ _ => rfl)) (pA_cons (pE_ix (pB (pE_var (i := 0) rfl (by first | exact Or.inl rfl | exact Or.inr (Or.inl rfl) | exact Or.inr (Or.inr rfl)))) (pB pE_int) (fun _ _ => rfl)) pA_nil))) (pA_cons (pE_mk (f := 0) hL hr tkB rfl rfl Tx.mk0 rfl Tx.mc0 Tx.b0 .nil (fun _ _ => .nil) (pA_cons (pE_ix (pB (pE_var (i := 1) rfl (by first | exact Or.inl rfl | exact Or.inr (Or.inl rfl) | exact Or.inr (Or.inr rfl)))) (pB pE_int) (fun _ _ => rfl)) (pA_cons (pE_ix (pB (pE_var (i := 1) rfl (by first | exact Or.inl rfl | exact Or.inr (Or.inl rfl) | exact Or.inr (Or.inr rfl)))) (pB pE_int) (fun _ _ => rfl)) pA_nil))) pA_nil))) qs_nil)) qs_nil))
      (fun c fs a oe d pn xf hcb hz hv hx => by
      unfold hd_Lrefused_0
      by_cases h3 : c = 3
      · subst h3
        rw [if_pos rfl]
        exact match fs, hx with
      | [], hx => by
          obtain ⟨rfl, rfl⟩ := hx
          exact (qs_cons (q_ite (pT_tru (pB (pE_xT (i := 2) (cvs := [(.ref (ca 6)), (.ref (ca 4)), (.ref (ca 5)), (.ref (ca 2)), (.ref (ca 7))]) Tx.xc3 hz hv rfl (by first | exact Or.inl rfl | exact Or.inr (Or.inl rfl) | exact Or.inr (Or.inr rfl)) rfl Tx.n_isinstance (.cons (.own _) (.cons (.own _) (.cons (.own _) (.cons (.own _) (.cons (.own _) .nil))))) (kitAny_cons Tx.ko3_BadPaper (fun _ => (kitAny_cons Tx.ko3_BadTable (fun _ => (kitAny_cons Tx.ko3_BadTask (fun _ => (kitAny_cons Tx.ko3_BadText (fun _ => (kitAny_cons Tx.ko3_TooLarge (fun _ => rfl) (fun h => nomatch h))) (fun h => nomatch h))) (fun h => nomatch h))) (fun h => nomatch h))) (fun h => nomatch h)) (by simp) (pa_cons (pe_glob (v := .ref (ca 6)) rfl Tx.xm6 rfl) (pa_cons (pe_glob (v := .ref (ca 4)) rfl Tx.xm4 rfl) (pa_cons (pe_glob (v := .ref (ca 5)) rfl Tx.xm5 rfl) (pa_cons (pe_glob (v := .ref (ca 2)) rfl Tx.xm2 rfl) (pa_cons (pe_glob (v := .ref (ca 7)) rfl Tx.xm7 rfl) pa_nil))))) (fun _ _ _ h => h))) (fun _ => rfl))
        (qs_cons (q_ret pE_bl) qs_nil)
        qs_nil)
        (qs_cons (q_ret (pE_an (pE_x1 (i := 2) (cv := (.ref (ca 3))) Tx.xc3 hz hv rfl (by first | exact Or.inl rfl | exact Or.inr (Or.inl rfl) | exact Or.inr (Or.inr rfl)) rfl Tx.n_isinstance (.own _) Tx.ko3_BadRatio (pe_glob (v := .ref (ca 3)) rfl Tx.xm3 rfl)) (pE_one (pE_x1 (i := 2) (cv := (.ty "ValueError")) Tx.xc3 hz hv rfl (by first | exact Or.inl rfl | exact Or.inr (Or.inl rfl) | exact Or.inr (Or.inr rfl)) rfl Tx.n_isinstance (.ty "ValueError") Tx.ko3_ValueError (pe_bltn (v := .ty "ValueError") rfl Tx.n_ValueError (by decide +kernel) rfl))))) qs_nil))
        | _ :: _, _ => qs_never
      rw [if_neg h3]
      exact qs_never))
      (qs_cons (q_ret pE_bl) qs_nil))
theorem sc_Lpair : FnScope ["_law_pool_here", "_law_num"] ["_law_pool_here"] (defScope s_Lpair) := ⟨rfl, rfl, rfl, by decide +kernel, rfl, by decide +kernel, by decide +kernel⟩
theorem b_Lpair (hL : Lnk P w K mg base (lk ca) prog fi n) (Tx : Txt K mg ca fi) {wf : Nat} {cdv : Value} {A : Around} {outer : List Env} {s : Shared} {H : Hp} {E : XK} (hr : Room (2 * n + 1) (A.deeper (envOfC "_law_pair" (defScope s_Lpair) s.heap.objs.size (fi 20).addr cdv))) :
    QSs (cxF P w K mg base ["_law_pool_here", "_law_num"] "_law_pair" s_Lpair (fi 20).addr cdv A outer s H E) (lk ca) (tab prog wf n) (fun cls d _ H => E cls d H) (defBody s_Lpair) B_Lpair :=
  (qs_cons (q_set (ps_set (i := 1) sc_Lpair.nd rfl (by first | exact Or.inl rfl | exact Or.inr rfl) (pE_op hL hr .sub (pB (pE_call (f := 10) hL hr (takes_of rfl rfl rfl rfl) rfl rfl rfl rfl Tx.m10 Tx.k10 Tx.b10 .nil (fun _ _ => .nil) (pA_cons (pE_var (i := 0) rfl (by first | exact Or.inl rfl | exact Or.inr (Or.inl rfl) | exact Or.inr (Or.inr rfl))) (pA_cons pE_int pA_nil)))) (pB pE_int))))
      (qs_cons (q_ret (pE_tup (pA_cons (pE_ix (pB (pE_tup (pA_cons (pE_var (i := 1) rfl (by first | exact Or.inl rfl | exact Or.inr (Or.inl rfl) | exact Or.inr (Or.inr rfl))) (pA_cons (pE_op hL hr .sub (pB (pE_call (f := 10) hL hr (takes_of rfl rfl rfl rfl) rfl rfl rfl rfl Tx.m10 Tx.k10 Tx.b10 .nil (fun _ _ => .nil) (pA_cons (pE_var (i := 0) rfl (by first | exact Or.inl rfl | exact Or.inr (Or.inl rfl) | exact Or.inr (Or.inr rfl))) (pA_cons pE_int pA_nil)))) (pB pE_int)) (pA_cons pE_int pA_nil))))) (pB (pE_call (f := 10) hL hr (takes_of rfl rfl rfl rfl) rfl rfl rfl rfl Tx.m10 Tx.k10 Tx.b10 .nil (fun _ _ => .nil) (pA_cons (pE_var (i := 0) rfl (by first | exact Or.inl rfl | exact Or.inr (Or.inl rfl) | exact Or.inr (Or.inr rfl))) (pA_cons pE_int pA_nil)))) (fun _ _ => rfl)) (pA_cons (pE_op hL hr .add (pB pE_int) (pB (pE_ix (pB (pE_tup (pA_cons (pE_call (f := 10) hL hr (takes_of rfl rfl rfl rfl) rfl rfl rfl rfl Tx.m10 Tx.k10 Tx.b10 .nil (fun _ _ => .nil) (pA_cons (pE_var (i := 0) rfl (by first | exact Or.inl rfl | exact Or.inr (Or.inl rfl) | exact Or.inr (Or.inr rfl))) (pA_cons pE_int pA_nil))) (pA_cons (pE_call (f := 10) hL hr (takes_of rfl rfl rfl rfl) rfl rfl rfl rfl Tx.m10 Tx.k10 Tx.b10 .nil (fun _ _ => .nil) (pA_cons (pE_var (i := 0) rfl (by first | exact Or.inl rfl | exact Or.inr (Or.inl rfl) | exact Or.inr (Or.inr rfl))) (pA_cons pE_int pA_nil))) pA_nil)))) (pB (pE_call (f := 10) hL hr (takes_of rfl rfl rfl rfl) rfl rfl rfl rfl Tx.m10 Tx.k10 Tx.b10 .nil (fun _ _ => .nil) (pA_cons (pE_var (i := 0) rfl (by first | exact Or.inl rfl | exact Or.inr (Or.inl rfl) | exact Or.inr (Or.inr rfl))) (pA_cons pE_int pA_nil)))) (fun _ _ => rfl)))) pA_nil)))) qs_nil))
theorem sc_Lchain : FnScope ["_law_count", "_law_one", "_law_other", "_law_turn", "_law_kept"] ["_law_count"] (defScope s_Lchain) := ⟨rfl, rfl, rfl, by decide +kernel, rfl, by decide +kernel, by decide +kernel⟩
theorem b_Lchain (hL : Lnk P w K mg base (lk ca) prog fi n) (Tx : Txt K mg ca fi) {wf : Nat} {cdv : Value} {A : Around} {outer : List Env} {s : Shared} {H : Hp} {E : XK} (hr : Room (2 * n + 1) (A.deeper (envOfC "_law_chain" (defScope s_Lchain) s.heap.objs.size (fi 21).addr cdv))) :
    QSs (cxF P w K mg base ["_law_count", "_law_one", "_law_other", "_law_turn", "_law_kept"] "_law_chain" s_Lchain (fi 21).addr cdv A outer s H E) (lk ca) (tab prog wf n) (fun cls d _ H => E cls d H) (defBody s_Lchain) B_Lchain :=
  (qs_cons (q_set (ps_set (i := 1) sc_Lchain.nd rfl (by first | exact Or.inl rfl | exact Or.inr rfl) pE_int))
      (qs_cons (q_set (ps_set (i := 2) sc_Lchain.nd rfl (by first | exact Or.inl rfl | exact Or.inr rfl) pE_int))
      (qs_cons (q_fo (passes_of rfl) rfl (pI_rng1 rfl Tx.n_range (pB (pE_var (i := 0) rfl (by first | exact Or.inl rfl | exact Or.inr (Or.inl rfl) | exact Or.inr (Or.inr rfl))))) (pg_name (i := 3) sc_Lchain.nd rfl (by first | exact Or.inl rfl | exact Or.inr rfl)) tgS_one
      (qs_cons (q_set (ps_set (i := 4) sc_Lchain.nd rfl (by first | exact Or.inl rfl | exact Or.inr rfl) (pE_var (i := 2) rfl (by first | exact Or.inl rfl | exact Or.inr (Or.inl rfl) | exact Or.inr (Or.inr rfl)))))
      (qs_cons (q_set (ps_set (i := 2) sc_Lchain.nd rfl (by first | exact Or.inl rfl | exact Or.inr rfl) (pE_op hL hr .add (pB (pE_var (i := 1) rfl (by first | exact Or.inl rfl | exact Or.inr (Or.inl rfl) | exact Or.inr (Or.inr rfl)))) (pB (pE_var (i := 2) rfl (by first | exact Or.inl rfl | exact Or.inr (Or.inl rfl) | exact Or.inr (Or.inr rfl)))))))
      (qs_cons (q_set (ps_set (i := 1) sc_Lchain.nd rfl (by first | exact Or.inl rfl | exact Or.inr rfl) (pE_var (i := 4) rfl (by first | exact Or.inl rfl | exact Or.inr (Or.inl rfl) | exact Or.inr (Or.inr rfl))))) qs_nil))))
      (qs_cons (q_ret (pE_tup (pA_cons (pE_var (i := 1) rfl (by first | exact Or.inl rfl | exact Or.inr (Or.inl rfl) | exact Or.inr (Or.inr rfl))) (pA_cons (pE_var (i := 2) rfl (by first | exact Or.inl rfl | exact Or.inr (Or.inl rfl) | exact Or.inr (Or.inr rfl))) pA_nil)))) qs_nil))))
theorem sc_law : FnScope ["_law_script", "_law_pool_here", "_law_turn", "_law_one", "_law_other", "_law_a", "_law_b", "_law_due", "_law_text", "_law_sign"] ["_law_script"] (defScope s_law) := ⟨rfl, rfl, rfl, by decide +kernel, rfl, by decide +kernel, by decide +kernel⟩
theorem b_law (hL : Lnk P w K mg base (lk ca) prog fi n) (Tx : Txt K mg ca fi) {wf : Nat} {cdv : Value} {A : Around} {outer : List Env} {s : Shared} {H : Hp} {E : XK} (hr : Room (2 * n + 1) (A.deeper (envOfC "law" (defScope s_law) s.heap.objs.size (fi 22).addr cdv))) :
    QSs (cxF P w K mg base ["_law_script", "_law_pool_here", "_law_turn", "_law_one", "_law_other", "_law_a", "_law_b", "_law_due", "_law_text", "_law_sign"] "law" s_law (fi 22).addr cdv A outer s H E) (lk ca) (tab prog wf n) (fun cls d _ H => E cls d H) (defBody s_law) B_law :=
  (qs_cons (q_setA (ps_set (i := 1) sc_law.nd rfl (by first | exact Or.inl rfl | exact Or.inr rfl) (pF_call (f := 9) hL hr (takes_of rfl rfl rfl rfl) rfl rfl rfl rfl Tx.m9 Tx.k9 Tx.b9 .nil (fun _ _ => .nil) (pA_cons (pE_var (i := 0) rfl (by first | exact Or.inl rfl | exact Or.inr (Or.inl rfl) | exact Or.inr (Or.inr rfl))) (pA_cons pE_int pA_nil)))))
      (qs_cons (q_fo (passes_of rfl) rfl (pI_rng1 rfl Tx.n_range (pB pE_int)) (pg_name (i := 2) sc_law.nd rfl (by first | exact Or.inl rfl | exact Or.inr rfl)) tgS_one
      (qs_cons (q_set (ps_set (i := 3) sc_law.nd rfl (by first | exact Or.inl rfl | exact Or.inr rfl) (pE_call (f := 20) hL hr (takes_of rfl rfl rfl rfl) rfl rfl rfl rfl Tx.m20 Tx.k20 Tx.b20 .nil (fun _ _ => .nil) (pA_cons (pE_var (i := 1) rfl (by first | exact Or.inl rfl | exact Or.inr (Or.inl rfl) | exact Or.inr (Or.inr rfl))) pA_nil))))
      (qs_cons (q_ite (pT_cm hL hr .eq (pB (pE_call (f := 10) hL hr (takes_of rfl rfl rfl rfl) rfl rfl rfl rfl Tx.m10 Tx.k10 Tx.b10 .nil (fun _ _ => .nil) (pA_cons (pE_var (i := 1) rfl (by first | exact Or.inl rfl | exact Or.inr (Or.inl rfl) | exact Or.inr (Or.inr rfl))) (pA_cons pE_int pA_nil)))) (pB pE_int) (nomark _))
      (qs_cons (q_set (ps_set (i := 3) sc_law.nd rfl (by first | exact Or.inl rfl | exact Or.inr rfl) (pE_call (f := 21) hL hr (takes_of rfl rfl rfl rfl) rfl rfl rfl rfl Tx.m21 Tx.k21 Tx.b21 .nil (fun _ _ => .nil) (pA_cons (pE_op hL hr .add (pB pE_int) (pB (pE_call (f := 10) hL hr (takes_of rfl rfl rfl rfl) rfl rfl rfl rfl Tx.m10 Tx.k10 Tx.b10 .nil (fun _ _ => .nil) (pA_cons (pE_var (i := 1) rfl (by first | exact Or.inl rfl | exact Or.inr (Or.inl rfl) | exact Or.inr (Or.inr rfl))) (pA_cons pE_int pA_nil))))) pA_nil)))) qs_nil)
      qs_nil)
      (qs_cons (q_set (ps_set (i := 4) sc_law.nd rfl (by first | exact Or.inl rfl | exact Or.inr rfl) (pE_ix (pB (pE_tup (pA_cons (pE_call (f := 20) hL hr (takes_of rfl rfl rfl rfl) rfl rfl rfl rfl Tx.m20 Tx.k20 Tx.b20 .nil (fun _ _ => .nil) (pA_cons (pE_var (i := 1) rfl (by first | exact Or.inl rfl | exact Or.inr (Or.inl rfl) | exact Or.inr (Or.inr rfl))) pA_nil)) (pA_cons (pE_var (i := 3) rfl (by first | exact Or.inl rfl | exact Or.inr (Or.inl rfl) | exact Or.inr (Or.inr rfl))) pA_nil)))) (pB (pE_biT hL hr rfl .int rfl rfl Tx.n_int (by decide +kernel) (pB (pE_cm hL hr .eq (pB (pE_call (f := 10) hL hr (takes_of rfl rfl rfl rfl) rfl rfl rfl rfl Tx.m10 Tx.k10 Tx.b10 .nil (fun _ _ => .nil) (pA_cons (pE_var (i := 1) rfl (by first | exact Or.inl rfl | exact Or.inr (Or.inl rfl) | exact Or.inr (Or.inr rfl))) (pA_cons pE_int pA_nil)))) (pB pE_int) (nomark _))))) (fun _ _ => rfl))))
      (qs_cons (q_set (ps_set (i := 5) sc_law.nd rfl (by first | exact Or.inl rfl | exact Or.inr rfl) (pE_call (f := 17) hL hr (takes_of rfl rfl rfl rfl) rfl rfl rfl rfl Tx.m17 Tx.k17 Tx.b17 .nil (fun _ _ => .nil) (pA_cons (pE_var (i := 3) rfl (by first | exact Or.inl rfl | exact Or.inr (Or.inl rfl) | exact Or.inr (Or.inr rfl))) pA_nil))))
      (qs_cons (q_set (ps_set (i := 6) sc_law.nd rfl (by first | exact Or.inl rfl | exact Or.inr rfl) (pE_call (f := 17) hL hr (takes_of rfl rfl rfl rfl) rfl rfl rfl rfl Tx.m17 Tx.k17 Tx.b17 .nil (fun _ _ => .nil) (pA_cons (pE_var (i := 4) rfl (by first | exact Or.inl rfl | exact Or.inr (Or.inl rfl) | exact Or.inr (Or.inr rfl))) pA_nil))))
      (qs_cons (q_set (ps_set (i := 7) sc_law.nd rfl (by first | exact Or.inl rfl | exact Or.inr rfl) (pE_call (f := 12) hL hr (takes_of rfl rfl rfl rfl) rfl rfl rfl rfl Tx.m12 Tx.k12 Tx.b12 .nil (fun _ _ => .nil) (pA_cons (pE_ix (pB (pE_var (i := 3) rfl (by first | exact Or.inl rfl | exact Or.inr (Or.inl rfl) | exact Or.inr (Or.inr rfl)))) (pB pE_int) (fun _ _ => rfl)) (pA_cons (pE_ix (pB (pE_var (i := 3) rfl (by first | exact Or.inl rfl | exact Or.inr (Or.inl rfl) | exact Or.inr (Or.inr rfl)))) (pB pE_int) (fun _ _ => rfl)) pA_nil)))))
      (qs_cons (q_set (ps_set (i := 8) sc_law.nd rfl (by first | exact Or.inl rfl | exact Or.inr rfl) (pE_biT hL hr rfl .str rfl rfl Tx.n_str (by decide +kernel) (pB (pE_ix (pB (pE_var (i := 7) rfl (by first | exact Or.inl rfl | exact Or.inr (Or.inl rfl) | exact Or.inr (Or.inr rfl)))) (pB pE_int) (fun _ _ => rfl))))))
      (qs_cons (q_ite (pT_cm hL hr .gt (pB (pE_ix (pB (pE_var (i := 7) rfl (by first | exact Or.inl rfl | exact Or.inr (Or.inl rfl) | exact Or.inr (Or.inr rfl)))) (pB pE_int) (fun _ _ => rfl))) (pB pE_int) (nomark _))
      (qs_cons (q_set (ps_set (i := 8) sc_law.nd rfl (by first | exact Or.inl rfl | exact Or.inr rfl) (pE_op hL hr .add (pB (pE_op hL hr .add (pB (pE_var (i := 8) rfl (by first | exact Or.inl rfl | exact Or.inr (Or.inl rfl) | exact Or.inr (Or.inr rfl)))) (pB pE_str))) (pB (pE_biT hL hr rfl .str rfl rfl Tx.n_str (by decide +kernel) (pB (pE_ix (pB (pE_var (i := 7) rfl (by first | exact Or.inl rfl | exact Or.inr (Or.inl rfl) | exact Or.inr (Or.inr rfl)))) (pB pE_int) (fun _ _ => rfl)))))))) qs_nil)
      qs_nil)
      (qs_cons (q_ite (L2.PW.pt (pW_or (pT_no (pT_tru (pB (pE_call (f := 18) hL hr (takes_of rfl rfl rfl rfl) rfl rfl rfl rfl Tx.m18 Tx.k18 Tx.b18 .nil (fun _ _ => .nil) (pA_cons (pE_var (i := 5) rfl (by first | exact Or.inl rfl | exact Or.inr (Or.inl rfl) | exact Or.inr (Or.inr rfl))) (pA_cons (pE_var (i := 7) rfl (by first | exact Or.inl rfl | exact Or.inr (Or.inl rfl) | exact Or.inr (Or.inr rfl))) pA_nil)))) (fun _ => rfl))) (pW_or (pT_no (pT_tru (pB (pE_call (f := 11) hL hr (takes_of rfl rfl rfl rfl) rfl rfl rfl rfl Tx.m11 Tx.k11 Tx.b11 .nil (fun _ _ => .nil) (pA_cons (pE_biT hL hr rfl .str rfl rfl Tx.n_str (by decide +kernel) (pB (pE_var (i := 5) rfl (by first | exact Or.inl rfl | exact Or.inr (Or.inl rfl) | exact Or.inr (Or.inr rfl))))) (pA_cons (pE_var (i := 8) rfl (by first | exact Or.inl rfl | exact Or.inr (Or.inl rfl) | exact Or.inr (Or.inr rfl))) pA_nil)))) (fun _ => rfl))) (pW_or1 (pT_no (pT_tru (pB (pE_call (f := 18) hL hr (takes_of rfl rfl rfl rfl) rfl rfl rfl rfl Tx.m18 Tx.k18 Tx.b18 .nil (fun _ _ => .nil) (pA_cons (pE_op hL hr .add (pB (pE_var (i := 5) rfl (by first | exact Or.inl rfl | exact Or.inr (Or.inl rfl) | exact Or.inr (Or.inr rfl)))) (pB (pE_var (i := 6) rfl (by first | exact Or.inl rfl | exact Or.inr (Or.inl rfl) | exact Or.inr (Or.inr rfl))))) (pA_cons (pE_call (f := 13) hL hr (takes_of rfl rfl rfl rfl) rfl rfl rfl rfl Tx.m13 Tx.k13 Tx.b13 .nil (fun _ _ => .nil) (pA_cons (pE_var (i := 3) rfl (by first | exact Or.inl rfl | exact Or.inr (Or.inl rfl) | exact Or.inr (Or.inr rfl))) (pA_cons (pE_var (i := 4) rfl (by first | exact Or.inl rfl | exact Or.inr (Or.inl rfl) | exact Or.inr (Or.inr rfl))) pA_nil))) pA_nil)))) (fun _ => rfl)))))))
      (qs_cons (q_ret pE_bl) qs_nil)
      qs_nil)
      (qs_cons (q_ite (L2.PW.pt (pW_or (pT_no (pT_tru (pB (pE_call (f := 18) hL hr (takes_of rfl rfl rfl rfl) rfl rfl rfl rfl Tx.m18 Tx.k18 Tx.b18 .nil (fun _ _ => .nil) (pA_cons (pE_op hL hr .sub (pB (pE_var (i := 5) rfl (by first | exact Or.inl rfl | exact Or.inr (Or.inl rfl) | exact Or.inr (Or.inr rfl)))) (pB (pE_var (i := 6) rfl (by first | exact Or.inl rfl | exact Or.inr (Or.inl rfl) | exact Or.inr (Or.inr rfl))))) (pA_cons (pE_call (f := 14) hL hr (takes_of rfl rfl rfl rfl) rfl rfl rfl rfl Tx.m14 Tx.k14 Tx.b14 .nil (fun _ _ => .nil) (pA_cons (pE_var (i := 3) rfl (by first | exact Or.inl rfl | exact Or.inr (Or.inl rfl) | exact Or.inr (Or.inr rfl))) (pA_cons (pE_var (i := 4) rfl (by first | exact Or.inl rfl | exact Or.inr (Or.inl rfl) | exact Or.inr (Or.inr rfl))) pA_nil))) pA_nil)))) (fun _ => rfl))) (pW_or1 (pT_no (pT_tru (pB (pE_call (f := 18) hL hr (takes_of rfl rfl rfl rfl) rfl rfl rfl rfl Tx.m18 Tx.k18 Tx.b18 .nil (fun _ _ => .nil) (pA_cons (pE_op hL hr .mul (pB (pE_var (i := 5) rfl (by first | exact Or.inl rfl | exact Or.inr (Or.inl rfl) | exact Or.inr (Or.inr rfl)))) (pB (pE_var (i := 6) rfl (by first | exact Or.inl rfl | exact Or.inr (Or.inl rfl) | exact Or.inr (Or.inr rfl))))) (pA_cons (pE_call (f := 15) hL hr (takes_of rfl rfl rfl rfl) rfl rfl rfl rfl Tx.m15 Tx.k15 Tx.b15 .nil (fun _ _ => .nil) (pA_cons (pE_var (i := 3) rfl (by first | exact Or.inl rfl | exact Or.inr (Or.inl rfl) | exact Or.inr (Or.inr rfl))) (pA_cons (pE_var (i := 4) rfl (by first | exact Or.inl rfl | exact Or.inr (Or.inl rfl) | exact Or.inr (Or.inr rfl))) pA_nil))) pA_nil)))) (fun _ => rfl))))))
      (qs_cons (q_ret pE_bl) qs_nil)
      qs_nil)
      (qs_cons (q_ite (L2.PW.pt (pW_or (pT_no (pT_tru (pB (pE_call (f := 11) hL hr (takes_of rfl rfl rfl rfl) rfl rfl rfl rfl Tx.m11 Tx.k11 Tx.b11 .nil (fun _ _ => .nil) (pA_cons (pE_meth (f := 6) hL hr (takes_of rfl rfl rfl rfl) rfl rfl rfl Tx.cl0 Tx.me6 rfl Tx.b6 .nil (fun _ _ => .nil) (pE_var (i := 5) rfl (by first | exact Or.inl rfl | exact Or.inr (Or.inl rfl) | exact Or.inr (Or.inr rfl))) (pA_cons (pE_var (i := 6) rfl (by first | exact Or.inl rfl | exact Or.inr (Or.inl rfl) | exact Or.inr (Or.inr rfl))) pA_nil)) (pA_cons (pE_call (f := 16) hL hr (takes_of rfl rfl rfl rfl) rfl rfl rfl rfl Tx.m16 Tx.k16 Tx.b16 .nil (fun _ _ => .nil) (pA_cons (pE_var (i := 3) rfl (by first | exact Or.inl rfl | exact Or.inr (Or.inl rfl) | exact Or.inr (Or.inr rfl))) (pA_cons (pE_var (i := 4) rfl (by first | exact Or.inl rfl | exact Or.inr (Or.inl rfl) | exact Or.inr (Or.inr rfl))) pA_nil))) pA_nil)))) (fun _ => rfl))) (pW_or1 (pT_no (pT_tru (pB (pE_call (f := 11) hL hr (takes_of rfl rfl rfl rfl) rfl rfl rfl rfl Tx.m11 Tx.k11 Tx.b11 .nil (fun _ _ => .nil) (pA_cons (pE_cm hL hr .eq (pB (pE_var (i := 5) rfl (by first | exact Or.inl rfl | exact Or.inr (Or.inl rfl) | exact Or.inr (Or.inr rfl)))) (pB (pE_var (i := 6) rfl (by first | exact Or.inl rfl | exact Or.inr (Or.inl rfl) | exact Or.inr (Or.inr rfl)))) (nomark _)) (pA_cons (pE_cm hL hr .eq (pB (pE_call (f := 12) hL hr (takes_of rfl rfl rfl rfl) rfl rfl rfl rfl Tx.m12 Tx.k12 Tx.b12 .nil (fun _ _ => .nil) (pA_cons (pE_ix (pB (pE_var (i := 4) rfl (by first | exact Or.inl rfl | exact Or.inr (Or.inl rfl) | exact Or.inr (Or.inr rfl)))) (pB pE_int) (fun _ _ => rfl)) (pA_cons (pE_ix (pB (pE_var (i := 4) rfl (by first | exact Or.inl rfl | exact Or.inr (Or.inl rfl) | exact Or.inr (Or.inr rfl)))) (pB pE_int) (fun _ _ => rfl)) pA_nil)))) (pB (pE_var (i := 7) rfl (by first | exact Or.inl rfl | exact Or.inr (Or.inl rfl) | exact Or.inr (Or.inr rfl)))) (nomark _)) pA_nil)))) (fun _ => rfl))))))
      (qs_cons (q_ret pE_bl) qs_nil)
      qs_nil)
      (qs_cons (q_set (ps_set (i := 9) sc_law.nd rfl (by first | exact Or.inl rfl | exact Or.inr rfl) (pE_op hL hr .sub (pB pE_int) (pB (pE_op hL hr .mul (pB pE_int) (pB (pE_biT hL hr rfl .int rfl rfl Tx.n_int (by decide +kernel) (pB (pE_cm hL hr .lt (pB (pE_ix (pB (pE_var (i := 4) rfl (by first | exact Or.inl rfl | exact Or.inr (Or.inl rfl) | exact Or.inr (Or.inr rfl)))) (pB pE_int) (fun _ _ => rfl))) (pB pE_int) (nomark _))))))))))
      (qs_cons (q_ite (pT_cm hL hr .eq (pB (pE_ix (pB (pE_var (i := 4) rfl (by first | exact Or.inl rfl | exact Or.inr (Or.inl rfl) | exact Or.inr (Or.inr rfl)))) (pB pE_int) (fun _ _ => rfl))) (pB pE_int) (nomark _))
      (qs_cons (q_ite (pT_no (pT_tru (pB (pE_call (f := 19) hL hr (takes_of rfl rfl rfl rfl) rfl rfl rfl rfl Tx.m19 Tx.k19 Tx.b19 .nil (fun _ _ => .nil) (pA_cons (pE_var (i := 3) rfl (by first | exact Or.inl rfl | exact Or.inr (Or.inl rfl) | exact Or.inr (Or.inr rfl))) (pA_cons (pE_var (i := 4) rfl (by first | exact Or.inl rfl | exact Or.inr (Or.inl rfl) | exact Or.inr (Or.inr rfl))) pA_nil)))) (fun _ => rfl)))
      (qs_cons (q_ret pE_bl) qs_nil)
      qs_nil) qs_nil)
      (qs_cons (q_ite (pT_no (pT_tru (pB (pE_call (f := 18) hL hr (takes_of rfl rfl rfl rfl) rfl rfl rfl rfl Tx.m18 Tx.k18 Tx.b18 .nil (fun _ _ => .nil) (pA_cons (pE_meth (f := 7) hL hr (takes_of rfl rfl rfl rfl) rfl rfl rfl Tx.cl0 Tx.me7 rfl Tx.b7 .nil (fun _ _ => .nil) (pE_var (i := 5) rfl (by first | exact Or.inl rfl | exact Or.inr (Or.inl rfl) | exact Or.inr (Or.inr rfl))) (pA_cons (pE_var (i := 6) rfl (by first | exact Or.inl rfl | exact Or.inr (Or.inl rfl) | exact Or.inr (Or.inr rfl))) pA_nil)) (pA_cons (pE_call (f := 12) hL hr (takes_of rfl rfl rfl rfl) rfl rfl rfl rfl Tx.m12 Tx.k12 Tx.b12 .nil (fun _ _ => .nil) (pA_cons (pE_op hL hr .mul (pB (pE_op hL hr .mul (pB (pE_ix (pB (pE_var (i := 3) rfl (by first | exact Or.inl rfl | exact Or.inr (Or.inl rfl) | exact Or.inr (Or.inr rfl)))) (pB pE_int) (fun _ _ => rfl))) (pB (pE_ix (pB (pE_var (i := 4) rfl (by first | exact Or.inl rfl | exact Or.inr (Or.inl rfl) | exact Or.inr (Or.inr rfl)))) (pB pE_int) (fun _ _ => rfl))))) (pB (pE_var (i := 9) rfl (by first | exact Or.inl rfl | exact Or.inr (Or.inl rfl) | exact Or.inr (Or.inr rfl))))) (pA_cons (pE_op hL hr .mul (pB (pE_op hL hr .mul (pB (pE_ix (pB (pE_var (i := 3) rfl (by first | exact Or.inl rfl | exact Or.inr (Or.inl rfl) | exact Or.inr (Or.inr rfl)))) (pB pE_int) (fun _ _ => rfl))) (pB (pE_ix (pB (pE_var (i := 4) rfl (by first | exact Or.inl rfl | exact Or.inr (Or.inl rfl) | exact Or.inr (Or.inr rfl)))) (pB pE_int) (fun _ _ => rfl))))) (pB (pE_var (i := 9) rfl (by first | exact Or.inl rfl | exact Or.inr (Or.inl rfl) | exact Or.inr (Or.inr rfl))))) pA_nil))) pA_nil)))) (fun _ => rfl)))
      (qs_cons (q_ret pE_bl) qs_nil)
      qs_nil) qs_nil))
      (qs_cons (q_ite (L2.PW.pt (pW_or (pT_no (pT_tru (pB (pE_call (f := 18) hL hr (takes_of rfl rfl rfl rfl) rfl rfl rfl rfl Tx.m18 Tx.k18 Tx.b18 .nil (fun _ _ => .nil) (pA_cons (pE_var (i := 5) rfl (by first | exact Or.inl rfl | exact Or.inr (Or.inl rfl) | exact Or.inr (Or.inr rfl))) (pA_cons (pE_var (i := 7) rfl (by first | exact Or.inl rfl | exact Or.inr (Or.inl rfl) | exact Or.inr (Or.inr rfl))) pA_nil)))) (fun _ => rfl))) (pW_or (pT_no (pT_tru (pB (pE_call (f := 18) hL hr (takes_of rfl rfl rfl rfl) rfl rfl rfl rfl Tx.m18 Tx.k18 Tx.b18 .nil (fun _ _ => .nil) (pA_cons (pE_var (i := 6) rfl (by first | exact Or.inl rfl | exact Or.inr (Or.inl rfl) | exact Or.inr (Or.inr rfl))) (pA_cons (pE_call (f := 12) hL hr (takes_of rfl rfl rfl rfl) rfl rfl rfl rfl Tx.m12 Tx.k12 Tx.b12 .nil (fun _ _ => .nil) (pA_cons (pE_ix (pB (pE_var (i := 4) rfl (by first | exact Or.inl rfl | exact Or.inr (Or.inl rfl) | exact Or.inr (Or.inr rfl)))) (pB pE_int) (fun _ _ => rfl)) (pA_cons (pE_ix (pB (pE_var (i := 4) rfl (by first | exact Or.inl rfl | exact Or.inr (Or.inl rfl) | exact Or.inr (Or.inr rfl)))) (pB pE_int) (fun _ _ => rfl)) pA_nil))) pA_nil)))) (fun _ => rfl))) (pW_or1 (pT_no (pT_tru (pB (pE_call (f := 11) hL hr (takes_of rfl rfl rfl rfl) rfl rfl rfl rfl Tx.m11 Tx.k11 Tx.b11 .nil (fun _ _ => .nil) (pA_cons (pE_meth (f := 6) hL hr (takes_of rfl rfl rfl rfl) rfl rfl rfl Tx.cl0 Tx.me6 rfl Tx.b6 .nil (fun _ _ => .nil) (pE_var (i := 5) rfl (by first | exact Or.inl rfl | exact Or.inr (Or.inl rfl) | exact Or.inr (Or.inr rfl))) (pA_cons (pE_var (i := 6) rfl (by first | exact Or.inl rfl | exact Or.inr (Or.inl rfl) | exact Or.inr (Or.inr rfl))) pA_nil)) (pA_cons (pE_call (f := 16) hL hr (takes_of rfl rfl rfl rfl) rfl rfl rfl rfl Tx.m16 Tx.k16 Tx.b16 .nil (fun _ _ => .nil) (pA_cons (pE_var (i := 3) rfl (by first | exact Or.inl rfl | exact Or.inr (Or.inl rfl) | exact Or.inr (Or.inr rfl))) (pA_cons (pE_var (i := 4) rfl (by first | exact Or.inl rfl | exact Or.inr (Or.inl rfl) | exact Or.inr (Or.inr rfl))) pA_nil))) pA_nil)))) (fun _ => rfl)))))))
      (qs_cons (q_ret pE_bl) qs_nil)
      qs_nil) qs_nil)))))))))))))))
      (qs_cons (q_fo (passes_of rfl) rfl (pI_rng1 rfl Tx.n_range (pB pE_int)) (pg_name (i := 2) sc_law.nd rfl (by first | exact Or.inl rfl | exact Or.inr rfl)) tgS_one
      (qs_cons (q_ite (pT_no (pT_tru (pB (pE_call (f := 19) hL hr (takes_of rfl rfl rfl rfl) rfl rfl rfl rfl Tx.m19 Tx.k19 Tx.b19 .nil (fun _ _ => .nil) (pA_cons (pE_tup (pA_cons (pE_op hL hr .sub (pB (pE_call (f := 10) hL hr (takes_of rfl rfl rfl rfl) rfl rfl rfl rfl Tx.m10 Tx.k10 Tx.b10 .nil (fun _ _ => .nil) (pA_cons (pE_var (i := 1) rfl (by first | exact Or.inl rfl | exact Or.inr (Or.inl rfl) | exact Or.inr (Or.inr rfl))) (pA_cons pE_int pA_nil)))) (pB pE_int)) (pA_cons (pE_op hL hr .sub (pB pE_int) (pB (pE_ix (pB (pE_tup (pA_cons (pE_call (f := 10) hL hr (takes_of rfl rfl rfl rfl) rfl rfl rfl rfl Tx.m10 Tx.k10 Tx.b10 .nil (fun _ _ => .nil) (pA_cons (pE_var (i := 1) rfl (by first | exact Or.inl rfl | exact Or.inr (Or.inl rfl) | exact Or.inr (Or.inr rfl))) (pA_cons pE_int pA_nil))) (pA_cons (pE_call (f := 10) hL hr (takes_of rfl rfl rfl rfl) rfl rfl rfl rfl Tx.m10 Tx.k10 Tx.b10 .nil (fun _ _ => .nil) (pA_cons (pE_var (i := 1) rfl (by first | exact Or.inl rfl | exact Or.inr (Or.inl rfl) | exact Or.inr (Or.inr rfl))) (pA_cons pE_int pA_nil))) pA_nil)))) (pB (pE_var (i := 2) rfl (by first | exact Or.inl rfl | exact Or.inr (Or.inl rfl) | exact Or.inr (Or.inr rfl)))) (fun _ _ => rfl)))) pA_nil))) (pA_cons pE_non pA_nil)))) (fun _ => rfl)))
      (qs_cons (q_ret pE_bl) qs_nil)
      qs_nil) qs_nil))
      (qs_cons (q_ret (pE_call (f := 18) hL hr (takes_of rfl rfl rfl rfl) rfl rfl rfl rfl Tx.m18 Tx.k18 Tx.b18 .nil (fun _ _ => .nil) (pA_cons (pE_mk (f := 0) hL hr (takes_of rfl rfl rfl rfl) rfl rfl Tx.mk0 rfl Tx.mc0 Tx.bd0_2.choose_spec.2 Tx.bd0_2.choose_spec.1 (fun _ _ => (.cons (.int _) .nil)) (pA_cons pE_int pA_nil)) (pA_cons (pE_tup (pA_cons pE_int (pA_cons pE_int pA_nil))) pA_nil)))) qs_nil))))
theorem nf_ok (ca : Nat → Addr) (c : Nat) : prog.nf c = ((lk ca).fn c).length := by
  show p_nf c = (fnl c).length
  unfold p_nf fnl
  split <;> rfl
theorem opm_ok (Tx : Txt K mg ca fi) : ∀ c o f, prog.opm c o = some f → (∃ d, prog.defs f = some d ∧ d.cls = none ∧ d.np = 2) ∧ prog.fresh f = false ∧ PySem.W.selfFirst K ((lk ca).ca c) = true ∧
    PySem.W.findIn K (.ref ((lk ca).ca c)) (PySem.dunder o.py.info.2) = some (some (.ref (fi f).addr)) ∧ PySem.W.isFn K (.ref (fi f).addr) = true ∧ Binds K (fi f).fd (fi f).ps [] := by
  intro c o f h
  change p_opm c o = some f at h
  unfold p_opm at h
  split at h
  · cases h
    exact ⟨⟨_, rfl, rfl, rfl⟩, rfl, Tx.sf0_add, Tx.a2, Tx.i2, Tx.b2⟩
  · cases h
    exact ⟨⟨_, rfl, rfl, rfl⟩, rfl, Tx.sf0_sub, Tx.a3, Tx.i3, Tx.b3⟩
  · cases h
    exact ⟨⟨_, rfl, rfl, rfl⟩, rfl, Tx.sf0_mul, Tx.a4, Tx.i4, Tx.b4⟩
  · cases h
theorem eqm_ok (Tx : Txt K mg ca fi) : ∀ c f, prog.eqm c = some f → (∃ d, prog.defs f = some d ∧ d.cls = none ∧ d.np = 2) ∧ prog.fresh f = false ∧ PySem.W.notFirst K ((lk ca).ca c) (.ref ((lk ca).ca c)) = true ∧
    PySem.W.findIn K (.ref ((lk ca).ca c)) "__eq__" = some (some (.ref (fi f).addr)) ∧ PySem.W.isFn K (.ref (fi f).addr) = true ∧ Binds K (fi f).fd (fi f).ps [] := by
  intro c f h
  change p_eqm c = some f at h
  unfold p_eqm at h
  split at h
  · cases h
    exact ⟨⟨_, rfl, rfl, rfl⟩, rfl, Tx.nt0, Tx.a1, Tx.i1, Tx.b1⟩
  · cases h
theorem strm_ok (Tx : Txt K mg ca fi) : ∀ c f, prog.strm c = some f → (∃ d, prog.defs f = some d ∧ d.cls = none ∧ d.np = 1) ∧ prog.fresh f = false ∧
    PySem.W.findIn K (.ref ((lk ca).ca c)) "__str__" = some (some (.ref (fi f).addr)) ∧ PySem.W.isFn K (.ref (fi f).addr) = true ∧ Binds K (fi f).fd (fi f).ps [] := by
  intro c f h
  change p_strm c = some f at h
  unfold p_strm at h
  split at h
  · cases h
    exact ⟨⟨_, rfl, rfl, rfl⟩, rfl, Tx.a5, Tx.i5, Tx.b5⟩
  · cases h
end
end K00

set_option Elab.async false
set_option linter.all false
set_option maxRecDepth 100000
set_option maxHeartbeats 400000
/-! PDM: how the small language is computed by rewriting; the pool; loops; comprehensions. -/
namespace PD
open PySem PySem.Spec PyProof.Rows L2
section
variable {T : Tb} {sl : Sl} {om om' : Om} {x y d : D} {ds es : List D} {i j : Nat} {m n : Int}
/-! ### expressions -/
@[simp] theorem r_v (h : sl[i]? = some (.val d)) : evE T (.v i) sl om = .ok d om := by rw [evE, h]
@[simp] theorem r_b (h : sl[i]? = some (.val d)) : evE T (.b i) sl om = .ok d om := by rw [evE, h]
@[simp] theorem r_bo (h : sl[i]? = some (.own ds)) : evE T (.b i) sl om = .ok (.lst ds) om := by rw [evE, h]
@[simp] theorem r_k : evE T (.k d) sl om = .ok d om := by rw [evE]
def kOp (T : Tb) (r : Rs D) (o : Bop) (b : E) (sl : Sl) : Rs D := r.bind fun x om => (evE T b sl om).bind fun y om => bop T o x y om
def kOp2 (T : Tb) (r : Rs D) (o : Bop) (x : D) : Rs D := r.bind fun y om => bop T o x y om
@[simp] theorem r_op {o : Bop} {a b : E} : evE T (.op o a b) sl om = kOp T (evE T a sl om) o b sl := by rw [evE]; rfl
@[simp] theorem r_op1 {o : Bop} {b : E} : kOp T (.ok x om) o b sl = kOp2 T (evE T b sl om) o x := rfl
@[simp] theorem r_op2 {o : Bop} : kOp2 T (.ok y om) o x = bop T o x y om := rfl
def kCat (T : Tb) (r : Rs D) (b : E) (sl : Sl) : Rs D := r.bind fun x om => (evE T b sl om).bind fun y om => catD x y om
def kCat2 (r : Rs D) (x : D) : Rs D := r.bind fun y om => catD x y om
@[simp] theorem r_cat {a b : E} : evE T (.cat a b) sl om = kCat T (evE T a sl om) b sl := by rw [evE]; rfl
@[simp] theorem r_cat1 {b : E} : kCat T (.ok x om) b sl = kCat2 (evE T b sl om) x := rfl
@[simp] theorem r_cat2 : kCat2 (.ok (.lst es) om) (.lst ds) = if ds.length + es.length ≤ 1000000 then .ok (.lst (ds ++ es)) om else .stuck := rfl
def kRp (T : Tb) (r : Rs D) (b : E) (sl : Sl) : Rs D := r.bind fun x om => (evE T b sl om).bind fun y om => repD x y om
def kRp2 (r : Rs D) (x : D) : Rs D := r.bind fun y om => repD x y om
@[simp] theorem r_rp {a b : E} : evE T (.rp a b) sl om = kRp T (evE T a sl om) b sl := by rw [evE]; rfl
@[simp] theorem r_rp1 {b : E} : kRp T (.ok x om) b sl = kRp2 (evE T b sl om) x := rfl
@[simp] theorem r_rp2 : kRp2 (.ok (.int n) om) (.lst ds) = if 0 ≤ n ∧ n ≤ 1000000 ∧ ds.length * n.toNat ≤ 1000000 then .ok (.lst (List.replicate n.toNat ds).flatten) om else .stuck := rfl
def kNeg (r : Rs D) : Rs D := r.bind fun x om => match x with | .int i => .ok (.int (-i)) om | _ => .stuck
@[simp] theorem r_neg {a : E} : evE T (.neg a) sl om = kNeg (evE T a sl om) := by rw [evE]; rfl
@[simp] theorem r_neg1 : kNeg (.ok (.int n) om) = .ok (.int (-n)) om := rfl
def kNo (r : Rs D) : Rs D := r.bind fun x om => (tru x om).bind fun b om => .ok (.bl (!b)) om
@[simp] theorem r_no {a : E} : evE T (.no a) sl om = kNo (evE T a sl om) := by rw [evE]; rfl
@[simp] theorem r_no1 {b : Bool} : kNo (.ok (.bl b) om) = .ok (.bl (!b)) om := rfl
@[simp] theorem r_no2 : kNo (.ok (.lst ds) om) = .ok (.bl ds.isEmpty) om := by show Rs.ok (D.bl (!(!ds.isEmpty))) om = _; rw [Bool.not_not]
@[simp] theorem r_no3 : kNo (.ok (.tup ds) om) = .ok (.bl ds.isEmpty) om := by show Rs.ok (D.bl (!(!ds.isEmpty))) om = _; rw [Bool.not_not]
@[simp] theorem r_no4 : kNo (.ok (.int n) om) = .ok (.bl (n == 0)) om := by show Rs.ok (D.bl (!(!(n == 0)))) om = _; rw [Bool.not_not]
def kAn (T : Tb) (r : Rs D) (b : E) (sl : Sl) : Rs D := r.bind fun x om => (tru x om).bind fun c om => if c = true then evE T b sl om else .ok x om
@[simp] theorem r_an {a b : E} : evE T (.an a b) sl om = kAn T (evE T a sl om) b sl := by rw [evE]; rfl
@[simp] theorem r_an1 {b : E} : kAn T (.ok (.bl true) om) b sl = evE T b sl om := rfl
@[simp] theorem r_an2 {b : E} : kAn T (.ok (.bl false) om) b sl = .ok (.bl false) om := rfl
def kOr (T : Tb) (r : Rs D) (b : E) (sl : Sl) : Rs D := r.bind fun x om => (tru x om).bind fun c om => if c = true then .ok x om else evE T b sl om
@[simp] theorem r_or {a b : E} : evE T (.or a b) sl om = kOr T (evE T a sl om) b sl := by rw [evE]; rfl
@[simp] theorem r_or1 {b : E} : kOr T (.ok (.bl true) om) b sl = .ok (.bl true) om := rfl
@[simp] theorem r_or2 {b : E} : kOr T (.ok (.bl false) om) b sl = evE T b sl om := rfl
def kIte (T : Tb) (r : Rs Bool) (a b : E) (sl : Sl) : Rs D := r.bind fun c om => if c = true then evE T a sl om else evE T b sl om
def kTr (r : Rs D) : Rs Bool := r.bind fun x om => tru x om
@[simp] theorem r_ite {c a b : E} : evE T (.ite c a b) sl om = kIte T (kTr (evE T c sl om)) a b sl := by
  rw [evE]
  cases evE T c sl om <;> rfl
@[simp] theorem r_ite1 {a b : E} : kIte T (.ok true om) a b sl = evE T a sl om := rfl
@[simp] theorem r_ite2 {a b : E} : kIte T (.ok false om) a b sl = evE T b sl om := rfl
@[simp] theorem r_tr1 {b : Bool} : kTr (.ok (.bl b) om) = .ok b om := rfl
@[simp] theorem r_tr2 : kTr (.ok (.lst ds) om) = .ok (!ds.isEmpty) om := rfl
@[simp] theorem r_tr3 : kTr (.ok (.tup ds) om) = .ok (!ds.isEmpty) om := rfl
@[simp] theorem r_tr4 : kTr (.ok (.int n) om) = .ok (n != 0) om := rfl
@[simp] theorem r_tr5 : kTr (.ok .non om) = .ok false om := rfl
def kCm (T : Tb) (r : Rs D) (o : Cop) (b : E) (sl : Sl) : Rs D := r.bind fun x om => (evE T b sl om).bind fun y om => (cmp T o x y om).bind fun c om => .ok (.bl c) om
def kCm2 (T : Tb) (r : Rs D) (o : Cop) (x : D) : Rs D := r.bind fun y om => (cmp T o x y om).bind fun c om => .ok (.bl c) om
def kBl (r : Rs Bool) : Rs D := r.bind fun c om => .ok (.bl c) om
@[simp] theorem r_cm {o : Cop} {a b : E} : evE T (.cm o a b) sl om = kCm T (evE T a sl om) o b sl := by rw [evE]; rfl
@[simp] theorem r_cm1 {o : Cop} {b : E} : kCm T (.ok x om) o b sl = kCm2 T (evE T b sl om) o x := rfl
@[simp] theorem r_cm2 {o : Cop} : kCm2 T (.ok y om) o x = kBl (cmp T o x y om) := rfl
@[simp] theorem r_bl {b : Bool} : kBl (.ok b om) = .ok (.bl b) om := rfl
def kCh (T : Tb) (r : Rs D) (o o' : Cop) (b c : E) (sl : Sl) : Rs D := r.bind fun x om => (evE T b sl om).bind fun y om => (cmp T o x y om).bind fun r om => if r = true then (evE T c sl om).bind fun z om => (cmp T o' y z om).bind fun r om => .ok (.bl r) om else .ok (.bl false) om
def kCh2 (T : Tb) (r : Rs D) (o o' : Cop) (x : D) (c : E) (sl : Sl) : Rs D := r.bind fun y om => (cmp T o x y om).bind fun r om => if r = true then (evE T c sl om).bind fun z om => (cmp T o' y z om).bind fun r om => .ok (.bl r) om else .ok (.bl false) om
def kCh3 (T : Tb) (r : Rs Bool) (o' : Cop) (y : D) (c : E) (sl : Sl) : Rs D := r.bind fun r om => if r = true then (evE T c sl om).bind fun z om => (cmp T o' y z om).bind fun r om => .ok (.bl r) om else .ok (.bl false) om
@[simp] theorem r_ch {o o' : Cop} {a b c : E} : evE T (.ch o o' a b c) sl om = kCh T (evE T a sl om) o o' b c sl := by rw [evE]; rfl
@[simp] theorem r_ch1 {o o' : Cop} {b c : E} : kCh T (.ok x om) o o' b c sl = kCh2 T (evE T b sl om) o o' x c sl := rfl
@[simp] theorem r_ch2 {o o' : Cop} {c : E} : kCh2 T (.ok y om) o o' x c sl = kCh3 T (cmp T o x y om) o' y c sl := rfl
@[simp] theorem r_ch3 {o' : Cop} {c : E} : kCh3 T (.ok true om) o' y c sl = kCm2 T (evE T c sl om) o' y := rfl
@[simp] theorem r_ch4 {o' : Cop} {c : E} : kCh3 T (.ok false om) o' y c sl = .ok (.bl false) om := rfl
def kCall (T : Tb) (r : Rs (List D)) (f : Nat) (dv : List D) : Rs D := r.bind fun xs om => T.call f (xs ++ dv) om
@[simp] theorem r_call {f : Nat} {dv : List D} {as : E} : evE T (.call f dv as) sl om = kCall T (evL T as sl om) f dv := by rw [evE]; rfl
@[simp] theorem r_call1 {f : Nat} {dv : List D} : kCall T (.ok ds om) f dv = T.call f (ds ++ dv) om := rfl
def kMk (T : Tb) (r : Rs (List D)) (c f : Nat) (dv : List D) : Rs D := r.bind fun xs om => (T.init f (xs ++ dv) om).bind fun fs om => if fs.length = T.nf c then .ok (.obj c fs) om else .stuck
def kMk2 (T : Tb) (r : Rs (List D)) (c : Nat) : Rs D := r.bind fun fs om => if fs.length = T.nf c then .ok (.obj c fs) om else .stuck
@[simp] theorem r_mk {c f : Nat} {dv : List D} {as : E} : evE T (.mk c f dv as) sl om = kMk T (evL T as sl om) c f dv := by rw [evE]; rfl
@[simp] theorem r_mk1 {c f : Nat} {dv : List D} : kMk T (.ok ds om) c f dv = kMk2 T (T.init f (ds ++ dv) om) c := rfl
@[simp] theorem r_mk2 {c : Nat} : kMk2 T (.ok ds om) c = if ds.length = T.nf c then .ok (.obj c ds) om else .stuck := rfl
def kMka (T : Tb) (r : Rs (List D)) (c f : Nat) (dv : List D) : Rs D := r.bind fun xs om => (T.call f (.amb om.length :: (xs ++ dv)) (om ++ [.ob c []])).bind fun r om' => match r with | .non => .ok (.amb om.length) om' | _ => .stuck
def kMka2 (r : Rs D) (k : Nat) : Rs D := r.bind fun r om' => match r with | .non => .ok (.amb k) om' | _ => .stuck
@[simp] theorem r_mka {c f : Nat} {dv : List D} {as : E} : evE T (.mka c f dv as) sl om = kMka T (evL T as sl om) c f dv := by rw [evE]; rfl
@[simp] theorem r_mka1 {c f : Nat} {dv : List D} : kMka T (.ok ds om) c f dv = kMka2 (T.call f (.amb om.length :: (ds ++ dv)) (om ++ [.ob c []])) om.length := rfl
@[simp] theorem r_mka2 {k : Nat} : kMka2 (.ok .non om) k = .ok (.amb k) om := rfl
def kMe (T : Tb) (r : Rs D) (c f : Nat) (dv : List D) (as : E) (sl : Sl) : Rs D := r.bind fun x om => if isC c x om = true then (evL T as sl om).bind fun xs om => T.call f (x :: (xs ++ dv)) om else .stuck
def kMe2 (T : Tb) (r : Rs (List D)) (f : Nat) (dv : List D) (x : D) : Rs D := r.bind fun xs om => T.call f (x :: (xs ++ dv)) om
@[simp] theorem r_meth {c f : Nat} {dv : List D} {o as : E} : evE T (.meth c f dv o as) sl om = kMe T (evE T o sl om) c f dv as sl := by rw [evE]; rfl
@[simp] theorem r_meth1 {c f : Nat} {dv : List D} {as : E} (h : isC c x om = true) : kMe T (.ok x om) c f dv as sl = kMe2 T (evL T as sl om) f dv x := by
  show (if isC c x om = true then _ else _) = _
  rw [if_pos h]
  rfl
@[simp] theorem r_meth2 {f : Nat} {dv : List D} : kMe2 T (.ok ds om) f dv x = T.call f (x :: (ds ++ dv)) om := rfl
@[simp] theorem r_isCo {c : Nat} : isC c (.obj c ds) om = true := by show (c == c) = true; exact beq_self_eq_true c
theorem r_isCa {c k : Nat} (h : om[k]? = some (.ob c ds)) : isC c (.amb k) om = true := by
  show (match om[k]? with | some (.ob c' _) => c' == c | _ => false) = true
  rw [h]
  exact beq_self_eq_true c
@[simp] theorem r_fs {c : Nat} (h : sl[(0 : Nat)]? = some (.newo c ds)) (h2 : ds[j]? = some d) : evE T (.fs c j) sl om = .ok d om := by
  rw [evE, h]
  simp only [if_true]
  rw [h2]
def kFld (r : Rs D) (c j : Nat) : Rs D := r.bind fun x om => fldD c j x om
@[simp] theorem r_fld {c : Nat} {a : E} : evE T (.fld c j a) sl om = kFld (evE T a sl om) c j := by rw [evE]; rfl
@[simp] theorem r_fldo {c : Nat} (h : ds[j]? = some d) : kFld (.ok (.obj c ds) om) c j = .ok d om := by
  show fldD c j (.obj c ds) om = _
  rw [fldD, if_pos rfl, h]
theorem r_flda {c k : Nat} (h0 : om[k]? = some (.ob c ds)) (h : ds[j]? = some d) : kFld (.ok (.amb k) om) c j = .ok d om := by
  show fldD c j (.amb k) om = _
  rw [fldD, h0]
  simp only [if_true]
  rw [h]
def kBi (T : Tb) (r : Rs D) (b : Bi) : Rs D := r.bind fun x om => biD T b x om
@[simp] theorem r_bi {b : Bi} {a : E} : evE T (.bi b a) sl om = kBi T (evE T a sl om) b := by rw [evE]; rfl
@[simp] theorem r_bi1 {b : Bi} : kBi T (.ok x om) b = biD T b x om := rfl
def kMb (T : Tb) (r : Rs D) (m : Mb) (a : E) (sl : Sl) : Rs D := r.bind fun x om => match x with
    | .str s => (evE T a sl om).bind fun y om => mbf m s y om
    | _ => .stuck
def kMb2 (r : Rs D) (m : Mb) (s : Str) : Rs D := r.bind fun y om => mbf m s y om
@[simp] theorem r_mb {m : Mb} {o a : E} : evE T (.mb m o a) sl om = kMb T (evE T o sl om) m a sl := by rw [evE]; rfl
@[simp] theorem r_mb1 {m : Mb} {a : E} {s : Str} : kMb T (.ok (.str s) om) m a sl = kMb2 (evE T a sl om) m s := rfl
@[simp] theorem r_mb2 {m : Mb} {s : Str} : kMb2 (.ok x om) m s = mbf m s x om := rfl
def kIsi (r : Rs D) (ts : List Ty) : Rs D := r.bind fun x om => match isA ts x with | some b => .ok (.bl b) om | none => .stuck
@[simp] theorem r_isi {ts : List Ty} {a : E} : evE T (.isi ts a) sl om = kIsi (evE T a sl om) ts := by rw [evE]; rfl
@[simp] theorem r_isi1 {ts : List Ty} {b : Bool} (h : isA ts x = some b) : kIsi (.ok x om) ts = .ok (.bl b) om := by
  show (match isA ts x with | some b => Rs.ok (D.bl b) om | none => .stuck) = _
  rw [h]
def kIx (T : Tb) (r : Rs D) (b : E) (sl : Sl) : Rs D := r.bind fun x om => (evE T b sl om).bind fun y om => ixD x y om
def kIx2 (r : Rs D) (x : D) : Rs D := r.bind fun y om => ixD x y om
@[simp] theorem r_ix {a b : E} : evE T (.ix a b) sl om = kIx T (evE T a sl om) b sl := by rw [evE]; rfl
@[simp] theorem r_ix1 {b : E} : kIx T (.ok x om) b sl = kIx2 (evE T b sl om) x := rfl
@[simp] theorem r_ix2 : kIx2 (.ok y om) x = ixD x y om := rfl
def kSl (T : Tb) (r : Rs D) (lo hi : E) (sl : Sl) : Rs D := r.bind fun x om => (evO T lo sl om).bind fun l om => (evO T hi sl om).bind fun h om => slD x l h om
def kSl2 (T : Tb) (r : Rs (Option Int)) (x : D) (hi : E) (sl : Sl) : Rs D := r.bind fun l om => (evO T hi sl om).bind fun h om => slD x l h om
def kSl3 (r : Rs (Option Int)) (x : D) (l : Option Int) : Rs D := r.bind fun h om => slD x l h om
@[simp] theorem r_sl {a lo hi : E} : evE T (.sl a lo hi) sl om = kSl T (evE T a sl om) lo hi sl := by rw [evE]; rfl
@[simp] theorem r_sl1 {lo hi : E} : kSl T (.ok x om) lo hi sl = kSl2 T (evO T lo sl om) x hi sl := rfl
@[simp] theorem r_sl2 {hi : E} {l : Option Int} : kSl2 T (.ok l om) x hi sl = kSl3 (evO T hi sl om) x l := rfl
@[simp] theorem r_sl3 {l h : Option Int} : kSl3 (.ok h om) x l = slD x l h om := rfl
def kO (r : Rs D) : Rs (Option Int) := r.bind fun x om => match x with | .int i => .ok (some i) om | _ => .stuck
@[simp] theorem r_o0 : evO T .nop sl om = .ok none om := by rw [evO]
@[simp] theorem r_o1 {a : E} : evO T (.cons a .nil) sl om = kO (evE T a sl om) := by rw [evO]; rfl
@[simp] theorem r_o2 : kO (.ok (.int n) om) = .ok (some n) om := rfl
def kTup (r : Rs (List D)) : Rs D := r.bind fun xs om => if xs.length ≤ 1000000 then .ok (.tup xs) om else .stuck
def kLst (r : Rs (List D)) : Rs D := r.bind fun xs om => if xs.length ≤ 1000000 then .ok (.lst xs) om else .stuck
@[simp] theorem r_tup {as : E} : evE T (.tup as) sl om = kTup (evL T as sl om) := by rw [evE]; rfl
@[simp] theorem r_lst {as : E} : evE T (.lst as) sl om = kLst (evL T as sl om) := by rw [evE]; rfl
@[simp] theorem r_tup1 : kTup (.ok ds om) = if ds.length ≤ 1000000 then .ok (.tup ds) om else .stuck := rfl
@[simp] theorem r_lst1 : kLst (.ok ds om) = if ds.length ≤ 1000000 then .ok (.lst ds) om else .stuck := rfl
def kFs (r : Rs Str) : Rs D := r.bind fun s om => .ok (.str s) om
@[simp] theorem r_fstr {as : E} : evE T (.fstr as) sl om = kFs (evJ T as (⟨#[]⟩ : Str) sl om) := by rw [evE]; rfl
@[simp] theorem r_fstr1 {s : Str} : kFs (.ok s om) = .ok (.str s) om := rfl
/-- a comprehension's items -/
def cmpG (T : Tb) (cond elt : E) (tg : Tg) (sl : Sl) (ds : List D) (om : Om) : Rs (List D) := compGo (fun sl om => (evE T cond sl om).bind fun x om => tru x om) (evE T elt) tg sl ds om
def kCo (T : Tb) (r : Rs (List D)) (tg : Tg) (cond elt : E) (sl : Sl) : Rs D := r.bind fun ds om => if ds.length ≤ 1000000 then (cmpG T cond elt tg (wipeS sl (tgIx tg)) ds om).bind fun xs om => .ok (.lst xs) om else .stuck
def kCo2 (r : Rs (List D)) : Rs D := r.bind fun xs om => .ok (.lst xs) om
@[simp] theorem r_comp {tg : Tg} {it cond elt : E} : evE T (.comp tg it cond elt) sl om = kCo T (evI T it sl om) tg cond elt sl := by rw [evE]; rfl
@[simp] theorem r_comp1 {tg : Tg} {cond elt : E} : kCo T (.ok ds om) tg cond elt sl = if ds.length ≤ 1000000 then kCo2 (cmpG T cond elt tg (wipeS sl (tgIx tg)) ds om) else .stuck := rfl
@[simp] theorem r_comp2 : kCo2 (.ok ds om) = .ok (.lst ds) om := rfl
/-! ### argument lists, iterables -/
def kL (T : Tb) (r : Rs D) (as : E) (sl : Sl) : Rs (List D) := r.bind fun x om => (evL T as sl om).bind fun xs om => .ok (x :: xs) om
def kL2 (r : Rs (List D)) (x : D) : Rs (List D) := r.bind fun xs om => .ok (x :: xs) om
@[simp] theorem r_l0 : evL T .nil sl om = .ok [] om := by rw [evL]
@[simp] theorem r_l {a as : E} : evL T (.cons a as) sl om = kL T (evE T a sl om) as sl := by rw [evL]; rfl
@[simp] theorem r_l1 {as : E} : kL T (.ok x om) as sl = kL2 (evL T as sl om) x := rfl
@[simp] theorem r_l2 : kL2 (.ok ds om) x = .ok (x :: ds) om := rfl
def kSt (T : Tb) (r : Rs D) (as : E) (sl : Sl) : Rs (List D) := r.bind fun x om => match x with
    | .lst ys => (evL T as sl om).bind fun xs om => .ok (ys ++ xs) om
    | .tup ys => (evL T as sl om).bind fun xs om => .ok (ys ++ xs) om
    | _ => .stuck
def kSt2 (r : Rs (List D)) (ys : List D) : Rs (List D) := r.bind fun xs om => .ok (ys ++ xs) om
@[simp] theorem r_st {a as : E} : evL T (.star a as) sl om = kSt T (evE T a sl om) as sl := by rw [evL]; rfl
@[simp] theorem r_st1 {as : E} : kSt T (.ok (.lst ds) om) as sl = kSt2 (evL T as sl om) ds := rfl
@[simp] theorem r_st2 {as : E} : kSt T (.ok (.tup ds) om) as sl = kSt2 (evL T as sl om) ds := rfl
@[simp] theorem r_st3 : kSt2 (.ok es om) ds = .ok (ds ++ es) om := rfl
def kIt (r : Rs D) : Rs (List D) := r.bind fun x om => match items x with | some ds => .ok ds om | none => .stuck
@[simp] theorem r_itl {a : E} : evI T (.itl a) sl om = kIt (evE T a sl om) := by rw [evI]; rfl
@[simp] theorem r_itl1 : kIt (.ok (.lst ds) om) = .ok ds om := rfl
@[simp] theorem r_itl2 : kIt (.ok (.tup ds) om) = .ok ds om := rfl
@[simp] theorem r_itl3 {s : Str} : kIt (.ok (.str s) om) = .ok (s.cps.toList.map fun c => .str ⟨#[c]⟩) om := rfl
def kR1 (r : Rs D) : Rs (List D) := r.bind fun x om => match x with
    | .int n => if -(2 ^ 62) ≤ n ∧ n < 2 ^ 62 then .ok ((List.range n.toNat).map fun (k : Nat) => .int k) om else .stuck
    | _ => .stuck
@[simp] theorem r_rng1 {a : E} : evI T (.rng1 a) sl om = kR1 (evE T a sl om) := by rw [evI]; rfl
@[simp] theorem r_rng1a (h : n < 2 ^ 62) (h0 : 0 ≤ n) : kR1 (.ok (.int n) om) = .ok ((List.range n.toNat).map fun (k : Nat) => .int k) om := by
  show (if -(2 ^ 62) ≤ n ∧ n < 2 ^ 62 then _ else _) = _
  rw [if_pos ⟨by omega, h⟩]
def kR2 (T : Tb) (r : Rs D) (b : E) (sl : Sl) : Rs (List D) := r.bind fun x om => (evE T b sl om).bind fun y om => match x, y with
    | .int m, .int n => if (-(2 ^ 62) ≤ m ∧ m < 2 ^ 62) ∧ -(2 ^ 62) ≤ n ∧ n < 2 ^ 62 then .ok ((List.range (n - m).toNat).map fun (k : Nat) => .int (m + k)) om else .stuck
    | _, _ => .stuck
def kR3 (r : Rs D) (x : D) : Rs (List D) := r.bind fun y om => match x, y with
    | .int m, .int n => if (-(2 ^ 62) ≤ m ∧ m < 2 ^ 62) ∧ -(2 ^ 62) ≤ n ∧ n < 2 ^ 62 then .ok ((List.range (n - m).toNat).map fun (k : Nat) => .int (m + k)) om else .stuck
    | _, _ => .stuck
@[simp] theorem r_rng2 {a b : E} : evI T (.rng2 a b) sl om = kR2 T (evE T a sl om) b sl := by rw [evI]; rfl
@[simp] theorem r_rng2a {b : E} : kR2 T (.ok x om) b sl = kR3 (evE T b sl om) x := rfl
theorem r_rng2b (hm : m < 2 ^ 62) (hm0 : -(2 ^ 62) ≤ m) (h : n < 2 ^ 62) (h0 : -(2 ^ 62) ≤ n) : kR3 (.ok (.int n) om) (.int m) = .ok ((List.range (n - m).toNat).map fun (k : Nat) => .int (m + k)) om := by
  show (if (-(2 ^ 62) ≤ m ∧ m < 2 ^ 62) ∧ -(2 ^ 62) ≤ n ∧ n < 2 ^ 62 then _ else _) = _
  rw [if_pos ⟨⟨hm0, hm⟩, h0, h⟩]
/-! ### operators on plain values -/
@[simp] theorem o_addi : bop T .add (.int m) (.int n) om = .ok (.int (m + n)) om := rfl
@[simp] theorem o_subi : bop T .sub (.int m) (.int n) om = .ok (.int (m - n)) om := rfl
theorem o_muli (h : CMulW m n) : bop T .mul (.int m) (.int n) om = .ok (.int (m * n)) om := if_pos h
theorem o_divi (h : CDivW m n) : bop T .fdiv (.int m) (.int n) om = .ok (.int (m / n)) om := if_pos h
@[simp] theorem o_modi (h : 0 < n) : bop T .mod (.int m) (.int n) om = .ok (.int (m % n)) om := if_pos h
theorem o_powi (h : CPow m n) : bop T .pow (.int m) (.int n) om = .ok (.int (m ^ n.toNat)) om := if_pos h
@[simp] theorem o_addl : bop T .add (.lst ds) (.lst es) om = if ds.length + es.length ≤ 1000000 then .ok (.lst (ds ++ es)) om else .stuck := rfl
@[simp] theorem o_addt : bop T .add (.tup ds) (.tup es) om = if ds.length + es.length ≤ 1000000 then .ok (.tup (ds ++ es)) om else .stuck := rfl
@[simp] theorem o_mull : bop T .mul (.lst ds) (.int n) om = if 0 ≤ n ∧ n ≤ 1000000 ∧ ds.length * n.toNat ≤ 1000000 then .ok (.lst (List.replicate n.toNat ds).flatten) om else .stuck := rfl
@[simp] theorem o_lt : cmp T .lt (.int m) (.int n) om = .ok (decide (m < n)) om := rfl
@[simp] theorem o_le : cmp T .le (.int m) (.int n) om = .ok (decide (m ≤ n)) om := rfl
@[simp] theorem o_gt : cmp T .gt (.int m) (.int n) om = .ok (decide (n < m)) om := rfl
@[simp] theorem o_ge : cmp T .ge (.int m) (.int n) om = .ok (decide (n ≤ m)) om := rfl
theorem beq_dec (m n : Int) : (m == n) = decide (m = n) := rfl
@[simp] theorem o_eqi : cmp T .eq (.int m) (.int n) om = .ok (decide (m = n)) om := rfl
@[simp] theorem o_nei : cmp T .ne (.int m) (.int n) om = .ok (!decide (m = n)) om := rfl
theorem o_eqs {s t : Str} (hs : PyData.strOk s = true) (ht : PyData.strOk t = true) : cmp T .eq (.str s) (.str t) om = .ok (s == t) om := by
  show (if ((PyData.strOk s && decide (0 ≤ 64)) && (PyData.strOk t && decide (0 ≤ 64))) = true then Rs.ok (s == t) om else .stuck) = _
  rw [hs, ht]
  rfl
theorem o_nes {s t : Str} (hs : PyData.strOk s = true) (ht : PyData.strOk t = true) : cmp T .ne (.str s) (.str t) om = .ok (!(s == t)) om := by
  show (if ((PyData.strOk s && decide (0 ≤ 64)) && (PyData.strOk t && decide (0 ≤ 64))) = true then Rs.ok (!(s == t)) om else .stuck) = _
  rw [hs, ht]
  rfl
@[simp] theorem o_eqb {s t : Bool} : cmp T .eq (.bl s) (.bl t) om = .ok (s == t) om := rfl
@[simp] theorem o_neb {s t : Bool} : cmp T .ne (.bl s) (.bl t) om = .ok (!(s == t)) om := rfl
@[simp] theorem o_isn : cmp T .is .non .non om = .ok true om := rfl
@[simp] theorem o_isi : cmp T .is (.int n) .non om = .ok false om := rfl
@[simp] theorem o_iss {s : Str} : cmp T .is (.str s) .non om = .ok false om := rfl
@[simp] theorem o_isb {s : Bool} : cmp T .is (.bl s) .non om = .ok false om := rfl
@[simp] theorem o_isl : cmp T .is (.lst ds) .non om = .ok false om := rfl
@[simp] theorem o_ist : cmp T .is (.tup ds) .non om = .ok false om := rfl
@[simp] theorem o_iso {c : Nat} : cmp T .is (.obj c ds) .non om = .ok false om := rfl
@[simp] theorem o_isnn : cmp T .isn .non .non om = .ok false om := rfl
@[simp] theorem o_isni : cmp T .isn (.int n) .non om = .ok true om := rfl
@[simp] theorem o_isnl : cmp T .isn (.lst ds) .non om = .ok true om := rfl
@[simp] theorem o_isnt : cmp T .isn (.tup ds) .non om = .ok true om := rfl
@[simp] theorem b_lenl : biD T .len (.lst ds) om = .ok (.int ds.length) om := rfl
@[simp] theorem b_lent : biD T .len (.tup ds) om = .ok (.int ds.length) om := rfl
@[simp] theorem b_lens : biD T .len (.scr ds) om = .ok (.int ds.length) om := rfl
@[simp] theorem b_inti : biD T .int (.int n) om = .ok (.int n) om := rfl
@[simp] theorem b_intb {b : Bool} : biD T .int (.bl b) om = .ok (.int (if b = true then 1 else 0)) om := by cases b <;> rfl
@[simp] theorem b_abs : biD T .abs (.int n) om = .ok (.int (if n < 0 then -n else n)) om := rfl
@[simp] theorem b_ll : biD T .list (.lst ds) om = .ok (.lst ds) om := rfl
@[simp] theorem b_lt : biD T .list (.tup ds) om = .ok (.lst ds) om := rfl
@[simp] theorem b_ls : biD T .list (.scr ds) om = .ok (.lst ds) om := rfl
@[simp] theorem b_tl : biD T .tuple (.lst ds) om = .ok (.tup ds) om := rfl
@[simp] theorem b_tt : biD T .tuple (.tup ds) om = .ok (.tup ds) om := rfl
@[simp] theorem x_l (h : atI ds n = some d) : ixD (.lst ds) (.int n) om = .ok d om := by rw [ixD, h]
@[simp] theorem x_t (h : atI ds n = some d) : ixD (.tup ds) (.int n) om = .ok d om := by rw [ixD, h]
theorem x_p {k : Nat} (h0 : om[k]? = some (.pl ds)) (h : atI ds n = some d) : ixD (.amb k) (.int n) om = .ok d om := by
  rw [ixD, h0]
  show (match atI ds n with | some d => Rs.ok d om | none => .stuck) = _
  rw [h]
@[simp] theorem sl_l {l h : Option Int} : slD (.lst ds) l h om = .ok (.lst (cutD ds l h)) om := rfl
@[simp] theorem sl_t {l h : Option Int} : slD (.tup ds) l h om = .ok (.tup (cutD ds l h)) om := rfl
theorem atI_nat {α : Type} {xs : List α} {k : Nat} : atI xs (k : Int) = xs[k]? := by
  unfold atI ixN
  rw [if_pos (by omega)]
  by_cases h : k < xs.length
  · rw [if_pos (by omega)]
    rfl
  · rw [if_neg (by omega), List.getElem?_eq_none (by omega)]
    rfl
theorem atI_nn {α : Type} {xs : List α} {n : Int} (h : 0 ≤ n) : atI xs n = xs[n.toNat]? := by
  obtain ⟨k, rfl⟩ := Int.eq_ofNat_of_zero_le h
  exact atI_nat
@[simp] theorem atI0 {α : Type} {x : α} {xs : List α} : atI (x :: xs) 0 = some x := by rw [atI_nn (by decide)]; rfl
@[simp] theorem atI1 {α : Type} {x y : α} {xs : List α} : atI (x :: y :: xs) 1 = some y := by rw [atI_nn (by decide)]; rfl
@[simp] theorem atI2 {α : Type} {x y z : α} {xs : List α} : atI (x :: y :: z :: xs) 2 = some z := by rw [atI_nn (by decide)]; rfl
@[simp] theorem atI3 {α : Type} {x y z u : α} {xs : List α} : atI (x :: y :: z :: u :: xs) 3 = some u := by rw [atI_nn (by decide)]; rfl
/-! ### statements -/
def seqO (T : Tb) (o : Out) (b : S) : Out := match o with
    | .next sl om => evS T b sl om
    | o => o
@[simp] theorem z_skip : evS T .skip sl om = .next sl om := by rw [evS]
@[simp] theorem z_seq {a b : S} : evS T (.seq a b) sl om = seqO T (evS T a sl om) b := by rw [evS]; rfl
@[simp] theorem z_seq1 {b : S} : seqO T (.next sl om) b = evS T b sl om := rfl
@[simp] theorem z_seq2 {b : S} : seqO T (.ret d om) b = .ret d om := rfl
@[simp] theorem z_seq3 {b : S} : seqO T (.retF ds om) b = .retF ds om := rfl
@[simp] theorem z_seq4 {b : S} : seqO T (.brk sl om) b = .brk sl om := rfl
@[simp] theorem z_seq5 {b : S} : seqO T (.cnt sl om) b = .cnt sl om := rfl
@[simp] theorem z_seq6 {b : S} {c : Nat} : seqO T (.exc c ds sl om) b = .exc c ds sl om := rfl
def kSet (r : Rs D) (i : Nat) (sl : Sl) : Out := r.out sl fun d om => .next (sl.set i (.val d)) om
@[simp] theorem z_set {e : E} : evS T (.set i e) sl om = kSet (evE T e sl om) i sl := by rw [evS]; rfl
@[simp] theorem z_set1 : kSet (.ok d om) i sl = .next (sl.set i (.val d)) om := rfl
def kSetO (r : Rs D) (i : Nat) (sl : Sl) : Out := r.out sl fun d om => match d with
    | .lst ds => .next (sl.set i (.own ds)) om
    | _ => .stuck
@[simp] theorem z_setO {e : E} : evS T (.setO i e) sl om = kSetO (evE T e sl om) i sl := by rw [evS]; rfl
@[simp] theorem z_setO1 : kSetO (.ok (.lst ds) om) i sl = .next (sl.set i (.own ds)) om := rfl
def kSetA (r : Rs D) (i : Nat) (sl : Sl) : Out := r.out sl fun d om => match d with
    | .lst ds => .next (sl.set i (.val (.amb om.length))) (om ++ [.pl ds])
    | _ => .stuck
@[simp] theorem z_setA {e : E} : evS T (.setA i e) sl om = kSetA (evE T e sl om) i sl := by rw [evS]; rfl
@[simp] theorem z_setA1 : kSetA (.ok (.lst ds) om) i sl = .next (sl.set i (.val (.amb om.length))) (om ++ [.pl ds]) := rfl
theorem z_fz (h : sl[i]? = some (.own ds)) : evS T (.fz i) sl om = .next (sl.set i (.val (.lst ds))) om := by rw [evS, h]
def kSetT (r : Rs D) (is : List Nat) (sl : Sl) : Out := r.out sl fun d om => match PD.setT sl (.many is) d with
    | some sl => .next sl om
    | none => .stuck
@[simp] theorem z_setT {is : List Nat} {e : E} : evS T (.setT is e) sl om = kSetT (evE T e sl om) is sl := by rw [evS]; rfl
@[simp] theorem z_setT1 {is : List Nat} : kSetT (.ok (.tup ds) om) is sl = if ds.length = is.length then .next (sets sl is ds) om else .stuck := by
  show (match (if ds.length = is.length then some (sets sl is ds) else none) with
    | some sl => Out.next sl om
    | none => .stuck) = _
  by_cases h : ds.length = is.length
  · rw [if_pos h, if_pos h]
  · rw [if_neg h, if_neg h]
@[simp] theorem s_cons {is : List Nat} : sets sl (i :: is) (d :: ds) = sets (sl.set i (.val d)) is ds := rfl
@[simp] theorem s_nil : sets sl [] ds = sl := by cases ds <;> rfl
def kPar (T : Tb) (r : Rs D) (i j : Nat) (b : E) (sl : Sl) : Out := r.out sl fun x om => (evE T b sl om).out sl fun y om => .next ((sl.set i (.val x)).set j (.val y)) om
def kPar2 (r : Rs D) (i j : Nat) (x : D) (sl : Sl) : Out := r.out sl fun y om => .next ((sl.set i (.val x)).set j (.val y)) om
@[simp] theorem z_par {a b : E} : evS T (.par i j a b) sl om = kPar T (evE T a sl om) i j b sl := by rw [evS]; rfl
@[simp] theorem z_par1 {b : E} : kPar T (.ok x om) i j b sl = kPar2 (evE T b sl om) i j x sl := rfl
@[simp] theorem z_par2 : kPar2 (.ok y om) i j x sl = .next ((sl.set i (.val x)).set j (.val y)) om := rfl
def kApp (r : Rs D) (i : Nat) (ds : List D) (sl : Sl) : Out := r.out sl fun d om => if ds.length < 1000000 then .next (sl.set i (.own (ds ++ [d]))) om else .stuck
@[simp] theorem z_app {e : E} (h : sl[i]? = some (.own ds)) : evS T (.app i e) sl om = kApp (evE T e sl om) i ds sl := by rw [evS, h]; rfl
@[simp] theorem z_app1 : kApp (.ok d om) i ds sl = if ds.length < 1000000 then .next (sl.set i (.own (ds ++ [d]))) om else .stuck := rfl
def kExt (r : Rs D) (i : Nat) (ds : List D) (sl : Sl) : Out := r.out sl fun d om => match d with
      | .lst es => if ds.length + es.length ≤ 1000000 then .next (sl.set i (.own (ds ++ es))) om else .stuck
      | _ => .stuck
@[simp] theorem z_ext {e : E} (h : sl[i]? = some (.own ds)) : evS T (.ext i e) sl om = kExt (evE T e sl om) i ds sl := by rw [evS, h]; rfl
@[simp] theorem z_ext1 : kExt (.ok (.lst es) om) i ds sl = if ds.length + es.length ≤ 1000000 then .next (sl.set i (.own (ds ++ es))) om else .stuck := rfl
def kSI (T : Tb) (r : Rs D) (i : Nat) (x : E) (ds : List D) (sl : Sl) : Out := r.out sl fun d om => (evE T x sl om).out sl fun n om => match n with
      | .int n => match ixN ds.length n with
        | some j => .next (sl.set i (.own (ds.set j d))) om
        | none => .stuck
      | _ => .stuck
def kSI2 (r : Rs D) (i : Nat) (d : D) (ds : List D) (sl : Sl) : Out := r.out sl fun n om => match n with
      | .int n => match ixN ds.length n with
        | some j => .next (sl.set i (.own (ds.set j d))) om
        | none => .stuck
      | _ => .stuck
@[simp] theorem z_setI {x e : E} (h : sl[i]? = some (.own ds)) : evS T (.setI i x e) sl om = kSI T (evE T e sl om) i x ds sl := by rw [evS, h]; rfl
@[simp] theorem z_setI1 {x : E} : kSI T (.ok d om) i x ds sl = kSI2 (evE T x sl om) i d ds sl := rfl
@[simp] theorem z_setI2 (h : ixN ds.length n = some j) : kSI2 (.ok (.int n) om) i d ds sl = .next (sl.set i (.own (ds.set j d))) om := by
  show (match ixN ds.length n with | some j => Out.next (sl.set i (.own (ds.set j d))) om | none => .stuck) = _
  rw [h]
def kSP (T : Tb) (r : Rs D) (x : E) (k : Nat) (sl : Sl) : Out := r.out sl fun d om => (evE T x sl om).out sl fun n om => match n with
      | .int n => match om[k]? with
        | some (.pl ds) => match ixN ds.length n with
          | some j => .next sl (om.set k (.pl (ds.set j d)))
          | none => .stuck
        | _ => .stuck
      | _ => .stuck
def kSP2 (r : Rs D) (d : D) (k : Nat) (sl : Sl) : Out := r.out sl fun n om => match n with
      | .int n => match om[k]? with
        | some (.pl ds) => match ixN ds.length n with
          | some j => .next sl (om.set k (.pl (ds.set j d)))
          | none => .stuck
        | _ => .stuck
      | _ => .stuck
@[simp] theorem z_setIA {x e : E} {k : Nat} (h : sl[i]? = some (.val (.amb k))) : evS T (.setIA i x e) sl om = kSP T (evE T e sl om) x k sl := by rw [evS, h]; rfl
@[simp] theorem z_setIA1 {x : E} {k : Nat} : kSP T (.ok d om) x k sl = kSP2 (evE T x sl om) d k sl := rfl
theorem z_setIA2 {k : Nat} (h0 : om[k]? = some (.pl ds)) (h : ixN ds.length n = some j) : kSP2 (.ok (.int n) om) d k sl = .next sl (om.set k (.pl (ds.set j d))) := by
  show (match om[k]? with
        | some (.pl ds) => match ixN ds.length n with
          | some j => Out.next sl (om.set k (.pl (ds.set j d)))
          | none => .stuck
        | _ => .stuck) = _
  rw [h0]
  show (match ixN ds.length n with
          | some j => Out.next sl (om.set k (.pl (ds.set j d)))
          | none => .stuck) = _
  rw [h]
def kSF (r : Rs D) (c j : Nat) (sl : Sl) : Out := r.out sl fun d om => match sl[(0 : Nat)]? with
    | some (.newo c' fs) => if c' = c ∧ fs.length = j then .next (sl.set 0 (.newo c (fs ++ [d]))) om else .stuck
    | _ => .stuck
@[simp] theorem z_setF {c : Nat} {e : E} : evS T (.setF c j e) sl om = kSF (evE T e sl om) c j sl := by rw [evS]; rfl
@[simp] theorem z_setF1 {c : Nat} (h : sl[(0 : Nat)]? = some (.newo c ds)) (hj : ds.length = j) : kSF (.ok d om) c j sl = .next (sl.set 0 (.newo c (ds ++ [d]))) om := by
  show (match sl[(0 : Nat)]? with
    | some (.newo c' fs) => if c' = c ∧ fs.length = j then Out.next (sl.set 0 (.newo c (fs ++ [d]))) om else .stuck
    | _ => .stuck) = _
  rw [h]
  exact if_pos ⟨rfl, hj⟩
def kTF (r : Rs D) (c j k : Nat) (sl : Sl) : Out := r.out sl fun d om => match om[k]? with
      | some (.ob c' fs) => if c' = c then if j < fs.length then .next sl (om.set k (.ob c (fs.set j d))) else if j = fs.length then .next sl (om.set k (.ob c (fs ++ [d]))) else .stuck else .stuck
      | _ => .stuck
@[simp] theorem z_stF {c k : Nat} {e : E} (h : sl[i]? = some (.val (.amb k))) : evS T (.stF i c j e) sl om = kTF (evE T e sl om) c j k sl := by rw [evS, h]; rfl
theorem z_stF1 {c k : Nat} (h : om[k]? = some (.ob c ds)) (hj : j < ds.length) : kTF (.ok d om) c j k sl = .next sl (om.set k (.ob c (ds.set j d))) := by
  show (match om[k]? with
      | some (.ob c' fs) => if c' = c then if j < fs.length then Out.next sl (om.set k (.ob c (fs.set j d))) else if j = fs.length then .next sl (om.set k (.ob c (fs ++ [d]))) else .stuck else .stuck
      | _ => .stuck) = _
  rw [h]
  show (if c = c then _ else _) = _
  rw [if_pos rfl, if_pos hj]
theorem z_stF2 {c k : Nat} (h : om[k]? = some (.ob c ds)) (hj : j = ds.length) : kTF (.ok d om) c j k sl = .next sl (om.set k (.ob c (ds ++ [d]))) := by
  show (match om[k]? with
      | some (.ob c' fs) => if c' = c then if j < fs.length then Out.next sl (om.set k (.ob c (fs.set j d))) else if j = fs.length then .next sl (om.set k (.ob c (fs ++ [d]))) else .stuck else .stuck
      | _ => .stuck) = _
  rw [h]
  show (if c = c then _ else _) = _
  rw [if_pos rfl, if_neg (by omega), if_pos hj]
def kAF (r : Rs D) (c j k : Nat) (m : Int) (sl : Sl) : Out := r.out sl fun y om => match y with
            | .int n => match om[k]? with
              | some (.ob c' fs) => if c' = c ∧ j < fs.length then .next sl (om.set k (.ob c (fs.set j (.int (m + n))))) else .stuck
              | _ => .stuck
            | _ => .stuck
theorem z_auF {c k : Nat} {e : E} (h : sl[i]? = some (.val (.amb k))) (h0 : om[k]? = some (.ob c ds)) (h1 : ds[j]? = some (.int m)) : evS T (.auF i c j e) sl om = kAF (evE T e sl om) c j k m sl := by
  rw [evS, h]
  dsimp only
  rw [h0]
  show (if c = c then _ else _) = _
  rw [if_pos rfl, h1]
  rfl
theorem z_auF1 {c k : Nat} (h0 : om[k]? = some (.ob c ds)) (hj : j < ds.length) : kAF (.ok (.int n) om) c j k m sl = .next sl (om.set k (.ob c (ds.set j (.int (m + n))))) := by
  show (match om[k]? with
              | some (.ob c' fs) => if c' = c ∧ j < fs.length then Out.next sl (om.set k (.ob c (fs.set j (.int (m + n))))) else .stuck
              | _ => .stuck) = _
  rw [h0]
  exact if_pos ⟨rfl, hj⟩
def kAu (r : Rs D) (i : Nat) (o : Bop) (m : Int) (sl : Sl) : Out := r.out sl fun y om => match o, y with
      | .add, .int n => .next (sl.set i (.val (.int (m + n)))) om
      | .sub, .int n => .next (sl.set i (.val (.int (m - n)))) om
      | _, _ => .stuck
@[simp] theorem z_aug {o : Bop} {e : E} (h : sl[i]? = some (.val (.int m))) : evS T (.aug i o e) sl om = kAu (evE T e sl om) i o m sl := by rw [evS, h]; rfl
@[simp] theorem z_aug1 : kAu (.ok (.int n) om) i .add m sl = .next (sl.set i (.val (.int (m + n)))) om := rfl
@[simp] theorem z_aug2 : kAu (.ok (.int n) om) i .sub m sl = .next (sl.set i (.val (.int (m - n)))) om := rfl
def kDr (r : Rs D) (sl : Sl) : Out := r.out sl fun _ om => .next sl om
@[simp] theorem z_drop {e : E} : evS T (.drop e) sl om = kDr (evE T e sl om) sl := by rw [evS]; rfl
@[simp] theorem z_drop1 : kDr (.ok d om) sl = .next sl om := rfl
def kIf (T : Tb) (r : Rs Bool) (a b : S) (sl : Sl) : Out := r.out sl fun t om => if t = true then evS T a sl om else evS T b sl om
@[simp] theorem z_ite {c : E} {a b : S} : evS T (.ite c a b) sl om = kIf T (kTr (evE T c sl om)) a b sl := by rw [evS]; rfl
@[simp] theorem z_ite1 {a b : S} : kIf T (.ok true om) a b sl = evS T a sl om := rfl
@[simp] theorem z_ite2 {a b : S} : kIf T (.ok false om) a b sl = evS T b sl om := rfl
@[simp] theorem z_brk : evS T .brk sl om = .brk sl om := by rw [evS]
@[simp] theorem z_cnt : evS T .cnt sl om = .cnt sl om := by rw [evS]
@[simp] theorem z_retN : evS T .retN sl om = .ret .non om := by rw [evS]
def kRet (r : Rs D) (sl : Sl) : Out := r.out sl fun d om => .ret d om
@[simp] theorem z_ret {e : E} : evS T (.ret e) sl om = kRet (evE T e sl om) sl := by rw [evS]; rfl
@[simp] theorem z_ret1 : kRet (.ok d om) sl = .ret d om := rfl
def kRetF (r : Rs D) (sl : Sl) : Out := r.out sl fun d om => match d with
    | .lst ds => .retF ds om
    | _ => .stuck
@[simp] theorem z_retF {e : E} : evS T (.retF e) sl om = kRetF (evE T e sl om) sl := by rw [evS]; rfl
@[simp] theorem z_retF1 : kRetF (.ok (.lst ds) om) sl = .retF ds om := rfl
@[simp] theorem z_retO (h : sl[i]? = some (.own ds)) : evS T (.retO i) sl om = .retF ds om := by rw [evS, h]
/-! loops -/
def forG (T : Tb) (b : S) (tg : Tg) (ds : List D) (sl : Sl) (om : Om) : Out := forGo (evS T b) tg ds sl om
def kFo (T : Tb) (r : Rs (List D)) (tg : Tg) (b : S) (sl : Sl) : Out := r.out sl fun ds om => forG T b tg ds sl om
@[simp] theorem z_fo {tg : Tg} {it : E} {b : S} : evS T (.fo tg it b) sl om = kFo T (evI T it sl om) tg b sl := by rw [evS]; rfl
@[simp] theorem z_fo1 {tg : Tg} {b : S} : kFo T (.ok ds om) tg b sl = forG T b tg ds sl om := rfl
def kBody (T : Tb) (o : Out) (b : S) (tg : Tg) (ds : List D) : Out := match o with
      | .next sl om => forGo (evS T b) tg ds sl om
      | .cnt sl om => forGo (evS T b) tg ds sl om
      | .brk sl om => .next sl om
      | o => o
@[simp] theorem f_nil {tg : Tg} {b : S} : forG T b tg [] sl om = .next sl om := rfl
theorem f_cons {b : S} : forG T b (.one i) (d :: ds) sl om = kBody T (evS T b (sl.set i (.val d)) om) b (.one i) ds := rfl
theorem f_consT {b : S} {is : List Nat} (h : es.length = is.length) : forG T b (.many is) (.tup es :: ds) sl om = kBody T (evS T b (sets sl is es) om) b (.many is) ds := by
  unfold forG kBody
  rw [forGo]
  show (match (if es.length = is.length then some (sets sl is es) else none) with
    | none => Out.stuck
    | some sl => _) = _
  rw [if_pos h] <;> rfl
@[simp] theorem f_n {tg : Tg} {b : S} : kBody T (.next sl om) b tg ds = forG T b tg ds sl om := rfl
@[simp] theorem f_c {tg : Tg} {b : S} : kBody T (.cnt sl om) b tg ds = forG T b tg ds sl om := rfl
@[simp] theorem f_b {tg : Tg} {b : S} : kBody T (.brk sl om) b tg ds = .next sl om := rfl
@[simp] theorem f_r {tg : Tg} {b : S} : kBody T (.ret d om) b tg ds = .ret d om := rfl
@[simp] theorem f_rF {tg : Tg} {b : S} : kBody T (.retF es om) b tg ds = .retF es om := rfl
@[simp] theorem f_e {tg : Tg} {b : S} {c : Nat} : kBody T (.exc c es sl om) b tg ds = .exc c es sl om := rfl
def whlG (T : Tb) (c : E) (b : S) (n : Nat) (sl : Sl) (om : Om) : Out := whileGo (evT T c) (evS T b) n sl om
@[simp] theorem z_whl {c : E} {b : S} : evS T (.whl c b) sl om = whlG T c b T.wf sl om := by rw [evS]; rfl
def kW (T : Tb) (r : Rs Bool) (c : E) (b : S) (n : Nat) (sl : Sl) : Out := r.out sl fun t om => if t = true then match evS T b sl om with
      | .next sl om => whileGo (evT T c) (evS T b) n sl om
      | .cnt sl om => whileGo (evT T c) (evS T b) n sl om
      | .brk sl om => .next sl om
      | o => o
    else .next sl om
def kW2 (T : Tb) (o : Out) (c : E) (b : S) (n : Nat) : Out := match o with
      | .next sl om => whileGo (evT T c) (evS T b) n sl om
      | .cnt sl om => whileGo (evT T c) (evS T b) n sl om
      | .brk sl om => .next sl om
      | o => o
theorem w_step {c : E} {b : S} {n : Nat} : whlG T c b (n + 1) sl om = kW T (kTr (evE T c sl om)) c b n sl := rfl
@[simp] theorem w_t {c : E} {b : S} {n : Nat} : kW T (.ok true om) c b n sl = kW2 T (evS T b sl om) c b n := rfl
@[simp] theorem w_f {c : E} {b : S} {n : Nat} : kW T (.ok false om) c b n sl = .next sl om := rfl
@[simp] theorem w_n {c : E} {b : S} {n : Nat} : kW2 T (.next sl om) c b n = whlG T c b n sl om := rfl
@[simp] theorem w_c {c : E} {b : S} {n : Nat} : kW2 T (.cnt sl om) c b n = whlG T c b n sl om := rfl
@[simp] theorem w_b {c : E} {b : S} {n : Nat} : kW2 T (.brk sl om) c b n = .next sl om := rfl
@[simp] theorem w_r {c : E} {b : S} {n : Nat} : kW2 T (.ret d om) c b n = .ret d om := rfl
@[simp] theorem w_rF {c : E} {b : S} {n : Nat} : kW2 T (.retF ds om) c b n = .retF ds om := rfl
@[simp] theorem w_e {c : E} {b : S} {n k : Nat} : kW2 T (.exc k ds sl om) c b n = .exc k ds sl om := rfl
/-! comprehensions -/
@[simp] theorem c_nil {tg : Tg} {cond elt : E} : cmpG T cond elt tg sl [] om = .ok [] om := rfl
def kC (T : Tb) (r : Rs Bool) (cond elt : E) (tg : Tg) (sl sl' : Sl) (ds : List D) : Rs (List D) := match r with
      | .ok true om1 => match evE T elt sl' om1 with
        | .ok x om2 => match cmpG T cond elt tg sl ds om2 with
          | .ok xs om3 => .ok (x :: xs) om3
          | _ => .stuck
        | _ => .stuck
      | .ok false om1 => cmpG T cond elt tg sl ds om1
      | _ => .stuck
def kC2 (T : Tb) (r : Rs D) (cond elt : E) (tg : Tg) (sl : Sl) (ds : List D) : Rs (List D) := match r with
        | .ok x om2 => match cmpG T cond elt tg sl ds om2 with
          | .ok xs om3 => .ok (x :: xs) om3
          | _ => .stuck
        | _ => .stuck
def kC3 (r : Rs (List D)) (x : D) : Rs (List D) := match r with
          | .ok xs om3 => .ok (x :: xs) om3
          | _ => .stuck
theorem c_cons {cond elt : E} : cmpG T cond elt (.one i) sl (d :: ds) om = kC T (kTr (evE T cond (sl.set i (.val d)) om)) cond elt (.one i) sl (sl.set i (.val d)) ds := rfl
theorem c_consT {cond elt : E} {is : List Nat} (h : es.length = is.length) : cmpG T cond elt (.many is) sl (.tup es :: ds) om = kC T (kTr (evE T cond (sets sl is es) om)) cond elt (.many is) sl (sets sl is es) ds := by
  unfold cmpG
  rw [compGo]
  show (match (if es.length = is.length then some (sets sl is es) else none) with
    | none => Rs.stuck
    | some sl' => _) = _
  rw [if_pos h]
  rfl
@[simp] theorem c_t {cond elt : E} {tg : Tg} {sl' : Sl} : kC T (.ok true om) cond elt tg sl sl' ds = kC2 T (evE T elt sl' om) cond elt tg sl ds := rfl
@[simp] theorem c_f {cond elt : E} {tg : Tg} {sl' : Sl} : kC T (.ok false om) cond elt tg sl sl' ds = cmpG T cond elt tg sl ds om := rfl
@[simp] theorem c_2 {cond elt : E} {tg : Tg} : kC2 T (.ok x om) cond elt tg sl ds = kC3 (cmpG T cond elt tg sl ds om) x := rfl
@[simp] theorem c_3 : kC3 (.ok ds om) x = .ok (x :: ds) om := rfl
@[simp] theorem wi_1 : wipeS sl (tgIx (.one i)) = sl.set i .no := rfl
@[simp] theorem wi_m {is : List Nat} : wipeS sl (tgIx (.many is)) = wipeS sl is := rfl
@[simp] theorem wi_c {is : List Nat} : wipeS sl (i :: is) = (wipeS sl is).set i .no := rfl
@[simp] theorem wi_n : wipeS sl [] = sl := rfl
end
/-! ### calls -/
section
variable {p : Prog} {wf n : Nat}
@[simp] theorem t_call : (tab p wf n).call = callN p wf n := rfl
@[simp] theorem t_init : (tab p wf n).init = initN p wf n := rfl
@[simp] theorem t_wf : (tab p wf n).wf = wf := rfl
@[simp] theorem t_nf : (tab p wf n).nf = p.nf := rfl
@[simp] theorem t_opm : (tab p wf n).opm = p.opm := rfl
@[simp] theorem t_eqm : (tab p wf n).eqm = p.eqm := rfl
@[simp] theorem t_strm : (tab p wf n).strm = p.strm := rfl
theorem call_ret {f : Nat} {d : Def} {ds : List D} {om om' : Om} {x : D} (hd : p.defs f = some d) (hl : ds.length = d.np) (hf : p.fresh f = false) (h : evS (tab p wf n) d.body (slots d ds) om = .ret x om') : callN p wf (n + 1) f ds om = .ok x om' := by
  unfold tab at h
  rw [callN, hd]
  dsimp only
  rw [if_pos hl, h]
  dsimp only
  rw [if_neg (by rw [hf]; decide)]
theorem call_retF {f : Nat} {d : Def} {ds xs : List D} {om om' : Om} (hd : p.defs f = some d) (hl : ds.length = d.np) (h : evS (tab p wf n) d.body (slots d ds) om = .retF xs om') : callN p wf (n + 1) f ds om = .ok (.lst xs) om' := by
  unfold tab at h
  rw [callN, hd]
  dsimp only
  rw [if_pos hl, h]
theorem call_next {f : Nat} {d : Def} {ds : List D} {om om' : Om} {sl : Sl} (hd : p.defs f = some d) (hl : ds.length = d.np) (hf : p.fresh f = false) (h : evS (tab p wf n) d.body (slots d ds) om = .next sl om') : callN p wf (n + 1) f ds om = .ok .non om' := by
  unfold tab at h
  rw [callN, hd]
  dsimp only
  rw [if_pos hl, h]
  dsimp only
  rw [if_neg (by rw [hf]; decide)]
theorem call_exc {f : Nat} {d : Def} {ds fs : List D} {om om' : Om} {sl : Sl} {c : Nat} (hd : p.defs f = some d) (hl : ds.length = d.np) (h : evS (tab p wf n) d.body (slots d ds) om = .exc c fs sl om') : callN p wf (n + 1) f ds om = .exc c fs om' := by
  unfold tab at h
  rw [callN, hd]
  dsimp only
  rw [if_pos hl, h]
theorem init_next {f c : Nat} {d : Def} {ds fs : List D} {om om' : Om} {sl : Sl} (hd : p.defs f = some d) (hc : d.cls = some c) (hl : ds.length + 1 = d.np) (h : evS (tab p wf n) d.body (.newo c [] :: (ds.map .val ++ List.replicate (d.nl - d.np) .no)) om = .next sl om') (h0 : sl[(0 : Nat)]? = some (.newo c fs)) : initN p wf (n + 1) f ds om = .ok fs om' := by
  unfold tab at h
  rw [initN, hd]
  dsimp only
  rw [hc]
  dsimp only
  rw [if_pos hl, h]
  dsimp only
  rw [h0]
  exact if_pos rfl
theorem init_exc {f c c' : Nat} {d : Def} {ds fs : List D} {om om' : Om} {sl : Sl} (hd : p.defs f = some d) (hc : d.cls = some c) (hl : ds.length + 1 = d.np) (h : evS (tab p wf n) d.body (.newo c [] :: (ds.map .val ++ List.replicate (d.nl - d.np) .no)) om = .exc c' fs sl om') : initN p wf (n + 1) f ds om = .exc c' fs om' := by
  unfold tab at h
  rw [initN, hd]
  dsimp only
  rw [hc]
  dsimp only
  rw [if_pos hl, h]
end
/-! ### loops by what they keep -/
section
variable {T : Tb} {sl : Sl} {om om' : Om} {x y d : D} {ds es : List D} {i j : Nat}
/-- a loop over a list: what holds after the items done; the items left are still to come -/
theorem for_keep {b : S} {α : Type} {f : α → D} (I : List α → Sl → Om → Prop) : ∀ (xs done : List α) (sl : Sl) (om : Om), I done sl om →
    (∀ done x, x ∈ xs → ∀ sl om, I done sl om → ∃ sl' om', evS T b (sl.set i (.val (f x))) om = .next sl' om' ∧ I (done ++ [x]) sl' om') →
    ∃ sl' om', forG T b (.one i) (xs.map f) sl om = .next sl' om' ∧ I (done ++ xs) sl' om'
  | [], done, sl, om, h, _ => ⟨sl, om, rfl, by rw [List.append_nil]; exact h⟩
  | x :: xs, done, sl, om, h, st => by
    obtain ⟨sl1, om1, e1, h1⟩ := st done x List.mem_cons_self sl om h
    obtain ⟨sl2, om2, e2, h2⟩ := for_keep I xs (done ++ [x]) sl1 om1 h1 fun dn y hy => st dn y (List.mem_cons_of_mem _ hy)
    refine ⟨sl2, om2, ?_, by rw [List.append_assoc] at h2; exact h2⟩
    rw [List.map_cons, f_cons, e1, f_n, e2]
theorem for_keepT {b : S} {α : Type} {is : List Nat} {f : α → List D} (hf : ∀ x, (f x).length = is.length) (I : List α → Sl → Om → Prop) : ∀ (xs done : List α) (sl : Sl) (om : Om), I done sl om →
    (∀ done x, x ∈ xs → ∀ sl om, I done sl om → ∃ sl' om', evS T b (sets sl is (f x)) om = .next sl' om' ∧ I (done ++ [x]) sl' om') →
    ∃ sl' om', forG T b (.many is) (xs.map fun x => .tup (f x)) sl om = .next sl' om' ∧ I (done ++ xs) sl' om'
  | [], done, sl, om, h, _ => ⟨sl, om, rfl, by rw [List.append_nil]; exact h⟩
  | x :: xs, done, sl, om, h, st => by
    obtain ⟨sl1, om1, e1, h1⟩ := st done x List.mem_cons_self sl om h
    obtain ⟨sl2, om2, e2, h2⟩ := for_keepT hf I xs (done ++ [x]) sl1 om1 h1 fun dn y hy => st dn y (List.mem_cons_of_mem _ hy)
    refine ⟨sl2, om2, ?_, by rw [List.append_assoc] at h2; exact h2⟩
    rw [List.map_cons, f_consT (hf x), e1, f_n, e2]
/-- a comprehension whose items come out one by one -/
theorem comp_keep {cond elt : E} {α : Type} {f : α → D} (I : List α → List D → Om → Prop) : ∀ (xs done : List α) (ys : List D) (om : Om), I done ys om →
    (∀ done ys x, x ∈ xs → ∀ om, I done ys om → ∃ y om', kTr (evE T cond (sl.set i (.val (f x))) om) = .ok true om ∧ evE T elt (sl.set i (.val (f x))) om = .ok y om' ∧ I (done ++ [x]) (ys ++ [y]) om') →
    ∃ zs om', cmpG T cond elt (.one i) sl (xs.map f) om = .ok zs om' ∧ I (done ++ xs) (ys ++ zs) om'
  | [], done, ys, om, h, _ => ⟨[], om, rfl, by rw [List.append_nil, List.append_nil]; exact h⟩
  | x :: xs, done, ys, om, h, st => by
    obtain ⟨y, om1, e0, e1, h1⟩ := st done ys x List.mem_cons_self om h
    obtain ⟨zs, om2, e2, h2⟩ := comp_keep I xs (done ++ [x]) (ys ++ [y]) om1 h1 fun dn y z hy => st dn y z (List.mem_cons_of_mem _ hy)
    refine ⟨y :: zs, om2, ?_, by rw [List.append_assoc, List.append_assoc] at h2; exact h2⟩
    rw [List.map_cons, c_cons, e0, c_t, e1, c_2, e2, c_3]
/-- a comprehension of plain items -/
theorem comp_map {cond elt : E} {α : Type} {f g : α → D} : ∀ (xs : List α), (∀ x ∈ xs, kTr (evE T cond (sl.set i (.val (f x))) om) = .ok true om ∧ evE T elt (sl.set i (.val (f x))) om = .ok (g x) om) →
    cmpG T cond elt (.one i) sl (xs.map f) om = .ok (xs.map g) om
  | [], _ => rfl
  | x :: xs, st => by
    obtain ⟨e0, e1⟩ := st x List.mem_cons_self
    rw [List.map_cons, c_cons, e0, c_t, e1, c_2, comp_map xs fun y hy => st y (List.mem_cons_of_mem _ hy), c_3]
    rfl
end
end PD

set_option Elab.async false
set_option linter.all false
set_option maxRecDepth 100000
set_option maxHeartbeats 400000
/-! PDN: the pool. -/
namespace PD
open PySem PySem.Spec PyProof.Rows L2
theorem log2_small {n k : Nat} (h : n < 2 ^ k) (hk : 0 < k) : n.log2 < k := by
  by_cases h0 : n = 0
  · subst h0
    simpa using hk
  · exact (Nat.log2_lt h0).mpr h
theorem cmulW_s {i j : Int} {a b : Nat} (hi : i.natAbs < 2 ^ a) (hj : j.natAbs < 2 ^ b) (ha : 0 < a) (hb : 0 < b) (h : a + b ≤ 1000000) : CMulW i j := by
  have x := log2_small hi ha
  have y := log2_small hj hb
  unfold CMulW
  omega
theorem cdivW_s {i j : Int} {b : Nat} (h : 0 < j) (hj : j.natAbs < 2 ^ b) (hb : 0 < b) (hb' : b ≤ 9000) : CDivW i j := by
  have y := log2_small hj hb
  exact ⟨h, by omega⟩
/-- the pool -/
abbrev poolD (ns : List Int) (a b c d e : Int) : List D := [.lst (ns.map .int), .int a, .int b, .int c, .int d, .int e]
def PoolAt (om : Om) (r : Om) : Prop := ∃ ns a b c d e, om = .pl (poolD ns a b c d e) :: r ∧ 0 ≤ a ∧ 0 ≤ c ∧ c < 2147483647
def drawB : S := (.seq (.ite (.an (.cm .le (.ix (.v 0) (.k (.int 2))) (.k (.int 0))) (.an (.cm .le (.ix (.v 0) (.k (.int 4))) (.k (.int 0))) (.cm .lt (.ix (.v 0) (.k (.int 1))) (.bi .len (.ix (.v 0) (.k (.int 0))))))) (.seq (.set 2 (.ix (.ix (.v 0) (.k (.int 0))) (.ix (.v 0) (.k (.int 1))))) (.seq (.setIA 0 (.k (.int 1)) (.op .add (.ix (.v 0) (.k (.int 1))) (.k (.int 1)))) (.seq (.setIA 0 (.k (.int 3)) (.op .mod (.bi .int (.op .add (.op .mul (.ix (.v 0) (.k (.int 3))) (.k (.int 31))) (.v 2))) (.k (.int 2147483647)))) (.seq (.setIA 0 (.k (.int 4)) (.k (.int 7))) (.seq (.ite (.cm .ge (.v 2) (.op .pow (.k (.int 10)) (.k (.int 18)))) (.seq (.setIA 0 (.k (.int 2)) (.v 2)) .skip) .skip) .skip))))) .skip) (.seq (.ite (.cm .gt (.ix (.v 0) (.k (.int 2))) (.k (.int 0))) (.seq (.set 3 (.op .mod (.bi .int (.ix (.v 0) (.k (.int 2)))) (.v 1))) (.seq (.setIA 0 (.k (.int 2)) (.op .fdiv (.ix (.v 0) (.k (.int 2))) (.v 1))) (.seq (.setIA 0 (.k (.int 4)) (.k (.int 0))) (.seq (.ret (.v 3)) .skip)))) .skip) (.seq (.setIA 0 (.k (.int 4)) (.op .sub (.ix (.v 0) (.k (.int 4))) (.k (.int 1)))) (.seq (.setIA 0 (.k (.int 3)) (.op .mod (.bi .int (.op .add (.op .mul (.ix (.v 0) (.k (.int 3))) (.k (.int 48271))) (.k (.int 12345)))) (.k (.int 2147483647)))) (.seq (.ret (.op .mod (.op .mod (.bi .int (.op .add (.op .mul (.ix (.v 0) (.k (.int 3))) (.k (.int 69621))) (.k (.int 7919)))) (.k (.int 2147483647))) (.v 1))) .skip)))))
def spendB : S := (.seq (.setIA 0 (.k (.int 5)) (.op .sub (.ix (.v 0) (.k (.int 5))) (.k (.int 1)))) (.seq (.ret (.cm .ge (.ix (.v 0) (.k (.int 5))) (.k (.int 0)))) .skip))
def poolB : S := (.seq (.retF (.lst (.cons (.bi .list (.v 0)) (.cons (.k (.int 0)) (.cons (.k (.int 0)) (.cons (.k (.int 1)) (.cons (.k (.int 0)) (.cons (.v 1) .nil)))))))) .skip)
section
variable {T : Tb} {ns : List Int} {a b c d e n : Int} {r : Om} {sl : Sl} {x : D}
theorem ixp0 : ixD (.amb 0) (.int 0) (.pl (poolD ns a b c d e) :: r) = .ok (.lst (ns.map .int)) (.pl (poolD ns a b c d e) :: r) := rfl
theorem ixp1 : ixD (.amb 0) (.int 1) (.pl (poolD ns a b c d e) :: r) = .ok (.int a) (.pl (poolD ns a b c d e) :: r) := rfl
theorem ixp2 : ixD (.amb 0) (.int 2) (.pl (poolD ns a b c d e) :: r) = .ok (.int b) (.pl (poolD ns a b c d e) :: r) := rfl
theorem ixp3 : ixD (.amb 0) (.int 3) (.pl (poolD ns a b c d e) :: r) = .ok (.int c) (.pl (poolD ns a b c d e) :: r) := rfl
theorem ixp4 : ixD (.amb 0) (.int 4) (.pl (poolD ns a b c d e) :: r) = .ok (.int d) (.pl (poolD ns a b c d e) :: r) := rfl
theorem ixp5 : ixD (.amb 0) (.int 5) (.pl (poolD ns a b c d e) :: r) = .ok (.int e) (.pl (poolD ns a b c d e) :: r) := rfl
theorem sp1 : kSP2 (.ok (.int 1) (.pl (poolD ns a b c d e) :: r)) (.int n) 0 sl = .next sl (.pl (poolD ns n b c d e) :: r) := rfl
theorem sp2 : kSP2 (.ok (.int 2) (.pl (poolD ns a b c d e) :: r)) (.int n) 0 sl = .next sl (.pl (poolD ns a n c d e) :: r) := rfl
theorem sp3 : kSP2 (.ok (.int 3) (.pl (poolD ns a b c d e) :: r)) (.int n) 0 sl = .next sl (.pl (poolD ns a b n d e) :: r) := rfl
theorem sp4 : kSP2 (.ok (.int 4) (.pl (poolD ns a b c d e) :: r)) (.int n) 0 sl = .next sl (.pl (poolD ns a b c n e) :: r) := rfl
theorem sp5 : kSP2 (.ok (.int 5) (.pl (poolD ns a b c d e) :: r)) (.int n) 0 sl = .next sl (.pl (poolD ns a b c d n) :: r) := rfl
theorem atI_map {i : Int} (h0 : 0 ≤ i) (h : i < ns.length) : ∃ n, atI (ns.map D.int) i = some (.int n) := by
  rw [atI_nn h0, List.getElem?_map, List.getElem?_eq_getElem (by omega : i.toNat < ns.length)]
  exact ⟨_, rfl⟩
theorem mul31 (h : 0 ≤ c) (h' : c < 2147483647) : CMulW c 31 := cmulW_s (a := 31) (b := 5) (by omega) (by decide) (by decide) (by decide) (by decide)
theorem mul48 (h : 0 ≤ c) (h' : c < 2147483647) : CMulW c 48271 := cmulW_s (a := 31) (b := 16) (by omega) (by decide) (by decide) (by decide) (by decide)
theorem mul69 (h : 0 ≤ c) (h' : c < 2147483647) : CMulW c 69621 := cmulW_s (a := 31) (b := 17) (by omega) (by decide) (by decide) (by decide) (by decide)
theorem pow18 : bop T .pow (.int 10) (.int 18) r = .ok (.int 1000000000000000000) r := by
  rw [o_powi (by decide)]
  rfl
/-- the second half of a draw -/
theorem draw2 {s : Int} {y : Cell} (hs : 0 < s) (hs' : s < 2 ^ 200) (ha : 0 ≤ a) (hc : 0 ≤ c) (hc' : c < 2147483647) {B : S} (hB : drawB = .seq B (match drawB with | .seq _ b => b | _ => .skip)) :
    ∃ v om', evS T (match drawB with | .seq _ b => b | _ => .skip) [.val (.amb 0), .val (.int s), y, .no] (.pl (poolD ns a b c d e) :: r) = .ret (.int v) om' ∧ 0 ≤ v ∧ v < s ∧ PoolAt om' r := by
  by_cases h : 0 < b
  · refine ⟨b % s, .pl (poolD ns a (b / s) c 0 e) :: r, ?_, Int.emod_nonneg _ (by omega), Int.emod_lt_of_pos _ hs, ⟨_, _, _, _, _, _, rfl, ha, hc, hc'⟩⟩
    have hd : CDivW b s := cdivW_s (b := 200) hs (by omega) (by decide) (by decide)
    simp [drawB, ixp0, ixp1, ixp2, ixp3, ixp4, sp1, sp2, sp3, sp4, h, hs, o_divi hd]
  · have hc2 : 0 ≤ (c * 48271 + 12345) % 2147483647 := Int.emod_nonneg _ (by decide)
    have hc3 : (c * 48271 + 12345) % 2147483647 < 2147483647 := Int.emod_lt_of_pos _ (by decide)
    refine ⟨((c * 48271 + 12345) % 2147483647 * 69621 + 7919) % 2147483647 % s, .pl (poolD ns a b ((c * 48271 + 12345) % 2147483647) (d - 1) e) :: r, ?_, Int.emod_nonneg _ (by omega), Int.emod_lt_of_pos _ hs, ⟨_, _, _, _, _, _, rfl, ha, hc2, hc3⟩⟩
    simp [drawB, ixp0, ixp1, ixp2, ixp3, ixp4, sp1, sp2, sp3, sp4, h, hs, o_muli (mul48 hc hc'), o_muli (mul69 hc2 hc3)]
theorem draw_ok {s : Int} {om r : Om} (hs : 0 < s) (hs' : s < 2 ^ 200) (hp : PoolAt om r) : ∃ v om', evS T drawB [.val (.amb 0), .val (.int s), .no, .no] om = .ret (.int v) om' ∧ 0 ≤ v ∧ v < s ∧ PoolAt om' r := by
  obtain ⟨ns, a, b, c, d, e, rfl, ha, hc, hc'⟩ := hp
  have key : ∀ {y a b c d}, 0 ≤ a → 0 ≤ c → c < 2147483647 → evS T drawB [.val (.amb 0), .val (.int s), .no, .no] (.pl (poolD ns a b c d e) :: r) = evS T (match drawB with | .seq _ b => b | _ => .skip) [.val (.amb 0), .val (.int s), y, .no] (.pl (poolD ns a b c d e) :: r) → True := fun _ _ _ _ => trivial
  by_cases h1 : b ≤ 0
  · by_cases h2 : d ≤ 0
    · by_cases h3 : a < ns.length
      · obtain ⟨cell, hcell⟩ := atI_map ha h3
        have hc2 : 0 ≤ (c * 31 + cell) % 2147483647 := Int.emod_nonneg _ (by decide)
        have hc3 : (c * 31 + cell) % 2147483647 < 2147483647 := Int.emod_lt_of_pos _ (by decide)
        by_cases h4 : 1000000000000000000 ≤ cell
        · obtain ⟨v, om', e1, h⟩ := draw2 (T := T) (ns := ns) (a := a + 1) (b := cell) (c := (c * 31 + cell) % 2147483647) (d := 7) (e := e) (r := r) (y := .val (.int cell)) hs hs' (by omega) hc2 hc3 rfl
          refine ⟨v, om', ?_, h⟩
          rw [← e1, drawB]
          simp only [z_seq, z_seq1, z_ite, z_ite1, z_ite2, r_tr1, r_an, r_an1, r_an2, r_cm, r_cm1, r_cm2, r_bl, r_k, r_ix, r_ix1, r_ix2, ixp0, ixp1, ixp2, ixp3, ixp4, o_le, o_lt, o_ge]
          simp [ixp0, ixp1, ixp2, ixp3, ixp4, sp1, sp2, sp3, sp4, h1, h2, h3, h4, hcell, pow18, o_muli (mul31 hc hc')]
        · obtain ⟨v, om', e1, h⟩ := draw2 (T := T) (ns := ns) (a := a + 1) (b := b) (c := (c * 31 + cell) % 2147483647) (d := 7) (e := e) (r := r) (y := .val (.int cell)) hs hs' (by omega) hc2 hc3 rfl
          refine ⟨v, om', ?_, h⟩
          rw [← e1, drawB]
          simp [ixp0, ixp1, ixp2, ixp3, ixp4, sp1, sp2, sp3, sp4, h1, h2, h3, h4, hcell, pow18, o_muli (mul31 hc hc')]
      · obtain ⟨v, om', e1, h⟩ := draw2 (T := T) (ns := ns) (a := a) (b := b) (c := c) (d := d) (e := e) (r := r) (y := .no) hs hs' ha hc hc' rfl
        refine ⟨v, om', ?_, h⟩
        rw [← e1, drawB]
        simp [ixp0, ixp1, ixp2, ixp3, ixp4, sp1, sp2, sp3, sp4, h1, h2, h3]
    · obtain ⟨v, om', e1, h⟩ := draw2 (T := T) (ns := ns) (a := a) (b := b) (c := c) (d := d) (e := e) (r := r) (y := .no) hs hs' ha hc hc' rfl
      refine ⟨v, om', ?_, h⟩
      rw [← e1, drawB]
      simp [ixp0, ixp1, ixp2, ixp3, ixp4, sp1, sp2, sp3, sp4, h1, h2]
  · obtain ⟨v, om', e1, h⟩ := draw2 (T := T) (ns := ns) (a := a) (b := b) (c := c) (d := d) (e := e) (r := r) (y := .no) hs hs' ha hc hc' rfl
    refine ⟨v, om', ?_, h⟩
    rw [← e1, drawB]
    simp [ixp0, ixp1, ixp2, ixp3, ixp4, sp1, sp2, sp3, sp4, h1]
end
end PD

set_option Elab.async false
set_option linter.all false
set_option maxRecDepth 100000
set_option maxHeartbeats 400000
/-! PDO: lists of texts, numbers as texts, slices, two values the same. -/
namespace PD
open PySem PySem.Spec PyProof.Rows L2
abbrev strL (ws : List Str) : List D := ws.map D.str
theorem strs_ok : ∀ ws : List Str, strsD (strL ws) = some ws
  | [] => rfl
  | w :: ws => by
    show (strsD (strL ws)).map (w :: ·) = _
    rw [strs_ok ws]
    rfl
theorem toPs_str : ∀ ws : List Str, toPs (strL ws) = some (ws.map PyData.str)
  | [] => rfl
  | w :: ws => by
    show (match toPs (strL ws) with | some ps => some (PyData.str w :: ps) | none => none) = _
    rw [toPs_str ws]
    rfl
theorem canLay_str : ∀ {ws : List Str}, (∀ w ∈ ws, PyData.strOk w = true) → PyData.canLayAll0 (ws.map PyData.str) = true
  | [], _ => rfl
  | w :: ws, h => by
    show (PyData.strOk w && PyData.canLayAll0 (ws.map PyData.str)) = true
    rw [h w List.mem_cons_self, canLay_str fun x hx => h x (List.mem_cons_of_mem _ hx)]
    rfl
theorem depth_str : ∀ ws : List Str, PyData.depthAll (ws.map PyData.str) = 0
  | [] => rfl
  | w :: ws => by
    show max 0 (PyData.depthAll (ws.map PyData.str)) = 0
    rw [depth_str ws]
    rfl
theorem eqv_str : ∀ xs ys : List Str, PyData.eqvAll (xs.map PyData.str) (ys.map PyData.str) = decide (xs = ys)
  | [], [] => rfl
  | [], _ :: _ => rfl
  | _ :: _, [] => rfl
  | x :: xs, y :: ys => by
    show ((x == y) && PyData.eqvAll (xs.map PyData.str) (ys.map PyData.str)) = _
    rw [eqv_str xs ys]
    by_cases h : x = y
    · subst h
      simp
    · simp [h]
theorem shaped_str {ws : List Str} (h : ∀ w ∈ ws, PyData.strOk w = true) : SeqAt.shaped (.list (ws.map PyData.str)) = true := by
  show (PyData.canLayAll0 (ws.map PyData.str) && decide (PyData.depthAll (ws.map PyData.str) + 1 ≤ 64)) = true
  rw [canLay_str h, depth_str]
  rfl
section
variable {T : Tb} {om : Om} {xs ys ws : List Str}
theorem o_eqls (hx : ∀ w ∈ xs, PyData.strOk w = true) (hy : ∀ w ∈ ys, PyData.strOk w = true) : cmp T .eq (.lst (strL xs)) (.lst (strL ys)) om = .ok (decide (xs = ys)) om := by
  show (match (toPs (strL xs)).map PyData.list, (toPs (strL ys)).map PyData.list with
    | some p, some q => if (SeqAt.shaped p && SeqAt.shaped q) = true then Rs.ok (PyData.eqv p q) om else .stuck
    | _, _ => .stuck) = _
  rw [toPs_str, toPs_str]
  show (if (SeqAt.shaped (.list (xs.map PyData.str)) && SeqAt.shaped (.list (ys.map PyData.str))) = true then Rs.ok (PyData.eqvAll (xs.map PyData.str) (ys.map PyData.str)) om else .stuck) = _
  rw [shaped_str hx, shaped_str hy, eqv_str]
  rfl
theorem o_nels (hx : ∀ w ∈ xs, PyData.strOk w = true) (hy : ∀ w ∈ ys, PyData.strOk w = true) : cmp T .ne (.lst (strL xs)) (.lst (strL ys)) om = .ok (!decide (xs = ys)) om := by
  show (match (toPs (strL xs)).map PyData.list, (toPs (strL ys)).map PyData.list with
    | some p, some q => if (SeqAt.shaped p && SeqAt.shaped q) = true then Rs.ok (!PyData.eqv p q) om else .stuck
    | _, _ => .stuck) = _
  rw [toPs_str, toPs_str]
  show (if (SeqAt.shaped (.list (xs.map PyData.str)) && SeqAt.shaped (.list (ys.map PyData.str))) = true then Rs.ok (!PyData.eqvAll (xs.map PyData.str) (ys.map PyData.str)) om else .stuck) = _
  rw [shaped_str hx, shaped_str hy, eqv_str]
  rfl
theorem j_ok {s : Str} (h : (ws.map Str.length).sum + ws.length * s.length ≤ 1000000) : mbf .join s (.lst (strL ws)) om = .ok (.str (Txt.join s ws)) om := by
  show (match strsD (strL ws) with
    | some (ys : List Str) => if (ys.map Str.length).sum + ys.length * s.length ≤ 1000000 then Rs.ok (D.str (Txt.join s ys)) om else .stuck
    | none => .stuck) = _
  rw [strs_ok]
  exact if_pos h
theorem cut_map {α : Type} (f : α → D) (l : List α) (lo hi : Option Int) : cutD (l.map f) lo hi = ((l.drop (HT.sIx l.length 0 lo)).take (HT.sIx l.length l.length hi - HT.sIx l.length 0 lo)).map f := by
  unfold cutD
  rw [List.length_map, List.map_take, List.map_drop]
theorem cut_take {α : Type} (f : α → D) (l : List α) (k : Nat) : cutD (l.map f) none (some (k : Int)) = (l.take k).map f := by
  rw [cut_map, HT.sIx_none, HT.sIx_nat, List.drop_zero, Nat.sub_zero]
  by_cases h : k ≤ l.length
  · rw [Nat.min_eq_left h]
  · rw [Nat.min_eq_right (by omega), List.take_of_length_le (by omega), List.take_of_length_le (by omega)]
theorem cut_one {α : Type} (f : α → D) (l : List α) (k : Nat) : cutD (l.map f) (some (k : Int)) (some ((k : Int) + 1)) = ((l.drop k).take 1).map f := by
  have e : ((k : Int) + 1) = ((k + 1 : Nat) : Int) := by omega
  rw [cut_map, e, HT.sIx_nat, HT.sIx_nat]
  by_cases h : k < l.length
  · rw [Nat.min_eq_left (by omega), Nat.min_eq_left (by omega)]
    congr 2
    omega
  · rw [Nat.min_eq_right (by omega), Nat.min_eq_right (by omega), List.drop_of_length_le (by omega), List.drop_of_length_le (by omega)]
    simp
end
/-! ### numbers as texts -/
def num (k : Nat) : Str := Str.ofString (toString ((k : Nat) : Int))
theorem tl_n (k : Nat) : (num k).cps.toList = TL.numL k := TL.tl_num k
theorem num_len {k m : Nat} (hm : 0 < m) (h : k < 10 ^ m) : (num k).length ≤ m := by
  rw [TL.len_tl, TL.tl, tl_n]
  exact TL.numL_len hm h
theorem strOk_of {s : Str} (h : ∀ c ∈ s.cps.toList, c < 128) : PyData.strOk s = true := by
  unfold PyData.strOk
  rw [Array.all_eq_true_iff_forall_mem]
  intro c hc
  exact decide_eq_true (by have := h c (Array.mem_toList_iff.mpr hc); omega)
theorem strOk_lit {s : Str} (l : List Nat) (e : s.cps.toList = l) (h : l.all (· < 128) = true) : PyData.strOk s = true := strOk_of fun c hc => by
  rw [e] at hc
  exact of_decide_eq_true (List.all_eq_true.mp h c hc)
theorem num_ok (k : Nat) : PyData.strOk (num k) = true := strOk_of fun c hc => by
  rw [tl_n] at hc
  have := TL.numL_digits k c hc
  omega
theorem num_inj {j k : Nat} (h : num j = num k) : j = k := TL.numL_inj (by rw [← tl_n, ← tl_n, h])
theorem num_free {k s : Nat} (h : s < 48 ∨ 57 < s) : s ∉ TL.tl (num k) := by
  rw [TL.tl, tl_n]
  exact TL.numL_free h
theorem num_ne (k : Nat) : (num k).cps.toList ≠ [] := by
  rw [tl_n]
  exact TL.numL_ne k
theorem num_zero (k : Nat) (h : (TL.numL k).head? = some 48) : k = 0 := by
  induction k using Nat.strongRecOn with
  | _ k ih =>
    by_cases hk : k < 10
    · rw [TL.numL_lt hk] at h
      have e : 48 + k = 48 := Option.some.inj h
      omega
    · rw [TL.numL_step (by omega)] at h
      rw [List.head?_append] at h
      have hn := TL.numL_ne (k / 10)
      cases q : TL.numL (k / 10) with
      | nil => exact absurd q hn
      | cons c r =>
        rw [q] at h
        have z := ih (k / 10) (by omega) (by rw [q]; exact h)
        omega
theorem b_str {T : Tb} {om : Om} {k : Nat} (h : k < 2 ^ 200) : biD T .str (.int (k : Int)) om = .ok (.str (num k)) om := by
  show (if ((k : Int)).natAbs.log2 < 1920 then _ else _) = _
  rw [if_pos (Nat.lt_trans (log2_small (k := 200) (by rw [Int.natAbs_natCast]; exact h) (by decide)) (by decide))]
  rfl
theorem b_int {T : Tb} {om : Om} {k : Nat} (h : (num k).length ≤ 640) : biD T .int (.str (num k)) om = .ok (.int (k : Int)) om := by
  show (match PySem.intText? (num k) with
    | some n => if (num k).length ≤ 640 then Rs.ok (D.int n) om else .stuck
    | none => .stuck) = _
  have e : PySem.intText? (num k) = some (k : Int) := TL.int_num (by rw [TL.len_tl, TL.tl, tl_n] at h; omega)
  rw [e]
  exact if_pos h
theorem in_dig {T : Tb} {om : Om} {c : Nat} : cmp T .inn (.str ⟨#[c]⟩) (.str (Str.ofString "0123456789")) om = .ok (decide (c ∈ [48, 49, 50, 51, 52, 53, 54, 55, 56, 57])) om := by
  show opt (some (!(Builtin.Str.occurrences (Str.ofString "0123456789") ⟨#[c]⟩ 0 (Str.ofString "0123456789").length 1).isEmpty)) om = _
  have z := StrLaws.found_one (Str.ofString "0123456789") c
  exact congrArg (fun b => Rs.ok b om) z
theorem bls_true : ∀ (n : Nat), blsD (List.replicate n (.bl true)) = some (List.replicate n true)
  | 0 => rfl
  | n + 1 => by
    rw [List.replicate_succ, List.replicate_succ]
    show (blsD (List.replicate n (.bl true))).map (true :: ·) = _
    rw [bls_true n]
    rfl
theorem b_all {T : Tb} {om : Om} {n : Nat} : biD T .all (.lst (List.replicate n (.bl true))) om = .ok (.bl true) om := by
  show (match blsD (List.replicate n (.bl true)) with
    | some bs => Rs.ok (D.bl (bs.all id)) om
    | none => .stuck) = _
  rw [bls_true]
  simp
/-! ### the def of both papers that reads a number's text -/
def wholeB : S := (.seq (.ite (.or (.no (.ch .lt .le (.k (.int 0)) (.bi .len (.v 0)) (.k (.int 60)))) (.no (.bi .all (.comp (.one 1) (.itl (.v 0)) (.k (.bl true)) (.cm .inn (.v 1) (.k (.str "0123456789"))))))) (.seq (.ret (.k .non)) .skip) .skip) (.seq (.ret (.ite (.an (.cm .eq (.ix (.v 0) (.k (.int 0))) (.k (.str "0"))) (.cm .ne (.v 0) (.k (.str "0")))) (.k .non) (.bi .int (.v 0)))) .skip))
theorem num0 : num 0 = Str.ofString "0" := rfl
theorem whole_ok {T : Tb} {om : Om} {k : Nat} (h : (num k).length ≤ 60) : evS T wholeB [.val (.str (num k)), .no] om = .ret (.int k) om := by
  have hl : biD T .len (.str (num k)) om = .ok (.int ((num k).length : Int)) om := if_pos (by omega)
  have hp : 0 < (num k).length := by
    rw [TL.len_tl, TL.tl]
    exact List.length_pos_iff.mpr (num_ne k)
  have hc : cmpG T (.k (.bl true)) (.cm .inn (.v 1) (.k (.str "0123456789"))) (.one 1) [.val (.str (num k)), .no] ((num k).cps.toList.map fun c => .str ⟨#[c]⟩) om = .ok (List.replicate (num k).length (.bl true)) om := by
    have z := comp_map (T := T) (sl := [.val (.str (num k)), .no]) (om := om) (i := 1) (cond := .k (.bl true)) (elt := .cm .inn (.v 1) (.k (.str "0123456789"))) (f := fun c : Nat => .str ⟨#[c]⟩) (g := fun _ => .bl true) (num k).cps.toList (fun c hc => by
      have hd : c ∈ [48, 49, 50, 51, 52, 53, 54, 55, 56, 57] := by
        rw [tl_n] at hc
        have := TL.numL_digits k c hc
        simp
        omega
      refine ⟨by simp, ?_⟩
      simp only [r_cm, r_cm1, r_cm2, r_k, List.set_cons_succ, List.set_cons_zero]
      rw [r_v (d := .str ⟨#[c]⟩) rfl, r_cm1, r_k, r_cm2, in_dig, decide_eq_true hd, r_bl])
    rw [z]
    congr 1
    rw [List.map_const', ← TL.len_tl]
  obtain ⟨c, r, hcr⟩ : ∃ c r, (num k).cps.toList = c :: r := by
    cases q : (num k).cps.toList with
    | nil => exact absurd q (num_ne k)
    | cons c r => exact ⟨c, r, rfl⟩
  have hx : ixD (.str (num k)) (.int 0) om = .ok (.str ⟨#[c]⟩) om := by
    show (if (num k).length ≤ 1000000 then match atI (num k).cps.toList 0 with | some c => Rs.ok (D.str ⟨#[c]⟩) om | none => .stuck else .stuck) = _
    rw [if_pos (by omega), hcr, atI0]
  have hco : PyData.strOk ⟨#[c]⟩ = true := strOk_of fun x hx => by
    have hx' : x ∈ [c] := hx
    rw [List.mem_singleton.mp hx']
    have := TL.numL_digits k c (by rw [← tl_n, hcr]; exact List.mem_cons_self)
    omega
  have h0 : PyData.strOk (Str.ofString "0") = true := strOk_lit [48] rfl rfl
  have hz : kTr (kAn T (.ok (.bl ((⟨#[c]⟩ : Str) == Str.ofString "0")) om) (.cm .ne (.v 0) (.k (.str "0"))) [.val (.str (num k)), .no]) = .ok false om := by
    by_cases e : ((⟨#[c]⟩ : Str) == Str.ofString "0") = true
    · have hc48 : c = 48 := by
        have e1 : (⟨#[c]⟩ : Str) = Str.ofString "0" := eq_of_beq e
        have e2 : ((⟨#[c]⟩ : Str)).cps.toList = (Str.ofString "0").cps.toList := by rw [e1]
        have e3 : [c] = [48] := e2
        exact List.singleton_inj.mp e3
      have hk : k = 0 := num_zero k (by rw [← tl_n, hcr, hc48]; rfl)
      rw [e]
      subst hk
      simp [o_nes, num0, h0]
    · have e' : ((⟨#[c]⟩ : Str) == Str.ofString "0") = false := by
        cases q : ((⟨#[c]⟩ : Str) == Str.ofString "0") with
        | true => exact absurd q e
        | false => rfl
      rw [e']
      rfl
  have hl2 : (num k).cps.toList.length ≤ 1000000 := by
    rw [← TL.len_tl]
    omega
  unfold wholeB
  have he : evE T (.v 0) [.val (.str (num k)), .no] om = .ok (.str (num k)) om := r_v rfl
  have hm : List.map (fun c : Nat => D.str ⟨#[c]⟩) (num k).cps.toList = List.map (fun c : Nat => D.str ⟨#[c]⟩) (num k).cps.toList := rfl
  have hbound : (0 : Int) < ((num k).length : Int) := by omega
  have hb2 : ((num k).length : Int) ≤ 60 := by omega
  rw [z_seq, z_ite, r_or, r_no, r_ch, r_k, r_ch1, r_bi, he, r_bi1, hl, r_ch2, o_lt, decide_eq_true hbound, r_ch3, r_k, r_cm2, o_le, decide_eq_true hb2, r_bl, r_no1]
  simp only [Bool.not_true]
  rw [r_or2, r_no, r_bi, r_comp, r_itl, he, r_itl3, r_comp1, if_pos (by rw [List.length_map]; exact hl2), wi_1]
  simp only [List.set_cons_succ, List.set_cons_zero]
  rw [hc, r_comp2, r_bi1, b_all, r_no1]
  simp only [Bool.not_true]
  rw [r_tr1, z_ite2, z_skip, z_seq1, z_seq, z_ret, r_ite, r_an, r_cm, r_ix, he, r_ix1, r_k, r_ix2, hx, r_cm1, r_k, r_cm2, o_eqs hco h0, r_bl, hz, r_ite2, r_bi, he, r_bi1, b_int (by omega), z_ret1, z_seq2]
section
variable {om : Om} {n : Int} {b : Bool} {t : Str} {ds : List D}
@[simp] theorem i_tuple_int : kIsi (.ok (.int n) om) [.tuple] = .ok (.bl false) om := rfl
@[simp] theorem i_tuple_bl : kIsi (.ok (.bl b) om) [.tuple] = .ok (.bl false) om := rfl
@[simp] theorem i_tuple_non : kIsi (.ok .non om) [.tuple] = .ok (.bl false) om := rfl
@[simp] theorem i_tuple_str : kIsi (.ok (.str t) om) [.tuple] = .ok (.bl false) om := rfl
@[simp] theorem i_tuple_lst : kIsi (.ok (.lst ds) om) [.tuple] = .ok (.bl false) om := rfl
@[simp] theorem i_tuple_tup : kIsi (.ok (.tup ds) om) [.tuple] = .ok (.bl true) om := rfl
@[simp] theorem i_list_int : kIsi (.ok (.int n) om) [.list] = .ok (.bl false) om := rfl
@[simp] theorem i_list_bl : kIsi (.ok (.bl b) om) [.list] = .ok (.bl false) om := rfl
@[simp] theorem i_list_non : kIsi (.ok .non om) [.list] = .ok (.bl false) om := rfl
@[simp] theorem i_list_str : kIsi (.ok (.str t) om) [.list] = .ok (.bl false) om := rfl
@[simp] theorem i_list_lst : kIsi (.ok (.lst ds) om) [.list] = .ok (.bl true) om := rfl
@[simp] theorem i_list_tup : kIsi (.ok (.tup ds) om) [.list] = .ok (.bl false) om := rfl
@[simp] theorem i_int_int : kIsi (.ok (.int n) om) [.int] = .ok (.bl true) om := rfl
@[simp] theorem i_int_bl : kIsi (.ok (.bl b) om) [.int] = .ok (.bl true) om := rfl
@[simp] theorem i_int_non : kIsi (.ok .non om) [.int] = .ok (.bl false) om := rfl
@[simp] theorem i_int_str : kIsi (.ok (.str t) om) [.int] = .ok (.bl false) om := rfl
@[simp] theorem i_int_lst : kIsi (.ok (.lst ds) om) [.int] = .ok (.bl false) om := rfl
@[simp] theorem i_int_tup : kIsi (.ok (.tup ds) om) [.int] = .ok (.bl false) om := rfl
@[simp] theorem i_bool_int : kIsi (.ok (.int n) om) [.bool] = .ok (.bl false) om := rfl
@[simp] theorem i_bool_bl : kIsi (.ok (.bl b) om) [.bool] = .ok (.bl true) om := rfl
@[simp] theorem i_bool_non : kIsi (.ok .non om) [.bool] = .ok (.bl false) om := rfl
@[simp] theorem i_bool_str : kIsi (.ok (.str t) om) [.bool] = .ok (.bl false) om := rfl
@[simp] theorem i_bool_lst : kIsi (.ok (.lst ds) om) [.bool] = .ok (.bl false) om := rfl
@[simp] theorem i_bool_tup : kIsi (.ok (.tup ds) om) [.bool] = .ok (.bl false) om := rfl
@[simp] theorem i_str_int : kIsi (.ok (.int n) om) [.str] = .ok (.bl false) om := rfl
@[simp] theorem i_str_bl : kIsi (.ok (.bl b) om) [.str] = .ok (.bl false) om := rfl
@[simp] theorem i_str_non : kIsi (.ok .non om) [.str] = .ok (.bl false) om := rfl
@[simp] theorem i_str_str : kIsi (.ok (.str t) om) [.str] = .ok (.bl true) om := rfl
@[simp] theorem i_str_lst : kIsi (.ok (.lst ds) om) [.str] = .ok (.bl false) om := rfl
@[simp] theorem i_str_tup : kIsi (.ok (.tup ds) om) [.str] = .ok (.bl false) om := rfl
end

/-! ### two values the same -/
def sameB (f : Nat) : S := (.seq (.ite (.or (.isi [.tuple] (.v 1)) (.isi [.list] (.v 1))) (.seq (.ite (.or (.cm .ne (.isi [.tuple] (.v 1)) (.isi [.tuple] (.v 0))) (.cm .ne (.isi [.list] (.v 1)) (.isi [.list] (.v 0)))) (.seq (.ret (.k (.bl false))) .skip) .skip) (.seq (.ite (.cm .ne (.bi .len (.v 0)) (.bi .len (.v 1))) (.seq (.ret (.k (.bl false))) .skip) .skip) (.seq (.fo (.one 2) (.rng1 (.bi .len (.v 1))) (.seq (.ite (.no (.call f [] (.cons (.ix (.v 0) (.v 2)) (.cons (.ix (.v 1) (.v 2)) .nil)))) (.seq (.ret (.k (.bl false))) .skip) .skip) .skip)) (.seq (.ret (.k (.bl true))) .skip)))) .skip) (.seq (.ite (.or (.cm .is (.v 1) (.k .non)) (.isi [.bool] (.v 1))) (.seq (.ret (.an (.cm .eq (.cm .is (.v 0) (.k .non)) (.cm .is (.v 1) (.k .non))) (.an (.or (.cm .is (.v 1) (.k .non)) (.isi [.bool] (.v 0))) (.cm .eq (.v 0) (.v 1))))) .skip) .skip) (.seq (.ite (.isi [.int] (.v 1)) (.seq (.ret (.an (.isi [.int] (.v 0)) (.an (.no (.isi [.bool] (.v 0))) (.cm .eq (.v 0) (.v 1))))) .skip) .skip) (.seq (.ret (.an (.isi [.str] (.v 0)) (.cm .eq (.v 0) (.v 1)))) .skip))))
def SameD : Nat → D → Prop
  | 0, d => (∃ i, d = .int i) ∨ (∃ s, d = .str s ∧ PyData.strOk s = true) ∨ (∃ b, d = .bl b) ∨ d = .non
  | n + 1, d => SameD 0 d ∨ ∃ ds : List D, (d = .lst ds ∨ d = .tup ds) ∧ ds.length < 2 ^ 62 ∧ ∀ x ∈ ds, SameD n x
section
variable {p : Prog} {wf f : Nat} {om : Om}
theorem same_flat {T : Tb} {d : D} (h : SameD 0 d) : evS T (sameB f) [.val d, .val d, .no] om = .ret (.bl true) om := by
  rw [SameD] at h
  rcases h with ⟨i, rfl⟩ | ⟨s, rfl, hs⟩ | ⟨b, rfl⟩ | rfl
  · simp [sameB]
  · simp [sameB, o_eqs hs hs]
  · simp [sameB]
  · have e : cmp T .eq .non .non om = .ok true om := rfl
    simp [sameB, e]
theorem same_loop {T : Tb} {d : D} {ds : List D} (hd : d = .lst ds ∨ d = .tup ds) (hl : ds.length < 2 ^ 62) (st : ∀ x ∈ ds, T.call f [x, x] om = .ok (.bl true) om) : evS T (sameB f) [.val d, .val d, .no] om = .ret (.bl true) om := by
  have lp : ∀ d : D, (d = .lst ds ∨ d = .tup ds) → ∃ sl', forG T (.seq (.ite (.no (.call f [] (.cons (.ix (.v 0) (.v 2)) (.cons (.ix (.v 1) (.v 2)) .nil)))) (.seq (.ret (.k (.bl false))) .skip) .skip) .skip) (.one 2) ((List.range ds.length).map fun (k : Nat) => .int k) [.val d, .val d, .no] om = .next sl' om := by
    intro d hd
    obtain ⟨sl', om', e, ⟨_, _, rfl⟩⟩ := for_keep (T := T) (i := 2) (b := .seq (.ite (.no (.call f [] (.cons (.ix (.v 0) (.v 2)) (.cons (.ix (.v 1) (.v 2)) .nil)))) (.seq (.ret (.k (.bl false))) .skip) .skip) .skip) (f := fun k : Nat => D.int k) (fun _ sl om' => ∃ c, sl = [.val d, .val d, c] ∧ om' = om) (List.range ds.length) [] [.val d, .val d, .no] om ⟨_, rfl, rfl⟩ (fun done k hk sl om1 hI => by
      obtain ⟨c, rfl, rfl⟩ := hI
      have hk' : k < ds.length := List.mem_range.mp hk
      have hx : atI ds (k : Int) = some ds[k] := by rw [atI_nat, List.getElem?_eq_getElem hk']
      have hc := st ds[k] (List.getElem_mem hk')
      refine ⟨[.val d, .val d, .val (.int k)], om1, ?_, _, rfl, rfl⟩
      rcases hd with rfl | rfl
      · simp [x_l hx, hc]
      · simp [x_t hx, hc])
    exact ⟨sl', e⟩
  obtain ⟨sl', e⟩ := lp d hd
  have hr : ∀ om : Om, kR1 (.ok (.int (ds.length : Int)) om) = .ok ((List.range ds.length).map fun (k : Nat) => .int k) om := fun om => by
    rw [r_rng1a (by omega) (by omega), Int.toNat_natCast]
  rcases hd with rfl | rfl
  · simp [sameB, hr, e]
  · simp [sameB, hr, e]
theorem same_ok (hp : p.defs f = some ⟨2, 3, sameB f, none⟩) (hf : p.fresh f = false) : ∀ (n : Nat) (d : D), SameD n d → ∀ m, n < m → callN p wf m f [d, d] om = .ok (.bl true) om := by
  intro n
  induction n with
  | zero =>
    intro d h m hm
    obtain ⟨m, rfl⟩ : ∃ k, m = k + 1 := ⟨m - 1, by omega⟩
    exact call_ret hp rfl hf (same_flat h)
  | succ n ih =>
    intro d h m hm
    obtain ⟨m, rfl⟩ : ∃ k, m = k + 1 := ⟨m - 1, by omega⟩
    rw [SameD] at h
    rcases h with h | ⟨ds, hd, hl, h⟩
    · exact call_ret hp rfl hf (same_flat h)
    · exact call_ret hp rfl hf (same_loop hd hl fun x hx => ih x (h x hx) m (by omega))
end

/-! ### loops over a whole list -/
section
variable {T : Tb} {sl : Sl} {om : Om} {i : Nat}
theorem for_all {b : S} {α : Type} {f : α → D} (all : List α) (I : List α → Sl → Om → Prop) (h0 : I [] sl om)
    (st : ∀ done x rest, all = done ++ x :: rest → ∀ sl om, I done sl om → ∃ sl' om', evS T b (sl.set i (.val (f x))) om = .next sl' om' ∧ I (done ++ [x]) sl' om') :
    ∃ sl' om', forG T b (.one i) (all.map f) sl om = .next sl' om' ∧ I all sl' om' := by
  have key : ∀ (rest done : List α) (sl : Sl) (om : Om), all = done ++ rest → I done sl om → ∃ sl' om', forG T b (.one i) (rest.map f) sl om = .next sl' om' ∧ I all sl' om' := by
    intro rest
    induction rest with
    | nil =>
      intro done sl om e h
      rw [List.append_nil] at e
      subst e
      exact ⟨sl, om, rfl, h⟩
    | cons x rest ih =>
      intro done sl om e h
      obtain ⟨sl1, om1, e1, h1⟩ := st done x rest e sl om h
      obtain ⟨sl2, om2, e2, h2⟩ := ih (done ++ [x]) sl1 om1 (by rw [e, List.append_assoc]; rfl) h1
      exact ⟨sl2, om2, by rw [List.map_cons, f_cons, e1, f_n, e2], h2⟩
  exact key all [] sl om rfl h0
theorem for_allT {b : S} {α : Type} {is : List Nat} {f : α → List D} (hf : ∀ x, (f x).length = is.length) (all : List α) (I : List α → Sl → Om → Prop) (h0 : I [] sl om)
    (st : ∀ done x rest, all = done ++ x :: rest → ∀ sl om, I done sl om → ∃ sl' om', evS T b (sets sl is (f x)) om = .next sl' om' ∧ I (done ++ [x]) sl' om') :
    ∃ sl' om', forG T b (.many is) (all.map fun x => .tup (f x)) sl om = .next sl' om' ∧ I all sl' om' := by
  have key : ∀ (rest done : List α) (sl : Sl) (om : Om), all = done ++ rest → I done sl om → ∃ sl' om', forG T b (.many is) (rest.map fun x => .tup (f x)) sl om = .next sl' om' ∧ I all sl' om' := by
    intro rest
    induction rest with
    | nil =>
      intro done sl om e h
      rw [List.append_nil] at e
      subst e
      exact ⟨sl, om, rfl, h⟩
    | cons x rest ih =>
      intro done sl om e h
      obtain ⟨sl1, om1, e1, h1⟩ := st done x rest e sl om h
      obtain ⟨sl2, om2, e2, h2⟩ := ih (done ++ [x]) sl1 om1 (by rw [e, List.append_assoc]; rfl) h1
      exact ⟨sl2, om2, by rw [List.map_cons, f_consT (hf x), e1, f_n, e2], h2⟩
  exact key all [] sl om rfl h0
end
theorem flat_le {α : Type} {b : Nat} : ∀ {l : List (List α)}, (∀ x ∈ l, x.length ≤ b) → l.flatten.length ≤ l.length * b
  | [], _ => by simp
  | x :: l, h => by
    have h1 := h x List.mem_cons_self
    have h2 := flat_le (l := l) fun y hy => h y (List.mem_cons_of_mem _ hy)
    rw [List.flatten_cons, List.length_append, List.length_cons, Nat.succ_mul]
    omega
theorem sum_le {b : Nat} : ∀ {l : List Str}, (∀ x ∈ l, x.length ≤ b) → (l.map Str.length).sum ≤ l.length * b
  | [], _ => by simp
  | x :: l, h => by
    have h1 := h x List.mem_cons_self
    have h2 := sum_le (l := l) fun y hy => h y (List.mem_cons_of_mem _ hy)
    rw [List.map_cons, List.sum_cons, List.length_cons, Nat.succ_mul]
    omega
theorem joinL_len (S : List Nat) : ∀ l : List (List Nat), (TL.joinL S l).length ≤ (l.map List.length).sum + l.length * S.length
  | [] => by simp [TL.joinL]
  | [p] => by simp [TL.joinL]
  | p :: q :: r => by
    have h := joinL_len S (q :: r)
    simp only [TL.joinL, List.length_append, List.map_cons, List.sum_cons, List.length_cons, Nat.succ_mul] at h ⊢
    omega
theorem join_len (y : Str) (ws : List Str) : (Txt.join y ws).length ≤ (ws.map Str.length).sum + ws.length * y.length := by
  rw [TL.len_tl, TL.join_eq, TL.tl_join]
  have h := joinL_len (TL.tl y) (ws.map TL.tl)
  rw [List.map_map, List.length_map] at h
  have e : ws.map (List.length ∘ TL.tl) = ws.map Str.length := List.map_congr_left fun w _ => (TL.len_tl w).symm
  rw [e, ← TL.len_tl] at h
  exact h
/-! ### dots -/
def dots (k : Nat) : List Str := List.replicate k (Str.ofString ".")
theorem o_dots {T : Tb} {om : Om} {k : Nat} (h : k ≤ 1000) : bop T .mul (.lst [.str (Str.ofString ".")]) (.int (k : Int)) om = .ok (.lst (strL (dots k))) om := by
  rw [o_mull, if_pos ⟨by omega, by omega, by simp; omega⟩, Int.toNat_natCast]
  congr 2
  unfold strL dots
  rw [List.map_replicate]
  induction k with
  | zero => rfl
  | succ k ih =>
    rw [List.replicate_succ, List.replicate_succ, List.flatten_cons, ih (by omega)]
    rfl
theorem dots_ok {k : Nat} : ∀ w ∈ dots k, w = Str.ofString "." := fun w h => (List.mem_replicate.mp h).2

/-! ### data that may be laid out -/
def Lay (n : Nat) (d : D) : Prop := ∃ q, toP d = some q ∧ PyData.canLay0 q = true ∧ PyData.depth q ≤ n
theorem Lay.up {n k : Nat} {d : D} (h : Lay n d) (hk : n ≤ k) : Lay k d := by
  obtain ⟨q, h1, h2, h3⟩ := h
  exact ⟨q, h1, h2, by omega⟩
theorem lays {n : Nat} : ∀ {ds : List D}, (∀ x ∈ ds, Lay n x) → ∃ qs, toPs ds = some qs ∧ PyData.canLayAll0 qs = true ∧ PyData.depthAll qs ≤ n
  | [], _ => ⟨[], rfl, rfl, Nat.zero_le _⟩
  | d :: ds, h => by
    obtain ⟨q, h1, h2, h3⟩ := h d List.mem_cons_self
    obtain ⟨qs, k1, k2, k3⟩ := lays (ds := ds) fun x hx => h x (List.mem_cons_of_mem _ hx)
    refine ⟨q :: qs, ?_, ?_, ?_⟩
    · rw [toPs, h1, k1]
    · show (PyData.canLay0 q && PyData.canLayAll0 qs) = true
      rw [h2, k2]
      rfl
    · show max (PyData.depth q) (PyData.depthAll qs) ≤ n
      omega
theorem lay_tup {n : Nat} {ds : List D} (h : ∀ x ∈ ds, Lay n x) : Lay (n + 1) (.tup ds) := by
  obtain ⟨qs, k1, k2, k3⟩ := lays h
  exact ⟨.tuple qs, by rw [toP, k1]; rfl, k2, Nat.succ_le_succ k3⟩
theorem lay_lst {n : Nat} {ds : List D} (h : ∀ x ∈ ds, Lay n x) : Lay (n + 1) (.lst ds) := by
  obtain ⟨qs, k1, k2, k3⟩ := lays h
  exact ⟨.list qs, by rw [toP, k1]; rfl, k2, Nat.succ_le_succ k3⟩
theorem lay_int {n : Nat} {i : Int} : Lay n (.int i) := ⟨.int i, rfl, rfl, Nat.zero_le _⟩
theorem lay_str {n : Nat} {t : Str} (h : PyData.strOk t = true) : Lay n (.str t) := ⟨.str t, rfl, h, Nat.zero_le _⟩
theorem inD_some {n : Nat} {x : D} {ys : List D} (hx : Lay n x) (hy : ∀ y ∈ ys, Lay n y) (hn : n < 64) : ∃ b, inD x ys = some b := by
  obtain ⟨q, h1, h2, h3⟩ := hx
  obtain ⟨qs, k1, k2, k3⟩ := lays hy
  unfold inD
  rw [h1, k1]
  have e : (SeqAt.shaped q && SeqAt.shaped (.list qs)) = true := by
    have e1 : SeqAt.shaped q = true := by
      unfold SeqAt.shaped
      rw [h2, decide_eq_true (by omega)]
      rfl
    have e2 : SeqAt.shaped (.list qs) = true := by
      show (PyData.canLayAll0 qs && decide (PyData.depthAll qs + 1 ≤ 64)) = true
      rw [k2, decide_eq_true (by omega)]
      rfl
    rw [e1, e2]
    rfl
  exact ⟨_, if_pos e⟩
theorem o_nin {T : Tb} {x : D} {ys : List D} {b : Bool} {om : Om} (h : inD x ys = some b) : cmp T .nin x (.lst ys) om = .ok (!b) om := by
  show opt ((inD x ys).map (!·)) om = _
  rw [h]
  rfl
theorem o_inn {T : Tb} {x : D} {ys : List D} {b : Bool} {om : Om} (h : inD x ys = some b) : cmp T .inn x (.lst ys) om = .ok b om := by
  show opt (inD x ys) om = _
  rw [h]
  rfl
end PD

set_option Elab.async false
set_option linter.all false
set_option maxRecDepth 100000
set_option maxHeartbeats 400000
/-! K00M: Euclid's turns, Fibonacci, lowest terms. Plain. -/
namespace K00
def es : Nat → Nat → Nat → Nat
  | 0, _, _ => 0
  | f + 1, a, b => if b = 0 then 0 else es f b (a % b) + 1
def fib : Nat → Nat
  | 0 => 0
  | 1 => 1
  | n + 2 => fib (n + 1) + fib n
theorem fib_pos : ∀ n, 0 < fib (n + 1)
  | 0 => by decide
  | n + 1 => by
    have := fib_pos n
    show 0 < fib (n + 1) + fib n
    omega
theorem fib_le : ∀ n, fib n ≤ fib (n + 1)
  | 0 => by decide
  | n + 1 => by
    show fib (n + 1) ≤ fib (n + 1) + fib n
    omega
theorem fib_mono {m n : Nat} (h : m ≤ n) : fib m ≤ fib n := by
  induction h with
  | refl => exact Nat.le_refl _
  | step _ ih => exact Nat.le_trans ih (fib_le _)
theorem fib_mul (m : Nat) : ∀ n, fib m * fib (n + 1) ≤ fib (m + n) ∧ fib m * fib (n + 2) ≤ fib (m + n + 1)
  | 0 => by
    refine ⟨?_, ?_⟩
    · show fib m * 1 ≤ fib m
      omega
    · show fib m * (1 + 0) ≤ fib (m + 1)
      have := fib_le m
      omega
  | n + 1 => by
    obtain ⟨h1, h2⟩ := fib_mul m n
    refine ⟨h2, ?_⟩
    show fib m * (fib (n + 2) + fib (n + 1)) ≤ fib (m + n + 1) + fib (m + n)
    rw [Nat.mul_add]
    omega
theorem fib_lt : ∀ n, fib n < 2 ^ n ∧ fib (n + 1) < 2 ^ (n + 1)
  | 0 => by decide
  | n + 1 => by
    obtain ⟨h1, h2⟩ := fib_lt n
    refine ⟨h2, ?_⟩
    show fib (n + 1) + fib n < 2 ^ (n + 1 + 1)
    rw [Nat.pow_succ 2 (n + 1)]
    rw [Nat.pow_succ] at h2 ⊢
    omega
/-- the state after k turns: (a, b) -/
def eu : Nat → Nat → Nat → Nat × Nat
  | 0, a, b => (a, b)
  | k + 1, a, b => if b = 0 then (a, 0) else eu k b (a % b)
theorem eu_gcd : ∀ k a b, Nat.gcd (eu k a b).1 (eu k a b).2 = Nat.gcd a b
  | 0, _, _ => rfl
  | k + 1, a, b => by
    unfold eu
    split
    · rename_i h
      rw [h]
    · rw [eu_gcd k b (a % b), Nat.gcd_comm b (a % b), ← Nat.gcd_rec, Nat.gcd_comm]
/-- not yet at 0 after k turns: b was large -/
theorem eu_fib : ∀ k a b, (eu k a b).2 ≠ 0 → fib (k + 1) ≤ b ∧ (0 < k → fib (k + 1) ≤ b)
  | 0, a, b, h => ⟨Nat.pos_of_ne_zero h, fun z => absurd z (by decide)⟩
  | k + 1, a, b, h => by
    unfold eu at h
    split at h
    · exact absurd rfl h
    · rename_i hb
      have key : fib (k + 2) ≤ b := by
        cases k with
        | zero => exact Nat.pos_of_ne_zero hb
        | succ k =>
          have h0 := h
          unfold eu at h
          split at h
          · exact absurd rfl h
          · rename_i hr
            have r1 : fib (k + 2) ≤ a % b := (eu_fib (k + 1) b (a % b) h0).1
            have r2 : fib (k + 1) ≤ b % (a % b) := (eu_fib k (a % b) (b % (a % b)) h).1
            have hlt : a % b < b := Nat.mod_lt _ (Nat.pos_of_ne_zero hb)
            have hd := Nat.div_add_mod b (a % b)
            have hq : 0 < b / (a % b) := Nat.div_pos (Nat.le_of_lt hlt) (Nat.pos_of_ne_zero hr)
            have hm : (a % b) * 1 ≤ (a % b) * (b / (a % b)) := Nat.mul_le_mul_left _ hq
            show fib (k + 2) + fib (k + 1) ≤ b
            generalize b % (a % b) = u at *
            generalize (a % b) * (b / (a % b)) = v at *
            generalize a % b = r at *
            omega
      exact ⟨key, fun _ => key⟩
theorem eu_done {k a b : Nat} (h : b < fib (k + 1)) : (eu k a b).2 = 0 := by
  cases q : decide ((eu k a b).2 = 0) with
  | true => exact of_decide_eq_true q
  | false => exact absurd (eu_fib k a b (of_decide_eq_false q)).1 (by omega)
theorem eu_res {k a b : Nat} (h : b < fib (k + 1)) : eu k a b = (Nat.gcd a b, 0) := by
  have e := eu_done (a := a) h
  have g := eu_gcd k a b
  rw [e, Nat.gcd_zero_right] at g
  exact Prod.ext g e
theorem fib_lt_succ {n : Nat} (h : 2 ≤ n) : fib n < fib (n + 1) := by
  obtain ⟨m, rfl⟩ : ∃ m, n = m + 2 := ⟨n - 2, by omega⟩
  have := fib_pos m
  show fib (m + 2) < fib (m + 2) + fib (m + 1)
  omega
theorem prod_le {x y n : Nat} (hx : x ≤ fib (n + 1)) (hy : y ≤ fib (n + 1)) : x * y ≤ fib (n + 1 + n) :=
  Nat.le_trans (Nat.mul_le_mul hx hy) (fib_mul (n + 1) n).1
theorem prod_bound {x y : Nat} (hx : x ≤ fib 1510) (hy : y ≤ fib 1510) : x * y < fib 4001 :=
  Nat.lt_of_le_of_lt (prod_le (n := 1509) hx hy) (Nat.lt_of_le_of_lt (fib_mono (m := 1509 + 1 + 1509) (n := 4000) (by omega)) (fib_lt_succ (n := 4000) (by omega)))
/-! ### lowest terms -/
/-- n / d in lowest terms -/
def nrm (n d : Int) : Int × Int := (n / (Nat.gcd n.natAbs d.natAbs : Nat), d / (Nat.gcd n.natAbs d.natAbs : Nat))
theorem nrm_scale {k n d : Int} (hk : 0 < k) : nrm (k * n) (k * d) = nrm n d := by
  obtain ⟨m, rfl⟩ := Int.eq_ofNat_of_zero_le (Int.le_of_lt hk)
  unfold nrm
  rw [Int.natAbs_mul, Int.natAbs_mul, Int.natAbs_natCast, Nat.gcd_mul_left]
  rw [Int.natCast_mul, Int.mul_ediv_mul_of_pos _ _ hk, Int.mul_ediv_mul_of_pos _ _ hk]
theorem gcd_pos' {n d : Int} (hd : 0 < d) : 0 < Nat.gcd n.natAbs d.natAbs := Nat.gcd_pos_of_pos_right _ (by omega)
theorem nrm_mul {n d : Int} : (nrm n d).1 * (Nat.gcd n.natAbs d.natAbs : Nat) = n ∧ (nrm n d).2 * (Nat.gcd n.natAbs d.natAbs : Nat) = d := by
  refine ⟨Int.ediv_mul_cancel (Int.ofNat_dvd_left.mpr (Nat.gcd_dvd_left _ _)), Int.ediv_mul_cancel (Int.ofNat_dvd_left.mpr (Nat.gcd_dvd_right _ _))⟩
theorem nrm_pos {n d : Int} (hd : 0 < d) : 0 < (nrm n d).2 := by
  have h := (nrm_mul (n := n) (d := d)).2
  have g := gcd_pos' (n := n) hd
  generalize (Nat.gcd n.natAbs d.natAbs) = k at h g
  generalize (nrm n d).2 = x at h ⊢
  cases Int.lt_or_le 0 x with
  | inl z => exact z
  | inr z =>
    have : x * (k : Int) ≤ 0 := Int.mul_nonpos_of_nonpos_of_nonneg z (by omega)
    omega
end K00

set_option Elab.async false
set_option linter.all false
set_option maxRecDepth 100000
set_option maxHeartbeats 1000000
/-! K00L: what the law computes, in plain Lean. -/
namespace K00
open PySem L2 PD
section
variable {wf m : Nat} {om r : Om}
theorem cast_mod (x y : Nat) : ((x : Int) % (y : Int)) = ((x % y : Nat) : Int) := rfl
theorem common_loop {T : Tb} : ∀ (k f x y : Nat), (eu k x y).2 = 0 → k < f → whlG T (.v 1) (.seq (.par 0 1 (.v 1) (.op .mod (.v 0) (.v 1))) .skip) f [.val (.int (x : Int)), .val (.int (y : Int))] om = .next [.val (.int (Nat.gcd x y : Nat)), .val (.int 0)] om := by
  intro k
  induction k with
  | zero =>
    intro f x y h hf
    obtain ⟨f, rfl⟩ : ∃ j, f = j + 1 := ⟨f - 1, by omega⟩
    have hy : y = 0 := h
    subst hy
    rw [w_step, r_v rfl, r_tr4, Nat.gcd_zero_right]
    rfl
  | succ k ih =>
    intro f x y h hf
    obtain ⟨f, rfl⟩ : ∃ j, f = j + 1 := ⟨f - 1, by omega⟩
    by_cases hy : y = 0
    · subst hy
      rw [w_step, r_v rfl, r_tr4, Nat.gcd_zero_right]
      rfl
    · unfold eu at h
      rw [if_neg hy] at h
      have hb : ((y : Int) != 0) = true := by
        rw [bne_iff_ne]
        omega
      have hp : (0 : Int) < (y : Int) := by omega
      rw [w_step, r_v rfl, r_tr4, hb, w_t, z_seq, z_par, r_v rfl, z_par1, r_op, r_v rfl, r_op1, r_v rfl, r_op2, o_modi hp, z_par2, z_seq1, z_skip, w_n]
      simp only [List.set_cons_succ, List.set_cons_zero]
      rw [cast_mod, ih f y (x % y) h (by omega), Nat.gcd_comm y (x % y), ← Nat.gcd_rec, Nat.gcd_comm]
theorem common {x y : Nat} (hm : 0 < m) (hwf : 4001 ≤ wf) (hy : y < fib 4001) : callN prog wf m 8 [.int (x : Int), .int (y : Int)] om = .ok (.int (Nat.gcd x y : Nat)) om := by
  obtain ⟨m, rfl⟩ : ∃ j, m = j + 1 := ⟨m - 1, by omega⟩
  refine call_ret (d := ⟨2, 2, B_common, none⟩) rfl rfl rfl ?_
  have hs : slots ⟨2, 2, B_common, none⟩ [.int (x : Int), .int (y : Int)] = [.val (.int (x : Int)), .val (.int (y : Int))] := rfl
  rw [hs]
  unfold B_common
  rw [z_seq, z_whl, t_wf, common_loop (T := tab prog wf m) 4000 wf x y (eu_done hy) (by omega), z_seq1, z_seq, z_ret, r_v rfl, z_ret1, z_seq2]
theorem abs_nat (n : Int) : (if n < 0 then -n else n) = (n.natAbs : Int) := by omega
theorem fib_2 : fib 4001 < 2 ^ 4001 := (fib_lt 4001).1
theorem div_ok {n : Int} {g : Nat} (h : 0 < g) (hg : g < fib 4001) : CDivW n (g : Int) := cdivW_s (b := 4001) (by omega) (by rw [Int.natAbs_natCast]; exact Nat.lt_trans hg fib_2) (by decide) (by decide)
theorem gcd_le {n d : Int} (hd : 0 < d) : Nat.gcd n.natAbs d.natAbs ≤ d.natAbs := Nat.le_of_dvd (by omega) (Nat.gcd_dvd_right _ _)
/-- a fraction of the program -/
def R (n d : Int) : D := .obj 0 [.int (nrm n d).1, .int (nrm n d).2]
def Pq (n d : Int) : D := .tup [.int (nrm n d).1, .int (nrm n d).2]
theorem init {n d : Int} (hm : 1 < m) (hwf : 4001 ≤ wf) (hd : 0 < d) (hb : d.natAbs < fib 4001) : initN prog wf m 0 [.int n, .int d] om = .ok [.int (nrm n d).1, .int (nrm n d).2] om := by
  obtain ⟨m, rfl⟩ : ∃ j, m = j + 1 := ⟨m - 1, by omega⟩
  have hc : callN prog wf m 8 [.int (n.natAbs : Int), .int d] om = .ok (.int (Nat.gcd n.natAbs d.natAbs : Nat)) om := by
    have h := common (om := om) (m := m) (x := n.natAbs) (by omega) hwf hb
    rw [Int.natAbs_of_nonneg (Int.le_of_lt hd)] at h
    exact h
  have hg := gcd_pos' (n := n) hd
  have hgl := gcd_le (n := n) hd
  have hdv : ∀ z : Int, CDivW z (Nat.gcd n.natAbs d.natAbs : Nat) := fun z => div_ok hg (by omega)
  refine init_next (c := 0) (d := ⟨3, 4, B_Ratio_init, some 0⟩) (sl := [.newo 0 [.int (nrm n d).1, .int (nrm n d).2], .val (.int n), .val (.int d), .val (.int (Nat.gcd n.natAbs d.natAbs : Nat))]) rfl rfl rfl ?_ rfl
  have hs : (Cell.newo 0 [] :: (([.int n, .int d] : List D).map .val ++ List.replicate (4 - 3) .no)) = [.newo 0 [], .val (.int n), .val (.int d), .no] := rfl
  show evS (tab prog wf m) B_Ratio_init (Cell.newo 0 [] :: (([.int n, .int d] : List D).map .val ++ List.replicate (4 - 3) .no)) om = _
  rw [hs]
  unfold B_Ratio_init
  rw [z_seq, z_ite, r_cm, r_v rfl, r_cm1, r_k, r_cm2, o_le, decide_eq_false (by omega), r_bl, r_tr1, z_ite2, z_skip, z_seq1, z_seq, z_set, r_call, r_l, r_bi, r_v rfl, r_bi1, b_abs, abs_nat, r_l1, r_l, r_v rfl, r_l1, r_l0, r_l2, r_l2, r_call1]
  rw [show (tab prog wf m).call 8 ([.int (n.natAbs : Int), .int d] ++ []) om = callN prog wf m 8 [.int (n.natAbs : Int), .int d] om from rfl, hc, z_set1, z_seq1]
  simp only [List.set_cons_succ, List.set_cons_zero]
  rw [z_seq, z_setF, r_op, r_v rfl, r_op1, r_v rfl, r_op2, o_divi (hdv n), z_setF1 (ds := []) (j := 0) rfl rfl, z_seq1]
  simp only [List.set_cons_succ, List.set_cons_zero]
  rw [z_seq, z_setF, r_op, r_v rfl, r_op1, r_v rfl, r_op2, o_divi (hdv d), z_setF1 (ds := [.int (nrm n d).1]) (j := 1) rfl rfl, z_seq1, z_skip]
  rfl
theorem init_bad {n d : Int} (hm : 0 < m) (hd : d ≤ 0) : initN prog wf m 0 [.int n, .int d] om = .exc 3 [] om := by
  obtain ⟨m, rfl⟩ : ∃ j, m = j + 1 := ⟨m - 1, by omega⟩
  refine init_exc (c := 0) (c' := 3) (d := ⟨3, 4, B_Ratio_init, some 0⟩) (sl := [.newo 0 [], .val (.int n), .val (.int d), .no]) rfl rfl rfl ?_
  show evS (tab prog wf m) B_Ratio_init [.newo 0 [], .val (.int n), .val (.int d), .no] om = _
  have hr : evS (tab prog wf m) (.rais 3 .nil) [.newo 0 [], .val (.int n), .val (.int d), .no] om = .exc 3 [] [.newo 0 [], .val (.int n), .val (.int d), .no] om := by
    rw [evS, evL]
    rfl
  unfold B_Ratio_init
  rw [z_seq, z_ite, r_cm, r_v rfl, r_cm1, r_k, r_cm2, o_le, decide_eq_true hd, r_bl, r_tr1, z_ite1, z_seq, hr, z_seq6, z_seq6]
theorem mk {n d : Int} (hm : 1 < m) (hwf : 4001 ≤ wf) (hd : 0 < d) (hb : d.natAbs < fib 4001) : kMk (tab prog wf m) (.ok [.int n, .int d] om) 0 0 [] = .ok (R n d) om := by
  rw [r_mk1]
  rw [show (tab prog wf m).init 0 ([.int n, .int d] ++ []) om = initN prog wf m 0 [.int n, .int d] om from rfl, init hm hwf hd hb, r_mk2]
  rfl
theorem less_loop {T : Tb} {n d : Int} : ∀ (ds : List D) (x y : Nat) (c : Cell), (eu ds.length x y).2 = 0 → ∃ c', forG T (.seq (.ite (.cm .eq (.v 3) (.k (.int 0))) (.seq .brk .skip) .skip) (.seq (.par 2 3 (.v 3) (.op .mod (.bi .int (.v 2)) (.v 3))) .skip)) (.one 4) ds [.val (.int n), .val (.int d), .val (.int (x : Int)), .val (.int (y : Int)), c] om = .next [.val (.int n), .val (.int d), .val (.int (Nat.gcd x y : Nat)), .val (.int 0), c'] om
  | [], x, y, c, h => by
    have hy : y = 0 := h
    subst hy
    exact ⟨c, by rw [f_nil, Nat.gcd_zero_right]; rfl⟩
  | e :: ds, x, y, c, h => by
    by_cases hy : y = 0
    · subst hy
      refine ⟨.val e, ?_⟩
      rw [f_cons]
      simp only [List.set_cons_succ, List.set_cons_zero]
      rw [z_seq, z_ite, r_cm, r_v rfl, r_cm1, r_k, r_cm2, o_eqi, decide_eq_true (by rfl), r_bl, r_tr1, z_ite1, z_seq, z_brk, z_seq4, z_seq4, f_b, Nat.gcd_zero_right]
      rfl
    · rw [List.length_cons] at h
      unfold eu at h
      rw [if_neg hy] at h
      have hp : (0 : Int) < (y : Int) := by omega
      obtain ⟨c', ih⟩ := less_loop (T := T) (n := n) (d := d) ds y (x % y) (.val e) h
      refine ⟨c', ?_⟩
      rw [f_cons]
      simp only [List.set_cons_succ, List.set_cons_zero]
      rw [z_seq, z_ite, r_cm, r_v rfl, r_cm1, r_k, r_cm2, o_eqi, decide_eq_false (by omega), r_bl, r_tr1, z_ite2, z_skip, z_seq1, z_seq, z_par, r_v rfl, z_par1, r_op, r_bi, r_v rfl, r_bi1, b_inti, r_op1, r_v rfl, r_op2, o_modi hp, z_par2, z_seq1, z_skip, f_n]
      simp only [List.set_cons_succ, List.set_cons_zero]
      rw [cast_mod, ih, Nat.gcd_comm y (x % y), ← Nat.gcd_rec, Nat.gcd_comm]
theorem less {n d : Int} (hm : 0 < m) (hd : 0 < d) (hb : d.natAbs < fib 4001) : callN prog wf m 12 [.int n, .int d] om = .ok (Pq n d) om := by
  obtain ⟨m, rfl⟩ : ∃ j, m = j + 1 := ⟨m - 1, by omega⟩
  have hg := gcd_pos' (n := n) hd
  have hgl := gcd_le (n := n) hd
  have hdv : ∀ z : Int, CDivW z (Nat.gcd n.natAbs d.natAbs : Nat) := fun z => div_ok hg (by omega)
  obtain ⟨c', lp⟩ := less_loop (T := tab prog wf m) (om := om) (n := n) (d := d) ((List.range 4000).map fun (k : Nat) => .int k) n.natAbs d.natAbs .no (by rw [List.length_map, List.length_range]; exact eu_done hb)
  rw [Int.natAbs_of_nonneg (Int.le_of_lt hd)] at lp
  refine call_ret (d := ⟨2, 5, B_Lless, none⟩) rfl rfl rfl ?_
  have hs : slots ⟨2, 5, B_Lless, none⟩ [.int n, .int d] = [.val (.int n), .val (.int d), .no, .no, .no] := rfl
  have hr : kR1 (.ok (.int 4000) om) = .ok ((List.range 4000).map fun (k : Nat) => .int k) om := r_rng1a (by decide) (by decide)
  rw [hs]
  unfold B_Lless
  rw [z_seq, z_set, r_bi, r_v rfl, r_bi1, b_abs, abs_nat, z_set1, z_seq1]
  simp only [List.set_cons_succ, List.set_cons_zero]
  rw [z_seq, z_set, r_v rfl, z_set1, z_seq1]
  simp only [List.set_cons_succ, List.set_cons_zero]
  rw [z_seq, z_fo, r_rng1, r_k, hr, z_fo1, lp, z_seq1, z_seq, z_ret, r_tup, r_l, r_op, r_v rfl, r_op1, r_v rfl, r_op2, o_divi (hdv n), r_l1, r_l, r_op, r_v rfl, r_op1, r_v rfl, r_op2, o_divi (hdv d), r_l1, r_l0, r_l2, r_l2, r_tup1, if_pos (by simp), z_ret1, z_seq2]
  rfl

/-! ### sizes: a pair of the law -/
def Ok1 (n d : Int) : Prop := 0 < d ∧ d.natAbs ≤ fib 1510 ∧ n.natAbs ≤ fib 1510
theorem nrm_le {n d : Int} (hd : 0 < d) : (nrm n d).2.natAbs ≤ d.natAbs ∧ (nrm n d).1.natAbs ≤ n.natAbs := by
  have h := nrm_mul (n := n) (d := d)
  have g := gcd_pos' (n := n) hd
  generalize (Nat.gcd n.natAbs d.natAbs) = k at h g
  obtain ⟨h1, h2⟩ := h
  have e1 : d.natAbs = (nrm n d).2.natAbs * k := by rw [← h2, Int.natAbs_mul, Int.natAbs_natCast]; rw [h2]
  have e2 : n.natAbs = (nrm n d).1.natAbs * k := by rw [← h1, Int.natAbs_mul, Int.natAbs_natCast]; rw [h1]
  refine ⟨?_, ?_⟩
  · rw [e1]
    exact Nat.le_mul_of_pos_right _ g
  · rw [e2]
    exact Nat.le_mul_of_pos_right _ g
theorem Ok1.nrm {n d : Int} (h : Ok1 n d) : Ok1 (nrm n d).1 (nrm n d).2 := by
  obtain ⟨h1, h2, h3⟩ := h
  obtain ⟨l1, l2⟩ := nrm_le (n := n) h1
  exact ⟨nrm_pos h1, by omega, by omega⟩
theorem Ok1.den {n d : Int} (h : Ok1 n d) : d.natAbs < 2 ^ 1511 := by
  have := (fib_lt 1510).1
  have h2 : 2 ^ 1510 < 2 ^ 1511 := Nat.pow_lt_pow_right (by decide) (by decide)
  have := h.2.1
  omega
theorem Ok1.num {n d : Int} (h : Ok1 n d) : n.natAbs < 2 ^ 1511 := by
  have := (fib_lt 1510).1
  have h2 : 2 ^ 1510 < 2 ^ 1511 := Nat.pow_lt_pow_right (by decide) (by decide)
  have := h.2.2
  omega
theorem mul1 {a b : Int} (ha : a.natAbs < 2 ^ 1511) (hb : b.natAbs < 2 ^ 1511) : CMulW a b := cmulW_s ha hb (by decide) (by decide) (by decide)
theorem den2 {a b : Int} (ha : 0 < a) (hb : 0 < b) (h1 : a.natAbs ≤ fib 1510) (h2 : b.natAbs ≤ fib 1510) : 0 < a * b ∧ (a * b).natAbs < fib 4001 :=
  ⟨Int.mul_pos ha hb, by rw [Int.natAbs_mul]; exact prod_bound h1 h2⟩
section
variable {wf m : Nat} {om r : Om} {n d a b : Int}
theorem fld0 {k : D} {T : Tb} : kFld (.ok (.obj 0 [.int a, k]) om) 0 0 = .ok (.int a) om := r_fldo rfl
theorem fld1 {k : D} {T : Tb} : kFld (.ok (.obj 0 [k, .int a]) om) 0 1 = .ok (.int a) om := r_fldo rfl
theorem x0 {x y : D} : ixD (.tup [x, y]) (.int 0) om = .ok x om := x_t atI0
theorem x1 {x y : D} : ixD (.tup [x, y]) (.int 1) om = .ok y om := x_t atI1
/-- the def's own work on tuples -/
theorem plus (hm : 1 < m) (h1 : Ok1 n d) (h2 : Ok1 a b) : callN prog wf m 13 [.tup [.int n, .int d], .tup [.int a, .int b]] om = .ok (Pq (n * b + a * d) (d * b)) om := by
  obtain ⟨m, rfl⟩ : ∃ j, m = j + 1 := ⟨m - 1, by omega⟩
  obtain ⟨p1, p2⟩ := den2 h1.1 h2.1 h1.2.1 h2.2.1
  have hl := less (wf := wf) (m := m) (om := om) (n := n * b + a * d) (by omega) p1 p2
  refine call_ret (d := ⟨2, 2, B_Lplus, none⟩) rfl rfl rfl ?_
  have hs : slots ⟨2, 2, B_Lplus, none⟩ [.tup [.int n, .int d], .tup [.int a, .int b]] = [.val (.tup [.int n, .int d]), .val (.tup [.int a, .int b])] := rfl
  rw [hs]
  simp [B_Lplus, x0, x1, o_muli (mul1 h1.num h2.den), o_muli (mul1 h2.num h1.den), o_muli (mul1 h1.den h2.den), hl]
theorem minus (hm : 1 < m) (h1 : Ok1 n d) (h2 : Ok1 a b) : callN prog wf m 14 [.tup [.int n, .int d], .tup [.int a, .int b]] om = .ok (Pq (n * b - a * d) (d * b)) om := by
  obtain ⟨m, rfl⟩ : ∃ j, m = j + 1 := ⟨m - 1, by omega⟩
  obtain ⟨p1, p2⟩ := den2 h1.1 h2.1 h1.2.1 h2.2.1
  have hl := less (wf := wf) (m := m) (om := om) (n := n * b - a * d) (by omega) p1 p2
  refine call_ret (d := ⟨2, 2, B_Lminus, none⟩) rfl rfl rfl ?_
  have hs : slots ⟨2, 2, B_Lminus, none⟩ [.tup [.int n, .int d], .tup [.int a, .int b]] = [.val (.tup [.int n, .int d]), .val (.tup [.int a, .int b])] := rfl
  rw [hs]
  simp [B_Lminus, x0, x1, o_muli (mul1 h1.num h2.den), o_muli (mul1 h2.num h1.den), o_muli (mul1 h1.den h2.den), hl]
theorem times (hm : 1 < m) (h1 : Ok1 n d) (h2 : Ok1 a b) : callN prog wf m 15 [.tup [.int n, .int d], .tup [.int a, .int b]] om = .ok (Pq (n * a) (d * b)) om := by
  obtain ⟨m, rfl⟩ : ∃ j, m = j + 1 := ⟨m - 1, by omega⟩
  obtain ⟨p1, p2⟩ := den2 h1.1 h2.1 h1.2.1 h2.2.1
  have hl := less (wf := wf) (m := m) (om := om) (n := n * a) (by omega) p1 p2
  refine call_ret (d := ⟨2, 2, B_Ltimes, none⟩) rfl rfl rfl ?_
  have hs : slots ⟨2, 2, B_Ltimes, none⟩ [.tup [.int n, .int d], .tup [.int a, .int b]] = [.val (.tup [.int n, .int d]), .val (.tup [.int a, .int b])] := rfl
  rw [hs]
  simp [B_Ltimes, x0, x1, o_muli (mul1 h1.num h2.num), o_muli (mul1 h1.den h2.den), hl]
theorem below (hm : 0 < m) (h1 : Ok1 n d) (h2 : Ok1 a b) : callN prog wf m 16 [.tup [.int n, .int d], .tup [.int a, .int b]] om = .ok (.bl (decide (n * b < a * d))) om := by
  obtain ⟨m, rfl⟩ : ∃ j, m = j + 1 := ⟨m - 1, by omega⟩
  refine call_ret (d := ⟨2, 2, B_Lbelow, none⟩) rfl rfl rfl ?_
  have hs : slots ⟨2, 2, B_Lbelow, none⟩ [.tup [.int n, .int d], .tup [.int a, .int b]] = [.val (.tup [.int n, .int d]), .val (.tup [.int a, .int b])] := rfl
  rw [hs]
  simp [B_Lbelow, x0, x1, o_muli (mul1 h1.num h2.den), o_muli (mul1 h2.num h1.den)]
/-- the program's own work -/
theorem add (hm : 2 < m) (hwf : 4001 ≤ wf) (h1 : Ok1 n d) (h2 : Ok1 a b) : callN prog wf m 2 [.obj 0 [.int n, .int d], .obj 0 [.int a, .int b]] om = .ok (R (n * b + a * d) (d * b)) om := by
  obtain ⟨m, rfl⟩ : ∃ j, m = j + 1 := ⟨m - 1, by omega⟩
  obtain ⟨p1, p2⟩ := den2 h1.1 h2.1 h1.2.1 h2.2.1
  have hl := mk (wf := wf) (m := m) (om := om) (n := n * b + a * d) (by omega) hwf p1 p2
  refine call_ret (d := ⟨2, 2, B_Ratio_add, none⟩) rfl rfl rfl ?_
  have hs : slots ⟨2, 2, B_Ratio_add, none⟩ [.obj 0 [.int n, .int d], .obj 0 [.int a, .int b]] = [.val (.obj 0 [.int n, .int d]), .val (.obj 0 [.int a, .int b])] := rfl
  rw [hs]
  unfold B_Ratio_add
  rw [z_seq, z_ret, r_mk]
  simp only [r_l, r_op, r_fld, r_v (i := 0) (sl := [Cell.val (.obj 0 [.int n, .int d]), .val (.obj 0 [.int a, .int b])]) rfl, r_v (i := 1) (sl := [Cell.val (.obj 0 [.int n, .int d]), .val (.obj 0 [.int a, .int b])]) rfl, fld0 (T := tab prog wf m), fld1 (T := tab prog wf m), r_op1, r_op2, o_muli (mul1 h1.num h2.den), o_muli (mul1 h2.num h1.den), o_muli (mul1 h1.den h2.den), o_addi, r_l1, r_l0, r_l2]
  rw [hl, z_ret1, z_seq2]

theorem sub (hm : 2 < m) (hwf : 4001 ≤ wf) (h1 : Ok1 n d) (h2 : Ok1 a b) : callN prog wf m 3 [.obj 0 [.int n, .int d], .obj 0 [.int a, .int b]] om = .ok (R (n * b - a * d) (d * b)) om := by
  obtain ⟨m, rfl⟩ : ∃ j, m = j + 1 := ⟨m - 1, by omega⟩
  obtain ⟨p1, p2⟩ := den2 h1.1 h2.1 h1.2.1 h2.2.1
  have hl := mk (wf := wf) (m := m) (om := om) (n := n * b - a * d) (by omega) hwf p1 p2
  refine call_ret (d := ⟨2, 2, B_Ratio_sub, none⟩) rfl rfl rfl ?_
  have hs : slots ⟨2, 2, B_Ratio_sub, none⟩ [.obj 0 [.int n, .int d], .obj 0 [.int a, .int b]] = [.val (.obj 0 [.int n, .int d]), .val (.obj 0 [.int a, .int b])] := rfl
  rw [hs]
  unfold B_Ratio_sub
  rw [z_seq, z_ret, r_mk]
  simp only [r_l, r_op, r_fld, r_v (i := 0) (sl := [Cell.val (.obj 0 [.int n, .int d]), .val (.obj 0 [.int a, .int b])]) rfl, r_v (i := 1) (sl := [Cell.val (.obj 0 [.int n, .int d]), .val (.obj 0 [.int a, .int b])]) rfl, fld0 (T := tab prog wf m), fld1 (T := tab prog wf m), r_op1, r_op2, o_muli (mul1 h1.num h2.den), o_muli (mul1 h2.num h1.den), o_muli (mul1 h1.den h2.den), o_subi, r_l1, r_l0, r_l2]
  rw [hl, z_ret1, z_seq2]
theorem mul (hm : 2 < m) (hwf : 4001 ≤ wf) (h1 : Ok1 n d) (h2 : Ok1 a b) : callN prog wf m 4 [.obj 0 [.int n, .int d], .obj 0 [.int a, .int b]] om = .ok (R (n * a) (d * b)) om := by
  obtain ⟨m, rfl⟩ : ∃ j, m = j + 1 := ⟨m - 1, by omega⟩
  obtain ⟨p1, p2⟩ := den2 h1.1 h2.1 h1.2.1 h2.2.1
  have hl := mk (wf := wf) (m := m) (om := om) (n := n * a) (by omega) hwf p1 p2
  refine call_ret (d := ⟨2, 2, B_Ratio_mul, none⟩) rfl rfl rfl ?_
  have hs : slots ⟨2, 2, B_Ratio_mul, none⟩ [.obj 0 [.int n, .int d], .obj 0 [.int a, .int b]] = [.val (.obj 0 [.int n, .int d]), .val (.obj 0 [.int a, .int b])] := rfl
  rw [hs]
  unfold B_Ratio_mul
  rw [z_seq, z_ret, r_mk]
  simp only [r_l, r_op, r_fld, r_v (i := 0) (sl := [Cell.val (.obj 0 [.int n, .int d]), .val (.obj 0 [.int a, .int b])]) rfl, r_v (i := 1) (sl := [Cell.val (.obj 0 [.int n, .int d]), .val (.obj 0 [.int a, .int b])]) rfl, fld0 (T := tab prog wf m), fld1 (T := tab prog wf m), r_op1, r_op2, o_muli (mul1 h1.num h2.num), o_muli (mul1 h1.den h2.den), r_l1, r_l0, r_l2]
  rw [hl, z_ret1, z_seq2]
theorem lessM (hm : 0 < m) (h1 : Ok1 n d) (h2 : Ok1 a b) : callN prog wf m 6 [.obj 0 [.int n, .int d], .obj 0 [.int a, .int b]] om = .ok (.bl (decide (n * b < a * d))) om := by
  obtain ⟨m, rfl⟩ : ∃ j, m = j + 1 := ⟨m - 1, by omega⟩
  refine call_ret (d := ⟨2, 2, B_Ratio_less, none⟩) rfl rfl rfl ?_
  have hs : slots ⟨2, 2, B_Ratio_less, none⟩ [.obj 0 [.int n, .int d], .obj 0 [.int a, .int b]] = [.val (.obj 0 [.int n, .int d]), .val (.obj 0 [.int a, .int b])] := rfl
  rw [hs]
  simp [B_Ratio_less, o_muli (mul1 h1.num h2.den), o_muli (mul1 h2.num h1.den)]
theorem isa0 {fs : List D} : kIsi (.ok (.obj 0 fs) om) [.own 0] = .ok (.bl true) om := rfl
theorem eqM (hm : 0 < m) : callN prog wf m 1 [.obj 0 [.int n, .int d], .obj 0 [.int a, .int b]] om = .ok (.bl (decide (n = a) && decide (d = b))) om := by
  obtain ⟨m, rfl⟩ : ∃ j, m = j + 1 := ⟨m - 1, by omega⟩
  refine call_ret (d := ⟨2, 2, B_Ratio_eq, none⟩) rfl rfl rfl ?_
  have hs : slots ⟨2, 2, B_Ratio_eq, none⟩ [.obj 0 [.int n, .int d], .obj 0 [.int a, .int b]] = [.val (.obj 0 [.int n, .int d]), .val (.obj 0 [.int a, .int b])] := rfl
  rw [hs]
  unfold B_Ratio_eq
  by_cases h : n = a
  · subst h
    simp [isa0]
  · simp [isa0, h]
theorem byM (hm : 2 < m) (hwf : 4001 ≤ wf) (h1 : Ok1 n d) (h2 : Ok1 a b) (h0 : a ≠ 0) : callN prog wf m 7 [.obj 0 [.int n, .int d], .obj 0 [.int a, .int b]] om = .ok (R ((if 0 < a then 1 else -1) * n * b) ((if 0 < a then 1 else -1) * a * d)) om := by
  obtain ⟨m, rfl⟩ : ∃ j, m = j + 1 := ⟨m - 1, by omega⟩
  have hsg : ∃ s : Int, s = (if 0 < a then 1 else -1) ∧ (s = 1 ∨ s = -1) ∧ 0 < s * a ∧ (s * a).natAbs = a.natAbs := by
    by_cases h : 0 < a
    · exact ⟨1, by rw [if_pos h], .inl rfl, by omega, by omega⟩
    · exact ⟨-1, by rw [if_neg h], .inr rfl, by omega, by omega⟩
  obtain ⟨s, hs0, hs1, hs2, hs3⟩ := hsg
  rw [← hs0]
  obtain ⟨p1, p2⟩ := den2 hs2 h1.1 (by rw [hs3]; exact h2.2.2) h1.2.1
  have hl := mk (wf := wf) (m := m) (om := om) (n := s * n * b) (by omega) hwf p1 p2
  have hsn : s.natAbs < 2 ^ 1511 := by
    have : (2 : Nat) ^ 1 ≤ 2 ^ 1511 := Nat.pow_le_pow_right (by decide) (by decide)
    rcases hs1 with rfl | rfl
    · exact Nat.lt_of_lt_of_le (by decide) this
    · exact Nat.lt_of_lt_of_le (by decide) this
  have hn2 : (s * n).natAbs < 2 ^ 1511 := by
    have := h1.num
    rcases hs1 with rfl | rfl <;> omega
  have ha2 : (s * a).natAbs < 2 ^ 1511 := by
    have := h2.num
    omega
  refine call_ret (d := ⟨2, 3, B_Ratio_by, none⟩) rfl rfl rfl ?_
  have hs : slots ⟨2, 3, B_Ratio_by, none⟩ [.obj 0 [.int n, .int d], .obj 0 [.int a, .int b]] = [.val (.obj 0 [.int n, .int d]), .val (.obj 0 [.int a, .int b]), .no] := rfl
  rw [hs]
  have hsign : evE (tab prog wf m) (.ite (.cm .gt (.fld 0 0 (.v 1)) (.k (.int 0))) (.k (.int 1)) (.neg (.k (.int 1)))) [.val (.obj 0 [.int n, .int d]), .val (.obj 0 [.int a, .int b]), .no] om = .ok (.int s) om := by
    rw [hs0]
    by_cases h : 0 < a
    · simp [h]
    · simp [h]
  unfold B_Ratio_by
  rw [z_seq, z_ite, r_cm, r_fld, r_v rfl, fld0 (T := tab prog wf m), r_cm1, r_k, r_cm2, o_eqi, decide_eq_false h0, r_bl, r_tr1, z_ite2, z_skip, z_seq1, z_seq, z_set, hsign, z_set1, z_seq1]
  simp only [List.set_cons_succ, List.set_cons_zero]
  rw [z_seq, z_ret, r_mk]
  have v0 : ∀ om, evE (tab prog wf m) (.v 0) [.val (.obj 0 [.int n, .int d]), .val (.obj 0 [.int a, .int b]), .val (.int s)] om = .ok (.obj 0 [.int n, .int d]) om := fun om => r_v rfl
  have v1 : ∀ om, evE (tab prog wf m) (.v 1) [.val (.obj 0 [.int n, .int d]), .val (.obj 0 [.int a, .int b]), .val (.int s)] om = .ok (.obj 0 [.int a, .int b]) om := fun om => r_v rfl
  have v2 : ∀ om, evE (tab prog wf m) (.v 2) [.val (.obj 0 [.int n, .int d]), .val (.obj 0 [.int a, .int b]), .val (.int s)] om = .ok (.int s) om := fun om => r_v rfl
  simp only [r_l, r_op, r_fld, v0, v1, v2, fld0 (T := tab prog wf m), fld1 (T := tab prog wf m), r_op1, r_op2, o_muli (mul1 hsn h1.num), o_muli (mul1 hn2 h2.den), o_muli (mul1 hsn h2.num), o_muli (mul1 ha2 h1.den), r_l1, r_l0, r_l2]
  rw [hl, z_ret1, z_seq2]
theorem byBad (hm : 0 < m) : callN prog wf m 7 [.obj 0 [.int n, .int d], .obj 0 [.int 0, .int b]] om = .exc 3 [] om := by
  obtain ⟨m, rfl⟩ : ∃ j, m = j + 1 := ⟨m - 1, by omega⟩
  refine call_exc (d := ⟨2, 3, B_Ratio_by, none⟩) (sl := [.val (.obj 0 [.int n, .int d]), .val (.obj 0 [.int 0, .int b]), .no]) rfl rfl ?_
  have hs : slots ⟨2, 3, B_Ratio_by, none⟩ [.obj 0 [.int n, .int d], .obj 0 [.int 0, .int b]] = [.val (.obj 0 [.int n, .int d]), .val (.obj 0 [.int 0, .int b]), .no] := rfl
  rw [hs]
  have hr : ∀ sl : Sl, evS (tab prog wf m) (.rais 3 .nil) sl om = .exc 3 [] sl om := fun sl => by
    rw [evS, evL]
    rfl
  unfold B_Ratio_by
  rw [z_seq, z_ite, r_cm, r_fld, r_v rfl, fld0 (T := tab prog wf m), r_cm1, r_k, r_cm2, o_eqi, decide_eq_true rfl, r_bl, r_tr1, z_ite1, z_seq, hr, z_seq6, z_seq6]

/-! ### texts -/
def ts (i : Int) : Str := Str.ofString (toString i)
def txt (p q : Int) : Str := if q = 1 then ts p else ts p ++ Str.ofString "/" ++ ts q
theorem app_len (x y : Str) : (x ++ y).length = x.length + y.length := by
  rw [TL.len_tl, TL.tl_append, List.length_append, ← TL.len_tl, ← TL.len_tl]
theorem nil_app (x : Str) : (⟨#[]⟩ : Str) ++ x = x := TL.ext_tl (by rw [TL.tl_append]; rfl)
theorem small {i : Int} (h : i.natAbs < 2 ^ 1511) : i.natAbs.log2 < 1920 := Nat.lt_trans (log2_small h (by decide)) (by decide)
theorem ts_len {i : Int} (h : i.natAbs < 2 ^ 1511) : (ts i).length ≤ 1921 := PyProof.Rows.int_text_len_1921 (small h)
theorem b_ts {T : Tb} {i : Int} (h : i.natAbs < 2 ^ 1511) : biD T .str (.int i) om = .ok (.str (ts i)) om := if_pos (small h)
theorem fmt_ts {T : Tb} {i : Int} (h : i.natAbs < 2 ^ 1511) : fmt T (.int i) om = .ok (ts i) om := if_pos (small h)
theorem slash_len : (Str.ofString "/").length = 1 := rfl
theorem strM (hm : 0 < m) (h1 : Ok1 n d) : callN prog wf m 5 [.obj 0 [.int n, .int d]] om = .ok (.str (txt n d)) om := by
  obtain ⟨m, rfl⟩ : ∃ j, m = j + 1 := ⟨m - 1, by omega⟩
  refine call_ret (d := ⟨1, 1, B_Ratio_str, none⟩) rfl rfl rfl ?_
  have hs : slots ⟨1, 1, B_Ratio_str, none⟩ [.obj 0 [.int n, .int d]] = [.val (.obj 0 [.int n, .int d])] := rfl
  rw [hs]
  have v0 : ∀ om, evE (tab prog wf m) (.v 0) [.val (.obj 0 [.int n, .int d])] om = .ok (.obj 0 [.int n, .int d]) om := fun om => r_v rfl
  unfold B_Ratio_str txt
  rw [z_seq, z_ite, r_cm, r_fld, v0, fld1 (T := tab prog wf m), r_cm1, r_k, r_cm2, o_eqi, r_bl, r_tr1]
  by_cases h : d = 1
  · rw [decide_eq_true h, z_ite1, z_seq, z_ret, r_bi, r_fld, v0, fld0 (T := tab prog wf m), r_bi1, b_ts h1.num, z_ret1, z_seq2, z_seq2, if_pos h]
  · rw [decide_eq_false h, z_ite2, z_skip, z_seq1, z_seq, z_ret, if_neg h, r_fstr]
    have l1 := ts_len h1.num
    have l2 := ts_len h1.den
    have hj : evJ (tab prog wf m) (.cons (.fld 0 0 (.v 0)) (.cons (.k (.str (Str.ofString "/"))) (.cons (.fld 0 1 (.v 0)) .nil))) (⟨#[]⟩ : Str) [.val (.obj 0 [.int n, .int d])] om = .ok (ts n ++ Str.ofString "/" ++ ts d) om := by
      rw [evJ, r_fld, v0, fld0 (T := tab prog wf m), bind_ok, fmt_ts h1.num, bind_ok, nil_app, if_pos (by omega), evJ, r_k, bind_ok]
      rw [show fmt (tab prog wf m) (.str (Str.ofString "/")) om = .ok (Str.ofString "/") om from rfl, bind_ok, if_pos (by rw [app_len, slash_len]; omega), evJ, r_fld, v0, fld1 (T := tab prog wf m), bind_ok, fmt_ts h1.den, bind_ok, if_pos (by rw [app_len, app_len, slash_len]; omega), evJ]
    rw [hj, r_fstr1, z_ret1, z_seq2]
theorem str_obj {T : Tb} {fs : List D} {t : Str} (hT : T.strm 0 = some 5) (h : T.call 5 [.obj 0 fs] om = .ok (.str t) om) : biD T .str (.obj 0 fs) om = .ok (.str t) om := by
  show (match T.strm 0 with
    | some f => match T.call f [.obj 0 fs] om with
      | .ok (.str s) om' => Rs.ok (D.str s) om'
      | _ => .stuck
    | none => .stuck) = _
  rw [hT]
  show (match T.call 5 [.obj 0 fs] om with
      | .ok (.str s) om' => Rs.ok (D.str s) om'
      | _ => .stuck) = _
  rw [h]
theorem ratio (hm : 2 < m) (hwf : 4001 ≤ wf) (h1 : Ok1 n d) : callN prog wf m 17 [.tup [.int n, .int d]] om = .ok (R n d) om := by
  obtain ⟨m, rfl⟩ : ∃ j, m = j + 1 := ⟨m - 1, by omega⟩
  have hb : d.natAbs < fib 4001 := by
    have h2 := h1.2.1
    have h3 : fib 1510 ≤ fib 4000 := fib_mono (by omega)
    have h4 : fib 4000 < fib 4001 := fib_lt_succ (n := 4000) (by omega)
    omega
  have hl := mk (wf := wf) (m := m) (om := om) (n := n) (by omega) hwf h1.1 hb
  refine call_ret (d := ⟨1, 1, B_Lratio, none⟩) rfl rfl rfl ?_
  have hs : slots ⟨1, 1, B_Lratio, none⟩ [.tup [.int n, .int d]] = [.val (.tup [.int n, .int d])] := rfl
  rw [hs]
  have v0 : ∀ om, evE (tab prog wf m) (.v 0) [.val (.tup [.int n, .int d])] om = .ok (.tup [.int n, .int d]) om := fun om => r_v rfl
  unfold B_Lratio
  rw [z_seq, z_ret, r_mk, r_l, r_ix, v0, r_ix1, r_k, r_ix2, x0, r_l1, r_l, r_ix, v0, r_ix1, r_k, r_ix2, x1, r_l1, r_l0, r_l2, r_l2, hl, z_ret1, z_seq2]
theorem sameI {p q : Int} (hm : 1 < m) : callN prog wf m 11 [.lst [.int p, .int q], .lst [.int p, .int q]] om = .ok (.bl true) om := by
  refine same_ok (f := 11) rfl rfl 1 _ ?_ m hm
  rw [SameD]
  refine .inr ⟨[.int p, .int q], .inl rfl, by simp, fun x hx => ?_⟩
  rw [SameD]
  rcases List.mem_cons.mp hx with rfl | hx
  · exact .inl ⟨_, rfl⟩
  · rw [List.mem_singleton.mp hx]
    exact .inl ⟨_, rfl⟩
theorem isM {p q : Int} (hm : 2 < m) : callN prog wf m 18 [.obj 0 [.int p, .int q], .tup [.int p, .int q]] om = .ok (.bl true) om := by
  obtain ⟨m, rfl⟩ : ∃ j, m = j + 1 := ⟨m - 1, by omega⟩
  have hsm := sameI (wf := wf) (om := om) (m := m) (p := p) (q := q) (by omega)
  refine call_ret (d := ⟨2, 2, B_Lis, none⟩) rfl rfl rfl ?_
  have hs : slots ⟨2, 2, B_Lis, none⟩ [.obj 0 [.int p, .int q], .tup [.int p, .int q]] = [.val (.obj 0 [.int p, .int q]), .val (.tup [.int p, .int q])] := rfl
  rw [hs]
  simp [B_Lis, isa0, hsm]
theorem sameB1 {b : Bool} (hm : 0 < m) : callN prog wf m 11 [.bl b, .bl b] om = .ok (.bl true) om := same_ok (f := 11) rfl rfl 0 _ (by rw [SameD]; exact .inr (.inr (.inl ⟨b, rfl⟩))) m hm
theorem sameS1 {t : Str} (ht : PyData.strOk t = true) (hm : 0 < m) : callN prog wf m 11 [.str t, .str t] om = .ok (.bl true) om := same_ok (f := 11) rfl rfl 0 _ (by rw [SameD]; exact .inr (.inl ⟨t, rfl, ht⟩)) m hm

/-! ### the same in lowest terms -/
theorem sc_add {u v x y g h : Int} (hg : 0 < g) (hh : 0 < h) : nrm (u * g * (y * h) + x * h * (v * g)) (v * g * (y * h)) = nrm (u * y + x * v) (v * y) := by
  rw [← nrm_scale (k := g * h) (n := u * y + x * v) (d := v * y) (Int.mul_pos hg hh)]
  congr 1
  · simp only [Int.mul_add]
    congr 1 <;> ac_rfl
  · ac_rfl
theorem sc_sub {u v x y g h : Int} (hg : 0 < g) (hh : 0 < h) : nrm (u * g * (y * h) - x * h * (v * g)) (v * g * (y * h)) = nrm (u * y - x * v) (v * y) := by
  rw [← nrm_scale (k := g * h) (n := u * y - x * v) (d := v * y) (Int.mul_pos hg hh)]
  congr 1
  · simp only [Int.mul_sub]
    congr 1 <;> ac_rfl
  · ac_rfl
theorem sc_mul {u v x y g h : Int} (hg : 0 < g) (hh : 0 < h) : nrm (u * g * (x * h)) (v * g * (y * h)) = nrm (u * x) (v * y) := by
  rw [← nrm_scale (k := g * h) (n := u * x) (d := v * y) (Int.mul_pos hg hh)]
  congr 1 <;> ac_rfl
theorem sc_by {u v x y g h s : Int} (hg : 0 < g) (hh : 0 < h) : nrm (u * g * (y * h) * s) (v * g * (x * h) * s) = nrm (s * u * y) (s * x * v) := by
  rw [← nrm_scale (k := g * h) (n := s * u * y) (d := s * x * v) (Int.mul_pos hg hh)]
  congr 1 <;> ac_rfl
theorem sc_lt {u v x y g h : Int} (hg : 0 < g) (hh : 0 < h) : (u * g * (y * h) < x * h * (v * g)) ↔ (u * y < x * v) := by
  have e1 : u * g * (y * h) = (g * h) * (u * y) := by ac_rfl
  have e2 : x * h * (v * g) = (g * h) * (x * v) := by ac_rfl
  rw [e1, e2]
  exact ⟨fun z => Int.lt_of_mul_lt_mul_left z (Int.le_of_lt (Int.mul_pos hg hh)), fun z => Int.mul_lt_mul_of_pos_left z (Int.mul_pos hg hh)⟩
theorem nrm_zero {d : Int} : (nrm 0 d).1 = 0 := Int.zero_ediv _
/-! ### refused -/
theorem r_xf {T : Tb} {sl : Sl} {i : Nat} {e : D} (h : sl[i]? = some .exn) : evE T (.xf i e) sl om = .ok e om := by rw [evE, h]
theorem z_tr {T : Tb} {sl sl' : Sl} {om' : Om} {i c : Nat} {bo : S} {cs : Nat → Option Bool} {hd : Nat → List D → S} {fs : List D} (h : evS T bo sl om = .exc c fs sl' om') (hc : cs c = some true) : evS T (.tr bo cs i hd) sl om = aft i (evS T (hd c fs) ((unx sl').set i .exn) om') := by
  rw [evS, h]
  show (match cs c with
      | some true => aft i (evS T (hd c fs) ((unx sl').set i .exn) om')
      | some false => .exc c fs sl' om'
      | none => .stuck) = _
  rw [hc]
theorem hd_ok {T : Tb} {x y : D} : aft 2 (evS T (hd_Lrefused_0 3 []) [.val x, .val y, .exn] om) = .ret (.bl true) om := by
  have hx : ∀ e om, evE T (.xf 2 e) [.val x, .val y, .exn] om = .ok e om := fun e om => r_xf rfl
  have e : hd_Lrefused_0 3 [] = (.seq (.ite (.xf 2 (.bl false)) (.seq (.ret (.k (.bl false))) .skip) .skip) (.seq (.ret (.an (.xf 2 (.bl true)) (.xf 2 (.bl true)))) .skip)) := rfl
  rw [e, z_seq, z_ite, hx, r_tr1, z_ite2, z_skip, z_seq1, z_seq, z_ret, r_an, hx, r_an1, hx, z_ret1, z_seq2]
  rfl
theorem refused0 (hm : 2 < m) (hd : d ≤ 0) : callN prog wf m 19 [.tup [.int n, .int d], .non] om = .ok (.bl true) om := by
  obtain ⟨m, rfl⟩ : ∃ j, m = j + 1 := ⟨m - 1, by omega⟩
  have hi := init_bad (wf := wf) (m := m) (om := om) (n := n) (by omega) hd
  refine call_ret (d := ⟨2, 3, B_Lrefused, none⟩) rfl rfl rfl ?_
  have hs : slots ⟨2, 3, B_Lrefused, none⟩ [.tup [.int n, .int d], .non] = [.val (.tup [.int n, .int d]), .val .non, .no] := rfl
  rw [hs]
  have v0 : ∀ om, evE (tab prog wf m) (.v 0) [.val (.tup [.int n, .int d]), .val .non, .no] om = .ok (.tup [.int n, .int d]) om := fun om => r_v rfl
  unfold B_Lrefused
  rw [z_seq]
  rw [z_tr (c := 3) (fs := []) (sl' := [.val (.tup [.int n, .int d]), .val .non, .no]) (om' := om) ?_ rfl]
  · rw [show ((unx [Cell.val (.tup [.int n, .int d]), .val .non, .no]).set 2 .exn) = [.val (.tup [.int n, .int d]), .val .non, .exn] from rfl, hd_ok, z_seq2]
  · rw [z_seq, z_ite, r_cm, r_v rfl, r_cm1, r_k, r_cm2, o_isn, r_bl, r_tr1, z_ite1, z_seq, z_drop, r_mk, r_l, r_ix, v0, r_ix1, r_k, r_ix2, x0, r_l1, r_l, r_ix, v0, r_ix1, r_k, r_ix2, x1, r_l1, r_l0, r_l2, r_l2, r_mk1]
    rw [show (tab prog wf m).init 0 ([.int n, .int d] ++ []) om = initN prog wf m 0 [.int n, .int d] om from rfl, hi]
    rfl
theorem den4 {n d : Int} (h : Ok1 n d) : d.natAbs < fib 4001 := by
  have h2 := h.2.1
  have h3 : fib 1510 ≤ fib 4000 := fib_mono (by omega)
  have h4 : fib 4000 < fib 4001 := fib_lt_succ (n := 4000) (by omega)
  omega
theorem refused1 (hm : 2 < m) (hwf : 4001 ≤ wf) (h1 : Ok1 n d) (h2 : Ok1 0 b) : callN prog wf m 19 [.tup [.int n, .int d], .tup [.int 0, .int b]] om = .ok (.bl true) om := by
  obtain ⟨m, rfl⟩ : ∃ j, m = j + 1 := ⟨m - 1, by omega⟩
  have hi := mk (wf := wf) (m := m) (om := om) (n := n) (by omega) hwf h1.1 (den4 h1)
  have hi2 := mk (wf := wf) (m := m) (om := om) (n := 0) (by omega) hwf h2.1 (den4 h2)
  have hb := byBad (wf := wf) (m := m) (om := om) (n := (nrm n d).1) (d := (nrm n d).2) (b := (nrm 0 b).2) (by omega)
  refine call_ret (d := ⟨2, 3, B_Lrefused, none⟩) rfl rfl rfl ?_
  have hs : slots ⟨2, 3, B_Lrefused, none⟩ [.tup [.int n, .int d], .tup [.int 0, .int b]] = [.val (.tup [.int n, .int d]), .val (.tup [.int 0, .int b]), .no] := rfl
  rw [hs]
  have v0 : ∀ om, evE (tab prog wf m) (.v 0) [.val (.tup [.int n, .int d]), .val (.tup [.int 0, .int b]), .no] om = .ok (.tup [.int n, .int d]) om := fun om => r_v rfl
  have v1 : ∀ om, evE (tab prog wf m) (.v 1) [.val (.tup [.int n, .int d]), .val (.tup [.int 0, .int b]), .no] om = .ok (.tup [.int 0, .int b]) om := fun om => r_v rfl
  unfold B_Lrefused
  rw [z_seq]
  rw [z_tr (c := 3) (fs := []) (sl' := [.val (.tup [.int n, .int d]), .val (.tup [.int 0, .int b]), .no]) (om' := om) ?_ rfl]
  · rw [show ((unx [Cell.val (.tup [.int n, .int d]), .val (.tup [.int 0, .int b]), .no]).set 2 .exn) = [.val (.tup [.int n, .int d]), .val (.tup [.int 0, .int b]), .exn] from rfl, hd_ok, z_seq2]
  · rw [z_seq, z_ite, r_cm, v1, r_cm1, r_k, r_cm2, o_ist, r_bl, r_tr1, z_ite2, z_seq, z_drop, r_meth, r_mk, r_l, r_ix, v0, r_ix1, r_k, r_ix2, x0, r_l1, r_l, r_ix, v0, r_ix1, r_k, r_ix2, x1, r_l1, r_l0, r_l2, r_l2, hi]
    unfold R
    rw [r_meth1 r_isCo, r_l, r_mk, r_l, r_ix, v1, r_ix1, r_k, r_ix2, x0, r_l1, r_l, r_ix, v1, r_ix1, r_k, r_ix2, x1, r_l1, r_l0, r_l2, r_l2, hi2, r_l1, r_l0, r_l2, r_meth2]
    unfold R
    rw [nrm_zero]
    rw [show (tab prog wf m).call 7 (.obj 0 [.int (nrm n d).1, .int (nrm n d).2] :: ([.obj 0 [.int 0, .int (nrm 0 b).2]] ++ [])) om = callN prog wf m 7 [.obj 0 [.int (nrm n d).1, .int (nrm n d).2], .obj 0 [.int 0, .int (nrm 0 b).2]] om from rfl, hb]
    rfl
/-! ### draws -/
theorem draw {s : Int} (hm : 0 < m) (hs : 0 < s) (hs' : s < 2 ^ 200) (hp : PoolAt om r) : ∃ v om', callN prog wf m 10 [.amb 0, .int s] om = .ok (.int v) om' ∧ 0 ≤ v ∧ v < s ∧ PoolAt om' r := by
  obtain ⟨m, rfl⟩ : ∃ k, m = k + 1 := ⟨m - 1, by omega⟩
  obtain ⟨v, om', e, h⟩ := draw_ok (T := tab prog wf m) hs hs' hp
  exact ⟨v, om', call_ret (d := ⟨2, 4, B_Ldraw, none⟩) rfl rfl rfl e, h⟩
theorem fib31 : 1000001 ≤ fib 1510 := Nat.le_trans (by decide : 1000001 ≤ fib 31) (fib_mono (by omega))
theorem pair (hm : 1 < m) (hp : PoolAt om r) : ∃ n d om', callN prog wf m 20 [.amb 0] om = .ok (.tup [.int n, .int d]) om' ∧ Ok1 n d ∧ PoolAt om' r := by
  obtain ⟨m, rfl⟩ : ∃ j, m = j + 1 := ⟨m - 1, by omega⟩
  obtain ⟨v1, o1, e1, a1, b1, p1⟩ := draw (wf := wf) (m := m) (s := 2000001) (by omega) (by decide) (by decide) hp
  obtain ⟨v2, o2, e2, a2, b2, p2⟩ := draw (wf := wf) (m := m) (s := 9) (by omega) (by decide) (by decide) p1
  obtain ⟨v3, o3, e3, a3, b3, p3⟩ := draw (wf := wf) (m := m) (s := 3) (by omega) (by decide) (by decide) p2
  obtain ⟨v4, o4, e4, a4, b4, p4⟩ := draw (wf := wf) (m := m) (s := 1000) (by omega) (by decide) (by decide) p3
  obtain ⟨v5, o5, e5, a5, b5, p5⟩ := draw (wf := wf) (m := m) (s := 6) (by omega) (by decide) (by decide) p4
  obtain ⟨v6, o6, e6, a6, b6, p6⟩ := draw (wf := wf) (m := m) (s := 2) (by omega) (by decide) (by decide) p5
  have hn : ∃ n : Int, n.natAbs ≤ 1000000 ∧ ∀ om, ixD (.tup [.int (v1 - 1000000), .int (v2 - 4), .int 0]) (.int v3) om = .ok (.int n) om := by
    have h3 : v3 = 0 ∨ v3 = 1 ∨ v3 = 2 := by omega
    rcases h3 with rfl | rfl | rfl
    · exact ⟨_, by omega, fun om => x_t atI0⟩
    · exact ⟨_, by omega, fun om => x_t atI1⟩
    · exact ⟨_, by omega, fun om => x_t atI2⟩
  have hd : ∃ d : Int, 0 ≤ d ∧ d < 1000 ∧ ∀ om, ixD (.tup [.int v4, .int v5]) (.int v6) om = .ok (.int d) om := by
    have h3 : v6 = 0 ∨ v6 = 1 := by omega
    rcases h3 with rfl | rfl
    · exact ⟨_, by omega, by omega, fun om => x_t atI0⟩
    · exact ⟨_, by omega, by omega, fun om => x_t atI1⟩
  obtain ⟨n, n1, n2⟩ := hn
  obtain ⟨d, d1, d2, d3⟩ := hd
  have f := fib31
  refine ⟨n, 1 + d, o6, call_ret (d := ⟨1, 2, B_Lpair, none⟩) rfl rfl rfl ?_, ⟨by omega, by omega, by omega⟩, p6⟩
  have hs : slots ⟨1, 2, B_Lpair, none⟩ [.amb 0] = [.val (.amb 0), .no] := rfl
  rw [hs]
  simp [B_Lpair, e1, e2, e3, e4, e5, e6, n2, d3]
theorem chain {k : Nat} (hm : 0 < m) (hk : k ≤ 1500) : callN prog wf m 21 [.int (k : Int)] om = .ok (.tup [.int (fib (k + 1) : Nat), .int (fib (k + 2) : Nat)]) om := by
  obtain ⟨m, rfl⟩ : ∃ j, m = j + 1 := ⟨m - 1, by omega⟩
  have loop := for_all (T := tab prog wf m) (i := 3) (sl := [.val (.int (k : Int)), .val (.int 1), .val (.int 1), .no, .no]) (om := om) (f := fun k : Nat => D.int k)
    (b := (.seq (.set 4 (.v 2)) (.seq (.set 2 (.op .add (.v 1) (.v 2))) (.seq (.set 1 (.v 4)) .skip)))) (List.range k)
    (fun done sl om' => om' = om ∧ ∃ c3 c4, sl = [.val (.int (k : Int)), .val (.int (fib (done.length + 1) : Nat)), .val (.int (fib (done.length + 2) : Nat)), c3, c4])
    ⟨rfl, .no, .no, rfl⟩
    (by
      rintro done x rest hall sl om' ⟨rfl, c3, c4, rfl⟩
      have e : ((fib (done.length + 1) : Nat) : Int) + ((fib (done.length + 2) : Nat) : Int) = ((fib (done.length + 1 + 2) : Nat) : Int) := by
        show _ = ((fib (done.length + 2) + fib (done.length + 1) : Nat) : Int)
        omega
      refine ⟨[.val (.int (k : Int)), .val (.int (fib (done.length + 1 + 1) : Nat)), .val (.int (fib (done.length + 1 + 2) : Nat)), .val (.int (x : Int)), .val (.int (fib (done.length + 2) : Nat))], _, ?_, rfl, _, _, by rw [List.length_append, List.length_singleton]⟩
      simp [e])
  obtain ⟨sl', om', ef, rfl, c3, c4, rfl⟩ := loop
  rw [List.length_range] at ef
  refine call_ret (d := ⟨1, 5, B_Lchain, none⟩) rfl rfl rfl ?_
  have hs : slots ⟨1, 5, B_Lchain, none⟩ [.int (k : Int)] = [.val (.int (k : Int)), .no, .no, .no, .no] := rfl
  have hr : kR1 (.ok (.int (k : Int)) om') = .ok ((List.range k).map fun (k : Nat) => .int k) om' := by
    rw [r_rng1a (by omega) (by omega), Int.toNat_natCast]
  rw [hs]
  simp [B_Lchain, hr, ef]
theorem chain_ok {k : Nat} (hk : k ≤ 1500) : Ok1 (fib (k + 1) : Nat) (fib (k + 2) : Nat) := by
  have h1 : fib (k + 1) ≤ fib 1510 := fib_mono (by omega)
  have h2 : fib (k + 2) ≤ fib 1510 := fib_mono (by omega)
  have h3 : 0 < fib (k + 2) := fib_pos (k + 1)
  exact ⟨by omega, by omega, by omega⟩

/-! ### the law -/
def LB : S := match B_law with | .seq _ (.seq (.fo _ _ b) _) => b | _ => .skip
def LB2 : S := match B_law with | .seq _ (.seq _ (.seq (.fo _ _ b) _)) => b | _ => .skip
theorem o_add {fs gs : List D} : bop (tab prog wf m) .add (.obj 0 fs) (.obj 0 gs) om = (callN prog wf m 2 [.obj 0 fs, .obj 0 gs] om).nox := rfl
theorem o_sub {fs gs : List D} : bop (tab prog wf m) .sub (.obj 0 fs) (.obj 0 gs) om = (callN prog wf m 3 [.obj 0 fs, .obj 0 gs] om).nox := rfl
theorem o_mul {fs gs : List D} : bop (tab prog wf m) .mul (.obj 0 fs) (.obj 0 gs) om = (callN prog wf m 4 [.obj 0 fs, .obj 0 gs] om).nox := rfl
theorem o_eqo {fs gs : List D} {e : Bool} (h : callN prog wf m 1 [.obj 0 fs, .obj 0 gs] om = .ok (.bl e) om) : cmp (tab prog wf m) .eq (.obj 0 fs) (.obj 0 gs) om = .ok e om := by
  show (match callN prog wf m 1 [.obj 0 fs, .obj 0 gs] om with
        | .ok (.bl b) om' => Rs.ok b om'
        | _ => .stuck) = _
  rw [h]
theorem o_eqt {T : Tb} {u v x y : Int} : cmp T .eq (.tup [.int u, .int v]) (.tup [.int x, .int y]) om = .ok (decide (u = x) && decide (v = y)) om := by
  show Rs.ok ((u == x) && ((v == y) && true)) om = _
  rw [Bool.and_true]
  rfl
theorem strOk_ts (i : Int) : PyData.strOk (ts i) = true := by
  unfold PyData.strOk ts
  rw [Array.all_eq_true_iff_forall_mem]
  intro c hc
  have h := Array.mem_toList_iff.mpr hc
  have e := TL.tl_ofString (toString i)
  have h' : c ∈ TL.tl (Str.ofString (toString i)) := h
  rw [e] at h'
  obtain ⟨ch, _, rfl⟩ := List.mem_map.mp h'
  exact decide_eq_true (by
    have := ch.valid
    have h2 := ch.toNat
    show ch.val.toNat < 1114112
    rcases this with h | h
    · have : ch.val.toNat < 55296 := h
      omega
    · exact h.2)
theorem strOk_app {x y : Str} (hx : PyData.strOk x = true) (hy : PyData.strOk y = true) : PyData.strOk (x ++ y) = true := by
  unfold PyData.strOk at *
  rw [Array.all_eq_true_iff_forall_mem] at *
  intro c hc
  have h := Array.mem_toList_iff.mpr hc
  have h' : c ∈ TL.tl (x ++ y) := h
  rw [TL.tl_append] at h'
  rcases List.mem_append.mp h' with h | h
  · exact hx c (Array.mem_toList_iff.mp h)
  · exact hy c (Array.mem_toList_iff.mp h)
theorem strOk_txt {u v : Int} : PyData.strOk (txt u v) = true := by
  unfold txt
  split
  · exact strOk_ts _
  · exact strOk_app (strOk_app (strOk_ts _) (strOk_lit [47] rfl rfl)) (strOk_ts _)
theorem sg_ev {T : Tb} {sl : Sl} (h : sl[(4 : Nat)]? = some (.val (.tup [.int a, .int b]))) : evE T (.op .sub (.k (.int 1)) (.op .mul (.k (.int 2)) (.bi .int (.cm .lt (.ix (.v 4) (.k (.int 0))) (.k (.int 0)))))) sl om = .ok (.int (if a < 0 then -1 else 1)) om := by
  have c0 : CMulW 2 0 := cmulW_s (a := 2) (b := 1) (by decide) (by decide) (by decide) (by decide) (by decide)
  have c1 : CMulW 2 1 := cmulW_s (a := 2) (b := 1) (by decide) (by decide) (by decide) (by decide) (by decide)
  rw [r_op, r_k, r_op1, r_op, r_k, r_op1, r_bi, r_cm, r_ix, r_v h, r_ix1, r_k, r_ix2, x0, r_cm1, r_k, r_cm2, o_lt, r_bl, r_bi1, b_intb]
  by_cases ha : a < 0
  · rw [decide_eq_true ha, if_pos rfl, if_pos ha, r_op2, o_muli c1, r_op2, o_subi]
    rfl
  · rw [decide_eq_false ha, if_neg (by decide), if_neg ha, r_op2, o_muli c0, r_op2, o_subi]
    rfl
theorem LB_ok (hm : 3 < m) (hwf : 4001 ≤ wf) {scr : D} {x : Nat} {c3 c4 c5 c6 c7 c8 c9 : Cell} (hp : PoolAt om r) :
    ∃ e3 e4 e5 e6 e7 e8 e9 om', evS (tab prog wf m) LB [.val scr, .val (.amb 0), .val (.int (x : Int)), c3, c4, c5, c6, c7, c8, c9] om = .next [.val scr, .val (.amb 0), .val (.int (x : Int)), e3, e4, e5, e6, e7, e8, e9] om' ∧ PoolAt om' r := by
  obtain ⟨n0, d0, o1, e1, k1, p1⟩ := pair (wf := wf) (m := m) (by omega) hp
  obtain ⟨v2, o2, e2, a2, b2, p2⟩ := draw (wf := wf) (m := m) (s := 5) (by omega) (by decide) (by decide) p1
  -- the first pair
  have one : ∃ (n d : Int) (o3 : Om), Ok1 n d ∧ PoolAt o3 r ∧ ∀ (B : S), evS (tab prog wf m) (.seq (.ite (.cm .eq (.call 10 [] (.cons (.v 1) (.cons (.k (.int 5)) .nil))) (.k (.int 0))) (.seq (.set 3 (.call 21 [] (.cons (.op .add (.k (.int 1)) (.call 10 [] (.cons (.v 1) (.cons (.k (.int 1500)) .nil)))) .nil))) .skip) .skip) B) [.val scr, .val (.amb 0), .val (.int (x : Int)), .val (.tup [.int n0, .int d0]), c4, c5, c6, c7, c8, c9] o1 =
      evS (tab prog wf m) B [.val scr, .val (.amb 0), .val (.int (x : Int)), .val (.tup [.int n, .int d]), c4, c5, c6, c7, c8, c9] o3 := by
    by_cases hv : v2 = 0
    · subst hv
      obtain ⟨v3, o3, e3, a3, b3, p3⟩ := draw (wf := wf) (m := m) (s := 1500) (by omega) (by decide) (by decide) p2
      obtain ⟨k3, rfl⟩ := Int.eq_ofNat_of_zero_le a3
      have hc := chain (wf := wf) (m := m) (om := o3) (k := 1 + k3) (by omega) (by omega)
      have ec : ((1 + k3 : Nat) : Int) = 1 + (k3 : Int) := by omega
      rw [ec] at hc
      exact ⟨_, _, o3, chain_ok (k := 1 + k3) (by omega), p3, fun B => by simp [e2, e3, hc]⟩
    · exact ⟨n0, d0, o2, k1, p2, fun B => by simp [e2, hv]⟩
  obtain ⟨n, d, o3, h1, p3, H1⟩ := one
  obtain ⟨n4, d4, o4, e4, k4, p4⟩ := pair (wf := wf) (m := m) (by omega) p3
  obtain ⟨v5, o5, e5, a5, b5, p5⟩ := draw (wf := wf) (m := m) (s := 5) (by omega) (by decide) (by decide) p4
  have two : ∃ (a b : Int), Ok1 a b ∧ ∀ (B : S), evS (tab prog wf m) (.seq (.set 4 (.ix (.tup (.cons (.call 20 [] (.cons (.v 1) .nil)) (.cons (.v 3) .nil))) (.bi .int (.cm .eq (.call 10 [] (.cons (.v 1) (.cons (.k (.int 5)) .nil))) (.k (.int 0)))))) B) [.val scr, .val (.amb 0), .val (.int (x : Int)), .val (.tup [.int n, .int d]), c4, c5, c6, c7, c8, c9] o3 =
      evS (tab prog wf m) B [.val scr, .val (.amb 0), .val (.int (x : Int)), .val (.tup [.int n, .int d]), .val (.tup [.int a, .int b]), c5, c6, c7, c8, c9] o5 := by
    by_cases hv : v5 = 0
    · exact ⟨n, d, h1, fun B => by simp [e4, e5, hv]⟩
    · exact ⟨n4, d4, k4, fun B => by simp [e4, e5, hv]⟩
  obtain ⟨a, b, h2, H2⟩ := two
  have hn := nrm_mul (n := n) (d := d)
  have hm2 := nrm_mul (n := a) (d := b)
  have g1 : (0 : Int) < (Nat.gcd n.natAbs d.natAbs : Nat) := by have := gcd_pos' (n := n) h1.1; omega
  have g2 : (0 : Int) < (Nat.gcd a.natAbs b.natAbs : Nat) := by have := gcd_pos' (n := a) h2.1; omega
  have k1' := h1.nrm
  have k2' := h2.nrm
  have f17a : ∀ om, callN prog wf m 17 [.tup [.int n, .int d]] om = .ok (R n d) om := fun om => ratio (by omega) hwf h1
  have f17b : ∀ om, callN prog wf m 17 [.tup [.int a, .int b]] om = .ok (R a b) om := fun om => ratio (by omega) hwf h2
  have f12a : ∀ om, callN prog wf m 12 [.int n, .int d] om = .ok (Pq n d) om := fun om => less (by omega) h1.1 (den4 h1)
  have f12b : ∀ om, callN prog wf m 12 [.int a, .int b] om = .ok (Pq a b) om := fun om => less (by omega) h2.1 (den4 h2)
  have f13 := fun om => plus (wf := wf) (m := m) (om := om) (by omega) h1 h2
  have f14 := fun om => minus (wf := wf) (m := m) (om := om) (by omega) h1 h2
  have f15 := fun om => times (wf := wf) (m := m) (om := om) (by omega) h1 h2
  have f16 := fun om => below (wf := wf) (m := m) (om := om) (by omega) h1 h2
  have f2 := fun om => add (wf := wf) (m := m) (om := om) (by omega) hwf k1' k2'
  have f3 := fun om => sub (wf := wf) (m := m) (om := om) (by omega) hwf k1' k2'
  have f4 := fun om => mul (wf := wf) (m := m) (om := om) (by omega) hwf k1' k2'
  have f6 := fun om => lessM (wf := wf) (m := m) (om := om) (by omega) k1' k2'
  have f1 := fun om => eqM (wf := wf) (m := m) (om := om) (n := (nrm n d).1) (d := (nrm n d).2) (a := (nrm a b).1) (b := (nrm a b).2) (by omega)
  have f5 := fun om => strM (wf := wf) (m := m) (om := om) (by omega) k1'
  have fis : ∀ (y z : Int) om, callN prog wf m 18 [.obj 0 [.int y, .int z], .tup [.int y, .int z]] om = .ok (.bl true) om := fun y z om => isM (by omega)
  have fsb : ∀ (y : Bool) om, callN prog wf m 11 [.bl y, .bl y] om = .ok (.bl true) om := fun y om => sameB1 (by omega)
  have fss : ∀ om, callN prog wf m 11 [.str (txt (nrm n d).1 (nrm n d).2), .str (txt (nrm n d).1 (nrm n d).2)] om = .ok (.bl true) om := fun om => sameS1 strOk_txt (by omega)
  have eA := sc_add (u := (nrm n d).1) (v := (nrm n d).2) (x := (nrm a b).1) (y := (nrm a b).2) g1 g2
  have eS := sc_sub (u := (nrm n d).1) (v := (nrm n d).2) (x := (nrm a b).1) (y := (nrm a b).2) g1 g2
  have eM := sc_mul (u := (nrm n d).1) (v := (nrm n d).2) (x := (nrm a b).1) (y := (nrm a b).2) g1 g2
  have eL := sc_lt (u := (nrm n d).1) (v := (nrm n d).2) (x := (nrm a b).1) (y := (nrm a b).2) g1 g2
  have eB := fun s : Int => sc_by (u := (nrm n d).1) (v := (nrm n d).2) (x := (nrm a b).1) (y := (nrm a b).2) (s := s) g1 g2
  rw [hn.1, hn.2, hm2.1, hm2.2] at eA eS eM eL
  simp only [hn.1, hn.2, hm2.1, hm2.2] at eB
  have fby : a ≠ 0 → ∀ om, callN prog wf m 7 [.obj 0 [.int (nrm n d).1, .int (nrm n d).2], .obj 0 [.int (nrm a b).1, .int (nrm a b).2]] om = .ok (R ((if 0 < (nrm a b).1 then 1 else -1) * (nrm n d).1 * (nrm a b).2) ((if 0 < (nrm a b).1 then 1 else -1) * (nrm a b).1 * (nrm n d).2)) om := fun ha om =>
    byM (by omega) hwf k1' k2' (fun z => ha (by rw [← hm2.1, z, Int.zero_mul]))
  have sgn : ∀ s : Int, (s = if a < 0 then -1 else 1) → a ≠ 0 → s = (if 0 < (nrm a b).1 then 1 else -1) := fun s hs ha => by
    have e := hm2.1
    generalize (nrm a b).1 = y at e ⊢
    by_cases hy : 0 < y
    · have : 0 < y * (Nat.gcd a.natAbs b.natAbs : Nat) := Int.mul_pos hy g2
      rw [if_pos hy, hs, if_neg (by omega)]
    · have : y * (Nat.gcd a.natAbs b.natAbs : Nat) ≤ 0 := Int.mul_nonpos_of_nonpos_of_nonneg (by omega) (by omega)
      rw [if_neg hy, hs, if_pos (by omega)]
  have f12c : a ≠ 0 → ∀ s : Int, (s = if a < 0 then -1 else 1) → ∀ om, callN prog wf m 12 [.int (n * b * s), .int (d * a * s)] om = .ok (Pq ((if 0 < (nrm a b).1 then 1 else -1) * (nrm n d).1 * (nrm a b).2) ((if 0 < (nrm a b).1 then 1 else -1) * (nrm a b).1 * (nrm n d).2)) om := fun ha s hs om => by
    have e0 := sgn s hs ha
    have hpos : 0 < a * s ∧ (a * s).natAbs = a.natAbs := by
      by_cases h : a < 0
      · rw [if_pos h] at hs
        subst hs
        omega
      · rw [if_neg h] at hs
        subst hs
        omega
    obtain ⟨q1, q2⟩ := den2 h1.1 hpos.1 h1.2.1 (by rw [hpos.2]; exact h2.2.2)
    have hl := less (wf := wf) (m := m) (om := om) (n := n * b * s) (d := d * (a * s)) (by omega) q1 q2
    rw [← Int.mul_assoc] at hl
    rw [hl]
    unfold Pq
    rw [eB s, ← e0]
  have q0 : 0 < (nrm n d).2 := nrm_pos h1.1
  have t1 := fun om => b_ts (T := tab prog wf m) (om := om) k1'.num
  have t2 := fun om => b_ts (T := tab prog wf m) (om := om) k1'.den
  have l1 := ts_len k1'.num
  have l2 := ts_len k1'.den
  have hsl : (Str.ofString "/").length = 1 := slash_len
  have ad1 : ∀ om, bop (tab prog wf m) .add (.str (ts (nrm n d).1)) (.str (Str.ofString "/")) om = .ok (.str (ts (nrm n d).1 ++ Str.ofString "/")) om := fun om => if_pos (by omega)
  have ad2 : ∀ om, bop (tab prog wf m) .add (.str (ts (nrm n d).1 ++ Str.ofString "/")) (.str (ts (nrm n d).2)) om = .ok (.str (ts (nrm n d).1 ++ Str.ofString "/" ++ ts (nrm n d).2)) om := fun om => if_pos (by rw [app_len]; omega)
  have fst : ∀ om, biD (tab prog wf m) .str (R n d) om = .ok (.str (txt (nrm n d).1 (nrm n d).2)) om := fun om => str_obj rfl (f5 om)
  have mnb := mul1 h1.num h2.den
  have mda := mul1 h1.den h2.num
  have feq := fun om => o_eqo (wf := wf) (m := m) (f1 om)
  have feqt : ∀ om, cmp (tab prog wf m) .eq (.tup [.int (nrm a b).1, .int (nrm a b).2]) (.tup [.int (nrm n d).1, .int (nrm n d).2]) om = .ok (decide ((nrm n d).1 = (nrm a b).1) && decide ((nrm n d).2 = (nrm a b).2)) om := fun om => by
    rw [o_eqt, decide_eq_decide.mpr ⟨Eq.symm, Eq.symm⟩, decide_eq_decide.mpr (⟨Eq.symm, Eq.symm⟩ : (nrm a b).2 = (nrm n d).2 ↔ (nrm n d).2 = (nrm a b).2)]
  have f16' : ∀ om, callN prog wf m 16 [.tup [.int n, .int d], .tup [.int a, .int b]] om = .ok (.bl (decide ((nrm n d).1 * (nrm a b).2 < (nrm a b).1 * (nrm n d).2))) om := fun om => by rw [f16, decide_eq_decide.mpr eL]
  simp only [R] at f17a f17b f2 f3 f4 fby fst
  simp only [Pq] at f12a f12b f13 f14 f15 f12c
  simp only [eA] at f13
  simp only [eS] at f14
  simp only [eM] at f15
  have hq1 : ∀ om : Om, cmp (tab prog wf m) .gt (.int (nrm n d).2) (.int 1) om = .ok (!decide ((nrm n d).2 = 1)) om := fun om => by
    rw [o_gt, ← decide_not]
    exact congrArg (fun b => Rs.ok b om) (decide_eq_decide.mpr ⟨fun h => by omega, fun h => by omega⟩)
  refine ⟨.val (.tup [.int n, .int d]), .val (.tup [.int a, .int b]), .val (.obj 0 [.int (nrm n d).1, .int (nrm n d).2]), .val (.obj 0 [.int (nrm a b).1, .int (nrm a b).2]), .val (.tup [.int (nrm n d).1, .int (nrm n d).2]), .val (.str (txt (nrm n d).1 (nrm n d).2)), .val (.int (if a < 0 then -1 else 1)), o5, ?_, p5⟩
  unfold LB B_law
  dsimp only
  rw [z_seq, z_set, r_call, r_l, r_v rfl, r_l1, r_l0, r_l2, r_call1]
  rw [show (tab prog wf m).call 20 ([.amb 0] ++ []) om = callN prog wf m 20 [.amb 0] om from rfl, e1, z_set1, z_seq1]
  simp only [List.set_cons_succ, List.set_cons_zero]
  rw [H1, H2]
  have v3 : ∀ {c5 c6 c7 c8 c9 : Cell} (om : Om), evE (tab prog wf m) (.v 3) [.val scr, .val (.amb 0), .val (.int (x : Int)), .val (.tup [.int n, .int d]), .val (.tup [.int a, .int b]), c5, c6, c7, c8, c9] om = .ok (.tup [.int n, .int d]) om := fun om => r_v rfl
  have v4 : ∀ {c5 c6 c7 c8 c9 : Cell} (om : Om), evE (tab prog wf m) (.v 4) [.val scr, .val (.amb 0), .val (.int (x : Int)), .val (.tup [.int n, .int d]), .val (.tup [.int a, .int b]), c5, c6, c7, c8, c9] om = .ok (.tup [.int a, .int b]) om := fun om => r_v rfl
  have v5 : ∀ {c6 c7 c8 c9 : Cell} (om : Om), evE (tab prog wf m) (.v 5) [.val scr, .val (.amb 0), .val (.int (x : Int)), .val (.tup [.int n, .int d]), .val (.tup [.int a, .int b]), .val (.obj 0 [.int (nrm n d).1, .int (nrm n d).2]), c6, c7, c8, c9] om = .ok (.obj 0 [.int (nrm n d).1, .int (nrm n d).2]) om := fun om => r_v rfl
  have v6 : ∀ {c7 c8 c9 : Cell} (om : Om), evE (tab prog wf m) (.v 6) [.val scr, .val (.amb 0), .val (.int (x : Int)), .val (.tup [.int n, .int d]), .val (.tup [.int a, .int b]), .val (.obj 0 [.int (nrm n d).1, .int (nrm n d).2]), .val (.obj 0 [.int (nrm a b).1, .int (nrm a b).2]), c7, c8, c9] om = .ok (.obj 0 [.int (nrm a b).1, .int (nrm a b).2]) om := fun om => r_v rfl
  have v7 : ∀ {c8 c9 : Cell} (om : Om), evE (tab prog wf m) (.v 7) [.val scr, .val (.amb 0), .val (.int (x : Int)), .val (.tup [.int n, .int d]), .val (.tup [.int a, .int b]), .val (.obj 0 [.int (nrm n d).1, .int (nrm n d).2]), .val (.obj 0 [.int (nrm a b).1, .int (nrm a b).2]), .val (.tup [.int (nrm n d).1, .int (nrm n d).2]), c8, c9] om = .ok (.tup [.int (nrm n d).1, .int (nrm n d).2]) om := fun om => r_v rfl
  rw [z_seq, z_set, r_call, r_l, v3, r_l1, r_l0, r_l2, r_call1, show ∀ om, (tab prog wf m).call 17 ([.tup [.int n, .int d]] ++ []) om = callN prog wf m 17 [.tup [.int n, .int d]] om from fun _ => rfl, f17a, z_set1, z_seq1]
  simp only [List.set_cons_succ, List.set_cons_zero]
  rw [z_seq, z_set, r_call, r_l, v4, r_l1, r_l0, r_l2, r_call1, show ∀ om, (tab prog wf m).call 17 ([.tup [.int a, .int b]] ++ []) om = callN prog wf m 17 [.tup [.int a, .int b]] om from fun _ => rfl, f17b, z_set1, z_seq1]
  simp only [List.set_cons_succ, List.set_cons_zero]
  rw [z_seq, z_set, r_call, r_l, r_ix, v3, r_ix1, r_k, r_ix2, x0, r_l1, r_l, r_ix, v3, r_ix1, r_k, r_ix2, x1, r_l1, r_l0, r_l2, r_l2, r_call1, show ∀ om, (tab prog wf m).call 12 ([.int n, .int d] ++ []) om = callN prog wf m 12 [.int n, .int d] om from fun _ => rfl, f12a, z_set1, z_seq1]
  simp only [List.set_cons_succ, List.set_cons_zero]
  rw [z_seq, z_set, r_bi, r_ix, v7, r_ix1, r_k, r_ix2, x0, r_bi1, t1, z_set1, z_seq1]
  simp only [List.set_cons_succ, List.set_cons_zero]
  have htxt : ∀ (B : S) (c9 : Cell), evS (tab prog wf m) (.seq (.ite (.cm .gt (.ix (.v 7) (.k (.int 1))) (.k (.int 1))) (.seq (.set 8 (.op .add (.op .add (.v 8) (.k (.str (Str.ofString "/")))) (.bi .str (.ix (.v 7) (.k (.int 1)))))) .skip) .skip) B) [.val scr, .val (.amb 0), .val (.int (x : Int)), .val (.tup [.int n, .int d]), .val (.tup [.int a, .int b]), .val (.obj 0 [.int (nrm n d).1, .int (nrm n d).2]), .val (.obj 0 [.int (nrm a b).1, .int (nrm a b).2]), .val (.tup [.int (nrm n d).1, .int (nrm n d).2]), .val (.str (ts (nrm n d).1)), c9] o5 =
      evS (tab prog wf m) B [.val scr, .val (.amb 0), .val (.int (x : Int)), .val (.tup [.int n, .int d]), .val (.tup [.int a, .int b]), .val (.obj 0 [.int (nrm n d).1, .int (nrm n d).2]), .val (.obj 0 [.int (nrm a b).1, .int (nrm a b).2]), .val (.tup [.int (nrm n d).1, .int (nrm n d).2]), .val (.str (txt (nrm n d).1 (nrm n d).2)), c9] o5 := fun B c9 => by
    rw [z_seq, z_ite, r_cm, r_ix, v7, r_ix1, r_k, r_ix2, x1, r_cm1, r_k, r_cm2, hq1, r_bl, r_tr1]
    by_cases hq : (nrm n d).2 = 1
    · rw [decide_eq_true hq, Bool.not_true, z_ite2, z_skip, z_seq1, txt, if_pos hq]
    · rw [decide_eq_false hq, Bool.not_false, z_ite1, z_seq, z_set, r_op, r_op, r_v rfl, r_op1, r_k, r_op2, ad1, r_op1, r_bi, r_ix, v7, r_ix1, r_k, r_ix2, x1, r_bi1, t2, r_op2, ad2, z_set1, z_seq1, z_skip, z_seq1, txt, if_neg hq]
      rfl
  rw [htxt]
  have v8 : ∀ {c9 : Cell} (om : Om), evE (tab prog wf m) (.v 8) [.val scr, .val (.amb 0), .val (.int (x : Int)), .val (.tup [.int n, .int d]), .val (.tup [.int a, .int b]), .val (.obj 0 [.int (nrm n d).1, .int (nrm n d).2]), .val (.obj 0 [.int (nrm a b).1, .int (nrm a b).2]), .val (.tup [.int (nrm n d).1, .int (nrm n d).2]), .val (.str (txt (nrm n d).1 (nrm n d).2)), c9] om = .ok (.str (txt (nrm n d).1 (nrm n d).2)) om := fun om => r_v rfl
  have C1 : ∀ (c9 : Cell), evE (tab prog wf m) (.or (.no (.call 18 [] (.cons (.v 5) (.cons (.v 7) .nil)))) (.or (.no (.call 11 [] (.cons (.bi .str (.v 5)) (.cons (.v 8) .nil)))) (.no (.call 18 [] (.cons (.op .add (.v 5) (.v 6)) (.cons (.call 13 [] (.cons (.v 3) (.cons (.v 4) .nil))) .nil)))))) [.val scr, .val (.amb 0), .val (.int (x : Int)), .val (.tup [.int n, .int d]), .val (.tup [.int a, .int b]), .val (.obj 0 [.int (nrm n d).1, .int (nrm n d).2]), .val (.obj 0 [.int (nrm a b).1, .int (nrm a b).2]), .val (.tup [.int (nrm n d).1, .int (nrm n d).2]), .val (.str (txt (nrm n d).1 (nrm n d).2)), c9] o5 = .ok (.bl false) o5 := fun c9 => by
    simp only [r_or, r_or2, r_no, r_no1, r_call, r_call1, r_l, r_l0, r_l1, r_l2, v3, v4, v5, v6, v7, v8, t_call, List.append_nil, List.cons_append, List.nil_append, fis, fsb, fss, fst, r_bi, r_bi1, r_op, r_op1, r_op2, o_add, o_sub, o_mul, f2, f3, f4, nox_ok, f13, f14, f15, Bool.not_true, r_meth, r_meth1, r_isCo, r_meth2, f6, f16', r_cm, r_cm1, r_cm2, feq, feqt, r_bl, r_ix, r_ix1, r_ix2, f12b, x0, x1, r_k]
  have C2 : ∀ (c9 : Cell), evE (tab prog wf m) (.or (.no (.call 18 [] (.cons (.op .sub (.v 5) (.v 6)) (.cons (.call 14 [] (.cons (.v 3) (.cons (.v 4) .nil))) .nil)))) (.no (.call 18 [] (.cons (.op .mul (.v 5) (.v 6)) (.cons (.call 15 [] (.cons (.v 3) (.cons (.v 4) .nil))) .nil))))) [.val scr, .val (.amb 0), .val (.int (x : Int)), .val (.tup [.int n, .int d]), .val (.tup [.int a, .int b]), .val (.obj 0 [.int (nrm n d).1, .int (nrm n d).2]), .val (.obj 0 [.int (nrm a b).1, .int (nrm a b).2]), .val (.tup [.int (nrm n d).1, .int (nrm n d).2]), .val (.str (txt (nrm n d).1 (nrm n d).2)), c9] o5 = .ok (.bl false) o5 := fun c9 => by
    simp only [r_or, r_or2, r_no, r_no1, r_call, r_call1, r_l, r_l0, r_l1, r_l2, v3, v4, v5, v6, v7, v8, t_call, List.append_nil, List.cons_append, List.nil_append, fis, fsb, fss, fst, r_bi, r_bi1, r_op, r_op1, r_op2, o_add, o_sub, o_mul, f2, f3, f4, nox_ok, f13, f14, f15, Bool.not_true, r_meth, r_meth1, r_isCo, r_meth2, f6, f16', r_cm, r_cm1, r_cm2, feq, feqt, r_bl, r_ix, r_ix1, r_ix2, f12b, x0, x1, r_k]
  have C3 : ∀ (c9 : Cell), evE (tab prog wf m) (.or (.no (.call 11 [] (.cons (.meth 0 6 [] (.v 5) (.cons (.v 6) .nil)) (.cons (.call 16 [] (.cons (.v 3) (.cons (.v 4) .nil))) .nil)))) (.no (.call 11 [] (.cons (.cm .eq (.v 5) (.v 6)) (.cons (.cm .eq (.call 12 [] (.cons (.ix (.v 4) (.k (.int 0))) (.cons (.ix (.v 4) (.k (.int 1))) .nil))) (.v 7)) .nil))))) [.val scr, .val (.amb 0), .val (.int (x : Int)), .val (.tup [.int n, .int d]), .val (.tup [.int a, .int b]), .val (.obj 0 [.int (nrm n d).1, .int (nrm n d).2]), .val (.obj 0 [.int (nrm a b).1, .int (nrm a b).2]), .val (.tup [.int (nrm n d).1, .int (nrm n d).2]), .val (.str (txt (nrm n d).1 (nrm n d).2)), c9] o5 = .ok (.bl false) o5 := fun c9 => by
    simp only [r_or, r_or2, r_no, r_no1, r_call, r_call1, r_l, r_l0, r_l1, r_l2, v3, v4, v5, v6, v7, v8, t_call, List.append_nil, List.cons_append, List.nil_append, fis, fsb, fss, fst, r_bi, r_bi1, r_op, r_op1, r_op2, o_add, o_sub, o_mul, f2, f3, f4, nox_ok, f13, f14, f15, Bool.not_true, r_meth, r_meth1, r_isCo, r_meth2, f6, f16', r_cm, r_cm1, r_cm2, feq, feqt, r_bl, r_ix, r_ix1, r_ix2, f12b, x0, x1, r_k]
  have C4 : ∀ (c9 : Cell), evE (tab prog wf m) (.or (.no (.call 18 [] (.cons (.v 5) (.cons (.v 7) .nil)))) (.or (.no (.call 18 [] (.cons (.v 6) (.cons (.call 12 [] (.cons (.ix (.v 4) (.k (.int 0))) (.cons (.ix (.v 4) (.k (.int 1))) .nil))) .nil)))) (.no (.call 11 [] (.cons (.meth 0 6 [] (.v 5) (.cons (.v 6) .nil)) (.cons (.call 16 [] (.cons (.v 3) (.cons (.v 4) .nil))) .nil)))))) [.val scr, .val (.amb 0), .val (.int (x : Int)), .val (.tup [.int n, .int d]), .val (.tup [.int a, .int b]), .val (.obj 0 [.int (nrm n d).1, .int (nrm n d).2]), .val (.obj 0 [.int (nrm a b).1, .int (nrm a b).2]), .val (.tup [.int (nrm n d).1, .int (nrm n d).2]), .val (.str (txt (nrm n d).1 (nrm n d).2)), c9] o5 = .ok (.bl false) o5 := fun c9 => by
    simp only [r_or, r_or2, r_no, r_no1, r_call, r_call1, r_l, r_l0, r_l1, r_l2, v3, v4, v5, v6, v7, v8, t_call, List.append_nil, List.cons_append, List.nil_append, fis, fsb, fss, fst, r_bi, r_bi1, r_op, r_op1, r_op2, o_add, o_sub, o_mul, f2, f3, f4, nox_ok, f13, f14, f15, Bool.not_true, r_meth, r_meth1, r_isCo, r_meth2, f6, f16', r_cm, r_cm1, r_cm2, feq, feqt, r_bl, r_ix, r_ix1, r_ix2, f12b, x0, x1, r_k]
  rw [z_seq, z_ite, C1, r_tr1, z_ite2, z_skip, z_seq1, z_seq, z_ite, C2, r_tr1, z_ite2, z_skip, z_seq1, z_seq, z_ite, C3, r_tr1, z_ite2, z_skip, z_seq1, z_seq, z_set, sg_ev rfl, z_set1, z_seq1]
  simp only [List.set_cons_succ, List.set_cons_zero]
  have fin : ∀ B : S, evS (tab prog wf m) (.seq (.ite (.or (.no (.call 18 [] (.cons (.v 5) (.cons (.v 7) .nil)))) (.or (.no (.call 18 [] (.cons (.v 6) (.cons (.call 12 [] (.cons (.ix (.v 4) (.k (.int 0))) (.cons (.ix (.v 4) (.k (.int 1))) .nil))) .nil)))) (.no (.call 11 [] (.cons (.meth 0 6 [] (.v 5) (.cons (.v 6) .nil)) (.cons (.call 16 [] (.cons (.v 3) (.cons (.v 4) .nil))) .nil)))))) (.seq (.ret (.k (.bl false))) .skip) .skip) .skip) [.val scr, .val (.amb 0), .val (.int (x : Int)), .val (.tup [.int n, .int d]), .val (.tup [.int a, .int b]), .val (.obj 0 [.int (nrm n d).1, .int (nrm n d).2]), .val (.obj 0 [.int (nrm a b).1, .int (nrm a b).2]), .val (.tup [.int (nrm n d).1, .int (nrm n d).2]), .val (.str (txt (nrm n d).1 (nrm n d).2)), .val (.int (if a < 0 then -1 else 1))] o5 = .next [.val scr, .val (.amb 0), .val (.int (x : Int)), .val (.tup [.int n, .int d]), .val (.tup [.int a, .int b]), .val (.obj 0 [.int (nrm n d).1, .int (nrm n d).2]), .val (.obj 0 [.int (nrm a b).1, .int (nrm a b).2]), .val (.tup [.int (nrm n d).1, .int (nrm n d).2]), .val (.str (txt (nrm n d).1 (nrm n d).2)), .val (.int (if a < 0 then -1 else 1))] o5 := fun B => by
    rw [z_seq, z_ite, C4, r_tr1, z_ite2, z_skip, z_seq1, z_skip]
  by_cases ha0 : a = 0
  · have hr : callN prog wf m 19 [.tup [.int n, .int d], .tup [.int a, .int b]] o5 = .ok (.bl true) o5 := by
      subst ha0
      exact refused1 (by omega) hwf h1 h2
    rw [z_seq, z_ite, r_cm, r_ix, v4, r_ix1, r_k, r_ix2, x0, r_cm1, r_k, r_cm2, o_eqi, decide_eq_true ha0, r_bl, r_tr1, z_ite1, z_seq, z_ite, r_no, r_call, r_l, v3, r_l1, r_l, v4, r_l1, r_l0, r_l2, r_l2, r_call1, show (tab prog wf m).call 19 ([.tup [.int n, .int d], .tup [.int a, .int b]] ++ []) o5 = callN prog wf m 19 [.tup [.int n, .int d], .tup [.int a, .int b]] o5 from rfl, hr, r_no1, Bool.not_true, r_tr1, z_ite2, z_skip, z_seq1, z_skip, z_seq1]
    exact fin .skip
  · have v9 : ∀ (om : Om), evE (tab prog wf m) (.v 9) [.val scr, .val (.amb 0), .val (.int (x : Int)), .val (.tup [.int n, .int d]), .val (.tup [.int a, .int b]), .val (.obj 0 [.int (nrm n d).1, .int (nrm n d).2]), .val (.obj 0 [.int (nrm a b).1, .int (nrm a b).2]), .val (.tup [.int (nrm n d).1, .int (nrm n d).2]), .val (.str (txt (nrm n d).1 (nrm n d).2)), .val (.int (if a < 0 then -1 else 1))] om = .ok (.int (if a < 0 then -1 else 1)) om := fun om => r_v rfl
    have hs1 : (n * b).natAbs < 2 ^ 3100 := by
      rw [Int.natAbs_mul]
      refine Nat.lt_of_le_of_lt (Nat.mul_le_mul (Nat.le_of_lt h1.num) (Nat.le_of_lt h2.den)) ?_
      rw [← Nat.pow_add]
      exact Nat.pow_lt_pow_right (by decide) (by decide)
    have hs2 : (d * a).natAbs < 2 ^ 3100 := by
      rw [Int.natAbs_mul]
      refine Nat.lt_of_le_of_lt (Nat.mul_le_mul (Nat.le_of_lt h1.den) (Nat.le_of_lt h2.num)) ?_
      rw [← Nat.pow_add]
      exact Nat.pow_lt_pow_right (by decide) (by decide)
    have hsg : (if a < 0 then (-1 : Int) else 1).natAbs < 2 ^ 1 := by split <;> decide
    have m1 : CMulW (n * b) (if a < 0 then -1 else 1) := cmulW_s hs1 hsg (by decide) (by decide) (by decide)
    have m2 : CMulW (d * a) (if a < 0 then -1 else 1) := cmulW_s hs2 hsg (by decide) (by decide) (by decide)
    have fb := fby ha0
    have fc := f12c ha0 _ rfl
    have C5 : evE (tab prog wf m) (.no (.call 18 [] (.cons (.meth 0 7 [] (.v 5) (.cons (.v 6) .nil)) (.cons (.call 12 [] (.cons (.op .mul (.op .mul (.ix (.v 3) (.k (.int 0))) (.ix (.v 4) (.k (.int 1)))) (.v 9)) (.cons (.op .mul (.op .mul (.ix (.v 3) (.k (.int 1))) (.ix (.v 4) (.k (.int 0)))) (.v 9)) .nil))) .nil)))) [.val scr, .val (.amb 0), .val (.int (x : Int)), .val (.tup [.int n, .int d]), .val (.tup [.int a, .int b]), .val (.obj 0 [.int (nrm n d).1, .int (nrm n d).2]), .val (.obj 0 [.int (nrm a b).1, .int (nrm a b).2]), .val (.tup [.int (nrm n d).1, .int (nrm n d).2]), .val (.str (txt (nrm n d).1 (nrm n d).2)), .val (.int (if a < 0 then -1 else 1))] o5 = .ok (.bl false) o5 := by
      simp only [r_no, r_no1, r_call, r_call1, r_l, r_l0, r_l1, r_l2, v3, v4, v5, v6, v9, t_call, List.append_nil, List.cons_append, List.nil_append, fis, r_op, r_op1, r_op2, o_muli mnb, o_muli mda, o_muli m1, o_muli m2, r_meth, r_meth1, r_isCo, r_meth2, fb, fc, r_ix, r_ix1, r_ix2, x0, x1, r_k, Bool.not_true]
    rw [z_seq, z_ite, r_cm, r_ix, v4, r_ix1, r_k, r_ix2, x0, r_cm1, r_k, r_cm2, o_eqi, decide_eq_false ha0, r_bl, r_tr1, z_ite2, z_seq, z_ite, C5, r_tr1, z_ite2, z_skip, z_seq1, z_skip, z_seq1]
    exact fin .skip
theorem LB2_ok (hm : 3 < m) {scr : D} {x : Nat} (hx : x < 2) {c3 c4 c5 c6 c7 c8 c9 : Cell} (hp : PoolAt om r) :
    ∃ om', evS (tab prog wf m) LB2 [.val scr, .val (.amb 0), .val (.int (x : Int)), c3, c4, c5, c6, c7, c8, c9] om = .next [.val scr, .val (.amb 0), .val (.int (x : Int)), c3, c4, c5, c6, c7, c8, c9] om' ∧ PoolAt om' r := by
  obtain ⟨v1, o1, e1, a1, b1, p1⟩ := draw (wf := wf) (m := m) (s := 9) (by omega) (by decide) (by decide) hp
  obtain ⟨v2, o2, e2, a2, b2, p2⟩ := draw (wf := wf) (m := m) (s := 3) (by omega) (by decide) (by decide) p1
  obtain ⟨v3, o3, e3, a3, b3, p3⟩ := draw (wf := wf) (m := m) (s := 1001) (by omega) (by decide) (by decide) p2
  have hd : ∃ d : Int, 0 ≤ d ∧ ∀ om, ixD (.tup [.int v2, .int v3]) (.int (x : Int)) om = .ok (.int d) om := by
    have h3 : x = 0 ∨ x = 1 := by omega
    rcases h3 with rfl | rfl
    · exact ⟨_, a2, fun om => x_t atI0⟩
    · exact ⟨_, a3, fun om => x_t atI1⟩
  obtain ⟨d, hd0, hd1⟩ := hd
  have hr := refused0 (wf := wf) (m := m) (om := o3) (n := v1 - 4) (d := 0 - d) (by omega) (by omega)
  refine ⟨o3, ?_, p3⟩
  unfold LB2 B_law
  dsimp only
  have vv1 : ∀ om, evE (tab prog wf m) (.v 1) [.val scr, .val (.amb 0), .val (.int (x : Int)), c3, c4, c5, c6, c7, c8, c9] om = .ok (.amb 0) om := fun om => r_v rfl
  have vv2 : ∀ om, evE (tab prog wf m) (.v 2) [.val scr, .val (.amb 0), .val (.int (x : Int)), c3, c4, c5, c6, c7, c8, c9] om = .ok (.int (x : Int)) om := fun om => r_v rfl
  have C : evE (tab prog wf m) (.no (.call 19 [] (.cons (.tup (.cons (.op .sub (.call 10 [] (.cons (.v 1) (.cons (.k (.int 9)) .nil))) (.k (.int 4))) (.cons (.op .sub (.k (.int 0)) (.ix (.tup (.cons (.call 10 [] (.cons (.v 1) (.cons (.k (.int 3)) .nil))) (.cons (.call 10 [] (.cons (.v 1) (.cons (.k (.int 1001)) .nil))) .nil))) (.v 2))) .nil))) (.cons (.k .non) .nil)))) [.val scr, .val (.amb 0), .val (.int (x : Int)), c3, c4, c5, c6, c7, c8, c9] om = .ok (.bl false) o3 := by
    have hz : ∀ (y z : D) (om : Om), kTup (.ok [y, z] om) = .ok (.tup [y, z]) om := fun y z om => by rw [r_tup1, if_pos (by simp)]
    simp only [r_no, r_call, r_l, r_tup, r_op, vv1, vv2, r_l1, r_k, r_l0, r_l2, r_call1, t_call, List.append_nil, e1, e2, e3, r_op1, r_op2, o_subi, hz, r_ix, r_ix1, r_ix2, hd1, hr, r_no1, Bool.not_true]
  rw [z_seq, z_ite, C, r_tr1, z_ite2, z_skip, z_seq1, z_skip]
end
end
theorem law_true (ns : List Int) (hl : ns.length ≤ 63) (hb : ∀ z ∈ ns, Builtin.Int.intBits z ≤ 1048576) : ∃ wf om', callN prog wf 100 22 [.scr (ns.map D.int)] [] = .ok (.bl true) om' := by
  have hpool : callN prog 5000 99 9 [.scr (ns.map D.int), .int 0] [] = .ok (.lst (poolD ns 0 0 1 0 0)) [] := by
    refine call_retF (d := ⟨2, 2, B_Lpool, none⟩) (xs := poolD ns 0 0 1 0 0) rfl rfl ?_
    simp [B_Lpool, slots]
  have p0 : PoolAt [.pl (poolD ns 0 0 1 0 0)] [] := ⟨ns, 0, 0, 1, 0, 0, rfl, by decide, by decide, by decide⟩
  have loop := for_all (T := tab prog 5000 99) (i := 2) (b := LB) (sl := [.val (.scr (ns.map D.int)), .val (.amb 0), .no, .no, .no, .no, .no, .no, .no, .no]) (om := [.pl (poolD ns 0 0 1 0 0)]) (f := fun k : Nat => D.int k) (List.range 4)
    (fun _ sl om => ∃ c2 c3 c4 c5 c6 c7 c8 c9, sl = [.val (.scr (ns.map D.int)), .val (.amb 0), c2, c3, c4, c5, c6, c7, c8, c9] ∧ PoolAt om []) ⟨_, _, _, _, _, _, _, _, rfl, p0⟩
    (by
      rintro done x rest hall sl om ⟨c2, c3, c4, c5, c6, c7, c8, c9, rfl, hp⟩
      obtain ⟨e3, e4, e5, e6, e7, e8, e9, om', h, hp'⟩ := LB_ok (wf := 5000) (m := 99) (scr := .scr (ns.map D.int)) (x := x) (c3 := c3) (c4 := c4) (c5 := c5) (c6 := c6) (c7 := c7) (c8 := c8) (c9 := c9) (by decide) (by decide) hp
      exact ⟨_, om', h, _, _, _, _, _, _, _, _, rfl, hp'⟩)
  obtain ⟨sl1, om1, ef1, c2, c3, c4, c5, c6, c7, c8, c9, rfl, p1⟩ := loop
  have loop2 := for_all (T := tab prog 5000 99) (i := 2) (b := LB2) (sl := [.val (.scr (ns.map D.int)), .val (.amb 0), c2, c3, c4, c5, c6, c7, c8, c9]) (om := om1) (f := fun k : Nat => D.int k) (List.range 2)
    (fun _ sl om => ∃ c2, sl = [.val (.scr (ns.map D.int)), .val (.amb 0), c2, c3, c4, c5, c6, c7, c8, c9] ∧ PoolAt om []) ⟨_, rfl, p1⟩
    (by
      rintro done x rest hall sl om ⟨c2, rfl, hp⟩
      have hx : x < 2 := List.mem_range.mp (by rw [hall]; simp)
      obtain ⟨om', h, hp'⟩ := LB2_ok (wf := 5000) (m := 99) (scr := .scr (ns.map D.int)) (x := x) (c3 := c3) (c4 := c4) (c5 := c5) (c6 := c6) (c7 := c7) (c8 := c8) (c9 := c9) (by decide) hx hp
      exact ⟨_, om', h, _, rfl, hp'⟩)
  obtain ⟨sl2, om2, ef2, c2', rfl, p2⟩ := loop2
  have hi : initN prog 5000 99 0 [.int 7, .int 1] om2 = .ok [.int (nrm 7 1).1, .int (nrm 7 1).2] om2 := init (by decide) (by decide) (by decide) (Nat.lt_of_lt_of_le (by decide : (1 : Int).natAbs < fib 3) (fib_mono (by omega)))
  have h71 : nrm 7 1 = (7, 1) := rfl
  rw [h71] at hi
  have hmk : kMk2 (tab prog 5000 99) (.ok [.int 7, .int 1] om2) 0 = .ok (.obj 0 [.int 7, .int 1]) om2 := rfl
  dsimp only at hi
  have his : callN prog 5000 99 18 [.obj 0 [.int 7, .int 1], .tup [.int 7, .int 1]] om2 = .ok (.bl true) om2 := isM (by decide)
  refine ⟨5000, om2, call_ret (d := ⟨1, 10, B_law, none⟩) rfl rfl rfl ?_⟩
  have hs : slots ⟨1, 10, B_law, none⟩ [.scr (ns.map D.int)] = [.val (.scr (ns.map D.int)), .no, .no, .no, .no, .no, .no, .no, .no, .no] := rfl
  have hB : B_law = .seq (.setA 1 (.call 9 [] (.cons (.v 0) (.cons (.k (.int 0)) .nil)))) (.seq (.fo (.one 2) (.rng1 (.k (.int 4))) LB) (.seq (.fo (.one 2) (.rng1 (.k (.int 2))) LB2) (.seq (.ret (.call 18 [] (.cons (.mk 0 0 [(.int 1)] (.cons (.k (.int 7)) .nil)) (.cons (.tup (.cons (.k (.int 7)) (.cons (.k (.int 1)) .nil))) .nil)))) .skip))) := rfl
  have hr4 : ∀ om : Om, kR1 (.ok (.int 4) om) = .ok ((List.range 4).map fun (k : Nat) => .int k) om := fun om => r_rng1a (by decide) (by decide)
  have hr2 : ∀ om : Om, kR1 (.ok (.int 2) om) = .ok ((List.range 2).map fun (k : Nat) => .int k) om := fun om => r_rng1a (by decide) (by decide)
  rw [hs]
  show evS (tab prog 5000 99) B_law _ _ = _
  rw [hB, z_seq, z_setA, r_call, r_l, r_v rfl, r_l1, r_l, r_k, r_l1, r_l0, r_l2, r_l2, r_call1]
  rw [show (tab prog 5000 99).call 9 ([.scr (ns.map D.int), .int 0] ++ []) [] = callN prog 5000 99 9 [.scr (ns.map D.int), .int 0] [] from rfl, hpool, z_setA1, z_seq1]
  simp only [List.set_cons_succ, List.set_cons_zero, List.length_nil, List.nil_append]
  rw [z_seq, z_fo, r_rng1, r_k, hr4, z_fo1, ef1, z_seq1, z_seq, z_fo, r_rng1, r_k, hr2, z_fo1, ef2, z_seq1, z_seq, z_ret, r_call, r_l, r_mk, r_l, r_k, r_l1, r_l0, r_l2, r_mk1]
  rw [show (tab prog 5000 99).init 0 ([.int 7] ++ [.int 1]) om2 = initN prog 5000 99 0 [.int 7, .int 1] om2 from rfl, hi, hmk, r_l1, r_l, r_tup, r_l, r_k, r_l1, r_l, r_k, r_l1, r_l0, r_l2, r_l2, r_tup1, if_pos (by simp), r_l1, r_l0, r_l2, r_l2, r_call1]
  rw [show (tab prog 5000 99).call 18 ([.obj 0 [.int 7, .int 1], .tup [.int 7, .int 1]] ++ []) om2 = callN prog 5000 99 18 [.obj 0 [.int 7, .int 1], .tup [.int 7, .int 1]] om2 from rfl, his, z_ret1, z_seq2]
end K00

set_option Elab.async false
set_option linter.all false
set_option maxRecDepth 100000
set_option maxHeartbeats 4000000
namespace K00
open PySem PySem.Spec PyProof.Rows L2 PD
section
variable {P : Program} {w : World} {K : PySem.W.Frag} {mg : Str → Option Value} {base : Heap} {ca : Nat → Addr} {fi : Nat → FI}
/-- where each def stands in the text -/
structure Deft (K : PySem.W.Frag) (fi : Nat → FI) : Prop where
  f0 : FunA K "__init__" "Ratio.__init__" s_Ratio_init (fi 0).addr (fi 0).fd
  p0 : (fi 0).ps = (["self", "num", "den"] : List Str)
  f1 : FunA K "__eq__" "Ratio.__eq__" s_Ratio_eq (fi 1).addr (fi 1).fd
  p1 : (fi 1).ps = (["self", "other"] : List Str)
  f2 : FunA K "__add__" "Ratio.__add__" s_Ratio_add (fi 2).addr (fi 2).fd
  p2 : (fi 2).ps = (["self", "other"] : List Str)
  f3 : FunA K "__sub__" "Ratio.__sub__" s_Ratio_sub (fi 3).addr (fi 3).fd
  p3 : (fi 3).ps = (["self", "other"] : List Str)
  f4 : FunA K "__mul__" "Ratio.__mul__" s_Ratio_mul (fi 4).addr (fi 4).fd
  p4 : (fi 4).ps = (["self", "other"] : List Str)
  f5 : FunA K "__str__" "Ratio.__str__" s_Ratio_str (fi 5).addr (fi 5).fd
  p5 : (fi 5).ps = (["self"] : List Str)
  f6 : FunA K "less" "Ratio.less" s_Ratio_less (fi 6).addr (fi 6).fd
  p6 : (fi 6).ps = (["self", "other"] : List Str)
  f7 : FunA K "by" "Ratio.by" s_Ratio_by (fi 7).addr (fi 7).fd
  p7 : (fi 7).ps = (["self", "other"] : List Str)
  f8 : FunA K "common" "common" s_common (fi 8).addr (fi 8).fd
  p8 : (fi 8).ps = (["one", "other"] : List Str)
  f9 : FunA K "_law_pool" "_law_pool" s_Lpool (fi 9).addr (fi 9).fd
  p9 : (fi 9).ps = (["_law_script", "_law_budget"] : List Str)
  f10 : FunA K "_law_draw" "_law_draw" s_Ldraw (fi 10).addr (fi 10).fd
  p10 : (fi 10).ps = (["_law_pool_here", "_law_size"] : List Str)
  f11 : FunA K "_law_same" "_law_same" s_Lsame (fi 11).addr (fi 11).fd
  p11 : (fi 11).ps = (["_law_actual", "_law_due"] : List Str)
  f12 : FunA K "_law_less" "_law_less" s_Lless (fi 12).addr (fi 12).fd
  p12 : (fi 12).ps = (["_law_num", "_law_den"] : List Str)
  f13 : FunA K "_law_plus" "_law_plus" s_Lplus (fi 13).addr (fi 13).fd
  p13 : (fi 13).ps = (["_law_one", "_law_other"] : List Str)
  f14 : FunA K "_law_minus" "_law_minus" s_Lminus (fi 14).addr (fi 14).fd
  p14 : (fi 14).ps = (["_law_one", "_law_other"] : List Str)
  f15 : FunA K "_law_times" "_law_times" s_Ltimes (fi 15).addr (fi 15).fd
  p15 : (fi 15).ps = (["_law_one", "_law_other"] : List Str)
  f16 : FunA K "_law_below" "_law_below" s_Lbelow (fi 16).addr (fi 16).fd
  p16 : (fi 16).ps = (["_law_one", "_law_other"] : List Str)
  f17 : FunA K "_law_ratio" "_law_ratio" s_Lratio (fi 17).addr (fi 17).fd
  p17 : (fi 17).ps = (["_law_pair_here"] : List Str)
  f18 : FunA K "_law_is" "_law_is" s_Lis (fi 18).addr (fi 18).fd
  p18 : (fi 18).ps = (["_law_ratio_here", "_law_due"] : List Str)
  f19 : FunA K "_law_refused" "_law_refused" s_Lrefused (fi 19).addr (fi 19).fd
  p19 : (fi 19).ps = (["_law_one", "_law_other"] : List Str)
  f20 : FunA K "_law_pair" "_law_pair" s_Lpair (fi 20).addr (fi 20).fd
  p20 : (fi 20).ps = (["_law_pool_here"] : List Str)
  f21 : FunA K "_law_chain" "_law_chain" s_Lchain (fi 21).addr (fi 21).fd
  p21 : (fi 21).ps = (["_law_count"] : List Str)
  f22 : FunA K "law" "law" s_law (fi 22).addr (fi 22).fd
  p22 : (fi 22).ps = (["_law_script"] : List Str)
theorem link (Tx : Txt K mg ca fi) (Dx : Deft K fi) : ∀ n, Lnk P w K mg base (lk ca) prog fi n
  | 0 => {
      fn := fun f d _ _ => fn_zero spD_zero
      ini := fun f d c _ _ => fn_zero spI_zero
      nf := nf_ok ca
      opm := opm_ok Tx
      eqm := eqm_ok Tx
      strm := strm_ok Tx }
  | n + 1 => by
    have hL := link Tx Dx n
    exact {
      nf := nf_ok ca
      opm := opm_ok Tx
      eqm := eqm_ok Tx
      strm := strm_ok Tx
      fn := fun f d h hc => by
        match f, h with
        | 0, h => cases h; cases hc
        | 1, h => cases h; rw [Dx.p1]; exact fn_ok (N := (["self", "other"] : List Str)) Dx.f1 sc_Ratio_eq rfl rfl rfl rfl (by decide) fun wf cdv A outer s H E hr => b_Ratio_eq hL Tx hr
        | 2, h => cases h; rw [Dx.p2]; exact fn_ok (N := (["self", "other"] : List Str)) Dx.f2 sc_Ratio_add rfl rfl rfl rfl (by decide) fun wf cdv A outer s H E hr => b_Ratio_add hL Tx hr
        | 3, h => cases h; rw [Dx.p3]; exact fn_ok (N := (["self", "other"] : List Str)) Dx.f3 sc_Ratio_sub rfl rfl rfl rfl (by decide) fun wf cdv A outer s H E hr => b_Ratio_sub hL Tx hr
        | 4, h => cases h; rw [Dx.p4]; exact fn_ok (N := (["self", "other"] : List Str)) Dx.f4 sc_Ratio_mul rfl rfl rfl rfl (by decide) fun wf cdv A outer s H E hr => b_Ratio_mul hL Tx hr
        | 5, h => cases h; rw [Dx.p5]; exact fn_ok (N := (["self"] : List Str)) Dx.f5 sc_Ratio_str rfl rfl rfl rfl (by decide) fun wf cdv A outer s H E hr => b_Ratio_str hL Tx hr
        | 6, h => cases h; rw [Dx.p6]; exact fn_ok (N := (["self", "other"] : List Str)) Dx.f6 sc_Ratio_less rfl rfl rfl rfl (by decide) fun wf cdv A outer s H E hr => b_Ratio_less hL Tx hr
        | 7, h => cases h; rw [Dx.p7]; exact fn_ok (N := (["self", "other", "sign"] : List Str)) Dx.f7 sc_Ratio_by rfl rfl rfl rfl (by decide) fun wf cdv A outer s H E hr => b_Ratio_by hL Tx hr
        | 8, h => cases h; rw [Dx.p8]; exact fn_ok (N := (["one", "other"] : List Str)) Dx.f8 sc_common rfl rfl rfl rfl (by decide) fun wf cdv A outer s H E hr => b_common hL Tx hr
        | 9, h => cases h; rw [Dx.p9]; exact fn_ok (N := (["_law_script", "_law_budget"] : List Str)) Dx.f9 sc_Lpool rfl rfl rfl rfl (by decide) fun wf cdv A outer s H E hr => b_Lpool hL Tx hr
        | 10, h => cases h; rw [Dx.p10]; exact fn_ok (N := (["_law_pool_here", "_law_size", "_law_cell", "_law_value"] : List Str)) Dx.f10 sc_Ldraw rfl rfl rfl rfl (by decide) fun wf cdv A outer s H E hr => b_Ldraw hL Tx hr
        | 11, h => cases h; rw [Dx.p11]; exact fn_ok (N := (["_law_actual", "_law_due", "_law_k"] : List Str)) Dx.f11 sc_Lsame rfl rfl rfl rfl (by decide) fun wf cdv A outer s H E hr => b_Lsame hL Tx hr
        | 12, h => cases h; rw [Dx.p12]; exact fn_ok (N := (["_law_num", "_law_den", "_law_a", "_law_b", "_law_k"] : List Str)) Dx.f12 sc_Lless rfl rfl rfl rfl (by decide) fun wf cdv A outer s H E hr => b_Lless hL Tx hr
        | 13, h => cases h; rw [Dx.p13]; exact fn_ok (N := (["_law_one", "_law_other"] : List Str)) Dx.f13 sc_Lplus rfl rfl rfl rfl (by decide) fun wf cdv A outer s H E hr => b_Lplus hL Tx hr
        | 14, h => cases h; rw [Dx.p14]; exact fn_ok (N := (["_law_one", "_law_other"] : List Str)) Dx.f14 sc_Lminus rfl rfl rfl rfl (by decide) fun wf cdv A outer s H E hr => b_Lminus hL Tx hr
        | 15, h => cases h; rw [Dx.p15]; exact fn_ok (N := (["_law_one", "_law_other"] : List Str)) Dx.f15 sc_Ltimes rfl rfl rfl rfl (by decide) fun wf cdv A outer s H E hr => b_Ltimes hL Tx hr
        | 16, h => cases h; rw [Dx.p16]; exact fn_ok (N := (["_law_one", "_law_other"] : List Str)) Dx.f16 sc_Lbelow rfl rfl rfl rfl (by decide) fun wf cdv A outer s H E hr => b_Lbelow hL Tx hr
        | 17, h => cases h; rw [Dx.p17]; exact fn_ok (N := (["_law_pair_here"] : List Str)) Dx.f17 sc_Lratio rfl rfl rfl rfl (by decide) fun wf cdv A outer s H E hr => b_Lratio hL Tx hr
        | 18, h => cases h; rw [Dx.p18]; exact fn_ok (N := (["_law_ratio_here", "_law_due"] : List Str)) Dx.f18 sc_Lis rfl rfl rfl rfl (by decide) fun wf cdv A outer s H E hr => b_Lis hL Tx hr
        | 19, h => cases h; rw [Dx.p19]; exact fn_ok (N := (["_law_one", "_law_other", "e"] : List Str)) Dx.f19 sc_Lrefused rfl rfl rfl rfl (by decide) fun wf cdv A outer s H E hr => b_Lrefused hL Tx hr
        | 20, h => cases h; rw [Dx.p20]; exact fn_ok (N := (["_law_pool_here", "_law_num"] : List Str)) Dx.f20 sc_Lpair rfl rfl rfl rfl (by decide) fun wf cdv A outer s H E hr => b_Lpair hL Tx hr
        | 21, h => cases h; rw [Dx.p21]; exact fn_ok (N := (["_law_count", "_law_one", "_law_other", "_law_turn", "_law_kept"] : List Str)) Dx.f21 sc_Lchain rfl rfl rfl rfl (by decide) fun wf cdv A outer s H E hr => b_Lchain hL Tx hr
        | 22, h => cases h; rw [Dx.p22]; exact fn_ok (N := (["_law_script", "_law_pool_here", "_law_turn", "_law_one", "_law_other", "_law_a", "_law_b", "_law_due", "_law_text", "_law_sign"] : List Str)) Dx.f22 sc_law rfl rfl rfl rfl (by decide) fun wf cdv A outer s H E hr => b_law hL Tx hr
        | k + 23, h => exact nomatch (show (none : Option Def) = some d from h)
      ini := fun f d c h hc => by
        match f, h with
        | 0, h => cases h; cases hc; rw [Dx.p0]; exact fnI_ok (N := (["self", "num", "den", "shared"] : List Str)) Dx.f0 sc_Ratio_init rfl rfl rfl rfl (by decide) fun wf cdv A outer s H E hr => b_Ratio_init hL Tx hr
        | 1, h => cases h; cases hc
        | 2, h => cases h; cases hc
        | 3, h => cases h; cases hc
        | 4, h => cases h; cases hc
        | 5, h => cases h; cases hc
        | 6, h => cases h; cases hc
        | 7, h => cases h; cases hc
        | 8, h => cases h; cases hc
        | 9, h => cases h; cases hc
        | 10, h => cases h; cases hc
        | 11, h => cases h; cases hc
        | 12, h => cases h; cases hc
        | 13, h => cases h; cases hc
        | 14, h => cases h; cases hc
        | 15, h => cases h; cases hc
        | 16, h => cases h; cases hc
        | 17, h => cases h; cases hc
        | 18, h => cases h; cases hc
        | 19, h => cases h; cases hc
        | 20, h => cases h; cases hc
        | 21, h => cases h; cases hc
        | 22, h => cases h; cases hc
        | k + 23, h => exact nomatch (show (none : Option Def) = some d from h) }
/-- law's: a list of at most 63 ints of at most 2^20 bits is handed in, True comes out -/
def spLaw (K : PySem.W.Frag) : Sp := fun vs H Q _ => ∃ (a : Addr) (ns : List Int), vs = [.ref a] ∧ SqL K H a (ns.map V.int) ∧ ns.length ≤ 63 ∧ (∀ z ∈ ns, Builtin.Int.intBits z ≤ 1048576) ∧ ∀ H', Q (.bl true) H'
theorem ints_rep {L : Lk} {G : Hp} {am : List Addr} : ∀ ns : List Int, RepL K L G am (ns.map D.int) (ns.map V.int)
  | [] => .nil
  | n :: ns => .cons (.int n) (ints_rep ns)
theorem law_sp {L : Lk} (vs : List V) (H : Hp) (Q : VK) (E : XK) (h : spLaw K vs H Q E) : spD K L prog 100 22 vs H Q E := by
  obtain ⟨a, ns, rfl, hS, hl, hb, k⟩ := h
  obtain ⟨wf, om', e⟩ := law_true ns hl hb
  have M : Mem K L (fun _ => none) H [] [] H := { gH := fun _ _ h => h, fH := fun _ _ h => (nomatch h), fg := fun _ _ h => (nomatch h), len := rfl, obs := fun _ _ _ h => (nomatch h), nd := List.nodup_nil, ag := fun _ h => (nomatch h), af := fun _ h => (nomatch h) }
  refine ⟨wf, fun _ => none, H, [], [], [.scr (ns.map D.int)], M, .cons (.scr hS (ints_rep ns)) .nil, ⟨_, rfl, rfl⟩, ?_⟩
  rw [if_neg (by decide), e]
  intro v H' G' am' g M r
  cases r
  exact k H'
end
theorem all_mk {P : Program} {w : World} {K : PySem.W.Frag} {h : Heap} {mg : Str → Option Value} {fa C0 C6 C3 C4 C5 C2 C1 C7 f0 f1 f2 f3 f4 f5 f6 f7 f8 f9 f10 f11 f12 f13 f14 f15 f16 f17 f18 f19 f20 f21 f22 : Addr} (X : K.In h) (G : h.Ns mainGlobals mg) (hfa : mg "law" = some (.ref fa))
    {od0 an0 : Option Addr} {sl0 : Array (Option Value)} {oc0 kV0 dc0 pm0 cd0 ct0 : Value} {od1 an1 : Option Addr} {sl1 : Array (Option Value)} {oc1 kV1 dc1 pm1 cd1 ct1 : Value} {od2 an2 : Option Addr} {sl2 : Array (Option Value)} {oc2 kV2 dc2 pm2 cd2 ct2 : Value} {od3 an3 : Option Addr} {sl3 : Array (Option Value)} {oc3 kV3 dc3 pm3 cd3 ct3 : Value} {od4 an4 : Option Addr} {sl4 : Array (Option Value)} {oc4 kV4 dc4 pm4 cd4 ct4 : Value} {od5 an5 : Option Addr} {sl5 : Array (Option Value)} {oc5 kV5 dc5 pm5 cd5 ct5 : Value} {od6 an6 : Option Addr} {sl6 : Array (Option Value)} {oc6 kV6 dc6 pm6 cd6 ct6 : Value} {od7 an7 : Option Addr} {sl7 : Array (Option Value)} {oc7 kV7 dc7 pm7 cd7 ct7 : Value} {od8 an8 : Option Addr} {sl8 : Array (Option Value)} {oc8 kV8 dc8 pm8 cd8 ct8 : Value} {od9 an9 : Option Addr} {sl9 : Array (Option Value)} {oc9 kV9 dc9 pm9 cd9 ct9 : Value} {od10 an10 : Option Addr} {sl10 : Array (Option Value)} {oc10 kV10 dc10 pm10 cd10 ct10 : Value} {od11 an11 : Option Addr} {sl11 : Array (Option Value)} {oc11 kV11 dc11 pm11 cd11 ct11 : Value} {od12 an12 : Option Addr} {sl12 : Array (Option Value)} {oc12 kV12 dc12 pm12 cd12 ct12 : Value} {od13 an13 : Option Addr} {sl13 : Array (Option Value)} {oc13 kV13 dc13 pm13 cd13 ct13 : Value} {od14 an14 : Option Addr} {sl14 : Array (Option Value)} {oc14 kV14 dc14 pm14 cd14 ct14 : Value} {od15 an15 : Option Addr} {sl15 : Array (Option Value)} {oc15 kV15 dc15 pm15 cd15 ct15 : Value} {od16 an16 : Option Addr} {sl16 : Array (Option Value)} {oc16 kV16 dc16 pm16 cd16 ct16 : Value} {od17 an17 : Option Addr} {sl17 : Array (Option Value)} {oc17 kV17 dc17 pm17 cd17 ct17 : Value} {od18 an18 : Option Addr} {sl18 : Array (Option Value)} {oc18 kV18 dc18 pm18 cd18 ct18 : Value} {od19 an19 : Option Addr} {sl19 : Array (Option Value)} {oc19 kV19 dc19 pm19 cd19 ct19 : Value} {od20 an20 : Option Addr} {sl20 : Array (Option Value)} {oc20 kV20 dc20 pm20 cd20 ct20 : Value} {od21 an21 : Option Addr} {sl21 : Array (Option Value)} {oc21 kV21 dc21 pm21 cd21 ct21 : Value} {od22 an22 : Option Addr} {sl22 : Array (Option Value)} {oc22 kV22 dc22 pm22 cd22 ct22 : Value} {T0 : Addr} {oT0 : Obj} {nT0 : Nat} {tk0_0 : Tok} 
    (aC0 : PySem.W.nsIn K mainGlobals "Ratio" = some (some (.ref C0)))
    (pg0 : PySem.W.plainGet K C0 Str.empty = true)
    (hd0 : PySem.W.hasDictIn K C0 = true)
    (po0 : PySem.W.plainOver K C0 = true)
    (sa0 : PySem.W.findIn K (.ref C0) "__setattr__" = some (some (.builtin "object.__setattr__")))
    (mk0 : PySem.W.makesIn K C0 = true)
    (kc0 : PySem.W.keepIn K (.ref C0) = true)
    (nf0_0 : PySem.W.findIn K (.ref C0) "num" = some none)
    (nf0_1 : PySem.W.findIn K (.ref C0) "den" = some none)
    (ha0 : PySem.W.findIn K (.ref C0) "__class__" = some (some (.builtin "object.__class__")))
    (hm0 : PySem.W.mroIn K C0 (.type "object") = some true)
    (kt0 : PySem.W.kitOne K (.ref C0) (.ref C0) = some true)
    (sf0 : PySem.W.selfFirst K C0 = true)
    (nt0 : PySem.W.notFirst K C0 (.ref C0) = true)
    (aX6 : PySem.W.nsIn K mainGlobals "BadPaper" = some (some (.ref C6)))
    (aX3 : PySem.W.nsIn K mainGlobals "BadRatio" = some (some (.ref C3)))
    (xi3 : PySem.W.excIn K C3 [.type "ValueError", .type "Exception", .type "BaseException", .type "object"] "ValueError.__new__" = true)
    (xk3 : PySem.W.keepIn K (.ref C3) = true)
    (xb3 : PySem.W.subIn K (.ref C3) (.type "BaseException") = some true)
    (xt3 : PySem.W.typeIn K (.ref C3) = some (.type "type"))
    (xd3 : PySem.W.hasDictIn K C3 = true)
    (xg3 : PySem.W.findIn K (.ref C3) "__getattribute__" = some (some (.builtin "BaseException.__getattribute__")))
    (xh3 : PySem.W.findIn K (.ref C3) "__getattr__" = some none)
    (xa3 : PySem.W.findIn K (.ref C3) "__class__" = some (some (.builtin "object.__class__")))
    (xo3 : PySem.W.mroIn K C3 (.type "object") = some true)
    (aX4 : PySem.W.nsIn K mainGlobals "BadTable" = some (some (.ref C4)))
    (aX5 : PySem.W.nsIn K mainGlobals "BadTask" = some (some (.ref C5)))
    (aX2 : PySem.W.nsIn K mainGlobals "BadText" = some (some (.ref C2)))
    (aX1 : PySem.W.nsIn K mainGlobals "SeeError" = some (some (.ref C1)))
    (xb1 : PySem.W.subIn K (.ref C1) (.type "BaseException") = some true)
    (xt1 : PySem.W.typeIn K (.ref C1) = some (.type "type"))
    (xd1 : PySem.W.hasDictIn K C1 = true)
    (aX7 : PySem.W.nsIn K mainGlobals "TooLarge" = some (some (.ref C7)))
    (xs3_1 : PySem.W.subIn K (.ref C3) (.ref C1) = some true)
    (ko3_BadPaper : PySem.W.kitOne K (.ref C3) (.ref C6) = some false)
    (ko3_BadRatio : PySem.W.kitOne K (.ref C3) (.ref C3) = some true)
    (ko3_BadTable : PySem.W.kitOne K (.ref C3) (.ref C4) = some false)
    (ko3_BadTask : PySem.W.kitOne K (.ref C3) (.ref C5) = some false)
    (ko3_BadText : PySem.W.kitOne K (.ref C3) (.ref C2) = some false)
    (ko3_TooLarge : PySem.W.kitOne K (.ref C3) (.ref C7) = some false)
    (ko3_ValueError : PySem.W.kitOne K (.ref C3) (.type "ValueError") = some true)
    (hn : PySem.W.specialIn K (.builtin "object.__class__") "__get__" = some (some (.builtin "getset_descriptor.__get__")))
    (ht : PySem.W.takesIn K (.builtin "object.__class__") = some true)
    (a0 : PySem.W.findIn K (.ref C0) "__init__" = some (some (.ref f0)))
    (i0 : PySem.W.isFn K (.ref f0) = true)
    (l0 : K.lookup f0 = some ⟨oc0, od0, .func (PySem.W.fnOf "__init__" "Ratio.__init__" (defArgs s_Ratio_init) (defBody s_Ratio_init) (defScope s_Ratio_init) (.ref T0) kV0 dc0 pm0 an0 cd0 ct0), sl0⟩)
    (c0 : PySem.W.codeIn K cd0 "Ratio.__init__" = true)
    (k0 : PySem.W.keepIn K (.ref f0) = true)
    (lT0 : K.lookup T0 = some oT0)
    (dT0 : oT0.data = .seq #[.int 1 tk0_0] nT0)
    (a1 : PySem.W.findIn K (.ref C0) "__eq__" = some (some (.ref f1)))
    (i1 : PySem.W.isFn K (.ref f1) = true)
    (l1 : K.lookup f1 = some ⟨oc1, od1, .func (PySem.W.fnOf "__eq__" "Ratio.__eq__" (defArgs s_Ratio_eq) (defBody s_Ratio_eq) (defScope s_Ratio_eq) .none kV1 dc1 pm1 an1 cd1 ct1), sl1⟩)
    (c1 : PySem.W.codeIn K cd1 "Ratio.__eq__" = true)
    (k1 : PySem.W.keepIn K (.ref f1) = true)
    (a2 : PySem.W.findIn K (.ref C0) "__add__" = some (some (.ref f2)))
    (i2 : PySem.W.isFn K (.ref f2) = true)
    (l2 : K.lookup f2 = some ⟨oc2, od2, .func (PySem.W.fnOf "__add__" "Ratio.__add__" (defArgs s_Ratio_add) (defBody s_Ratio_add) (defScope s_Ratio_add) .none kV2 dc2 pm2 an2 cd2 ct2), sl2⟩)
    (c2 : PySem.W.codeIn K cd2 "Ratio.__add__" = true)
    (k2 : PySem.W.keepIn K (.ref f2) = true)
    (a3 : PySem.W.findIn K (.ref C0) "__sub__" = some (some (.ref f3)))
    (i3 : PySem.W.isFn K (.ref f3) = true)
    (l3 : K.lookup f3 = some ⟨oc3, od3, .func (PySem.W.fnOf "__sub__" "Ratio.__sub__" (defArgs s_Ratio_sub) (defBody s_Ratio_sub) (defScope s_Ratio_sub) .none kV3 dc3 pm3 an3 cd3 ct3), sl3⟩)
    (c3 : PySem.W.codeIn K cd3 "Ratio.__sub__" = true)
    (k3 : PySem.W.keepIn K (.ref f3) = true)
    (a4 : PySem.W.findIn K (.ref C0) "__mul__" = some (some (.ref f4)))
    (i4 : PySem.W.isFn K (.ref f4) = true)
    (l4 : K.lookup f4 = some ⟨oc4, od4, .func (PySem.W.fnOf "__mul__" "Ratio.__mul__" (defArgs s_Ratio_mul) (defBody s_Ratio_mul) (defScope s_Ratio_mul) .none kV4 dc4 pm4 an4 cd4 ct4), sl4⟩)
    (c4 : PySem.W.codeIn K cd4 "Ratio.__mul__" = true)
    (k4 : PySem.W.keepIn K (.ref f4) = true)
    (a5 : PySem.W.findIn K (.ref C0) "__str__" = some (some (.ref f5)))
    (i5 : PySem.W.isFn K (.ref f5) = true)
    (l5 : K.lookup f5 = some ⟨oc5, od5, .func (PySem.W.fnOf "__str__" "Ratio.__str__" (defArgs s_Ratio_str) (defBody s_Ratio_str) (defScope s_Ratio_str) .none kV5 dc5 pm5 an5 cd5 ct5), sl5⟩)
    (c5 : PySem.W.codeIn K cd5 "Ratio.__str__" = true)
    (k5 : PySem.W.keepIn K (.ref f5) = true)
    (a6 : PySem.W.findIn K (.ref C0) "less" = some (some (.ref f6)))
    (i6 : PySem.W.isFn K (.ref f6) = true)
    (l6 : K.lookup f6 = some ⟨oc6, od6, .func (PySem.W.fnOf "less" "Ratio.less" (defArgs s_Ratio_less) (defBody s_Ratio_less) (defScope s_Ratio_less) .none kV6 dc6 pm6 an6 cd6 ct6), sl6⟩)
    (c6 : PySem.W.codeIn K cd6 "Ratio.less" = true)
    (k6 : PySem.W.keepIn K (.ref f6) = true)
    (a7 : PySem.W.findIn K (.ref C0) "by" = some (some (.ref f7)))
    (i7 : PySem.W.isFn K (.ref f7) = true)
    (l7 : K.lookup f7 = some ⟨oc7, od7, .func (PySem.W.fnOf "by" "Ratio.by" (defArgs s_Ratio_by) (defBody s_Ratio_by) (defScope s_Ratio_by) .none kV7 dc7 pm7 an7 cd7 ct7), sl7⟩)
    (c7 : PySem.W.codeIn K cd7 "Ratio.by" = true)
    (k7 : PySem.W.keepIn K (.ref f7) = true)
    (a8 : PySem.W.nsIn K mainGlobals "common" = some (some (.ref f8)))
    (l8 : K.lookup f8 = some ⟨oc8, od8, .func (PySem.W.fnOf "common" "common" (defArgs s_common) (defBody s_common) (defScope s_common) .none kV8 dc8 pm8 an8 cd8 ct8), sl8⟩)
    (c8 : PySem.W.codeIn K cd8 "common" = true)
    (k8 : PySem.W.keepIn K (.ref f8) = true)
    (a9 : PySem.W.nsIn K mainGlobals "_law_pool" = some (some (.ref f9)))
    (l9 : K.lookup f9 = some ⟨oc9, od9, .func (PySem.W.fnOf "_law_pool" "_law_pool" (defArgs s_Lpool) (defBody s_Lpool) (defScope s_Lpool) .none kV9 dc9 pm9 an9 cd9 ct9), sl9⟩)
    (c9 : PySem.W.codeIn K cd9 "_law_pool" = true)
    (k9 : PySem.W.keepIn K (.ref f9) = true)
    (a10 : PySem.W.nsIn K mainGlobals "_law_draw" = some (some (.ref f10)))
    (l10 : K.lookup f10 = some ⟨oc10, od10, .func (PySem.W.fnOf "_law_draw" "_law_draw" (defArgs s_Ldraw) (defBody s_Ldraw) (defScope s_Ldraw) .none kV10 dc10 pm10 an10 cd10 ct10), sl10⟩)
    (c10 : PySem.W.codeIn K cd10 "_law_draw" = true)
    (k10 : PySem.W.keepIn K (.ref f10) = true)
    (a11 : PySem.W.nsIn K mainGlobals "_law_same" = some (some (.ref f11)))
    (l11 : K.lookup f11 = some ⟨oc11, od11, .func (PySem.W.fnOf "_law_same" "_law_same" (defArgs s_Lsame) (defBody s_Lsame) (defScope s_Lsame) .none kV11 dc11 pm11 an11 cd11 ct11), sl11⟩)
    (c11 : PySem.W.codeIn K cd11 "_law_same" = true)
    (k11 : PySem.W.keepIn K (.ref f11) = true)
    (a12 : PySem.W.nsIn K mainGlobals "_law_less" = some (some (.ref f12)))
    (l12 : K.lookup f12 = some ⟨oc12, od12, .func (PySem.W.fnOf "_law_less" "_law_less" (defArgs s_Lless) (defBody s_Lless) (defScope s_Lless) .none kV12 dc12 pm12 an12 cd12 ct12), sl12⟩)
    (c12 : PySem.W.codeIn K cd12 "_law_less" = true)
    (k12 : PySem.W.keepIn K (.ref f12) = true)
    (a13 : PySem.W.nsIn K mainGlobals "_law_plus" = some (some (.ref f13)))
    (l13 : K.lookup f13 = some ⟨oc13, od13, .func (PySem.W.fnOf "_law_plus" "_law_plus" (defArgs s_Lplus) (defBody s_Lplus) (defScope s_Lplus) .none kV13 dc13 pm13 an13 cd13 ct13), sl13⟩)
    (c13 : PySem.W.codeIn K cd13 "_law_plus" = true)
    (k13 : PySem.W.keepIn K (.ref f13) = true)
    (a14 : PySem.W.nsIn K mainGlobals "_law_minus" = some (some (.ref f14)))
    (l14 : K.lookup f14 = some ⟨oc14, od14, .func (PySem.W.fnOf "_law_minus" "_law_minus" (defArgs s_Lminus) (defBody s_Lminus) (defScope s_Lminus) .none kV14 dc14 pm14 an14 cd14 ct14), sl14⟩)
    (c14 : PySem.W.codeIn K cd14 "_law_minus" = true)
    (k14 : PySem.W.keepIn K (.ref f14) = true)
    (a15 : PySem.W.nsIn K mainGlobals "_law_times" = some (some (.ref f15)))
    (l15 : K.lookup f15 = some ⟨oc15, od15, .func (PySem.W.fnOf "_law_times" "_law_times" (defArgs s_Ltimes) (defBody s_Ltimes) (defScope s_Ltimes) .none kV15 dc15 pm15 an15 cd15 ct15), sl15⟩)
    (c15 : PySem.W.codeIn K cd15 "_law_times" = true)
    (k15 : PySem.W.keepIn K (.ref f15) = true)
    (a16 : PySem.W.nsIn K mainGlobals "_law_below" = some (some (.ref f16)))
    (l16 : K.lookup f16 = some ⟨oc16, od16, .func (PySem.W.fnOf "_law_below" "_law_below" (defArgs s_Lbelow) (defBody s_Lbelow) (defScope s_Lbelow) .none kV16 dc16 pm16 an16 cd16 ct16), sl16⟩)
    (c16 : PySem.W.codeIn K cd16 "_law_below" = true)
    (k16 : PySem.W.keepIn K (.ref f16) = true)
    (a17 : PySem.W.nsIn K mainGlobals "_law_ratio" = some (some (.ref f17)))
    (l17 : K.lookup f17 = some ⟨oc17, od17, .func (PySem.W.fnOf "_law_ratio" "_law_ratio" (defArgs s_Lratio) (defBody s_Lratio) (defScope s_Lratio) .none kV17 dc17 pm17 an17 cd17 ct17), sl17⟩)
    (c17 : PySem.W.codeIn K cd17 "_law_ratio" = true)
    (k17 : PySem.W.keepIn K (.ref f17) = true)
    (a18 : PySem.W.nsIn K mainGlobals "_law_is" = some (some (.ref f18)))
    (l18 : K.lookup f18 = some ⟨oc18, od18, .func (PySem.W.fnOf "_law_is" "_law_is" (defArgs s_Lis) (defBody s_Lis) (defScope s_Lis) .none kV18 dc18 pm18 an18 cd18 ct18), sl18⟩)
    (c18 : PySem.W.codeIn K cd18 "_law_is" = true)
    (k18 : PySem.W.keepIn K (.ref f18) = true)
    (a19 : PySem.W.nsIn K mainGlobals "_law_refused" = some (some (.ref f19)))
    (l19 : K.lookup f19 = some ⟨oc19, od19, .func (PySem.W.fnOf "_law_refused" "_law_refused" (defArgs s_Lrefused) (defBody s_Lrefused) (defScope s_Lrefused) .none kV19 dc19 pm19 an19 cd19 ct19), sl19⟩)
    (c19 : PySem.W.codeIn K cd19 "_law_refused" = true)
    (k19 : PySem.W.keepIn K (.ref f19) = true)
    (a20 : PySem.W.nsIn K mainGlobals "_law_pair" = some (some (.ref f20)))
    (l20 : K.lookup f20 = some ⟨oc20, od20, .func (PySem.W.fnOf "_law_pair" "_law_pair" (defArgs s_Lpair) (defBody s_Lpair) (defScope s_Lpair) .none kV20 dc20 pm20 an20 cd20 ct20), sl20⟩)
    (c20 : PySem.W.codeIn K cd20 "_law_pair" = true)
    (k20 : PySem.W.keepIn K (.ref f20) = true)
    (a21 : PySem.W.nsIn K mainGlobals "_law_chain" = some (some (.ref f21)))
    (l21 : K.lookup f21 = some ⟨oc21, od21, .func (PySem.W.fnOf "_law_chain" "_law_chain" (defArgs s_Lchain) (defBody s_Lchain) (defScope s_Lchain) .none kV21 dc21 pm21 an21 cd21 ct21), sl21⟩)
    (c21 : PySem.W.codeIn K cd21 "_law_chain" = true)
    (k21 : PySem.W.keepIn K (.ref f21) = true)
    (a22 : PySem.W.nsIn K mainGlobals "law" = some (some (.ref f22)))
    (l22 : K.lookup f22 = some ⟨oc22, od22, .func (PySem.W.fnOf "law" "law" (defArgs s_law) (defBody s_law) (defScope s_law) .none kV22 dc22 pm22 an22 cd22 ct22), sl22⟩)
    (c22 : PySem.W.codeIn K cd22 "law" = true)
    (k22 : PySem.W.keepIn K (.ref f22) = true)
    (n_ValueError : PySem.W.nsIn K mainGlobals "ValueError" = some none)
    (n_abs : PySem.W.nsIn K mainGlobals "abs" = some none)
    (n_bool : PySem.W.nsIn K mainGlobals "bool" = some none)
    (n_int : PySem.W.nsIn K mainGlobals "int" = some none)
    (n_isinstance : PySem.W.nsIn K mainGlobals "isinstance" = some none)
    (n_len : PySem.W.nsIn K mainGlobals "len" = some none)
    (n_list : PySem.W.nsIn K mainGlobals "list" = some none)
    (n_range : PySem.W.nsIn K mainGlobals "range" = some none)
    (n_str : PySem.W.nsIn K mainGlobals "str" = some none)
    (n_tuple : PySem.W.nsIn K mainGlobals "tuple" = some none) :
    ∃ fd : FuncData, (∀ (s : Shared) (u : Value), BindsTo s fd ⟨[u], []⟩ [("_law_script", u)]) ∧ ∀ base : Heap, K.In base → base.Ns mainGlobals mg → FnOk P w K mg base (L2.CX P w) 200 fa fd ["_law_script"] (spLaw K) := by
  have e := hfa.symm.trans (PySem.W.mg_of X G a22)
  cases e
  let f22 := fa
  let fi : Nat → FI := fun i => match i with
    | 0 => ⟨f0, PySem.W.fnOf "__init__" "Ratio.__init__" (defArgs s_Ratio_init) (defBody s_Ratio_init) (defScope s_Ratio_init) (.ref T0) kV0 dc0 pm0 an0 cd0 ct0, ["self", "num", "den"]⟩
    | 1 => ⟨f1, PySem.W.fnOf "__eq__" "Ratio.__eq__" (defArgs s_Ratio_eq) (defBody s_Ratio_eq) (defScope s_Ratio_eq) .none kV1 dc1 pm1 an1 cd1 ct1, ["self", "other"]⟩
    | 2 => ⟨f2, PySem.W.fnOf "__add__" "Ratio.__add__" (defArgs s_Ratio_add) (defBody s_Ratio_add) (defScope s_Ratio_add) .none kV2 dc2 pm2 an2 cd2 ct2, ["self", "other"]⟩
    | 3 => ⟨f3, PySem.W.fnOf "__sub__" "Ratio.__sub__" (defArgs s_Ratio_sub) (defBody s_Ratio_sub) (defScope s_Ratio_sub) .none kV3 dc3 pm3 an3 cd3 ct3, ["self", "other"]⟩
    | 4 => ⟨f4, PySem.W.fnOf "__mul__" "Ratio.__mul__" (defArgs s_Ratio_mul) (defBody s_Ratio_mul) (defScope s_Ratio_mul) .none kV4 dc4 pm4 an4 cd4 ct4, ["self", "other"]⟩
    | 5 => ⟨f5, PySem.W.fnOf "__str__" "Ratio.__str__" (defArgs s_Ratio_str) (defBody s_Ratio_str) (defScope s_Ratio_str) .none kV5 dc5 pm5 an5 cd5 ct5, ["self"]⟩
    | 6 => ⟨f6, PySem.W.fnOf "less" "Ratio.less" (defArgs s_Ratio_less) (defBody s_Ratio_less) (defScope s_Ratio_less) .none kV6 dc6 pm6 an6 cd6 ct6, ["self", "other"]⟩
    | 7 => ⟨f7, PySem.W.fnOf "by" "Ratio.by" (defArgs s_Ratio_by) (defBody s_Ratio_by) (defScope s_Ratio_by) .none kV7 dc7 pm7 an7 cd7 ct7, ["self", "other"]⟩
    | 8 => ⟨f8, PySem.W.fnOf "common" "common" (defArgs s_common) (defBody s_common) (defScope s_common) .none kV8 dc8 pm8 an8 cd8 ct8, ["one", "other"]⟩
    | 9 => ⟨f9, PySem.W.fnOf "_law_pool" "_law_pool" (defArgs s_Lpool) (defBody s_Lpool) (defScope s_Lpool) .none kV9 dc9 pm9 an9 cd9 ct9, ["_law_script", "_law_budget"]⟩
    | 10 => ⟨f10, PySem.W.fnOf "_law_draw" "_law_draw" (defArgs s_Ldraw) (defBody s_Ldraw) (defScope s_Ldraw) .none kV10 dc10 pm10 an10 cd10 ct10, ["_law_pool_here", "_law_size"]⟩
    | 11 => ⟨f11, PySem.W.fnOf "_law_same" "_law_same" (defArgs s_Lsame) (defBody s_Lsame) (defScope s_Lsame) .none kV11 dc11 pm11 an11 cd11 ct11, ["_law_actual", "_law_due"]⟩
    | 12 => ⟨f12, PySem.W.fnOf "_law_less" "_law_less" (defArgs s_Lless) (defBody s_Lless) (defScope s_Lless) .none kV12 dc12 pm12 an12 cd12 ct12, ["_law_num", "_law_den"]⟩
    | 13 => ⟨f13, PySem.W.fnOf "_law_plus" "_law_plus" (defArgs s_Lplus) (defBody s_Lplus) (defScope s_Lplus) .none kV13 dc13 pm13 an13 cd13 ct13, ["_law_one", "_law_other"]⟩
    | 14 => ⟨f14, PySem.W.fnOf "_law_minus" "_law_minus" (defArgs s_Lminus) (defBody s_Lminus) (defScope s_Lminus) .none kV14 dc14 pm14 an14 cd14 ct14, ["_law_one", "_law_other"]⟩
    | 15 => ⟨f15, PySem.W.fnOf "_law_times" "_law_times" (defArgs s_Ltimes) (defBody s_Ltimes) (defScope s_Ltimes) .none kV15 dc15 pm15 an15 cd15 ct15, ["_law_one", "_law_other"]⟩
    | 16 => ⟨f16, PySem.W.fnOf "_law_below" "_law_below" (defArgs s_Lbelow) (defBody s_Lbelow) (defScope s_Lbelow) .none kV16 dc16 pm16 an16 cd16 ct16, ["_law_one", "_law_other"]⟩
    | 17 => ⟨f17, PySem.W.fnOf "_law_ratio" "_law_ratio" (defArgs s_Lratio) (defBody s_Lratio) (defScope s_Lratio) .none kV17 dc17 pm17 an17 cd17 ct17, ["_law_pair_here"]⟩
    | 18 => ⟨f18, PySem.W.fnOf "_law_is" "_law_is" (defArgs s_Lis) (defBody s_Lis) (defScope s_Lis) .none kV18 dc18 pm18 an18 cd18 ct18, ["_law_ratio_here", "_law_due"]⟩
    | 19 => ⟨f19, PySem.W.fnOf "_law_refused" "_law_refused" (defArgs s_Lrefused) (defBody s_Lrefused) (defScope s_Lrefused) .none kV19 dc19 pm19 an19 cd19 ct19, ["_law_one", "_law_other"]⟩
    | 20 => ⟨f20, PySem.W.fnOf "_law_pair" "_law_pair" (defArgs s_Lpair) (defBody s_Lpair) (defScope s_Lpair) .none kV20 dc20 pm20 an20 cd20 ct20, ["_law_pool_here"]⟩
    | 21 => ⟨f21, PySem.W.fnOf "_law_chain" "_law_chain" (defArgs s_Lchain) (defBody s_Lchain) (defScope s_Lchain) .none kV21 dc21 pm21 an21 cd21 ct21, ["_law_count"]⟩
    | 22 => ⟨f22, PySem.W.fnOf "law" "law" (defArgs s_law) (defBody s_law) (defScope s_law) .none kV22 dc22 pm22 an22 cd22 ct22, ["_law_script"]⟩
    | _ => ⟨f0, PySem.W.fnOf "__init__" "Ratio.__init__" (defArgs s_Ratio_init) (defBody s_Ratio_init) (defScope s_Ratio_init) (.ref T0) kV0 dc0 pm0 an0 cd0 ct0, ["self", "num", "den"]⟩
  let ca : Nat → Addr := fun c => match c with
    | 0 => C0
    | 6 => C6
    | 3 => C3
    | 4 => C4
    | 5 => C5
    | 2 => C2
    | 1 => C1
    | 7 => C7
    | _ => fa
  have Dx : Deft K fi := {
    f0 := ⟨⟨_, _, _, _, _, _, _, _, _, _, rfl, l0, c0⟩⟩
    p0 := rfl
    f1 := ⟨⟨_, _, _, _, _, _, _, _, _, _, rfl, l1, c1⟩⟩
    p1 := rfl
    f2 := ⟨⟨_, _, _, _, _, _, _, _, _, _, rfl, l2, c2⟩⟩
    p2 := rfl
    f3 := ⟨⟨_, _, _, _, _, _, _, _, _, _, rfl, l3, c3⟩⟩
    p3 := rfl
    f4 := ⟨⟨_, _, _, _, _, _, _, _, _, _, rfl, l4, c4⟩⟩
    p4 := rfl
    f5 := ⟨⟨_, _, _, _, _, _, _, _, _, _, rfl, l5, c5⟩⟩
    p5 := rfl
    f6 := ⟨⟨_, _, _, _, _, _, _, _, _, _, rfl, l6, c6⟩⟩
    p6 := rfl
    f7 := ⟨⟨_, _, _, _, _, _, _, _, _, _, rfl, l7, c7⟩⟩
    p7 := rfl
    f8 := ⟨⟨_, _, _, _, _, _, _, _, _, _, rfl, l8, c8⟩⟩
    p8 := rfl
    f9 := ⟨⟨_, _, _, _, _, _, _, _, _, _, rfl, l9, c9⟩⟩
    p9 := rfl
    f10 := ⟨⟨_, _, _, _, _, _, _, _, _, _, rfl, l10, c10⟩⟩
    p10 := rfl
    f11 := ⟨⟨_, _, _, _, _, _, _, _, _, _, rfl, l11, c11⟩⟩
    p11 := rfl
    f12 := ⟨⟨_, _, _, _, _, _, _, _, _, _, rfl, l12, c12⟩⟩
    p12 := rfl
    f13 := ⟨⟨_, _, _, _, _, _, _, _, _, _, rfl, l13, c13⟩⟩
    p13 := rfl
    f14 := ⟨⟨_, _, _, _, _, _, _, _, _, _, rfl, l14, c14⟩⟩
    p14 := rfl
    f15 := ⟨⟨_, _, _, _, _, _, _, _, _, _, rfl, l15, c15⟩⟩
    p15 := rfl
    f16 := ⟨⟨_, _, _, _, _, _, _, _, _, _, rfl, l16, c16⟩⟩
    p16 := rfl
    f17 := ⟨⟨_, _, _, _, _, _, _, _, _, _, rfl, l17, c17⟩⟩
    p17 := rfl
    f18 := ⟨⟨_, _, _, _, _, _, _, _, _, _, rfl, l18, c18⟩⟩
    p18 := rfl
    f19 := ⟨⟨_, _, _, _, _, _, _, _, _, _, rfl, l19, c19⟩⟩
    p19 := rfl
    f20 := ⟨⟨_, _, _, _, _, _, _, _, _, _, rfl, l20, c20⟩⟩
    p20 := rfl
    f21 := ⟨⟨_, _, _, _, _, _, _, _, _, _, rfl, l21, c21⟩⟩
    p21 := rfl
    f22 := ⟨⟨_, _, _, _, _, _, _, _, _, _, rfl, l22, c22⟩⟩
    p22 := rfl
  }
  have Tx : Txt K mg ca fi := {
    bd0_2 := FunD.binds1 (ps := ["self", "num", "den"]) (⟨⟨_, _, _, _, _, _, _, _, _, _, rfl, l0, c0, .inr ⟨by simp, _, _, [.int 1 tk0_0], _, rfl, lT0, dT0, .cons ⟨_, rfl⟩ (.nil)⟩, .inl rfl⟩, k0⟩ : FunD K "__init__" "Ratio.__init__" (defArgs s_Ratio_init) (defBody s_Ratio_init) (defScope s_Ratio_init) [.int 1] [] (fi 0).addr (fi 0).fd) 2 0 (by simp) rfl fun _ _ _ _ _ _ _ us its hl hi => match us, its, hl, hi with | [_, _], [_], _, _ => ⟨_, rfl, rfl⟩
    b0 := by
      obtain ⟨ds, hv, hb⟩ := FunD.binds1 (ps := ["self", "num", "den"]) (⟨⟨_, _, _, _, _, _, _, _, _, _, rfl, l0, c0, .inr ⟨by simp, _, _, [.int 1 tk0_0], _, rfl, lT0, dT0, .cons ⟨_, rfl⟩ (.nil)⟩, .inl rfl⟩, k0⟩ : FunD K "__init__" "Ratio.__init__" (defArgs s_Ratio_init) (defBody s_Ratio_init) (defScope s_Ratio_init) [.int 1] [] (fi 0).addr (fi 0).fd) 3 1 (by simp) rfl fun _ _ _ _ _ _ _ us its hl hi => match us, its, hl, hi with | [_, _, _], [_], _, _ => ⟨_, rfl, rfl⟩
      cases hv
      exact hb
    b1 := Fun.binds (st := s_Ratio_eq) ⟨⟨_, _, _, _, _, _, _, _, _, rfl, l1, c1⟩, k1⟩ fun _ _ _ _ _ _ us hl => match us, hl with | [_, _], _ => rfl
    b2 := Fun.binds (st := s_Ratio_add) ⟨⟨_, _, _, _, _, _, _, _, _, rfl, l2, c2⟩, k2⟩ fun _ _ _ _ _ _ us hl => match us, hl with | [_, _], _ => rfl
    b3 := Fun.binds (st := s_Ratio_sub) ⟨⟨_, _, _, _, _, _, _, _, _, rfl, l3, c3⟩, k3⟩ fun _ _ _ _ _ _ us hl => match us, hl with | [_, _], _ => rfl
    b4 := Fun.binds (st := s_Ratio_mul) ⟨⟨_, _, _, _, _, _, _, _, _, rfl, l4, c4⟩, k4⟩ fun _ _ _ _ _ _ us hl => match us, hl with | [_, _], _ => rfl
    b5 := Fun.binds (st := s_Ratio_str) ⟨⟨_, _, _, _, _, _, _, _, _, rfl, l5, c5⟩, k5⟩ fun _ _ _ _ _ _ us hl => match us, hl with | [_], _ => rfl
    me6 := ⟨a6, i6, k6⟩
    b6 := Fun.binds (st := s_Ratio_less) ⟨⟨_, _, _, _, _, _, _, _, _, rfl, l6, c6⟩, k6⟩ fun _ _ _ _ _ _ us hl => match us, hl with | [_, _], _ => rfl
    me7 := ⟨a7, i7, k7⟩
    b7 := Fun.binds (st := s_Ratio_by) ⟨⟨_, _, _, _, _, _, _, _, _, rfl, l7, c7⟩, k7⟩ fun _ _ _ _ _ _ us hl => match us, hl with | [_, _], _ => rfl
    m8 := PySem.W.mg_of X G a8
    k8 := k8
    b8 := Fun.binds (st := s_common) ⟨⟨_, _, _, _, _, _, _, _, _, rfl, l8, c8⟩, k8⟩ fun _ _ _ _ _ _ us hl => match us, hl with | [_, _], _ => rfl
    m9 := PySem.W.mg_of X G a9
    k9 := k9
    b9 := Fun.binds (st := s_Lpool) ⟨⟨_, _, _, _, _, _, _, _, _, rfl, l9, c9⟩, k9⟩ fun _ _ _ _ _ _ us hl => match us, hl with | [_, _], _ => rfl
    m10 := PySem.W.mg_of X G a10
    k10 := k10
    b10 := Fun.binds (st := s_Ldraw) ⟨⟨_, _, _, _, _, _, _, _, _, rfl, l10, c10⟩, k10⟩ fun _ _ _ _ _ _ us hl => match us, hl with | [_, _], _ => rfl
    m11 := PySem.W.mg_of X G a11
    k11 := k11
    b11 := Fun.binds (st := s_Lsame) ⟨⟨_, _, _, _, _, _, _, _, _, rfl, l11, c11⟩, k11⟩ fun _ _ _ _ _ _ us hl => match us, hl with | [_, _], _ => rfl
    m12 := PySem.W.mg_of X G a12
    k12 := k12
    b12 := Fun.binds (st := s_Lless) ⟨⟨_, _, _, _, _, _, _, _, _, rfl, l12, c12⟩, k12⟩ fun _ _ _ _ _ _ us hl => match us, hl with | [_, _], _ => rfl
    m13 := PySem.W.mg_of X G a13
    k13 := k13
    b13 := Fun.binds (st := s_Lplus) ⟨⟨_, _, _, _, _, _, _, _, _, rfl, l13, c13⟩, k13⟩ fun _ _ _ _ _ _ us hl => match us, hl with | [_, _], _ => rfl
    m14 := PySem.W.mg_of X G a14
    k14 := k14
    b14 := Fun.binds (st := s_Lminus) ⟨⟨_, _, _, _, _, _, _, _, _, rfl, l14, c14⟩, k14⟩ fun _ _ _ _ _ _ us hl => match us, hl with | [_, _], _ => rfl
    m15 := PySem.W.mg_of X G a15
    k15 := k15
    b15 := Fun.binds (st := s_Ltimes) ⟨⟨_, _, _, _, _, _, _, _, _, rfl, l15, c15⟩, k15⟩ fun _ _ _ _ _ _ us hl => match us, hl with | [_, _], _ => rfl
    m16 := PySem.W.mg_of X G a16
    k16 := k16
    b16 := Fun.binds (st := s_Lbelow) ⟨⟨_, _, _, _, _, _, _, _, _, rfl, l16, c16⟩, k16⟩ fun _ _ _ _ _ _ us hl => match us, hl with | [_, _], _ => rfl
    m17 := PySem.W.mg_of X G a17
    k17 := k17
    b17 := Fun.binds (st := s_Lratio) ⟨⟨_, _, _, _, _, _, _, _, _, rfl, l17, c17⟩, k17⟩ fun _ _ _ _ _ _ us hl => match us, hl with | [_], _ => rfl
    m18 := PySem.W.mg_of X G a18
    k18 := k18
    b18 := Fun.binds (st := s_Lis) ⟨⟨_, _, _, _, _, _, _, _, _, rfl, l18, c18⟩, k18⟩ fun _ _ _ _ _ _ us hl => match us, hl with | [_, _], _ => rfl
    m19 := PySem.W.mg_of X G a19
    k19 := k19
    b19 := Fun.binds (st := s_Lrefused) ⟨⟨_, _, _, _, _, _, _, _, _, rfl, l19, c19⟩, k19⟩ fun _ _ _ _ _ _ us hl => match us, hl with | [_, _], _ => rfl
    m20 := PySem.W.mg_of X G a20
    k20 := k20
    b20 := Fun.binds (st := s_Lpair) ⟨⟨_, _, _, _, _, _, _, _, _, rfl, l20, c20⟩, k20⟩ fun _ _ _ _ _ _ us hl => match us, hl with | [_], _ => rfl
    m21 := PySem.W.mg_of X G a21
    k21 := k21
    b21 := Fun.binds (st := s_Lchain) ⟨⟨_, _, _, _, _, _, _, _, _, rfl, l21, c21⟩, k21⟩ fun _ _ _ _ _ _ us hl => match us, hl with | [_], _ => rfl
    m22 := PySem.W.mg_of X G a22
    k22 := k22
    cl0 := ⟨pg0, hd0, po0, sa0⟩
    mc0 := PySem.W.mg_of X G aC0
    mk0 := ⟨mk0, a0, i0, kc0⟩
    na0_0 := nf0_0
    na0_1 := nf0_1
    isc0 := ⟨⟨pg0, hd0, po0, sa0⟩, ha0, hn, ht, hm0⟩
    kit0 := kt0
    sf0_add := sf0
    a2 := a2
    i2 := i2
    sf0_sub := sf0
    a3 := a3
    i3 := i3
    sf0_mul := sf0
    a4 := a4
    i4 := i4
    nt0 := nt0
    a1 := a1
    i1 := i1
    a5 := a5
    i5 := i5
    xm6 := PySem.W.mg_of X G aX6
    xm3 := PySem.W.mg_of X G aX3
    xi3 := xi3
    xk3 := xk3
    xb3 := xb3
    xt3 := xt3
    xc3 := ⟨xg3, xh3, xb3, xd3, xa3, hn, ht, xo3⟩
    xm4 := PySem.W.mg_of X G aX4
    xm5 := PySem.W.mg_of X G aX5
    xm2 := PySem.W.mg_of X G aX2
    xm1 := PySem.W.mg_of X G aX1
    xm7 := PySem.W.mg_of X G aX7
    em3_1 := PySem.W.exm_ref xb1 xd1 xt1 xs3_1
    ko3_BadPaper := ko3_BadPaper
    ko3_BadRatio := ko3_BadRatio
    ko3_BadTable := ko3_BadTable
    ko3_BadTask := ko3_BadTask
    ko3_BadText := ko3_BadText
    ko3_TooLarge := ko3_TooLarge
    ko3_ValueError := ko3_ValueError
    n_ValueError := PySem.W.mg_none_of X G n_ValueError
    n_abs := PySem.W.mg_none_of X G n_abs
    n_bool := PySem.W.mg_none_of X G n_bool
    n_int := PySem.W.mg_none_of X G n_int
    n_isinstance := PySem.W.mg_none_of X G n_isinstance
    n_len := PySem.W.mg_none_of X G n_len
    n_list := PySem.W.mg_none_of X G n_list
    n_range := PySem.W.mg_none_of X G n_range
    n_str := PySem.W.mg_none_of X G n_str
    n_tuple := PySem.W.mg_none_of X G n_tuple
  }
  refine ⟨(fi 22).fd, fun s v => .of_eq rfl, fun base _ _ => ?_⟩
  have hL : Lnk P w K mg base (lk ca) prog fi 100 := link Tx Dx 100
  exact (hL.fn 22 _ rfl rfl).imp law_sp
theorem walk {l : PySem.W.OpenLaw} {qq : Program} {loose : List Str} {XP : (Str → Option Value) → Heap → Prop} {YP : World → Heap → Prop} {d : DefRec} {K : Params → PySem.W.Frag} (hn : l.most = some 63) (hdf : d.params.defaults = [])
    (hY : ∀ (w : World) (h : Heap), YP w h → (K w.params).In h)
    (F : ∀ (w : World) (mg : Str → Option Value) (fa : Addr) (h : Heap), (K w.params).In h → h.Ns mainGlobals mg → mg d.name = some (.ref fa) →
      ∃ fd : FuncData, (∀ (s : Shared) (u : Value), BindsTo s fd ⟨[u], []⟩ [("_law_script", u)]) ∧ ∀ base : Heap, (K w.params).In base → base.Ns mainGlobals mg → FnOk l.prog w (K w.params) mg base (L2.CX l.prog w) 200 fa fd ["_law_script"] (spLaw (K w.params))) :
    PySem.W.WalkO qq loose XP YP l.row.toRowW d [] (fun f vs => PySem.call f vs) :=
  L2.walk_ofB (n := 63) (k := 200) (x := "_law_script") (CX := fun w => L2.CX l.prog w) (sp := fun w => spLaw (K w.params)) hn (by decide) hdf ⟨rfl, by decide, by decide⟩ hY F (fun _ _ a ns hl hb _ hS => ⟨a, ns, rfl, hS, hl, hb, fun _ => rfl⟩) fun _ _ _ _ _ z => by
    obtain ⟨_, _, _, _, _, _, _, _, _, _, _, _, z⟩ := z
    exact z
end K00
open PySem PySem.W PyProof.Rows
set_option maxRecDepth 100000 in
set_option maxHeartbeats 0 in
theorem PySem.Challenge.cw_seesmore_k00_fractions_holds : PySem.Challenge.rw_seesmore_k00_fractions.Holds := by
  w_on; o_law; k_head; (case hw => w_witness2)
  k_fill
  refine K00.walk (l := PySem.Challenge.rw_seesmore_k00_fractions) rfl rfl (fun w h Y => PySem.W.kIn_of Y) ?F
  case F =>
    intro w mg fa h KX G hmg
    refine' K00.all_mk KX G hmg ?aC0 ?pg0 ?hd0 ?po0 ?sa0 ?mk0 ?kc0 ?nf0_0 ?nf0_1 ?ha0 ?hm0 ?kt0 ?sf0 ?nt0 ?aX6 ?aX3 ?xi3 ?xk3 ?xb3 ?xt3 ?xd3 ?xg3 ?xh3 ?xa3 ?xo3 ?aX4 ?aX5 ?aX2 ?aX1 ?xb1 ?xt1 ?xd1 ?aX7 ?xs3_1 ?ko3_BadPaper ?ko3_BadRatio ?ko3_BadTable ?ko3_BadTask ?ko3_BadText ?ko3_TooLarge ?ko3_ValueError ?hn ?ht ?a0 ?i0 ?l0 ?c0 ?k0 ?lT0 ?dT0 ?a1 ?i1 ?l1 ?c1 ?k1 ?a2 ?i2 ?l2 ?c2 ?k2 ?a3 ?i3 ?l3 ?c3 ?k3 ?a4 ?i4 ?l4 ?c4 ?k4 ?a5 ?i5 ?l5 ?c5 ?k5 ?a6 ?i6 ?l6 ?c6 ?k6 ?a7 ?i7 ?l7 ?c7 ?k7 ?a8 ?l8 ?c8 ?k8 ?a9 ?l9 ?c9 ?k9 ?a10 ?l10 ?c10 ?k10 ?a11 ?l11 ?c11 ?k11 ?a12 ?l12 ?c12 ?k12 ?a13 ?l13 ?c13 ?k13 ?a14 ?l14 ?c14 ?k14 ?a15 ?l15 ?c15 ?k15 ?a16 ?l16 ?c16 ?k16 ?a17 ?l17 ?c17 ?k17 ?a18 ?l18 ?c18 ?k18 ?a19 ?l19 ?c19 ?k19 ?a20 ?l20 ?c20 ?k20 ?a21 ?l21 ?c21 ?k21 ?a22 ?l22 ?c22 ?k22 ?n_ValueError ?n_abs ?n_bool ?n_int ?n_isinstance ?n_len ?n_list ?n_range ?n_str ?n_tuple
    (case aC0 => k_is)
    (case pg0 => k_is)
    (case hd0 => k_is)
    (case po0 => k_is)
    (case sa0 => k_is)
    (case mk0 => k_is)
    (case kc0 => k_is)
    (case nf0_0 => k_is)
    (case nf0_1 => k_is)
    (case ha0 => k_is)
    (case hm0 => k_is)
    (case kt0 => kit_is)
    (case sf0 => k_is)
    (case nt0 => k_is)
    (case aX6 => k_is)
    (case aX3 => k_is)
    (case xi3 => k_exc)
    (case xk3 => k_is)
    (case xb3 => k_is)
    (case xt3 => k_is)
    (case xd3 => k_is)
    (case xg3 => k_is)
    (case xh3 => k_is)
    (case xa3 => k_is)
    (case xo3 => k_is)
    (case aX4 => k_is)
    (case aX5 => k_is)
    (case aX2 => k_is)
    (case aX1 => k_is)
    (case xb1 => k_is)
    (case xt1 => k_is)
    (case xd1 => k_is)
    (case aX7 => k_is)
    (case xs3_1 => k_is)
    (case ko3_BadPaper => kit_is)
    (case ko3_BadRatio => kit_is)
    (case ko3_BadTable => kit_is)
    (case ko3_BadTask => kit_is)
    (case ko3_BadText => kit_is)
    (case ko3_TooLarge => kit_is)
    (case ko3_ValueError => kit_is)
    (case hn => k_is)
    (case ht => k_is)
    (case a0 => k_is)
    (case i0 => k_is)
    (case l0 => k_is)
    (case c0 => k_is)
    (case k0 => k_is)
    (case lT0 => k_is)
    (case dT0 => rfl)
    (case a1 => k_is)
    (case i1 => k_is)
    (case l1 => k_is)
    (case c1 => k_is)
    (case k1 => k_is)
    (case a2 => k_is)
    (case i2 => k_is)
    (case l2 => k_is)
    (case c2 => k_is)
    (case k2 => k_is)
    (case a3 => k_is)
    (case i3 => k_is)
    (case l3 => k_is)
    (case c3 => k_is)
    (case k3 => k_is)
    (case a4 => k_is)
    (case i4 => k_is)
    (case l4 => k_is)
    (case c4 => k_is)
    (case k4 => k_is)
    (case a5 => k_is)
    (case i5 => k_is)
    (case l5 => k_is)
    (case c5 => k_is)
    (case k5 => k_is)
    (case a6 => k_is)
    (case i6 => k_is)
    (case l6 => k_is)
    (case c6 => k_is)
    (case k6 => k_is)
    (case a7 => k_is)
    (case i7 => k_is)
    (case l7 => k_is)
    (case c7 => k_is)
    (case k7 => k_is)
    (case a8 => k_is)
    (case l8 => k_is)
    (case c8 => k_is)
    (case k8 => k_is)
    (case a9 => k_is)
    (case l9 => k_is)
    (case c9 => k_is)
    (case k9 => k_is)
    (case a10 => k_is)
    (case l10 => k_is)
    (case c10 => k_is)
    (case k10 => k_is)
    (case a11 => k_is)
    (case l11 => k_is)
    (case c11 => k_is)
    (case k11 => k_is)
    (case a12 => k_is)
    (case l12 => k_is)
    (case c12 => k_is)
    (case k12 => k_is)
    (case a13 => k_is)
    (case l13 => k_is)
    (case c13 => k_is)
    (case k13 => k_is)
    (case a14 => k_is)
    (case l14 => k_is)
    (case c14 => k_is)
    (case k14 => k_is)
    (case a15 => k_is)
    (case l15 => k_is)
    (case c15 => k_is)
    (case k15 => k_is)
    (case a16 => k_is)
    (case l16 => k_is)
    (case c16 => k_is)
    (case k16 => k_is)
    (case a17 => k_is)
    (case l17 => k_is)
    (case c17 => k_is)
    (case k17 => k_is)
    (case a18 => k_is)
    (case l18 => k_is)
    (case c18 => k_is)
    (case k18 => k_is)
    (case a19 => k_is)
    (case l19 => k_is)
    (case c19 => k_is)
    (case k19 => k_is)
    (case a20 => k_is)
    (case l20 => k_is)
    (case c20 => k_is)
    (case k20 => k_is)
    (case a21 => k_is)
    (case l21 => k_is)
    (case c21 => k_is)
    (case k21 => k_is)
    (case a22 => k_is)
    (case l22 => k_is)
    (case c22 => k_is)
    (case k22 => k_is)
    (case n_ValueError => k_is)
    (case n_abs => k_is)
    (case n_bool => k_is)
    (case n_int => k_is)
    (case n_isinstance => k_is)
    (case n_len => k_is)
    (case n_list => k_is)
    (case n_range => k_is)
    (case n_str => k_is)
    (case n_tuple => k_is)
#print axioms PySem.Challenge.cw_seesmore_k00_fractions_holds

