import PyProof.Rows.All
import Wide.All
import OpenK.AllK
import Wide.FinOn
import HandS.ForMost
import HandS.ForExc
import HandS.Wide
import HandS.Star
import HandS.CallSlots
import HandS.WordsExc
import HandS.Flow
import HandS.IsInst
import HandS.Deep
import HandS.TupAny
import HandS.FStr
import HandS.EndBits
import HandS.TupMul
import HandS.RaiseMore
import HandS.Small
import HandS.ExcField
import HandS.ExcIs
import HandS.ExcInit
import KE.KExcSuper
import HandS.HotCalls
import HandS.Replace
import HandS.Defaults
import PySem.Challenge.RW_seesmore_k81_whole_lines_of_plans_are_re
import HandS.ReplaceList
set_option Elab.async false
set_option linter.all false
set_option maxRecDepth 100000
set_option maxHeartbeats 2000000
/-! PD: Python by data: values as trees (D), a store of the few objects that change (Om), a small language (E, S) and what it computes; behind it the proof that the machine computes the same. -/
namespace PD
open PySem PySem.Spec PyProof.Rows L2

/-! ### data -/
inductive D where
  | non | bl (b : Bool) | int (i : Int) | str (s : Str)
  | lst (ds : List D) | tup (ds : List D) | obj (c : Nat) (fs : List D) | amb (k : Nat) | scr (ds : List D)
  deriving Inhabited
inductive Cell where
  | no | val (d : D) | own (ds : List D) | newo (c : Nat) (fs : List D) | exn
  deriving Inhabited
inductive Ob where
  | pl (ds : List D) | ob (c : Nat) (fs : List D) | dc (ks : List L2.Key) (ds : List D)
  deriving Inhabited
abbrev Om := List Ob
abbrev Sl := List Cell
inductive Rs (α : Type) where
  | stuck | ok (a : α) (om : Om) | exc (c : Nat) (fs : List D) (om : Om)
def Rs.bind {α β : Type} (x : Rs α) (f : α → Om → Rs β) : Rs β := match x with
  | .stuck => .stuck
  | .ok a om => f a om
  | .exc c fs om => .exc c fs om
theorem bind_ok {α β : Type} {a : α} {om : Om} {f : α → Om → Rs β} : (Rs.ok a om).bind f = f a om := rfl
theorem bind_exc {α β : Type} {c : Nat} {fs : List D} {om : Om} {f : α → Om → Rs β} : (Rs.exc c fs om : Rs α).bind f = .exc c fs om := rfl
theorem bind_stuck {α β : Type} {f : α → Om → Rs β} : (Rs.stuck : Rs α).bind f = .stuck := rfl

mutual
def toP : D → Option PyData
  | .non => some .none
  | .bl b => some (.bool b)
  | .int i => some (.int i)
  | .str s => some (.str s)
  | .lst ds => (toPs ds).map .list
  | .tup ds => (toPs ds).map .tuple
  | .obj _ _ => none
  | .amb _ => none
  | .scr _ => none
def toPs : List D → Option (List PyData)
  | [] => some []
  | d :: ds => match toP d with
    | some p => match toPs ds with
      | some ps => some (p :: ps)
      | none => none
    | none => none
end

/-! ### data in the heap -/
/-- where classes stand, and their fields in order -/
structure Lk where
  ca : Nat → Addr
  fn : Nat → List Str
  /-- the caught exception: where it stands; its dict, its field -/
  xa : Option (Addr × Option (Addr × Str × V)) := none
mutual
inductive Rep (K : PySem.W.Frag) (L : Lk) (G : Hp) (am : List Addr) : D → V → Prop
  | non : Rep K L G am .non .non
  | bl (b : Bool) : Rep K L G am (.bl b) (.bl b)
  | int (i : Int) : Rep K L G am (.int i) (.int i)
  | str (s : Str) : Rep K L G am (.str s) (.str s)
  | lst {a : Addr} {vs : List V} {ds : List D} (h : G a = some (.lst vs)) (r : RepL K L G am ds vs) : Rep K L G am (.lst ds) (.ref a)
  | tup {a : Addr} {vs : List V} {ds : List D} (h : G a = some (.tup vs)) (r : RepL K L G am ds vs) : Rep K L G am (.tup ds) (.ref a)
  | obj {c : Nat} {a dx : Addr} {vs : List V} {fs : List D} (h : G a = some (.ins (L.ca c) dx ((L.fn c).zip vs))) (n : vs.length = (L.fn c).length) (r : RepL K L G am fs vs) : Rep K L G am (.obj c fs) (.ref a)
  | amb {k : Nat} {a : Addr} (h : am[k]? = some a) : Rep K L G am (.amb k) (.ref a)
  | scr {a : Addr} {vs : List V} {ds : List D} (h : SqL K G a vs) (r : RepL K L G am ds vs) : Rep K L G am (.scr ds) (.ref a)
inductive RepL (K : PySem.W.Frag) (L : Lk) (G : Hp) (am : List Addr) : List D → List V → Prop
  | nil : RepL K L G am [] []
  | cons {d : D} {v : V} {ds : List D} {vs : List V} (h : Rep K L G am d v) (r : RepL K L G am ds vs) : RepL K L G am (d :: ds) (v :: vs)
end
def Ex (G G' : Hp) : Prop := ∀ a o, G a = some o → G' a = some o
structure Grow (G : Hp) (am : List Addr) (G' : Hp) (am' : List Addr) : Prop where
  ex : Ex G G'
  am : ∃ t, am' = am ++ t
section
variable {K : PySem.W.Frag} {L : Lk} {G G' G'' H H' F : Hp} {am am' am'' : List Addr}
theorem Ex.refl : Ex G G := fun _ _ h => h
theorem Ex.trans (a : Ex G G') (b : Ex G' G'') : Ex G G'' := fun x o h => b x o (a x o h)
theorem Ex.new {p : Addr} {o : HO} (h : G p = none) : Ex G (upd G p o) := fun a u e => by
  rw [upd_ne (ne_of_none e h)]
  exact e
theorem Grow.refl : Grow G am G am := ⟨Ex.refl, [], (List.append_nil _).symm⟩
theorem Grow.trans (a : Grow G am G' am') (b : Grow G' am' G'' am'') : Grow G am G'' am'' := ⟨a.ex.trans b.ex, by
  obtain ⟨t, rfl⟩ := a.am
  obtain ⟨u, rfl⟩ := b.am
  exact ⟨t ++ u, List.append_assoc ..⟩⟩
theorem Grow.of {p : Addr} {o : HO} (h : G p = none) : Grow G am (upd G p o) am := ⟨Ex.new h, [], (List.append_nil _).symm⟩
theorem Grow.get (g : Grow G am G' am') {k : Nat} {a : Addr} (h : am[k]? = some a) : am'[k]? = some a := by
  obtain ⟨t, rfl⟩ := g.am
  rw [List.getElem?_append_left (List.getElem?_eq_some_iff.mp h).1]
  exact h
theorem sqL_ex {a : Addr} {xs : List V} (e : Ex G G') (h : SqL K G a xs) : SqL K G' a xs := by
  rcases h with (h | ⟨o, h⟩) | h
  · exact .inl (.inl (e _ _ h))
  · exact .inl (.inr ⟨o, e _ _ h⟩)
  · exact .inr h
theorem sqT_ex {a : Addr} {xs : List V} (e : Ex G G') (h : SqT K G a xs) : SqT K G' a xs := by
  rcases h with (h | ⟨o, h⟩) | h
  · exact .inl (.inl (e _ _ h))
  · exact .inl (.inr ⟨o, e _ _ h⟩)
  · exact .inr h
mutual
theorem Rep.grow (g : Grow G am G' am') : ∀ (d : D) (v : V), Rep K L G am d v → Rep K L G' am' d v
  | _, _, .non => .non
  | _, _, .bl b => .bl b
  | _, _, .int i => .int i
  | _, _, .str s => .str s
  | .lst ds, _, .lst h r => .lst (g.ex _ _ h) (RepL.grow g ds _ r)
  | .tup ds, _, .tup h r => .tup (g.ex _ _ h) (RepL.grow g ds _ r)
  | .obj c fs, _, .obj h n r => .obj (g.ex _ _ h) n (RepL.grow g fs _ r)
  | _, _, .amb h => .amb (g.get h)
  | .scr ds, _, .scr h r => .scr (sqL_ex g.ex h) (RepL.grow g ds _ r)
theorem RepL.grow (g : Grow G am G' am') : ∀ (ds : List D) (vs : List V), RepL K L G am ds vs → RepL K L G' am' ds vs
  | _, _, .nil => .nil
  | d :: ds, v :: vs, .cons h r => .cons (Rep.grow g d v h) (RepL.grow g ds vs r)
end
theorem Rep.up (g : Grow G am G' am') {d : D} {v : V} (h : Rep K L G am d v) : Rep K L G' am' d v := Rep.grow g d v h
theorem RepL.up (g : Grow G am G' am') {d : List D} {v : List V} (h : RepL K L G am d v) : RepL K L G' am' d v := RepL.grow g d v h
theorem RepL.length : ∀ {ds : List D} {vs : List V}, RepL K L G am ds vs → ds.length = vs.length
  | _, _, .nil => rfl
  | _, _, .cons _ r => by rw [List.length_cons, List.length_cons, RepL.length r]
theorem RepL.append : ∀ {ds es : List D} {vs ws : List V}, RepL K L G am ds vs → RepL K L G am es ws → RepL K L G am (ds ++ es) (vs ++ ws)
  | _, _, _, _, .nil, r => r
  | _, _, _, _, .cons h q, r => .cons h (RepL.append q r)
theorem RepL.get : ∀ {ds : List D} {vs : List V} {i : Nat} {d : D}, RepL K L G am ds vs → ds[i]? = some d → ∃ v, vs[i]? = some v ∧ Rep K L G am d v
  | _, _, _, _, .nil, h => by simp at h
  | _, _, 0, _, .cons h _, e => ⟨_, rfl, by
    have := Option.some.inj e
    subst this
    exact h⟩
  | _ :: ds, _ :: vs, i + 1, d, .cons _ r, e => by
    have e' : ds[i]? = some d := e
    exact RepL.get (ds := ds) (vs := vs) (i := i) (d := d) r e'
theorem RepL.getV : ∀ {ds : List D} {vs : List V} {i : Nat} {v : V}, RepL K L G am ds vs → vs[i]? = some v → ∃ d, ds[i]? = some d ∧ Rep K L G am d v
  | _, _, _, _, .nil, h => by simp at h
  | _, _, 0, _, .cons h _, e => ⟨_, rfl, by
    have := Option.some.inj e
    subst this
    exact h⟩
  | _ :: ds, _ :: vs, i + 1, v, .cons _ r, e => by
    have e' : vs[i]? = some v := e
    exact RepL.getV (ds := ds) (vs := vs) (i := i) (v := v) r e'
theorem RepL.take : ∀ {ds : List D} {vs : List V} (n : Nat), RepL K L G am ds vs → RepL K L G am (ds.take n) (vs.take n)
  | _, _, 0, _ => .nil
  | _, _, _ + 1, .nil => .nil
  | _, _, n + 1, .cons h r => .cons h (RepL.take n r)
theorem RepL.drop : ∀ {ds : List D} {vs : List V} (n : Nat), RepL K L G am ds vs → RepL K L G am (ds.drop n) (vs.drop n)
  | _, _, 0, r => r
  | _, _, _ + 1, .nil => .nil
  | _, _, n + 1, .cons _ r => RepL.drop n r
theorem RepL.set : ∀ {ds : List D} {vs : List V} (i : Nat) {d : D} {v : V}, RepL K L G am ds vs → Rep K L G am d v → RepL K L G am (ds.set i d) (vs.set i v)
  | _, _, _, _, _, .nil, _ => .nil
  | _, _, 0, _, _, .cons _ r, q => .cons q r
  | _, _, i + 1, _, _, .cons h r, q => .cons h (RepL.set i r q)
theorem RepL.rep {ds : List D} {vs : List V} (r : RepL K L G am ds vs) : ∀ n : Nat, RepL K L G am (List.replicate n ds).flatten (List.replicate n vs).flatten
  | 0 => .nil
  | n + 1 => by
    rw [List.replicate_succ, List.replicate_succ, List.flatten_cons, List.flatten_cons]
    exact r.append (RepL.rep r n)
end
/-! ### the store of the objects that change -/
def ObR (K : PySem.W.Frag) (L : Lk) (G : Hp) (am : List Addr) (H : Hp) : Ob → Addr → Prop
  | .pl ds, a => ∃ vs, H a = some (.lst vs) ∧ RepL K L G am ds vs
  | .ob c fs, a => ∃ dx vs, H a = some (.ins (L.ca c) dx ((L.fn c).zip vs)) ∧ vs.length ≤ (L.fn c).length ∧ RepL K L G am fs vs
  | .dc ks ds, a => ∃ vs, H a = some (.dK (ks.zip vs)) ∧ (ks.length = vs.length ∧ ks.Nodup ∧ ks.length ≤ 1000000) ∧ RepL K L G am ds vs
/-- G: what stands for good; F: what others hold and nobody here touches; am: where the objects that change stand -/
structure Mem (K : PySem.W.Frag) (L : Lk) (F G : Hp) (am : List Addr) (om : Om) (H : Hp) : Prop where
  gH : Ex G H
  fH : Ex F H
  fg : ∀ a o, F a = some o → G a = none
  len : am.length = om.length
  obs : ∀ (k : Nat) (a : Addr) (o : Ob), am[k]? = some a → om[k]? = some o → ObR K L G am H o a
  nd : am.Nodup
  ag : ∀ a ∈ am, G a = none
  af : ∀ a ∈ am, F a = none
theorem ObR.grow {K : PySem.W.Frag} {L : Lk} {G G' H H' : Hp} {am am' : List Addr} (g : Grow G am G' am') {o : Ob} {a : Addr} (h : ObR K L G am H o a) (e : ∀ u, H a = some u → H' a = some u) : ObR K L G' am' H' o a := by
  cases o with
  | pl ds =>
    obtain ⟨vs, h1, r⟩ := h
    exact ⟨vs, e _ h1, r.up g⟩
  | ob c fs =>
    obtain ⟨dx, vs, h1, n, r⟩ := h
    exact ⟨dx, vs, e _ h1, n, r.up g⟩
  | dc ks ds =>
    obtain ⟨vs, h1, n, r⟩ := h
    exact ⟨vs, e _ h1, n, r.up g⟩
theorem ObR.some {K : PySem.W.Frag} {L : Lk} {G H : Hp} {am : List Addr} {o : Ob} {a : Addr} (h : ObR K L G am H o a) : ∃ u, H a = some u := by
  cases o with
  | pl ds =>
    obtain ⟨vs, h1, r⟩ := h
    exact ⟨_, h1⟩
  | ob c fs =>
    obtain ⟨dx, vs, h1, n, r⟩ := h
    exact ⟨_, h1⟩
  | dc ks ds =>
    obtain ⟨vs, h1, n, r⟩ := h
    exact ⟨_, h1⟩
section
variable {K : PySem.W.Frag} {L : Lk} {F G H : Hp} {am : List Addr} {om : Om} {p : Addr} {u : HO}
theorem Mem.amb (M : Mem K L F G am om H) {k : Nat} {a : Addr} (h : am[k]? = some a) : ∃ o, om[k]? = some o ∧ ObR K L G am H o a := by
  have hk : k < om.length := by
    rw [← M.len]
    exact (List.getElem?_eq_some_iff.mp h).1
  exact ⟨om[k], List.getElem?_eq_getElem hk, M.obs k a _ h (List.getElem?_eq_getElem hk)⟩
theorem Mem.there (M : Mem K L F G am om H) {a : Addr} (h : a ∈ am) : ∃ u, H a = some u := by
  obtain ⟨k, hk, e⟩ := List.mem_iff_getElem.mp h
  obtain ⟨o, _, r⟩ := M.amb (k := k) (a := a) (by rw [List.getElem?_eq_getElem hk, e])
  exact r.some
theorem Mem.none_g (M : Mem K L F G am om H) (h : H p = none) : G p = none := by
  cases e : G p with
  | none => rfl
  | some o =>
    rw [M.gH _ _ e] at h
    cases h
theorem Mem.none_f (M : Mem K L F G am om H) (h : H p = none) : F p = none := by
  cases e : F p with
  | none => rfl
  | some o =>
    rw [M.fH _ _ e] at h
    cases h
theorem Mem.none_am (M : Mem K L F G am om H) (h : H p = none) : p ∉ am := fun hp => by
  obtain ⟨u, e⟩ := M.there hp
  rw [e] at h
  cases h
/-- a new object for good -/
theorem Mem.new (M : Mem K L F G am om H) (h : H p = none) : Mem K L F (upd G p u) am om (upd H p u) := by
  have hg := M.none_g h
  have hf := M.none_f h
  refine ⟨fun a o e => ?_, fun a o e => ?_, fun a o e => ?_, M.len, fun k a o h1 h2 => ?_, M.nd, fun a ha => ?_, M.af⟩
  · by_cases c : a = p
    · subst c
      rw [upd_same] at e ⊢
      exact e
    · rw [upd_ne c] at e ⊢
      exact M.gH _ _ e
  · rw [upd_ne (fun c => by rw [c, hf] at e; cases e)]
    exact M.fH _ _ e
  · rw [upd_ne (fun c => by rw [c, hf] at e; cases e)]
    exact M.fg _ _ e
  · refine (M.obs k a o h1 h2).grow (Grow.of hg) fun u e => ?_
    rw [upd_ne (ne_of_none e h)]
    exact e
  · rw [upd_ne (fun c => M.none_am h (by rw [← c]; exact ha))]
    exact M.ag _ ha
/-- a new object that somebody here holds alone -/
theorem Mem.newF (M : Mem K L F G am om H) (h : H p = none) : Mem K L (upd F p u) G am om (upd H p u) := by
  have hg := M.none_g h
  have hf := M.none_f h
  refine ⟨fun a o e => ?_, fun a o e => ?_, fun a o e => ?_, M.len, fun k a o h1 h2 => ?_, M.nd, M.ag, fun a ha => ?_⟩
  · rw [upd_ne (fun c => by rw [c, hg] at e; cases e)]
    exact M.gH _ _ e
  · by_cases c : a = p
    · subst c
      rw [upd_same] at e ⊢
      exact e
    · rw [upd_ne c] at e ⊢
      exact M.fH _ _ e
  · by_cases c : a = p
    · subst c
      exact hg
    · rw [upd_ne c] at e
      exact M.fg _ _ e
  · refine (M.obs k a o h1 h2).grow Grow.refl fun u e => ?_
    rw [upd_ne (ne_of_none e h)]
    exact e
  · rw [upd_ne (fun c => M.none_am h (by rw [← c]; exact ha))]
    exact M.af _ ha
/-- an object untracked by all here may come into H -/
theorem Mem.more (M : Mem K L F G am om H) (h : H p = none) : Mem K L F G am om (upd H p u) := by
  have hg := M.none_g h
  have hf := M.none_f h
  refine ⟨fun a o e => ?_, fun a o e => ?_, M.fg, M.len, fun k a o h1 h2 => ?_, M.nd, M.ag, M.af⟩
  · rw [upd_ne (fun c => by rw [c, hg] at e; cases e)]
    exact M.gH _ _ e
  · rw [upd_ne (fun c => by rw [c, hf] at e; cases e)]
    exact M.fH _ _ e
  · refine (M.obs k a o h1 h2).grow Grow.refl fun u e => ?_
    rw [upd_ne (ne_of_none e h)]
    exact e
/-- what is held alone is changed -/
theorem Mem.setF (M : Mem K L F G am om H) {o : HO} (h : F p = some o) : Mem K L (upd F p u) G am om (upd H p u) := by
  have hg := M.fg _ _ h
  have ha : p ∉ am := fun c => by
    rw [M.af _ c] at h
    cases h
  refine ⟨fun a o e => ?_, fun a o e => ?_, fun a o e => ?_, M.len, fun k a o h1 h2 => ?_, M.nd, M.ag, fun a hm => ?_⟩
  · rw [upd_ne (fun c => by rw [c, hg] at e; cases e)]
    exact M.gH _ _ e
  · by_cases c : a = p
    · subst c
      rw [upd_same] at e ⊢
      exact e
    · rw [upd_ne c] at e ⊢
      exact M.fH _ _ e
  · by_cases c : a = p
    · subst c
      exact hg
    · rw [upd_ne c] at e
      exact M.fg _ _ e
  · refine (M.obs k a o h1 h2).grow Grow.refl fun u e => ?_
    rw [upd_ne (fun c => ha (by rw [← c]; exact List.mem_of_getElem? h1))]
    exact e
  · rw [upd_ne (fun c => ha (by rw [← c]; exact hm))]
    exact M.af _ hm
theorem Mem.inF (M : Mem K L F G am om H) {o : HO} (h : F p = some o) : p ∉ am := fun c => by
  rw [M.af _ c] at h
  cases h
/-- what is held alone is given away for good -/
theorem Mem.freeze (M : Mem K L F G am om H) {o : HO} (h : F p = some o) {F' : Hp} (e1 : ∀ a u, F' a = some u → F a = some u ∧ a ≠ p) : Mem K L F' (upd G p o) am om H := by
  have hg := M.fg _ _ h
  have ha := M.inF h
  refine ⟨fun a u e => ?_, fun a u e => M.fH _ _ (e1 a u e).1, fun a u e => ?_, M.len, fun k a u h1 h2 => ?_, M.nd, fun a hm => ?_, fun a hm => ?_⟩
  · by_cases c : a = p
    · subst c
      rw [upd_same] at e
      rw [← e]
      exact M.fH _ _ h
    · rw [upd_ne c] at e
      exact M.gH _ _ e
  · rw [upd_ne (e1 a u e).2]
    exact M.fg _ _ (e1 a u e).1
  · exact (M.obs k a u h1 h2).grow (Grow.of hg) fun _ e => e
  · rw [upd_ne (fun c => ha (by rw [← c]; exact hm))]
    exact M.ag _ hm
  · cases e : F' a with
    | none => rfl
    | some u =>
      have z := (e1 a u e).1
      rw [M.af _ hm] at z
      cases z
/-- an object of the store is changed -/
theorem Mem.setA (M : Mem K L F G am om H) {k : Nat} {o' : Ob} (h : am[k]? = some p) (r : ObR K L G am (upd H p u) o' p) : Mem K L F G am (om.set k o') (upd H p u) := by
  have hm : p ∈ am := List.mem_of_getElem? h
  have hg := M.ag _ hm
  have hf := M.af _ hm
  have hk : k < am.length := (List.getElem?_eq_some_iff.mp h).1
  refine ⟨fun a o e => ?_, fun a o e => ?_, M.fg, by rw [List.length_set]; exact M.len, fun j a o h1 h2 => ?_, M.nd, M.ag, M.af⟩
  · rw [upd_ne (fun c => by rw [c, hg] at e; cases e)]
    exact M.gH _ _ e
  · rw [upd_ne (fun c => by rw [c, hf] at e; cases e)]
    exact M.fH _ _ e
  · by_cases c : j = k
    · subst c
      rw [h] at h1
      cases h1
      rw [List.getElem?_set_self (by rw [← M.len]; exact hk)] at h2
      cases h2
      exact r
    · rw [List.getElem?_set_ne (fun z => c z.symm)] at h2
      refine (M.obs j a o h1 h2).grow Grow.refl fun u e => ?_
      have hne : a ≠ p := fun z => by
        subst z
        have hj : j < am.length := (List.getElem?_eq_some_iff.mp h1).1
        have e1 := (List.getElem?_eq_some_iff.mp h1).2
        have e2 := (List.getElem?_eq_some_iff.mp h).2
        exact c ((List.getElem_inj M.nd).mp (e1.trans e2.symm))
      rw [upd_ne hne]
      exact e
/-- a new object of the store -/
theorem Mem.newA (M : Mem K L F G am om H) (h : H p = none) {o' : Ob} (r : ObR K L G (am ++ [p]) (upd H p u) o' p) : Mem K L F G (am ++ [p]) (om ++ [o']) (upd H p u) := by
  have hg := M.none_g h
  have hf := M.none_f h
  have ha := M.none_am h
  refine ⟨fun a o e => ?_, fun a o e => ?_, M.fg, by rw [List.length_append, List.length_append, M.len]; rfl, fun j a o h1 h2 => ?_, ?_, fun a hm => ?_, fun a hm => ?_⟩
  · rw [upd_ne (fun c => by rw [c, hg] at e; cases e)]
    exact M.gH _ _ e
  · rw [upd_ne (fun c => by rw [c, hf] at e; cases e)]
    exact M.fH _ _ e
  · by_cases c : j < am.length
    · rw [List.getElem?_append_left c] at h1
      rw [List.getElem?_append_left (by rw [← M.len]; exact c)] at h2
      refine (M.obs j a o h1 h2).grow ⟨Ex.refl, [p], rfl⟩ fun u e => ?_
      rw [upd_ne (ne_of_none e h)]
      exact e
    · rw [List.getElem?_append_right (by omega)] at h1
      rw [List.getElem?_append_right (by rw [← M.len]; omega), ← M.len] at h2
      have hj : j - am.length = 0 := by
        cases q : j - am.length with
        | zero => rfl
        | succ m =>
          rw [q] at h1
          simp at h1
      rw [hj] at h1 h2
      simp at h1 h2
      subst h1; subst h2
      exact r
  · rw [List.nodup_append]
    refine ⟨M.nd, by simp, fun a h1 b h2 => ?_⟩
    simp at h2
    subst h2
    exact fun c => ha (by rw [← c]; exact h1)
  · rw [List.mem_append] at hm
    rcases hm with hm | hm
    · exact M.ag _ hm
    · simp at hm
      subst hm
      exact hg
  · rw [List.mem_append] at hm
    rcases hm with hm | hm
    · exact M.af _ hm
    · simp at hm
      subst hm
      exact hf
end
/-! ### the slots -/
def CellR (K : PySem.W.Frag) (L : Lk) (F G : Hp) (am : List Addr) : Cell → Option V → Prop
  | .no, _ => True
  | .val d, o => ∃ v, o = some v ∧ Rep K L G am d v
  | .own ds, o => ∃ a vs, o = some (.ref a) ∧ F a = some (.lst vs) ∧ RepL K L G am ds vs
  | .newo c fs, o => ∃ a dx vs, o = some (.ref a) ∧ F a = some (.ins (L.ca c) dx ((L.fn c).zip vs)) ∧ vs.length ≤ (L.fn c).length ∧ RepL K L G am fs vs
  | .exn, o => ∃ a x, L.xa = some (a, x) ∧ o = some (.ref a) ∧ ∀ dd nm v, x = some (dd, nm, v) → G dd = some (.xd [(nm, v)])
def SlR (K : PySem.W.Frag) (L : Lk) (F G : Hp) (am : List Addr) (sl : Sl) (σ : L2.St) : Prop :=
  sl.length = σ.length ∧ ∀ (i : Nat) (c : Cell) (o : Option V), sl[i]? = some c → σ[i]? = some o → CellR K L F G am c o
section
variable {K : PySem.W.Frag} {L : Lk} {F G G' H : Hp} {am am' : List Addr} {om : Om} {sl : Sl} {σ : L2.St}
theorem CellR.grow (g : Grow G am G' am') {c : Cell} {o : Option V} (h : CellR K L F G am c o) : CellR K L F G' am' c o := by
  cases c with
  | no => trivial
  | val d =>
    obtain ⟨v, e, r⟩ := h
    exact ⟨v, e, r.up g⟩
  | own ds =>
    obtain ⟨a, vs, e, f, r⟩ := h
    exact ⟨a, vs, e, f, r.up g⟩
  | newo c fs =>
    obtain ⟨a, dx, vs, e, f, n, r⟩ := h
    exact ⟨a, dx, vs, e, f, n, r.up g⟩
  | exn =>
    obtain ⟨a, x, e1, e2, k⟩ := h
    exact ⟨a, x, e1, e2, fun dd nm v q => g.ex _ _ (k dd nm v q)⟩
theorem SlR.grow (g : Grow G am G' am') (h : SlR K L F G am sl σ) : SlR K L F G' am' sl σ := ⟨h.1, fun i c o a b => (h.2 i c o a b).grow g⟩
theorem SlR.at (h : SlR K L F G am sl σ) {i : Nat} {c : Cell} (e : sl[i]? = some c) : ∃ o, σ[i]? = some o ∧ CellR K L F G am c o := by
  have hi : i < σ.length := by
    rw [← h.1]
    exact (List.getElem?_eq_some_iff.mp e).1
  exact ⟨σ[i], List.getElem?_eq_getElem hi, h.2 i c _ e (List.getElem?_eq_getElem hi)⟩
theorem SlR.set (h : SlR K L F G am sl σ) {i : Nat} {c : Cell} {o : Option V} (r : CellR K L F G am c o) : SlR K L F G am (sl.set i c) (σ.set i o) := by
  refine ⟨by rw [List.length_set, List.length_set]; exact h.1, fun j c' o' a b => ?_⟩
  by_cases e : i = j
  · subst e
    have h1 : i < sl.length := by
      have := (List.getElem?_eq_some_iff.mp a).1
      rwa [List.length_set] at this
    rw [List.getElem?_set_self h1] at a
    rw [List.getElem?_set_self (by rw [← h.1]; exact h1)] at b
    cases a; cases b
    exact r
  · rw [List.getElem?_set_ne e] at a b
    exact h.2 j c' o' a b
end
end PD

set_option Elab.async false
set_option linter.all false
set_option maxRecDepth 100000
set_option maxHeartbeats 2000000
/-! PDB: the small language and what it computes. -/
namespace PD
open PySem PySem.Spec PyProof.Rows L2
inductive Bop where
  | add | sub | mul | fdiv | mod | pow
inductive Cop where
  | eq | ne | lt | le | gt | ge | inn | nin | is | isn
inductive Ty where
  | tuple | list | int | bool | str | own (c : Nat)
inductive Bi where
  | len | abs | str | int | list | tuple | bool | sum | any | all
inductive Mb where
  | join | split | partition
inductive Tg where
  | one (i : Nat) | many (is : List Nat)
/-- expressions; nil, cons, star: argument lists; itl .. zip: what a loop walks -/
inductive E where
  | v (i : Nat) | b (i : Nat) | k (d : D)
  | op (o : Bop) (a b : E) | cat (a b : E) | rp (a b : E) | neg (a : E)
  | no (a : E) | an (a b : E) | or (a b : E) | ite (c a b : E)
  | cm (o : Cop) (a b : E) | ch (o o' : Cop) (a b c : E) | cm0 (o : Cop) (a b : E) | sam (a b : E) | rpl (y : Str) (o a : E)
  | call (f : Nat) (dv : List D) (as : E) | mk (c f : Nat) (dv : List D) (as : E) | mka (c f : Nat) (dv : List D) (as : E) | meth (c f : Nat) (dv : List D) (o as : E)
  | fld (c j : Nat) (a : E) | fs (c j : Nat) | xf (i : Nat) (d : D) | nl (a : E) | dnw (ks : List L2.Key) (as : E) | dg (a : E) (k : L2.Key) | bi (b : Bi) (a : E) | mb (m : Mb) (o a : E) | isi (ts : List Ty) (a : E)
  | ix (a b : E) | sl (a lo hi : E) | nop | fstr (as : E)
  | tup (as : E) | lst (as : E) | comp (tg : Tg) (it cond elt : E)
  | nil | cons (a as : E) | star (a as : E)
  | itl (a : E) | rng1 (a : E) | rng2 (a b : E) | enu (a : E) | zip (a b : E)
/-- the program's table: calls, makers of instances, operators by own methods -/
structure Tb where
  wf : Nat
  call : Nat → List D → Om → Rs D
  init : Nat → List D → Om → Rs (List D)
  fresh : Nat → Bool
  opm : Nat → Bop → Option Nat
  eqm : Nat → Option Nat
  strm : Nat → Option Nat
  nf : Nat → Nat
  lev : Nat := 0
/-- no defs -/
def Tz : Tb := ⟨0, fun _ _ _ => .stuck, fun _ _ _ => .stuck, fun _ => false, fun _ _ => none, fun _ => none, fun _ => none, fun _ => 0, 0⟩
/-- a text n times -/
def repS (s : Str) (n : Nat) : Str := ⟨(List.replicate n s.cps).foldl (· ++ ·) #[]⟩
/-- two plain values are one -/
def samD : D → D → Option Bool
  | .int i, .int j => some (i == j)
  | .str i, .str j => if (PyData.strOk i && PyData.strOk j) = true then some (i == j) else none
  | .int _, .str _ => some false
  | .str _, .int _ => some false
  | _, _ => none
instance (i j : Int) : Decidable (CMulW i j) := inferInstanceAs (Decidable (_ < _))
instance (i j : Int) : Decidable (CDivW i j) := inferInstanceAs (Decidable (_ ∧ _))
instance (i j : Int) : Decidable (CPow i j) := inferInstanceAs (Decidable (_ ∧ _ ∧ _))
/-- nothing may be raised -/
def Rs.nox {α : Type} (r : Rs α) : Rs α := match r with
  | .ok a om => .ok a om
  | _ => .stuck
theorem nox_ok {α : Type} {a : α} {om : Om} : (Rs.ok a om).nox = .ok a om := rfl
def bop (T : Tb) : Bop → D → D → Om → Rs D
  | .add, .int i, .int j, om => .ok (.int (i + j)) om
  | .sub, .int i, .int j, om => .ok (.int (i - j)) om
  | .mul, .int i, .int j, om => if CMulW i j then .ok (.int (i * j)) om else .stuck
  | .fdiv, .int i, .int j, om => if CDivW i j then .ok (.int (i / j)) om else .stuck
  | .mod, .int i, .int j, om => if 0 < j then .ok (.int (i % j)) om else .stuck
  | .pow, .int i, .int j, om => if CPow i j then .ok (.int (i ^ j.toNat)) om else .stuck
  | .add, .str s, .str t, om => if s.length + t.length ≤ 1000000 then .ok (.str (s ++ t)) om else .stuck
  | .add, .lst xs, .lst ys, om => if xs.length + ys.length ≤ 1000000 then .ok (.lst (xs ++ ys)) om else .stuck
  | .add, .tup xs, .tup ys, om => if xs.length + ys.length ≤ 1000000 then .ok (.tup (xs ++ ys)) om else .stuck
  | .mul, .str s, .int k, om => if 0 ≤ k ∧ k ≤ 1000000 ∧ s.length * k.toNat ≤ 1000000 then .ok (.str (repS s k.toNat)) om else .stuck
  | .mul, .lst xs, .int k, om => if 0 ≤ k ∧ k ≤ 1000000 ∧ xs.length * k.toNat ≤ 1000000 then .ok (.lst (List.replicate k.toNat xs).flatten) om else .stuck
  | .mul, .tup xs, .int k, om => if 0 ≤ k ∧ k ≤ 1000 ∧ xs.isEmpty = false ∧ xs.length ≤ 1000 then .ok (.tup (List.replicate k.toNat xs).flatten) om else .stuck
  | o, .obj c fs, .obj c' gs, om => if c = c' then match T.opm c o with
      | some f => (T.call f [.obj c fs, .obj c' gs] om).nox
      | none => .stuck
    else .stuck
  | _, _, _, _ => .stuck
/-- list + list, list * int: a new list -/
def catD : D → D → Om → Rs D
  | .lst xs, .lst ys, om => if xs.length + ys.length ≤ 1000000 then .ok (.lst (xs ++ ys)) om else .stuck
  | _, _, _ => .stuck
def repD : D → D → Om → Rs D
  | .lst xs, .int k, om => if 0 ≤ k ∧ k ≤ 1000000 ∧ xs.length * k.toNat ≤ 1000000 then .ok (.lst (List.replicate k.toNat xs).flatten) om else .stuck
  | _, _, _ => .stuck
def eqD (T : Tb) (x y : D) (om : Om) : Rs Bool := match x, y with
  | .obj c fs, .obj c' gs => if c = c' then match T.eqm c with
      | some f => match T.call f [.obj c fs, .obj c' gs] om with
        | .ok (.bl b) om' => .ok b om'
        | _ => .stuck
      | none => .stuck
    else .stuck
  | x, y => match toP x, toP y with
    | some p, some q => if (SeqAt.shaped p && SeqAt.shaped q) = true then .ok (PyData.eqv p q) om else .stuck
    | _, _ => .stuck
def inD (x : D) (ys : List D) : Option Bool := match toP x, toPs ys with
  | some p, some qs => if (SeqAt.shaped p && SeqAt.shaped (.list qs)) = true then some (qs.any fun z => PyData.eqv z p) else none
  | _, _ => none
def flatD : D → Bool
  | .non => true | .bl _ => true | .int _ => true | .str _ => true
  | _ => false
def inT (x : D) (ys : List D) : Option Bool := if (flatD x && ys.all flatD) = true then match toP x, toPs ys with
    | some p, some qs => some (qs.any fun z => PyData.eqv z p)
    | _, _ => none
  else none
def ltD : D → D → Option Bool
  | .int i, .int j => some (decide (i < j))
  | .str i, .str j => some (decide (i.cps.toList < j.cps.toList))
  | _, _ => none
def leD : D → D → Option Bool
  | .int i, .int j => some (decide (i ≤ j))
  | .str i, .str j => some (!decide (j.cps.toList < i.cps.toList))
  | _, _ => none
def gtD : D → D → Option Bool
  | .int i, .int j => some (decide (j < i))
  | _, _ => none
def geD : D → D → Option Bool
  | .int i, .int j => some (decide (j ≤ i))
  | _, _ => none
def inX (x : D) : D → Option Bool
  | .str j => match x with
    | .str i => some (!(Builtin.Str.occurrences j i 0 j.length 1).isEmpty)
    | _ => none
  | .lst ys => inD x ys
  | .tup ys => inT x ys
  | _ => none
/-- in, also in a list of the store -/
def inA (x y : D) (om : Om) : Option Bool := match y with
  | .amb k => match om[k]? with
    | some (.pl ds) => inD x ds
    | _ => none
  | y => inX x y
def isN (x : D) : D → Option Bool
  | .non => match x with
    | .non => some true
    | .bl _ => some false
    | .int _ => some false
    | .str _ => some false
    | .lst _ => some false
    | .tup _ => some false
    | .obj _ _ => some false
    | _ => none
  | _ => none
def opt (o : Option Bool) (om : Om) : Rs Bool := match o with
  | some b => .ok b om
  | none => .stuck
def neD (x y : D) (om : Om) : Rs Bool := match toP x, toP y with
  | some p, some q => if (SeqAt.shaped p && SeqAt.shaped q) = true then .ok (!PyData.eqv p q) om else .stuck
  | _, _ => .stuck
def cmp (T : Tb) (o : Cop) (x y : D) (om : Om) : Rs Bool := match o with
  | .eq => eqD T x y om
  | .ne => neD x y om
  | .lt => opt (ltD x y) om
  | .le => opt (leD x y) om
  | .gt => opt (gtD x y) om
  | .ge => opt (geD x y) om
  | .inn => opt (inA x y om) om
  | .nin => opt ((inA x y om).map (!·)) om
  | .is => opt (isN x y) om
  | .isn => opt ((isN x y).map (!·)) om
def truD : D → Option Bool
  | .non => some false
  | .bl b => some b
  | .int i => some (i != 0)
  | .str s => if s.length ≤ 1000000 then some ((s.length : Int) != 0) else none
  | .lst ds => some (!ds.isEmpty)
  | .tup ds => some (!ds.isEmpty)
  | _ => none
def tru (d : D) (om : Om) : Rs Bool := match truD d with
  | some b => .ok b om
  | none => .stuck
def intsD : List D → Option (List Int)
  | [] => some []
  | .int i :: r => (intsD r).map (i :: ·)
  | _ :: _ => none
def blsD : List D → Option (List Bool)
  | [] => some []
  | .bl i :: r => (blsD r).map (i :: ·)
  | _ :: _ => none
def strsD : List D → Option (List Str)
  | [] => some []
  | .str i :: r => (strsD r).map (i :: ·)
  | _ :: _ => none
def biD (T : Tb) : Bi → D → Om → Rs D
  | .len, .lst ds, om => .ok (.int ds.length) om
  | .len, .tup ds, om => .ok (.int ds.length) om
  | .len, .scr ds, om => .ok (.int ds.length) om
  | .len, .str s, om => if s.length ≤ 1000000 then .ok (.int s.length) om else .stuck
  | .abs, .int i, om => .ok (.int (if i < 0 then -i else i)) om
  | .str, .int i, om => if i.natAbs.log2 < 1920 then .ok (.str (toString i)) om else .stuck
  | .str, .str s, om => .ok (.str s) om
  | .str, .obj c fs, om => match T.strm c with
    | some f => match T.call f [.obj c fs] om with
      | .ok (.str s) om' => .ok (.str s) om'
      | _ => .stuck
    | none => .stuck
  | .int, .int i, om => .ok (.int i) om
  | .int, .bl b, om => .ok (.int (if b then 1 else 0)) om
  | .int, .str s, om => match PySem.intText? s with
    | some n => if s.length ≤ 640 then .ok (.int n) om else .stuck
    | none => .stuck
  | .bool, .int i, om => .ok (.bl (i != 0)) om
  | .bool, .bl b, om => .ok (.bl b) om
  | .bool, .amb k, om => match om[k]? with
    | some (.pl ds) => .ok (.bl (!ds.isEmpty)) om
    | _ => .stuck
  | .list, .lst ds, om => .ok (.lst ds) om
  | .list, .tup ds, om => .ok (.lst ds) om
  | .list, .scr ds, om => .ok (.lst ds) om
  | .tuple, .lst ds, om => .ok (.tup ds) om
  | .tuple, .tup ds, om => .ok (.tup ds) om
  | .tuple, .amb k, om => match om[k]? with
    | some (.pl ds) => .ok (.tup ds) om
    | _ => .stuck
  | .sum, .lst ds, om => match intsD ds with
    | some ns => .ok (.int ns.sum) om
    | none => .stuck
  | .any, .lst ds, om => match blsD ds with
    | some bs => .ok (.bl (bs.any id)) om
    | none => .stuck
  | .all, .lst ds, om => match blsD ds with
    | some bs => .ok (.bl (bs.all id)) om
    | none => .stuck
  | _, _, _ => .stuck
def mbf : Mb → Str → D → Om → Rs D
  | .join, s, .lst ds, om => match strsD ds with
    | some ys => if (ys.map (·.length)).sum + ys.length * s.length ≤ 1000000 then .ok (.str (Txt.join s ys)) om else .stuck
    | none => .stuck
  | .split, a, .str b, om => if (b.length == 0) = false ∧ a.length + 2 ≤ 1000000 then .ok (.lst ((Txt.split a b).map D.str)) om else .stuck
  | .partition, a, .str b, om => if (b.length == 0) = false ∧ a.length ≤ 1000000 then .ok (.tup [.str (Txt.partition a b).1, .str (Txt.partition a b).2.1, .str (Txt.partition a b).2.2]) om else .stuck
  | _, _, _, _ => .stuck
def isT : Ty → D → Option Bool
  | .tuple, d => match d with | .tup _ => some true | .non => some false | .bl _ => some false | .int _ => some false | .str _ => some false | .lst _ => some false | _ => none
  | .list, d => match d with | .lst _ => some true | .non => some false | .bl _ => some false | .int _ => some false | .str _ => some false | .tup _ => some false | _ => none
  | .int, d => match d with | .int _ => some true | .bl _ => some true | .non => some false | .str _ => some false | .tup _ => some false | .lst _ => some false | _ => none
  | .bool, d => match d with | .bl _ => some true | .int _ => some false | .non => some false | .str _ => some false | .tup _ => some false | .lst _ => some false | _ => none
  | .str, d => match d with | .str _ => some true | .int _ => some false | .non => some false | .bl _ => some false | .tup _ => some false | .lst _ => some false | _ => none
  | .own c, d => match d with | .obj c' _ => if c' = c then some true else none | _ => none
def isA : List Ty → D → Option Bool
  | [], _ => some false
  | t :: ts, d => match isT t d with
    | some true => some true
    | some false => isA ts d
    | none => none
def ixD : D → D → Om → Rs D
  | .lst ds, .int i, om => match atI ds i with | some d => .ok d om | none => .stuck
  | .tup ds, .int i, om => match atI ds i with | some d => .ok d om | none => .stuck
  | .scr ds, .int i, om => match atI ds i with | some d => .ok d om | none => .stuck
  | .str s, .int i, om => if s.length ≤ 1000000 then match atI s.cps.toList i with | some c => .ok (.str ⟨#[c]⟩) om | none => .stuck else .stuck
  | .amb k, .int i, om => match om[k]? with
    | some (.pl ds) => match atI ds i with | some d => .ok d om | none => .stuck
    | _ => .stuck
  | _, _, _ => .stuck
def cutD (xs : List D) (lo hi : Option Int) : List D := (xs.drop (HT.sIx xs.length 0 lo)).take (HT.sIx xs.length xs.length hi - HT.sIx xs.length 0 lo)
def slD : D → Option Int → Option Int → Om → Rs D
  | .lst ds, lo, hi, om => .ok (.lst (cutD ds lo hi)) om
  | .tup ds, lo, hi, om => .ok (.tup (cutD ds lo hi)) om
  | .str s, lo, hi, om => if s.length ≤ 1000000 then .ok (.str (cutS s lo hi)) om else .stuck
  | _, _, _, _ => .stuck
def fldD (c j : Nat) : D → Om → Rs D
  | .obj c' fs, om => if c' = c then match fs[j]? with | some d => .ok d om | none => .stuck else .stuck
  | .amb k, om => match om[k]? with
    | some (.ob c' fs) => if c' = c then match fs[j]? with | some d => .ok d om | none => .stuck else .stuck
    | _ => .stuck
  | _, _ => .stuck
/-- an instance of that class -/
def isC (c : Nat) (x : D) (om : Om) : Bool := match x with
  | .obj c' _ => c' == c
  | .amb k => match om[k]? with
    | some (.ob c' _) => c' == c
    | _ => false
  | _ => false
/-- what a dict holds at a key -/
def dgD : List L2.Key → List D → L2.Key → Option D
  | k :: ks, d :: ds, x => if k = x then some d else dgD ks ds x
  | _, _, _ => none
/-- a key's place gets a new value -/
def dpD : List L2.Key → List D → L2.Key → D → Option (List D)
  | k :: ks, d :: ds, x, y => if k = x then some (y :: ds) else (dpD ks ds x y).map (d :: ·)
  | _, _, _, _ => none
def sets (sl : Sl) : List Nat → List D → Sl
  | i :: is, d :: ds => sets (sl.set i (.val d)) is ds
  | _, _ => sl
def setT (sl : Sl) : Tg → D → Option Sl
  | .one i, d => some (sl.set i (.val d))
  | .many is, .tup ds => if ds.length = is.length then some (sets sl is ds) else none
  | _, _ => none
def items : D → Option (List D)
  | .lst ds => some ds
  | .tup ds => some ds
  | .scr ds => some ds
  | .str s => some (s.cps.toList.map fun c => .str ⟨#[c]⟩)
  | _ => none
def fmt (T : Tb) : D → Om → Rs Str
  | .str s, om => if s.length ≤ 1000000 then .ok s om else .stuck
  | .int i, om => if i.natAbs.log2 < 1920 then .ok (toString i) om else .stuck
  | _, _ => .stuck
def part : D → Option Int
  | .int i => some i
  | _ => none
def tgIx : Tg → List Nat
  | .one i => [i]
  | .many is => is
def wipeS (sl : Sl) : List Nat → Sl
  | [] => sl
  | i :: is => (wipeS sl is).set i .no
def compGo (ct : Sl → Om → Rs Bool) (el : Sl → Om → Rs D) (tg : Tg) (sl : Sl) : List D → Om → Rs (List D)
  | [], om => .ok [] om
  | d :: ds, om => match setT sl tg d with
    | none => .stuck
    | some sl' => match ct sl' om with
      | .ok true om1 => match el sl' om1 with
        | .ok x om2 => match compGo ct el tg sl ds om2 with
          | .ok xs om3 => .ok (x :: xs) om3
          | _ => .stuck
        | _ => .stuck
      | .ok false om1 => compGo ct el tg sl ds om1
      | _ => .stuck
def isNop : E → Bool
  | .nop => true
  | _ => false
mutual
def evE (T : Tb) : E → Sl → Om → Rs D
  | .v i, sl, om => match sl[i]? with | some (.val d) => .ok d om | _ => .stuck
  | .b i, sl, om => match sl[i]? with | some (.val d) => .ok d om | some (.own ds) => .ok (.lst ds) om | _ => .stuck
  | .k d, _, om => .ok d om
  | .op o a b, sl, om => (evE T a sl om).bind fun x om => (evE T b sl om).bind fun y om => bop T o x y om
  | .cat a b, sl, om => (evE T a sl om).bind fun x om => (evE T b sl om).bind fun y om => catD x y om
  | .rp a b, sl, om => (evE T a sl om).bind fun x om => (evE T b sl om).bind fun y om => repD x y om
  | .neg a, sl, om => (evE T a sl om).bind fun x om => match x with | .int i => .ok (.int (-i)) om | _ => .stuck
  | .no a, sl, om => (evE T a sl om).bind fun x om => (tru x om).bind fun b om => .ok (.bl (!b)) om
  | .an a b, sl, om => (evE T a sl om).bind fun x om => (tru x om).bind fun c om => if c = true then evE T b sl om else .ok x om
  | .or a b, sl, om => (evE T a sl om).bind fun x om => (tru x om).bind fun c om => if c = true then .ok x om else evE T b sl om
  | .ite c a b, sl, om => (evE T c sl om).bind fun x om => (tru x om).bind fun c om => if c = true then evE T a sl om else evE T b sl om
  | .cm o a b, sl, om => (evE T a sl om).bind fun x om => (evE T b sl om).bind fun y om => (cmp T o x y om).bind fun c om => .ok (.bl c) om
  | .ch o o' a b c, sl, om => (evE T a sl om).bind fun x om => (evE T b sl om).bind fun y om => (cmp T o x y om).bind fun r om => if r = true then (evE T c sl om).bind fun z om => (cmp T o' y z om).bind fun r om => .ok (.bl r) om else .ok (.bl false) om
  | .cm0 o a b, sl, om => (evE T a sl om).bind fun x om => (evE T b sl om).bind fun y om => (cmp Tz o x y om).bind fun c om => .ok (.bl c) om
  | .sam a b, sl, om => (evE T a sl om).bind fun x om => (evE T b sl om).bind fun y om => if 2 ≤ T.lev then match samD x y with | some t => .ok (.bl t) om | none => .stuck else .stuck
  | .rpl y o a, sl, om => (evE T o sl om).bind fun x om => match x with
    | .str x => (evE T a sl om).bind fun z om => match z with
      | .str z => if (y == z) = false ∧ x.length + (x.length + 1) * z.length ≤ 1000000 then .ok (.str (Txt.replace x y z)) om else .stuck
      | _ => .stuck
    | _ => .stuck
  | .call f dv as, sl, om => (evL T as sl om).bind fun xs om => T.call f (xs ++ dv) om
  | .mk c f dv as, sl, om => (evL T as sl om).bind fun xs om => (T.init f (xs ++ dv) om).bind fun fs om => if fs.length = T.nf c then .ok (.obj c fs) om else .stuck
  | .mka c f dv as, sl, om => (evL T as sl om).bind fun xs om => (T.call f (.amb om.length :: (xs ++ dv)) (om ++ [.ob c []])).bind fun r om' => match r with | .non => .ok (.amb om.length) om' | _ => .stuck
  | .meth c f dv o as, sl, om => (evE T o sl om).bind fun x om => if isC c x om = true then (evL T as sl om).bind fun xs om => T.call f (x :: (xs ++ dv)) om else .stuck
  | .fs c j, sl, om => match sl[(0 : Nat)]? with
    | some (.newo c' fs) => if c' = c then match fs[j]? with | some d => .ok d om | none => .stuck else .stuck
    | _ => .stuck
  | .fld c j a, sl, om => (evE T a sl om).bind fun x om => fldD c j x om
  | .xf i d, sl, om => match sl[i]? with | some .exn => .ok d om | _ => .stuck
  | .nl a, sl, om => (evE T a sl om).bind fun d om => match d with | .lst ds => .ok (.amb om.length) (om ++ [.pl ds]) | _ => .stuck
  | .dnw ks as, sl, om => (evL T as sl om).bind fun xs om => if ks.length = xs.length then .ok (.amb om.length) (om ++ [.dc ks xs]) else .stuck
  | .dg a k, sl, om => (evE T a sl om).bind fun x om => match x with
    | .amb j => match om[j]? with
      | some (.dc ks ds) => match dgD ks ds k with | some d => .ok d om | none => .stuck
      | _ => .stuck
    | _ => .stuck
  | .bi b a, sl, om => (evE T a sl om).bind fun x om => biD T b x om
  | .mb m o a, sl, om => (evE T o sl om).bind fun x om => match x with
    | .str s => (evE T a sl om).bind fun y om => mbf m s y om
    | _ => .stuck
  | .isi ts a, sl, om => (evE T a sl om).bind fun x om => match isA ts x with | some b => .ok (.bl b) om | none => .stuck
  | .ix a b, sl, om => (evE T a sl om).bind fun x om => (evE T b sl om).bind fun y om => ixD x y om
  | .sl a lo hi, sl, om => (evE T a sl om).bind fun x om => (evO T lo sl om).bind fun l om => (evO T hi sl om).bind fun h om => slD x l h om
  | .fstr as, sl, om => (evJ T as (⟨#[]⟩ : Str) sl om).bind fun s om => .ok (.str s) om
  | .tup as, sl, om => (evL T as sl om).bind fun xs om => if xs.length ≤ 1000000 then .ok (.tup xs) om else .stuck
  | .lst as, sl, om => (evL T as sl om).bind fun xs om => if xs.length ≤ 1000000 then .ok (.lst xs) om else .stuck
  | .comp tg it cond elt, sl, om => (evI T it sl om).bind fun ds om => if ds.length ≤ 1000000 then (compGo (fun sl om => (evE T cond sl om).bind fun x om => tru x om) (evE T elt) tg (wipeS sl (tgIx tg)) ds om).bind fun xs om => .ok (.lst xs) om else .stuck
  | .nop, _, _ => .stuck
  | .nil, _, _ => .stuck
  | .cons _ _, _, _ => .stuck
  | .star _ _, _, _ => .stuck
  | .itl _, _, _ => .stuck
  | .rng1 _, _, _ => .stuck
  | .rng2 _ _, _, _ => .stuck
  | .enu _, _, _ => .stuck
  | .zip _ _, _, _ => .stuck
/-- an argument list -/
def evL (T : Tb) : E → Sl → Om → Rs (List D)
  | .nil, _, om => .ok [] om
  | .cons a r, sl, om => (evE T a sl om).bind fun x om => (evL T r sl om).bind fun xs om => .ok (x :: xs) om
  | .star a r, sl, om => (evE T a sl om).bind fun x om => match x with
    | .lst ys => (evL T r sl om).bind fun xs om => .ok (ys ++ xs) om
    | .tup ys => (evL T r sl om).bind fun xs om => .ok (ys ++ xs) om
    | _ => .stuck
  | _, _, _ => .stuck
/-- a slice's part -/
def evO (T : Tb) : E → Sl → Om → Rs (Option Int)
  | .cons a .nil, sl, om => (evE T a sl om).bind fun x om => match x with | .int i => .ok (some i) om | _ => .stuck
  | .nop, _, om => .ok none om
  | _, _, _ => .stuck
/-- the parts of an f-string -/
def evJ (T : Tb) : E → Str → Sl → Om → Rs Str
  | .nil, acc, _, om => .ok acc om
  | .cons a r, acc, sl, om => (evE T a sl om).bind fun x om => (fmt T x om).bind fun y om => if (acc ++ y).length ≤ 1000000 then evJ T r (acc ++ y) sl om else .stuck
  | _, _, _, _ => .stuck
/-- what a loop walks -/
def evI (T : Tb) : E → Sl → Om → Rs (List D)
  | .itl a, sl, om => (evE T a sl om).bind fun x om => match items x with | some ds => .ok ds om | none => .stuck
  | .rng1 a, sl, om => (evE T a sl om).bind fun x om => match x with
    | .int n => if -(2 ^ 62) ≤ n ∧ n < 2 ^ 62 then .ok ((List.range n.toNat).map fun (k : Nat) => .int k) om else .stuck
    | _ => .stuck
  | .rng2 a b, sl, om => (evE T a sl om).bind fun x om => (evE T b sl om).bind fun y om => match x, y with
    | .int m, .int n => if (-(2 ^ 62) ≤ m ∧ m < 2 ^ 62) ∧ -(2 ^ 62) ≤ n ∧ n < 2 ^ 62 then .ok ((List.range (n - m).toNat).map fun (k : Nat) => .int (m + k)) om else .stuck
    | _, _ => .stuck
  | .enu a, sl, om => (evE T a sl om).bind fun x om => match x with
    | .lst ds => .ok ((List.range ds.length).zipWith (fun (k : Nat) d => .tup [.int k, d]) ds) om
    | _ => .stuck
  | .zip a b, sl, om => (evE T a sl om).bind fun x om => (evE T b sl om).bind fun y om => match x, y with
    | .lst ds, .lst es => .ok (ds.zipWith (fun d e => .tup [d, e]) es) om
    | _, _ => .stuck
  | _, _, _ => .stuck
end
def evT (T : Tb) (e : E) (sl : Sl) (om : Om) : Rs Bool := (evE T e sl om).bind fun x om => tru x om
/-! ### statements -/
inductive S where
  | skip | seq (a b : S)
  | set (i : Nat) (e : E) | setO (i : Nat) (e : E) | setA (i : Nat) (e : E) | fz (i : Nat)
  | setT (is : List Nat) (e : E) | par (i j : Nat) (a b : E)
  | app (i : Nat) (e : E) | appA (i : Nat) (e : E) | ext (i : Nat) (e : E) | pop (i j : Nat) | setI (i : Nat) (x e : E) | setIA (i : Nat) (x e : E)
  | setF (c j : Nat) (e : E) | stF (i c j : Nat) (e : E) | auF (i c j : Nat) (e : E) | aug (i : Nat) (o : Bop) (e : E)
  | drop (e : E) | ite (c : E) (a b : S) | whl (c : E) (b : S) | fo (tg : Tg) (it : E) (b : S)
  | ret (e : E) | retF (e : E) | retO (i : Nat) | retN | brk | cnt | never
  | rais (c : Nat) (as : E) | appE (o e : E) | dput (o : E) (k : L2.Key) (e : E) | tr (b : S) (cs : Nat → Option Bool) (i : Nat) (hd : Nat → List D → S)
inductive Out where
  | stuck | next (sl : Sl) (om : Om) | brk (sl : Sl) (om : Om) | cnt (sl : Sl) (om : Om)
  | ret (d : D) (om : Om) | retF (ds : List D) (om : Om) | exc (c : Nat) (fs : List D) (sl : Sl) (om : Om)
def Rs.out {α : Type} (r : Rs α) (sl : Sl) (f : α → Om → Out) : Out := match r with
  | .stuck => .stuck
  | .ok a om => f a om
  | .exc c fs om => .exc c fs sl om
theorem out_ok {α : Type} {a : α} {om : Om} {sl : Sl} {f : α → Om → Out} : (Rs.ok a om).out sl f = f a om := rfl
theorem out_exc {α : Type} {c : Nat} {fs : List D} {om : Om} {sl : Sl} {f : α → Om → Out} : (Rs.exc c fs om : Rs α).out sl f = .exc c fs sl om := rfl
def whileGo (c : Sl → Om → Rs Bool) (b : Sl → Om → Out) : Nat → Sl → Om → Out
  | 0, _, _ => .stuck
  | n + 1, sl, om => (c sl om).out sl fun t om => if t = true then match b sl om with
      | .next sl om => whileGo c b n sl om
      | .cnt sl om => whileGo c b n sl om
      | .brk sl om => .next sl om
      | o => o
    else .next sl om
def forGo (b : Sl → Om → Out) (tg : Tg) : List D → Sl → Om → Out
  | [], sl, om => .next sl om
  | d :: ds, sl, om => match setT sl tg d with
    | none => .stuck
    | some sl => match b sl om with
      | .next sl om => forGo b tg ds sl om
      | .cnt sl om => forGo b tg ds sl om
      | .brk sl om => .next sl om
      | o => o
/-- the caught exception is forgotten -/
def unx (sl : Sl) : Sl := sl.map fun c => match c with
  | .exn => .no
  | c => c
def aft (i : Nat) : Out → Out
  | .next sl om => .next (unx (sl.set i .no)) om
  | .brk sl om => .brk (unx (sl.set i .no)) om
  | .cnt sl om => .cnt (unx (sl.set i .no)) om
  | .ret d om => .ret d om
  | .retF ds om => .retF ds om
  | _ => .stuck
def evS (T : Tb) : S → Sl → Om → Out
  | .skip, sl, om => .next sl om
  | .seq a b, sl, om => match evS T a sl om with
    | .next sl om => evS T b sl om
    | o => o
  | .set i e, sl, om => (evE T e sl om).out sl fun d om => .next (sl.set i (.val d)) om
  | .setO i e, sl, om => (evE T e sl om).out sl fun d om => match d with
    | .lst ds => .next (sl.set i (.own ds)) om
    | _ => .stuck
  | .setA i e, sl, om => (evE T e sl om).out sl fun d om => match d with
    | .lst ds => .next (sl.set i (.val (.amb om.length))) (om ++ [.pl ds])
    | _ => .stuck
  | .fz i, sl, om => match sl[i]? with
    | some (.own ds) => .next (sl.set i (.val (.lst ds))) om
    | _ => .next sl om
  | .setT is e, sl, om => (evE T e sl om).out sl fun d om => match PD.setT sl (.many is) d with
    | some sl => .next sl om
    | none => .stuck
  | .par i j a b, sl, om => (evE T a sl om).out sl fun x om => (evE T b sl om).out sl fun y om => .next ((sl.set i (.val x)).set j (.val y)) om
  | .app i e, sl, om => match sl[i]? with
    | some (.own ds) => (evE T e sl om).out sl fun d om => if ds.length < 1000000 then .next (sl.set i (.own (ds ++ [d]))) om else .stuck
    | _ => .stuck
  | .appA i e, sl, om => match sl[i]? with
    | some (.val (.amb k)) => match om[k]? with
      | some (.pl _) => (evE T e sl om).out sl fun d om => match om[k]? with
        | some (.pl ds) => if ds.length < 1000000 then .next sl (om.set k (.pl (ds ++ [d]))) else .stuck
        | _ => .stuck
      | _ => .stuck
    | _ => .stuck
  | .ext i e, sl, om => match sl[i]? with
    | some (.own ds) => (evE T e sl om).out sl fun d om => match d with
      | .lst es => if ds.length + es.length ≤ 1000000 then .next (sl.set i (.own (ds ++ es))) om else .stuck
      | _ => .stuck
    | _ => .stuck
  | .pop i j, sl, om => match sl[i]? with
    | some (.own ds) => match ds[ds.length - 1]? with
      | some d => .next ((sl.set i (.own ds.dropLast)).set j (.val d)) om
      | none => .stuck
    | _ => .stuck
  | .setI i x e, sl, om => match sl[i]? with
    | some (.own ds) => (evE T e sl om).out sl fun d om => (evE T x sl om).out sl fun n om => match n with
      | .int n => match ixN ds.length n with
        | some j => .next (sl.set i (.own (ds.set j d))) om
        | none => .stuck
      | _ => .stuck
    | _ => .stuck
  | .setIA i x e, sl, om => match sl[i]? with
    | some (.val (.amb k)) => (evE T e sl om).out sl fun d om => (evE T x sl om).out sl fun n om => match n with
      | .int n => match om[k]? with
        | some (.pl ds) => match ixN ds.length n with
          | some j => .next sl (om.set k (.pl (ds.set j d)))
          | none => .stuck
        | _ => .stuck
      | _ => .stuck
    | _ => .stuck
  | .setF c j e, sl, om => (evE T e sl om).out sl fun d om => match sl[(0 : Nat)]? with
    | some (.newo c' fs) => if c' = c ∧ fs.length = j then .next (sl.set 0 (.newo c (fs ++ [d]))) om else .stuck
    | _ => .stuck
  | .stF i c j e, sl, om => match sl[i]? with
    | some (.val (.amb k)) => (evE T e sl om).out sl fun d om => match om[k]? with
      | some (.ob c' fs) => if c' = c then if j < fs.length then .next sl (om.set k (.ob c (fs.set j d))) else if j = fs.length then .next sl (om.set k (.ob c (fs ++ [d]))) else .stuck else .stuck
      | _ => .stuck
    | _ => .stuck
  | .auF i c j e, sl, om => match sl[i]? with
    | some (.val (.amb k)) => match om[k]? with
      | some (.ob c' fs) => if c' = c then match fs[j]? with
          | some (.int m) => (evE T e sl om).out sl fun y om => match y with
            | .int n => match om[k]? with
              | some (.ob c' fs) => if c' = c ∧ j < fs.length then .next sl (om.set k (.ob c (fs.set j (.int (m + n))))) else .stuck
              | _ => .stuck
            | _ => .stuck
          | _ => .stuck
        else .stuck
      | _ => .stuck
    | _ => .stuck
  | .aug i o e, sl, om => match sl[i]? with
    | some (.val (.int m)) => (evE T e sl om).out sl fun y om => match o, y with
      | .add, .int n => .next (sl.set i (.val (.int (m + n)))) om
      | .sub, .int n => .next (sl.set i (.val (.int (m - n)))) om
      | _, _ => .stuck
    | _ => .stuck
  | .drop e, sl, om => (evE T e sl om).out sl fun _ om => .next sl om
  | .ite c a b, sl, om => (evT T c sl om).out sl fun t om => if t = true then evS T a sl om else evS T b sl om
  | .whl c b, sl, om => whileGo (evT T c) (evS T b) T.wf sl om
  | .fo tg it b, sl, om => (evI T it sl om).out sl fun ds om => forGo (evS T b) tg ds sl om
  | .ret e, sl, om => (evE T e sl om).out sl fun d om => .ret d om
  | .retF e, sl, om => (evE T e sl om).out sl fun d om => match d with
    | .lst ds => .retF ds om
    | _ => .stuck
  | .retO i, sl, om => match sl[i]? with
    | some (.own ds) => .retF ds om
    | _ => .stuck
  | .retN, _, om => .ret .non om
  | .brk, sl, om => .brk sl om
  | .cnt, sl, om => .cnt sl om
  | .never, _, _ => .stuck
  | .appE o e, sl, om => (evE T o sl om).out sl fun r om => match r with
    | .amb k => match om[k]? with
      | some (.pl _) => (evE T e sl om).out sl fun d om => match om[k]? with
        | some (.pl ds) => if ds.length < 1000000 then .next sl (om.set k (.pl (ds ++ [d]))) else .stuck
        | _ => .stuck
      | _ => .stuck
    | _ => .stuck
  | .dput o k e, sl, om => (evE T e sl om).out sl fun d om => (evE T o sl om).out sl fun r om => match r with
    | .amb j => match om[j]? with
      | some (.dc ks ds) => match dpD ks ds k d with | some es => .next sl (om.set j (.dc ks es)) | none => .stuck
      | _ => .stuck
    | _ => .stuck
  | .rais c as, sl, om => (evL T as sl om).out sl fun fs om => .exc c fs sl om
  | .tr b cs i hd, sl, om => match evS T b sl om with
    | .exc c fs sl om => match cs c with
      | some true => aft i (evS T (hd c fs) ((unx sl).set i .exn) om)
      | some false => .exc c fs sl om
      | none => .stuck
    | o => o
/-! ### the program -/
structure Def where
  np : Nat
  nl : Nat
  body : S
  cls : Option Nat := none
structure Prog where
  defs : Nat → Option Def
  fresh : Nat → Bool
  opm : Nat → Bop → Option Nat
  eqm : Nat → Option Nat
  strm : Nat → Option Nat
  nf : Nat → Nat
def slots (d : Def) (ds : List D) : Sl := ds.map .val ++ List.replicate (d.nl - d.np) .no
mutual
def callN (p : Prog) (wf : Nat) : Nat → Nat → List D → Om → Rs D
  | 0, _, _, _ => .stuck
  | n + 1, f, ds, om => match p.defs f with
    | none => .stuck
    | some d => if ds.length = d.np then match evS ⟨wf, callN p wf n, initN p wf n, p.fresh, p.opm, p.eqm, p.strm, p.nf, n⟩ d.body (slots d ds) om with
        | .ret x om' => if p.fresh f = true then .stuck else .ok x om'
        | .retF xs om' => .ok (.lst xs) om'
        | .next _ om' => if p.fresh f = true then .stuck else .ok .non om'
        | .exc c fs _ om' => .exc c fs om'
        | _ => .stuck
      else .stuck
def initN (p : Prog) (wf : Nat) : Nat → Nat → List D → Om → Rs (List D)
  | 0, _, _, _ => .stuck
  | n + 1, f, ds, om => match p.defs f with
    | none => .stuck
    | some d => match d.cls with
      | none => .stuck
      | some c => if ds.length + 1 = d.np then match evS ⟨wf, callN p wf n, initN p wf n, p.fresh, p.opm, p.eqm, p.strm, p.nf, n⟩ d.body (.newo c [] :: (ds.map .val ++ List.replicate (d.nl - d.np) .no)) om with
          | .next sl om' => match sl[(0 : Nat)]? with
            | some (.newo c' fs) => if c' = c then .ok fs om' else .stuck
            | _ => .stuck
          | .exc c fs _ om' => .exc c fs om'
          | _ => .stuck
        else .stuck
end
def tab (p : Prog) (wf n : Nat) : Tb := ⟨wf, callN p wf n, initN p wf n, p.fresh, p.opm, p.eqm, p.strm, p.nf, n⟩
end PD

set_option Elab.async false
set_option linter.all false
set_option maxRecDepth 100000
set_option maxHeartbeats 2000000
/-! PDC: expressions are computed by the machine as evE says. -/
namespace PD
open PySem PySem.Spec PyProof.Rows L2
theorem sz_le {n : Nat} (h : n ≤ 1000000) : n ≤ sizeLine := Nat.le_trans h (by decide)
theorem sz_lt {n : Nat} (h : n < 1000000) : n < sizeLine := Nat.lt_of_lt_of_le h (by decide)
section
variable {X : Cx} {e : Expr}
theorem _root_.L2.PE.imp {t t' : TE} (h : PE X e t) (k : ∀ σ H Q, t' σ H Q → t σ H Q) : PE X e t' := ⟨fun pins s σ H Q I q => h.run pins s σ H Q I (k σ H Q q)⟩
theorem _root_.L2.PT.imp {t t' : TT} (h : PT X e t) (k : ∀ σ H Q, t' σ H Q → t σ H Q) : PT X e t' := ⟨fun pins s σ H Q I q => h.run pins s σ H Q I (k σ H Q q)⟩
theorem _root_.L2.PW.imp {t t' : TT} (h : PW X e t) (k : ∀ σ H Q, t' σ H Q → t σ H Q) : PW X e t' := ⟨fun whole pins s σ H Q I q => h.run whole pins s σ H Q I (k σ H Q q)⟩
theorem _root_.L2.PA.imp {es : List Expr} {t t' : TA} (h : PA X es t) (k : ∀ σ H Q, t' σ H Q → t σ H Q) : PA X es t' := ⟨fun pos pins s σ H Q I q => h.run pos pins s σ H Q I (k σ H Q q)⟩
theorem _root_.L2.PO.imp {o : Option Expr} {t t' : TO} (h : PO X o t) (k : ∀ σ H Q, t' σ H Q → t σ H Q) : PO X o t' := ⟨fun pins s σ H Q I q => h.run pins s σ H Q I (k σ H Q q)⟩
theorem _root_.L2.PI.imp {tg : Expr} {t t' : TI} (h : PI X tg e t) (k : ∀ σ H Q, t' σ H Q → t σ H Q) : PI X tg e t' := ⟨fun pins s σ H Q I q => h.run pins s σ H Q I (k σ H Q q)⟩
theorem _root_.L2.PI.alt {tg : Expr} {t t' : TI} (h : PI X tg e t) (h' : PI X tg e t') : PI X tg e (fun σ H Q => t σ H Q ∨ t' σ H Q) := ⟨fun pins s σ H Q I q => q.elim (h.run pins s σ H Q I) (h'.run pins s σ H Q I)⟩
theorem _root_.L2.PG.imp {t t' : TG} (h : PG X e t) (k : ∀ v σ H Q, t' v σ H Q → t v σ H Q) : PG X e t' := ⟨fun pins s σ H v u Q I r q => h.run pins s σ H v u Q I r (k v σ H Q q)⟩
theorem _root_.L2.PS.imp {st : Stmt} {t t' : TS} (h : PS X st t) (k : ∀ D σ H, t' D σ H → t D σ H) : PS X st t' := ⟨fun pins s σ H D I q => h.run pins s σ H D I (k D σ H q)⟩
theorem _root_.L2.PSs.imp {st : List Stmt} {t t' : TS} (h : PSs X st t) (k : ∀ D σ H, t' D σ H → t D σ H) : PSs X st t' := ⟨fun pins s σ H D I q => h.run pins s σ H D I (k D σ H q)⟩
end
/-! ### what is wanted behind a step -/
def ExcR (K : PySem.W.Frag) (L : Lk) (G : Hp) (am : List Addr) (c : Nat) (fs : List D) (cv : Value) (dd : Option Addr) : Prop :=
  cv = .ref (L.ca c) ∧ match fs with
    | [] => dd = none
    | d :: _ => ∃ x v nm, dd = some x ∧ (L.fn c).head? = some nm ∧ G x = some (.xd [(nm, v)]) ∧ Rep K L G am d v
def Post {α β : Type} (K : PySem.W.Frag) (L : Lk) (R : Hp → List Addr → α → β → Prop) (F G : Hp) (am : List Addr) (r : Rs α) (E : XK) (Q : β → Hp → Prop) : Prop := match r with
  | .stuck => False
  | .ok a om' => ∀ b H' G' am', Grow G am G' am' → Mem K L F G' am' om' H' → R G' am' a b → Q b H'
  | .exc c fs om' => ∀ cv dd H' G' am', Grow G am G' am' → Mem K L F G' am' om' H' → ExcR K L G' am' c fs cv dd → E cv dd H'
def PostF (K : PySem.W.Frag) (L : Lk) (F G : Hp) (am : List Addr) (r : Rs D) (E : XK) (Q : VK) : Prop := match r with
  | .stuck => False
  | .ok d om' => ∃ ds, d = .lst ds ∧ ∀ p vs H' G' am', Grow G am G' am' → F p = none → Mem K L (upd F p (.lst vs)) G' am' om' H' → RepL K L G' am' ds vs → Q (.ref p) H'
  | .exc c fs om' => ∀ cv dd H' G' am', Grow G am G' am' → Mem K L F G' am' om' H' → ExcR K L G' am' c fs cv dd → E cv dd H'
/-- a value that is read for a moment: also a list that a slot holds alone -/
def RepB (K : PySem.W.Frag) (L : Lk) (F G : Hp) (am : List Addr) (d : D) (v : V) : Prop := Rep K L G am d v ∨ ∃ a vs ds, d = .lst ds ∧ v = .ref a ∧ F a = some (.lst vs) ∧ RepL K L G am ds vs
def eqR {α : Type} : Hp → List Addr → α → α → Prop := fun _ _ a b => b = a
section
variable {K : PySem.W.Frag} {L : Lk} {F G G' H : Hp} {am am' : List Addr} {om : Om} {α β γ δ : Type} {R : Hp → List Addr → α → β → Prop} {R' : Hp → List Addr → γ → δ → Prop} {E : XK} {Q : β → Hp → Prop} {r : Rs α} {v : V} {d : D} {ds : List D}
theorem Post.grow (g : Grow G am G' am') (h : Post K L R F G am r E Q) : Post K L R F G' am' r E Q := by
  cases r with
  | stuck => exact h
  | ok a om' => exact fun b H' G'' am'' g' => h b H' G'' am'' (g.trans g')
  | exc c fs om' => exact fun cv dd H' G'' am'' g' => h cv dd H' G'' am'' (g.trans g')
theorem PostF.grow {r : Rs D} {Q : VK} (g : Grow G am G' am') (h : PostF K L F G am r E Q) : PostF K L F G' am' r E Q := by
  cases r with
  | stuck => exact h
  | ok a om' =>
    obtain ⟨ds, e, h⟩ := h
    exact ⟨ds, e, fun p vs H' G'' am'' g' => h p vs H' G'' am'' (g.trans g')⟩
  | exc c fs om' => exact fun cv dd H' G'' am'' g' => h cv dd H' G'' am'' (g.trans g')
/-- the first of two steps -/
theorem Post.bind {f : α → Om → Rs γ} {Q' : δ → Hp → Prop} (h : Post K L R' F G am (r.bind f) E Q')
    (k : ∀ a om1 b H1 G1 am1, Grow G am G1 am1 → Mem K L F G1 am1 om1 H1 → R G1 am1 a b → Post K L R' F G1 am1 (f a om1) E Q' → Q b H1) : Post K L R F G am r E Q := by
  cases r with
  | stuck => exact h
  | ok a om1 => exact fun b H1 G1 am1 g M rr => k a om1 b H1 G1 am1 g M rr (Post.grow g h)
  | exc c fs om1 => exact h
theorem PostF.bind {f : α → Om → Rs D} {Q' : VK} (h : PostF K L F G am (r.bind f) E Q')
    (k : ∀ a om1 b H1 G1 am1, Grow G am G1 am1 → Mem K L F G1 am1 om1 H1 → R G1 am1 a b → PostF K L F G1 am1 (f a om1) E Q' → Q b H1) : Post K L R F G am r E Q := by
  cases r with
  | stuck => exact h
  | ok a om1 => exact fun b H1 G1 am1 g M rr => k a om1 b H1 G1 am1 g M rr (PostF.grow g h)
  | exc c fs om1 => exact h
theorem Post.mono (h : Post K L R F G am r E Q) {Q' : β → Hp → Prop} (k : ∀ b H, Q b H → Q' b H) : Post K L R F G am r E Q' := by
  cases r with
  | stuck => exact h
  | ok a om1 => exact fun b H1 G1 am1 g M rr => k _ _ (h b H1 G1 am1 g M rr)
  | exc c fs om1 => exact h
theorem RepB.up (g : Grow G am G' am') (h : RepB K L F G am d v) : RepB K L F G' am' d v := by
  rcases h with h | ⟨a, vs, ds, e, e2, f, r⟩
  · exact .inl (h.up g)
  · exact .inr ⟨a, vs, ds, e, e2, f, r.up g⟩
theorem RepB.int {i : Int} (h : RepB K L F G am (.int i) v) : v = .int i := by
  rcases h with h | ⟨_, _, _, e, _⟩
  · cases h
    rfl
  · cases e
theorem RepB.str {s : Str} (h : RepB K L F G am (.str s) v) : v = .str s := by
  rcases h with h | ⟨_, _, _, e, _⟩
  · cases h
    rfl
  · cases e
theorem RepB.bl {b : Bool} (h : RepB K L F G am (.bl b) v) : v = .bl b := by
  rcases h with h | ⟨_, _, _, e, _⟩
  · cases h
    rfl
  · cases e
theorem RepB.non (h : RepB K L F G am .non v) : v = .non := by
  rcases h with h | ⟨_, _, _, e, _⟩
  · cases h
    rfl
  · cases e
theorem RepB.lst (h : RepB K L F G am (.lst ds) v) (M : Mem K L F G am om H) : ∃ a vs, v = .ref a ∧ H a = some (.lst vs) ∧ RepL K L G am ds vs := by
  rcases h with h | ⟨a, vs, _, e, rfl, f, r⟩
  · cases h with
    | lst h r => exact ⟨_, _, rfl, M.gH _ _ h, r⟩
  · cases e
    exact ⟨a, vs, rfl, M.fH _ _ f, r⟩
theorem RepB.tup (h : RepB K L F G am (.tup ds) v) : ∃ a vs, v = .ref a ∧ G a = some (.tup vs) ∧ RepL K L G am ds vs := by
  rcases h with h | ⟨_, _, _, e, _⟩
  · cases h with
    | tup h r => exact ⟨_, _, rfl, h, r⟩
  · cases e
theorem RepB.scr (h : RepB K L F G am (.scr ds) v) : ∃ a vs, v = .ref a ∧ SqL K G a vs ∧ RepL K L G am ds vs := by
  rcases h with h | ⟨_, _, _, e, _⟩
  · cases h with
    | scr h r => exact ⟨_, _, rfl, h, r⟩
  · cases e
theorem RepB.obj {c : Nat} (h : RepB K L F G am (.obj c ds) v) : ∃ a dx vs, v = .ref a ∧ G a = some (.ins (L.ca c) dx ((L.fn c).zip vs)) ∧ vs.length = (L.fn c).length ∧ RepL K L G am ds vs := by
  rcases h with h | ⟨_, _, _, e, _⟩
  · cases h with
    | obj h n r => exact ⟨_, _, _, rfl, h, n, r⟩
  · cases e
theorem RepB.objE {c : Nat} (h : RepB K L F G am (.obj c ds) v) : Rep K L G am (.obj c ds) v := by
  rcases h with h | ⟨_, _, _, e, _⟩
  · exact h
  · cases e
theorem RepB.amb {k : Nat} (h : RepB K L F G am (.amb k) v) : ∃ a, v = .ref a ∧ am[k]? = some a := by
  rcases h with h | ⟨_, _, _, e, _⟩
  · cases h with
    | amb h => exact ⟨_, rfl, h⟩
  · cases e
theorem Rep.b (h : Rep K L G am d v) : RepB K L F G am d v := .inl h
end
/-! ### readings -/
section
variable (K : PySem.W.Frag) (L : Lk) (T : Tb) (W : WX)
def rdE (e : E) : TE := fun σ H Q => ∃ F G am om sl, Mem K L F G am om H ∧ SlR K L F G am sl σ ∧ Post K L (Rep K L) F G am (evE T e sl om) (fun cv dd H => W cv dd σ H) Q
def rdB (e : E) : TE := fun σ H Q => ∃ F G am om sl, Mem K L F G am om H ∧ SlR K L F G am sl σ ∧ Post K L (RepB K L F) F G am (evE T e sl om) (fun cv dd H => W cv dd σ H) Q
def rdF (e : E) : TE := fun σ H Q => ∃ F G am om sl, Mem K L F G am om H ∧ SlR K L F G am sl σ ∧ PostF K L F G am (evE T e sl om) (fun cv dd H => W cv dd σ H) Q
def rdT (e : E) : TT := fun σ H Q => ∃ F G am om sl, Mem K L F G am om H ∧ SlR K L F G am sl σ ∧ Post K L eqR F G am (evT T e sl om) (fun cv dd H => W cv dd σ H) Q
def rdL (e : E) : TA := fun σ H Q => ∃ F G am om sl, Mem K L F G am om H ∧ SlR K L F G am sl σ ∧ Post K L (RepL K L) F G am (evL T e sl om) (fun cv dd H => W cv dd σ H) Q
def rdO (e : E) : TO := fun σ H Q => ∃ F G am om sl, Mem K L F G am om H ∧ SlR K L F G am sl σ ∧ Post K L eqR F G am (evO T e sl om) (fun cv dd H => W cv dd σ H) Q
end
section
variable {X : Cx} {L : Lk} {T : Tb} {W : WX} {a b c : Expr} {ea eb ec : E} {pos : Pos}
theorem pB (h : PE X a (rdE X.K L T W ea)) : PE X a (rdB X.K L T W ea) := h.imp fun σ H Q ⟨F, G, am, om, sl, M, S, p⟩ => ⟨F, G, am, om, sl, M, S, by
  cases q : evE T ea sl om with
  | stuck => rw [q] at p; exact p
  | ok d om' => rw [q] at p; exact fun b H' G' am' g M' r => p b H' G' am' g M' (.inl r)
  | exc c fs om' => rw [q] at p; exact p⟩
/-- a new list that nobody else holds is as good as one that stands for good -/
theorem rdE_F {σ : L2.St} {H : Hp} {Q : VK} (hl : ∀ sl om d om', evE T ea sl om = .ok d om' → ∃ ds, d = .lst ds) (h : rdE X.K L T W ea σ H Q) : rdF X.K L T W ea σ H Q := by
  obtain ⟨F, G, am, om, sl, M, S, p⟩ := h
  refine ⟨F, G, am, om, sl, M, S, ?_⟩
  cases q : evE T ea sl om with
  | stuck => rw [q] at p; exact p
  | ok d om' =>
    rw [q] at p
    obtain ⟨ds, rfl⟩ := hl sl om d om' q
    refine ⟨ds, rfl, fun pp vs H' G' am' g hf M' r => ?_⟩
    have hg : G' pp = none := M'.fg _ _ upd_same
    refine p (.ref pp) H' (upd G' pp (.lst vs)) am' (g.trans (Grow.of hg)) (M'.freeze upd_same fun a u e => ?_) (.lst upd_same (r.up (Grow.of hg)))
    have hne : a ≠ pp := fun z => by rw [z, hf] at e; cases e
    exact ⟨by rw [upd_ne hne]; exact e, hne⟩
  | exc c fs om' => rw [q] at p; exact p
theorem pFE (h : PE X a (rdF X.K L T W ea)) (hl : ∀ sl om d om', evE T ea sl om = .ok d om' → ∃ ds, d = .lst ds) : PE X a (rdE X.K L T W ea) := h.imp fun σ H Q => rdE_F hl
/-! ### names and constants -/
theorem pE_var {i : Nat} {x : Str} (hN : X.N[i]? = some x) (hv : Vis X.env.scope x) (hd : (x == ("__debug__" : Str)) = false := by decide) (hcd : (x == ("__classdict__" : Str)) = false := by decide) : PE X (.Name x pos) (rdE X.K L T W (.v i)) :=
  (pe_var hN hv hd hcd).imp fun σ H Q ⟨F, G, am, om, sl, M, S, p⟩ => by
    cases q : sl[i]? with
    | none =>
      have e : evE T (.v i) sl om = .stuck := by simp only [evE, q]
      rw [e] at p
      exact p.elim
    | some c =>
      cases c with
      | val d =>
        have e : evE T (.v i) sl om = .ok d om := by simp only [evE, q]
        rw [e] at p
        obtain ⟨o, ho, v, rfl, r⟩ := S.at q
        exact ⟨v, ho, p v H G am Grow.refl M r⟩
      | no =>
        have e : evE T (.v i) sl om = .stuck := by simp only [evE, q]
        rw [e] at p
        exact p.elim
      | own ds =>
        have e : evE T (.v i) sl om = .stuck := by simp only [evE, q]
        rw [e] at p
        exact p.elim
      | newo c fs =>
        have e : evE T (.v i) sl om = .stuck := by simp only [evE, q]
        rw [e] at p
        exact p.elim
      | exn =>
        have e : evE T (.v i) sl om = .stuck := by simp only [evE, q]
        rw [e] at p
        exact p.elim
theorem pB_var {i : Nat} {x : Str} (hN : X.N[i]? = some x) (hv : Vis X.env.scope x) (hd : (x == ("__debug__" : Str)) = false := by decide) (hcd : (x == ("__classdict__" : Str)) = false := by decide) : PE X (.Name x pos) (rdB X.K L T W (.b i)) :=
  (pe_var hN hv hd hcd).imp fun σ H Q ⟨F, G, am, om, sl, M, S, p⟩ => by
    cases q : sl[i]? with
    | none =>
      have e : evE T (.b i) sl om = .stuck := by simp only [evE, q]
      rw [e] at p
      exact p.elim
    | some c =>
      cases c with
      | val d =>
        have e : evE T (.b i) sl om = .ok d om := by simp only [evE, q]
        rw [e] at p
        obtain ⟨o, ho, v, rfl, r⟩ := S.at q
        exact ⟨v, ho, p v H G am Grow.refl M (.inl r)⟩
      | no =>
        have e : evE T (.b i) sl om = .stuck := by simp only [evE, q]
        rw [e] at p
        exact p.elim
      | own ds =>
        have e : evE T (.b i) sl om = .ok (.lst ds) om := by simp only [evE, q]
        rw [e] at p
        obtain ⟨o, ho, a, vs, rfl, f, r⟩ := S.at q
        exact ⟨.ref a, ho, p _ H G am Grow.refl M (.inr ⟨a, vs, ds, rfl, rfl, f, r⟩)⟩
      | newo c fs =>
        have e : evE T (.b i) sl om = .stuck := by simp only [evE, q]
        rw [e] at p
        exact p.elim
      | exn =>
        have e : evE T (.b i) sl om = .stuck := by simp only [evE, q]
        rw [e] at p
        exact p.elim
theorem pE_k {d : D} {v : V} (h : PE X a (tC v)) (r : ∀ K L G am, Rep K L G am d v) : PE X a (rdE X.K L T W (.k d)) :=
  h.imp fun σ H Q ⟨F, G, am, om, sl, M, S, p⟩ => p v H G am Grow.refl M (r _ _ _ _)
theorem pE_int {i : Int} {j : Nat} : PE X (.Constant (.int i) j pos) (rdE X.K L T W (.k (.int i))) := pE_k pe_int fun _ _ _ _ => .int i
theorem pE_str {s : Str} {j : Nat} : PE X (.Constant (.str s) j pos) (rdE X.K L T W (.k (.str s))) := pE_k pe_str fun _ _ _ _ => .str s
theorem pE_bl {i : Bool} {j : Nat} : PE X (.Constant (.bool i) j pos) (rdE X.K L T W (.k (.bl i))) := pE_k pe_bl fun _ _ _ _ => .bl i
theorem pE_non {j : Nat} : PE X (.Constant .none j pos) (rdE X.K L T W (.k .non)) := pE_k pe_non fun _ _ _ _ => .non
theorem pE_gi {x : Str} {i : Int} {t : Tok} (hg : Gl X x) (hm : X.mg x = some (.int i t)) (hd : (x == ("__debug__" : Str)) = false := by decide) : PE X (.Name x pos) (rdE X.K L T W (.k (.int i))) := pE_k (v := .int i) (pe_glob hg hm ⟨t, rfl⟩ hd) fun _ _ _ _ => .int i
/-! ### two operands -/
theorem bin2 {o : Rs D → (D → Om → Rs D)} : True := trivial
/-- reading a and then b -/
theorem rd2 {σ : L2.St} {H : Hp} {Q : VK} {K : PySem.W.Frag} {f : D → D → Om → Rs D} {F G : Hp} {am : List Addr} {om : Om} {sl : Sl} (M : Mem K L F G am om H) (S : SlR K L F G am sl σ)
    (p : Post K L (Rep K L) F G am ((evE T ea sl om).bind fun x om => (evE T eb sl om).bind fun y om => f x y om) (fun cv dd H => W cv dd σ H) Q)
    {r : R2} (k : ∀ x y H' G' am' om' dx dy, Mem K L F G' am' om' H' → RepB K L F G' am' dx x → RepB K L F G' am' dy y → Post K L (Rep K L) F G' am' (f dx dy om') (fun cv dd H => W cv dd σ H) Q → r x y H' Q) :
    rdB K L T W ea σ H fun x H1 => rdB K L T W eb σ H1 fun y H2 => r x y H2 Q :=
  ⟨F, G, am, om, sl, M, S, p.bind fun dx om1 x H1 G1 am1 g1 M1 rx p1 => ⟨F, G1, am1, om1, sl, M1, S.grow g1, p1.bind fun dy om2 y H2 G2 am2 g2 M2 ry p2 => k x y H2 G2 am2 om2 dx dy M2 (rx.up g2) ry p2⟩⟩
end
end PD

set_option Elab.async false
set_option linter.all false
set_option maxRecDepth 100000
set_option maxHeartbeats 2000000
/-! PDD: calls of the program's own defs; operators. -/
namespace PD
open PySem PySem.Spec PyProof.Rows L2
/-! ### tuple * 0, tuple * 1 -/
theorem tuple_mul1 (l : Addr) (items : Array Value) (n : Nat) (dd : Option Addr) (sl : Array (Option Value)) (u : Tok) :
    Meets (Builtin.«tuple.__mul__» ⟨[.ref l, .int 1 u], []⟩) (fun _ R s => s.heap.get? l = some { cls := .type "tuple", dict := dd, data := .seq items n, slots := sl } ∧ R (.ok (.ret (Value.ref l))) s) :=
  .of_wp fun prog w A R s h => by
    obtain ⟨hp, g, d, tk, os⟩ := s
    obtain ⟨hl, h⟩ := h
    have f1 := AutoSeq1.idx_int
    wp_walk using wpAny_loadPart' hl
    repeat (first
      | (refine wpAny_ite_false (decide_eq_false (by decide)) ?_; wp_walk using wpAny_loadPart' hl)
      | (refine wpAny_ite_true (decide_eq_true (by simp)) ?_; wp_walk using wpAny_loadPart' hl))
    exact ⟨_, rfl, h⟩
theorem tuple_mul0 (l : Addr) (items : Array Value) (n : Nat) (dd : Option Addr) (sl : Array (Option Value)) (u : Tok) (hi : items.isEmpty = false) :
    Meets (Builtin.«tuple.__mul__» ⟨[.ref l, .int 0 u], []⟩) (fun _ R s => s.heap.get? l = some { cls := .type "tuple", dict := dd, data := .seq items n, slots := sl } ∧
      R (.ok (.ret (Value.ref s.heap.objs.size))) { s with heap := s.heap.push { cls := Value.type "tuple", data := Data.seq #[] }, toks := s.toks }) :=
  .of_wp fun prog w A R s h => by
    obtain ⟨hp, g, d, tk, os⟩ := s
    obtain ⟨hl, h⟩ := h
    have f1 := AutoSeq1.idx_int
    have c1 : (items.isEmpty || (0 : Int) == 1) = false := by rw [hi]; rfl
    wp_walk using wpAny_loadPart' hl
    repeat (first
      | (refine wpAny_ite_false (decide_eq_false (by rw [c1]; exact Bool.false_ne_true)) ?_; wp_walk using wpAny_loadPart' hl)
      | (refine wpAny_ite_false (decide_eq_false (by decide)) ?_; wp_walk using wpAny_loadPart' hl)
      | (refine wpAny_ite_true (decide_eq_true (by simp)) ?_; wp_walk using wpAny_loadPart' hl))
    exact ⟨_, rfl, h⟩
theorem fold_size (a : Array Nat) : ∀ (n : Nat) (acc : Array Nat), ((List.replicate n a).foldl (· ++ ·) acc).size = acc.size + n * a.size
  | 0, acc => by simp
  | n + 1, acc => by
    rw [List.replicate_succ, List.foldl_cons, fold_size a n, Array.size_append, Nat.succ_mul]
    omega
theorem repS_len (s : Str) (n : Nat) : (repS s n).length = n * s.length := by
  show ((List.replicate n s.cps).foldl (· ++ ·) #[]).size = n * s.cps.size
  rw [fold_size]
  simp
def rStrMul : R2 := fun x y H Q => ∃ s k, x = .str s ∧ y = .int k ∧ 0 ≤ k ∧ k ≤ 1000000 ∧ s.length * k.toNat ≤ 1000000 ∧ Q (.str (repS s k.toNat)) H
def rRepT1 (K : PySem.W.Frag) : R2 := fun x y H Q => ∃ l k xs, x = .ref l ∧ y = .int k ∧ SqT K H l xs ∧ k = 1 ∧ Q (.ref l) H
def rRepT0 (K : PySem.W.Frag) : R2 := fun x y H Q => ∃ l k xs, x = .ref l ∧ y = .int k ∧ SqT K H l xs ∧ xs ≠ [] ∧ k = 0 ∧ ∀ p, H p = none → Q (.ref p) (upd H p (.tup []))
section
variable {X : Cx}
theorem op_strmul : OpR X (binaryOp .Mult) rStrMul := by
  rintro pins s σ H x y v u Q I rx ry ⟨a, k, rfl, rfl, h0, h1, h2, q⟩
  obtain ⟨t, rfl⟩ := rx
  obtain ⟨t2, rfl⟩ := ry
  have b1 : decide (k < -(2 ^ 63 : Int)) = false := decide_eq_false (by omega)
  have b2 : decide (k ≥ 2 ^ 63) = false := decide_eq_false (by omega)
  refine PySem.P.mul_str (by rw [b1, b2]; rfl) (fun g1 g2 => ?_) (fun g1 g2 => ?_) ?_
  · have hk : (0 : Int) < k := by omega
    have e1 : (a.length : Int) * k ≤ 1000000 := by
      have z : ((a.length * k.toNat : Nat) : Int) = (a.length : Int) * k := by
        rw [Int.natCast_mul, Int.toNat_of_nonneg h0]
      omega
    have e2 : (a.length : Int) ≤ (2 ^ 63 - 1) / k := (Int.le_ediv_iff_mul_le hk).mpr (by omega)
    omega
  · unfold Builtin.Str.tooLong
    exact decide_eq_false (by have := sz_le h2; omega)
  · have e0 : ∀ n, a.length = 0 → (List.replicate n a.cps).foldl (· ++ ·) #[] = #[] := fun n h => by
      have ha : a.cps = #[] := Array.eq_empty_of_size_eq_zero h
      rw [ha]
      induction n with
      | zero => rfl
      | succ n ih => rw [List.replicate_succ, List.foldl_cons]; simpa using ih
    split
    · rename_i hk
      have e : k = 0 := by omega
      subst e
      refine ⟨by decide, ⟨.str (repS a 0), H, I.tok _, ⟨_, rfl⟩, q⟩⟩
    · split
      · rename_i hk hc
        have e : repS a k.toNat = a := by
          rw [Bool.or_eq_true] at hc
          unfold repS
          rcases hc with hc | hc
          · have e : k = 1 := by simpa using hc
            subst e
            show (⟨(List.replicate 1 a.cps).foldl (· ++ ·) #[]⟩ : Str) = a
            simp
          · have ha : a.length = 0 := by simpa using hc
            rw [e0 _ ha]
            have ha : a.cps = #[] := Array.eq_empty_of_size_eq_zero ha
            cases a
            cases ha
            rfl
        rw [e] at q
        exact ⟨.str a, H, I, ⟨t, rfl⟩, q⟩
      · rename_i hk hc
        refine ⟨?_, ⟨.str (repS a k.toNat), H, I.tok _, ⟨_, rfl⟩, q⟩⟩
        show (repS a k.toNat).length ≤ sizeLine
        rw [repS_len]
        exact sz_le (by rw [Nat.mul_comm]; exact h2)
theorem op_repT1 : OpR X (binaryOp .Mult) (rRepT1 X.K) := by
  intro pins s σ H x y v u Q I rx ry h
  obtain ⟨l, k, xs, rfl, rfl, hT, rfl, q⟩ := h
  cases rx
  obtain ⟨t, rfl⟩ := ry
  obtain ⟨its, r, ⟨⟨cls, dd, data, sl⟩, ho, hc, n, hd⟩, hs⟩ := I.tuple hT
  simp only at hc hd
  subst hc hd
  refine wpAny_binaryOp_repeat_ref (T := "tuple") (U := "int") (by decide) ⟨_, ho, rfl⟩ (fun s' => typeIs_int s' 1 t) noFill_tuple_mul F.fills_int_mul F.slot_int_rmul repeat_tuple F.slot_int_index.lookup
    (call_meets F.slot_int_rmul (typeIs_int s 1 t) F.entry_int_rmul (F.args_int_rmul_2 _ _) (int_rmul_tuple 1 t l its.toArray n dd sl)
      ⟨ho, rfl, ⟨_, ho, rfl⟩, call_meets F.slot_tuple_mul ⟨_, ho, rfl⟩ F.entry_tuple_mul (F.args_tuple_mul_2 _ _) (tuple_mul1 l its.toArray n dd sl t) ⟨ho, ?_⟩⟩)
  exact ⟨.ref l, H, I, rfl, q⟩
theorem op_repT0 : OpR X (binaryOp .Mult) (rRepT0 X.K) := by
  intro pins s σ H x y v u Q I rx ry h
  obtain ⟨l, k, xs, rfl, rfl, hT, hne, rfl, q⟩ := h
  cases rx
  obtain ⟨t, rfl⟩ := ry
  obtain ⟨its, r, ⟨⟨cls, dd, data, sl⟩, ho, hc, n, hd⟩, hs⟩ := I.tuple hT
  simp only at hc hd
  subst hc hd
  have hle : its.length = xs.length := r.length.symm
  have hn : its ≠ [] := fun e => hne (by
    rw [e] at hle
    exact List.eq_nil_of_length_eq_zero hle.symm)
  have hi : its.toArray.isEmpty = false := by
    cases its with
    | nil => exact absurd rfl hn
    | cons a b => rfl
  refine wpAny_binaryOp_repeat_ref (T := "tuple") (U := "int") (by decide) ⟨_, ho, rfl⟩ (fun s' => typeIs_int s' 0 t) noFill_tuple_mul F.fills_int_mul F.slot_int_rmul repeat_tuple F.slot_int_index.lookup
    (call_meets F.slot_int_rmul (typeIs_int s 0 t) F.entry_int_rmul (F.args_int_rmul_2 _ _) (int_rmul_tuple 0 t l its.toArray n dd sl)
      ⟨ho, rfl, ⟨_, ho, rfl⟩, call_meets F.slot_tuple_mul ⟨_, ho, rfl⟩ F.entry_tuple_mul (F.args_tuple_mul_2 _ _) (tuple_mul0 l its.toArray n dd sl t hi) ⟨ho, ?_⟩⟩)
  refine ⟨.ref s.heap.objs.size, _, I.laid (t' := s.toks) (o := .tup []) (fun b ob q => Heap.get?_push_of_some _ q) (Nat.le_refl _) ?_, rfl, q _ (I.hok.fresh (Nat.le_refl _))⟩
  exact ⟨Nat.zero_le _, [], .nil, IsTup.new _ _⟩
end
/-! ### the promise of a def: what callN says -/
def spD (K : PySem.W.Frag) (L : Lk) (p : Prog) (n f : Nat) : Sp := fun vs H Q E => ∃ wf F G am om ds, Mem K L F G am om H ∧ RepL K L G am ds vs ∧ (∃ d, p.defs f = some d ∧ ds.length = d.np) ∧
  if p.fresh f = true then PostF K L F G am (callN p wf n f ds om) E Q else Post K L (Rep K L) F G am (callN p wf n f ds om) E Q
/-- of the maker of a frozen instance: self is held alone and has no fields yet -/
def spI (K : PySem.W.Frag) (L : Lk) (p : Prog) (n f : Nat) : Sp := fun vs H Q E => ∃ wf F G am om ds c x dx us, vs = .ref x :: us ∧ Mem K L F G am om H ∧ F x = some (.ins (L.ca c) dx []) ∧ RepL K L G am ds us ∧ (∃ d, p.defs f = some d ∧ d.cls = some c ∧ ds.length + 1 = d.np) ∧
  match initN p wf n f ds om with
  | .stuck => False
  | .ok fs om' => ∀ ws H' G' am', Grow G am G' am' → Mem K L (upd F x (.ins (L.ca c) dx ((L.fn c).zip ws))) G' am' om' H' → RepL K L G' am' fs ws → Q .non H'
  | .exc c' fs om' => ∀ cv dd H' G' am', Grow G am G' am' → Mem K L (fun a => if a = x then none else F a) G' am' om' H' → ExcR K L G' am' c' fs cv dd → E cv dd H'
structure FI where
  addr : Addr
  fd : FuncData
  ps : List Str
def Bop.py : Bop → Operator
  | .add => .Add
  | .sub => .Sub
  | .mul => .Mult
  | .fdiv => .FloorDiv
  | .mod => .Mod
  | .pow => .Pow
/-- where the program's defs stand; each keeps its promise at n -/
structure Lnk (P : Program) (w : World) (K : PySem.W.Frag) (mg : Str → Option Value) (base : Heap) (L : Lk) (p : Prog) (fi : Nat → FI) (n : Nat) : Prop where
  fn : ∀ f d, p.defs f = some d → d.cls = none → FnOk P w K mg base (L2.CX P w) (2 * n) (fi f).addr (fi f).fd (fi f).ps (spD K L p n f)
  ini : ∀ f d c, p.defs f = some d → d.cls = some c → FnOk P w K mg base (L2.CX P w) (2 * n) (fi f).addr (fi f).fd (fi f).ps (spI K L p n f)
  nf : ∀ c, p.nf c = (L.fn c).length
  opm : ∀ c o f, p.opm c o = some f → (∃ d, p.defs f = some d ∧ d.cls = none ∧ d.np = 2) ∧ p.fresh f = false ∧ PySem.W.selfFirst K (L.ca c) = true ∧
    PySem.W.findIn K (.ref (L.ca c)) (PySem.dunder o.py.info.2) = some (some (.ref (fi f).addr)) ∧ PySem.W.isFn K (.ref (fi f).addr) = true ∧ Binds K (fi f).fd (fi f).ps []
  eqm : ∀ c f, p.eqm c = some f → (∃ d, p.defs f = some d ∧ d.cls = none ∧ d.np = 2) ∧ p.fresh f = false ∧ PySem.W.notFirst K (L.ca c) (.ref (L.ca c)) = true ∧
    PySem.W.findIn K (.ref (L.ca c)) "__eq__" = some (some (.ref (fi f).addr)) ∧ PySem.W.isFn K (.ref (fi f).addr) = true ∧ Binds K (fi f).fd (fi f).ps []
  strm : ∀ c f, p.strm c = some f → (∃ d, p.defs f = some d ∧ d.cls = none ∧ d.np = 1) ∧ p.fresh f = false ∧
    PySem.W.findIn K (.ref (L.ca c)) "__str__" = some (some (.ref (fi f).addr)) ∧ PySem.W.isFn K (.ref (fi f).addr) = true ∧ Binds K (fi f).fd (fi f).ps []
section
variable {X : Cx} {L : Lk} {p : Prog} {fi : Nat → FI} {n wf : Nat}
theorem passE0 {σ : L2.St} : PassesAt (L2.CX X.prog X.w) X σ (fun _ _ _ => False) := fun pins H s e s' I c => by
  obtain ⟨_, _, _, _, _, _, _, _, _, _, _, _, z⟩ := c
  exact z.elim
/-- an operator by an own method -/
theorem own_bin {pins : List (Addr × Obj)} {s : Shared} {σ : L2.St} {H : Hp} {Q : VK} {o : Bop} {c f : Nat} {fs gs : List D} {x y : V} {v u : Value} {F G : Hp} {am : List Addr} {om : Om} {E : XK}
    (hL : Lnk X.prog X.w X.K X.mg X.base L p fi n) (hr : Room (2 * n + 1) X.A) (I : Inv X pins σ H s) (rx : RelV x v) (ry : RelV y u) (M : Mem X.K L F G am om H) (hx : Rep X.K L G am (.obj c fs) x) (hy : Rep X.K L G am (.obj c gs) y)
    (hf : p.opm c o = some f) (hp : Post X.K L (Rep X.K L) F G am (callN p wf n f [.obj c fs, .obj c gs] om).nox E Q) : wpAny (model X.prog X.w) X.A (binaryOp o.py v u) (EP X pins σ Q) X.xe s := by
  obtain ⟨⟨d, hd, hc, hnp⟩, hfr, hsf, hfind, hfn, hb⟩ := hL.opm c o f hf
  have hx0 := hx
  have hy0 := hy
  cases hx with
  | @obj _ a dx vs _ ha na ra =>
  cases hy with
  | @obj _ b dy ws _ hb' nb rb =>
  cases rx
  cases ry
  obtain ⟨mA, J, _⟩ := ins_get I.hok (M.gH _ _ ha)
  obtain ⟨mB, J', _⟩ := ins_get I.hok (M.gH _ _ hb')
  obtain ⟨od, J, _⟩ := J.look
  obtain ⟨od', J', _⟩ := J'.look
  obtain ⟨m, hF⟩ := I.fr
  refine PySem.W.binop_K hF I.ok.mod.kin J J'.type hsf hfind hfn ?_
  have hsp : spD X.K L p n f ([V.ref a, V.ref b] ++ []) H Q (fun _ _ _ => False) := by
    refine ⟨wf, F, G, am, om, _, M, .cons hx0 (.cons hy0 .nil), ⟨d, hd, by rw [hnp]; rfl⟩, ?_⟩
    rw [if_neg (by rw [hfr]; decide)]
    cases q : callN p wf n f [.obj c fs, .obj c gs] om with
    | stuck => rw [q] at hp; exact hp
    | ok a om' => rw [q] at hp; exact hp
    | exc c fs om' => rw [q] at hp; exact hp.elim
  refine wpAny_mono (run_fnSD (ds := []) (us := [.ref a, .ref b]) (vs := [.ref a, .ref b]) (dvs := []) (E := fun _ => fun _ _ _ => False) (hL.fn f d hd hc) (hr.mono (by omega)) hb .nil passE0 I (.cons rfl (.cons rfl .nil)) hsp) (fun v s' hv => ?_) fun _ _ e => e
  obtain ⟨z, H', I', rz, q⟩ := hv
  cases z with
  | non => cases rz; exact ⟨.non, H', I', rfl, q⟩
  | bl b => cases rz; exact ⟨.bl b, H', I', rfl, q⟩
  | int i => obtain ⟨t, rfl⟩ := rz; exact ⟨.int i, H', I', ⟨t, rfl⟩, q⟩
  | str i => obtain ⟨t, rfl⟩ := rz; exact ⟨.str i, H', I', ⟨t, rfl⟩, q⟩
  | byt i => obtain ⟨t, rfl⟩ := rz; exact ⟨.byt i, H', I', ⟨t, rfl⟩, q⟩
  | flt i => obtain ⟨t, rfl⟩ := rz; exact ⟨.flt i, H', I', ⟨t, rfl⟩, q⟩
  | ref a => cases rz; exact ⟨.ref a, H', I', rfl, q⟩
  | ty a => cases rz; exact ⟨.ty a, H', I', rfl, q⟩
def rOp (K : PySem.W.Frag) (L : Lk) (T : Tb) (o : Bop) : R2 := fun x y H Q => ∃ F G am om dx dy E, Mem K L F G am om H ∧ RepB K L F G am dx x ∧ RepB K L F G am dy y ∧ Post K L (Rep K L) F G am (bop T o dx dy om) E Q
theorem op_bop (hL : Lnk X.prog X.w X.K X.mg X.base L p fi n) (hr : Room (2 * n + 1) X.A) (o : Bop) : OpR X (binaryOp o.py) (rOp X.K L (tab p wf n) o) := by
  rintro pins s σ H x y v u Q I rx ry ⟨F, G, am, om, dx, dy, E, M, hx, hy, hp⟩
  unfold bop at hp
  split at hp
  · cases hx.int; cases hy.int
    exact op_add pins s σ H _ _ v u Q I rx ry ⟨_, _, rfl, rfl, hp _ H G am Grow.refl M (.int _)⟩
  · cases hx.int; cases hy.int
    exact op_sub pins s σ H _ _ v u Q I rx ry ⟨_, _, rfl, rfl, hp _ H G am Grow.refl M (.int _)⟩
  · cases hx.int; cases hy.int
    split at hp
    · rename_i hc
      exact op_mulW pins s σ H _ _ v u Q I rx ry ⟨_, _, rfl, rfl, hc, hp _ H G am Grow.refl M (.int _)⟩
    · exact hp.elim
  · cases hx.int; cases hy.int
    split at hp
    · rename_i hc
      exact op_fdivW pins s σ H _ _ v u Q I rx ry ⟨_, _, rfl, rfl, hc, hp _ H G am Grow.refl M (.int _)⟩
    · exact hp.elim
  · cases hx.int; cases hy.int
    split at hp
    · rename_i hc
      exact op_mod pins s σ H _ _ v u Q I rx ry ⟨_, _, rfl, rfl, hc, hp _ H G am Grow.refl M (.int _)⟩
    · exact hp.elim
  · cases hx.int; cases hy.int
    split at hp
    · rename_i hc
      exact op_pow pins s σ H _ _ v u Q I rx ry ⟨_, _, rfl, rfl, hc, hp _ H G am Grow.refl M (.int _)⟩
    · exact hp.elim
  · cases hx.str; cases hy.str
    split at hp
    · rename_i hc
      exact op_add_str pins s σ H _ _ v u Q I rx ry ⟨_, _, rfl, rfl, sz_le hc, hp _ H G am Grow.refl M (.str _)⟩
    · exact hp.elim
  · obtain ⟨a, vs, rfl, ha, ra⟩ := hx.lst M
    obtain ⟨b, ws, rfl, hb, rb⟩ := hy.lst M
    split at hp
    · rename_i hc
      refine op_cat pins s σ H _ _ v u Q I rx ry ⟨_, _, _, _, rfl, rfl, ha, hb, sz_le (by rw [← ra.length, ← rb.length]; exact hc), fun q hq => ?_⟩
      exact hp _ _ _ am (Grow.of (M.none_g hq)) (M.new hq) (.lst upd_same ((ra.append rb).up (Grow.of (M.none_g hq))))
    · exact hp.elim
  · obtain ⟨a, vs, rfl, ha, ra⟩ := hx.tup
    obtain ⟨b, ws, rfl, hb, rb⟩ := hy.tup
    split at hp
    · rename_i hc
      refine op_catA pins s σ H _ _ v u Q I rx ry ⟨a, b, vs, ws, rfl, rfl, SqT.of (M.gH _ _ ha), SqT.of (M.gH _ _ hb), sz_le (by rw [← ra.length, ← rb.length]; exact hc), fun e => ?_, fun _ e => ?_, fun _ _ q hq => ?_⟩
      · subst e
        cases ra
        exact hp _ H G am Grow.refl M (.tup hb rb)
      · subst e
        cases rb
        rw [List.append_nil] at hp
        exact hp _ H G am Grow.refl M (.tup ha ra)
      · exact hp _ _ _ am (Grow.of (M.none_g hq)) (M.new hq) (.tup upd_same ((ra.append rb).up (Grow.of (M.none_g hq))))
    · exact hp.elim
  · cases hx.str; cases hy.int
    split at hp
    · rename_i hc
      exact op_strmul pins s σ H _ _ v u Q I rx ry ⟨_, _, rfl, rfl, hc.1, hc.2.1, hc.2.2, hp _ H G am Grow.refl M (.str _)⟩
    · exact hp.elim
  · obtain ⟨a, vs, rfl, ha, ra⟩ := hx.lst M
    cases hy.int
    split at hp
    · rename_i hc
      obtain ⟨h0, h1, h2⟩ := hc
      refine op_rep pins s σ H _ _ v u Q I rx ry ⟨_, _, _, rfl, rfl, ha, by omega, by omega, sz_le (by rw [← ra.length]; exact h2), fun q hq => ?_⟩
      exact hp _ _ _ am (Grow.of (M.none_g hq)) (M.new hq) (.lst upd_same ((ra.rep _).up (Grow.of (M.none_g hq))))
    · exact hp.elim
  · obtain ⟨a, vs, rfl, ha, ra⟩ := hx.tup
    cases hy.int
    rename_i xs k
    split at hp
    · rename_i hc
      obtain ⟨h0, h1, h2, h3⟩ := hc
      have hne : vs ≠ [] := fun e => by
        subst e
        cases ra
        cases h2
      by_cases c0 : k = 0
      · subst c0
        exact op_repT0 pins s σ H _ _ v u Q I rx ry ⟨_, _, vs, rfl, rfl, SqT.of (M.gH _ _ ha), hne, rfl, fun q hq => hp _ _ _ am (Grow.of (M.none_g hq)) (M.new hq) (.tup upd_same .nil)⟩
      by_cases c1 : k = 1
      · subst c1
        refine op_repT1 pins s σ H _ _ v u Q I rx ry ⟨_, _, vs, rfl, rfl, SqT.of (M.gH _ _ ha), rfl, hp _ H G am Grow.refl M ?_⟩
        have e : (List.replicate (Int.toNat 1) xs).flatten = xs := by simp
        rw [e]
        exact .tup ha ra
      refine op_repT pins s σ H _ _ v u Q I rx ry ⟨_, _, vs, rfl, rfl, SqT.of (M.gH _ _ ha), hne, by omega, h1, by rw [← ra.length]; exact h3, fun q hq => ?_⟩
      exact hp _ _ _ am (Grow.of (M.none_g hq)) (M.new hq) (.tup upd_same ((ra.rep _).up (Grow.of (M.none_g hq))))
    · exact hp.elim
  · split at hp
    · rename_i hc
      subst hc
      split at hp
      · rename_i f hf
        exact own_bin hL hr I rx ry M hx.objE hy.objE hf hp
      · exact hp.elim
    · exact hp.elim
  · exact hp.elim
end
section
variable {X : Cx} {L : Lk} {p : Prog} {fi : Nat → FI} {n wf : Nat} {W : WX} {a b c : Expr} {ea eb ec : E} {pos : Pos}
theorem pE_op (hL : Lnk X.prog X.w X.K X.mg X.base L p fi n) (hr : Room (2 * n + 1) X.A) (o : Bop) (ha : PE X a (rdB X.K L (tab p wf n) W ea)) (hb : PE X b (rdB X.K L (tab p wf n) W eb)) : PE X (.BinOp a o.py b pos) (rdE X.K L (tab p wf n) W (.op o ea eb)) :=
  (pe_op (op_bop hL hr o) ha hb).imp fun σ H Q ⟨F, G, am, om, sl, M, S, pp⟩ => rd2 M S pp fun x y H' G' am' om' dx dy M' rx ry p2 => ⟨F, G', am', om', dx, dy, _, M', rx, ry, p2⟩
def rCatF (K : PySem.W.Frag) (L : Lk) (f : D → D → Om → Rs D) : R2 := fun x y H Q => ∃ F G am om dx dy E, Mem K L F G am om H ∧ RepB K L F G am dx x ∧ RepB K L F G am dy y ∧ PostF K L F G am (f dx dy om) E Q
theorem op_catF : OpR X (binaryOp .Add) (rCatF X.K L catD) := by
  rintro pins s σ H x y v u Q I rx ry ⟨F, G, am, om, dx, dy, E, M, hx, hy, hp⟩
  unfold catD at hp
  split at hp
  · obtain ⟨a, vs, rfl, ha, ra⟩ := hx.lst M
    obtain ⟨b, ws, rfl, hb, rb⟩ := hy.lst M
    split at hp
    · rename_i hc
      obtain ⟨ds, e, hp⟩ := hp
      cases e
      refine op_cat pins s σ H _ _ v u Q I rx ry ⟨_, _, _, _, rfl, rfl, ha, hb, sz_le (by rw [← ra.length, ← rb.length]; exact hc), fun q hq => ?_⟩
      exact hp _ _ _ _ am Grow.refl (M.none_f hq) (M.newF hq) (ra.append rb)
    · exact hp.elim
  · exact hp.elim
theorem op_repF : OpR X (binaryOp .Mult) (rCatF X.K L repD) := by
  rintro pins s σ H x y v u Q I rx ry ⟨F, G, am, om, dx, dy, E, M, hx, hy, hp⟩
  unfold repD at hp
  split at hp
  · obtain ⟨a, vs, rfl, ha, ra⟩ := hx.lst M
    cases hy.int
    split at hp
    · rename_i hc
      obtain ⟨h0, h1, h2⟩ := hc
      obtain ⟨ds, e, hp⟩ := hp
      cases e
      refine op_rep pins s σ H _ _ v u Q I rx ry ⟨_, _, _, rfl, rfl, ha, by omega, by omega, sz_le (by rw [← ra.length]; exact h2), fun q hq => ?_⟩
      exact hp _ _ _ _ am Grow.refl (M.none_f hq) (M.newF hq) (ra.rep _)
    · exact hp.elim
  · exact hp.elim
/-- reading a and then b, a new list behind -/
theorem rd2F {T : Tb} {σ : L2.St} {H : Hp} {Q : VK} {K : PySem.W.Frag} {f : D → D → Om → Rs D} {F G : Hp} {am : List Addr} {om : Om} {sl : Sl} (M : Mem K L F G am om H) (S : SlR K L F G am sl σ)
    (p : PostF K L F G am ((evE T ea sl om).bind fun x om => (evE T eb sl om).bind fun y om => f x y om) (fun cv dd H => W cv dd σ H) Q)
    {r : R2} (k : ∀ x y H' G' am' om' dx dy, Mem K L F G' am' om' H' → RepB K L F G' am' dx x → RepB K L F G' am' dy y → PostF K L F G' am' (f dx dy om') (fun cv dd H => W cv dd σ H) Q → r x y H' Q) :
    rdB K L T W ea σ H fun x H1 => rdB K L T W eb σ H1 fun y H2 => r x y H2 Q :=
  ⟨F, G, am, om, sl, M, S, p.bind fun dx om1 x H1 G1 am1 g1 M1 rx p1 => ⟨F, G1, am1, om1, sl, M1, S.grow g1, p1.bind fun dy om2 y H2 G2 am2 g2 M2 ry p2 => k x y H2 G2 am2 om2 dx dy M2 (rx.up g2) ry p2⟩⟩
theorem pF_cat {T : Tb} (ha : PE X a (rdB X.K L T W ea)) (hb : PE X b (rdB X.K L T W eb)) : PE X (.BinOp a .Add b pos) (rdF X.K L T W (.cat ea eb)) :=
  (pe_op op_catF ha hb).imp fun σ H Q ⟨F, G, am, om, sl, M, S, pp⟩ => rd2F M S pp fun x y H' G' am' om' dx dy M' rx ry p2 => ⟨F, G', am', om', dx, dy, _, M', rx, ry, p2⟩
theorem pF_rp {T : Tb} (ha : PE X a (rdB X.K L T W ea)) (hb : PE X b (rdB X.K L T W eb)) : PE X (.BinOp a .Mult b pos) (rdF X.K L T W (.rp ea eb)) :=
  (pe_op op_repF ha hb).imp fun σ H Q ⟨F, G, am, om, sl, M, S, pp⟩ => rd2F M S pp fun x y H' G' am' om' dx dy M' rx ry p2 => ⟨F, G', am', om', dx, dy, _, M', rx, ry, p2⟩
end
end PD

set_option Elab.async false
set_option linter.all false
set_option maxRecDepth 100000
set_option maxHeartbeats 400000
/-! PDE: comparisons, tests. -/
namespace PD
open PySem PySem.Spec PyProof.Rows L2
section
variable {K : PySem.W.Frag} {L : Lk} {F G H : Hp} {am : List Addr} {om : Om}
mutual
theorem dpG (e : Ex G H) : ∀ (d : D) (v : V) (q : PyData), Rep K L G am d v → toP d = some q → Dp K H v q
  | _, _, q, .non, h => by cases h; exact .non
  | _, _, q, .bl b, h => by cases h; exact .bl b
  | _, _, q, .int b, h => by cases h; exact .int b
  | _, _, q, .str b, h => by cases h; exact .str b
  | .lst ds, _, q, .lst (vs := vs) h r, hq => by
    rw [toP] at hq
    cases z : toPs ds with
    | none => rw [z] at hq; cases hq
    | some qs =>
      rw [z] at hq
      cases hq
      exact .lst (SqL.of (e _ _ h)) (dpGs e ds vs qs r z)
  | .tup ds, _, q, .tup (vs := vs) h r, hq => by
    rw [toP] at hq
    cases z : toPs ds with
    | none => rw [z] at hq; cases hq
    | some qs =>
      rw [z] at hq
      cases hq
      exact .tup (SqT.of (e _ _ h)) (dpGs e ds vs qs r z)
  | .obj _ _, _, q, _, h => by cases h
  | .amb _, _, q, _, h => by cases h
  | .scr _, _, q, _, h => by cases h
theorem dpGs (e : Ex G H) : ∀ (ds : List D) (vs : List V) (qs : List PyData), RepL K L G am ds vs → toPs ds = some qs → DpAll K H vs qs
  | [], _, qs, .nil, h => by cases h; exact .nil
  | d :: ds, v :: vs, qs, .cons h r, hq => by
    rw [toPs] at hq
    cases z : toP d with
    | none => rw [z] at hq; cases hq
    | some q =>
      rw [z] at hq
      cases zs : toPs ds with
      | none => rw [zs] at hq; cases hq
      | some qs' =>
        rw [zs] at hq
        cases hq
        exact .cons (dpG e d v q h z) (dpGs e ds vs qs' r zs)
end
theorem RepB.dp {d : D} {v : V} {q : PyData} (h : RepB K L F G am d v) (M : Mem K L F G am om H) (hq : toP d = some q) : Dp K H v q := by
  rcases h with h | ⟨a, vs, ds, rfl, rfl, f, r⟩
  · exact dpG M.gH d v q h hq
  · rw [toP] at hq
    cases z : toPs ds with
    | none => rw [z] at hq; cases hq
    | some qs =>
      rw [z] at hq
      cases hq
      exact .lst (SqL.of (M.fH _ _ f)) (dpGs M.gH ds vs qs r z)
/-- a flat value's data -/
def fV : V → PyData
  | .bl b => .bool b
  | .int i => .int i
  | .str s => .str s
  | _ => .none
theorem fV_eqv : ∀ x y : V, flatV x = true → flatV y = true → eqV x y = PyData.eqv (fV x) (fV y) := by
  intro x y hx hy
  cases x <;> cases y <;> first | (simp [flatV] at hx; done) | (simp [flatV] at hy; done) | simp [eqV, fV, PyData.eqv]
theorem flat_r {d : D} {v : V} {q : PyData} (r : Rep K L G am d v) (f : flatD d = true) (h : toP d = some q) : flatV v = true ∧ q = fV v := by
  cases r with
  | non => simp only [toP, Option.some.injEq] at h; exact ⟨rfl, h.symm⟩
  | bl b => simp only [toP, Option.some.injEq] at h; exact ⟨rfl, h.symm⟩
  | int b => simp only [toP, Option.some.injEq] at h; exact ⟨rfl, h.symm⟩
  | str b => simp only [toP, Option.some.injEq] at h; exact ⟨rfl, h.symm⟩
  | lst _ _ => cases f
  | tup _ _ => cases f
  | obj _ _ _ => cases f
  | amb _ => cases f
  | scr _ _ => cases f
theorem flat_v {d : D} {v : V} {q : PyData} (r : Rep K L G am d v) (f : flatD d = true) (h : toP d = some q) : flatV v = true ∧ ∀ (d' : D) (v' : V) (q' : PyData), Rep K L G am d' v' → flatD d' = true → toP d' = some q' → eqV v v' = PyData.eqv q q' := by
  obtain ⟨a, rfl⟩ := flat_r r f h
  refine ⟨a, fun d' v' q' r' f' h' => ?_⟩
  obtain ⟨b, rfl⟩ := flat_r r' f' h'
  exact fV_eqv _ _ a b
theorem inV_of {x : D} {v : V} {q : PyData} (rx : Rep K L G am x v) (fx : flatD x = true) (hx : toP x = some q) : ∀ {ys : List D} {vs : List V} {qs : List PyData}, RepL K L G am ys vs → ys.all flatD = true → toPs ys = some qs →
    vs.all flatV = true ∧ inV v vs = qs.any fun z => PyData.eqv z q
  | _, _, _, .nil, _, h => by cases h; exact ⟨rfl, rfl⟩
  | d :: ds, w :: ws, qs, .cons h r, f, hq => by
    rw [List.all_cons, Bool.and_eq_true] at f
    rw [toPs] at hq
    cases z : toP d with
    | none => rw [z] at hq; cases hq
    | some q1 =>
      rw [z] at hq
      cases zs : toPs ds with
      | none => rw [zs] at hq; cases hq
      | some qs' =>
        rw [zs] at hq
        cases hq
        obtain ⟨a, b⟩ := inV_of rx fx hx r f.2 zs
        obtain ⟨c, e⟩ := flat_v h f.1 z
        refine ⟨by rw [List.all_cons, c, a]; rfl, ?_⟩
        show List.any (w :: ws) _ = _
        rw [List.any_cons, List.any_cons, e x v q rx fx hx]
        exact congrArg _ b
end
theorem inA_cases (x y : D) (om : Om) : (∃ k ds, y = .amb k ∧ om[k]? = some (.pl ds) ∧ inA x y om = inD x ds) ∨ ((∀ k, y ≠ .amb k) ∧ inA x y om = inX x y) ∨ inA x y om = none := by
  cases y with
  | amb k =>
    cases h : om[k]? with
    | none => exact .inr (.inr (by unfold inA; dsimp only; rw [h]))
    | some o =>
      cases o with
      | pl ds => exact .inl ⟨k, ds, rfl, h, by unfold inA; dsimp only; rw [h]⟩
      | ob c fs => exact .inr (.inr (by unfold inA; dsimp only; rw [h]))
      | dc ks ds => exact .inr (.inr (by unfold inA; dsimp only; rw [h]))
  | non => exact .inr (.inl ⟨fun k => (fun e => nomatch e), rfl⟩)
  | bl _ => exact .inr (.inl ⟨fun k => (fun e => nomatch e), rfl⟩)
  | int _ => exact .inr (.inl ⟨fun k => (fun e => nomatch e), rfl⟩)
  | str _ => exact .inr (.inl ⟨fun k => (fun e => nomatch e), rfl⟩)
  | lst _ => exact .inr (.inl ⟨fun k => (fun e => nomatch e), rfl⟩)
  | tup _ => exact .inr (.inl ⟨fun k => (fun e => nomatch e), rfl⟩)
  | obj _ _ => exact .inr (.inl ⟨fun k => (fun e => nomatch e), rfl⟩)
  | scr _ => exact .inr (.inl ⟨fun k => (fun e => nomatch e), rfl⟩)
theorem amb_lst {K : PySem.W.Frag} {L : Lk} {F G H : Hp} {am : List Addr} {om : Om} {k : Nat} {v : V} {ds : List D} (M : Mem K L F G am om H) (h : RepB K L F G am (.amb k) v) (hk : om[k]? = some (.pl ds)) : ∃ a vs, v = .ref a ∧ H a = some (.lst vs) ∧ RepL K L G am ds vs := by
  rcases h with h | ⟨_, _, _, e, _⟩
  · cases h with
    | @amb _ a ha =>
      obtain ⟨vs, h1, r⟩ := M.obs _ _ _ ha hk
      exact ⟨a, vs, rfl, h1, r⟩
  · cases e
def Cop.py : Cop → CmpOp
  | .eq => .Eq
  | .ne => .NotEq
  | .lt => .Lt
  | .le => .LtE
  | .gt => .Gt
  | .ge => .GtE
  | .inn => .In
  | .nin => .NotIn
  | .is => .Is
  | .isn => .IsNot
section
variable {X : Cx} {L : Lk} {p : Prog} {fi : Nat → FI} {n wf : Nat}
def rCm (K : PySem.W.Frag) (L : Lk) (T : Tb) (o : Cop) : R2 := fun x y H Q => ∃ F G am om dx dy E, Mem K L F G am om H ∧ RepB K L F G am dx x ∧ RepB K L F G am dy y ∧ Post K L eqR F G am (cmp T o dx dy om) E fun b H' => Q (.bl b) H'
theorem eqD_obj (T : Tb) (c c' : Nat) (fs gs : List D) (om : Om) : eqD T (.obj c fs) (.obj c' gs) om = if c = c' then match T.eqm c with
      | some f => match T.call f [.obj c fs, .obj c' gs] om with
        | .ok (.bl b) om' => .ok b om'
        | _ => .stuck
      | none => .stuck
    else .stuck := rfl
/-- == and != by an own __eq__ -/
theorem own_eq {pins : List (Addr × Obj)} {s : Shared} {σ : L2.St} {H : Hp} {Q : VK} {c f : Nat} {fs gs : List D} {x y : V} {v u : Value} {F G : Hp} {am : List Addr} {om om' : Om} {b : Bool}
    (hL : Lnk X.prog X.w X.K X.mg X.base L p fi n) (hr : Room (2 * n + 1) X.A) (I : Inv X pins σ H s) (rx : RelV x v) (ry : RelV y u) (M : Mem X.K L F G am om H) (hx : Rep X.K L G am (.obj c fs) x) (hy : Rep X.K L G am (.obj c gs) y)
    (hf : p.eqm c = some f) (hc : callN p wf n f [.obj c fs, .obj c gs] om = .ok (.bl b) om') (hp : ∀ H' G' am', Grow G am G' am' → Mem X.K L F G' am' om' H' → Q (.bl b) H') : wpAny (model X.prog X.w) X.A (compareOp .Eq v u) (EP X pins σ Q) X.xe s := by
  obtain ⟨⟨d, hd, hcl, hnp⟩, hfr, hsf, hfind, hfn, hb⟩ := hL.eqm c f hf
  have hx0 := hx
  have hy0 := hy
  cases hx with
  | @obj _ a dx vs _ ha na ra =>
  cases hy with
  | @obj _ b' dy ws _ hb' nb rb =>
  cases rx
  cases ry
  obtain ⟨mA, J, _⟩ := ins_get I.hok (M.gH _ _ ha)
  obtain ⟨mB, J', _⟩ := ins_get I.hok (M.gH _ _ hb')
  obtain ⟨od, J, _⟩ := J.look
  obtain ⟨od', J', _⟩ := J'.look
  obtain ⟨m, hF⟩ := I.fr
  show wpAny _ _ (richCompare .Eq _ _) _ _ _
  refine PySem.W.cmp_K (op := .Eq) (tb := .ref (L.ca c)) hr.units0 hF I.ok.mod.kin J J'.type hsf hfind hfn ?_
  have hsp : spD X.K L p n f ([V.ref a, V.ref b'] ++ []) H (fun z H' => z = .bl b ∧ Q z H') (fun _ _ _ => False) := by
    refine ⟨wf, F, G, am, om, _, M, .cons hx0 (.cons hy0 .nil), ⟨d, hd, by rw [hnp]; rfl⟩, ?_⟩
    rw [if_neg (by rw [hfr]; decide), hc]
    intro v H' G' am' g M' r
    cases r
    exact ⟨rfl, hp H' G' am' g M'⟩
  refine wpAny_mono (run_fnSD (ds := []) (us := [.ref a, .ref b']) (vs := [.ref a, .ref b']) (dvs := []) (E := fun _ => fun _ _ _ => False) (hL.fn f d hd hcl) (hr.mono (by omega)) hb .nil passE0 I (.cons rfl (.cons rfl .nil)) hsp) (fun v s' hv => ?_) fun _ _ e => e
  obtain ⟨z, H', I', rz, ez, q⟩ := hv
  subst ez
  cases rz
  exact ⟨.bl b, H', I', rfl, q⟩
theorem scal_case (x y : D) : (∃ c c' fs gs, x = .obj c fs ∧ y = .obj c' gs) ∨ ∀ (T : Tb) (om : Om), eqD T x y om = match toP x, toP y with
      | some p, some q => if (SeqAt.shaped p && SeqAt.shaped q) = true then .ok (PyData.eqv p q) om else .stuck
      | _, _ => .stuck := by
  cases x <;> first | exact .inr fun _ _ => rfl | (cases y <;> first | exact .inr fun _ _ => rfl | exact .inl ⟨_, _, _, _, rfl, rfl⟩)
theorem opt_ok {K : PySem.W.Frag} {F G H : Hp} {am : List Addr} {om : Om} {o : Option Bool} {E : XK} {Q : Bool → Hp → Prop} (M : Mem K L F G am om H) (h : Post K L eqR F G am (opt o om) E Q) : ∃ b, o = some b ∧ Q b H := by
  cases o with
  | none => exact h.elim
  | some b => exact ⟨b, rfl, h b H G am Grow.refl M rfl⟩
/-- what == of two own objects wants -/
def EqOk (X : Cx) (L : Lk) (T : Tb) : Prop := ∀ (pins : List (Addr × Obj)) (s : Shared) (σ : L2.St) (H : Hp) (Q : VK) (c f : Nat) (fs gs : List D) (x y : V) (v u : Value) (F G : Hp) (am : List Addr) (om om' : Om) (b : Bool), Inv X pins σ H s → RelV x v → RelV y u → Mem X.K L F G am om H → Rep X.K L G am (.obj c fs) x →
  Rep X.K L G am (.obj c gs) y → T.eqm c = some f → T.call f [.obj c fs, .obj c gs] om = .ok (.bl b) om' → (∀ H' G' am', Grow G am G' am' → Mem X.K L F G' am' om' H' → Q (.bl b) H') → wpAny (model X.prog X.w) X.A (compareOp .Eq v u) (EP X pins σ Q) X.xe s
theorem eqOk_tab (hL : Lnk X.prog X.w X.K X.mg X.base L p fi n) (hr : Room (2 * n + 1) X.A) : EqOk X L (tab p wf n) := fun pins s σ H Q c f fs gs x y v u F G am om om' b I rx ry M hx hy hf hc hp => own_eq (b := b) (om' := om') hL hr I rx ry M hx hy hf hc hp
theorem eqOk_z : EqOk X L Tz := fun pins s σ H Q c f fs gs x y v u F G am om om' b I rx ry M hx hy hf hc hp => nomatch hf
theorem op_cmpG {T : Tb} (hown : EqOk X L T) (hu : X.A.units + 65 < cLine) (o : Cop) : OpR X (compareOp o.py) (rCm X.K L T o) := by
  rintro pins s σ H x y v u Q I rx ry ⟨F, G, am, om, dx, dy, E, M, hx, hy, hp⟩
  cases o with
  | eq =>
    change Post X.K L eqR F G am (eqD T dx dy om) E _ at hp
    rcases scal_case dx dy with ⟨c, c', fs, gs, rfl, rfl⟩ | he
    · rw [eqD_obj] at hp
      split at hp
      · rename_i hc
        subst hc
        split at hp
        · rename_i f hf
          split at hp
          · rename_i b om' hcall
            exact hown pins s σ H Q _ _ _ _ x y v u F G am om om' b I rx ry M hx.objE hy.objE hf hcall fun H' G' am' g M' => hp b H' G' am' g M' rfl
          · exact hp.elim
        · exact hp.elim
      · exact hp.elim
    · rw [he] at hp
      split at hp
      · rename_i q q' h1 h2
        split at hp
        · rename_i hs
          rw [Bool.and_eq_true] at hs
          exact op_eqD (by omega) pins s σ H _ _ v u Q I rx ry ⟨_, _, hx.dp M h1, hy.dp M h2, hs.1, hs.2, hp _ H G am Grow.refl M rfl⟩
        · exact hp.elim
      · exact hp.elim
  | ne =>
    change Post X.K L eqR F G am (neD dx dy om) E _ at hp
    unfold neD at hp
    split at hp
    · rename_i q q' h1 h2
      split at hp
      · rename_i hs
        rw [Bool.and_eq_true] at hs
        exact op_neD (by omega) pins s σ H _ _ v u Q I rx ry ⟨_, _, hx.dp M h1, hy.dp M h2, hs.1, hs.2, hp _ H G am Grow.refl M rfl⟩
      · exact hp.elim
    · exact hp.elim
  | lt =>
    obtain ⟨b, e, q⟩ := opt_ok M hp
    unfold ltD at e
    split at e
    · cases e; cases hx.int; cases hy.int
      exact op_lt pins s σ H _ _ v u Q I rx ry ⟨_, _, rfl, rfl, q⟩
    · cases e; cases hx.str; cases hy.str
      exact op_lt_str pins s σ H _ _ v u Q I rx ry ⟨_, _, rfl, rfl, q⟩
    · cases e
  | le =>
    obtain ⟨b, e, q⟩ := opt_ok M hp
    unfold leD at e
    split at e
    · cases e; cases hx.int; cases hy.int
      exact op_le pins s σ H _ _ v u Q I rx ry ⟨_, _, rfl, rfl, q⟩
    · cases e; cases hx.str; cases hy.str
      exact op_le_str pins s σ H _ _ v u Q I rx ry ⟨_, _, rfl, rfl, q⟩
    · cases e
  | gt =>
    obtain ⟨b, e, q⟩ := opt_ok M hp
    unfold gtD at e
    split at e
    · cases e; cases hx.int; cases hy.int
      exact op_gt pins s σ H _ _ v u Q I rx ry ⟨_, _, rfl, rfl, q⟩
    · cases e
  | ge =>
    obtain ⟨b, e, q⟩ := opt_ok M hp
    unfold geD at e
    split at e
    · cases e; cases hx.int; cases hy.int
      exact op_ge pins s σ H _ _ v u Q I rx ry ⟨_, _, rfl, rfl, q⟩
    · cases e
  | inn =>
    obtain ⟨b, e, q⟩ := opt_ok M hp
    rcases inA_cases dx dy om with ⟨k, ds, rfl, hk, e2⟩ | ⟨hn, e2⟩ | e2
    · rw [e2] at e
      obtain ⟨a, vs, rfl, ha, ra⟩ := amb_lst M hy hk
      unfold inD at e
      split at e
      · rename_i h1 h2
        split at e
        · rename_i hs
          rw [Bool.and_eq_true] at hs
          cases e
          exact op_inD hu pins s σ H _ _ v u Q I rx ry ⟨_, _, hx.dp M h1, .lst (SqL.of ha) (dpGs M.gH _ _ _ ra h2), hs.1, hs.2, q⟩
        · cases e
      · cases e
    rotate_left
    · rw [e2] at e
      cases e
    rw [e2] at e
    unfold inX at e
    split at e
    · split at e
      · cases e; cases hx.str; cases hy.str
        exact op_in_str pins s σ H _ _ v u Q I rx ry ⟨_, _, rfl, rfl, q⟩
      · cases e
    · unfold inD at e
      split at e
      · rename_i h1 h2
        split at e
        · rename_i hs
          rw [Bool.and_eq_true] at hs
          cases e
          exact op_inD hu pins s σ H _ _ v u Q I rx ry ⟨_, _, hx.dp M h1, hy.dp M (by rw [toP, h2]; rfl), hs.1, hs.2, q⟩
        · cases e
      · cases e
    · obtain ⟨a, vs, rfl, ha, ra⟩ := hy.tup
      unfold inT at e
      split at e
      · rename_i hs
        rw [Bool.and_eq_true] at hs
        split at e
        · rename_i h1 h2
          cases e
          have hx' : Rep X.K L G am dx x := by
            rcases hx with h | ⟨_, _, _, rfl, _⟩
            · exact h
            · cases hs.1
          obtain ⟨f1, f2⟩ := inV_of hx' hs.1 h1 ra hs.2 h2
          refine op_in_seq pins s σ H _ _ v u Q I rx ry ⟨a, vs, rfl, .inr (SqT.of (M.gH _ _ ha)), (flat_v hx' hs.1 h1).1, f1, ?_⟩
          rw [f2]
          exact q
        · cases e
      · cases e
    · cases e
  | nin =>
    obtain ⟨b, e, q⟩ := opt_ok M hp
    cases z0 : inA dx dy om with
    | none => rw [z0] at e; cases e
    | some b0 =>
      rw [z0] at e
      cases e
      rcases inA_cases dx dy om with ⟨k, ds, rfl, hk, e2⟩ | ⟨hn, e2⟩ | e2
      · rw [e2] at z0
        obtain ⟨a, vs, rfl, ha, ra⟩ := amb_lst M hy hk
        unfold inD at z0
        split at z0
        · rename_i h1 h2
          split at z0
          · rename_i hs
            rw [Bool.and_eq_true] at hs
            cases z0
            exact op_notInD hu pins s σ H _ _ v u Q I rx ry ⟨_, _, hx.dp M h1, .lst (SqL.of ha) (dpGs M.gH _ _ _ ra h2), hs.1, hs.2, q⟩
          · cases z0
        · cases z0
      rotate_left
      · rw [e2] at z0
        cases z0
      have z : inX dx dy = some b0 := by rw [← e2]; exact z0
      unfold inX at z
      split at z
      · split at z
        · cases z; cases hx.str; cases hy.str
          exact op_notIn_str pins s σ H _ _ v u Q I rx ry ⟨_, _, rfl, rfl, q⟩
        · cases z
      · unfold inD at z
        split at z
        · rename_i h1 h2
          split at z
          · rename_i hs
            rw [Bool.and_eq_true] at hs
            cases z
            exact op_notInD hu pins s σ H _ _ v u Q I rx ry ⟨_, _, hx.dp M h1, hy.dp M (by rw [toP, h2]; rfl), hs.1, hs.2, q⟩
          · cases z
        · cases z
      · obtain ⟨a, vs, rfl, ha, ra⟩ := hy.tup
        unfold inT at z
        split at z
        · rename_i hs
          rw [Bool.and_eq_true] at hs
          split at z
          · rename_i h1 h2
            cases z
            have hx' : Rep X.K L G am dx x := by
              rcases hx with h | ⟨_, _, _, rfl, _⟩
              · exact h
              · cases hs.1
            obtain ⟨f1, f2⟩ := inV_of hx' hs.1 h1 ra hs.2 h2
            refine op_notIn_seq pins s σ H _ _ v u Q I rx ry ⟨a, vs, rfl, .inr (SqT.of (M.gH _ _ ha)), (flat_v hx' hs.1 h1).1, f1, ?_⟩
            rw [f2]
            exact q
          · cases z
        · cases z
      · cases z
  | is =>
    obtain ⟨b, e, q⟩ := opt_ok M hp
    unfold isN at e
    split at e
    · cases hy.non
      refine op_isN pins s σ H _ _ v u Q I rx ry ⟨rfl, ?_⟩
      split at e
      · cases e; cases hx.non; exact q
      · cases e; cases hx.bl; exact q
      · cases e; cases hx.int; exact q
      · cases e; cases hx.str; exact q
      · cases e
        obtain ⟨a, vs, rfl, _⟩ := hx.lst M
        exact q
      · cases e
        obtain ⟨a, vs, rfl, _⟩ := hx.tup
        exact q
      · cases e
        obtain ⟨a, dx, vs, rfl, _⟩ := hx.obj
        exact q
      · cases e
    · cases e
  | isn =>
    obtain ⟨b, e, q⟩ := opt_ok M hp
    cases z : isN dx dy with
    | none => rw [z] at e; cases e
    | some b0 =>
      rw [z] at e
      cases e
      unfold isN at z
      split at z
      · cases hy.non
        refine op_notN pins s σ H _ _ v u Q I rx ry ⟨rfl, ?_⟩
        split at z
        · cases z; cases hx.non; exact q
        · cases z; cases hx.bl; exact q
        · cases z; cases hx.int; exact q
        · cases z; cases hx.str; exact q
        · cases z
          obtain ⟨a, vs, rfl, _⟩ := hx.lst M
          exact q
        · cases z
          obtain ⟨a, vs, rfl, _⟩ := hx.tup
          exact q
        · cases z
          obtain ⟨a, dx, vs, rfl, _⟩ := hx.obj
          exact q
        · cases z
      · cases z
theorem op_cmp (hL : Lnk X.prog X.w X.K X.mg X.base L p fi n) (hr : Room (2 * n + 1) X.A) (hu : X.A.units + 65 < cLine) (o : Cop) : OpR X (compareOp o.py) (rCm X.K L (tab p wf n) o) := op_cmpG (eqOk_tab hL hr) hu o
end
end PD

set_option Elab.async false
set_option linter.all false
set_option maxRecDepth 100000
set_option maxHeartbeats 400000
/-! PDF: comparisons, truth, and, or, not, if as expressions and tests. -/
namespace PD
open PySem PySem.Spec PyProof.Rows L2
section
variable {K : PySem.W.Frag} {L : Lk} {F G G' H : Hp} {am am' : List Addr} {om : Om} {α β : Type}
theorem isEmpty_len {α β : Type} {xs : List α} {ys : List β} (h : xs.length = ys.length) : xs.isEmpty = ys.isEmpty := by
  cases xs <;> cases ys <;> first | rfl | cases h
theorem tru_V {d : D} {v : V} {b : Bool} (M : Mem K L F G am om H) (r : RepB K L F G am d v) (h : truD d = some b) : TruV K v H b := by
  cases d with
  | non => cases r.non; cases h; exact rfl
  | bl c => cases r.bl; cases h; exact rfl
  | int i => cases r.int; cases h; exact rfl
  | str s =>
    cases r.str
    simp only [truD] at h
    split at h
    · rename_i hs
      cases h
      exact ⟨sz_le hs, rfl⟩
    · cases h
  | lst ds =>
    obtain ⟨a, vs, rfl, ha, ra⟩ := r.lst M
    cases h
    exact .inl ⟨vs, SqL.of ha, by rw [isEmpty_len ra.length]⟩
  | tup ds =>
    obtain ⟨a, vs, rfl, ha, ra⟩ := r.tup
    cases h
    exact .inr (.inl ⟨vs, SqT.of (M.gH _ _ ha), by rw [isEmpty_len ra.length]⟩)
  | obj _ _ => cases h
  | amb _ => cases h
  | scr _ => cases h
/-- the truth of what was read -/
theorem tru_post {γ δ : Type} {d : D} {v : V} {f : Bool → Om → Rs γ} {R : Hp → List Addr → γ → δ → Prop} {E : XK} {Q : δ → Hp → Prop} (M : Mem K L F G am om H) (r : RepB K L F G am d v) (h : Post K L R F G am ((tru d om).bind f) E Q) :
    ∃ b, TruV K v H b ∧ tru d om = .ok b om ∧ Post K L R F G am (f b om) E Q := by
  unfold tru at h ⊢
  cases q : truD d with
  | none => rw [q] at h; exact h.elim
  | some b =>
    rw [q] at h
    exact ⟨b, tru_V M r q, rfl, h⟩
end
section
variable {X : Cx} {L : Lk} {p : Prog} {fi : Nat → FI} {n wf : Nat} {W : WX} {T : Tb} {a b c : Expr} {ea eb ec : E} {pos : Pos} {rest : List Expr}
/-! ### tests -/
theorem pT_tru (ha : PE X a (rdB X.K L T W ea)) (he : ∀ whole, isTrue a X.env whole = (do let v ← whole; standAt a.pos; holding [v] (truthy v))) : PT X a (rdT X.K L T W ea) :=
  (pt_truth ha he).imp fun σ H Q ⟨F, G, am, om, sl, M, S, pp⟩ => ⟨F, G, am, om, sl, M, S, pp.bind fun d om1 v H1 G1 am1 g1 M1 r1 p1 => by
    unfold tru at p1
    cases q : truD d with
    | none => rw [q] at p1; exact p1.elim
    | some t =>
      rw [q] at p1
      exact ⟨t, tru_V M1 r1 q, p1 t H1 G1 am1 Grow.refl M1 rfl⟩⟩
theorem bind_assoc {α β γ : Type} (r : Rs α) (f : α → Om → Rs β) (g : β → Om → Rs γ) : (r.bind f).bind g = r.bind fun a om => (f a om).bind g := by cases r <;> rfl
theorem cm_true {K : PySem.W.Frag} {F G : Hp} {am : List Addr} {E : XK} {Q : Bool → Hp → Prop} {r : Rs Bool} (h : Post K L eqR F G am ((r.bind fun c om => Rs.ok (D.bl c) om).bind fun x om => tru x om) E Q) : Post K L eqR F G am r E Q := by
  cases r with
  | stuck => exact h
  | ok c om => exact h
  | exc c fs om => exact h
theorem pT_cm (hL : Lnk X.prog X.w X.K X.mg X.base L p fi n) (hr : Room (2 * n + 1) X.A) (o : Cop) (ha : PE X a (rdB X.K L (tab p wf n) W ea)) (hb : PE X b (rdB X.K L (tab p wf n) W eb)) (hm : behindInMarks o.py b = false) : PT X (.Compare a [o.py] [b] pos) (rdT X.K L (tab p wf n) W (.cm o ea eb)) :=
  (pt_cmpR (op_cmp hL hr (by have := hr.un; omega) o) ha hb hm).imp fun σ H Q ⟨F, G, am, om, sl, M, S, pp⟩ => by
    have pp' : Post X.K L eqR F G am ((evE (tab p wf n) ea sl om).bind fun x om => (evE (tab p wf n) eb sl om).bind fun y om => cmp (tab p wf n) o x y om) (fun cv dd H => W cv dd σ H) Q := by
      have e : evT (tab p wf n) (.cm o ea eb) sl om = ((evE (tab p wf n) ea sl om).bind fun x om => (evE (tab p wf n) eb sl om).bind fun y om => (cmp (tab p wf n) o x y om).bind fun c om => .ok (.bl c) om).bind fun x om => tru x om := rfl
      rw [e] at pp
      cases q : evE (tab p wf n) ea sl om with
      | stuck => rw [q] at pp; exact pp
      | exc c fs om1 => rw [q] at pp; exact pp
      | ok x om1 =>
        rw [q] at pp
        simp only [bind_ok] at pp ⊢
        cases q2 : evE (tab p wf n) eb sl om1 with
        | stuck => rw [q2] at pp; exact pp
        | exc c fs om1 => rw [q2] at pp; exact pp
        | ok y om2 =>
          rw [q2] at pp
          simp only [bind_ok] at pp ⊢
          exact cm_true pp
    exact ⟨F, G, am, om, sl, M, S, pp'.bind fun dx om1 x H1 G1 am1 g1 M1 rx p1 => ⟨F, G1, am1, om1, sl, M1, S.grow g1, p1.bind fun dy om2 y H2 G2 am2 g2 M2 ry p2 =>
      ⟨F, G2, am2, om2, dx, dy, _, M2, rx.up g2, ry, p2.mono fun b H3 q => ⟨b, rfl, q⟩⟩⟩⟩
theorem pE_cm (hL : Lnk X.prog X.w X.K X.mg X.base L p fi n) (hr : Room (2 * n + 1) X.A) (o : Cop) (ha : PE X a (rdB X.K L (tab p wf n) W ea)) (hb : PE X b (rdB X.K L (tab p wf n) W eb)) (hm : behindInMarks o.py b = false) : PE X (.Compare a [o.py] [b] pos) (rdE X.K L (tab p wf n) W (.cm o ea eb)) :=
  (pe_cmpR (op_cmp hL hr (by have := hr.un; omega) o) ha hb hm).imp fun σ H Q ⟨F, G, am, om, sl, M, S, pp⟩ =>
    ⟨F, G, am, om, sl, M, S, pp.bind fun dx om1 x H1 G1 am1 g1 M1 rx p1 => ⟨F, G1, am1, om1, sl, M1, S.grow g1, p1.bind fun dy om2 y H2 G2 am2 g2 M2 ry p2 =>
      ⟨F, G2, am2, om2, dx, dy, _, M2, rx.up g2, ry, p2.bind fun b om3 b' H3 G3 am3 g3 M3 e p3 => by
        cases e
        exact p3 (.bl b) H3 G3 am3 Grow.refl M3 (.bl b)⟩⟩⟩
theorem pE_ch (hL : Lnk X.prog X.w X.K X.mg X.base L p fi n) (hr : Room (2 * n + 1) X.A) (o o' : Cop) (ha : PE X a (rdB X.K L (tab p wf n) W ea)) (hb : PE X b (rdB X.K L (tab p wf n) W eb)) (hc : PE X c (rdB X.K L (tab p wf n) W ec)) (hm : lastMarks [o.py, o'.py] [b, c] = false) :
    PE X (.Compare a [o.py, o'.py] [b, c] pos) (rdE X.K L (tab p wf n) W (.ch o o' ea eb ec)) :=
  (pe_chain (op_cmp hL hr (by have := hr.un; omega) o) (op_cmp hL hr (by have := hr.un; omega) o') ha hb hc hm).imp fun σ H Q ⟨F, G, am, om, sl, M, S, pp⟩ =>
    ⟨F, G, am, om, sl, M, S, pp.bind fun dx om1 x H1 G1 am1 g1 M1 rx p1 => ⟨F, G1, am1, om1, sl, M1, S.grow g1, p1.bind fun dy om2 y H2 G2 am2 g2 M2 ry p2 =>
      ⟨F, G2, am2, om2, dx, dy, _, M2, rx.up g2, ry, p2.bind fun b om3 b' H3 G3 am3 g3 M3 e p3 => by
        cases e
        refine ⟨b, rfl, ?_⟩
        cases b with
        | true =>
          rw [if_pos rfl] at p3 ⊢
          exact ⟨F, G3, am3, om3, sl, M3, ((S.grow g1).grow g2).grow g3, p3.bind fun dz om4 z H4 G4 am4 g4 M4 rz p4 => ⟨F, G4, am4, om4, dy, dz, _, M4, (ry.up g3).up g4, rz, p4.bind fun b om5 b' H5 G5 am5 g5 M5 e p5 => by
            cases e
            exact p5 (.bl b) H5 G5 am5 Grow.refl M5 (.bl b)⟩⟩
        | false =>
          rw [if_neg (by decide)] at p3 ⊢
          exact p3 (.bl false) H3 G3 am3 Grow.refl M3 (.bl false)⟩⟩⟩
/-- a comparison where nothing of the program's own is called -/
theorem pE_cm0 {T : Tb} (hu : X.A.units + 65 < cLine) (o : Cop) (ha : PE X a (rdB X.K L T W ea)) (hb : PE X b (rdB X.K L T W eb)) (hm : behindInMarks o.py b = false) : PE X (.Compare a [o.py] [b] pos) (rdE X.K L T W (.cm0 o ea eb)) :=
  (pe_cmpR (op_cmpG eqOk_z hu o) ha hb hm).imp fun σ H Q ⟨F, G, am, om, sl, M, S, pp⟩ =>
    ⟨F, G, am, om, sl, M, S, pp.bind fun dx om1 x H1 G1 am1 g1 M1 rx p1 => ⟨F, G1, am1, om1, sl, M1, S.grow g1, p1.bind fun dy om2 y H2 G2 am2 g2 M2 ry p2 =>
      ⟨F, G2, am2, om2, dx, dy, _, M2, rx.up g2, ry, p2.bind fun b om3 b' H3 G3 am3 g3 M3 e p3 => by
        cases e
        exact p3 (.bl b) H3 G3 am3 Grow.refl M3 (.bl b)⟩⟩⟩
theorem pT_cm0 {T : Tb} (hu : X.A.units + 65 < cLine) (o : Cop) (ha : PE X a (rdB X.K L T W ea)) (hb : PE X b (rdB X.K L T W eb)) (hm : behindInMarks o.py b = false) : PT X (.Compare a [o.py] [b] pos) (rdT X.K L T W (.cm0 o ea eb)) :=
  (pt_cmpR (op_cmpG eqOk_z hu o) ha hb hm).imp fun σ H Q ⟨F, G, am, om, sl, M, S, pp⟩ => by
    have pp' : Post X.K L eqR F G am ((evE T ea sl om).bind fun x om => (evE T eb sl om).bind fun y om => cmp Tz o x y om) (fun cv dd H => W cv dd σ H) Q := by
      have e : evT T (.cm0 o ea eb) sl om = ((evE T ea sl om).bind fun x om => (evE T eb sl om).bind fun y om => (cmp Tz o x y om).bind fun c om => .ok (.bl c) om).bind fun x om => tru x om := rfl
      rw [e, bind_assoc] at pp
      cases q : evE T ea sl om with
      | stuck => rw [q] at pp; exact pp
      | exc c fs om1 => rw [q] at pp; exact pp
      | ok x om1 =>
        rw [q] at pp
        simp only [bind_ok, bind_assoc] at pp ⊢
        cases q2 : evE T eb sl om1 with
        | stuck => rw [q2] at pp; exact pp
        | exc c fs om1 => rw [q2] at pp; exact pp
        | ok y om2 =>
          rw [q2] at pp
          simp only [bind_ok] at pp ⊢
          cases q3 : cmp Tz o x y om2 with
          | stuck => rw [q3] at pp; exact pp
          | exc c fs om1 => rw [q3] at pp; exact pp
          | ok y om3 => rw [q3] at pp; exact pp
    exact ⟨F, G, am, om, sl, M, S, pp'.bind fun dx om1 x H1 G1 am1 g1 M1 rx p1 => ⟨F, G1, am1, om1, sl, M1, S.grow g1, p1.bind fun dy om2 y H2 G2 am2 g2 M2 ry p2 =>
      ⟨F, G2, am2, om2, dx, dy, _, M2, rx.up g2, ry, p2.mono fun b H3 q => ⟨b, rfl, q⟩⟩⟩⟩
/-- a bool as a value is a bool as a test -/
theorem pT_val (ha : PE X a (rdE X.K L T W ea)) (he : ∀ whole, isTrue a X.env whole = (do let v ← whole; standAt a.pos; holding [v] (truthy v))) : PT X a (rdT X.K L T W ea) := pT_tru (pB ha) he
theorem pT_ch (hL : Lnk X.prog X.w X.K X.mg X.base L p fi n) (hr : Room (2 * n + 1) X.A) (o o' : Cop) (ha : PE X a (rdB X.K L (tab p wf n) W ea)) (hb : PE X b (rdB X.K L (tab p wf n) W eb)) (hc : PE X c (rdB X.K L (tab p wf n) W ec)) (hm : lastMarks [o.py, o'.py] [b, c] = false) :
    PT X (.Compare a [o.py, o'.py] [b, c] pos) (rdT X.K L (tab p wf n) W (.ch o o' ea eb ec)) :=
  (pt_chain (op_cmp (wf := wf) hL hr (by have := hr.un; omega) o) (op_cmp (wf := wf) hL hr (by have := hr.un; omega) o') ha hb hc hm).imp fun σ H Q ⟨F, G, am, om, sl, M, S, pp⟩ => by
    have e : evT (tab p wf n) (.ch o o' ea eb ec) sl om = (evE (tab p wf n) ea sl om).bind fun x om => (evE (tab p wf n) eb sl om).bind fun y om => (cmp (tab p wf n) o x y om).bind fun r om => (if r = true then (evE (tab p wf n) ec sl om).bind fun z om => (cmp (tab p wf n) o' y z om).bind fun r om => .ok (.bl r) om else .ok (.bl false) om).bind fun x om => tru x om := by
      show (((evE (tab p wf n) ea sl om).bind fun x om => (evE (tab p wf n) eb sl om).bind fun y om => (cmp (tab p wf n) o x y om).bind fun r om => if r = true then (evE (tab p wf n) ec sl om).bind fun z om => (cmp (tab p wf n) o' y z om).bind fun r om => .ok (.bl r) om else .ok (.bl false) om)).bind (fun x om => tru x om) = _
      simp only [bind_assoc]
    rw [e] at pp
    exact ⟨F, G, am, om, sl, M, S, pp.bind fun dx om1 x H1 G1 am1 g1 M1 rx p1 => ⟨F, G1, am1, om1, sl, M1, S.grow g1, p1.bind fun dy om2 y H2 G2 am2 g2 M2 ry p2 =>
      ⟨F, G2, am2, om2, dx, dy, _, M2, rx.up g2, ry, p2.bind fun b om3 b' H3 G3 am3 g3 M3 e p3 => by
        cases e
        refine ⟨b, rfl, ?_⟩
        cases b with
        | true =>
          rw [if_pos rfl] at p3 ⊢
          rw [bind_assoc] at p3
          exact ⟨F, G3, am3, om3, sl, M3, ((S.grow g1).grow g2).grow g3, p3.bind fun dz om4 z H4 G4 am4 g4 M4 rz p4 => ⟨F, G4, am4, om4, dy, dz, _, M4, (ry.up g3).up g4, rz, (cm_true p4).mono fun b H q => ⟨b, rfl, q⟩⟩⟩
        | false =>
          rw [if_neg (by decide)] at p3 ⊢
          exact ⟨false, rfl, p3 false H3 G3 am3 Grow.refl M3 rfl⟩⟩⟩⟩
/-! ### not, and, or -/
theorem pT_no (ha : PT X a (rdT X.K L T W ea)) : PT X (.UnaryOp .Not a pos) (rdT X.K L T W (.no ea)) :=
  (pt_not ha).imp fun σ H Q ⟨F, G, am, om, sl, M, S, pp⟩ => by
    have e : evT T (.no ea) sl om = (evT T ea sl om).bind fun b om => .ok (!b) om := by
      show ((evE T ea sl om).bind fun x om => (tru x om).bind fun b om => .ok (.bl (!b)) om).bind (fun x om => tru x om) = ((evE T ea sl om).bind fun x om => tru x om).bind fun b om => .ok (!b) om
      cases evE T ea sl om with
      | stuck => rfl
      | exc c fs om => rfl
      | ok d om =>
        simp only [bind_ok]
        cases tru d om <;> rfl
    rw [e] at pp
    exact ⟨F, G, am, om, sl, M, S, pp.bind fun b om1 b' H1 G1 am1 g1 M1 z p1 => by
      cases z
      exact p1 _ H1 G1 am1 Grow.refl M1 rfl⟩
theorem pW_an1 (ha : PT X a (rdT X.K L T W ea)) : PW X (.BoolOp .And [a] pos) (rdT X.K L T W ea) := pw_and1 ha
theorem pW_or1 (ha : PT X a (rdT X.K L T W ea)) : PW X (.BoolOp .Or [a] pos) (rdT X.K L T W ea) := pw_or1 ha
theorem pW_an (ha : PT X a (rdT X.K L T W ea)) (hb : PW X (.BoolOp .And (b :: rest) pos) (rdT X.K L T W eb)) : PW X (.BoolOp .And (a :: b :: rest) pos) (rdT X.K L T W (.an ea eb)) :=
  (pw_and ha hb).imp fun σ H Q ⟨F, G, am, om, sl, M, S, pp⟩ => by
    have e : evT T (.an ea eb) sl om = (evT T ea sl om).bind fun c om => if c = true then evT T eb sl om else .ok false om := by
      show ((evE T ea sl om).bind fun x om => (tru x om).bind fun c om => if c = true then evE T eb sl om else .ok x om).bind (fun x om => tru x om) = ((evE T ea sl om).bind fun x om => tru x om).bind fun c om => if c = true then evT T eb sl om else .ok false om
      cases evE T ea sl om with
      | stuck => rfl
      | exc c fs om => rfl
      | ok d om =>
        simp only [bind_ok]
        unfold tru
        cases q : truD d with
        | none => rfl
        | some t =>
          simp only [bind_ok]
          cases t with
          | true => rfl
          | false =>
            simp only [Bool.false_eq_true, if_false, bind_ok]
            rw [q]
    rw [e] at pp
    exact ⟨F, G, am, om, sl, M, S, pp.bind fun t om1 t' H1 G1 am1 g1 M1 z p1 => by
      cases z
      cases t with
      | true =>
        rw [if_pos rfl] at p1 ⊢
        exact ⟨F, G1, am1, om1, sl, M1, S.grow g1, p1⟩
      | false =>
        rw [if_neg (by decide)] at p1 ⊢
        exact p1 _ H1 G1 am1 Grow.refl M1 rfl⟩
theorem pW_or (ha : PT X a (rdT X.K L T W ea)) (hb : PW X (.BoolOp .Or (b :: rest) pos) (rdT X.K L T W eb)) : PW X (.BoolOp .Or (a :: b :: rest) pos) (rdT X.K L T W (.or ea eb)) :=
  (pw_or ha hb).imp fun σ H Q ⟨F, G, am, om, sl, M, S, pp⟩ => by
    have e : evT T (.or ea eb) sl om = (evT T ea sl om).bind fun c om => if c = true then .ok true om else evT T eb sl om := by
      show ((evE T ea sl om).bind fun x om => (tru x om).bind fun c om => if c = true then .ok x om else evE T eb sl om).bind (fun x om => tru x om) = ((evE T ea sl om).bind fun x om => tru x om).bind fun c om => if c = true then .ok true om else evT T eb sl om
      cases evE T ea sl om with
      | stuck => rfl
      | exc c fs om => rfl
      | ok d om =>
        simp only [bind_ok]
        unfold tru
        cases q : truD d with
        | none => rfl
        | some t =>
          simp only [bind_ok]
          cases t with
          | false => rfl
          | true =>
            simp only [if_true, bind_ok]
            rw [q]
    rw [e] at pp
    exact ⟨F, G, am, om, sl, M, S, pp.bind fun t om1 t' H1 G1 am1 g1 M1 z p1 => by
      cases z
      cases t with
      | false =>
        rw [if_neg (by decide)] at p1 ⊢
        exact ⟨F, G1, am1, om1, sl, M1, S.grow g1, p1⟩
      | true =>
        rw [if_pos rfl] at p1 ⊢
        exact p1 _ H1 G1 am1 Grow.refl M1 rfl⟩
theorem pE_no (ha : PE X a (rdB X.K L T W ea)) : PE X (.UnaryOp .Not a pos) (rdE X.K L T W (.no ea)) :=
  (pe_notT ha).imp fun σ H Q ⟨F, G, am, om, sl, M, S, pp⟩ => ⟨F, G, am, om, sl, M, S, pp.bind fun d om1 v H1 G1 am1 g1 M1 r1 p1 => by
    obtain ⟨b, t, _, q⟩ := tru_post M1 r1 p1
    exact ⟨b, t, q _ H1 G1 am1 Grow.refl M1 (.bl _)⟩⟩
theorem pE_one {op : BoolOp} (ha : PE X a (rdE X.K L T W ea)) : PE X (.BoolOp op [a] pos) (rdE X.K L T W ea) := pe_one ha
theorem pE_an (ha : PE X a (rdE X.K L T W ea)) (hb : PE X (.BoolOp .And (b :: rest) pos) (rdE X.K L T W eb)) : PE X (.BoolOp .And (a :: b :: rest) pos) (rdE X.K L T W (.an ea eb)) :=
  (pe_andT ha hb).imp fun σ H Q ⟨F, G, am, om, sl, M, S, pp⟩ => ⟨F, G, am, om, sl, M, S, pp.bind fun d om1 v H1 G1 am1 g1 M1 r1 p1 => by
    obtain ⟨b, t, _, q⟩ := tru_post M1 r1.b p1
    refine ⟨b, t, ?_⟩
    cases b with
    | true =>
      rw [if_pos rfl] at q ⊢
      exact ⟨F, G1, am1, om1, sl, M1, S.grow g1, q⟩
    | false =>
      rw [if_neg (by decide)] at q ⊢
      exact q _ H1 G1 am1 Grow.refl M1 r1⟩
theorem pE_or (ha : PE X a (rdE X.K L T W ea)) (hb : PE X (.BoolOp .Or (b :: rest) pos) (rdE X.K L T W eb)) : PE X (.BoolOp .Or (a :: b :: rest) pos) (rdE X.K L T W (.or ea eb)) :=
  (pe_orT ha hb).imp fun σ H Q ⟨F, G, am, om, sl, M, S, pp⟩ => ⟨F, G, am, om, sl, M, S, pp.bind fun d om1 v H1 G1 am1 g1 M1 r1 p1 => by
    obtain ⟨b, t, _, q⟩ := tru_post M1 r1.b p1
    refine ⟨b, t, ?_⟩
    cases b with
    | false =>
      rw [if_neg (by decide)] at q ⊢
      exact ⟨F, G1, am1, om1, sl, M1, S.grow g1, q⟩
    | true =>
      rw [if_pos rfl] at q ⊢
      exact q _ H1 G1 am1 Grow.refl M1 r1⟩
theorem pE_ite (hc : PT X c (rdT X.K L T W ec)) (ha : PE X a (rdE X.K L T W ea)) (hb : PE X b (rdE X.K L T W eb)) : PE X (.IfExp c a b pos) (rdE X.K L T W (.ite ec ea eb)) :=
  (pe_ifExp hc ha hb).imp fun σ H Q ⟨F, G, am, om, sl, M, S, pp⟩ => by
    have e : evE T (.ite ec ea eb) sl om = (evT T ec sl om).bind fun c om => if c = true then evE T ea sl om else evE T eb sl om := by
      show ((evE T ec sl om).bind fun x om => (tru x om).bind fun c om => if c = true then evE T ea sl om else evE T eb sl om) = ((evE T ec sl om).bind fun x om => tru x om).bind fun c om => if c = true then evE T ea sl om else evE T eb sl om
      cases evE T ec sl om <;> rfl
    rw [e] at pp
    exact ⟨F, G, am, om, sl, M, S, pp.bind fun t om1 t' H1 G1 am1 g1 M1 z p1 => by
      cases z
      cases t with
      | true =>
        rw [if_pos rfl] at p1 ⊢
        exact ⟨F, G1, am1, om1, sl, M1, S.grow g1, p1⟩
      | false =>
        rw [if_neg (by decide)] at p1 ⊢
        exact ⟨F, G1, am1, om1, sl, M1, S.grow g1, p1⟩⟩
theorem pE_neg (ha : PE X a (rdE X.K L T W ea)) : PE X (.UnaryOp .USub a pos) (rdE X.K L T W (.neg ea)) :=
  (pe_un un_neg ha).imp fun σ H Q ⟨F, G, am, om, sl, M, S, pp⟩ => ⟨F, G, am, om, sl, M, S, pp.bind fun d om1 v H1 G1 am1 g1 M1 r1 p1 => by
    split at p1
    · cases r1
      exact ⟨_, rfl, p1 _ H1 G1 am1 Grow.refl M1 (.int _)⟩
    · exact p1.elim⟩
end
end PD

set_option Elab.async false
set_option linter.all false
set_option maxRecDepth 100000
set_option maxHeartbeats 400000
/-! PDG: argument lists, displays, calls of defs and methods, instances made, fields. -/
namespace PD
open PySem PySem.Spec PyProof.Rows L2
/-- where a field stands -/
def fnIx : List Str → Str → Option Nat
  | [], _ => none
  | g :: r, f => if f = g then some 0 else (fnIx r f).map (· + 1)
theorem lookup_ix : ∀ {ns : List Str} {f : Str} {j : Nat} {vs : List V}, fnIx ns f = some j → (ns.zip vs).lookup f = vs[j]?
  | [], _, _, _, h => by cases h
  | g :: r, f, j, [], h => by simp
  | g :: r, f, j, v :: vs, h => by
    unfold fnIx at h
    rw [List.zip_cons_cons, List.lookup_cons]
    by_cases c : f = g
    · rw [if_pos c] at h
      cases h
      have e : (f == g) = true := by simpa using c
      rw [e]
      rfl
    · rw [if_neg c] at h
      have e : (f == g) = false := by simpa using c
      rw [e]
      cases q : fnIx r f with
      | none => rw [q] at h; cases h
      | some i =>
        rw [q] at h
        cases h
        rw [List.getElem?_cons_succ]
        exact lookup_ix q
theorem lookup_no : ∀ {ns : List Str} {f : Str} {vs : List V}, fnIx ns f = none → (ns.zip vs).lookup f = none
  | [], _, _, _ => rfl
  | g :: r, f, [], h => rfl
  | g :: r, f, v :: vs, h => by
    unfold fnIx at h
    rw [List.zip_cons_cons, List.lookup_cons]
    by_cases c : f = g
    · rw [if_pos c] at h
      cases h
    · rw [if_neg c] at h
      have e : (f == g) = false := by simpa using c
      rw [e]
      cases q : fnIx r f with
      | some i => rw [q] at h; cases h
      | none => exact lookup_no q
section
variable {X : Cx} {L : Lk} {p : Prog} {fi : Nat → FI} {n wf : Nat} {W : WX} {T : Tb} {a b c e o : Expr} {es : List Expr} {ea eb ec eo er : E} {pos apos cpos spos : Pos}
theorem pA_nil : PA X [] (rdL X.K L T W .nil) := pa_nil.imp fun σ H Q ⟨F, G, am, om, sl, M, S, pp⟩ => pp [] H G am Grow.refl M .nil
theorem pA_cons (ha : PE X e (rdE X.K L T W ea)) (hr : PA X es (rdL X.K L T W er)) (hs : starEach (e :: es) X.env = (false, eval e X.env) :: starEach es X.env := by rfl) : PA X (e :: es) (rdL X.K L T W (.cons ea er)) :=
  (pa_cons ha hr hs).imp fun σ H Q ⟨F, G, am, om, sl, M, S, pp⟩ => ⟨F, G, am, om, sl, M, S, pp.bind fun d om1 v H1 G1 am1 g1 M1 r1 p1 => ⟨F, G1, am1, om1, sl, M1, S.grow g1, p1.bind fun ds om2 vs H2 G2 am2 g2 M2 r2 p2 => p2 _ H2 G2 am2 Grow.refl M2 (.cons (r1.up g2) r2)⟩⟩
theorem pA_star (ha : PE X e (rdB X.K L T W ea)) (hr : PA X es (rdL X.K L T W er)) (hs : starEach (.Starred e spos :: es) X.env = (true, eval e X.env) :: starEach es X.env := by rfl) : PA X (.Starred e spos :: es) (rdL X.K L T W (.star ea er)) :=
  (StX.pa_star ha hr hs).imp fun σ H Q ⟨F, G, am, om, sl, M, S, pp⟩ => ⟨F, G, am, om, sl, M, S, pp.bind fun d om1 v H1 G1 am1 g1 M1 r1 p1 => by
    split at p1
    · obtain ⟨q, vs, rfl, hq, rq⟩ := r1.lst M1
      exact ⟨q, vs, rfl, .inr (SqL.of hq), F, G1, am1, om1, sl, M1, S.grow g1, p1.bind fun ds om2 ws H2 G2 am2 g2 M2 r2 p2 => p2 _ H2 G2 am2 Grow.refl M2 ((rq.up g2).append r2)⟩
    · obtain ⟨q, vs, rfl, hq, rq⟩ := r1.tup
      exact ⟨q, vs, rfl, .inl (SqT.of (M1.gH _ _ hq)), F, G1, am1, om1, sl, M1, S.grow g1, p1.bind fun ds om2 ws H2 G2 am2 g2 M2 r2 p2 => p2 _ H2 G2 am2 Grow.refl M2 ((rq.up g2).append r2)⟩
    · exact p1.elim⟩
theorem pE_tup {x1 : Nat} (ha : PA X es (rdL X.K L T W er)) : PE X (.Tuple es x1 pos) (rdE X.K L T W (.tup er)) :=
  (pe_tup ha).imp fun σ H Q ⟨F, G, am, om, sl, M, S, pp⟩ => ⟨F, G, am, om, sl, M, S, pp.bind fun ds om1 vs H1 G1 am1 g1 M1 r1 p1 => by
    split at p1
    · rename_i hz
      refine ⟨sz_le (by rw [← r1.length]; exact hz), fun q hq => ?_⟩
      exact p1 _ _ _ am1 (Grow.of (M1.none_g hq)) (M1.new hq) (.tup upd_same (r1.up (Grow.of (M1.none_g hq))))
    · exact p1.elim⟩
theorem pF_lst (ha : PA X es (rdL X.K L T W er)) : PE X (.List es pos) (rdF X.K L T W (.lst er)) :=
  (pe_lst ha).imp fun σ H Q ⟨F, G, am, om, sl, M, S, pp⟩ => ⟨F, G, am, om, sl, M, S, pp.bind fun ds om1 vs H1 G1 am1 g1 M1 r1 p1 => by
    split at p1
    · rename_i hz
      refine ⟨sz_le (by rw [← r1.length]; exact hz), fun q hq => ?_⟩
      obtain ⟨ds', e, p1⟩ := p1
      cases e
      exact p1 _ _ _ _ am1 Grow.refl (M1.none_f hq) (M1.newF hq) r1
    · exact p1.elim⟩
theorem bind_lst {r : Rs (List D)} {f : List D → Om → Rs D} (hf : ∀ xs om d om', f xs om = .ok d om' → ∃ ds, d = .lst ds) {d : D} {om' : Om} (h : r.bind f = .ok d om') : ∃ ds, d = .lst ds := by
  cases r with
  | stuck => cases h
  | exc c fs om => cases h
  | ok xs om => exact hf _ _ _ _ h
theorem pE_lst (ha : PA X es (rdL X.K L T W er)) : PE X (.List es pos) (rdE X.K L T W (.lst er)) := pFE (pF_lst ha) fun sl om d om' h => by
  refine bind_lst (r := evL T er sl om) (fun xs om d om' h => ?_) h
  split at h
  · cases h; exact ⟨_, rfl⟩
  · cases h
/-! ### calls -/
theorem pE_call {f : Nat} {d : Def} {x : Str} {pp : Pos} {dv : List D} {dvs : List V} {dV : List Value} (hL : Lnk X.prog X.w X.K X.mg X.base L p fi n) (hr : Room (2 * n + 1) X.A) (tk : Takes X W) (hd : p.defs f = some d) (hc : d.cls = none) (hfr : p.fresh f = false)
    (hg : Gl X x) (hm : X.mg x = some (.ref (fi f).addr)) (hk : PySem.W.keepIn X.K (.ref (fi f).addr) = true) (hb : Binds X.K (fi f).fd (fi f).ps dV) (hv : Vals dvs dV) (rv : ∀ G am, RepL X.K L G am dv dvs)
    (ha : PA X (e :: es) (rdL X.K L (tab p wf n) W er)) (hdb : (x == ("__debug__" : Str)) = false := by decide) (he : starEach (e :: es) X.env = (false, eval e X.env) :: starEach es X.env := by rfl) (hpl : (backTo pos (starEach es X.env)).any (·.1) = false := by rfl) :
    PE X (.Call (.Name x pp) (e :: es) [] pos) (rdE X.K L (tab p wf n) W (.call f dv er)) :=
  (pe_callSD (E := WE W) (hL.fn f d hd hc) (hr.mono (by omega)) hg hm hk hb hv (fun σ => passAt tk σ) ha hdb he hpl).imp fun σ H Q ⟨F, G, am, om, sl, M, S, pp⟩ => ⟨F, G, am, om, sl, M, S, pp.bind fun ds om1 vs H1 G1 am1 g1 M1 r1 p1 => by
    have hl : (ds ++ dv).length = d.np := by
      cases n with
      | zero => exact p1.elim
      | succ n =>
        change Post X.K L (Rep X.K L) F G1 am1 (callN p wf (n + 1) f (ds ++ dv) om1) _ _ at p1
        unfold callN at p1
        rw [hd] at p1
        dsimp only at p1
        split at p1
        · assumption
        · exact p1.elim
    refine ⟨wf, F, G1, am1, om1, ds ++ dv, M1, r1.append (rv G1 am1), ⟨d, hd, hl⟩, ?_⟩
    rw [if_neg (by rw [hfr]; decide)]
    exact p1⟩
/-- a def that hands out a new list -/
theorem pF_call {f : Nat} {d : Def} {x : Str} {pp : Pos} {dv : List D} {dvs : List V} {dV : List Value} (hL : Lnk X.prog X.w X.K X.mg X.base L p fi n) (hr : Room (2 * n + 1) X.A) (tk : Takes X W) (hd : p.defs f = some d) (hc : d.cls = none) (hfr : p.fresh f = true)
    (hg : Gl X x) (hm : X.mg x = some (.ref (fi f).addr)) (hk : PySem.W.keepIn X.K (.ref (fi f).addr) = true) (hb : Binds X.K (fi f).fd (fi f).ps dV) (hv : Vals dvs dV) (rv : ∀ G am, RepL X.K L G am dv dvs)
    (ha : PA X (e :: es) (rdL X.K L (tab p wf n) W er)) (hdb : (x == ("__debug__" : Str)) = false := by decide) (he : starEach (e :: es) X.env = (false, eval e X.env) :: starEach es X.env := by rfl) (hpl : (backTo pos (starEach es X.env)).any (·.1) = false := by rfl) :
    PE X (.Call (.Name x pp) (e :: es) [] pos) (rdF X.K L (tab p wf n) W (.call f dv er)) :=
  (pe_callSD (E := WE W) (hL.fn f d hd hc) (hr.mono (by omega)) hg hm hk hb hv (fun σ => passAt tk σ) ha hdb he hpl).imp fun σ H Q ⟨F, G, am, om, sl, M, S, pp⟩ => ⟨F, G, am, om, sl, M, S, pp.bind fun ds om1 vs H1 G1 am1 g1 M1 r1 p1 => by
    have hl : (ds ++ dv).length = d.np := by
      cases n with
      | zero => exact p1.elim
      | succ n =>
        change PostF X.K L F G1 am1 (callN p wf (n + 1) f (ds ++ dv) om1) _ _ at p1
        unfold callN at p1
        rw [hd] at p1
        dsimp only at p1
        split at p1
        · assumption
        · exact p1.elim
    refine ⟨wf, F, G1, am1, om1, ds ++ dv, M1, r1.append (rv G1 am1), ⟨d, hd, hl⟩, ?_⟩
    rw [if_pos hfr]
    exact p1⟩
/-! ### methods -/
section
variable {CX : CXT} {k : Nat} {f C : Addr} {fd : FuncData} {ps : List Str} {sp : Sp} {dvs : List V} {ds : List Value} {E' : L2.St → XK} {m : Str} {ta : TE} {t : TA}
def tMethSD (C : Addr) (m : Str) (sp : Sp) (dvs : List V) (E : L2.St → XK) (ta : TE) (t : TA) : TE := fun σ H Q => ta σ H fun x H1 => ∃ a dx fs, x = .ref a ∧ H1 a = some (.ins C dx fs) ∧ fs.lookup m = none ∧
  t σ H1 fun vs H2 => sp (x :: (vs ++ dvs)) H2 Q (E σ)
theorem pe_methSD {pl : Sem Bool} {E' : L2.St → XK} (he : PE X o ta) (c : Cls X.K C) (hm : Meth X.K C m f) (F : FnOk X.prog X.w X.K X.mg X.base CX k f fd ps sp) (hr : Room k X.A) (hb : Binds X.K fd ps ds) (hd : Vals dvs ds) (hx : ∀ σ, PassesAt CX X σ (E' σ)) (ha : PA X (e :: es) t)
    (hst : starEach (e :: es) X.env = (false, eval e X.env) :: starEach es X.env := by rfl) (hpl : (backTo pos (starEach es X.env)).any (·.1) = false := by rfl)
    (ht : eval (.Call (.Attribute o m apos) (e :: es) [] pos) X.env = (do
      let ov ← eval o X.env
      standAt apos.atName
      let (f, first) ← holding [ov] (getMethod ov m pl)
      callWith pos f first (backTo pos (starEach (e :: es) X.env)) (backToKw pos (keywordEach [] X.env))) := by rfl) :
    PE X (.Call (.Attribute o m apos) (e :: es) [] pos) (tMethSD C m sp dvs E' ta t) := by
  refine ⟨fun pins s σ H Q I h => ?_⟩
  refine PySem.W.methodCall_KW (pl := pl) (thn (he.run pins s σ H _ I h) fun u s1 ⟨x, H1, I1, rx, a, dx, fs, ex, ea, l, q⟩ => ?_) ht
  subst ex
  obtain rfl : u = Value.ref a := rx
  refine getmeth_ok I1 ea c hm l ?_
  refine PySem.W.callWith_K (first := [.ref a]) (h₀ := X.base) I.ok.mod.kin hm.kp (thn (ha.run pos pins s1 σ H1 _ I1 q) fun us s2 ⟨vs, H2, I2, r, q2⟩ => ⟨I2.kIn, ?_⟩) hst hpl
  exact run_fnSD (us := .ref a :: us) (vs := .ref a :: vs) F hr hb hd (hx σ) I2 (.cons rfl r) q2
theorem pe_methSD0 {pl : Sem Bool} {E' : L2.St → XK} (he : PE X o ta) (c : Cls X.K C) (hm : Meth X.K C m f) (F : FnOk X.prog X.w X.K X.mg X.base CX k f fd ps sp) (hr : Room k X.A) (hb : Binds X.K fd ps ds) (hd : Vals dvs ds) (hx : ∀ σ, PassesAt CX X σ (E' σ))
    (ht : eval (.Call (.Attribute o m apos) [] [] pos) X.env = (do
      let ov ← eval o X.env
      standAt apos.atName
      let (f, first) ← holding [ov] (getMethod ov m pl)
      callWith pos f first (backTo pos (starEach [] X.env)) (backToKw pos (keywordEach [] X.env))) := by rfl) :
    PE X (.Call (.Attribute o m apos) [] [] pos) (tMethSD C m sp dvs E' ta tNil) := by
  refine ⟨fun pins s σ H Q I h => ?_⟩
  refine PySem.W.methodCall_KW (pl := pl) (thn (he.run pins s σ H _ I h) fun u s1 ⟨x, H1, I1, rx, a, dx, fs, ex, ea, l, q⟩ => ?_) ht
  subst ex
  obtain rfl : u = Value.ref a := rx
  refine getmeth_ok I1 ea c hm l ?_
  exact PySem.W.callWith_K0 I1.kIn hm.kp (run_fnSD (us := [.ref a]) (vs := [.ref a]) F hr hb hd (hx σ) I1 (.cons rfl .nil) q)
theorem run_makeSD {pins : List (Addr × Obj)} {σ : L2.St} {H : Hp} {s : Shared} {Q : VK} {E : XK} {us : List Value} {vs : List V} (M : Mk X.K C f) (F : FnOk X.prog X.w X.K X.mg X.base CX k f fd ps sp) (hr : Room (k + 1) X.A) (hb : Binds X.K fd ps ds) (hd : Vals dvs ds)
    (hx : PassesAt CX X σ E) (I : Inv X pins σ H s) (r : Vals vs us)
    (h : ∀ x dx, H x = none → H dx = none → dx ≠ x → sp (.ref x :: (vs ++ dvs)) (upd (upd H dx (.own x)) x (.ins C dx [])) (fun v H2 => v = .non ∧ Q (.ref x) H2) E) :
    wpAny (model X.prog X.w) X.A (call (.ref C) us) (EP X pins σ Q) X.xe s := by
  have hq := h (s.heap.objs.size + 1) s.heap.objs.size (I.hok.fresh (Nat.le_succ _)) (I.hok.fresh (Nat.le_refl _)) (Nat.ne_of_lt (Nat.lt_succ_self _))
  have I2 := Inv.made (C := C) I
  have r2 : Vals (V.ref (s.heap.objs.size + 1) :: (vs ++ dvs)) (Value.ref (s.heap.objs.size + 1) :: (us ++ ds)) := .cons rfl (r.append hd)
  have hl : (Value.ref (s.heap.objs.size + 1) :: us ++ ds).length = ps.length := by
    have e := r2.length
    rw [F.len _ _ _ _ hq] at e
    exact e.symm
  refine wpAny_call (make_map (f := f) I.kIn M.makes M.init (beq_iff_eq.mp M.fn) (codeAny_mono (F.run _ X.stack _ _ ⟨Value.ref (s.heap.objs.size + 1) :: us, []⟩ (Value.ref (s.heap.objs.size + 1) :: (us ++ ds)) _ _ E (hr.make C us [])
    (I2.env0.make C us []) (hb _ (Value.ref (s.heap.objs.size + 1) :: us) I2.kIn hl) r2 hq) fun r s' hq' => ?_))
  cases r with
  | error e => exact hx pins _ _ e s' I2 hq'
  | ok fl =>
    cases fl with
    | ret u =>
      obtain ⟨v, H', I3, rv, ev, q3⟩ := I2.after hq'
      subst ev
      exact ⟨rv, ⟨V.ref (s.heap.objs.size + 1), H', I3, rfl, q3⟩⟩
    | next => exact False.elim hq'
    | brk => exact False.elim hq'
    | cont => exact False.elim hq'
def tMakeSD (C : Addr) (sp : Sp) (dvs : List V) (E : L2.St → XK) (t : TA) : TE := fun σ H Q => t σ H fun vs H1 => ∀ x dx, H1 x = none → H1 dx = none → dx ≠ x →
  sp (.ref x :: (vs ++ dvs)) (upd (upd H1 dx (.own x)) x (.ins C dx [])) (fun v H2 => v = .non ∧ Q (.ref x) H2) (E σ)
theorem pe_makeSD {x : Str} {pp : Pos} {E' : L2.St → XK} (M : Mk X.K C f) (F : FnOk X.prog X.w X.K X.mg X.base CX k f fd ps sp) (hr : Room (k + 1) X.A) (hg : Gl X x) (hm : X.mg x = some (.ref C)) (hb : Binds X.K fd ps ds) (hd : Vals dvs ds) (hx : ∀ σ, PassesAt CX X σ (E' σ))
    (ha : PA X (e :: es) t) (hdb : (x == ("__debug__" : Str)) = false := by decide) (he : starEach (e :: es) X.env = (false, eval e X.env) :: starEach es X.env := by rfl) (hpl : (backTo pos (starEach es X.env)).any (·.1) = false := by rfl) :
    PE X (.Call (.Name x pp) (e :: es) [] pos) (tMakeSD C sp dvs E' t) := by
  refine ⟨fun pins s σ H Q I h => ?_⟩
  refine wpAny_Call_Name_kw (ld_glob I hg hm ?_ hdb)
  refine PySem.W.callWith_K (h₀ := X.base) I.ok.mod.kin M.kp (thn (ha.run pos pins s σ H _ I h) fun us s1 ⟨vs, H1, I1, r, q⟩ => ⟨I1.kIn, ?_⟩) he hpl
  exact run_makeSD M F hr hb hd (hx σ) I1 r q
end
/-- the receiver of a method: an instance of class c, of the store or for good -/
theorem recv {K : PySem.W.Frag} {F G H : Hp} {am : List Addr} {om : Om} {d : D} {v : V} {cc : Nat} (M : Mem K L F G am om H) (r : Rep K L G am d v) (h : isC cc d om = true) :
    ∃ a dx vs, v = .ref a ∧ H a = some (.ins (L.ca cc) dx ((L.fn cc).zip vs)) := by
  unfold isC at h
  split at h
  · rename_i c' fs
    have e : c' = cc := by simpa using h
    subst e
    cases r with
    | obj h n r => exact ⟨_, _, _, rfl, M.gH _ _ h⟩
  · rename_i k
    split at h
    · rename_i c' fs e
      have e' : c' = cc := by simpa using h
      subst e'
      cases r with
      | amb h =>
        obtain ⟨dx, vs, h1, _⟩ := M.obs _ _ _ h e
        exact ⟨_, dx, vs, rfl, h1⟩
    · cases h
  · cases h
theorem len_call {r : D → Prop} {f : Nat} {d : Def} {K : PySem.W.Frag} {F G : Hp} {am : List Addr} {ds : List D} {om : Om} {E : XK} {Q : VK} (hd : p.defs f = some d) (h : Post K L (Rep K L) F G am (callN p wf n f ds om) E Q) : ds.length = d.np := by
  cases n with
  | zero => exact h.elim
  | succ n =>
    unfold callN at h
    rw [hd] at h
    dsimp only at h
    split at h
    · assumption
    · exact h.elim
theorem pE_meth {f cc : Nat} {d : Def} {m : Str} {dv : List D} {dvs : List V} {dV : List Value} {pl : Sem Bool} (hL : Lnk X.prog X.w X.K X.mg X.base L p fi n) (hr : Room (2 * n + 1) X.A) (tk : Takes X W) (hd : p.defs f = some d) (hc : d.cls = none) (hfr : p.fresh f = false)
    (cl : Cls X.K (L.ca cc)) (hm : Meth X.K (L.ca cc) m (fi f).addr) (hno : fnIx (L.fn cc) m = none) (hb : Binds X.K (fi f).fd (fi f).ps dV) (hv : Vals dvs dV) (rv : ∀ G am, RepL X.K L G am dv dvs)
    (ho : PE X o (rdE X.K L (tab p wf n) W eo)) (ha : PA X (e :: es) (rdL X.K L (tab p wf n) W er))
    (hst : starEach (e :: es) X.env = (false, eval e X.env) :: starEach es X.env := by rfl) (hpl : (backTo pos (starEach es X.env)).any (·.1) = false := by rfl)
    (ht : eval (.Call (.Attribute o m apos) (e :: es) [] pos) X.env = (do
      let ov ← eval o X.env
      standAt apos.atName
      let (f, first) ← holding [ov] (getMethod ov m pl)
      callWith pos f first (backTo pos (starEach (e :: es) X.env)) (backToKw pos (keywordEach [] X.env))) := by rfl) :
    PE X (.Call (.Attribute o m apos) (e :: es) [] pos) (rdE X.K L (tab p wf n) W (.meth cc f dv eo er)) :=
  (pe_methSD (pl := pl) (E' := WE W) ho cl hm (hL.fn f d hd hc) (hr.mono (by omega)) hb hv (fun σ => passAt tk σ) ha hst hpl ht).imp fun σ H Q ⟨F, G, am, om, sl, M, S, pp⟩ => ⟨F, G, am, om, sl, M, S, pp.bind fun dx om1 x H1 G1 am1 g1 M1 r1 p1 => by
    split at p1
    · rename_i hi
      obtain ⟨a, dxx, vs, rfl, ha⟩ := recv M1 r1 hi
      refine ⟨a, dxx, _, rfl, ha, lookup_no hno, F, G1, am1, om1, sl, M1, S.grow g1, p1.bind fun ds om2 ws H2 G2 am2 g2 M2 r2 p2 => ?_⟩
      refine ⟨wf, F, G2, am2, om2, dx :: (ds ++ dv), M2, .cons (r1.up g2) (r2.append (rv G2 am2)), ⟨d, hd, len_call (r := fun _ => True) hd p2⟩, ?_⟩
      rw [if_neg (by rw [hfr]; decide)]
      exact p2
    · exact p1.elim⟩
theorem pE_meth0 {f cc : Nat} {d : Def} {m : Str} {dv : List D} {dvs : List V} {dV : List Value} {pl : Sem Bool} (hL : Lnk X.prog X.w X.K X.mg X.base L p fi n) (hr : Room (2 * n + 1) X.A) (tk : Takes X W) (hd : p.defs f = some d) (hc : d.cls = none) (hfr : p.fresh f = false)
    (cl : Cls X.K (L.ca cc)) (hm : Meth X.K (L.ca cc) m (fi f).addr) (hno : fnIx (L.fn cc) m = none) (hb : Binds X.K (fi f).fd (fi f).ps dV) (hv : Vals dvs dV) (rv : ∀ G am, RepL X.K L G am dv dvs)
    (ho : PE X o (rdE X.K L (tab p wf n) W eo))
    (ht : eval (.Call (.Attribute o m apos) [] [] pos) X.env = (do
      let ov ← eval o X.env
      standAt apos.atName
      let (f, first) ← holding [ov] (getMethod ov m pl)
      callWith pos f first (backTo pos (starEach [] X.env)) (backToKw pos (keywordEach [] X.env))) := by rfl) :
    PE X (.Call (.Attribute o m apos) [] [] pos) (rdE X.K L (tab p wf n) W (.meth cc f dv eo .nil)) :=
  (pe_methSD0 (pl := pl) (E' := WE W) ho cl hm (hL.fn f d hd hc) (hr.mono (by omega)) hb hv (fun σ => passAt tk σ) ht).imp fun σ H Q ⟨F, G, am, om, sl, M, S, pp⟩ => ⟨F, G, am, om, sl, M, S, pp.bind fun dx om1 x H1 G1 am1 g1 M1 r1 p1 => by
    split at p1
    · rename_i hi
      obtain ⟨a, dxx, vs, rfl, ha⟩ := recv M1 r1 hi
      refine ⟨a, dxx, _, rfl, ha, lookup_no hno, ?_⟩
      have p2 : Post X.K L (Rep X.K L) F G1 am1 (callN p wf n f (dx :: dv) om1) (fun cv dd H => W cv dd σ H) Q := p1
      refine ⟨wf, F, G1, am1, om1, dx :: dv, M1, .cons r1 (rv G1 am1), ⟨d, hd, len_call (r := fun _ => True) hd p2⟩, ?_⟩
      rw [if_neg (by rw [hfr]; decide)]
      exact p2
    · exact p1.elim⟩
/-! ### instances made -/
theorem noF {F : Hp} {x : Addr} {o : HO} (h : F x = none) : (fun a => if a = x then none else upd F x o a) = F := by
  funext a
  by_cases c : a = x
  · subst c
    rw [if_pos rfl, h]
  · rw [if_neg c, upd_ne c]
theorem pE_mk {f cc : Nat} {d : Def} {x : Str} {pp : Pos} {dv : List D} {dvs : List V} {dV : List Value} (hL : Lnk X.prog X.w X.K X.mg X.base L p fi n) (hr : Room (2 * n + 1) X.A) (tk : Takes X W) (hd : p.defs f = some d) (hc : d.cls = some cc)
    (hM : Mk X.K (L.ca cc) (fi f).addr) (hg : Gl X x) (hm : X.mg x = some (.ref (L.ca cc))) (hb : Binds X.K (fi f).fd (fi f).ps dV) (hv : Vals dvs dV) (rv : ∀ G am, RepL X.K L G am dv dvs)
    (ha : PA X (e :: es) (rdL X.K L (tab p wf n) W er)) (hdb : (x == ("__debug__" : Str)) = false := by decide) (he : starEach (e :: es) X.env = (false, eval e X.env) :: starEach es X.env := by rfl) (hpl : (backTo pos (starEach es X.env)).any (·.1) = false := by rfl) :
    PE X (.Call (.Name x pp) (e :: es) [] pos) (rdE X.K L (tab p wf n) W (.mk cc f dv er)) :=
  (pe_makeSD (E' := WE W) hM (hL.ini f d cc hd hc) hr hg hm hb hv (fun σ => passAt tk σ) ha hdb he hpl).imp fun σ H Q ⟨F, G, am, om, sl, M, S, pp⟩ => ⟨F, G, am, om, sl, M, S, pp.bind fun ds om1 vs H1 G1 am1 g1 M1 r1 p1 x dx nx ndx ne => by
    have hl : (ds ++ dv).length + 1 = d.np := by
      cases n with
      | zero => exact p1.elim
      | succ n =>
        change Post X.K L (Rep X.K L) F G1 am1 ((initN p wf (n + 1) f (ds ++ dv) om1).bind _) _ _ at p1
        unfold initN at p1
        rw [hd] at p1
        dsimp only at p1
        rw [hc] at p1
        dsimp only at p1
        split at p1
        · assumption
        · exact p1.elim
    have nx' : (upd H1 dx (.own x)) x = none := by
      rw [upd_ne (fun c => ne c.symm)]
      exact nx
    have hf : F x = none := M1.none_f nx
    have M2 := (M1.more (u := .own x) ndx).newF (u := .ins (L.ca cc) dx []) nx'
    refine ⟨wf, upd F x (.ins (L.ca cc) dx []), G1, am1, om1, ds ++ dv, cc, x, dx, vs ++ dvs, rfl, M2, upd_same, r1.append (rv G1 am1), ⟨d, hd, hc, hl⟩, ?_⟩
    change Post X.K L (Rep X.K L) F G1 am1 ((initN p wf n f (ds ++ dv) om1).bind _) _ _ at p1
    cases q : initN p wf n f (ds ++ dv) om1 with
    | stuck => rw [q] at p1; exact p1
    | exc c' fs om' =>
      rw [q] at p1
      intro cv dd H' G' am' g M' er
      rw [noF hf] at M'
      exact p1 cv dd H' G' am' g M' er
    | ok fs om' =>
      rw [q] at p1
      intro ws H' G' am' g M' rr
      refine ⟨rfl, ?_⟩
      rw [bind_ok] at p1
      split at p1
      · rename_i hn
        rw [upd_upd] at M'
        have hg' : G' x = none := M'.fg _ _ upd_same
        refine p1 _ H' (upd G' x (.ins (L.ca cc) dx ((L.fn cc).zip ws))) am' (g.trans (Grow.of hg')) (M'.freeze upd_same fun a u e => ?_) (.obj upd_same ?_ (rr.up (Grow.of hg')))
        · have hne : a ≠ x := fun z => by rw [z, hf] at e; cases e
          exact ⟨by rw [upd_ne hne]; exact e, hne⟩
        · rw [← rr.length]
          exact hn.trans (hL.nf cc)
      · exact p1.elim⟩
/-- an instance that will change: into the store -/
theorem pE_mka {f cc : Nat} {d : Def} {x : Str} {pp : Pos} {dv : List D} {dvs : List V} {dV : List Value} (hL : Lnk X.prog X.w X.K X.mg X.base L p fi n) (hr : Room (2 * n + 1) X.A) (tk : Takes X W) (hd : p.defs f = some d) (hc : d.cls = none) (hfr : p.fresh f = false)
    (hM : Mk X.K (L.ca cc) (fi f).addr) (hg : Gl X x) (hm : X.mg x = some (.ref (L.ca cc))) (hb : Binds X.K (fi f).fd (fi f).ps dV) (hv : Vals dvs dV) (rv : ∀ G am, RepL X.K L G am dv dvs)
    (ha : PA X (e :: es) (rdL X.K L (tab p wf n) W er)) (hdb : (x == ("__debug__" : Str)) = false := by decide) (he : starEach (e :: es) X.env = (false, eval e X.env) :: starEach es X.env := by rfl) (hpl : (backTo pos (starEach es X.env)).any (·.1) = false := by rfl) :
    PE X (.Call (.Name x pp) (e :: es) [] pos) (rdE X.K L (tab p wf n) W (.mka cc f dv er)) :=
  (pe_makeSD (E' := WE W) hM (hL.fn f d hd hc) hr hg hm hb hv (fun σ => passAt tk σ) ha hdb he hpl).imp fun σ H Q ⟨F, G, am, om, sl, M, S, pp⟩ => ⟨F, G, am, om, sl, M, S, pp.bind fun ds om1 vs H1 G1 am1 g1 M1 r1 p1 x dx nx ndx ne => by
    have nx' : (upd H1 dx (.own x)) x = none := by
      rw [upd_ne (fun c => ne c.symm)]
      exact nx
    have M2 : Mem X.K L F G1 (am1 ++ [x]) (om1 ++ [.ob cc []]) (upd (upd H1 dx (.own x)) x (.ins (L.ca cc) dx [])) := (M1.more (u := .own x) ndx).newA nx' ⟨dx, [], by rw [upd_same, List.zip_nil_right], Nat.zero_le _, .nil⟩
    have gA : Grow G1 am1 G1 (am1 ++ [x]) := ⟨Ex.refl, [x], rfl⟩
    have hk : (am1 ++ [x])[om1.length]? = some x := by
      rw [← M1.len, List.getElem?_append_right (Nat.le_refl _), Nat.sub_self]
      rfl
    change Post X.K L (Rep X.K L) F G1 am1 ((callN p wf n f (.amb om1.length :: (ds ++ dv)) (om1 ++ [.ob cc []])).bind _) _ _ at p1
    have p2 : Post X.K L (Rep X.K L) F G1 (am1 ++ [x]) (callN p wf n f (.amb om1.length :: (ds ++ dv)) (om1 ++ [.ob cc []])) (fun cv dd H => W cv dd σ H) (fun v H2 => v = .non ∧ Q (.ref x) H2) := (Post.grow gA p1).bind fun r om' v H' G' am' g M' rr p3 => by
      split at p3
      · cases rr
        exact ⟨rfl, p3 _ H' G' am' Grow.refl M' (.amb (g.get hk))⟩
      · exact p3.elim
    refine ⟨wf, F, G1, am1 ++ [x], om1 ++ [.ob cc []], .amb om1.length :: (ds ++ dv), M2, .cons (.amb hk) ((r1.append (rv G1 am1)).up gA), ⟨d, hd, len_call (r := fun _ => True) hd p2⟩, ?_⟩
    rw [if_neg (by rw [hfr]; decide)]
    exact p2⟩
/-! ### fields -/
theorem pE_fld {cc j : Nat} {m : Str} (ha : PE X a (rdE X.K L T W ea)) (cl : Cls X.K (L.ca cc)) (hn : NoAttr X.K (L.ca cc) m) (hj : fnIx (L.fn cc) m = some j) (hb : attributeBase a m X.env (eval a X.env) = eval a X.env) :
    PE X (.Attribute a m pos) (rdE X.K L T W (.fld cc j ea)) :=
  (pe_fld ha hb).imp fun σ H Q ⟨F, G, am, om, sl, M, S, pp⟩ => ⟨F, G, am, om, sl, M, S, pp.bind fun d om1 v H1 G1 am1 g1 M1 r1 p1 => by
    unfold fldD at p1
    split at p1
    · rename_i c' fs om2
      split at p1
      · rename_i hc
        subst hc
        split at p1
        · rename_i d' hd'
          cases r1 with
          | obj h n' r =>
            obtain ⟨v', hv', rv⟩ := r.get hd'
            exact ⟨_, _, _, _, v', rfl, M1.gH _ _ h, cl, hn, by rw [lookup_ix hj]; exact hv', p1 v' H1 G1 am1 Grow.refl M1 rv⟩
        · exact p1.elim
      · exact p1.elim
    · rename_i k om2
      split at p1
      · rename_i c' fs hk
        split at p1
        · rename_i hc
          subst hc
          split at p1
          · rename_i d' hd'
            cases r1 with
            | amb h =>
              obtain ⟨dx, vs, h1, _, r⟩ := M1.obs _ _ _ h hk
              obtain ⟨v', hv', rv⟩ := r.get hd'
              exact ⟨_, _, _, _, v', rfl, h1, cl, hn, by rw [lookup_ix hj]; exact hv', p1 v' H1 G1 am1 Grow.refl M1 rv⟩
          · exact p1.elim
        · exact p1.elim
      · exact p1.elim
    · exact p1.elim⟩
/-- a field of the instance that is being made -/
theorem pE_fs {cc j : Nat} {m x : Str} (h0 : X.N[(0 : Nat)]? = some x) (hv : Vis X.env.scope x) (cl : Cls X.K (L.ca cc)) (hn : NoAttr X.K (L.ca cc) m) (hj : fnIx (L.fn cc) m = some j)
    (hb : attributeBase (.Name x apos) m X.env (eval (.Name x apos) X.env) = eval (.Name x apos) X.env) (hd : (x == ("__debug__" : Str)) = false := by decide) (hcd : (x == ("__classdict__" : Str)) = false := by decide) :
    PE X (.Attribute (.Name x apos) m pos) (rdE X.K L T W (.fs cc j)) :=
  (pe_fld (pe_var h0 hv hd hcd) hb).imp fun σ H Q ⟨F, G, am, om, sl, M, S, pp⟩ => by
    simp only [evE] at pp
    split at pp
    · rename_i c' fs h1
      obtain ⟨o, ho, a, dx, vs, rfl, hF, _, r⟩ := S.at h1
      split at pp
      · rename_i hc
        subst hc
        split at pp
        · rename_i d hd'
          obtain ⟨v, hv', rv⟩ := r.get hd'
          exact ⟨_, ho, a, _, dx, _, v, rfl, M.fH _ _ hF, cl, hn, by rw [lookup_ix hj]; exact hv', pp v H G am Grow.refl M rv⟩
        · exact pp.elim
      · exact pp.elim
    · exact pp.elim
end
end PD

set_option Elab.async false
set_option linter.all false
set_option maxRecDepth 100000
set_option maxHeartbeats 400000
/-! PDH: built-ins, isinstance, subscripts, slices, methods of texts. -/
namespace PD
open PySem PySem.Spec PyProof.Rows L2
def Bi.py : Bi → Value
  | .len => .builtin "len"
  | .abs => .builtin "abs"
  | .str => .type "str"
  | .int => .type "int"
  | .list => .type "list"
  | .tuple => .type "tuple"
  | .bool => .type "bool"
  | .sum => .builtin "sum"
  | .any => .builtin "any"
  | .all => .builtin "all"
section
variable {K : PySem.W.Frag} {L : Lk} {F G G' H : Hp} {am am' : List Addr} {om : Om}
theorem ints_v : ∀ {ds : List D} {vs : List V} {ns : List Int}, RepL K L G am ds vs → intsD ds = some ns → vs = ns.map V.int
  | _, _, _, .nil, h => by cases h; rfl
  | .int i :: ds, v :: vs, ns, .cons h r, e => by
    cases h
    unfold intsD at e
    cases q : intsD ds with
    | none => rw [q] at e; cases e
    | some ms =>
      rw [q] at e
      cases e
      rw [ints_v r q]
      rfl
  | .non :: ds, _, _, .cons _ _, e => by cases e
  | .bl _ :: ds, _, _, .cons _ _, e => by cases e
  | .str _ :: ds, _, _, .cons _ _, e => by cases e
  | .lst _ :: ds, _, _, .cons _ _, e => by cases e
  | .tup _ :: ds, _, _, .cons _ _, e => by cases e
  | .obj _ _ :: ds, _, _, .cons _ _, e => by cases e
  | .amb _ :: ds, _, _, .cons _ _, e => by cases e
  | .scr _ :: ds, _, _, .cons _ _, e => by cases e
theorem bls_v : ∀ {ds : List D} {vs : List V} {ns : List Bool}, RepL K L G am ds vs → blsD ds = some ns → vs = ns.map V.bl
  | _, _, _, .nil, h => by cases h; rfl
  | .bl i :: ds, v :: vs, ns, .cons h r, e => by
    cases h
    unfold blsD at e
    cases q : blsD ds with
    | none => rw [q] at e; cases e
    | some ms =>
      rw [q] at e
      cases e
      rw [bls_v r q]
      rfl
  | .non :: ds, _, _, .cons _ _, e => by cases e
  | .int _ :: ds, _, _, .cons _ _, e => by cases e
  | .str _ :: ds, _, _, .cons _ _, e => by cases e
  | .lst _ :: ds, _, _, .cons _ _, e => by cases e
  | .tup _ :: ds, _, _, .cons _ _, e => by cases e
  | .obj _ _ :: ds, _, _, .cons _ _, e => by cases e
  | .amb _ :: ds, _, _, .cons _ _, e => by cases e
  | .scr _ :: ds, _, _, .cons _ _, e => by cases e
theorem strs_v : ∀ {ds : List D} {vs : List V} {ns : List Str}, RepL K L G am ds vs → strsD ds = some ns → vs = ns.map V.str
  | _, _, _, .nil, h => by cases h; rfl
  | .str i :: ds, v :: vs, ns, .cons h r, e => by
    cases h
    unfold strsD at e
    cases q : strsD ds with
    | none => rw [q] at e; cases e
    | some ms =>
      rw [q] at e
      cases e
      rw [strs_v r q]
      rfl
  | .non :: ds, _, _, .cons _ _, e => by cases e
  | .bl _ :: ds, _, _, .cons _ _, e => by cases e
  | .int _ :: ds, _, _, .cons _ _, e => by cases e
  | .lst _ :: ds, _, _, .cons _ _, e => by cases e
  | .tup _ :: ds, _, _, .cons _ _, e => by cases e
  | .obj _ _ :: ds, _, _, .cons _ _, e => by cases e
  | .amb _ :: ds, _, _, .cons _ _, e => by cases e
  | .scr _ :: ds, _, _, .cons _ _, e => by cases e
theorem strs_rep : ∀ (xs : List Str), RepL K L G am (xs.map D.str) (xs.map V.str)
  | [] => .nil
  | x :: xs => .cons (.str x) (strs_rep xs)
theorem at_v {ds : List D} {vs : List V} {i : Int} {d : D} (r : RepL K L G am ds vs) (h : atI ds i = some d) : ∃ v, atI vs i = some v ∧ Rep K L G am d v := by
  unfold atI at h ⊢
  rw [← r.length]
  cases q : ixN ds.length i with
  | none => rw [q] at h; cases h
  | some j =>
    rw [q] at h
    exact r.get h
theorem cut_v {ds : List D} {vs : List V} {lo hi : Option Int} (r : RepL K L G am ds vs) : RepL K L G am (cutD ds lo hi) (cutV vs lo hi) := by
  unfold cutD cutV
  rw [← r.length]
  exact (r.drop _).take _
end
section
variable {X : Cx} {L : Lk} {p : Prog} {fi : Nat → FI} {n wf : Nat}
def rBi (K : PySem.W.Frag) (L : Lk) (T : Tb) (b : Bi) : List V → Hp → VK → Prop := fun xs H Q => ∃ F G am om d x E, xs = [x] ∧ Mem K L F G am om H ∧ RepB K L F G am d x ∧ Post K L (Rep K L) F G am (biD T b d om) E Q
/-- str(x) by an own __str__ -/
theorem own_str {pins : List (Addr × Obj)} {s : Shared} {σ : L2.St} {H : Hp} {Q : VK} {c f : Nat} {fs : List D} {x : V} {v : Value} {F G : Hp} {am : List Addr} {om om' : Om} {b : Str}
    (hL : Lnk X.prog X.w X.K X.mg X.base L p fi n) (hr : Room (2 * n + 1) X.A) (I : Inv X pins σ H s) (rx : RelV x v) (M : Mem X.K L F G am om H) (hx : Rep X.K L G am (.obj c fs) x)
    (hf : p.strm c = some f) (hc : callN p wf n f [.obj c fs] om = .ok (.str b) om') (hp : ∀ H' G' am', Grow G am G' am' → Mem X.K L F G' am' om' H' → Q (.str b) H') : wpAny (model X.prog X.w) X.A (call (.type "str") [v]) (EP X pins σ Q) X.xe s := by
  obtain ⟨⟨d, hd, hcl, hnp⟩, hfr, hfind, hfn, hb⟩ := hL.strm c f hf
  have hx0 := hx
  cases hx with
  | @obj _ a dx vs _ ha na ra =>
  cases rx
  obtain ⟨mA, J, _⟩ := ins_get I.hok (M.gH _ _ ha)
  obtain ⟨od, J, _⟩ := J.look
  have hu : X.A.in1.in1.units < cLine := by
    have := hr.un
    show X.A.units + 1 + 1 < _
    omega
  have hr2 : Room (2 * n) X.A.in1.in1 := ⟨hr.hd, by have := hr.dp; show X.A.depth + 3 * (2 * n) + 5 < _; omega, by have := hr.un; show X.A.units + 1 + 1 + 16 * (2 * n) + 200 < _; omega⟩
  have hsp : spD X.K L p n f [V.ref a] H (fun z H' => z = V.str b ∧ Q (.str b) H') (fun _ _ _ => False) := by
    refine ⟨wf, F, G, am, om, _, M, .cons hx0 .nil, ⟨d, hd, by rw [hnp]; rfl⟩, ?_⟩
    rw [if_neg (by rw [hfr]; decide), hc]
    intro v H' G' am' g M' r
    cases r
    exact ⟨rfl, hp H' G' am' g M'⟩
  have hlen : (fi f).ps.length = 1 := ((hL.fn f d hd hcl).len _ _ _ _ hsp).symm
  refine PySem.W.kso_call hu I.kIn J hfind hfn (wpAny_call (codeAny_mono ((hL.fn f d hd hcl).run X.A.in1.in1 X.stack s H ⟨[.ref a], []⟩ [.ref a] [.ref a] _ (fun _ _ _ => False) hr2 I.env0.in1.in1 (by
    have z := hb s [.ref a] I.kIn (by rw [List.append_nil, hlen]; rfl)
    rw [List.append_nil] at z
    exact z) (.cons rfl .nil) hsp) fun r s' hq => ?_))
  cases r with
  | error e => exact passE0 (σ := σ) pins H s e s' I hq
  | ok fl =>
    cases fl with
    | ret u =>
      obtain ⟨z, H', I', rz, ez, q⟩ := I.after hq
      subst ez
      obtain ⟨t, rfl⟩ := rz
      exact ⟨.str b, H', I', ⟨t, rfl⟩, q⟩
    | next => exact False.elim hq
    | brk => exact False.elim hq
    | cont => exact False.elim hq
theorem cr_bi (hL : Lnk X.prog X.w X.K X.mg X.base L p fi n) (hr : Room (2 * n + 1) X.A) (hcalm : X.calm = true) (b : Bi) : CallR X b.py (rBi X.K L (tab p wf n) b) := by
  rintro pins s σ H xs us Q I rv ⟨F, G, am, om, d, x, E, rfl, M, r, hp⟩
  have rv0 := rv
  unfold biD at hp
  split at hp
  · obtain ⟨a, vs, rfl, ha, ra⟩ := r.lst M
    exact call_len pins s σ H _ us Q I rv ⟨_, _, rfl, .inl ⟨vs, SqL.of ha, rfl⟩, by rw [← ra.length]; exact hp _ H G am Grow.refl M (.int _)⟩
  · obtain ⟨a, vs, rfl, ha, ra⟩ := r.tup
    exact call_len pins s σ H _ us Q I rv ⟨_, _, rfl, .inr ⟨vs, SqT.of (M.gH _ _ ha), rfl⟩, by rw [← ra.length]; exact hp _ H G am Grow.refl M (.int _)⟩
  · obtain ⟨a, vs, rfl, ha, ra⟩ := r.scr
    exact call_len pins s σ H _ us Q I rv ⟨_, _, rfl, .inl ⟨vs, sqL_ex M.gH ha, rfl⟩, by rw [← ra.length]; exact hp _ H G am Grow.refl M (.int _)⟩
  · cases r.str
    split at hp
    · rename_i hz
      exact call_len pins s σ H _ us Q I rv ⟨_, _, rfl, ⟨sz_le hz, rfl⟩, hp _ H G am Grow.refl M (.int _)⟩
    · exact hp.elim
  · cases r.int
    exact call_abs pins s σ H _ us Q I rv ⟨_, rfl, hp _ H G am Grow.refl M (.int _)⟩
  · cases r.int
    split at hp
    · rename_i hz
      exact call_str_int pins s σ H _ us Q I rv ⟨_, rfl, hz, hp _ H G am Grow.refl M (.str _)⟩
    · exact hp.elim
  · cases r.str
    exact SkE.call_str_str pins s σ H _ us Q I rv ⟨_, rfl, hp _ H G am Grow.refl M (.str _)⟩
  · split at hp
    · rename_i f hf
      split at hp
      · rename_i b om' hcall
        cases rv with
        | cons h1 h2 =>
          cases h2
          exact own_str (b := b) (om' := om') hL hr I h1 M r.objE hf hcall fun H' G' am' g M' => hp _ H' G' am' g M' (.str b)
      · exact hp.elim
    · exact hp.elim
  · cases r.int
    exact call_int1 pins s σ H _ us Q I rv (.inl ⟨_, rfl, hp _ H G am Grow.refl M (.int _)⟩)
  · cases r.bl
    exact call_int1 pins s σ H _ us Q I rv (.inr ⟨_, rfl, hp _ H G am Grow.refl M (.int _)⟩)
  · cases r.str
    split at hp
    · rename_i m hm
      split at hp
      · rename_i hz
        exact call_int_str pins s σ H _ us Q I rv ⟨_, _, rfl, hm, hz, hp _ H G am Grow.refl M (.int _)⟩
      · exact hp.elim
    · exact hp.elim
  · cases r.int
    exact call_bool1 pins s σ H _ us Q I rv (.inl ⟨_, rfl, hp _ H G am Grow.refl M (.bl _)⟩)
  · cases r.bl
    exact call_bool1 pins s σ H _ us Q I rv (.inr ⟨_, rfl, hp _ H G am Grow.refl M (.bl _)⟩)
  · split at hp
    · rename_i ds hds
      obtain ⟨a, vs, rfl, ha, ra⟩ := amb_lst M r hds
      exact call_boolL pins s σ H _ us Q I rv ⟨a, vs, rfl, SqL.of ha, by rw [← isEmpty_len ra.length]; exact hp _ H G am Grow.refl M (.bl _)⟩
    · exact hp.elim
  · obtain ⟨a, vs, rfl, ha, ra⟩ := r.lst M
    exact call_list_of pins s σ H _ us Q I rv ⟨_, _, rfl, .inl (SqL.of ha), fun q hq => hp _ _ _ am (Grow.of (M.none_g hq)) (M.new hq) (.lst upd_same (ra.up (Grow.of (M.none_g hq))))⟩
  · obtain ⟨a, vs, rfl, ha, ra⟩ := r.tup
    exact call_list_of pins s σ H _ us Q I rv ⟨_, _, rfl, .inr (SqT.of (M.gH _ _ ha)), fun q hq => hp _ _ _ am (Grow.of (M.none_g hq)) (M.new hq) (.lst upd_same (ra.up (Grow.of (M.none_g hq))))⟩
  · obtain ⟨a, vs, rfl, ha, ra⟩ := r.scr
    exact call_list_of pins s σ H _ us Q I rv ⟨_, _, rfl, .inl (sqL_ex M.gH ha), fun q hq => hp _ _ _ am (Grow.of (M.none_g hq)) (M.new hq) (.lst upd_same (ra.up (Grow.of (M.none_g hq))))⟩
  · obtain ⟨a, vs, rfl, ha, ra⟩ := r.lst M
    exact call_tuple_of pins s σ H _ us Q I rv ⟨_, _, rfl, .inl ⟨SqL.of ha, fun q hq => hp _ _ _ am (Grow.of (M.none_g hq)) (M.new hq) (.tup upd_same (ra.up (Grow.of (M.none_g hq))))⟩⟩
  · obtain ⟨a, vs, rfl, ha, ra⟩ := r.tup
    exact call_tuple_of pins s σ H _ us Q I rv ⟨_, vs, rfl, .inr ⟨SqT.of (M.gH _ _ ha), hp _ H G am Grow.refl M (.tup ha ra)⟩⟩
  · split at hp
    · rename_i ds hds
      obtain ⟨a, vs, rfl, ha, ra⟩ := amb_lst M r hds
      exact call_tuple_of pins s σ H _ us Q I rv ⟨_, _, rfl, .inl ⟨SqL.of ha, fun q hq => hp _ _ _ am (Grow.of (M.none_g hq)) (M.new hq) (.tup upd_same (ra.up (Grow.of (M.none_g hq))))⟩⟩
    · exact hp.elim
  · obtain ⟨a, vs, rfl, ha, ra⟩ := r.lst M
    split at hp
    · rename_i ns hn
      exact cr_sum hcalm pins s σ H _ us Q I rv ⟨a, ns, rfl, by rw [← ints_v ra hn]; exact SqL.of ha, hp _ H G am Grow.refl M (.int _)⟩
    · exact hp.elim
  · obtain ⟨a, vs, rfl, ha, ra⟩ := r.lst M
    split at hp
    · rename_i ns hn
      exact cr_any hcalm pins s σ H _ us Q I rv ⟨a, ns, rfl, by rw [← bls_v ra hn]; exact SqL.of ha, hp _ H G am Grow.refl M (.bl _)⟩
    · exact hp.elim
  · obtain ⟨a, vs, rfl, ha, ra⟩ := r.lst M
    split at hp
    · rename_i ns hn
      exact cr_all hcalm pins s σ H _ us Q I rv ⟨a, ns, rfl, by rw [← bls_v ra hn]; exact SqL.of ha, hp _ H G am Grow.refl M (.bl _)⟩
    · exact hp.elim
  · exact hp.elim
/-- list(x): a new list that nobody else holds -/
def rLiF (K : PySem.W.Frag) (L : Lk) (T : Tb) : List V → Hp → VK → Prop := fun xs H Q => ∃ F G am om d x E, xs = [x] ∧ Mem K L F G am om H ∧ RepB K L F G am d x ∧ PostF K L F G am (biD T .list d om) E Q
theorem cr_liF {T : Tb} : CallR X (.type "list") (rLiF X.K L T) := by
  rintro pins s σ H xs us Q I rv ⟨F, G, am, om, d, x, E, rfl, M, r, hp⟩
  cases d with
  | lst ds =>
    obtain ⟨a, vs, rfl, ha, ra⟩ := r.lst M
    obtain ⟨ds', e, hp⟩ := hp
    cases e
    exact call_list_of pins s σ H _ us Q I rv ⟨_, _, rfl, .inl (SqL.of ha), fun q hq => hp _ _ _ _ am Grow.refl (M.none_f hq) (M.newF hq) ra⟩
  | tup ds =>
    obtain ⟨a, vs, rfl, ha, ra⟩ := r.tup
    obtain ⟨ds', e, hp⟩ := hp
    cases e
    exact call_list_of pins s σ H _ us Q I rv ⟨_, _, rfl, .inr (SqT.of (M.gH _ _ ha)), fun q hq => hp _ _ _ _ am Grow.refl (M.none_f hq) (M.newF hq) ra⟩
  | scr ds =>
    obtain ⟨a, vs, rfl, ha, ra⟩ := r.scr
    obtain ⟨ds', e, hp⟩ := hp
    cases e
    exact call_list_of pins s σ H _ us Q I rv ⟨_, _, rfl, .inl (sqL_ex M.gH ha), fun q hq => hp _ _ _ _ am Grow.refl (M.none_f hq) (M.newF hq) ra⟩
  | non => exact hp.elim
  | bl _ => exact hp.elim
  | int _ => exact hp.elim
  | str _ => exact hp.elim
  | obj _ _ => exact hp.elim
  | amb _ => exact hp.elim
end
section
variable {X : Cx} {L : Lk} {p : Prog} {fi : Nat → FI} {n wf : Nat} {W : WX} {T : Tb} {a b c e o : Expr} {es : List Expr} {ea eb ec eo er : E} {pos apos cpos spos : Pos}
/-- one argument, as it is read -/
theorem pA1 (ha : PE X a (rdB X.K L T W ea)) (hs : starEach (a :: []) X.env = (false, eval a X.env) :: starEach [] X.env := by rfl) : PA X [a] (tCons (rdB X.K L T W ea) tNil) := pa_cons ha pa_nil hs
theorem rd1 {σ : L2.St} {H : Hp} {Q : VK} {K : PySem.W.Frag} {f : D → Om → Rs D} {F G : Hp} {am : List Addr} {om : Om} {sl : Sl} (M : Mem K L F G am om H) (S : SlR K L F G am sl σ)
    (pp : Post K L (Rep K L) F G am ((evE T ea sl om).bind fun x om => f x om) (fun cv dd H => W cv dd σ H) Q) {r : V → Hp → VK → Prop}
    (k : ∀ x H' G' am' om' dx, Mem K L F G' am' om' H' → RepB K L F G' am' dx x → Post K L (Rep K L) F G' am' (f dx om') (fun cv dd H => W cv dd σ H) Q → r x H' Q) : rdB K L T W ea σ H fun x H1 => r x H1 Q :=
  ⟨F, G, am, om, sl, M, S, pp.bind fun dx om1 x H1 G1 am1 g1 M1 rx p1 => k x H1 G1 am1 om1 dx M1 rx p1⟩
theorem rd1F {σ : L2.St} {H : Hp} {Q : VK} {K : PySem.W.Frag} {f : D → Om → Rs D} {F G : Hp} {am : List Addr} {om : Om} {sl : Sl} (M : Mem K L F G am om H) (S : SlR K L F G am sl σ)
    (pp : PostF K L F G am ((evE T ea sl om).bind fun x om => f x om) (fun cv dd H => W cv dd σ H) Q) {r : V → Hp → VK → Prop}
    (k : ∀ x H' G' am' om' dx, Mem K L F G' am' om' H' → RepB K L F G' am' dx x → PostF K L F G' am' (f dx om') (fun cv dd H => W cv dd σ H) Q → r x H' Q) : rdB K L T W ea σ H fun x H1 => r x H1 Q :=
  ⟨F, G, am, om, sl, M, S, pp.bind fun dx om1 x H1 G1 am1 g1 M1 rx p1 => k x H1 G1 am1 om1 dx M1 rx p1⟩
theorem pE_biB {id : String} {x : Str} {pp : Pos} (hL : Lnk X.prog X.w X.K X.mg X.base L p fi n) (hr : Room (2 * n + 1) X.A) (hcalm : X.calm = true) (b : Bi) (hb : b.py = .builtin id) (hg : Gl X x) (hm : X.mg x = none) (hv : bootBuiltins x = some (.builtin id))
    (ha : PE X a (rdB X.K L (tab p wf n) W ea)) (hn : x ≠ "__name__" := by decide) (hdb : (x == ("__debug__" : Str)) = false := by decide)
    (he : starEach (a :: []) X.env = (false, eval a X.env) :: starEach [] X.env := by rfl) (hpl : (backTo pos (starEach [] X.env)).any (·.1) = false := by rfl) : PE X (.Call (.Name x pp) (a :: []) [] pos) (rdE X.K L (tab p wf n) W (.bi b ea)) :=
  (pe_callB (hb ▸ cr_bi hL hr hcalm b) hg hm hv (pA1 ha he) hn hdb he hpl).imp fun σ H Q ⟨F, G, am, om, sl, M, S, pp⟩ =>
    rd1 (r := fun x H1 Q => tNil σ H1 fun xs H2 => rBi X.K L (tab p wf n) b (x :: xs) H2 Q) M S pp fun x H' G' am' om' dx M' rx p1 => ⟨F, G', am', om', dx, x, _, rfl, M', rx, p1⟩
theorem pE_biT {id : String} {x : Str} {pp : Pos} (hL : Lnk X.prog X.w X.K X.mg X.base L p fi n) (hr : Room (2 * n + 1) X.A) (hcalm : X.calm = true) (b : Bi) (hb : b.py = .type id) (hg : Gl X x) (hm : X.mg x = none) (hv : bootBuiltins x = some (.type id))
    (ha : PE X a (rdB X.K L (tab p wf n) W ea)) (hn : x ≠ "__name__" := by decide) (hdb : (x == ("__debug__" : Str)) = false := by decide)
    (he : starEach (a :: []) X.env = (false, eval a X.env) :: starEach [] X.env := by rfl) (hpl : (backTo pos (starEach [] X.env)).any (·.1) = false := by rfl) : PE X (.Call (.Name x pp) (a :: []) [] pos) (rdE X.K L (tab p wf n) W (.bi b ea)) :=
  (pe_callTy (hb ▸ cr_bi hL hr hcalm b) hg hm hv (pA1 ha he) hn hdb he hpl).imp fun σ H Q ⟨F, G, am, om, sl, M, S, pp⟩ =>
    rd1 (r := fun x H1 Q => tNil σ H1 fun xs H2 => rBi X.K L (tab p wf n) b (x :: xs) H2 Q) M S pp fun x H' G' am' om' dx M' rx p1 => ⟨F, G', am', om', dx, x, _, rfl, M', rx, p1⟩
theorem pF_list {pp : Pos} (hg : Gl X "list") (hm : X.mg "list" = none) (hv : bootBuiltins "list" = some (.type "list"))
    (ha : PE X a (rdB X.K L T W ea)) (he : starEach (a :: []) X.env = (false, eval a X.env) :: starEach [] X.env := by rfl) (hpl : (backTo pos (starEach [] X.env)).any (·.1) = false := by rfl) : PE X (.Call (.Name "list" pp) (a :: []) [] pos) (rdF X.K L T W (.bi .list ea)) :=
  (pe_callTy cr_liF hg hm hv (pA1 ha he) (by decide) (by decide) he hpl).imp fun σ H Q ⟨F, G, am, om, sl, M, S, pp⟩ =>
    rd1F (r := fun x H1 Q => tNil σ H1 fun xs H2 => rLiF X.K L T (x :: xs) H2 Q) M S pp fun x H' G' am' om' dx M' rx p1 => ⟨F, G', am', om', dx, x, _, rfl, M', rx, p1⟩
/-! ### isinstance -/
/-- the type of a datum -/
def tyD (L : Lk) : D → Option Value
  | .non => some (.type "NoneType")
  | .bl _ => some (.type "bool")
  | .int _ => some (.type "int")
  | .str _ => some (.type "str")
  | .lst _ => some (.type "list")
  | .tup _ => some (.type "tuple")
  | .obj c _ => some (.ref (L.ca c))
  | _ => none
/-- what isinstance asks of a class -/
structure IsC (K : PySem.W.Frag) (C : Addr) : Prop where
  cl : Cls K C
  ha : PySem.W.findIn K (.ref C) "__class__" = some (some (.builtin "object.__class__"))
  hn : PySem.W.specialIn K (.builtin "object.__class__") "__get__" = some (some (.builtin "getset_descriptor.__get__"))
  ht : PySem.W.takesIn K (.builtin "object.__class__") = some true
  hm : PySem.W.mroIn K C (.type "object") = some true
theorem tyX_of {K : PySem.W.Frag} {F G H : Hp} {am : List Addr} {om : Om} {d : D} {v : V} {t : Value} (M : Mem K L F G am om H) (r : RepB K L F G am d v) (hc : ∀ c fs, d = .obj c fs → IsC K (L.ca c)) (h : tyD L d = some t) : TyX K H v t := by
  cases d with
  | non => cases r.non; cases h; exact .base .non
  | bl b => cases r.bl; cases h; exact .base (.bl b)
  | int b => cases r.int; cases h; exact .base (.int b)
  | str b => cases r.str; cases h; exact .base (.str b)
  | lst ds =>
    obtain ⟨a, vs, rfl, ha, ra⟩ := r.lst M
    cases h
    exact .base (.lst ha)
  | tup ds =>
    obtain ⟨a, vs, rfl, ha, ra⟩ := r.tup
    cases h
    exact .base (.tup (M.gH _ _ ha))
  | obj c fs =>
    obtain ⟨a, dx, vs, rfl, ha, _⟩ := r.obj
    cases h
    have z := hc c fs rfl
    exact .base (.ins (M.gH _ _ ha) z.cl z.ha z.hn z.ht z.hm)
  | amb _ => cases h
  | scr _ => cases h
/-- a class as isinstance's second argument -/
structure TyOk (K : PySem.W.Frag) (L : Lk) (ty : Ty) (v : V) (u : Value) : Prop where
  cv : ClsV v u
  kit : ∀ d b, isT ty d = some b → ∃ t, tyD L d = some t ∧ PySem.W.kitOne K t u = some b ∧ ∀ c fs, d = .obj c fs → IsC K (L.ca c)
theorem tyOk_b {K : PySem.W.Frag} {L : Lk} {ty : Ty} {nm : String} (h : (ty = .tuple ∧ nm = "tuple") ∨ (ty = .list ∧ nm = "list") ∨ (ty = .int ∧ nm = "int") ∨ (ty = .bool ∧ nm = "bool") ∨ (ty = .str ∧ nm = "str")) : TyOk K L ty (.ty nm) (.type nm) := by
  refine ⟨.ty nm, fun d b hd => ?_⟩
  rcases h with ⟨rfl, rfl⟩ | ⟨rfl, rfl⟩ | ⟨rfl, rfl⟩ | ⟨rfl, rfl⟩ | ⟨rfl, rfl⟩
  all_goals
    cases d <;> first | (simp only [isT] at hd; cases hd; done) | (simp only [isT] at hd; cases hd; exact ⟨_, rfl, kit_ty (by decide +kernel), fun _ _ e => by cases e⟩)
theorem tyOk_o {K : PySem.W.Frag} {L : Lk} {c : Nat} (hk : PySem.W.kitOne K (.ref (L.ca c)) (.ref (L.ca c)) = some true) (hi : IsC K (L.ca c)) : TyOk K L (.own c) (.ref (L.ca c)) (.ref (L.ca c)) := by
  refine ⟨.own _, fun d b hd => ?_⟩
  cases d <;> simp only [isT] at hd <;> try cases hd
  rename_i c' fs
  split at hd
  · rename_i e
    subst e
    cases hd
    exact ⟨_, rfl, hk, fun c2 _ e => by cases e; exact hi⟩
  · cases hd
theorem pE_isi {pp : Pos} {ty : Ty} {cv : V} {u : Value} (hg : Gl X "isinstance") (hm : X.mg "isinstance" = none) (hv : bootBuiltins "isinstance" = some (.builtin "isinstance")) (ht : TyOk X.K L ty cv u)
    (ha : PE X a (rdB X.K L T W ea)) (hc : PE X c (tC cv)) (he : starEach (a :: [c]) X.env = (false, eval a X.env) :: starEach [c] X.env := by rfl) (he2 : starEach (c :: []) X.env = (false, eval c X.env) :: starEach [] X.env := by rfl) (hpl : (backTo pos (starEach [c] X.env)).any (·.1) = false := by rfl) :
    PE X (.Call (.Name "isinstance" pp) [a, c] [] pos) (rdE X.K L T W (.isi [ty] ea)) :=
  (pe_callB call_isi hg hm hv (pa_cons ha (pa_cons hc pa_nil he2) he) (by decide) (by decide) he hpl).imp fun σ H Q ⟨F, G, am, om, sl, M, S, pp⟩ =>
    rd1 (r := fun x H1 Q => tCons (tC cv) tNil σ H1 fun xs H2 => rIsi X.K (x :: xs) H2 Q) M S pp fun x H' G' am' om' dx M' rx p1 => by
      unfold isA at p1
      split at p1
      · rename_i b hb
        split at hb
        · rename_i h1
          cases hb
          obtain ⟨t, h2, h3, h4⟩ := ht.kit _ _ h1
          exact ⟨x, cv, t, u, true, rfl, ht.cv, tyX_of M' rx h4 h2, h3, p1 _ H' G' am' Grow.refl M' (.bl _)⟩
        · rename_i h1
          cases hb
          obtain ⟨t, h2, h3, h4⟩ := ht.kit _ _ h1
          exact ⟨x, cv, t, u, false, rfl, ht.cv, tyX_of M' rx h4 h2, h3, p1 _ H' G' am' Grow.refl M' (.bl _)⟩
        · cases hb
      · exact p1.elim
/-! ### subscripts -/
def rIxD (K : PySem.W.Frag) (L : Lk) : R2 := fun x y H Q => ∃ F G am om dx dy E, Mem K L F G am om H ∧ RepB K L F G am dx x ∧ RepB K L F G am dy y ∧ Post K L (Rep K L) F G am (ixD dx dy om) E Q
theorem ix_D : IxR X (rIxD X.K L) := by
  rintro value slice pins s σ H x y v u Q I rx ry ⟨F, G, am, om, dx, dy, E, M, hx, hy, hp⟩ hsub
  unfold ixD at hp
  split at hp
  · obtain ⟨a, vs, rfl, ha, ra⟩ := hx.lst M
    cases hy.int
    split at hp
    · rename_i d hd
      obtain ⟨w, hw, rw'⟩ := at_v ra hd
      exact ix_list value slice pins s σ H _ _ v u Q I rx ry ⟨_, _, _, w, rfl, rfl, SqL.of ha, hw, hp _ H G am Grow.refl M rw'⟩ hsub
    · exact hp.elim
  · obtain ⟨a, vs, rfl, ha, ra⟩ := hx.tup
    cases hy.int
    split at hp
    · rename_i d hd
      obtain ⟨w, hw, rw'⟩ := at_v ra hd
      exact ix_tup value slice pins s σ H _ _ v u Q I rx ry ⟨_, _, _, w, rfl, rfl, SqT.of (M.gH _ _ ha), hw, hp _ H G am Grow.refl M rw'⟩ hsub
    · exact hp.elim
  · obtain ⟨a, vs, rfl, ha, ra⟩ := hx.scr
    cases hy.int
    split at hp
    · rename_i d hd
      obtain ⟨w, hw, rw'⟩ := at_v ra hd
      exact ix_list value slice pins s σ H _ _ v u Q I rx ry ⟨_, _, _, w, rfl, rfl, sqL_ex M.gH ha, hw, hp _ H G am Grow.refl M rw'⟩ hsub
    · exact hp.elim
  · cases hx.str
    cases hy.int
    split at hp
    · rename_i hz
      split at hp
      · rename_i d hd
        exact ix_str value slice pins s σ H _ _ v u Q I rx ry ⟨_, _, d, rfl, rfl, sz_le hz, hd, hp _ H G am Grow.refl M (.str _)⟩ hsub
      · exact hp.elim
    · exact hp.elim
  · obtain ⟨a, rfl, hk⟩ := hx.amb
    cases hy.int
    split at hp
    · rename_i ds hds
      obtain ⟨vs, ha, ra⟩ := M.obs _ _ _ hk hds
      split at hp
      · rename_i d hd
        obtain ⟨w, hw, rw'⟩ := at_v ra hd
        exact ix_list value slice pins s σ H _ _ v u Q I rx ry ⟨_, _, _, w, rfl, rfl, SqL.of ha, hw, hp _ H G am Grow.refl M rw'⟩ hsub
      · exact hp.elim
    · exact hp.elim
  · exact hp.elim
theorem pE_ix (ha : PE X a (rdB X.K L T W ea)) (hb : PE X b (rdB X.K L T W eb)) (hs : PlainIx b) : PE X (.Subscript a b pos) (rdE X.K L T W (.ix ea eb)) :=
  (pe_ix ix_D ha hb hs).imp fun σ H Q ⟨F, G, am, om, sl, M, S, pp⟩ => rd2 M S pp fun x y H' G' am' om' dx dy M' rx ry p2 => ⟨F, G', am', om', dx, dy, _, M', rx, ry, p2⟩
/-! ### slices -/
theorem pO_none : PO X none (rdO X.K L T W .nop) := po_none.imp fun σ H Q ⟨F, G, am, om, sl, M, S, pp⟩ => pp none H G am Grow.refl M rfl
theorem pO_some (ha : PE X a (rdB X.K L T W ea)) : PO X (some a) (rdO X.K L T W (.cons ea .nil)) :=
  (po_some ha).imp fun σ H Q ⟨F, G, am, om, sl, M, S, pp⟩ => ⟨F, G, am, om, sl, M, S, pp.bind fun d om1 v H1 G1 am1 g1 M1 r1 p1 => by
    split at p1
    · cases r1.int
      exact ⟨_, rfl, p1 _ H1 G1 am1 Grow.refl M1 rfl⟩
    · exact p1.elim⟩
def rSlD (K : PySem.W.Frag) (L : Lk) : V → Option Int → Option Int → Hp → VK → Prop := fun x lo hi H Q => ∃ F G am om dx E, Mem K L F G am om H ∧ RepB K L F G am dx x ∧ Post K L (Rep K L) F G am (slD dx lo hi om) E Q
theorem sl_D : L2.SlR X (rSlD X.K L) := by
  rintro pins s σ H x v vl vu lo hi sl Q I rx hs pl pu ⟨F, G, am, om, dx, E, M, hx, hp⟩
  unfold slD at hp
  split at hp
  · obtain ⟨a, vs, rfl, ha, ra⟩ := hx.lst M
    exact sl_list pins s σ H _ v vl vu lo hi sl Q I rx hs pl pu ⟨a, vs, rfl, SqL.of ha, fun q hq => hp _ _ _ am (Grow.of (M.none_g hq)) (M.new hq) (.lst upd_same ((cut_v ra).up (Grow.of (M.none_g hq))))⟩
  · obtain ⟨a, vs, rfl, ha, ra⟩ := hx.tup
    refine sl_tupA pins s σ H _ v vl vu lo hi sl Q I rx hs pl pu ⟨a, vs, rfl, SqT.of (M.gH _ _ ha), fun hw => ?_, fun _ q hq => hp _ _ _ am (Grow.of (M.none_g hq)) (M.new hq) (.tup upd_same ((cut_v ra).up (Grow.of (M.none_g hq))))⟩
    refine hp _ H G am Grow.refl M (.tup ha ?_)
    have z := cut_v (lo := lo) (hi := hi) ra
    have e : cutV vs lo hi = vs := by
      unfold cutV
      rw [hw.1, hw.2, List.drop_zero, Nat.sub_zero, List.take_length]
    rw [e] at z
    exact z
  · cases hx.str
    split at hp
    · rename_i hz
      exact sl_str pins s σ H _ v vl vu lo hi sl Q I rx hs pl pu ⟨_, rfl, sz_le hz, hp _ H G am Grow.refl M (.str _)⟩
    · exact hp.elim
  · exact hp.elim
theorem rd_sl {σ : L2.St} {H : Hp} {Q : VK} {el eh : E} {F G : Hp} {am : List Addr} {om : Om} {sl : Sl} (M : Mem X.K L F G am om H) (S : SlR X.K L F G am sl σ) (pp : Post X.K L (Rep X.K L) F G am (evE T (.sl ea el eh) sl om) (fun cv dd H => W cv dd σ H) Q) :
    tSl (rSlD X.K L) (rdB X.K L T W ea) (rdO X.K L T W el) (rdO X.K L T W eh) σ H Q :=
  ⟨F, G, am, om, sl, M, S, Post.bind pp fun dx om1 x H1 G1 am1 g1 M1 rx p1 => ⟨F, G1, am1, om1, sl, M1, S.grow g1, p1.bind fun l om2 l' H2 G2 am2 g2 M2 e p2 => by
    cases e
    exact ⟨F, G2, am2, om2, sl, M2, (S.grow g1).grow g2, p2.bind fun h om3 h' H3 G3 am3 g3 M3 e p3 => by
      cases e
      exact ⟨F, G3, am3, om3, dx, _, M3, (rx.up g2).up g3, p3⟩⟩⟩⟩
theorem pE_sl {lo hi : Option Expr} {el eh : E} {p2 : Pos} (ha : PE X a (rdB X.K L T W ea)) (hl : PO X lo (rdO X.K L T W el)) (hh : PO X hi (rdO X.K L T W eh)) : PE X (.Subscript a (.Slice lo hi none p2) pos) (rdE X.K L T W (.sl ea el eh)) :=
  (pe_slice sl_D ha hl hh).imp fun σ H Q ⟨F, G, am, om, sl, M, S, pp⟩ => rd_sl M S pp
/-! ### methods of texts -/
def Mb.py : Mb → String
  | .join => "str.join"
  | .split => "str.split"
  | .partition => "str.partition"
def rMb (K : PySem.W.Frag) (L : Lk) (m : Mb) : V → List V → Hp → VK → Prop := fun x xs H Q => ∃ F G am om s dy y E, x = .str s ∧ xs = [y] ∧ Mem K L F G am om H ∧ RepB K L F G am dy y ∧ Post K L (Rep K L) F G am (mbf m s dy om) E Q
theorem mt_mb (L : Lk) (m : Mb) : MtR X m.py (rMb X.K L m) := by
  rintro pins s σ H x xs v us Q I rx rv ⟨F, G, am, om, sx, dy, y, E, rfl, rfl, M, hy, hp⟩
  unfold mbf at hp
  split at hp
  · obtain ⟨a, vs, rfl, ha, ra⟩ := hy.lst M
    split at hp
    · rename_i ys hys
      split at hp
      · rename_i hz
        exact mt_join pins s σ H _ _ v us Q I rx rv ⟨_, a, ys, rfl, rfl, .inl (by rw [← strs_v ra hys]; exact SqL.of ha), Nat.le_trans hz (by decide), hp _ H G am Grow.refl M (.str _)⟩
      · exact hp.elim
    · exact hp.elim
  · cases hy.str
    split at hp
    · rename_i hz
      refine mt_split pins s σ H _ _ v us Q I rx rv ⟨_, _, rfl, rfl, hz.1, sz_le hz.2, fun q hq => ?_⟩
      exact hp _ _ _ am (Grow.of (M.none_g hq)) (M.new hq) (.lst upd_same (strs_rep _))
    · exact hp.elim
  · cases hy.str
    split at hp
    · rename_i hz
      refine mt_partition pins s σ H _ _ v us Q I rx rv ⟨_, _, rfl, rfl, hz.1, sz_le hz.2, fun q hq => ?_⟩
      exact hp _ _ _ am (Grow.of (M.none_g hq)) (M.new hq) (.tup upd_same (.cons (.str _) (.cons (.str _) (.cons (.str _) .nil))))
    · exact hp.elim
  · exact hp.elim
/-- o.m(a), m a method of texts -/
theorem pE_mb {name : Str} (m : Mb) (slot : Slot "str" name m.py) (ty : typeOf (.builtin m.py) = pure (.type "method_descriptor")) (ho : PE X o (rdB X.K L T W eo)) (ha : PE X a (rdB X.K L T W ea))
    (hs : starEach [a] X.env = [(false, eval a X.env)] := by rfl) (hbase : attributeBase o name X.env (eval o X.env) = eval o X.env := by rfl) (hline : (apos.endLine == pos.line) = true := by rfl) :
    PE X (.Call (.Attribute o name apos) [a] [] pos) (rdE X.K L T W (.mb m eo ea)) :=
  (pe_m1 slot ty (mt_mb L m) ho ha hs hbase hline).imp fun σ H Q ⟨F, G, am, om, sl, M, S, pp⟩ => ⟨F, G, am, om, sl, M, S, pp.bind fun dx om1 x H1 G1 am1 g1 M1 rx p1 => by
    split at p1
    · rename_i s
      cases rx.str
      exact ⟨⟨s, rfl⟩, F, G1, am1, om1, sl, M1, S.grow g1, p1.bind fun dy om2 y H2 G2 am2 g2 M2 ry p2 => ⟨F, G2, am2, om2, s, dy, y, _, rfl, rfl, M2, ry, p2⟩⟩
    · exact p1.elim⟩
def rMbF (K : PySem.W.Frag) (L : Lk) : V → List V → Hp → VK → Prop := fun x xs H Q => ∃ F G am om s dy y E, x = .str s ∧ xs = [y] ∧ Mem K L F G am om H ∧ RepB K L F G am dy y ∧ PostF K L F G am (mbf .split s dy om) E Q
theorem mt_mbF (L : Lk) : MtR X "str.split" (rMbF X.K L) := by
  rintro pins s σ H x xs v us Q I rx rv ⟨F, G, am, om, sx, dy, y, E, rfl, rfl, M, hy, hp⟩
  cases dy with
  | str b =>
    cases hy.str
    simp only [mbf] at hp
    split at hp
    · rename_i hz
      obtain ⟨ds, e, hp⟩ := hp
      cases e
      refine mt_split pins s σ H _ _ v us Q I rx rv ⟨_, _, rfl, rfl, hz.1, sz_le hz.2, fun q hq => ?_⟩
      exact hp _ _ _ _ am Grow.refl (M.none_f hq) (M.newF hq) (strs_rep _)
    · exact hp.elim
  | non => exact hp.elim
  | bl _ => exact hp.elim
  | int _ => exact hp.elim
  | lst _ => exact hp.elim
  | tup _ => exact hp.elim
  | obj _ _ => exact hp.elim
  | amb _ => exact hp.elim
  | scr _ => exact hp.elim
theorem pF_split (slot : Slot "str" "split" "str.split") (ty : typeOf (.builtin "str.split") = pure (.type "method_descriptor")) (ho : PE X o (rdB X.K L T W eo)) (ha : PE X a (rdB X.K L T W ea))
    (hs : starEach [a] X.env = [(false, eval a X.env)] := by rfl) (hbase : attributeBase o "split" X.env (eval o X.env) = eval o X.env := by rfl) (hline : (apos.endLine == pos.line) = true := by rfl) :
    PE X (.Call (.Attribute o "split" apos) [a] [] pos) (rdF X.K L T W (.mb .split eo ea)) :=
  (pe_m1 slot ty (mt_mbF L) ho ha hs hbase hline).imp fun σ H Q ⟨F, G, am, om, sl, M, S, pp⟩ => ⟨F, G, am, om, sl, M, S, pp.bind fun dx om1 x H1 G1 am1 g1 M1 rx p1 => by
    split at p1
    · rename_i s
      cases rx.str
      exact ⟨⟨s, rfl⟩, F, G1, am1, om1, sl, M1, S.grow g1, p1.bind fun dy om2 y H2 G2 am2 g2 M2 ry p2 => ⟨F, G2, am2, om2, s, dy, y, _, rfl, rfl, M2, ry, p2⟩⟩
    · exact p1.elim⟩
/-! ### f-strings -/
theorem pE_fmt {pos : Pos} (ha : PE X a (rdB X.K L T W ea)) : PE X (.FormattedValue a (-1) none pos) (fun σ H Q => ∃ F G am om sl, Mem X.K L F G am om H ∧ SlR X.K L F G am sl σ ∧ Post X.K L (fun _ _ (s : Str) v => v = .str s) F G am ((evE T ea sl om).bind fun x om => fmt T x om) (fun cv dd H => W cv dd σ H) Q) :=
  (pe_fmt ha).imp fun σ H Q ⟨F, G, am, om, sl, M, S, pp⟩ => ⟨F, G, am, om, sl, M, S, pp.bind fun d om1 v H1 G1 am1 g1 M1 r1 p1 => by
    unfold fmt at p1
    split at p1
    · cases r1.str
      split at p1
      · rename_i hz
        exact .inl ⟨_, rfl, sz_le hz, p1 _ H1 G1 am1 Grow.refl M1 rfl⟩
      · exact p1.elim
    · cases r1.int
      split at p1
      · rename_i hz
        exact .inr ⟨_, rfl, hz, p1 _ H1 G1 am1 Grow.refl M1 rfl⟩
      · exact p1.elim
    · exact p1.elim⟩

/-- a part of an f-string -/
abbrev rdP (K : PySem.W.Frag) (L : Lk) (T : Tb) (W : WX) (ee : E) : TE := fun σ H Q => ∃ F G am om sl, Mem K L F G am om H ∧ SlR K L F G am sl σ ∧ Post K L (fun _ _ (s : Str) v => v = .str s) F G am ((evE T ee sl om).bind fun x om => fmt T x om) (fun cv dd H => W cv dd σ H) Q
theorem pP_str {x : Str} {k : Nat} {pos : Pos} : PE X (.Constant (.str x) k pos) (rdP X.K L T W (.k (.str x))) :=
  pe_str.imp fun σ H Q ⟨F, G, am, om, sl, M, S, pp⟩ => by
    have e : ((evE T (.k (.str x)) sl om).bind fun x om => fmt T x om) = if x.length ≤ 1000000 then .ok x om else .stuck := rfl
    rw [e] at pp
    split at pp
    · exact pp _ H G am Grow.refl M rfl
    · exact pp.elim
def PJr (X : Cx) (L : Lk) (T : Tb) (W : WX) (es : List Expr) (ee : E) : Prop := ∃ ts, PJ X es ts ∧ ∀ (acc : Str) σ H (Q : Str → Hp → Prop), (∃ F G am om sl, Mem X.K L F G am om H ∧ SlR X.K L F G am sl σ ∧ Post X.K L (fun _ _ (s : Str) v => v = s) F G am (evJ T ee acc sl om) (fun cv dd H => W cv dd σ H) Q) → tJs ts acc σ H Q
theorem pJ_nil : PJr X L T W [] .nil := ⟨[], .nil, fun acc σ H Q ⟨F, G, am, om, sl, M, S, pp⟩ => pp acc H G am Grow.refl M rfl⟩
theorem rs_assoc {α β γ : Type} (r : Rs α) (f : α → Om → Rs β) (g : β → Om → Rs γ) : (r.bind fun x om => (f x om).bind g) = (r.bind f).bind g := by cases r <;> rfl
theorem pJ_cons {e : Expr} {es : List Expr} {ea er : E} (h : PE X e (rdP X.K L T W ea)) (hr : PJr X L T W es er) : PJr X L T W (e :: es) (.cons ea er) := by
  obtain ⟨ts, hj, ht⟩ := hr
  refine ⟨_, .cons h hj, fun acc σ H Q ⟨F, G, am, om, sl, M, S, pp⟩ => ⟨F, G, am, om, sl, M, S, ?_⟩⟩
  have e : evJ T (.cons ea er) acc sl om = ((evE T ea sl om).bind fun x om => fmt T x om).bind fun y om => if (acc ++ y).length ≤ 1000000 then evJ T er (acc ++ y) sl om else .stuck := by
    rw [evJ, ← rs_assoc]
  rw [e] at pp
  refine pp.bind fun y om1 v H1 G1 am1 g1 M1 r1 p1 => ?_
  split at p1
  · rename_i hz
    exact ⟨y, r1, sz_le hz, ht _ σ H1 Q ⟨F, G1, am1, om1, sl, M1, S.grow g1, p1⟩⟩
  · exact p1.elim
theorem empty_eq : (Str.empty : Str) = ⟨#[]⟩ := rfl
theorem pE_fstr {v1 v2 : Expr} {rest : List Expr} {er : E} {pos : Pos} (h : PJr X L T W (v1 :: v2 :: rest) er) : PE X (.JoinedStr (v1 :: v2 :: rest) pos) (rdE X.K L T W (.fstr er)) := by
  obtain ⟨ts, hj, ht⟩ := h
  refine (pe_joined hj).imp fun σ H Q ⟨F, G, am, om, sl, M, S, pp⟩ => ht _ σ H _ ⟨F, G, am, om, sl, M, S, ?_⟩
  have e : evE T (.fstr er) sl om = (evJ T er (⟨#[]⟩ : Str) sl om).bind fun s om => .ok (.str s) om := by rw [evE]
  rw [e] at pp
  exact pp.bind fun s om1 v H1 G1 am1 g1 M1 r1 p1 => by
    rw [r1]
    exact p1 _ H1 G1 am1 Grow.refl M1 (.str s)
end
end PD

set_option Elab.async false
set_option linter.all false
set_option maxRecDepth 100000
set_option maxHeartbeats 400000
/-! PDI: what loops walk; targets; list comprehensions. -/
namespace PD
open PySem PySem.Spec PyProof.Rows L2
/-! ### what is walked -/
structure Yl (K : PySem.W.Frag) (L : Lk) (P : Hp → Prop) (G : Hp) (am : List Addr) (J : It) (ds : List D) : Prop where
  go : ∀ (i : Nat) (d : D) F' G' am' om' H', ds[i]? = some d → P F' → Grow G am G' am' → Mem K L F' G' am' om' H' → J.go i H' ∧ ∀ x H3, J.yld i H' x H3 → ∃ G3, Grow G' am' G3 am' ∧ Mem K L F' G3 am' om' H3 ∧ Rep K L G3 am' d x
  stop : ∀ F' G' am' om' H', P F' → Grow G am G' am' → Mem K L F' G' am' om' H' → J.stop ds.length H'
def PostI (K : PySem.W.Frag) (L : Lk) (P : Hp → Hp → Prop) (F G : Hp) (am : List Addr) (r : Rs (List D)) (E : XK) (R : It → Hp → Prop) : Prop := match r with
  | .stuck => False
  | .ok ds om' => ∀ J H' G' am', Grow G am G' am' → Mem K L F G' am' om' H' → Yl K L (P F) G' am' J ds → R J H'
  | .exc c fs om' => ∀ cv dd H' G' am', Grow G am G' am' → Mem K L F G' am' om' H' → ExcR K L G' am' c fs cv dd → E cv dd H'
/-- any others' objects | at least those of the entry -/
def pAny : Hp → Hp → Prop := fun _ _ => True
def rdI (K : PySem.W.Frag) (L : Lk) (T : Tb) (W : WX) (P : Hp → Hp → Prop) (e : E) : TI := fun σ H R => ∃ F G am om sl, Mem K L F G am om H ∧ SlR K L F G am sl σ ∧ PostI K L P F G am (evI T e sl om) (fun cv dd H => W cv dd σ H) R
section
variable {K : PySem.W.Frag} {L : Lk} {F F' G G' H : Hp} {am am' : List Addr} {om : Om} {E : XK} {R : It → Hp → Prop}
theorem PostI.grow {P : Hp → Hp → Prop} {r : Rs (List D)} (g : Grow G am G' am') (h : PostI K L P F G am r E R) : PostI K L P F G' am' r E R := by
  cases r with
  | stuck => exact h
  | ok a om' => exact fun J H' G'' am'' g' => h J H' G'' am'' (g.trans g')
  | exc c fs om' => exact fun cv dd H' G'' am'' g' => h cv dd H' G'' am'' (g.trans g')
theorem PostI.bind {P : Hp → Hp → Prop} {α β : Type} {Rr : Hp → List Addr → α → β → Prop} {r : Rs α} {Q : β → Hp → Prop} {f : α → Om → Rs (List D)} (h : PostI K L P F G am (r.bind f) E R)
    (k : ∀ a om1 b H1 G1 am1, Grow G am G1 am1 → Mem K L F G1 am1 om1 H1 → Rr G1 am1 a b → PostI K L P F G1 am1 (f a om1) E R → Q b H1) : Post K L Rr F G am r E Q := by
  cases r with
  | stuck => exact h
  | ok a om1 => exact fun b H1 G1 am1 g M rr => k a om1 b H1 G1 am1 g M rr (PostI.grow g h)
  | exc c fs om1 => exact h
theorem SqL.inj2 {K : PySem.W.Frag} {H : Hp} {a : Addr} {xs ys : List V} (h : H a = some (.lst xs)) (h' : SqL K H a ys) (hk : ∀ o, K.lookup a ≠ some o) : ys = xs := by
  rcases h' with (h' | ⟨o, h'⟩) | ⟨o, _, _, h', _⟩
  · rw [h] at h'; cases h'; rfl
  · rw [h] at h'; cases h'
  · exact absurd h' (hk o)
end
section
variable {X : Cx} {L : Lk} {p : Prog} {fi : Nat → FI} {n wf : Nat} {W : WX} {T : Tb} {a b c e o iter tg elt : Expr} {es : List Expr} {ea eb ec eo er : E} {pos apos cpos spos : Pos}
/-- a list at a, for good or held alone -/
theorem yl_list {K : PySem.W.Frag} {P : Hp → Prop} {G : Hp} {am : List Addr} {q : Addr} {ds : List D} {vs : List V} (h : ∀ F' G' am' om' H', P F' → Grow G am G' am' → Mem K L F' G' am' om' H' → SqL K H' q vs) (r : RepL K L G am ds vs) : Yl K L P G am (Itl K q) ds := by
  refine ⟨fun i d F' G' am' om' H' hd hP g M => ?_, fun F' G' am' om' H' hP g M => ⟨vs, h _ _ _ _ _ hP g M, by rw [← r.length]; exact Nat.le_refl _⟩⟩
  obtain ⟨v, hv, rv⟩ := r.get hd
  refine ⟨⟨vs, v, h _ _ _ _ _ hP g M, hv⟩, fun x H3 hy => ?_⟩
  obtain ⟨rfl, hx⟩ := hy
  have e := hx vs (h _ _ _ _ _ hP g M)
  rw [hv] at e
  cases e
  exact ⟨G', Grow.refl, M, rv.up g⟩
theorem yl_tup {K : PySem.W.Frag} {P : Hp → Prop} {G : Hp} {am : List Addr} {q : Addr} {ds : List D} {vs : List V} (h : G q = some (.tup vs)) (r : RepL K L G am ds vs) : Yl K L P G am (Itt K q) ds := by
  refine ⟨fun i d F' G' am' om' H' hd hP g M => ?_, fun F' G' am' om' H' hP g M => ⟨vs, SqT.of (M.gH _ _ (g.ex _ _ h)), by rw [← r.length]; exact Nat.le_refl _⟩⟩
  obtain ⟨v, hv, rv⟩ := r.get hd
  refine ⟨⟨vs, v, SqT.of (M.gH _ _ (g.ex _ _ h)), hv⟩, fun x H3 hy => ?_⟩
  obtain ⟨rfl, hx⟩ := hy
  have e := hx vs (SqT.of (M.gH _ _ (g.ex _ _ h)))
  rw [hv] at e
  cases e
  exact ⟨G', Grow.refl, M, rv.up g⟩
theorem yl_str {K : PySem.W.Frag} {P : Hp → Prop} {G : Hp} {am : List Addr} (s : Str) : Yl K L P G am (Its s) (s.cps.toList.map fun c => .str ⟨#[c]⟩) := by
  refine ⟨fun i d F' G' am' om' H' hd hP g M => ?_, fun F' G' am' om' H' hP g M => by rw [List.length_map, Array.length_toList]; exact Nat.le_refl s.cps.size⟩
  rw [List.getElem?_map] at hd
  cases q : s.cps.toList[i]? with
  | none => rw [q] at hd; cases hd
  | some c =>
    rw [q] at hd
    cases hd
    have hi : i < s.cps.size := by
      have := (List.getElem?_eq_some_iff.mp q).1
      rwa [Array.length_toList] at this
    refine ⟨hi, fun x H3 hy => ?_⟩
    obtain ⟨rfl, c', hc', rfl⟩ := hy
    have e : c' = c := by
      rw [Array.getElem?_toList] at q
      rw [q] at hc'
      exact (Option.some.inj hc').symm
    subst e
    exact ⟨G', Grow.refl, M, .str _⟩
/-- a list, a tuple, a text: read for a moment -/
theorem pI_b (ha : PE X iter (rdB X.K L T W ea)) : PI X tg iter (rdI X.K L T W Ex (.itl ea)) :=
  ((pi_list ha).alt ((pi_tup ha).alt (pi_str ha))).imp fun σ H R ⟨F, G, am, om, sl, M, S, pp⟩ => by
    cases q : evE T ea sl om with
    | stuck =>
      simp only [evI, q, bind_stuck] at pp
      exact pp.elim
    | exc c fs om1 =>
      refine .inl ⟨F, G, am, om, sl, M, S, ?_⟩
      simp only [evI, q, bind_exc] at pp
      rw [q]
      exact pp
    | ok d om1 =>
      simp only [evI, q, bind_ok] at pp
      cases d with
      | lst ds =>
        refine .inl ⟨F, G, am, om, sl, M, S, ?_⟩
        rw [q]
        intro v H1 G1 am1 g1 M1 r1
        rcases r1 with r1 | ⟨a', vs, ds', e1, rfl, hF, ra⟩
        · cases r1 with
          | lst h r =>
            exact ⟨_, rfl, ⟨_, SqL.of (M1.gH _ _ h)⟩, pp _ H1 G1 am1 g1 M1 (yl_list (fun F' G' am' om' H' _ g M' => SqL.of (M'.gH _ _ (g.ex _ _ h))) r)⟩
        · cases e1
          exact ⟨_, rfl, ⟨_, SqL.of (M1.fH _ _ hF)⟩, pp _ H1 G1 am1 g1 M1 (yl_list (fun F' G' am' om' H' hP g M' => SqL.of (M'.fH _ _ (hP _ _ hF))) ra)⟩
      | scr ds =>
        refine .inl ⟨F, G, am, om, sl, M, S, ?_⟩
        rw [q]
        intro v H1 G1 am1 g1 M1 r1
        obtain ⟨a', vs, rfl, h, r⟩ := r1.scr
        exact ⟨_, rfl, ⟨_, sqL_ex M1.gH h⟩, pp _ H1 G1 am1 g1 M1 (yl_list (fun F' G' am' om' H' _ g M' => sqL_ex (g.ex.trans M'.gH) h) r)⟩
      | tup ds =>
        refine .inr (.inl ⟨F, G, am, om, sl, M, S, ?_⟩)
        rw [q]
        intro v H1 G1 am1 g1 M1 r1
        obtain ⟨a', vs, rfl, h, r⟩ := r1.tup
        exact ⟨_, rfl, ⟨_, SqT.of (M1.gH _ _ h)⟩, pp _ H1 G1 am1 g1 M1 (yl_tup h r)⟩
      | str s =>
        refine .inr (.inr ⟨F, G, am, om, sl, M, S, ?_⟩)
        rw [q]
        intro v H1 G1 am1 g1 M1 r1
        cases r1.str
        exact ⟨s, rfl, pp _ H1 G1 am1 g1 M1 (yl_str s)⟩
      | non => exact pp.elim
      | bl _ => exact pp.elim
      | int _ => exact pp.elim
      | obj _ _ => exact pp.elim
      | amb _ => exact pp.elim
theorem pI_e (ha : PE X iter (rdE X.K L T W ea)) : PI X tg iter (rdI X.K L T W pAny (.itl ea)) :=
  ((pi_list ha).alt ((pi_tup ha).alt (pi_str ha))).imp fun σ H R ⟨F, G, am, om, sl, M, S, pp⟩ => by
    cases q : evE T ea sl om with
    | stuck =>
      simp only [evI, q, bind_stuck] at pp
      exact pp.elim
    | exc c fs om1 =>
      refine .inl ⟨F, G, am, om, sl, M, S, ?_⟩
      simp only [evI, q, bind_exc] at pp
      rw [q]
      exact pp
    | ok d om1 =>
      simp only [evI, q, bind_ok] at pp
      cases d with
      | lst ds =>
        refine .inl ⟨F, G, am, om, sl, M, S, ?_⟩
        rw [q]
        intro v H1 G1 am1 g1 M1 r1
        cases r1 with
        | lst h r =>
          exact ⟨_, rfl, ⟨_, SqL.of (M1.gH _ _ h)⟩, pp _ H1 G1 am1 g1 M1 (yl_list (fun F' G' am' om' H' _ g M' => SqL.of (M'.gH _ _ (g.ex _ _ h))) r)⟩
      | scr ds =>
        refine .inl ⟨F, G, am, om, sl, M, S, ?_⟩
        rw [q]
        intro v H1 G1 am1 g1 M1 r1
        cases r1 with
        | scr h r =>
          exact ⟨_, rfl, ⟨_, sqL_ex M1.gH h⟩, pp _ H1 G1 am1 g1 M1 (yl_list (fun F' G' am' om' H' _ g M' => sqL_ex (g.ex.trans M'.gH) h) r)⟩
      | tup ds =>
        refine .inr (.inl ⟨F, G, am, om, sl, M, S, ?_⟩)
        rw [q]
        intro v H1 G1 am1 g1 M1 r1
        cases r1 with
        | tup h r =>
          exact ⟨_, rfl, ⟨_, SqT.of (M1.gH _ _ h)⟩, pp _ H1 G1 am1 g1 M1 (yl_tup h r)⟩
      | str s =>
        refine .inr (.inr ⟨F, G, am, om, sl, M, S, ?_⟩)
        rw [q]
        intro v H1 G1 am1 g1 M1 r1
        cases r1
        exact ⟨s, rfl, pp _ H1 G1 am1 g1 M1 (yl_str s)⟩
      | non => exact pp.elim
      | bl _ => exact pp.elim
      | int _ => exact pp.elim
      | obj _ _ => exact pp.elim
      | amb _ => exact pp.elim
theorem yl_range {K : PySem.W.Frag} {P : Hp → Prop} {G : Hp} {am : List Addr} (lo : Int) (m : Nat) : Yl K L P G am (Itr lo m) ((List.range m).map fun (k : Nat) => .int (lo + k)) := by
  refine ⟨fun i d F' G' am' om' H' hd hP g M => ?_, fun F' G' am' om' H' hP g M => by rw [List.length_map, List.length_range]; exact Nat.le_refl m⟩
  rw [List.getElem?_map] at hd
  cases q : (List.range m)[i]? with
  | none => rw [q] at hd; cases hd
  | some c =>
    rw [q] at hd
    cases hd
    have hi : i < m := by
      have := (List.getElem?_eq_some_iff.mp q).1
      rwa [List.length_range] at this
    have ec : c = i := by
      rw [List.getElem?_range hi] at q
      exact (Option.some.inj q).symm
    subst ec
    refine ⟨hi, fun x H3 hy => ?_⟩
    obtain ⟨rfl, rfl⟩ := hy
    exact ⟨G', Grow.refl, M, .int _⟩
theorem pI_rng1 {P : Hp → Hp → Prop} {pp : Pos} (hg : Gl X "range") (hm : X.mg "range" = none) (ha : PE X a (rdB X.K L T W ea)) (hs : starEach [a] X.env = [(false, eval a X.env)] := by rfl) : PI X tg (.Call (.Name "range" pp) [a] [] pos) (rdI X.K L T W P (.rng1 ea)) :=
  (pi_range1 hg hm (pA1 ha hs) hs).imp fun σ H R ⟨F, G, am, om, sl, M, S, pp⟩ => ⟨F, G, am, om, sl, M, S, PostI.bind pp fun d om1 v H1 G1 am1 g1 M1 r1 p1 => by
    split at p1
    · cases r1.int
      split at p1
      · rename_i hz
        refine ⟨_, rfl, hz.1, hz.2, p1 _ H1 G1 am1 Grow.refl M1 ?_⟩
        have z := yl_range (K := X.K) (L := L) (P := P F) (G := G1) (am := am1) 0 (Int.toNat ‹Int›)
        simpa using z
      · exact p1.elim
    · exact p1.elim⟩
theorem pI_rng2 {P : Hp → Hp → Prop} {pp : Pos} (hg : Gl X "range") (hm : X.mg "range" = none) (ha : PE X a (rdB X.K L T W ea)) (hb : PE X b (rdB X.K L T W eb)) (hs : starEach [a, b] X.env = [(false, eval a X.env), (false, eval b X.env)] := by rfl) (hs2 : starEach [b] X.env = [(false, eval b X.env)] := by rfl) :
    PI X tg (.Call (.Name "range" pp) [a, b] [] pos) (rdI X.K L T W P (.rng2 ea eb)) :=
  (pi_range2 hg hm (pa_cons ha (pA1 hb hs2) (by rw [hs, hs2])) hs hs2).imp fun σ H R ⟨F, G, am, om, sl, M, S, pp⟩ => ⟨F, G, am, om, sl, M, S, PostI.bind pp fun d om1 v H1 G1 am1 g1 M1 r1 p1 => ⟨F, G1, am1, om1, sl, M1, S.grow g1, PostI.bind p1 fun d2 om2 v2 H2 G2 am2 g2 M2 r2 p2 => by
    split at p2
    · cases (r1.up g2).int
      cases r2.int
      split at p2
      · rename_i hz
        exact ⟨_, _, rfl, ⟨hz.1.1, hz.1.2, hz.2.1, hz.2.2⟩, p2 _ H2 G2 am2 Grow.refl M2 (yl_range _ _)⟩
      · exact p2.elim
    · exact p2.elim⟩⟩
/-! ### targets -/
theorem wipe_set {σ : L2.St} {i : Nat} {o : Option V} : ∀ {vs : List Nat}, i ∈ vs → wipe (σ.set i o) vs = wipe σ vs
  | v :: vs, h => by
    show (wipe (σ.set i o) vs).set v none = (wipe σ vs).set v none
    by_cases c : i ∈ vs
    · rw [wipe_set c]
    · have e : i = v := by
        cases h with
        | head => rfl
        | tail _ h => exact absurd h c
      subst e
      have z : ∀ (us : List Nat), i ∉ us → wipe (σ.set i o) us = (wipe σ us).set i o := by
        intro us
        induction us with
        | nil => intro _; rfl
        | cons u us ih =>
          intro hn
          show (wipe (σ.set i o) us).set u none = ((wipe σ us).set u none).set i o
          rw [ih (fun m => hn (List.mem_cons_of_mem _ m)), List.set_comm _ _ (fun q => hn (by rw [q]; exact List.mem_cons_self))]
      rw [z vs c, List.set_set]
structure TgOk (K : PySem.W.Frag) (L : Lk) (g : TG) (tg : Tg) : Prop where
  run : ∀ F G am om H sl σ d x sl' Q, Mem K L F G am om H → SlR K L F G am sl σ → Rep K L G am d x → setT sl tg d = some sl' → (∀ σ', SlR K L F G am sl' σ' → (∀ vs, (∀ i ∈ tgIx tg, i ∈ vs) → wipe σ' vs = wipe σ vs) → Q σ' H) → g x σ H Q
theorem tg_one {K : PySem.W.Frag} {i : Nat} : TgOk K L (gName i) (.one i) := ⟨fun F G am om H sl σ d x sl' Q M S r h k => by
  cases h
  exact k _ (S.set ⟨x, rfl, r⟩) fun vs hv => wipe_set (hv i (List.mem_singleton.mpr rfl))⟩
structure TgsOk (K : PySem.W.Frag) (L : Lk) (g : TGs) (is : List Nat) : Prop where
  run : ∀ F G am om H sl σ ds xs Q, Mem K L F G am om H → SlR K L F G am sl σ → RepL K L G am ds xs → ds.length = is.length → (∀ σ', SlR K L F G am (sets sl is ds) σ' → (∀ vs, (∀ i ∈ is, i ∈ vs) → wipe σ' vs = wipe σ vs) → Q σ' H) → g xs σ H Q
theorem tgs_nil {K : PySem.W.Frag} : TgsOk K L gNil [] := ⟨fun F G am om H sl σ ds xs Q M S r h k => by
  cases r with
  | nil => exact ⟨rfl, k σ S fun _ _ => rfl⟩
  | cons _ _ => cases h⟩
theorem tgs_cons {K : PySem.W.Frag} {i : Nat} {is : List Nat} {g : TGs} (h : TgsOk K L g is) : TgsOk K L (gCons (gName i) g) (i :: is) := ⟨fun F G am om H sl σ ds xs Q M S r hl k => by
  cases r with
  | nil => cases hl
  | @cons d v ds vs hd r =>
    refine ⟨v, vs, rfl, h.run F G am om H (sl.set i (.val d)) _ ds vs Q M (S.set ⟨v, rfl, hd⟩) r (by simpa using hl) fun σ' S' hw => k σ' S' fun us hu => ?_⟩
    rw [hw us (fun j hj => hu j (List.mem_cons_of_mem _ hj)), wipe_set (hu i List.mem_cons_self)]⟩
theorem tg_many {K : PySem.W.Frag} {is : List Nat} {g : TGs} (h : TgsOk K L g is) : TgOk K L (gTup K is.length g) (.many is) := ⟨fun F G am om H sl σ d x sl' Q M S r hs k => by
  cases d with
  | tup ds =>
    simp only [setT] at hs
    split at hs
    · rename_i hl
      cases hs
      cases r with
      | tup ht r =>
        exact ⟨_, _, rfl, SqT.of (M.gH _ _ ht), by rw [← r.length]; exact hl, h.run F G am om H sl σ ds _ Q M S r hl k⟩
    · cases hs
  | _ => cases hs⟩
theorem SlR.monoF {K : PySem.W.Frag} {F F' G : Hp} {am : List Addr} {sl : Sl} {σ : L2.St} (e : Ex F F') (h : SlR K L F G am sl σ) : SlR K L F' G am sl σ := ⟨h.1, fun i c o a b => by
  have z := h.2 i c o a b
  cases c with
  | no => trivial
  | val d => exact z
  | own ds =>
    obtain ⟨a, vs, e1, f, r⟩ := z
    exact ⟨a, vs, e1, e _ _ f, r⟩
  | newo c fs =>
    obtain ⟨a, dx, vs, e1, f, n, r⟩ := z
    exact ⟨a, dx, vs, e1, e _ _ f, n, r⟩
  | exn => exact z⟩
theorem SlR.wipe {K : PySem.W.Frag} {F G : Hp} {am : List Addr} {sl : Sl} {σ : L2.St} (h : SlR K L F G am sl σ) : ∀ vs : List Nat, SlR K L F G am (wipeS sl vs) (L2.wipe σ vs)
  | [] => h
  | v :: vs => (SlR.wipe h vs).set trivial
theorem wipe_get : ∀ (vs : List Nat) (σ : L2.St) (i : Nat), (L2.wipe σ vs)[i]? = if i ∈ vs then (σ[i]?).map (fun _ => none) else σ[i]?
  | [], σ, i => by simp [L2.wipe]
  | v :: vs, σ, i => by
    show ((L2.wipe σ vs).set v none)[i]? = _
    by_cases c : v = i
    · subst c
      rw [if_pos List.mem_cons_self, List.getElem?_set]
      rw [if_pos rfl]
      by_cases h : v < (L2.wipe σ vs).length
      · rw [if_pos h]
        have h2 : v < σ.length := by rwa [wipe_length] at h
        rw [List.getElem?_eq_getElem h2]
        rfl
      · rw [if_neg h]
        have h2 : ¬ v < σ.length := by rwa [wipe_length] at h
        rw [List.getElem?_eq_none (by omega)]
        rfl
    · rw [List.getElem?_set_ne c, wipe_get vs σ i]
      by_cases h : i ∈ vs
      · rw [if_pos h, if_pos (List.mem_cons_of_mem _ h)]
      · rw [if_neg h, if_neg (fun z => by
          cases z with
          | head => exact c rfl
          | tail _ z => exact h z)]
theorem wipe_wipe (vs : List Nat) (σ : L2.St) : L2.wipe (L2.wipe σ vs) vs = L2.wipe σ vs := by
  apply List.ext_getElem?
  intro i
  rw [wipe_get, wipe_get]
  by_cases h : i ∈ vs
  · rw [if_pos h, if_pos h]
    cases σ[i]? <;> rfl
  · rw [if_neg h, if_neg h]
theorem compGo_noexc {ct : Sl → Om → Rs Bool} {el : Sl → Om → Rs D} {t : Tg} {sl : Sl} : ∀ {ds : List D} {om : Om} {c : Nat} {fs : List D} {om' : Om}, compGo ct el t sl ds om ≠ .exc c fs om'
  | [], om, c, fs, om', h => by simp [compGo] at h
  | d :: ds, om, c, fs, om', h => by
    simp only [compGo] at h
    split at h
    · cases h
    · split at h
      · split at h
        · split at h
          · cases h
          · cases h
        · cases h
      · exact compGo_noexc h
      · cases h
/-! ### list comprehensions -/
abbrev W0 : WX := fun _ _ _ _ => False
theorem post_ok {α β : Type} {K : PySem.W.Frag} {R : Hp → List Addr → α → β → Prop} {F G : Hp} {am : List Addr} {a : α} {om' : Om} {r : Rs α} {E : XK} {Q : β → Hp → Prop} (e : r = .ok a om') (h : ∀ b H' G' am', Grow G am G' am' → Mem K L F G' am' om' H' → R G' am' a b → Q b H') : Post K L R F G am r E Q := by
  rw [e]
  exact h
theorem lc_of {g : TG} {tt : TT} {t : Tg} {it cond el : E} (hT : TgOk X.K L g t) (htt : ∀ σ H Q, rdT X.K L T W0 cond σ H Q → tt σ H Q) (σ : L2.St) (H : Hp) (Q : VK) (h : rdF X.K L T W (.comp t it cond el) σ H Q) :
    tLc (rdI X.K L T W Ex it) g tt (rdE X.K L T W0 el) (tgIx t) σ H Q := by
  obtain ⟨F, G, am, om, sl, M, S, pp⟩ := h
  refine ⟨F, G, am, om, sl, M, S, ?_⟩
  simp only [evE] at pp
  cases q : evI T it sl om with
  | stuck => rw [q] at pp; exact pp
  | exc c fs om1 => rw [q] at pp; exact pp
  | ok ds om1 =>
    rw [q, bind_ok] at pp
    intro J H1 G1 am1 g1 M1 Y Da hDa
    split at pp
    · rename_i hlen
      cases q2 : compGo (fun sl om => (evE T cond sl om).bind fun x om => tru x om) (evE T el) t (wipeS sl (tgIx t)) ds om1 with
      | stuck => rw [q2] at pp; exact pp.elim
      | exc c fs om2 => 
        exact absurd q2 compGo_noexc
      | ok tot omf =>
        rw [q2, bind_ok] at pp
        obtain ⟨tot', et, pp⟩ := pp
        cases et
        have hF0 : F Da = none := M1.none_f hDa
        have eF : ∀ o, Ex F (upd F Da o) := fun o => Ex.new hF0
        refine ⟨fun i m H' => m = ds.length - i ∧ i ≤ ds.length ∧ ∃ G' am' om' acc xs ys, Grow G1 am1 G' am' ∧ Mem X.K L (upd F Da (.lst acc)) G' am' om' H' ∧ RepL X.K L G' am' xs acc ∧ acc.length ≤ i ∧
          compGo (fun sl om => (evE T cond sl om).bind fun x om => tru x om) (evE T el) t (wipeS sl (tgIx t)) (ds.drop i) om' = .ok ys omf ∧ xs ++ ys = tot, ⟨ds.length, by omega, by omega, G1, am1, om1, [], [], tot, Grow.refl, M1.newF hDa, .nil, Nat.le_refl _, by rw [List.drop_zero]; exact q2, rfl⟩, ?_⟩
        rintro i m H' ⟨hm, hi', G', am', om', acc, xs, ys, g', M', rx, hacc, hgo, htot⟩
        by_cases hlt : i < ds.length
        · right
          have hd : ds[i]? = some ds[i] := List.getElem?_eq_getElem hlt
          obtain ⟨ygo, yyl⟩ := Y.go i ds[i] _ G' am' om' H' hd (eF _) g' M'
          refine ⟨ygo, _, fun H'' hn => ⟨ds.length - (i + 1), by omega, hn⟩, fun x H3 hy => ?_⟩
          obtain ⟨G3, g3, M3, r3⟩ := yyl x H3 hy
          rw [List.drop_eq_getElem_cons hlt] at hgo
          simp only [compGo] at hgo
          split at hgo
          · cases hgo
          · rename_i sl' hset
            have S0 : SlR X.K L (upd F Da (.lst acc)) G3 am' (wipeS sl (tgIx t)) (L2.wipe σ (tgIx t)) := (((S.monoF (eF _)).grow g1).grow (g'.trans g3)).wipe _
            refine hT.run _ G3 am' om' H3 _ _ ds[i] x sl' _ M3 S0 r3 hset fun σ2 S2 hw => ⟨?_, ?_⟩
            · rw [hw (tgIx t) (fun _ h => h), wipe_wipe]
            · refine htt σ2 H3 _ ⟨_, G3, am', om', sl', M3, S2, ?_⟩
              have eT : ((evE T cond sl' om').bind fun x om => tru x om) = evT T cond sl' om' := rfl
              rw [eT] at hgo
              cases q3 : evT T cond sl' om' with
              | stuck => rw [q3] at hgo; cases hgo
              | exc c fs om3 => rw [q3] at hgo; cases hgo
              | ok bb om3 =>
                rw [q3] at hgo
                intro b' H4 G4 am4 g4 M4 e4
                cases e4
                cases bb with
                | true =>
                  rw [if_pos rfl]
                  dsimp only at hgo
                  cases q4 : evE T el sl' om3 with
                  | stuck => rw [q4] at hgo; cases hgo
                  | exc c fs om4 => rw [q4] at hgo; cases hgo
                  | ok y om4 =>
                    rw [q4] at hgo
                    dsimp only at hgo
                    split at hgo
                    · rename_i ys' om5 q5
                      cases hgo
                      refine ⟨_, G4, am4, om3, sl', M4, S2.grow g4, post_ok q4 fun v H5 G5 am5 g5 M5 r5 => ?_⟩
                      refine ⟨acc, M5.fH _ _ upd_same, sz_lt (by omega), rfl, hlt, G5, am5, om4, acc ++ [v], xs ++ [y], ys', g'.trans (g3.trans (g4.trans g5)), ?_, (rx.up (g3.trans (g4.trans g5))).append (.cons r5 .nil), by rw [List.length_append]; simpa using hacc, q5, by rw [List.append_assoc]; exact htot⟩
                      have z := M5.setF (u := .lst (acc ++ [v])) upd_same
                      rw [upd_upd] at z
                      exact z
                    · cases hgo
                | false =>
                  rw [if_neg (by decide)]
                  dsimp only at hgo
                  exact ⟨rfl, hlt, G4, am4, om3, acc, xs, ys, g'.trans (g3.trans g4), M4, rx.up (g3.trans g4), by omega, hgo, htot⟩
        · left
          have e : i = ds.length := by omega
          subst e
          rw [List.drop_length] at hgo
          simp only [compGo] at hgo
          cases hgo
          rw [List.append_nil] at htot
          subst htot
          exact ⟨Y.stop _ G' am' _ H' (eF _) g' M', pp Da acc H' G' am' (g1.trans g') hF0 M' rx⟩
    · exact pp.elim
theorem comp_lst {t : Tg} {it cond el : E} (sl : Sl) (om : Om) (d : D) (om' : Om) (h : evE T (.comp t it cond el) sl om = .ok d om') : ∃ ds, d = .lst ds := by
  simp only [evE] at h
  cases q : evI T it sl om with
  | stuck => rw [q] at h; cases h
  | exc c fs om1 => rw [q] at h; cases h
  | ok ds om1 =>
    rw [q, bind_ok] at h
    split at h
    · generalize compGo _ _ _ _ _ _ = r at h
      cases r with
      | stuck => cases h
      | exc c fs om2 => cases h
      | ok xs om2 => cases h; exact ⟨_, rfl⟩
    · cases h
theorem lc_ofE {g : TG} {tt : TT} {t : Tg} {it cond el : E} (hT : TgOk X.K L g t) (htt : ∀ σ H Q, rdT X.K L T W0 cond σ H Q → tt σ H Q) (σ : L2.St) (H : Hp) (Q : VK) (h : rdE X.K L T W (.comp t it cond el) σ H Q) :
    tLc (rdI X.K L T W Ex it) g tt (rdE X.K L T W0 el) (tgIx t) σ H Q := lc_of hT htt σ H Q (rdE_F comp_lst h)
theorem pF_comp {ifs : List Expr} {scope : Scope} {own : List (Str × Nat)} {g : TG} {tt : TT} {t : Tg} {it cond el : E} (hc : X.calm = true) (hN : X.N.Nodup) (hi : PI X tg iter (rdI X.K L T W Ex it)) (ok : BlkOk X.N X.env.scope scope own) (ho : own.map (·.2) = tgIx t) (hT : TgOk X.K L g t)
    (htt : ∀ σ H Q, rdT X.K L T W0 cond σ H Q → tt σ H Q)
    (hg : ∀ (s : Shared) (H : Hp) (C : Addr) (cl : List (Str × Addr)) (fp : List Addr), PG (X.blk s H scope (compEnvC scope cl C X.env) fp) tg g)
    (ht : ∀ (s : Shared) (H : Hp) (C : Addr) (cl : List (Str × Addr)) (fp : List Addr), PTs (X.blk s H scope (compEnvC scope cl C X.env) fp) ifs tt)
    (he : ∀ (s : Shared) (H : Hp) (C : Addr) (cl : List (Str × Addr)) (fp : List Addr), PE (X.blk s H scope (compEnvC scope cl C X.env) fp) elt (rdE X.K L T W0 el)) (hs : ∀ x, foldedSetIterable iter X.env x = pure x := by intro _; rfl) :
    PE X (.ListComp elt [⟨tg, iter, ifs, 0⟩] scope pos) (rdF X.K L T W (.comp t it cond el)) :=
  (pe_lc hc hN hi ok hg ht he hs).imp fun σ H Q h => by
    rw [ho]
    exact lc_of hT htt σ H Q h
theorem pE_comp {ifs : List Expr} {scope : Scope} {own : List (Str × Nat)} {g : TG} {tt : TT} {t : Tg} {it cond el : E} (hc : X.calm = true) (hN : X.N.Nodup) (hi : PI X tg iter (rdI X.K L T W Ex it)) (ok : BlkOk X.N X.env.scope scope own) (ho : own.map (·.2) = tgIx t) (hT : TgOk X.K L g t)
    (htt : ∀ σ H Q, rdT X.K L T W0 cond σ H Q → tt σ H Q)
    (hg : ∀ (s : Shared) (H : Hp) (C : Addr) (cl : List (Str × Addr)) (fp : List Addr), PG (X.blk s H scope (compEnvC scope cl C X.env) fp) tg g)
    (ht : ∀ (s : Shared) (H : Hp) (C : Addr) (cl : List (Str × Addr)) (fp : List Addr), PTs (X.blk s H scope (compEnvC scope cl C X.env) fp) ifs tt)
    (he : ∀ (s : Shared) (H : Hp) (C : Addr) (cl : List (Str × Addr)) (fp : List Addr), PE (X.blk s H scope (compEnvC scope cl C X.env) fp) elt (rdE X.K L T W0 el)) (hs : ∀ x, foldedSetIterable iter X.env x = pure x := by intro _; rfl) :
    PE X (.ListComp elt [⟨tg, iter, ifs, 0⟩] scope pos) (rdE X.K L T W (.comp t it cond el)) := pFE (pF_comp hc hN hi ok ho hT htt hg ht he hs) comp_lst
/-- no test -/
theorem tt_yes {K : PySem.W.Frag} (σ : L2.St) (H : Hp) (Q : Bool → Hp → Prop) (h : rdT K L T W0 (.k (.bl true)) σ H Q) : tYes σ H Q := by
  obtain ⟨F, G, am, om, sl, M, S, pp⟩ := h
  exact pp true H G am Grow.refl M rfl
end
end PD

set_option Elab.async false
set_option linter.all false
set_option maxRecDepth 100000
set_option maxHeartbeats 400000
/-! PDJ: statements. -/
namespace PD
open PySem PySem.Spec PyProof.Rows L2
def isOwn : Cell → Bool
  | .own _ => true
  | .newo _ _ => true
  | _ => false
/-- what others hold at a def's entry; the instance that it makes, and its dict -/
structure FB where
  h : Hp
  sf : Option (Addr × Addr)
/-- the state within a def: F0, G0, am0 as they were at its entry -/
structure StR (K : PySem.W.Frag) (L : Lk) (F0 : FB) (G0 : Hp) (am0 : List Addr) (sl : Sl) (om : Om) (σ : L2.St) (H F G : Hp) (am : List Addr) : Prop where
  f0 : Ex F0.h F
  g : Grow G0 am0 G am
  mem : Mem K L F G am om H
  slr : SlR K L F G am sl σ
  own : ∀ (i : Nat) (c : Cell) (a : Addr), sl[i]? = some c → isOwn c = true → σ[i]? = some (some (.ref a)) → F0.h a = none ∧ ∀ (j : Nat) (c' : Cell), j ≠ i → sl[j]? = some c' → isOwn c' = true → σ[j]? ≠ some (some (.ref a))
  slf : ∀ (i : Nat) (c : Nat) (fs : List D), sl[i]? = some (.newo c fs) → ∃ x dx vs, σ[i]? = some (some (.ref x)) ∧ F x = some (.ins (L.ca c) dx ((L.fn c).zip vs)) ∧ F0.sf = some (x, dx)
def StOk (K : PySem.W.Frag) (L : Lk) (F0 : FB) (G0 : Hp) (am0 : List Addr) (sl : Sl) (om : Om) (σ : L2.St) (H : Hp) : Prop := ∃ F G am, StR K L F0 G0 am0 sl om σ H F G am
def OutP (K : PySem.W.Frag) (L : Lk) (F0 : FB) (G0 : Hp) (am0 : List Addr) (W : WX) (D : Ends) : Out → Prop
  | .stuck => False
  | .next sl om => ∀ σ H, StOk K L F0 G0 am0 sl om σ H → D.nx σ H
  | .brk sl om => ∀ σ H, StOk K L F0 G0 am0 sl om σ H → D.bk σ H
  | .cnt sl om => ∀ σ H, StOk K L F0 G0 am0 sl om σ H → D.ct σ H
  | .ret d om => ∀ v H G am, Grow G0 am0 G am → Mem K L F0.h G am om H → Rep K L G am d v → D.rt v H
  | .retF ds om => ∀ p vs H G am, Grow G0 am0 G am → F0.h p = none → Mem K L (upd F0.h p (.lst vs)) G am om H → RepL K L G am ds vs → D.rt (.ref p) H
  | .exc c fs sl om => ∀ cv dd σ H F G am, StR K L F0 G0 am0 sl om σ H F G am → ExcR K L G am c fs cv dd → W cv dd σ H
def rdS (K : PySem.W.Frag) (L : Lk) (T : Tb) (W : WX) (F0 : FB) (G0 : Hp) (am0 : List Addr) (s : S) : TS := fun D σ H => ∃ sl om, StOk K L F0 G0 am0 sl om σ H ∧ OutP K L F0 G0 am0 W D (evS T s sl om)
section
variable {K : PySem.W.Frag} {L : Lk} {F0 : FB} {G0 F G G' H H' : Hp} {am0 am am' : List Addr} {sl : Sl} {om om' : Om} {σ : L2.St}
theorem StR.grow (R : StR K L F0 G0 am0 sl om σ H F G am) (g : Grow G am G' am') (M : Mem K L F G' am' om' H') : StR K L F0 G0 am0 sl om' σ H' F G' am' :=
  ⟨R.f0, R.g.trans g, M, R.slr.grow g, R.own, R.slf⟩
theorem set_own {sl : Sl} {σ : L2.St} {i j : Nat} {c c' : Cell} {o : Option V} {a : Addr} (h1 : (sl.set i c)[j]? = some c') (h2 : (σ.set i o)[j]? = some (some (.ref a))) : (j = i ∧ c' = c ∧ o = some (.ref a)) ∨ (j ≠ i ∧ sl[j]? = some c' ∧ σ[j]? = some (some (.ref a))) := by
  by_cases e : i = j
  · subst e
    left
    rw [List.getElem?_set] at h1 h2
    rw [if_pos rfl] at h1 h2
    split at h1 <;> split at h2 <;> first | (cases h1; done) | (cases h2; done) | (cases h1; cases h2; exact ⟨rfl, rfl, rfl⟩)
  · right
    rw [List.getElem?_set_ne e] at h1 h2
    exact ⟨fun z => e z.symm, h1, h2⟩
/-- a slot gets a value that is not held alone -/
theorem StR.setVal (R : StR K L F0 G0 am0 sl om σ H F G am) {i : Nat} {c : Cell} {o : Option V} (hc : isOwn c = false) (r : CellR K L F G am c o) : StR K L F0 G0 am0 (sl.set i c) om (σ.set i o) H F G am := by
  refine ⟨R.f0, R.g, R.mem, R.slr.set r, fun j c1 a h1 h2 h3 => ?_, fun j c1 fs h1 => ?_⟩
  rotate_left
  · have hj : i ≠ j := fun e => by
      subst e
      rw [List.getElem?_set] at h1
      rw [if_pos rfl] at h1
      split at h1
      · cases h1; cases hc
      · cases h1
    rw [List.getElem?_set_ne hj] at h1
    obtain ⟨x, dx, vs, e1, e2, e3⟩ := R.slf j c1 fs h1
    exact ⟨x, dx, vs, by rw [List.getElem?_set_ne hj]; exact e1, e2, e3⟩
  rcases set_own h1 h3 with ⟨rfl, rfl, _⟩ | ⟨hj, h1', h3'⟩
  · rw [hc] at h2; cases h2
  · obtain ⟨z1, z2⟩ := R.own j c1 a h1' h2 h3'
    refine ⟨z1, fun k c2 hk g1 g2 g3 => ?_⟩
    rcases set_own g1 g3 with ⟨rfl, rfl, _⟩ | ⟨_, g1', g3'⟩
    · rw [hc] at g2; cases g2
    · exact z2 k c2 hk g1' g2 g3'
/-- what an own slot's address is -/
theorem own_addr (S : SlR K L F G am sl σ) {j : Nat} {c : Cell} {a : Addr} (h1 : sl[j]? = some c) (h2 : isOwn c = true) (h3 : σ[j]? = some (some (.ref a))) : ∃ o, F a = some o := by
  have z := S.2 j c _ h1 h3
  cases c with
  | no => cases h2
  | val d => cases h2
  | own ds =>
    obtain ⟨b, vs, e, f, _⟩ := z
    cases e
    exact ⟨_, f⟩
  | newo c fs =>
    obtain ⟨b, dx, vs, e, f, _⟩ := z
    cases e
    exact ⟨_, f⟩
  | exn => cases h2
/-- a slot gets a new thing that it holds alone -/
theorem StR.setNew (R : StR K L F0 G0 am0 sl om σ H F G am) {i : Nat} {c : Cell} {p : Addr} {u : HO} {G' : Hp} {am' : List Addr} {om' : Om} {H' : Hp} (g : Grow G am G' am') (hp : F p = none) (M : Mem K L (upd F p u) G' am' om' H') (r : CellR K L (upd F p u) G' am' c (some (.ref p))) (hnn : ∀ c' fs, c ≠ .newo c' fs) :
    StR K L F0 G0 am0 (sl.set i c) om' (σ.set i (some (.ref p))) H' (upd F p u) G' am' := by
  have eF : Ex F (upd F p u) := Ex.new hp
  refine ⟨R.f0.trans eF, R.g.trans g, M, ((R.slr.monoF eF).grow g).set r, fun j c1 a h1 h2 h3 => ?_, fun j c1 fs h1 => ?_⟩
  rotate_left
  · have hj : i ≠ j := fun e => by
      subst e
      rw [List.getElem?_set] at h1
      rw [if_pos rfl] at h1
      split at h1
      · exact hnn _ _ (Option.some.inj h1)
      · cases h1
    rw [List.getElem?_set_ne hj] at h1
    obtain ⟨x, dx, vs, e1, e2, e3⟩ := R.slf j c1 fs h1
    exact ⟨x, dx, vs, by rw [List.getElem?_set_ne hj]; exact e1, eF _ _ e2, e3⟩
  rcases set_own h1 h3 with ⟨rfl, rfl, e⟩ | ⟨hj, h1', h3'⟩
  · cases e
    refine ⟨?_, fun k c2 hk g1 g2 g3 => ?_⟩
    · cases q : F0.h p with
      | none => rfl
      | some o =>
        rw [R.f0 _ _ q] at hp
        cases hp
    · rcases set_own g1 g3 with ⟨e, _⟩ | ⟨_, g1', g3'⟩
      · exact hk e
      · obtain ⟨o, ho⟩ := own_addr R.slr g1' g2 g3'
        rw [ho] at hp
        cases hp
  · obtain ⟨z1, z2⟩ := R.own j c1 a h1' h2 h3'
    refine ⟨z1, fun k c2 hk g1 g2 g3 => ?_⟩
    rcases set_own g1 g3 with ⟨_, _, e⟩ | ⟨_, g1', g3'⟩
    · cases e
      obtain ⟨o, ho⟩ := own_addr R.slr h1' h2 h3'
      rw [ho] at hp
      cases hp
    · exact z2 k c2 hk g1' g2 g3'
/-- what a slot holds alone is changed -/
theorem StR.setUpd (R : StR K L F0 G0 am0 sl om σ H F G am) {i : Nat} {c c0 : Cell} {p : Addr} {u : HO} (h0 : sl[i]? = some c0) (ho : isOwn c0 = true) (hσ : σ[i]? = some (some (.ref p))) (r : CellR K L (upd F p u) G am c (some (.ref p))) (hsf : ∀ c' fs, c = .newo c' fs → ∃ dx vs, u = .ins (L.ca c') dx ((L.fn c').zip vs) ∧ F0.sf = some (p, dx)) :
    StR K L F0 G0 am0 (sl.set i c) om σ (upd H p u) (upd F p u) G am := by
  obtain ⟨z1, z2⟩ := R.own i c0 p h0 ho hσ
  obtain ⟨o, hF⟩ := own_addr R.slr h0 ho hσ
  have hne : ∀ j b c1, j ≠ i → sl[j]? = some c1 → isOwn c1 = true → σ[j]? = some (some (.ref b)) → b ≠ p := fun j b c1 hj h1 h2 h3 e => z2 j c1 hj h1 h2 (e ▸ h3)
  have hs : (σ.set i (some (.ref p))) = σ := by
    apply List.ext_getElem?
    intro k
    rw [List.getElem?_set]
    split
    · rename_i e
      subst e
      split
      · exact hσ.symm
      · rename_i hl
        exact (List.getElem?_eq_none (by omega)).symm
    · rfl
  refine ⟨fun a u' e => ?_, R.g, R.mem.setF hF, ?_, fun j c1 a h1 h2 h3 => ?_, fun j c1 fs h1 => ?_⟩
  rotate_right
  · by_cases e : i = j
    · subst e
      rw [List.getElem?_set] at h1
      rw [if_pos rfl] at h1
      split at h1
      · obtain ⟨dx, vs, e1, e2⟩ := hsf c1 fs (Option.some.inj h1)
        exact ⟨p, dx, vs, hσ, by rw [upd_same, e1], e2⟩
      · cases h1
    · rw [List.getElem?_set_ne e] at h1
      obtain ⟨x, dx, vs, e1, e2, e3⟩ := R.slf j c1 fs h1
      exact ⟨x, dx, vs, e1, by rw [upd_ne (hne j x _ (fun q => e q.symm) h1 rfl e1)]; exact e2, e3⟩
  · rw [upd_ne (fun q => by rw [q, z1] at e; cases e)]
    exact R.f0 _ _ e
  · refine ⟨by rw [List.length_set]; exact R.slr.1, fun j c1 o1 h1 h2 => ?_⟩
    by_cases e : i = j
    · subst e
      rw [List.getElem?_set] at h1
      rw [if_pos rfl] at h1
      split at h1
      · cases h1
        rw [hσ] at h2
        cases h2
        exact r
      · cases h1
    · rw [List.getElem?_set_ne e] at h1
      have z := R.slr.2 j c1 o1 h1 h2
      cases c1 with
      | no => trivial
      | val d => exact z
      | own ds =>
        obtain ⟨b, vs, rfl, f, rr⟩ := z
        exact ⟨b, vs, rfl, by rw [upd_ne (hne j b _ (fun q => e q.symm) h1 rfl h2)]; exact f, rr⟩
      | newo c fs =>
        obtain ⟨b, dx, vs, rfl, f, nn, rr⟩ := z
        exact ⟨b, dx, vs, rfl, by rw [upd_ne (hne j b _ (fun q => e q.symm) h1 rfl h2)]; exact f, nn, rr⟩
      | exn => exact z
  · rw [← hs] at h3
    rcases set_own h1 h3 with ⟨rfl, rfl, e⟩ | ⟨hj, h1', h3'⟩
    · cases e
      refine ⟨z1, fun k c2 hk g1 g2 g3 => ?_⟩
      rw [List.getElem?_set_ne (fun q => hk q.symm)] at g1
      exact z2 k c2 hk g1 g2 g3
    · obtain ⟨y1, y2⟩ := R.own j c1 a h1' h2 h3'
      refine ⟨y1, fun k c2 hk g1 g2 g3 => ?_⟩
      rw [← hs] at g3
      rcases set_own g1 g3 with ⟨rfl, rfl, e⟩ | ⟨_, g1', g3'⟩
      · cases e
        exact hne j _ c1 hj h1' h2 h3' rfl
      · exact y2 k c2 hk g1' g2 g3'
/-- the store is changed alone -/
theorem StR.setMem (R : StR K L F0 G0 am0 sl om σ H F G am) (M : Mem K L F G am om' H') : StR K L F0 G0 am0 sl om' σ H' F G am := ⟨R.f0, R.g, M, R.slr, R.own, R.slf⟩
/-- what others hold, fewer of it -/
theorem Mem.less {F1 : Hp} (M : Mem K L F G am om H) (e : Ex F1 F) : Mem K L F1 G am om H := ⟨M.gH, fun a o h => M.fH a o (e a o h), fun a o h => M.fg a o (e a o h), M.len, M.obs, M.nd, M.ag, fun a h => by
  cases q : F1 a with
  | none => rfl
  | some o =>
    have z := M.af a h
    rw [e _ _ q] at z
    cases z⟩
/-- a slot's list is given away for good -/
theorem StR.frz (R : StR K L F0 G0 am0 sl om σ H F G am) {i : Nat} {ds : List D} (h0 : sl[i]? = some (.own ds)) : StOk K L F0 G0 am0 (sl.set i (.val (.lst ds))) om σ H := by
  obtain ⟨o, ho, p, vs, rfl, hF, r⟩ := R.slr.at h0
  obtain ⟨z1, z2⟩ := R.own i _ p h0 rfl ho
  have hG : G p = none := R.mem.fg _ _ hF
  have hs : σ.set i (some (.ref p)) = σ := by
    apply List.ext_getElem?
    intro k
    rw [List.getElem?_set]
    split
    · rename_i e
      subst e
      split
      · exact ho.symm
      · rename_i hl
        exact (List.getElem?_eq_none (by omega)).symm
    · rfl
  have gG : Grow G am (upd G p (.lst vs)) am := Grow.of hG
  refine ⟨fun a => if a = p then none else F a, upd G p (.lst vs), am, fun a u e => ?_, R.g.trans gG, R.mem.freeze hF (fun a u e => ?_), ⟨by rw [List.length_set]; exact R.slr.1, fun j c o h1 h2 => ?_⟩, fun j c a h1 h2 h3 => ?_, fun j c fs h1 => ?_⟩
  rotate_right
  · by_cases e : i = j
    · subst e
      rw [List.getElem?_set] at h1
      rw [if_pos rfl] at h1
      split at h1
      · cases h1
      · cases h1
    · rw [List.getElem?_set_ne e] at h1
      obtain ⟨x, dx, vs', e1, e2, e3⟩ := R.slf j c fs h1
      have hx : x ≠ p := fun q => z2 j _ (fun q => e q.symm) h1 rfl (q ▸ e1)
      exact ⟨x, dx, vs', e1, by show (if x = p then none else F x) = _; rw [if_neg hx]; exact e2, e3⟩
  · have : a ≠ p := fun q => by rw [q, z1] at e; cases e
    rw [if_neg this]
    exact R.f0 _ _ e
  · split at e
    · cases e
    · exact ⟨e, by assumption⟩
  · by_cases e : i = j
    · subst e
      rw [List.getElem?_set] at h1
      rw [if_pos rfl] at h1
      split at h1
      · cases h1
        rw [ho] at h2
        cases h2
        exact ⟨_, rfl, .lst upd_same (r.up gG)⟩
      · cases h1
    · rw [List.getElem?_set_ne e] at h1
      have z := (R.slr.2 j c o h1 h2).grow gG
      cases c with
      | no => trivial
      | val d => exact z
      | own ds =>
        obtain ⟨b, vs, rfl, f, rr⟩ := z
        have : b ≠ p := fun q => z2 j _ (fun q => e q.symm) h1 rfl (q ▸ h2)
        exact ⟨b, vs, rfl, by show (if b = p then none else F b) = _; rw [if_neg this]; exact f, rr⟩
      | newo c fs =>
        obtain ⟨b, dx, vs, rfl, f, nn, rr⟩ := z
        have : b ≠ p := fun q => z2 j _ (fun q => e q.symm) h1 rfl (q ▸ h2)
        exact ⟨b, dx, vs, rfl, by show (if b = p then none else F b) = _; rw [if_neg this]; exact f, nn, rr⟩
      | exn => exact z
  · rw [← hs] at h3
    rcases set_own h1 h3 with ⟨rfl, rfl, e⟩ | ⟨hj, h1', h3'⟩
    · cases h2
    · obtain ⟨y1, y2⟩ := R.own j c a h1' h2 h3'
      refine ⟨y1, fun k c2 hk g1 g2 g3 => ?_⟩
      rw [← hs] at g3
      rcases set_own g1 g3 with ⟨rfl, rfl, e⟩ | ⟨_, g1', g3'⟩
      · cases g2
      · exact y2 k c2 hk g1' g2 g3'
/-- from an expression's end to a statement's -/
theorem out_post {α β : Type} {Rr : Hp → List Addr → α → β → Prop} {W : WX} {D : Ends} {r : Rs α} {f : α → Om → Out} (R : StR K L F0 G0 am0 sl om σ H F G am) (h : OutP K L F0 G0 am0 W D (r.out sl f)) {Q : β → Hp → Prop}
    (k : ∀ a om1 b H1 G1 am1, Grow G am G1 am1 → StR K L F0 G0 am0 sl om1 σ H1 F G1 am1 → Rr G1 am1 a b → OutP K L F0 G0 am0 W D (f a om1) → Q b H1) : Post K L Rr F G am r (fun cv dd H => W cv dd σ H) Q := by
  cases r with
  | stuck => exact h
  | ok a om1 => exact fun b H1 G1 am1 g M rr => k a om1 b H1 G1 am1 g (R.grow g M) rr h
  | exc c fs om1 => exact fun cv dd H1 G1 am1 g M er => h cv dd σ H1 F G1 am1 (R.grow g M) er
theorem out_postF {W : WX} {Dn : Ends} {r : Rs D} {f : D → Om → Out} (R : StR K L F0 G0 am0 sl om σ H F G am) (h : OutP K L F0 G0 am0 W Dn (r.out sl f)) {Q : VK}
    (hs : ∀ d om1, (∀ ds, d ≠ .lst ds) → f d om1 = .stuck)
    (k : ∀ ds om1 p vs H1 G1 am1, Grow G am G1 am1 → F p = none → Mem K L (upd F p (.lst vs)) G1 am1 om1 H1 → RepL K L G1 am1 ds vs → OutP K L F0 G0 am0 W Dn (f (.lst ds) om1) → Q (.ref p) H1) : PostF K L F G am r (fun cv dd H => W cv dd σ H) Q := by
  cases r with
  | stuck => exact h
  | ok d om1 =>
    by_cases e : ∃ ds, d = .lst ds
    · obtain ⟨ds, rfl⟩ := e
      exact ⟨ds, rfl, fun p vs H1 G1 am1 g hp M rr => k ds om1 p vs H1 G1 am1 g hp M rr h⟩
    · have z := hs d om1 fun ds q => e ⟨ds, q⟩
      change OutP K L F0 G0 am0 W Dn (f d om1) at h
      rw [z] at h
      exact h.elim
  | exc c fs om1 => exact fun cv dd H1 G1 am1 g M er => h cv dd σ H1 F G1 am1 (R.grow g M) er
end
end PD

set_option Elab.async false
set_option linter.all false
set_option maxRecDepth 100000
set_option maxHeartbeats 400000
/-! PDK: the statements' rules. -/
namespace PD
open PySem PySem.Spec PyProof.Rows L2
/-- a new list that was held alone goes into the store -/
theorem Mem.toA {K : PySem.W.Frag} {L : Lk} {F G H : Hp} {am : List Addr} {om : Om} {p : Addr} {u : HO} (M : Mem K L (upd F p u) G am om H) (hf : F p = none) {o' : Ob} (r : ObR K L G (am ++ [p]) H o' p) : Mem K L F G (am ++ [p]) (om ++ [o']) H := by
  have hg := M.fg _ _ upd_same
  have ha := M.inF upd_same
  have eF : Ex F (upd F p u) := Ex.new hf
  refine ⟨M.gH, fun a o e => M.fH a o (eF a o e), fun a o e => M.fg a o (eF a o e), by rw [List.length_append, List.length_append, M.len]; rfl, fun j a o h1 h2 => ?_, ?_, fun a hm => ?_, fun a hm => ?_⟩
  · by_cases c : j < am.length
    · rw [List.getElem?_append_left c] at h1
      rw [List.getElem?_append_left (by rw [← M.len]; exact c)] at h2
      exact (M.obs j a o h1 h2).grow ⟨Ex.refl, [p], rfl⟩ fun u e => e
    · rw [List.getElem?_append_right (by omega)] at h1
      rw [List.getElem?_append_right (by rw [← M.len]; omega), ← M.len] at h2
      have hj : j - am.length = 0 := by
        cases q : j - am.length with
        | zero => rfl
        | succ m =>
          rw [q] at h1
          simp at h1
      rw [hj] at h1 h2
      simp at h1 h2
      subst h1; subst h2
      exact r
  · rw [List.nodup_append]
    refine ⟨M.nd, by simp, fun a h1 b h2 => ?_⟩
    simp at h2
    subst h2
    exact fun c => ha (by rw [← c]; exact h1)
  · rw [List.mem_append] at hm
    rcases hm with hm | hm
    · exact M.ag _ hm
    · simp at hm
      subst hm
      exact hg
  · rw [List.mem_append] at hm
    rcases hm with hm | hm
    · have z := M.af _ hm
      cases q : F a with
      | none => rfl
      | some o =>
        rw [eF _ _ q] at z
        cases z
    · simp at hm
      subst hm
      exact hf
section
variable {K : PySem.W.Frag} {L : Lk} {W : WX} {F0 : FB} {G0 G1 : Hp} {am0 am1 : List Addr} {Dn : Ends} {o : Out} {sl : Sl} {om : Om} {σ : L2.St} {H : Hp}
theorem StR.base {F G : Hp} {am : List Addr} (g : Grow G0 am0 G1 am1) (h : StR K L F0 G1 am1 sl om σ H F G am) : StR K L F0 G0 am0 sl om σ H F G am := ⟨h.f0, g.trans h.g, h.mem, h.slr, h.own, h.slf⟩
theorem StOk.base (g : Grow G0 am0 G1 am1) (h : StOk K L F0 G1 am1 sl om σ H) : StOk K L F0 G0 am0 sl om σ H := by
  obtain ⟨F, G, am, h⟩ := h
  exact ⟨F, G, am, h.base g⟩
theorem OutP.base (g : Grow G0 am0 G1 am1) (h : OutP K L F0 G0 am0 W Dn o) : OutP K L F0 G1 am1 W Dn o := by
  cases o with
  | stuck => exact h
  | next sl om => exact fun σ H s => h σ H (s.base g)
  | brk sl om => exact fun σ H s => h σ H (s.base g)
  | cnt sl om => exact fun σ H s => h σ H (s.base g)
  | ret d om => exact fun v H G am gg => h v H G am (g.trans gg)
  | retF ds om => exact fun p vs H G am gg => h p vs H G am (g.trans gg)
  | exc c fs sl om => exact fun cv dd σ H F G am s => h cv dd σ H F G am (s.base g)
end
/-- a statement, a block: as evS says, whatever the entry -/
def QS (X : Cx) (L : Lk) (T : Tb) (W : WX) (st : Stmt) (s : S) : Prop := ∀ F0 G0 am0, PS X st (rdS X.K L T W F0 G0 am0 s)
def QSs (X : Cx) (L : Lk) (T : Tb) (W : WX) (sts : List Stmt) (s : S) : Prop := ∀ F0 G0 am0, PSs X sts (rdS X.K L T W F0 G0 am0 s)
section
variable {X : Cx} {L : Lk} {p : Prog} {fi : Nat → FI} {n wf : Nat} {W : WX} {T : Tb} {st : Stmt} {sts : List Stmt} {s s' : S} {i j : Nat} {ee ea eb ex : E} {e a b o ix : Expr} {pos apos cpos : Pos}
theorem qs_nil : QSs X L T W [] .skip := fun F0 G0 am0 => pss_nil.imp fun D σ H ⟨sl, om, k, o⟩ => o σ H k
theorem qs_cons (h1 : QS X L T W st s) (h2 : QSs X L T W sts s') : QSs X L T W (st :: sts) (.seq s s') := fun F0 G0 am0 => (pss_cons (h1 F0 G0 am0) (h2 F0 G0 am0)).imp fun D σ H ⟨sl, om, k, o⟩ => ⟨sl, om, k, by
  have e : evS T (.seq s s') sl om = match evS T s sl om with
    | .next sl om => evS T s' sl om
    | o => o := rfl
  rw [e] at o
  cases q : evS T s sl om with
  | stuck => rw [q] at o; exact o
  | next sl' om' => rw [q] at o; exact fun σ' H' k' => ⟨sl', om', k', o⟩
  | brk sl' om' => rw [q] at o; exact o
  | cnt sl' om' => rw [q] at o; exact o
  | ret d om' => rw [q] at o; exact o
  | retF d om' => rw [q] at o; exact o
  | exc c fs sl' om' => rw [q] at o; exact o⟩
theorem qs_one (h1 : QS X L T W st s) : QSs X L T W [st] s := fun F0 G0 am0 => pss_one (h1 F0 G0 am0)
/-- nobody may change the list at i from here on -/
theorem qs_fz (h : QSs X L T W sts s) : QSs X L T W sts (.seq (.fz i) s) := fun F0 G0 am0 => (h F0 G0 am0).imp fun D σ H ⟨sl, om, ⟨F, G, am, R⟩, o⟩ => by
  have e : evS T (.seq (.fz i) s) sl om = match evS T (.fz i) sl om with
    | .next sl om => evS T s sl om
    | o => o := rfl
  rw [e] at o
  simp only [evS] at o
  cases q : sl[i]? with
  | none => rw [q] at o; exact ⟨sl, om, ⟨F, G, am, R⟩, o⟩
  | some c =>
    cases c with
    | own ds => rw [q] at o; exact ⟨_, om, R.frz q, o⟩
    | no => rw [q] at o; exact ⟨sl, om, ⟨F, G, am, R⟩, o⟩
    | val d => rw [q] at o; exact ⟨sl, om, ⟨F, G, am, R⟩, o⟩
    | newo c fs => rw [q] at o; exact ⟨sl, om, ⟨F, G, am, R⟩, o⟩
    | exn => rw [q] at o; exact ⟨sl, om, ⟨F, G, am, R⟩, o⟩
theorem q_pass : QS X L T W (.Pass pos) .skip := fun F0 G0 am0 => ps_pass.imp fun D σ H ⟨sl, om, k, o⟩ => o σ H k
theorem q_brk : QS X L T W (.Break pos) .brk := fun F0 G0 am0 => ps_break.imp fun D σ H ⟨sl, om, k, o⟩ => o σ H k
theorem q_cnt : QS X L T W (.Continue pos) .cnt := fun F0 G0 am0 => ps_continue.imp fun D σ H ⟨sl, om, k, o⟩ => o σ H k
theorem q_never : QS X L T W st .never := fun F0 G0 am0 => ps_never.imp fun D σ H ⟨sl, om, k, o⟩ => o
theorem q_doc {x : Str} {k : Nat} : QS X L T W (.Expr (.Constant (.str x) k pos) apos) .skip := fun F0 G0 am0 => ps_doc.imp fun D σ H ⟨sl, om, k, o⟩ => o σ H k
theorem q_drop (h : PE X e (rdE X.K L T W ee)) (hs : swapsWith e none pos.line X.env = pure false := by rfl) : QS X L T W (.Expr e pos) (.drop ee) := fun F0 G0 am0 => (ps_expr h hs).imp fun D σ H ⟨sl, om, ⟨F, G, am, R⟩, o⟩ =>
  ⟨F, G, am, om, sl, R.mem, R.slr, out_post R o fun d om1 v H1 G1 am1 g R1 r1 o1 => o1 σ H1 ⟨F, G1, am1, R1⟩⟩
theorem q_ret (h : PE X e (rdE X.K L T W ee)) : QS X L T W (.Return (some e) pos) (.ret ee) := fun F0 G0 am0 => (ps_ret h).imp fun D σ H ⟨sl, om, ⟨F, G, am, R⟩, o⟩ =>
  ⟨F, G, am, om, sl, R.mem, R.slr, out_post R o fun d om1 v H1 G1 am1 g R1 r1 o1 => o1 v H1 G1 am1 R1.g (R1.mem.less R1.f0) r1⟩
theorem q_retN : QS X L T W (.Return none pos) .retN := fun F0 G0 am0 => ps_retN.imp fun D σ H ⟨sl, om, ⟨F, G, am, R⟩, o⟩ => o .non H G am R.g (R.mem.less R.f0) .non
theorem upd_ex {F0 F : Hp} {p : Addr} {o : HO} (e : Ex F0 F) : Ex (upd F0 p o) (upd F p o) := fun a u h => by
  by_cases c : a = p
  · subst c
    rw [upd_same] at h ⊢
    exact h
  · rw [upd_ne c] at h ⊢
    exact e _ _ h
theorem ex_none {F0 F : Hp} {p : Addr} (e : Ex F0 F) (h : F p = none) : F0 p = none := by
  cases q : F0 p with
  | none => rfl
  | some o =>
    rw [e _ _ q] at h
    cases h
theorem q_retF (h : PE X e (rdF X.K L T W ee)) : QS X L T W (.Return (some e) pos) (.retF ee) := fun F0 G0 am0 => (ps_ret h).imp fun D σ H ⟨sl, om, ⟨F, G, am, R⟩, o⟩ =>
  ⟨F, G, am, om, sl, R.mem, R.slr, out_postF R o (fun d om1 hd => by cases d <;> first | rfl | exact absurd rfl (hd _)) fun ds om1 q vs H1 G1 am1 g hp M rr o1 => o1 q vs H1 G1 am1 (R.g.trans g) (ex_none R.f0 hp) (M.less (upd_ex R.f0)) rr⟩
/-- return x, x a list that its slot holds alone -/
theorem q_retO {x : Str} (hN : X.N[i]? = some x) (hv : Vis X.env.scope x) (hd : (x == ("__debug__" : Str)) = false := by decide) (hcd : (x == ("__classdict__" : Str)) = false := by decide) : QS X L T W (.Return (some (.Name x apos)) pos) (.retO i) := fun F0 G0 am0 =>
  (ps_ret (pe_var hN hv hd hcd)).imp fun D σ H ⟨sl, om, ⟨F, G, am, R⟩, o⟩ => by
    simp only [evS] at o
    split at o
    · rename_i ds h0
      obtain ⟨ov, ho, q, vs, rfl, hF, r⟩ := R.slr.at h0
      obtain ⟨z1, _⟩ := R.own i _ q h0 rfl ho
      refine ⟨_, ho, o q vs H G am R.g z1 (R.mem.less fun a u e => ?_) r⟩
      by_cases c : a = q
      · subst c
        rw [upd_same] at e
        rw [← e]
        exact hF
      · rw [upd_ne c] at e
        exact R.f0 _ _ e
    · exact o.elim
/-! ### stores to names -/
theorem q_set (h : PS X st (tAsg (rdE X.K L T W ee) (gName i))) : QS X L T W st (.set i ee) := fun F0 G0 am0 => h.imp fun D σ H ⟨sl, om, ⟨F, G, am, R⟩, o⟩ =>
  ⟨F, G, am, om, sl, R.mem, R.slr, out_post R o fun d om1 v H1 G1 am1 g R1 r1 o1 => o1 _ H1 ⟨F, G1, am1, R1.setVal rfl ⟨v, rfl, r1⟩⟩⟩
theorem q_setO (h : PS X st (tAsg (rdF X.K L T W ee) (gName i))) : QS X L T W st (.setO i ee) := fun F0 G0 am0 => h.imp fun D σ H ⟨sl, om, ⟨F, G, am, R⟩, o⟩ =>
  ⟨F, G, am, om, sl, R.mem, R.slr, out_postF R o (fun d om1 hd => by cases d <;> first | rfl | exact absurd rfl (hd _)) fun ds om1 q vs H1 G1 am1 g hp M rr o1 => o1 _ H1 ⟨_, G1, am1, R.setNew g hp M ⟨q, vs, rfl, upd_same, rr⟩ (fun _ _ e => by cases e)⟩⟩
theorem q_setA (h : PS X st (tAsg (rdF X.K L T W ee) (gName i))) : QS X L T W st (.setA i ee) := fun F0 G0 am0 => h.imp fun D σ H ⟨sl, om, ⟨F, G, am, R⟩, o⟩ =>
  ⟨F, G, am, om, sl, R.mem, R.slr, out_postF R o (fun d om1 hd => by cases d <;> first | rfl | exact absurd rfl (hd _)) fun ds om1 q vs H1 G1 am1 g hp M rr o1 => by
    have gA : Grow G1 am1 G1 (am1 ++ [q]) := ⟨Ex.refl, [q], rfl⟩
    have M2 : Mem X.K L F G1 (am1 ++ [q]) (om1 ++ [.pl ds]) H1 := M.toA hp ⟨vs, M.fH _ _ upd_same, rr.up gA⟩
    have hk : (am1 ++ [q])[om1.length]? = some q := by
      rw [← M.len, List.getElem?_append_right (Nat.le_refl _), Nat.sub_self]
      rfl
    exact o1 _ H1 ⟨F, G1, am1 ++ [q], (R.grow (g.trans gA) M2).setVal rfl ⟨_, rfl, .amb hk⟩⟩⟩
/-! ### targets, by the state -/
structure TgS (K : PySem.W.Frag) (L : Lk) (g : TG) (tg : Tg) : Prop where
  run : ∀ F0 G0 am0 F G am om H sl σ d x sl' Q, StR K L F0 G0 am0 sl om σ H F G am → Rep K L G am d x → setT sl tg d = some sl' → (∀ σ', StR K L F0 G0 am0 sl' om σ' H F G am → Q σ' H) → g x σ H Q
theorem tgS_one {K : PySem.W.Frag} {i : Nat} : TgS K L (gName i) (.one i) := ⟨fun F0 G0 am0 F G am om H sl σ d x sl' Q R r h k => by
  cases h
  exact k _ (R.setVal rfl ⟨x, rfl, r⟩)⟩
structure TgsS (K : PySem.W.Frag) (L : Lk) (g : TGs) (is : List Nat) : Prop where
  run : ∀ F0 G0 am0 F G am om H sl σ ds xs Q, StR K L F0 G0 am0 sl om σ H F G am → RepL K L G am ds xs → ds.length = is.length → (∀ σ', StR K L F0 G0 am0 (sets sl is ds) om σ' H F G am → Q σ' H) → g xs σ H Q
theorem tgsS_nil {K : PySem.W.Frag} : TgsS K L gNil [] := ⟨fun F0 G0 am0 F G am om H sl σ ds xs Q R r h k => by
  cases r with
  | nil => exact ⟨rfl, k σ R⟩
  | cons _ _ => cases h⟩
theorem tgsS_cons {K : PySem.W.Frag} {i : Nat} {is : List Nat} {g : TGs} (h : TgsS K L g is) : TgsS K L (gCons (gName i) g) (i :: is) := ⟨fun F0 G0 am0 F G am om H sl σ ds xs Q R r hl k => by
  cases r with
  | nil => cases hl
  | @cons d v ds vs hd r => exact ⟨v, vs, rfl, h.run F0 G0 am0 F G am om H (sl.set i (.val d)) _ ds vs Q (R.setVal rfl ⟨v, rfl, hd⟩) r (by simpa using hl) fun σ' S' => k σ' S'⟩⟩
theorem tgS_many {K : PySem.W.Frag} {is : List Nat} {g : TGs} (h : TgsS K L g is) : TgS K L (gTup K is.length g) (.many is) := ⟨fun F0 G0 am0 F G am om H sl σ d x sl' Q R r hs k => by
  cases d with
  | tup ds =>
    simp only [setT] at hs
    split at hs
    · rename_i hl
      cases hs
      cases r with
      | tup ht r =>
        exact ⟨_, _, rfl, SqT.of (R.mem.gH _ _ ht), by rw [← r.length]; exact hl, h.run F0 G0 am0 F G am om H sl σ ds _ Q R r hl k⟩
    · cases hs
  | _ => cases hs⟩
theorem q_setT {is : List Nat} {g : TG} (hT : TgS X.K L g (.many is)) (h : PS X st (tAsg (rdE X.K L T W ee) g)) : QS X L T W st (.setT is ee) := fun F0 G0 am0 => h.imp fun D σ H ⟨sl, om, ⟨F, G, am, R⟩, o⟩ =>
  ⟨F, G, am, om, sl, R.mem, R.slr, out_post R o fun d om1 v H1 G1 am1 g R1 r1 o1 => by
    split at o1
    · rename_i sl' hs
      exact hT.run F0 G0 am0 F G1 am1 om1 H1 sl σ d v sl' _ R1 r1 hs fun σ' R2 => o1 σ' H1 ⟨F, G1, am1, R2⟩
    · exact o1.elim⟩
theorem q_par (h : PS X st (tPar i j (tCons (rdE X.K L T W ea) (tCons (rdE X.K L T W eb) tNil)))) : QS X L T W st (.par i j ea eb) := fun F0 G0 am0 => h.imp fun D σ H ⟨sl, om, ⟨F, G, am, R⟩, o⟩ =>
  ⟨F, G, am, om, sl, R.mem, R.slr, out_post R o fun d om1 v H1 G1 am1 g R1 r1 o1 => ⟨F, G1, am1, om1, sl, R1.mem, R1.slr, out_post R1 o1 fun d2 om2 v2 H2 G2 am2 g2 R2 r2 o2 =>
    ⟨v, v2, rfl, o2 _ H2 ⟨F, G2, am2, (R2.setVal (c := .val d) rfl ⟨v, rfl, r1.up g2⟩).setVal (c := .val d2) rfl ⟨v2, rfl, r2⟩⟩⟩⟩⟩
theorem q_aug {x : Str} {o : Bop} (ho : o = .add ∨ o = .sub) (h : PS X st (tAug i (rdE X.K L T W ee) (ipI (match o with | .add => fun i j => i + j | _ => fun i j => i - j)))) : QS X L T W st (.aug i o ee) := fun F0 G0 am0 => h.imp fun D σ H ⟨sl, om, ⟨F, G, am, R⟩, oo⟩ => by
  simp only [evS] at oo
  split at oo
  · rename_i m h0
    obtain ⟨ov, hv, v, rfl, rv⟩ := R.slr.at h0
    cases rv
    refine ⟨_, hv, F, G, am, om, sl, R.mem, R.slr, out_post R oo fun d om1 v H1 G1 am1 g R1 r1 o1 => ?_⟩
    rcases ho with rfl | rfl
    · cases d with
      | int k =>
        cases r1
        exact ⟨m, k, rfl, rfl, o1 _ H1 ⟨F, G1, am1, R1.setVal rfl ⟨_, rfl, .int _⟩⟩⟩
      | _ => exact o1.elim
    · cases d with
      | int k =>
        cases r1
        exact ⟨m, k, rfl, rfl, o1 _ H1 ⟨F, G1, am1, R1.setVal rfl ⟨_, rfl, .int _⟩⟩⟩
      | _ => exact o1.elim
  · exact oo.elim
/-! ### lists that grow, items stored -/
theorem q_app {x : Str} {apos2 : Pos} (hN : X.N[i]? = some x) (hv : Vis X.env.scope x) (he : PE X e (rdE X.K L T W ee)) (hd : (x == ("__debug__" : Str)) = false := by decide) (hcd : (x == ("__classdict__" : Str)) = false := by decide)
    (hp : ∀ {to : TE} {t : TA}, PE X (.Name x apos) to → PA X [e] t → PS X (.Expr (.Call (.Attribute (.Name x apos) "append" apos2) [e] [] cpos) pos) (tDrop (tBM X.K "list" rAppend to t))) (hs : starEach (e :: []) X.env = (false, eval e X.env) :: starEach [] X.env := by rfl) : QS X L T W (.Expr (.Call (.Attribute (.Name x apos) "append" apos2) [e] [] cpos) pos) (.app i ee) := fun F0 G0 am0 =>
  (hp (pe_var hN hv hd hcd) (pa_cons he pa_nil hs)).imp fun D σ H ⟨sl, om, ⟨F, G, am, R⟩, o⟩ => by
    simp only [evS] at o
    split at o
    · rename_i ds h0
      obtain ⟨ov, ho, q, vs, rfl, hF, r⟩ := R.slr.at h0
      refine ⟨_, ho, .inl ⟨rfl, vs, SqL.of (R.mem.fH _ _ hF)⟩, F, G, am, om, sl, R.mem, R.slr, out_post R o fun d om1 v H1 G1 am1 g R1 r1 o1 => ?_⟩
      split at o1
      · rename_i hlt
        exact ⟨q, vs, v, rfl, rfl, R1.mem.fH _ _ hF, sz_lt (by rw [← r.length]; exact hlt), o1 σ _ ⟨_, G1, am1, R1.setUpd h0 rfl ho ⟨q, vs ++ [v], rfl, upd_same, (r.up g).append (.cons r1 .nil)⟩ (fun _ _ e => by cases e)⟩⟩
      · exact o1.elim
    · exact o.elim
theorem q_appA {x : Str} {apos2 : Pos} (hN : X.N[i]? = some x) (hv : Vis X.env.scope x) (he : PE X e (rdE X.K L T W ee)) (hd : (x == ("__debug__" : Str)) = false := by decide) (hcd : (x == ("__classdict__" : Str)) = false := by decide)
    (hp : ∀ {to : TE} {t : TA}, PE X (.Name x apos) to → PA X [e] t → PS X (.Expr (.Call (.Attribute (.Name x apos) "append" apos2) [e] [] cpos) pos) (tDrop (tBM X.K "list" rAppend to t))) (hs : starEach (e :: []) X.env = (false, eval e X.env) :: starEach [] X.env := by rfl) : QS X L T W (.Expr (.Call (.Attribute (.Name x apos) "append" apos2) [e] [] cpos) pos) (.appA i ee) := fun F0 G0 am0 =>
  (hp (pe_var hN hv hd hcd) (pa_cons he pa_nil hs)).imp fun D σ H ⟨sl, om, ⟨F, G, am, R⟩, o⟩ => by
    simp only [evS] at o
    split at o
    · rename_i k h0
      split at o
      · rename_i ds0 h1
        obtain ⟨ov, ho, v0, rfl, rv⟩ := R.slr.at h0
        cases rv with
        | @amb _ q hk =>
          obtain ⟨vs0, hq0, _⟩ := R.mem.obs _ _ _ hk h1
          refine ⟨_, ho, .inl ⟨rfl, vs0, SqL.of hq0⟩, F, G, am, om, sl, R.mem, R.slr, out_post R o fun d om1 v H1 G1 am1 g R1 r1 o1 => ?_⟩
          split at o1
          · rename_i ds h2
            obtain ⟨vs, hq, r⟩ := R1.mem.obs _ _ _ (g.get hk) h2
            split at o1
            · rename_i hlt
              exact ⟨q, vs, v, rfl, rfl, hq, sz_lt (by rw [← r.length]; exact hlt), o1 σ _ ⟨_, G1, am1, R1.setMem (R1.mem.setA (g.get hk) ⟨_, upd_same, r.append (.cons r1 .nil)⟩)⟩⟩
            · exact o1.elim
          · exact o1.elim
      · exact o.elim
    · exact o.elim
theorem q_ext {x : Str} {apos2 : Pos} (hN : X.N[i]? = some x) (hv : Vis X.env.scope x) (he : PE X e (rdE X.K L T W ee)) (hd : (x == ("__debug__" : Str)) = false := by decide) (hcd : (x == ("__classdict__" : Str)) = false := by decide)
    (hp : ∀ {to : TE} {t : TA}, PE X (.Name x apos) to → PA X [e] t → PS X (.Expr (.Call (.Attribute (.Name x apos) "extend" apos2) [e] [] cpos) pos) (tDrop (tBM X.K "list" rExtend to t))) (hs : starEach (e :: []) X.env = (false, eval e X.env) :: starEach [] X.env := by rfl) : QS X L T W (.Expr (.Call (.Attribute (.Name x apos) "extend" apos2) [e] [] cpos) pos) (.ext i ee) := fun F0 G0 am0 =>
  (hp (pe_var hN hv hd hcd) (pa_cons he pa_nil hs)).imp fun D σ H ⟨sl, om, ⟨F, G, am, R⟩, o⟩ => by
    simp only [evS] at o
    split at o
    · rename_i ds h0
      obtain ⟨ov, ho, q, vs, rfl, hF, r⟩ := R.slr.at h0
      refine ⟨_, ho, .inl ⟨rfl, vs, SqL.of (R.mem.fH _ _ hF)⟩, F, G, am, om, sl, R.mem, R.slr, out_post R o fun d om1 v H1 G1 am1 g R1 r1 o1 => ?_⟩
      split at o1
      · rename_i es
        split at o1
        · rename_i hlt
          cases r1 with
          | lst hb rb =>
            exact ⟨q, _, vs, _, rfl, rfl, R1.mem.fH _ _ hF, R1.mem.gH _ _ hb, sz_le (by rw [← r.length, ← rb.length]; exact hlt), o1 σ _ ⟨_, G1, am1, R1.setUpd h0 rfl ho ⟨q, _, rfl, upd_same, (r.up g).append rb⟩ (fun _ _ e => by cases e)⟩⟩
        · exact o1.elim
      · exact o1.elim
    · exact o.elim
theorem q_setI {x : Str} (hN : X.N[i]? = some x) (hv : Vis X.env.scope x) (hd : (x == ("__debug__" : Str)) = false := by decide) (hcd : (x == ("__classdict__" : Str)) = false := by decide)
    (hp : ∀ {to : TE}, PE X (.Name x apos) to → PS X (.Assign [.Subscript (.Name x apos) ix cpos] e pos) (tAsg (rdE X.K L T W ee) (gSub to (rdE X.K L T W ex) rSetL))) : QS X L T W (.Assign [.Subscript (.Name x apos) ix cpos] e pos) (.setI i ex ee) := fun F0 G0 am0 =>
  (hp (pe_var hN hv hd hcd)).imp fun D σ H ⟨sl, om, ⟨F, G, am, R⟩, o⟩ => by
    simp only [evS] at o
    split at o
    · rename_i ds h0
      obtain ⟨ov, ho, q, vs, rfl, hF, r⟩ := R.slr.at h0
      refine ⟨F, G, am, om, sl, R.mem, R.slr, out_post R o fun d om1 v H1 G1 am1 g R1 r1 o1 => ?_⟩
      refine ⟨_, ho, F, G1, am1, om1, sl, R1.mem, R1.slr, out_post R1 o1 fun dn om2 vn H2 G2 am2 g2 R2 r2 o2 => ?_⟩
      split at o2
      · rename_i m
        split at o2
        · rename_i j hj
          cases r2
          exact ⟨q, vs, m, j, rfl, rfl, R2.mem.fH _ _ hF, by rw [← r.length]; exact hj, o2 σ _ ⟨_, G2, am2, R2.setUpd h0 rfl ho ⟨q, _, rfl, upd_same, ((r.up g).up g2).set j (r1.up g2)⟩ (fun _ _ e => by cases e)⟩⟩
        · exact o2.elim
      · exact o2.elim
    · exact o.elim
theorem q_setIA {x : Str} (hN : X.N[i]? = some x) (hv : Vis X.env.scope x) (hd : (x == ("__debug__" : Str)) = false := by decide) (hcd : (x == ("__classdict__" : Str)) = false := by decide)
    (hp : ∀ {to : TE}, PE X (.Name x apos) to → PS X (.Assign [.Subscript (.Name x apos) ix cpos] e pos) (tAsg (rdE X.K L T W ee) (gSub to (rdE X.K L T W ex) rSetL))) : QS X L T W (.Assign [.Subscript (.Name x apos) ix cpos] e pos) (.setIA i ex ee) := fun F0 G0 am0 =>
  (hp (pe_var hN hv hd hcd)).imp fun D σ H ⟨sl, om, ⟨F, G, am, R⟩, o⟩ => by
    simp only [evS] at o
    split at o
    · rename_i k h0
      obtain ⟨ov, ho, v0, rfl, rv⟩ := R.slr.at h0
      cases rv with
      | @amb _ q hk =>
        refine ⟨F, G, am, om, sl, R.mem, R.slr, out_post R o fun d om1 v H1 G1 am1 g R1 r1 o1 => ?_⟩
        refine ⟨_, ho, F, G1, am1, om1, sl, R1.mem, R1.slr, out_post R1 o1 fun dn om2 vn H2 G2 am2 g2 R2 r2 o2 => ?_⟩
        split at o2
        · rename_i m
          split at o2
          · rename_i ds h2
            obtain ⟨vs, hq, r⟩ := R2.mem.obs _ _ _ (g2.get (g.get hk)) h2
            split at o2
            · rename_i j hj
              cases r2
              exact ⟨q, vs, m, j, rfl, rfl, hq, by rw [← r.length]; exact hj, o2 σ _ ⟨_, G2, am2, R2.setMem (R2.mem.setA (g2.get (g.get hk)) ⟨_, upd_same, r.set j (r1.up g2)⟩)⟩⟩
            · exact o2.elim
          · exact o2.elim
        · exact o2.elim
    · exact o.elim
/-! ### fields stored -/
theorem put_new : ∀ {ns : List Str} {f : Str} {j : Nat} {vs : List V} {v : V}, fnIx ns f = some j → vs.length = j → putF f v (ns.zip vs) = ns.zip (vs ++ [v])
  | [], _, _, _, _, h, _ => by cases h
  | g :: r, f, j, [], v, h, e => by
    unfold fnIx at h
    by_cases c : f = g
    · subst c
      cases r <;> rfl
    · rw [if_neg c] at h
      subst e
      cases q : fnIx r f <;> rw [q] at h <;> cases h
  | g :: r, f, j, w :: vs, v, h, e => by
    unfold fnIx at h
    by_cases c : f = g
    · rw [if_pos c] at h
      cases h
      cases e
    · rw [if_neg c] at h
      cases q : fnIx r f with
      | none => rw [q] at h; cases h
      | some i =>
        rw [q] at h
        cases h
        show (if g = f then _ else (g, w) :: putF f v (r.zip vs)) = _
        rw [if_neg (fun z => c z.symm), put_new q (by simpa using e)]
        rfl
theorem put_old : ∀ {ns : List Str} {f : Str} {j : Nat} {vs : List V} {v : V}, fnIx ns f = some j → j < vs.length → putF f v (ns.zip vs) = ns.zip (vs.set j v)
  | [], _, _, _, _, h, _ => by cases h
  | g :: r, f, j, [], v, h, e => by cases e
  | g :: r, f, j, w :: vs, v, h, e => by
    unfold fnIx at h
    by_cases c : f = g
    · subst c
      rw [if_pos rfl] at h
      cases h
      show (if f = f then _ else _) = _
      rw [if_pos rfl]
      rfl
    · rw [if_neg c] at h
      cases q : fnIx r f with
      | none => rw [q] at h; cases h
      | some i =>
        rw [q] at h
        cases h
        show (if g = f then _ else (g, w) :: putF f v (r.zip vs)) = _
        rw [if_neg (fun z => c z.symm), put_old q (by simpa using e)]
        rfl
theorem ix_lt : ∀ {ns : List Str} {f : Str} {j : Nat}, fnIx ns f = some j → j < ns.length
  | [], _, _, h => by cases h
  | g :: r, f, j, h => by
    unfold fnIx at h
    by_cases c : f = g
    · rw [if_pos c] at h
      cases h
      exact Nat.succ_pos _
    · rw [if_neg c] at h
      cases q : fnIx r f with
      | none => rw [q] at h; cases h
      | some i =>
        rw [q] at h
        cases h
        exact Nat.succ_lt_succ (ix_lt q)
theorem zip_len {ns : List Str} {vs : List V} (h : ns.length < 1000) : (ns.zip vs).length < 1000 := by
  rw [List.length_zip]
  omega
/-- self.f = e, self being made -/
theorem q_setF {cc : Nat} {m x : Str} (hN : X.N[(0 : Nat)]? = some x) (hv : Vis X.env.scope x) (cl : Cls X.K (L.ca cc)) (hn : NoAttr X.K (L.ca cc) m) (hj : fnIx (L.fn cc) m = some j) (hz : (L.fn cc).length < 1000)
    (he : PE X e (rdE X.K L T W ee)) (hs : swapsWith e (some (.Attribute (.Name x apos) m cpos)) pos.line X.env = pure false) (hd : (x == ("__debug__" : Str)) = false := by decide) (hcd : (x == ("__classdict__" : Str)) = false := by decide) :
    QS X L T W (.Assign [.Attribute (.Name x apos) m cpos] e pos) (.setF cc j ee) := fun F0 G0 am0 =>
  (ps_fld (pe_var hN hv hd hcd) he hs).imp fun D σ H ⟨sl, om, ⟨F, G, am, R⟩, o⟩ =>
    ⟨F, G, am, om, sl, R.mem, R.slr, out_post R o fun d om1 v H1 G1 am1 g R1 r1 o1 => by
      split at o1
      · rename_i c' fs h0
        split at o1
        · rename_i hc
          obtain ⟨rfl, hl⟩ := hc
          obtain ⟨ov, ho, q, dx, vs, rfl, hF, hle, r⟩ := R1.slr.at h0
          refine ⟨_, ho, q, _, dx, _, rfl, R1.mem.fH _ _ hF, cl, hn, zip_len hz, ?_⟩
          rw [put_new hj (by rw [← r.length]; exact hl)]
          have hle' : (vs ++ [v]).length ≤ (L.fn c').length := by
            rw [List.length_append, ← r.length, hl]
            exact ix_lt hj
          obtain ⟨x', dx', vs', e1, e2, e3⟩ := R1.slf _ _ _ h0
          rw [ho] at e1
          cases e1
          rw [hF] at e2
          have edx : dx' = dx := by injection e2 with e2; injection e2 with _ e2 _; exact e2.symm
          rw [edx] at e3
          exact o1 σ _ ⟨_, G1, am1, R1.setUpd h0 rfl ho ⟨q, dx, vs ++ [v], rfl, upd_same, hle', r.append (.cons r1 .nil)⟩ (fun _ _ e => by cases e; exact ⟨dx, vs ++ [v], rfl, e3⟩)⟩
        · exact o1.elim
      · exact o1.elim⟩
/-- x.f = e, x of the store -/
theorem q_stF {cc : Nat} {m x : Str} (hN : X.N[i]? = some x) (hv : Vis X.env.scope x) (cl : Cls X.K (L.ca cc)) (hn : NoAttr X.K (L.ca cc) m) (hj : fnIx (L.fn cc) m = some j) (hz : (L.fn cc).length < 1000)
    (he : PE X e (rdE X.K L T W ee)) (hs : swapsWith e (some (.Attribute (.Name x apos) m cpos)) pos.line X.env = pure false) (hd : (x == ("__debug__" : Str)) = false := by decide) (hcd : (x == ("__classdict__" : Str)) = false := by decide) :
    QS X L T W (.Assign [.Attribute (.Name x apos) m cpos] e pos) (.stF i cc j ee) := fun F0 G0 am0 =>
  (ps_fld (pe_var hN hv hd hcd) he hs).imp fun D σ H ⟨sl, om, ⟨F, G, am, R⟩, o⟩ => by
    simp only [evS] at o
    split at o
    · rename_i k h0
      obtain ⟨ov, ho, v0, rfl, rv⟩ := R.slr.at h0
      cases rv with
      | @amb _ q hk =>
        refine ⟨F, G, am, om, sl, R.mem, R.slr, out_post R o fun d om1 v H1 G1 am1 g R1 r1 o1 => ?_⟩
        split at o1
        · rename_i c' fs h2
          split at o1
          · rename_i hc
            subst hc
            obtain ⟨dx, vs, hq, hle, r⟩ := R1.mem.obs _ _ _ (g.get hk) h2
            refine ⟨_, ho, q, _, dx, _, rfl, hq, cl, hn, zip_len hz, ?_⟩
            split at o1
            · rename_i hlt
              rw [put_old hj (by rw [← r.length]; exact hlt)]
              exact o1 σ _ ⟨_, G1, am1, R1.setMem (R1.mem.setA (g.get hk) ⟨dx, _, upd_same, by rw [List.length_set]; exact hle, r.set j r1⟩)⟩
            · split at o1
              · rename_i heq
                rw [put_new hj (by rw [← r.length]; exact heq.symm)]
                refine o1 σ _ ⟨_, G1, am1, R1.setMem (R1.mem.setA (g.get hk) ⟨dx, _, upd_same, ?_, r.append (.cons r1 .nil)⟩)⟩
                rw [List.length_append, ← r.length, ← heq]
                exact ix_lt hj
              · exact o1.elim
          · exact o1.elim
        · exact o1.elim
    · exact o.elim
/-- x.f += e, x of the store, ints -/
theorem q_auF {cc : Nat} {m x : Str} (hN : X.N[i]? = some x) (hv : Vis X.env.scope x) (cl : Cls X.K (L.ca cc)) (hn : NoAttr X.K (L.ca cc) m) (hj : fnIx (L.fn cc) m = some j) (hz : (L.fn cc).length < 1000)
    (he : PE X e (rdE X.K L T W ee)) (hd : (x == ("__debug__" : Str)) = false := by decide) (hcd : (x == ("__classdict__" : Str)) = false := by decide) :
    QS X L T W (.AugAssign (.Attribute (.Name x apos) m cpos) .Add e pos) (.auF i cc j ee) := fun F0 G0 am0 =>
  (ps_fldaug (pe_var hN hv hd hcd) he in_add).imp fun D σ H ⟨sl, om, ⟨F, G, am, R⟩, o⟩ => by
    simp only [evS] at o
    split at o
    · rename_i k h0
      obtain ⟨ov, ho, v0, rfl, rv⟩ := R.slr.at h0
      cases rv with
      | @amb _ q hk =>
        split at o
        · rename_i c' fs h2
          split at o
          · rename_i hc
            subst hc
            split at o
            · rename_i mm hm
              obtain ⟨dx, vs, hq, hle, r⟩ := R.mem.obs _ _ _ hk h2
              obtain ⟨vm, hvm, rm⟩ := r.get hm
              cases rm
              refine ⟨_, ho, q, _, dx, _, _, rfl, hq, cl, hn, by rw [lookup_ix hj]; exact hvm, F, G, am, om, sl, R.mem, R.slr, out_post R o fun d om1 v H1 G1 am1 g R1 r1 o1 => ?_⟩
              split at o1
              · rename_i nn
                cases r1
                split at o1
                · rename_i c2 fs2 h3
                  split at o1
                  · rename_i hc2
                    obtain ⟨rfl, hlt⟩ := hc2
                    obtain ⟨dx2, vs2, hq2, hle2, r2⟩ := R1.mem.obs _ _ _ (g.get hk) h3
                    refine ⟨mm, nn, rfl, rfl, dx2, _, hq2, zip_len hz, ?_⟩
                    rw [put_old hj (by rw [← r2.length]; exact hlt)]
                    exact o1 σ _ ⟨_, G1, am1, R1.setMem (R1.mem.setA (g.get hk) ⟨dx2, _, upd_same, by rw [List.length_set]; exact hle2, r2.set j (.int _)⟩)⟩
                  · exact o1.elim
                · exact o1.elim
              · exact o1.elim
            · exact o.elim
          · exact o.elim
        · exact o.elim
    · exact o.elim
/-! ### if, while, for -/
theorem q_ite {c : Expr} {ec : E} {p1 p2 : List Stmt} (hc : PT X c (rdT X.K L T W ec)) (ha : QSs X L T W p1 s) (hb : QSs X L T W p2 s') : QS X L T W (.If c p1 p2 pos) (.ite ec s s') := fun F0 G0 am0 =>
  (ps_if hc (ha F0 G0 am0) (hb F0 G0 am0)).imp fun D σ H ⟨sl, om, ⟨F, G, am, R⟩, o⟩ => ⟨F, G, am, om, sl, R.mem, R.slr, out_post R o fun t om1 t' H1 G1 am1 g R1 e o1 => by
    cases e
    cases t with
    | true =>
      rw [if_pos rfl] at o1 ⊢
      exact ⟨sl, om1, ⟨F, G1, am1, R1⟩, o1⟩
    | false =>
      rw [if_neg (by decide)] at o1 ⊢
      exact ⟨sl, om1, ⟨F, G1, am1, R1⟩, o1⟩⟩
theorem q_whl {c : Expr} {ec : E} {body : List Stmt} (hp : PassesOwn (model X.prog X.w) X.A X.env X.xe) (hc : PT X c (rdT X.K L T W ec)) (hb : QSs X L T W body s) : QS X L T W (.While c body [] pos) (.whl ec s) := fun F0 G0 am0 =>
  (ps_while hp hc (hb F0 G0 am0)).imp fun D σ H ⟨sl, om, k, o⟩ => by
    refine ⟨fun m σ H => ∃ sl om, StOk X.K L F0 G0 am0 sl om σ H ∧ OutP X.K L F0 G0 am0 W D (whileGo (evT T ec) (evS T s) m sl om), ⟨T.wf, sl, om, k, o⟩, ?_⟩
    rintro m σ H ⟨sl, om, ⟨F, G, am, R⟩, o⟩
    cases m with
    | zero => exact o.elim
    | succ m =>
      refine ⟨F, G, am, om, sl, R.mem, R.slr, out_post R o fun t om1 t' H1 G1 am1 g R1 e o1 => ?_⟩
      cases e
      cases t with
      | false =>
        rw [if_neg (by decide)] at o1 ⊢
        exact o1 σ H1 ⟨F, G1, am1, R1⟩
      | true =>
        rw [if_pos rfl] at o1 ⊢
        refine ⟨fun σ H => ∃ sl om, StOk X.K L F0 G0 am0 sl om σ H ∧ OutP X.K L F0 G0 am0 W D (whileGo (evT T ec) (evS T s) m sl om), fun σ' H' h => ⟨m, Nat.lt_succ_self m, h⟩, sl, om1, ⟨F, G1, am1, R1⟩, ?_⟩
        cases q : evS T s sl om1 with
        | stuck => rw [q] at o1; exact o1
        | next sl' om' => rw [q] at o1; exact fun σ' H' k' => ⟨sl', om', k', o1⟩
        | brk sl' om' => rw [q] at o1; exact o1
        | cnt sl' om' => rw [q] at o1; exact fun σ' H' k' => ⟨sl', om', k', o1⟩
        | ret d om' => rw [q] at o1; exact o1
        | retF d om' => rw [q] at o1; exact o1
        | exc c fs sl' om' => rw [q] at o1; exact o1
theorem qs_any (hb : QSs X L T W sts s) : PSs X sts (fun D σ H => ∃ F0 G0 am0, rdS X.K L T W F0 G0 am0 s D σ H) := ⟨fun pins st σ H D I ⟨F0, G0, am0, h⟩ => (hb F0 G0 am0).run pins st σ H D I h⟩
theorem q_fo {iter tg : Expr} {it : E} {t : Tg} {g : TG} {body : List Stmt} (hp : PassesOwn (model X.prog X.w) X.A X.env X.xe) (hcalm : X.calm = true) (hi : PI X tg iter (rdI X.K L T W pAny it)) (hg : PG X tg g) (hT : TgS X.K L g t) (hb : QSs X L T W body s)
    (hs : ∀ x, foldedSetIterable iter X.env x = pure x := by intro _; rfl) : QS X L T W (.For tg iter body [] pos) (.fo t it s) := fun F0 G0 am0 =>
  (ps_for hp hcalm hi hg (qs_any hb) hs).imp fun D σ H ⟨sl, om, ⟨F, G, am, R⟩, o⟩ => by
    refine ⟨F, G, am, om, sl, R.mem, R.slr, ?_⟩
    simp only [evS] at o
    cases q : evI T it sl om with
    | stuck => rw [q] at o; exact o
    | exc c fs om1 =>
      rw [q] at o
      exact fun cv dd H1 G1 am1 gg M er => o cv dd σ H1 F G1 am1 (R.grow gg M) er
    | ok ds om1 =>
      rw [q, out_ok] at o
      intro J H1 G1 am1 gg M1 Y
      have R1 := R.grow gg M1
      refine ⟨fun i m σ' H' => m = ds.length - i ∧ i ≤ ds.length ∧ ∃ sl' om' F' G' am', StR X.K L F0 G1 am1 sl' om' σ' H' F' G' am' ∧ OutP X.K L F0 G0 am0 W D (forGo (evS T s) t (ds.drop i) sl' om'), ⟨ds.length, by omega, by omega, sl, om1, F, G1, am1, ⟨R1.f0, Grow.refl, R1.mem, R1.slr, R1.own, R1.slf⟩, by rw [List.drop_zero]; exact o⟩, ?_⟩
      rintro i m σ' H' ⟨hm, hi', sl', om', F', G', am', R', o'⟩
      by_cases hlt : i < ds.length
      · right
        have hd : ds[i]? = some ds[i] := List.getElem?_eq_getElem hlt
        obtain ⟨ygo, yyl⟩ := Y.go i ds[i] F' G' am' om' H' hd trivial R'.g R'.mem
        refine ⟨ygo, _, fun σ2 H2 hn => ⟨ds.length - (i + 1), by omega, hn⟩, fun x H3 hy => ?_⟩
        obtain ⟨G3, g3, M3, r3⟩ := yyl x H3 hy
        have R3 := R'.grow g3 M3
        rw [List.drop_eq_getElem_cons hlt] at o'
        simp only [forGo] at o'
        split at o'
        · exact o'.elim
        · rename_i sl2 hset
          refine hT.run F0 G1 am1 F' G3 am' om' H3 sl' σ' ds[i] x sl2 _ R3 r3 hset fun σ2 R4 => ?_
          refine ⟨F0, G1, am1, sl2, om', ⟨F', G3, am', R4⟩, ?_⟩
          have next : ∀ sl' om', OutP X.K L F0 G0 am0 W D (forGo (evS T s) t (ds.drop (i + 1)) sl' om') → ∀ σ H, StOk X.K L F0 G1 am1 sl' om' σ H → (ds.length - (i + 1) = ds.length - (i + 1) ∧ i + 1 ≤ ds.length ∧ ∃ sl' om' F' G' am', StR X.K L F0 G1 am1 sl' om' σ H F' G' am' ∧ OutP X.K L F0 G0 am0 W D (forGo (evS T s) t (ds.drop (i + 1)) sl' om')) :=
            fun sl' om' oo σ H ⟨F5, G5, am5, R5⟩ => ⟨rfl, hlt, sl', om', F5, G5, am5, R5, oo⟩
          cases q2 : evS T s sl2 om' with
          | stuck => rw [q2] at o'; exact o'
          | next sl3 om3 => rw [q2] at o'; exact next sl3 om3 o'
          | brk sl3 om3 => rw [q2] at o'; exact fun σ5 H5 k5 => o' σ5 H5 (k5.base (R.g.trans gg))
          | cnt sl3 om3 => rw [q2] at o'; exact next sl3 om3 o'
          | ret d om3 => rw [q2] at o'; exact fun v H5 G5 am5 g5 => o' v H5 G5 am5 ((R.g.trans gg).trans g5)
          | retF d om3 => rw [q2] at o'; exact fun p vs H5 G5 am5 g5 => o' p vs H5 G5 am5 ((R.g.trans gg).trans g5)
          | exc c fs sl3 om3 => rw [q2] at o'; exact fun cv dd σ5 H5 F5 G5 am5 k5 => o' cv dd σ5 H5 F5 G5 am5 (k5.base (R.g.trans gg))
      · left
        have e : i = ds.length := by omega
        subst e
        rw [List.drop_length] at o'
        exact ⟨Y.stop F' G' am' om' H' trivial R'.g R'.mem, o' σ' H' ⟨F', G', am', R'.base (R.g.trans gg)⟩⟩
end
end PD

set_option Elab.async false
set_option linter.all false
set_option maxRecDepth 100000
set_option maxHeartbeats 400000
/-! PDL: a def keeps its promise, by its body. -/
namespace PD
open PySem PySem.Spec PyProof.Rows L2
section
variable {K : PySem.W.Frag} {L : Lk} {F G : Hp} {am : List Addr}
theorem slr_start {ds : List D} {vs : List V} (r : RepL K L G am ds vs) (k : Nat) : SlR K L F G am (ds.map .val ++ List.replicate k .no) (vs.map some ++ List.replicate k none) := by
  refine ⟨by simp [r.length], fun i c o h1 h2 => ?_⟩
  by_cases hi : i < ds.length
  · rw [List.getElem?_append_left (by rw [List.length_map]; exact hi), List.getElem?_map] at h1
    rw [List.getElem?_append_left (by rw [List.length_map, ← r.length]; exact hi), List.getElem?_map] at h2
    rw [List.getElem?_eq_getElem hi] at h1
    cases h1
    obtain ⟨v, hv, rv⟩ := r.get (List.getElem?_eq_getElem hi)
    rw [hv] at h2
    cases h2
    exact ⟨v, rfl, rv⟩
  · rw [List.getElem?_append_right (by rw [List.length_map]; omega)] at h1
    have e : c = .no := by
      have z := List.mem_of_getElem? h1
      exact (List.mem_replicate.mp z).2
    subst e
    trivial
theorem no_own {ds : List D} {k i : Nat} {c : Cell} (h : ((ds.map Cell.val) ++ List.replicate k .no)[i]? = some c) : isOwn c = false := by
  have z := List.mem_of_getElem? h
  rw [List.mem_append] at z
  rcases z with z | z
  · obtain ⟨d, _, rfl⟩ := List.mem_map.mp z
    rfl
  · rw [(List.mem_replicate.mp z).2]
    rfl
end
section
variable {P : Program} {w : World} {K : PySem.W.Frag} {mg : Str → Option Value} {base : Heap} {L : Lk} {p : Prog} {fi : Nat → FI} {n : Nat}
/-- where a def's body runs -/
abbrev cxF (P : Program) (w : World) (K : PySem.W.Frag) (mg : Str → Option Value) (base : Heap) (N : List Str) (qual : Str) (st : Stmt) (f : Addr) (cdv : Value) (A : Around) (outer : List Env) (s : Shared) (H : Hp) (E : XK) : Cx := cxOf (L2.CX P w) P w K mg base N qual (defScope st) f cdv A outer s H E
/-- a def as it stands behind the top, whatever its defaults -/
structure FunA (K : PySem.W.Frag) (x qual : Str) (st : Stmt) (f : Addr) (fd : FuncData) : Prop where
  ex : ∃ (oc : Value) (od : Option Addr) (dV kV doc pm : Value) (an : Option Addr) (cdv ct : Value) (osl : Array (Option Value)),
    fd = PySem.W.fnOf x qual (defArgs st) (defBody st) (defScope st) dV kV doc pm an cdv ct ∧ K.lookup f = some ⟨oc, od, .func fd, osl⟩ ∧ PySem.W.codeIn K cdv qual = true
theorem FunA.okX {x qual : Str} {st : Stmt} {f : Addr} {fd : FuncData} {N ps : List Str} {k : Nat} {sp : Sp} (F : FunA K x qual st f fd) (S : FnScope N ps (defScope st)) (len : ∀ vs H Q E, sp vs H Q E → vs.length = ps.length)
    (hbody : ∀ (cdv : Value) (A : Around) (outer : List Env) (s : Shared) (H : Hp) (vs : List V) (Q : VK) (E : XK), Room k (A.deeper (envOfC qual (defScope st) s.heap.objs.size f cdv)) → sp vs H Q E →
      ∃ t, PSs (cxOf (L2.CX P w) P w K mg base N qual (defScope st) f cdv A outer s H E) (defBody st) t ∧ t { nx := fun _ H' => Q .non H', rt := Q } (L2.start N vs) H) : FnOk P w K mg base (L2.CX P w) (k + 1) f fd ps sp := by
  obtain ⟨oc, od, dV, kV, doc, pm, an, cdv, ct, osl, rfl, lk, hcd⟩ := F.ex
  exact fn_of lk hcd S len fun A outer s H vs Q E hr hsp => hbody cdv A outer s H vs Q E hr hsp
theorem fn_zero {f : Addr} {fd : FuncData} {ps : List Str} {sp : Sp} (h : ∀ vs H Q E, ¬ sp vs H Q E) : FnOk P w K mg base (L2.CX P w) 0 f fd ps sp := ⟨fun vs H Q E q => (h vs H Q E q).elim, fun A outer s H args us vs Q E _ _ _ _ q => (h vs H Q E q).elim⟩
theorem spD_zero {f : Nat} (vs : List V) (H : Hp) (Q : VK) (E : XK) : ¬ spD K L p 0 f vs H Q E := by
  rintro ⟨wf, F, G, am, om, ds, _, _, _, h⟩
  split at h <;> exact h.elim
theorem spI_zero {f : Nat} (vs : List V) (H : Hp) (Q : VK) (E : XK) : ¬ spI K L p 0 f vs H Q E := by
  rintro ⟨wf, F, G, am, om, ds, c, x, dx, us, _, _, _, _, _, h⟩
  exact h.elim
theorem fn_ok {x qual : Str} {st : Stmt} {fd : FuncData} {N ps : List Str} {f : Nat} {d : Def} {a : Addr} (Fn : FunA K x qual st a fd) (S : FnScope N ps (defScope st)) (hd : p.defs f = some d) (hc : d.cls = none) (hnp : d.np = ps.length) (hnl : d.nl = N.length) (hle : ps.length ≤ N.length)
    (body : ∀ (wf : Nat) (cdv : Value) (A : Around) (outer : List Env) (s : Shared) (H : Hp) (E : XK), Room (2 * n + 1) (A.deeper (envOfC qual (defScope st) s.heap.objs.size a cdv)) →
      QSs (cxF P w K mg base N qual st a cdv A outer s H E) L (tab p wf n) (fun cls d _ H => E cls d H) (defBody st) d.body) :
    FnOk P w K mg base (L2.CX P w) (2 * (n + 1)) a fd ps (spD K L p (n + 1) f) := by
  refine Fn.okX (k := 2 * n + 1) S (fun vs H Q E h => ?_) (fun cdv A outer s H vs Q E hr h => ?_)
  · obtain ⟨wf, F, G, am, om, ds, M, r, ⟨d', hd', hl⟩, _⟩ := h
    rw [hd] at hd'
    cases hd'
    rw [← r.length, hl, hnp]
  · obtain ⟨wf, F, G, am, om, ds, M, r, ⟨d', hd', hl⟩, post⟩ := h
    rw [hd] at hd'
    cases hd'
    refine ⟨rdS K L (tab p wf n) (fun cls d _ H => E cls d H) ⟨F, none⟩ G am d.body, body wf cdv A outer s H E hr _ _ _, slots d ds, om, ⟨F, G, am, Ex.refl, Grow.refl, M, ?_, fun i c a h1 h2 => ?_, fun i c fs h1 => ?_⟩, ?_⟩
    · have e1 : L2.start N vs = vs.map some ++ List.replicate (d.nl - d.np) none := by
        unfold L2.start
        rw [hnl, ← r.length, hl]
      rw [e1]
      exact slr_start r _
    · rw [no_own h1] at h2
      cases h2
    · have z := no_own h1
      cases z
    · have e : callN p wf (n + 1) f ds om = match evS (tab p wf n) d.body (slots d ds) om with
          | .ret x om' => if p.fresh f = true then .stuck else .ok x om'
          | .retF xs om' => .ok (.lst xs) om'
          | .next _ om' => if p.fresh f = true then .stuck else .ok .non om'
          | .exc c fs _ om' => .exc c fs om'
          | _ => .stuck := by
        rw [callN, hd]
        dsimp only
        rw [if_pos hl]
        rfl
      rw [e] at post
      cases q : evS (tab p wf n) d.body (slots d ds) om with
      | stuck => rw [q] at post; split at post <;> exact post
      | brk sl om => rw [q] at post; split at post <;> exact post.elim
      | cnt sl om => rw [q] at post; split at post <;> exact post.elim
      | exc c fs sl om' =>
        rw [q] at post
        intro cv dd σ H' F' G' am' R er
        split at post
        · exact post cv dd H' G' am' R.g (R.mem.less R.f0) er
        · exact post cv dd H' G' am' R.g (R.mem.less R.f0) er
      | next sl om' =>
        rw [q] at post
        rintro σ H' ⟨F', G', am', R⟩
        split at post
        · exact post.elim
        · exact post .non H' G' am' R.g (R.mem.less R.f0) .non
      | ret x om' =>
        rw [q] at post
        intro v H' G' am' g M' rr
        split at post
        · exact post.elim
        · exact post v H' G' am' g M' rr
      | retF xs om' =>
        rw [q] at post
        intro q' ws H' G' am' g hF M' rr
        split at post
        · obtain ⟨ds', e', post⟩ := post
          cases e'
          exact post q' ws H' G' am' g hF M' rr
        · have hg : G' q' = none := M'.fg _ _ upd_same
          refine post (.ref q') H' (upd G' q' (.lst ws)) am' (g.trans (Grow.of hg)) (M'.freeze upd_same fun a u e => ?_) (.lst upd_same (rr.up (Grow.of hg)))
          have hne : a ≠ q' := fun z => by
            rw [z] at e
            have e' : F q' = some u := e
            have hF' : F q' = none := hF
            rw [hF'] at e'
            cases e'
          exact ⟨by rw [upd_ne hne]; exact e, hne⟩
/-- the maker of a frozen instance -/
theorem fnI_ok {x qual : Str} {st : Stmt} {fd : FuncData} {N ps : List Str} {f c : Nat} {d : Def} {a : Addr} (Fn : FunA K x qual st a fd) (S : FnScope N ps (defScope st)) (hd : p.defs f = some d) (hc : d.cls = some c) (hnp : d.np = ps.length) (hnl : d.nl = N.length) (hle : ps.length ≤ N.length)
    (body : ∀ (wf : Nat) (cdv : Value) (A : Around) (outer : List Env) (s : Shared) (H : Hp) (E : XK), Room (2 * n + 1) (A.deeper (envOfC qual (defScope st) s.heap.objs.size a cdv)) →
      QSs (cxF P w K mg base N qual st a cdv A outer s H E) L (tab p wf n) (fun cls d _ H => E cls d H) (defBody st) d.body) :
    FnOk P w K mg base (L2.CX P w) (2 * (n + 1)) a fd ps (spI K L p (n + 1) f) := by
  refine Fn.okX (k := 2 * n + 1) S (fun vs H Q E h => ?_) (fun cdv A outer s H vs Q E hr h => ?_)
  · obtain ⟨wf, F, G, am, om, ds, c', x', dx, us, rfl, M, hF, r, ⟨d', hd', _, hl⟩, _⟩ := h
    rw [hd] at hd'
    cases hd'
    rw [List.length_cons, ← r.length, hl, hnp]
  · obtain ⟨wf, F, G, am, om, ds, c', x', dx, us, rfl, M, hF, r, ⟨d', hd', hc', hl⟩, post⟩ := h
    rw [hd] at hd'
    cases hd'
    rw [hc] at hc'
    cases hc'
    have eF : Ex (fun b => if b = x' then none else F b) F := fun b o h => by
      dsimp only at h
      split at h
      · cases h
      · exact h
    refine ⟨rdS K L (tab p wf n) (fun cls d _ H => E cls d H) ⟨fun b => if b = x' then none else F b, some (x', dx)⟩ G am d.body, body wf cdv A outer s H E hr _ _ _, .newo c [] :: (ds.map .val ++ List.replicate (d.nl - d.np) .no), om, ⟨F, G, am, eF, Grow.refl, M, ?_, fun i c1 a1 h1 h2 h3 => ?_, fun i c1 fs h1 => ?_⟩, ?_⟩
    · have e1 : L2.start N (V.ref x' :: us) = some (V.ref x') :: (us.map some ++ List.replicate (d.nl - d.np) none) := by
        unfold L2.start
        rw [List.map_cons, List.length_cons, hnl, ← r.length, hl]
        rfl
      rw [e1]
      obtain ⟨z1, z2⟩ := slr_start (F := F) r (d.nl - d.np)
      refine ⟨by rw [List.length_cons, List.length_cons, z1], fun i c1 o h1 h2 => ?_⟩
      cases i with
      | zero =>
        cases h1
        cases h2
        exact ⟨x', dx, [], rfl, by rw [List.zip_nil_right]; exact hF, Nat.zero_le _, .nil⟩
      | succ i => exact z2 i c1 o h1 h2
    · cases i with
      | zero =>
        cases h1
        have e : a1 = x' := by
          have h3' : some (some (V.ref x')) = some (some (V.ref a1)) := h3
          cases h3'
          rfl
        subst e
        refine ⟨if_pos rfl, fun j c2 hj g1 g2 => ?_⟩
        cases j with
        | zero => exact absurd rfl hj
        | succ j =>
          rw [no_own g1] at g2
          cases g2
      | succ i =>
        rw [no_own h1] at h2
        cases h2
    · cases i with
      | zero =>
        cases h1
        exact ⟨x', dx, [], rfl, by rw [List.zip_nil_right]; exact hF, rfl⟩
      | succ i =>
        have z := no_own h1
        cases z
    · have e : initN p wf (n + 1) f ds om = match evS (tab p wf n) d.body (.newo c [] :: (ds.map .val ++ List.replicate (d.nl - d.np) .no)) om with
          | .next sl om' => match sl[(0 : Nat)]? with
            | some (.newo c' fs) => if c' = c then .ok fs om' else .stuck
            | _ => .stuck
          | .exc c fs _ om' => .exc c fs om'
          | _ => .stuck := by
        rw [initN, hd]
        dsimp only
        rw [hc]
        dsimp only
        rw [if_pos hl]
        rfl
      rw [e] at post
      cases q : evS (tab p wf n) d.body (.newo c [] :: (ds.map .val ++ List.replicate (d.nl - d.np) .no)) om with
      | stuck => rw [q] at post; exact post
      | brk sl om => rw [q] at post; exact post.elim
      | cnt sl om => rw [q] at post; exact post.elim
      | ret x om => rw [q] at post; exact post.elim
      | retF x om => rw [q] at post; exact post.elim
      | exc c1 fs sl om' =>
        rw [q] at post
        intro cv dd σ H' F' G' am' R er
        exact post cv dd H' G' am' R.g (R.mem.less R.f0) er
      | next sl om' =>
        rw [q] at post
        rintro σ H' ⟨F', G', am', R⟩
        dsimp only at post
        cases q0 : sl[(0 : Nat)]? with
        | none => rw [q0] at post; exact post.elim
        | some c0 =>
          rw [q0] at post
          cases c0 with
          | no => exact post.elim
          | val _ => exact post.elim
          | own _ => exact post.elim
          | exn => exact post.elim
          | newo c1 fs =>
            dsimp only at post
            by_cases hcc : c1 = c
            · subst hcc
              rw [if_pos rfl] at post
              obtain ⟨o, ho, a1, dx1, ws, rfl, hF1, _, rr⟩ := R.slr.at q0
              obtain ⟨x2, dx2, ws2, e1, e2, e3⟩ := R.slf _ _ _ q0
              rw [ho] at e1
              cases e1
              cases e3
              rw [hF1] at e2
              have edx : dx1 = dx := by injection e2 with e2; injection e2
              subst edx
              refine post ws H' G' am' R.g (R.mem.less fun b o hb => ?_) rr
              by_cases cb : b = x'
              · subst cb
                rw [upd_same] at hb
                rw [← hb]
                exact hF1
              · rw [upd_ne cb] at hb
                refine R.f0 b o ?_
                show (if b = x' then none else F b) = _
                rw [if_neg cb]
                exact hb
            · rw [if_neg hcc] at post
              exact post.elim
end
end PD

set_option Elab.async false
set_option linter.all false
set_option maxRecDepth 100000
set_option maxHeartbeats 400000
/-! PDP: own exceptions: raised, caught. -/
namespace PD
open PySem PySem.Spec PyProof.Rows L2
/-- L at a caught exception -/
def Lk.wx (L : Lk) (x : Option (Addr × Option (Addr × Str × V))) : Lk := { L with xa := x }
section
variable {K : PySem.W.Frag} {L L' : Lk} {F G H : Hp} {am : List Addr} {om : Om}
mutual
theorem rep_sw (hc : L'.ca = L.ca) (hf : L'.fn = L.fn) : ∀ (d : D) (v : V), Rep K L G am d v → Rep K L' G am d v
  | _, _, .non => .non
  | _, _, .bl b => .bl b
  | _, _, .int i => .int i
  | _, _, .str s => .str s
  | .lst ds, _, .lst h r => .lst h (repL_sw hc hf ds _ r)
  | .tup ds, _, .tup h r => .tup h (repL_sw hc hf ds _ r)
  | .obj c fs, _, .obj h n r => .obj (by rw [hc, hf]; exact h) (by rw [hf]; exact n) (repL_sw hc hf fs _ r)
  | _, _, .amb h => .amb h
  | .scr ds, _, .scr h r => .scr h (repL_sw hc hf ds _ r)
theorem repL_sw (hc : L'.ca = L.ca) (hf : L'.fn = L.fn) : ∀ (ds : List D) (vs : List V), RepL K L G am ds vs → RepL K L' G am ds vs
  | _, _, .nil => .nil
  | d :: ds, v :: vs, .cons h r => .cons (rep_sw hc hf d v h) (repL_sw hc hf ds vs r)
end
theorem obR_sw (hc : L'.ca = L.ca) (hf : L'.fn = L.fn) {o : Ob} {a : Addr} (h : ObR K L G am H o a) : ObR K L' G am H o a := by
  cases o with
  | pl ds =>
    obtain ⟨vs, h1, r⟩ := h
    exact ⟨vs, h1, repL_sw hc hf _ _ r⟩
  | ob c fs =>
    unfold ObR at h ⊢
    rw [hc, hf]
    first
      | (obtain ⟨dx, vs, h1, h2, r⟩ := h; exact ⟨dx, vs, h1, h2, repL_sw hc hf _ _ r⟩)
      | (obtain ⟨dx, vs, h1, r⟩ := h; exact ⟨dx, vs, h1, repL_sw hc hf _ _ r⟩)
  | dc ks ds =>
    obtain ⟨vs, h1, n, r⟩ := h
    exact ⟨vs, h1, n, repL_sw hc hf _ _ r⟩
theorem mem_sw (hc : L'.ca = L.ca) (hf : L'.fn = L.fn) (M : Mem K L F G am om H) : Mem K L' F G am om H :=
  ⟨M.gH, M.fH, M.fg, M.len, fun k a o h1 h2 => obR_sw hc hf (M.obs k a o h1 h2), M.nd, M.ag, M.af⟩
theorem slR_sw (hc : L'.ca = L.ca) (hf : L'.fn = L.fn) {sl : Sl} {σ : L2.St} (h : SlR K L F G am sl σ) : SlR K L' F G am (unx sl) σ := by
  refine ⟨by rw [unx, List.length_map]; exact h.1, fun i c o h1 h2 => ?_⟩
  rw [unx, List.getElem?_map] at h1
  cases q : sl[i]? with
  | none => rw [q] at h1; cases h1
  | some c0 =>
    rw [q] at h1
    cases h1
    have z := h.2 i c0 o q h2
    cases c0 with
    | no => trivial
    | val d =>
      obtain ⟨v, e, r⟩ := z
      exact ⟨v, e, rep_sw hc hf _ _ r⟩
    | own ds =>
      obtain ⟨a, vs, e, f, r⟩ := z
      exact ⟨a, vs, e, f, repL_sw hc hf _ _ r⟩
    | newo c fs =>
      obtain ⟨a, dx, vs, e, f, n, r⟩ := z
      exact ⟨a, dx, vs, e, by rw [hc, hf]; exact f, by rw [hf]; exact n, repL_sw hc hf _ _ r⟩
    | exn => trivial
theorem unx_get {sl : Sl} {i : Nat} {c : Cell} (h : (unx sl)[i]? = some c) : ∃ c0, sl[i]? = some c0 ∧ (c = c0 ∨ c = .no) := by
  rw [unx, List.getElem?_map] at h
  cases q : sl[i]? with
  | none => rw [q] at h; cases h
  | some c0 =>
    rw [q] at h
    cases h
    cases c0 with
    | exn => exact ⟨_, rfl, .inr rfl⟩
    | no => exact ⟨_, rfl, .inl rfl⟩
    | val d => exact ⟨_, rfl, .inl rfl⟩
    | own d => exact ⟨_, rfl, .inl rfl⟩
    | newo c d => exact ⟨_, rfl, .inl rfl⟩
theorem stR_sw (hc : L'.ca = L.ca) (hf : L'.fn = L.fn) {F0 : FB} {G0 : Hp} {am0 : List Addr} {sl : Sl} {σ : L2.St} (R : StR K L F0 G0 am0 sl om σ H F G am) : StR K L' F0 G0 am0 (unx sl) om σ H F G am := by
  refine ⟨R.f0, R.g, mem_sw hc hf R.mem, slR_sw hc hf R.slr, fun i c a h1 h2 h3 => ?_, fun i c fs h1 => ?_⟩
  · obtain ⟨c0, q, e⟩ := unx_get h1
    rcases e with rfl | rfl
    · obtain ⟨y1, y2⟩ := R.own i c a q h2 h3
      refine ⟨y1, fun j c' hj g1 g2 => ?_⟩
      obtain ⟨c1, q1, e1⟩ := unx_get g1
      rcases e1 with rfl | rfl
      · exact y2 j c' hj q1 g2
      · cases g2
    · cases h2
  · obtain ⟨c0, q, e⟩ := unx_get h1
    rcases e with rfl | e
    · rw [hc, hf]
      exact R.slf i c fs q
    · cases e
end
section
variable {X : Cx} {L : Lk} {p : Prog} {fi : Nat → FI} {n wf : Nat} {W : WX} {T : Tb}
theorem qs_never {sts : List Stmt} : QSs X L T W sts .never := fun F0 G0 am0 => ⟨fun pins s σ H D I ⟨sl, om, k, o⟩ => o.elim⟩
/-- raise C('text'), C without fields -/
theorem q_rais0 {x m : Str} {j c : Nat} {pp p2 pos pos' : Pos} {B newId initId : String} {bmB : List Value} (hcalm : X.calm = true) (tk : Takes X W) (F : ExcBaseFacts B newId initId bmB) (q : PySem.W.excIn X.K (L.ca c) bmB newId = true) (gC : X.mg x = some (.ref (L.ca c)))
    (kC : PySem.W.keepIn X.K (.ref (L.ca c)) = true) (r : Raises X (.ref (L.ca c))) (hg : Gl X x) (hdb : (x == ("__debug__" : Str)) = false := by decide) :
    QS X L T W (.Raise (some (.Call (.Name x pp) [.Constant (.str m) j p2] [] pos)) none pos') (.rais c .nil) := fun F0 G0 am0 =>
  (ps_raise hcalm tk (pmk_own F q gC kC r hg hdb)).imp fun D σ H ⟨sl, om, ⟨F, G, am, R⟩, o⟩ => by
    have e : evS T (.rais c .nil) sl om = .exc c [] sl om := by
      rw [evS, evL]
      rfl
    rw [e] at o
    exact o _ _ σ H F G am R ⟨rfl, rfl⟩
/-- what is known of a caught exception's field -/
def XfR (K : PySem.W.Frag) (L : Lk) (c : Nat) (fs : List D) (d : Option Addr) (xf : Option (Addr × Str × V)) : Prop := match fs with
  | [] => d = none ∧ xf = none
  | d0 :: _ => ∃ dd v nm G am, d = some dd ∧ (L.fn c).head? = some nm ∧ xf = some (dd, nm, v) ∧ Rep K L G am d0 v
theorem aft_out {K : PySem.W.Frag} {W W0 : WX} {F0 : FB} {G0 : Hp} {am0 : List Addr} {Dn : Ends} {i : Nat} {o : Out} {x : Option (Addr × Option (Addr × Str × V))} (h : OutP K L F0 G0 am0 W Dn (aft i o)) :
    OutP K (L.wx x) F0 G0 am0 W0 { nx := fun σ' H' => Dn.nx (σ'.set i none) H', rt := Dn.rt, bk := fun σ' H' => Dn.bk (σ'.set i none) H', ct := fun σ' H' => Dn.ct (σ'.set i none) H' } o := by
  have st : ∀ {sl : Sl} {om : Om} {σ : L2.St} {H : Hp}, StOk K (L.wx x) F0 G0 am0 sl om σ H → StOk K L F0 G0 am0 (unx (sl.set i .no)) om (σ.set i none) H := fun ⟨F, G, am, R⟩ =>
    ⟨F, G, am, stR_sw (L := L.wx x) (L' := L) rfl rfl (R.setVal (i := i) (c := .no) (o := none) rfl trivial)⟩
  cases o with
  | stuck => exact h
  | exc c fs sl om => exact h.elim
  | next sl om => exact fun σ H k => h _ _ (st k)
  | brk sl om => exact fun σ H k => h _ _ (st k)
  | cnt sl om => exact fun σ H k => h _ _ (st k)
  | ret d om => exact fun v H G am g M r => h v H G am g (mem_sw (L := L.wx x) rfl rfl M) (rep_sw (L := L.wx x) (L' := L) rfl rfl _ _ r)
  | retF ds om => exact fun p vs H G am g hn M r => h p vs H G am g hn (mem_sw (L := L.wx x) rfl rfl M) (repL_sw (L := L.wx x) (L' := L) rfl rfl _ _ r)
/-- try .. except c as n -/
theorem q_try {x nm : Str} {cc : Nat} {i : Nat} {body suite : List Stmt} {b₀ : Stmt} {np pos pos' : Pos} {sb : S} {cs : Nat → Option Bool} {hd : Nat → List D → S}
    (hs : X.stack = X.env :: X.outer) (hf : X.env.frame = some X.env.locals) (hN : X.N.Nodup) (hi : X.N[i]? = some nm) (hln : X.env.kindOf nm = some .local) (hc : Names X x (.ref (L.ca cc))) (tk : Takes X W)
    (hcs : ∀ c b, cs c = some b → PySem.W.exmOne X.K (.ref (L.ca c)) (.ref (L.ca cc)) = some b)
    (hb : ∀ (W' : WX) (pn : List (Addr × Obj)) (xe : Value → Shared → Prop), Takes (X.tr pn xe) W' → PassesOwn (model X.prog X.w) X.A X.env xe → QSs (X.tr pn xe) L T W' body sb)
    (hsu : ∀ (c : Nat) (fs : List D) (a : Addr) (oe : Obj) (d : Option Addr) (pn : List (Addr × Obj)) (xf : Option (Addr × Str × V)), cs c = some true → Zc (.ref (L.ca c)) d oe → (∃ vs, oe.data = .fields vs) → XfR X.K L c fs d xf →
      QSs (X.suite a ((a, oe) :: pn)) (L.wx (some (a, xf))) T (fun _ _ _ _ => False) (b₀ :: suite) (hd c fs)) :
    QS X L T W (.Try body [.ExceptHandler (some (.Name x np)) (some nm) (b₀ :: suite) pos'] [] [] pos) (.tr sb cs i hd) := fun F0 G0 am0 => by
  refine (ps_try_as (Wout := W) (c := .ref (L.ca cc)) (i := i) (tb := fun W' => rdS X.K L T W' F0 G0 am0 sb)
    (ts := fun a cls d Dn σ H => ∃ (c : Nat) (fs : List D) (xf : Option (Addr × Str × V)), cls = .ref (L.ca c) ∧ cs c = some true ∧ XfR X.K L c fs d xf ∧ rdS X.K (L.wx (some (a, xf))) T (fun _ _ _ _ => False) F0 G0 am0 (hd c fs) Dn σ H)
    hs hf hN hi hln hc tk (fun W' pn xe t po => hb W' pn xe t po F0 G0 am0) (fun a oe cls d pn hz hv => ?_)).imp fun Dn σ H ⟨sl, om, k, o⟩ => ?_
  · refine ⟨fun pins s σ H Dn I h => ?_⟩
    obtain ⟨c, fs, xf, ec, hcc, hx, h⟩ := h
    subst ec
    exact (hsu c fs a oe d pn xf hcc hz hv hx F0 G0 am0).run pins s σ H Dn I h
  · refine ⟨sl, om, k, ?_⟩
    have e : evS T (.tr sb cs i hd) sl om = match evS T sb sl om with
      | .exc c fs sl om => match cs c with
        | some true => aft i (evS T (hd c fs) ((unx sl).set i .exn) om)
        | some false => .exc c fs sl om
        | none => .stuck
      | o => o := by rw [evS] <;> rfl
    rw [e] at o
    cases q : evS T sb sl om with
    | stuck => rw [q] at o; exact o
    | next sl' om' => rw [q] at o; exact o
    | brk sl' om' => rw [q] at o; exact o
    | cnt sl' om' => rw [q] at o; exact o
    | ret d om' => rw [q] at o; exact o
    | retF d om' => rw [q] at o; exact o
    | exc c fs sl1 om1 =>
      rw [q] at o
      dsimp only at o
      intro cv dd σ1 H1 F G am R er
      obtain ⟨ecv, er2⟩ := er
      subst ecv
      cases qc : cs c with
      | none => rw [qc] at o; exact o.elim
      | some b =>
        refine ⟨b, hcs c b qc, fun hbt a ha => ?_, fun hbf => ?_⟩
        · subst hbt
          rw [qc] at o
          have main : ∀ xf, XfR X.K L c fs dd xf → (∀ d2 nm v, xf = some (d2, nm, v) → G d2 = some (.xd [(nm, v)])) → ∃ (c' : Nat) (fs' : List D) (xf : Option (Addr × Str × V)), (Value.ref (L.ca c)) = .ref (L.ca c') ∧ cs c' = some true ∧ XfR X.K L c' fs' dd xf ∧
              rdS X.K (L.wx (some (a, xf))) T (fun _ _ _ _ => False) F0 G0 am0 (hd c' fs') { nx := fun σ' H' => Dn.nx (σ'.set i none) H', rt := Dn.rt, bk := fun σ' H' => Dn.bk (σ'.set i none) H', ct := fun σ' H' => Dn.ct (σ'.set i none) H' } (σ1.set i (some (.ref a))) H1 := fun xf hx hg =>
            ⟨c, fs, xf, rfl, qc, hx, (unx sl1).set i .exn, om1, ⟨F, G, am, (stR_sw (L := L) (L' := L.wx (some (a, xf))) rfl rfl R).setVal (i := i) (c := .exn) (o := some (.ref a)) rfl ⟨a, xf, rfl, rfl, hg⟩⟩, aft_out o⟩
          cases fs with
          | nil => exact main none ⟨er2, rfl⟩ fun _ _ _ e => by cases e
          | cons d0 fs =>
            obtain ⟨y, v, nm', e1, e2, e3, e4⟩ := er2
            exact main (some (y, nm', v)) ⟨y, v, nm', G, am, e1, e2, rfl, e4⟩ fun d2 nm2 v2 e => by cases e; exact e3
        · subst hbf
          rw [qc] at o
          exact o _ _ σ1 H1 F G am R ⟨rfl, er2⟩
end

/-! ### in the suite of a caught exception without fields -/
section
variable {X : Cx} {L : Lk} {T : Tb} {W : WX} {a D0 : Addr} {oe : Obj} {pn : List (Addr × Obj)} {xf : Option (Addr × Str × V)} {i : Nat} {nm : Str} {b : Bool} {p1 p3 pp pos : Pos} {c : Expr} {es : List Expr} {cv : V} {cvs : List V} {cu : Value} {cus : List Value} {x1 : Nat}
theorem kit_exc (C : ExcC X.K D0) (hz : Zc (.ref D0) none oe) (hf : ∃ vs, oe.data = .fields vs) {pins : List (Addr × Obj)} {σ : L2.St} {H : Hp} {s : Shared} (I : Inv (X.suite a ((a, oe) :: pn)) pins σ H s) : ∃ P : Heap → Prop, PySem.W.KitX X.K (.ref a) (.ref D0) P ∧ P s.heap := by
  have hp := (I.pin (a, oe) (List.mem_append_left _ (List.mem_cons_self ..))).1
  obtain ⟨fv, hfv⟩ := hf
  refine ⟨_, PySem.W.handS_kitx_exc (x := a) (ox := oe) C.hg C.hk C.hs C.hd C.ha C.hn C.ht C.hm, ⟨hp, hz.1, ?_, ?_⟩⟩
  · unfold PySem.W.notCls
    rw [hfv] <;> rfl
  · rw [hz.2]
    trivial
def rX1 (K : PySem.W.Frag) (D0 a : Addr) : List V → Hp → VK → Prop := fun xs H Q => ∃ (cv : V) (cu : Value) (b : Bool), xs = [.ref a, cv] ∧ ClsV cv cu ∧ PySem.W.kitOne K (.ref D0) cu = some b ∧ Q (.bl b) H
def rXT (K : PySem.W.Frag) (D0 a : Addr) : List V → Hp → VK → Prop := fun xs H Q => ∃ (tp : Addr) (cvs : List V) (cus : List Value) (b : Bool), xs = [.ref a, .ref tp] ∧ H tp = some (.tup cvs) ∧ Paired ClsV cvs cus ∧ PySem.W.kitAny K (.ref D0) cus = some b ∧ Q (.bl b) H
theorem call_x1 (C : ExcC X.K D0) (hz : Zc (.ref D0) none oe) (hf : ∃ vs, oe.data = .fields vs) : CallR (X.suite a ((a, oe) :: pn)) (.builtin "isinstance") (rX1 X.K D0 a) := by
  rintro pins s σ H xs us Q I r ⟨cv, cu, b, rfl, kc, e, q⟩
  obtain ⟨w1, w2, rfl, r1, r2⟩ := vals2 r
  obtain rfl : w1 = Value.ref a := r1
  have e2 := kc.eq r2
  subst e2
  obtain ⟨P, Z, hP⟩ := kit_exc C hz hf I
  exact PySem.W.kia_one Z I.kIn hP e (fun z => nomatch z) fun tk => ⟨.bl b, H, I.tok tk, rfl, q⟩
theorem call_xT (C : ExcC X.K D0) (hz : Zc (.ref D0) none oe) (hf : ∃ vs, oe.data = .fields vs) : CallR (X.suite a ((a, oe) :: pn)) (.builtin "isinstance") (rXT X.K D0 a) := by
  rintro pins s σ H xs us Q I r ⟨tp, cvs, cus, b, rfl, hT, kc, e, q⟩
  obtain ⟨w1, w2, rfl, r1, r2⟩ := vals2 r
  obtain rfl : w1 = Value.ref a := r1
  obtain rfl : w2 = Value.ref tp := r2
  obtain ⟨P, Z, hP⟩ := kit_exc C hz hf I
  obtain ⟨_, its, rv, ob, g1, g2, nn, g3⟩ := (show ObjOk X.prog X.w H s.heap tp (.tup cvs) from I.hok tp _ hT)
  have e3 := ClsV.all kc rv
  subst e3
  obtain ⟨ocl, odd, odt, osl⟩ := ob
  dsimp only at g2 g3
  subst g2 g3
  exact PySem.W.kia_tup Z I.kIn hP g1 e (fun z => nomatch z) fun tk => ⟨.bl b, H, I.tok tk, rfl, q⟩
theorem exn_at {K : PySem.W.Frag} {F G : Hp} {am : List Addr} {sl : Sl} {σ : L2.St} (S : SlR K (L.wx (some (a, xf))) F G am sl σ) (h : sl[i]? = some .exn) : σ[i]? = some (some (.ref a)) ∧ ∀ dd nm v, xf = some (dd, nm, v) → G dd = some (.xd [(nm, v)]) := by
  obtain ⟨o, ho, a', x, e1, e2, k⟩ := S.at h
  have e3 : some (a, xf) = some (a', x) := e1
  cases e3
  exact ⟨by rw [ho, e2], k⟩
theorem xf_cases {sl : Sl} {om : Om} {d : D} : (sl[i]? = some .exn ∧ evE T (.xf i d) sl om = .ok d om) ∨ evE T (.xf i d) sl om = .stuck := by
  rw [evE]
  split
  · rename_i h
    exact .inl ⟨h, rfl⟩
  · exact .inr rfl
/-- isinstance(e, C) -/
theorem pE_x1 (C : ExcC X.K D0) (hz : Zc (.ref D0) none oe) (hf : ∃ vs, oe.data = .fields vs) (hN : (X.suite a ((a, oe) :: pn)).N[i]? = some nm) (hv : Vis (X.suite a ((a, oe) :: pn)).env.scope nm) (hg : Gl (X.suite a ((a, oe) :: pn)) "isinstance") (hm : X.mg "isinstance" = none)
    (kc : ClsV cv cu) (hk : PySem.W.kitOne X.K (.ref D0) cu = some b) (hc : PE (X.suite a ((a, oe) :: pn)) c (tC cv)) (hdb : (nm == ("__debug__" : Str)) = false := by decide) (hcd : (nm == ("__classdict__" : Str)) = false := by decide)
    (he : starEach (.Name nm p1 :: [c]) X.env = (false, eval (.Name nm p1) X.env) :: starEach [c] X.env := by rfl) (he2 : starEach (c :: []) X.env = (false, eval c X.env) :: starEach [] X.env := by rfl) (hpl : (backTo pos (starEach [c] X.env)).any (·.1) = false := by rfl) :
    PE (X.suite a ((a, oe) :: pn)) (.Call (.Name "isinstance" pp) [.Name nm p1, c] [] pos) (rdE X.K (L.wx (some (a, xf))) T W (.xf i (.bl b))) :=
  (pe_callB (call_x1 C hz hf) hg hm rfl (pa_cons (pe_var hN hv hdb hcd) (pa_cons hc pa_nil he2) he) (by decide) (by decide) he hpl).imp fun σ H Q ⟨F, G, am, om, sl, M, S, q⟩ => by
    rcases xf_cases (T := T) (i := i) (sl := sl) (om := om) (d := .bl b) with ⟨h, e⟩ | e
    · rw [e] at q
      exact ⟨.ref a, (exn_at S h).1, cv, cu, b, rfl, kc, hk, q _ H G am Grow.refl M (.bl b)⟩
    · rw [e] at q
      exact q.elim
/-- isinstance(e, (C1, C2, ..)) -/
theorem pE_xT (C : ExcC X.K D0) (hz : Zc (.ref D0) none oe) (hf : ∃ vs, oe.data = .fields vs) (hN : (X.suite a ((a, oe) :: pn)).N[i]? = some nm) (hv : Vis (X.suite a ((a, oe) :: pn)).env.scope nm) (hg : Gl (X.suite a ((a, oe) :: pn)) "isinstance") (hm : X.mg "isinstance" = none)
    (kc : Paired ClsV cvs cus) (hk : PySem.W.kitAny X.K (.ref D0) cus = some b) (hl : cvs.length ≤ 1000) {ta : TA} (hc : PA (X.suite a ((a, oe) :: pn)) es ta) (hta : ∀ σ H (Q : List V → Hp → Prop), Q cvs H → ta σ H Q) (hdb : (nm == ("__debug__" : Str)) = false := by decide) (hcd : (nm == ("__classdict__" : Str)) = false := by decide)
    (he : starEach (.Name nm p1 :: [.Tuple es x1 p3]) X.env = (false, eval (.Name nm p1) X.env) :: starEach [.Tuple es x1 p3] X.env := by rfl) (he2 : starEach (.Tuple es x1 p3 :: []) X.env = (false, eval (.Tuple es x1 p3) X.env) :: starEach [] X.env := by rfl) (hpl : (backTo pos (starEach [.Tuple es x1 p3] X.env)).any (·.1) = false := by rfl) :
    PE (X.suite a ((a, oe) :: pn)) (.Call (.Name "isinstance" pp) [.Name nm p1, .Tuple es x1 p3] [] pos) (rdE X.K (L.wx (some (a, xf))) T W (.xf i (.bl b))) :=
  (pe_callB (call_xT C hz hf) hg hm rfl (pa_cons (pe_var hN hv hdb hcd) (pa_cons (pe_tup hc) pa_nil he2) he) (by decide) (by decide) he hpl).imp fun σ H Q ⟨F, G, am, om, sl, M, S, q⟩ => by
    rcases xf_cases (T := T) (i := i) (sl := sl) (om := om) (d := .bl b) with ⟨h, e⟩ | e
    · rw [e] at q
      refine ⟨.ref a, (exn_at S h).1, hta _ _ _ ⟨sz_le (by omega), fun t ht => ⟨t, cvs, cus, b, rfl, upd_same, kc, hk, ?_⟩⟩⟩
      exact q _ _ _ am (Grow.of (M.none_g ht)) (M.new ht) (.bl b)
    · rw [e] at q
      exact q.elim
/-- e.f: a text or an int -/
theorem pE_xf {f : Str} {d : Option Addr} {d0 : D} {fs : List D} {cc : Nat} (TC : XfC X.K (L.ca cc)) (hno : PySem.W.findIn X.K (.ref (L.ca cc)) f = some none) (hz : Zc (.ref (L.ca cc)) d oe) (hf : ∃ vs, oe.data = .fields vs) (hx : XfR X.K L cc (d0 :: fs) d xf) (hfn : (L.fn cc).head? = some f)
    (hflat : (∃ t, d0 = .str t) ∨ (∃ z, d0 = .int z)) (hN : (X.suite a ((a, oe) :: pn)).N[i]? = some nm) (hv : Vis (X.suite a ((a, oe) :: pn)).env.scope nm) (hdb : (nm == ("__debug__" : Str)) = false := by decide) (hcd : (nm == ("__classdict__" : Str)) = false := by decide)
    (hb : attributeBase (.Name nm p1) f X.env (eval (.Name nm p1) X.env) = eval (.Name nm p1) X.env := by rfl) :
    PE (X.suite a ((a, oe) :: pn)) (.Attribute (.Name nm p1) f pos) (rdE X.K (L.wx (some (a, xf))) T W (.xf i d0)) :=
  (pe_xf TC hno hz hf (pe_var hN hv hdb hcd) hb).imp fun σ H Q ⟨F, G, am, om, sl, M, S, q⟩ => by
    rcases xf_cases (T := T) (i := i) (sl := sl) (om := om) (d := d0) with ⟨h, e⟩ | e
    · rw [e] at q
      obtain ⟨dd, v, nm', G', am', e1, e2, e3, e4⟩ := hx
      have e5 : nm' = f := by
        rw [hfn] at e2
        exact (Option.some.inj e2).symm
      subst e5
      obtain ⟨z1, z2⟩ := exn_at S h
      refine ⟨.ref a, z1, rfl, rfl, dd, [(nm', v)], v, e1, M.gH _ _ (z2 _ _ _ e3), by simp [List.lookup], ?_⟩
      rcases hflat with ⟨t, rfl⟩ | ⟨t, rfl⟩
      · cases e4
        exact q _ H G am Grow.refl M (.str t)
      · cases e4
        exact q _ H G am Grow.refl M (.int t)
    · rw [e] at q
      exact q.elim
end
end PD

set_option Elab.async false
set_option linter.all false
set_option maxRecDepth 100000
set_option maxHeartbeats 400000
/-! PDQ: lists in the store as values. -/
namespace PD
open PySem PySem.Spec PyProof.Rows L2
section
variable {X : Cx} {L : Lk} {p : Prog} {fi : Nat → FI} {n wf : Nat} {W : WX} {T : Tb} {i : Nat} {ea eo ee : E} {a o e : Expr} {pos apos cpos : Pos}
/-- a new list goes into the store -/
theorem pE_nl (h : PE X a (rdF X.K L T W ea)) : PE X a (rdE X.K L T W (.nl ea)) := h.imp fun σ H Q ⟨F, G, am, om, sl, M, S, pp⟩ => ⟨F, G, am, om, sl, M, S, by
  have e : evE T (.nl ea) sl om = (evE T ea sl om).bind fun d om => match d with | .lst ds => .ok (.amb om.length) (om ++ [.pl ds]) | _ => .stuck := by rw [evE] <;> rfl
  rw [e] at pp
  cases q : evE T ea sl om with
  | stuck => rw [q] at pp; exact pp
  | exc c fs om1 => rw [q] at pp; exact pp
  | ok d om1 =>
    rw [q] at pp
    cases d with
    | lst ds =>
      refine ⟨ds, rfl, fun r vs H1 G1 am1 g hp M1 rr => ?_⟩
      have gA : Grow G1 am1 G1 (am1 ++ [r]) := ⟨Ex.refl, [r], rfl⟩
      have M2 : Mem X.K L F G1 (am1 ++ [r]) (om1 ++ [.pl ds]) H1 := M1.toA hp ⟨vs, M1.fH _ _ upd_same, rr.up gA⟩
      have hk : (am1 ++ [r])[om1.length]? = some r := by
        rw [← M1.len, List.getElem?_append_right (Nat.le_refl _), Nat.sub_self]
        rfl
      exact pp (.ref r) H1 G1 (am1 ++ [r]) (g.trans gA) M2 (.amb hk)
    | non => exact pp.elim
    | bl _ => exact pp.elim
    | int _ => exact pp.elim
    | str _ => exact pp.elim
    | tup _ => exact pp.elim
    | obj _ _ => exact pp.elim
    | amb _ => exact pp.elim
    | scr _ => exact pp.elim⟩
theorem q_appE {apos2 : Pos} (ho : PE X o (rdE X.K L T W eo)) (he : PE X e (rdE X.K L T W ee))
    (hp : ∀ {to : TE} {t : TA}, PE X o to → PA X [e] t → PS X (.Expr (.Call (.Attribute o "append" apos2) [e] [] cpos) pos) (tDrop (tBM X.K "list" rAppend to t))) (hs : starEach (e :: []) X.env = (false, eval e X.env) :: starEach [] X.env := by rfl) : QS X L T W (.Expr (.Call (.Attribute o "append" apos2) [e] [] cpos) pos) (.appE eo ee) := fun F0 G0 am0 =>
  (hp ho (pa_cons he pa_nil hs)).imp fun D σ H ⟨sl, om, ⟨F, G, am, R⟩, oo⟩ => by
    simp only [evS] at oo
    refine ⟨F, G, am, om, sl, R.mem, R.slr, out_post R oo fun rr om0 v0 H0 G2 am2 g0 R0 rv o0 => ?_⟩
    split at o0
    · rename_i k
      split at o0
      · rename_i ds0 h1
        cases rv with
        | @amb _ q hk =>
          obtain ⟨vs0, hq0, _⟩ := R0.mem.obs _ _ _ hk h1
          refine ⟨.inl ⟨rfl, vs0, SqL.of hq0⟩, F, G2, am2, om0, sl, R0.mem, R0.slr, out_post R0 o0 fun d om1 v H1 G1 am1 g R1 r1 o1 => ?_⟩
          split at o1
          · rename_i ds h2
            obtain ⟨vs, hq, r⟩ := R1.mem.obs _ _ _ (g.get hk) h2
            split at o1
            · rename_i hlt
              exact ⟨q, vs, v, rfl, rfl, hq, sz_lt (by rw [← r.length]; exact hlt), o1 σ _ ⟨_, G1, am1, R1.setMem (R1.mem.setA (g.get hk) ⟨_, upd_same, r.append (.cons r1 .nil)⟩)⟩⟩
            · exact o1.elim
          · exact o1.elim
      · exact o0.elim
    · exact o0.elim
/-! ### a written tuple that is looked into -/
theorem pB_inK {x : Str} {ka : Addr} {ss : List Str} {pp pos : Pos} {T : Tb} (o : Cop) (ho : o = .inn ∨ o = .nin) (hg : Gl X x) (hm : X.mg x = some (.ref ka)) (hk : ∀ H, SqT X.K H ka (ss.map V.str)) (ha : PE X a (rdB X.K L T W ea)) (hd : (x == ("__debug__" : Str)) = false := by decide) (hmk : behindInMarks o.py (.Name x pp) = false := by with_unfolding_all rfl) :
    PE X (.Compare a [o.py] [.Name x pp] pos) (rdE X.K L T W (.cm o ea (.k (.tup (ss.map D.str))))) ∧ PT X (.Compare a [o.py] [.Name x pp] pos) (rdT X.K L T W (.cm o ea (.k (.tup (ss.map D.str))))) := by
  have hn : PE X (.Name x pp) (tC (.ref ka)) := pe_glob hg hm rfl hd
  have hps : ∀ ss : List Str, toPs (ss.map D.str) = some (ss.map PyData.str) := by
    intro ss
    induction ss with
    | nil => rfl
    | cons s r ih => rw [List.map_cons, toPs, ih]; rfl
  have hfl : ∀ ss : List Str, (ss.map D.str).all flatD = true := fun ss => by simp [flatD]
  have hfv : ∀ ss : List Str, (ss.map V.str).all flatV = true := fun ss => by simp [flatV]
  have key : ∀ (b : Bool) (F G : Hp) (am : List Addr) (d : D) (v : V) (H : Hp) (om : Om), Mem X.K L F G am om H → RepB X.K L F G am d v → inA d (.tup (ss.map D.str)) om = some b → flatV v = true ∧ inV v (ss.map V.str) = b := by
    intro b F G am d v H om M r h
    change inT d (ss.map D.str) = some b at h
    unfold inT at h
    split at h
    · rename_i hs
      rw [Bool.and_eq_true] at hs
      rw [hps ss] at h
      split at h
      · rename_i q qs h1 h2
        cases h2
        cases h
        have r' : Rep X.K L G am d v := by
          rcases r with r | ⟨_, _, _, rfl, _⟩
          · exact r
          · cases hs.1
        have rs : ∀ ss : List Str, RepL X.K L G am (ss.map D.str) (ss.map V.str) := fun ss => strs_rep ss
        have z := inV_of r' hs.1 h1 (rs ss) (hfl ss) (hps ss)
        exact ⟨(flat_v r' hs.1 h1).1, z.2⟩
      · cases h
    · cases h
  have ev : ∀ sl om, evE T (.cm o ea (.k (.tup (ss.map D.str)))) sl om = (evE T ea sl om).bind fun x om => (cmp T o x (.tup (ss.map D.str)) om).bind fun c om => .ok (.bl c) om := fun sl om => rfl
  rcases ho with rfl | rfl
  · have fin : ∀ {σ : L2.St} {H : Hp} {Q : VK} {F G : Hp} {am : List Addr} {om : Om} {sl : Sl}, Mem X.K L F G am om H → SlR X.K L F G am sl σ → Post X.K L (Rep X.K L) F G am (evE T (.cm .inn ea (.k (.tup (ss.map D.str)))) sl om) (fun cv dd H => W cv dd σ H) Q →
        tOp (rIn X.K false) (rdB X.K L T W ea) (tC (.ref ka)) σ H Q := by
      intro σ H Q F G am om sl M S pp
      rw [ev] at pp
      exact ⟨F, G, am, om, sl, M, S, Post.bind pp fun d om1 v H1 G1 am1 g1 M1 r1 p1 => by
        obtain ⟨b, e, q⟩ : ∃ b, inA d (.tup (ss.map D.str)) om1 = some b ∧ Post X.K L (Rep X.K L) F G1 am1 (.ok (.bl b) om1) (fun cv dd H => W cv dd σ H) Q := by
          change Post X.K L (Rep X.K L) F G1 am1 ((opt (inA d (.tup (ss.map D.str)) om1) om1).bind _) _ _ at p1
          cases z : inA d (.tup (ss.map D.str)) om1 with
          | none => rw [z] at p1; exact p1.elim
          | some b => rw [z] at p1; exact ⟨b, rfl, p1⟩
        obtain ⟨f1, f2⟩ := key b F G1 am1 d v H1 om1 M1 r1 e
        refine ⟨ka, ss.map V.str, rfl, .inr (hk _), f1, hfv ss, ?_⟩
        rw [f2]
        exact q _ H1 G1 am1 Grow.refl M1 (.bl b)⟩
    refine ⟨(pe_cmpR op_in_seq ha hn hmk).imp fun σ H Q ⟨F, G, am, om, sl, M, S, pp⟩ => fin M S pp, (pt_cmpR op_in_seq ha hn hmk).imp fun σ H Q ⟨F, G, am, om, sl, M, S, pp⟩ => ?_⟩
    refine fin (Q := fun v H => ∃ b, v = .bl b ∧ Q b H) M S ?_
    unfold evT at pp
    cases z : evE T (.cm .inn ea (.k (.tup (ss.map D.str)))) sl om with
    | stuck => rw [z] at pp; exact pp.elim
    | exc c fs om1 => rw [z] at pp; exact pp
    | ok d om1 =>
      rw [z] at pp
      intro v H1 G1 am1 g1 M1 r1
      have hb : ∃ b, d = .bl b := by
        rw [ev] at z
        cases z1 : evE T ea sl om with
        | stuck => rw [z1] at z; cases z
        | exc c fs om1 => rw [z1] at z; cases z
        | ok d1 om2 =>
          rw [z1] at z
          change ((opt (inA d1 (.tup (ss.map D.str)) om2) om2).bind fun c om => Rs.ok (D.bl c) om) = _ at z
          cases z2 : inA d1 (.tup (ss.map D.str)) om2 with
          | none => rw [z2] at z; cases z
          | some b => rw [z2] at z; cases z; exact ⟨b, rfl⟩
      obtain ⟨b, rfl⟩ := hb
      cases r1
      exact ⟨b, rfl, pp b H1 G1 am1 g1 M1 rfl⟩
  · have fin : ∀ {σ : L2.St} {H : Hp} {Q : VK} {F G : Hp} {am : List Addr} {om : Om} {sl : Sl}, Mem X.K L F G am om H → SlR X.K L F G am sl σ → Post X.K L (Rep X.K L) F G am (evE T (.cm .nin ea (.k (.tup (ss.map D.str)))) sl om) (fun cv dd H => W cv dd σ H) Q →
        tOp (rIn X.K true) (rdB X.K L T W ea) (tC (.ref ka)) σ H Q := by
      intro σ H Q F G am om sl M S pp
      rw [ev] at pp
      exact ⟨F, G, am, om, sl, M, S, Post.bind pp fun d om1 v H1 G1 am1 g1 M1 r1 p1 => by
        obtain ⟨b, e, q⟩ : ∃ b, inA d (.tup (ss.map D.str)) om1 = some b ∧ Post X.K L (Rep X.K L) F G1 am1 (.ok (.bl (!b)) om1) (fun cv dd H => W cv dd σ H) Q := by
          change Post X.K L (Rep X.K L) F G1 am1 ((opt ((inA d (.tup (ss.map D.str)) om1).map (!·)) om1).bind _) _ _ at p1
          cases z : inA d (.tup (ss.map D.str)) om1 with
          | none => rw [z] at p1; exact p1.elim
          | some b => rw [z] at p1; exact ⟨b, rfl, p1⟩
        obtain ⟨f1, f2⟩ := key b F G1 am1 d v H1 om1 M1 r1 e
        refine ⟨ka, ss.map V.str, rfl, .inr (hk _), f1, hfv ss, ?_⟩
        rw [f2]
        exact q _ H1 G1 am1 Grow.refl M1 (.bl (!b))⟩
    refine ⟨(pe_cmpR op_notIn_seq ha hn hmk).imp fun σ H Q ⟨F, G, am, om, sl, M, S, pp⟩ => fin M S pp, (pt_cmpR op_notIn_seq ha hn hmk).imp fun σ H Q ⟨F, G, am, om, sl, M, S, pp⟩ => ?_⟩
    refine fin (Q := fun v H => ∃ b, v = .bl b ∧ Q b H) M S ?_
    unfold evT at pp
    cases z : evE T (.cm .nin ea (.k (.tup (ss.map D.str)))) sl om with
    | stuck => rw [z] at pp; exact pp.elim
    | exc c fs om1 => rw [z] at pp; exact pp
    | ok d om1 =>
      rw [z] at pp
      intro v H1 G1 am1 g1 M1 r1
      have hb : ∃ b, d = .bl b := by
        rw [ev] at z
        cases z1 : evE T ea sl om with
        | stuck => rw [z1] at z; cases z
        | exc c fs om1 => rw [z1] at z; cases z
        | ok d1 om2 =>
          rw [z1] at z
          change ((opt ((inA d1 (.tup (ss.map D.str)) om2).map (!·)) om2).bind fun c om => Rs.ok (D.bl c) om) = _ at z
          cases z2 : inA d1 (.tup (ss.map D.str)) om2 with
          | none => rw [z2] at z; cases z
          | some b => rw [z2] at z; cases z; exact ⟨_, rfl⟩
      obtain ⟨b, rfl⟩ := hb
      cases r1
      exact ⟨b, rfl, pp b H1 G1 am1 g1 M1 rfl⟩
theorem pE_inK {x : Str} {ka : Addr} {ss : List Str} {pp pos : Pos} {T : Tb} (o : Cop) (ho : o = .inn ∨ o = .nin) (hg : Gl X x) (hm : X.mg x = some (.ref ka)) (hk : ∀ H, SqT X.K H ka (ss.map V.str)) (ha : PE X a (rdB X.K L T W ea)) (hd : (x == ("__debug__" : Str)) = false := by decide) (hmk : behindInMarks o.py (.Name x pp) = false := by with_unfolding_all rfl) :
    PE X (.Compare a [o.py] [.Name x pp] pos) (rdE X.K L T W (.cm o ea (.k (.tup (ss.map D.str))))) := (pB_inK o ho hg hm hk ha hd hmk).1
theorem pT_inK {x : Str} {ka : Addr} {ss : List Str} {pp pos : Pos} {T : Tb} (o : Cop) (ho : o = .inn ∨ o = .nin) (hg : Gl X x) (hm : X.mg x = some (.ref ka)) (hk : ∀ H, SqT X.K H ka (ss.map V.str)) (ha : PE X a (rdB X.K L T W ea)) (hd : (x == ("__debug__" : Str)) = false := by decide) (hmk : behindInMarks o.py (.Name x pp) = false := by with_unfolding_all rfl) :
    PT X (.Compare a [o.py] [.Name x pp] pos) (rdT X.K L T W (.cm o ea (.k (.tup (ss.map D.str))))) := (pB_inK o ho hg hm hk ha hd hmk).2
theorem hu_room {n : Nat} (hr : Room (2 * n + 1) X.A) : X.A.units + 1 < cLine := by
  have := hr.un
  omega
/-! ### dicts of the store -/
theorem dg_val : ∀ {ks : List L2.Key} {ds : List D} {vs : List V} {k : L2.Key} {d : D} {K : PySem.W.Frag} {G : Hp} {am : List Addr}, ks.length = vs.length → RepL K L G am ds vs → dgD ks ds k = some d → ∃ v, valV (ks.zip vs) k = some v ∧ Rep K L G am d v
  | [], _, _, _, _, _, _, _, _, _, h => by simp [dgD] at h
  | k0 :: ks, [], _, _, _, _, _, _, _, _, h => by simp [dgD] at h
  | k0 :: ks, d0 :: ds, v0 :: vs, k, d, K, G, am, n, .cons r0 r, h => by
    rw [dgD] at h
    rw [List.zip_cons_cons]
    split at h
    · rename_i e
      cases h
      exact ⟨v0, valV_pos e, r0⟩
    · rename_i e
      rw [valV_neg e]
      exact dg_val (by simpa using n) r h
theorem dp_put : ∀ {ks : List L2.Key} {ds es : List D} {vs : List V} {k : L2.Key} {d : D} {v : V} {K : PySem.W.Frag} {G : Hp} {am : List Addr}, ks.Nodup → ks.length = vs.length → RepL K L G am ds vs → Rep K L G am d v → dpD ks ds k d = some es →
    ∃ ws, (∃ z, valV (ks.zip vs) k = some z) ∧ (ks.zip vs).map (fun kv => if kv.1 = k then (kv.1, v) else kv) = ks.zip ws ∧ ks.length = ws.length ∧ RepL K L G am es ws
  | [], _, _, _, _, _, _, _, _, _, _, _, _, _, h => by simp [dpD] at h
  | k0 :: ks, [], _, _, _, _, _, _, _, _, _, _, _, _, h => by simp [dpD] at h
  | k0 :: ks, d0 :: ds, es, v0 :: vs, k, d, v, K, G, am, nd, n, .cons r0 r, rd, h => by
    rw [dpD] at h
    rw [List.nodup_cons] at nd
    rw [List.zip_cons_cons, List.map_cons]
    split at h
    · rename_i e
      cases h
      refine ⟨v :: vs, ⟨v0, valV_pos e⟩, ?_, n, .cons rd r⟩
      rw [if_pos e, List.zip_cons_cons]
      refine congrArg _ ?_
      have : ∀ kv ∈ ks.zip vs, (if kv.1 = k then (kv.1, v) else kv) = kv := fun kv hm => by
        rw [if_neg]
        intro e2
        refine nd.1 ?_
        rw [e, ← e2]
        exact (List.of_mem_zip hm).1
      rw [List.map_congr_left this]
      simp
    · rename_i e
      cases q : dpD ks ds k d with
      | none => rw [q] at h; cases h
      | some es' =>
        rw [q] at h
        cases h
        obtain ⟨ws, ⟨z, hz⟩, h1, h2, h3⟩ := dp_put nd.2 (by simpa using n) r rd q
        refine ⟨v0 :: ws, ⟨z, by rw [valV_neg e]; exact hz⟩, ?_, by simpa using h2, .cons r0 h3⟩
        rw [if_neg e, List.zip_cons_cons]
        exact congrArg _ h1
theorem pE_dg {k : L2.Key} {b : Expr} (hu : X.A.units + 1 < cLine) (ho : PE X o (rdE X.K L T W eo)) (hb : PE X b (tC (kV k))) (hs : NoSl b) : PE X (.Subscript o b pos) (rdE X.K L T W (.dg eo k)) :=
  (pe_dget hu ho hb hs).imp fun σ H Q ⟨F, G, am, om, sl, M, S, pp⟩ => ⟨F, G, am, om, sl, M, S, Post.bind pp fun d om1 v H1 G1 am1 g1 M1 r1 p1 => by
    split at p1
    · rename_i j
      split at p1
      · rename_i ks ds hds
        split at p1
        · rename_i d hd
          cases r1 with
          | @amb _ a hk =>
            obtain ⟨vs, h1, n, r⟩ := M1.obs _ _ _ hk hds
            obtain ⟨w, hw, rw'⟩ := dg_val n.1 r hd
            refine ⟨a, w, rfl, ?_, p1 w H1 G1 am1 Grow.refl M1 rw'⟩
            have z := DGet.k (k := k) h1
            rw [hw] at z
            exact z
        · exact p1.elim
      · exact p1.elim
    · exact p1.elim⟩
theorem out_bind {α : Type} {r : Rs α} {sl : Sl} {f : α → Om → Out} : True := trivial
theorem q_dput {k : L2.Key} {b : Expr} {pos' : Pos} (hu : X.A.units + 1 < cLine) (ho : PE X o (rdE X.K L T W eo)) (hb : PE X b (tC (kV k))) (he : PE X e (rdE X.K L T W ee)) (hs : swapsWith e (some (.Subscript o b pos')) pos.line X.env = pure false := by rfl) :
    QS X L T W (.Assign [.Subscript o b pos'] e pos) (.dput eo k ee) := fun F0 G0 am0 => by
  exact (ps_dput hu ho hb he hs).imp fun D σ H ⟨sl, om, ⟨F, G, am, R⟩, oo⟩ => by
    simp only [evS] at oo
    refine ⟨F, G, am, om, sl, R.mem, R.slr, out_post R oo fun d om0 v0 H0 G2 am2 g0 R0 rv o0 => ?_⟩
    refine ⟨F, G2, am2, om0, sl, R0.mem, R0.slr, out_post R0 o0 fun r om1 v H1 G1 am1 g R1 r1 o1 => ?_⟩
    split at o1
    · rename_i j
      split at o1
      · rename_i ks ds hds
        split at o1
        · rename_i es hes
          cases r1 with
          | @amb _ a hk =>
            obtain ⟨vs, h1, n, r⟩ := R1.mem.obs _ _ _ hk hds
            obtain ⟨ws, ⟨z, hz⟩, e1, e2, e3⟩ := dp_put n.2.1 n.1 r (rv.up g) hes
            have hany : ((ks.zip vs).any fun kv => decide (kv.1 = k)) = true := by rw [valV_any, hz]; rfl
            have hput : putK (ks.zip vs) k v0 = ks.zip ws := by
              unfold putK
              rw [if_pos hany]
              exact e1
            have hlen : (ks.zip vs).length < sizeLine := by
              rw [List.length_zip, ← n.1, Nat.min_self]
              exact Nat.lt_of_le_of_lt n.2.2 (by decide)
            refine ⟨a, _, rfl, DPut.k h1 hlen, ?_⟩
            rw [hput]
            exact o1 σ _ ⟨_, G1, am1, R1.setMem (R1.mem.setA hk ⟨ws, upd_same, ⟨e2, n.2⟩, e3⟩)⟩
        · exact o1.elim
      · exact o1.elim
    · exact o1.elim
/-! ### a dict's display -/
theorem merge_nd : ∀ (ks : List L2.Key) (vs : List V) (acc : List (L2.Key × V)), ks.Nodup → (∀ k ∈ ks, ∀ kv ∈ acc, kv.1 ≠ k) → mergeK acc (ks.zip vs) = acc ++ ks.zip vs
  | [], _, acc, _, _ => by simp [mergeK]
  | k :: ks, [], acc, _, _ => by simp [mergeK]
  | k :: ks, v :: vs, acc, nd, h => by
    rw [List.nodup_cons] at nd
    rw [List.zip_cons_cons]
    show mergeK (putK acc k v) (ks.zip vs) = _
    have hn : valV acc k = none := by
      unfold valV
      rw [List.find?_eq_none.mpr fun kv hm => by simpa using h k (List.mem_cons_self ..) kv hm]
      rfl
    rw [putK_new v hn, merge_nd ks vs _ nd.2, List.append_assoc]
    · rfl
    · intro k' hk' kv hm
      rw [List.mem_append] at hm
      rcases hm with hm | hm
      · exact h k' (List.mem_cons_of_mem _ hk') kv hm
      · rw [List.mem_singleton] at hm
        subst hm
        exact fun e => nd.1 (by rw [show k = k' from e]; exact hk')
theorem Mem.lessQ {K : PySem.W.Frag} {L : Lk} {F F' G H : Hp} {am : List Addr} {om : Om} (e : Ex F F') (M : Mem K L F' G am om H) : Mem K L F G am om H :=
  ⟨M.gH, fun a o h => M.fH a o (e a o h), fun a o h => M.fg a o (e a o h), M.len, M.obs, M.nd, M.ag, fun a ha => by
    cases q : F a with
    | none => rfl
    | some o =>
      have z := M.af a ha
      rw [e a o q] at z
      cases z⟩
theorem SlR.more {K : PySem.W.Frag} {L : Lk} {F F' G : Hp} {am : List Addr} {sl : Sl} {σ : L2.St} (e : Ex F F') (h : SlR K L F G am sl σ) : SlR K L F' G am sl σ := ⟨h.1, fun i c o h1 h2 => by
  have z := h.2 i c o h1 h2
  cases c with
  | no => exact z
  | val d => exact z
  | own ds =>
    obtain ⟨a, vs, q1, q2, q3⟩ := z
    exact ⟨a, vs, q1, e _ _ q2, q3⟩
  | newo c fs =>
    obtain ⟨a, dx, vs, q1, q2, q3⟩ := z
    exact ⟨a, dx, vs, q1, e _ _ q2, q3⟩
  | exn => exact z⟩
def PDsp (X : Cx) (L : Lk) (T : Tb) (W : WX) (pos : Pos) (keys : List (Option Expr)) (values : List Expr) (ks : List L2.Key) (er : E) : Prop :=
  ∃ trs, PPs X pos keys values trs ∧ ∀ σ H (Q : List (V × V) → Hp → Prop), rdL X.K L T W er σ H (fun vs H2 => ks.length = vs.length → Q ((ks.zip vs).map (fun kv => (kV kv.1, kv.2))) H2) → tPairs trs σ H Q
theorem pD_nil : PDsp X L T W pos [] [] [] .nil := ⟨[], pps_nil, fun σ H Q ⟨F, G, am, om, sl, M, S, pp⟩ => pp [] H G am Grow.refl M .nil rfl⟩
theorem pD_cons {k : Str} {j : Nat} {p1 : Pos} {keys : List (Option Expr)} {values : List Expr} {ks : List L2.Key} {er : E} (ha : PE X a (rdE X.K L T W ea)) (hr : PDsp X L T W pos keys values ks er) :
    PDsp X L T W pos (some (.Constant (.str k) j p1) :: keys) (a :: values) (.inr k :: ks) (.cons ea er) := by
  obtain ⟨trs, h1, h2⟩ := hr
  refine ⟨(tC (.str k), rdE X.K L T W ea) :: trs, pps_cons pe_str ha h1, fun σ H Q ⟨F, G, am, om, sl, M, S, pp⟩ => ?_⟩
  show rdE X.K L T W ea σ H fun y H2 => tPairs trs σ H2 fun ps H3 => Q ((.str k, y) :: ps) H3
  refine ⟨F, G, am, om, sl, M, S, Post.bind (show Post X.K L (RepL X.K L) F G am ((evE T ea sl om).bind fun x om => (evL T er sl om).bind fun xs om => .ok (x :: xs) om) _ _ from pp) fun d om1 v H1 G1 am1 g1 M1 r1 p1 => ?_⟩
  exact h2 σ H1 _ ⟨F, G1, am1, om1, sl, M1, S.grow g1, p1.bind fun ds om2 vs H2 G2 am2 g2 M2 r2 p2 hlen => p2 _ H2 G2 am2 Grow.refl M2 (.cons (r1.up g2) r2) (by rw [List.length_cons, List.length_cons, hlen])⟩
theorem pE_dnw {keys : List (Option Expr)} {values : List Expr} {ks : List L2.Key} {er : E} (h : PDsp X L T W pos keys values ks er) (hall : keys.all (·.isSome) = true) (hl : keys.length = values.length) (h0 : keys ≠ []) (h15 : keys.length ≤ 15) (hk : ks.Nodup) (hkl : ks.length ≤ 15) :
    PE X (.Dict keys values pos) (rdE X.K L T W (.dnw ks er)) := by
  obtain ⟨trs, h1, h2⟩ := h
  refine (pe_disp h1 hall hl h0 h15).imp fun σ H Q ⟨F, G, am, om, sl, M, S, pp⟩ => ?_
  intro p hp
  have hf := M.none_f hp
  have eF : Ex F (upd F p (.dK [])) := Ex.new hf
  refine h2 σ (upd H p (.dK [])) _ ⟨upd F p (.dK []), G, am, om, sl, M.newF hp, S.more eF, ?_⟩
  have e : evE T (.dnw ks er) sl om = (evL T er sl om).bind fun xs om => if ks.length = xs.length then .ok (.amb om.length) (om ++ [.dc ks xs]) else .stuck := by rw [evE]
  rw [e] at pp
  cases q : evL T er sl om with
  | stuck => rw [q] at pp; exact pp
  | exc c fs om1 => rw [q] at pp; exact fun cv dd H' G' am' g M' => pp cv dd H' G' am' g (Mem.lessQ eF M')
  | ok ds om1 =>
    rw [q] at pp
    rw [bind_ok] at pp
    intro vs H1 G1 am1 g1 M1 r1 hlen
    rw [if_pos (by rw [r1.length]; exact hlen)] at pp
    have hF : (upd F p (.dK [])) p = some (.dK []) := upd_same
    refine ⟨M1.fH _ _ hF, ks.zip vs, rfl, by rw [List.length_zip, ← hlen, Nat.min_self]; exact hkl, ?_⟩
    rw [merge_nd ks vs [] hk (fun _ _ _ h => nomatch h), List.nil_append]
    have M2 := M1.setF (u := .dK (ks.zip vs)) hF
    rw [upd_upd] at M2
    have M3 : Mem X.K L F G1 (am1 ++ [p]) (om1 ++ [.dc ks ds]) (upd H1 p (.dK (ks.zip vs))) := M2.toA hf ⟨vs, upd_same, ⟨hlen, hk, Nat.le_trans hkl (by decide)⟩, r1.up ⟨Ex.refl, [p], rfl⟩⟩
    have hkk : (am1 ++ [p])[om1.length]? = some p := by
      rw [← M1.len, List.getElem?_append_right (Nat.le_refl _), Nat.sub_self]
      rfl
    exact pp (.ref p) _ G1 (am1 ++ [p]) (g1.trans ⟨Ex.refl, [p], rfl⟩) M3 (.amb hkk)
end
end PD

set_option Elab.async false
set_option linter.all false
set_option maxRecDepth 100000
set_option maxHeartbeats 1000000
/-! PDR: own errors with an __init__ that says super().__init__(text) and keeps one field. -/
namespace PD
open PySem PySem.Spec PyProof.Rows L2 PySem.W PySem.Calls
/-- the context of a def that closes over __class__ -/
def cxS (CX : CXT) (P : Program) (w : World) (K : PySem.W.Frag) (mg : Str → Option Value) (base : Heap) (N : List Str) (qual : Str) (scope : Scope) (f : Addr) (cd : Value) (cc : Addr) (A : Around) (outer : List Env) (s : Shared) (H : Hp) (E : XK) : Cx where
  prog := P
  w := w
  K := K
  mg := mg
  base := base
  A := A.deeper (ksEnv qual scope s.heap.objs.size f cd cc)
  N := N
  s_0 := s
  H_0 := H
  env := ksEnv qual scope s.heap.objs.size f cd cc
  outer := outer
  stack := ksEnv qual scope s.heap.objs.size f cd cc :: outer
  ex := []
  calm := true
  fn := fun _ => false
  pn := []
  xe := fun e s' => wpAny (model P w) (A.deeper (ksEnv qual scope s.heap.objs.size f cd cc)) (leaving (ksEnv qual scope s.heap.objs.size f cd cc) e) (fun _ s'' => CX outer H s E e s'') (fun e' s'' => CX outer H s E e' s'') s'
/-- the scope of such an __init__ -/
structure SupScope (sx px : Str) (sc : Scope) : Prop where
  kind : sc.kind = .function
  co : sc.isCoroutine = false
  gen : sc.isGenerator = false
  ne : sx ≠ px
  ls : sc.names.lookup sx = some .local
  lp : sc.names.lookup px = some .local
  nocell : ∀ y ∈ sc.names, y.2 ≠ .cell
  free : ∀ y ∈ sc.names, y.2 = .free → y.1 = "__class__"
  su : sc.names.lookup ("super" : Str) = some .globalImplicit
  cl : sc.names.lookup ("__class__" : Str) = some .free
section
variable {CX : CXT} {P : Program} {w : World} {K : PySem.W.Frag} {mg : Str → Option Value} {base : Heap} {qual : Str} {scope : Scope} {f cc C : Addr} {cd : Value} {A : Around} {outer : List Env} {s : Shared} {H : Hp} {E : XK} {sx px : Str}
theorem inv_super {v1 v2 : V} {u1 u2 cl : Value} {cld : Option Addr} {csl : Array (Option Value)} {h₀ : Heap} {tk : Nat} (S : SupScope sx px scope) (e0 : Env0 P w K mg base A outer s H) (hd : A.handled = none) (hcc : K.lookup cc = some ⟨cl, cld, .cell (some (.ref C)), csl⟩)
    (r1 : RelV v1 u1) (r2 : RelV v2 u2) (hns : h₀.Ns s.heap.objs.size (fun x => [(sx, u1), (px, u2)].reverse.lookup x)) (hk : ∀ b o, s.heap.get? b = some o → h₀.get? b = some o) :
    Inv (cxS CX P w K mg base [sx, px] qual scope f cd cc A outer s H E) [] [some v1, some v2] H { s with heap := h₀, toks := tk } := by
  have noA : ∀ b : Addr, b ∉ (cxS CX P w K mg base [sx, px] qual scope f cd cc A outer s H E).ex := fun b z => absurd (show b ∈ ([] : List Addr) from z) (by simp)
  have hb := e0.bs _ _ (e0.mod.kin _ _ hcc)
  have hce : ∀ {x : Str} {c : Addr}, ([(("__class__" : Str), cc)] : List (Str × Addr)).lookup x = some c → x = "__class__" ∧ c = cc := fun {x c} h => by
    rw [List.lookup_cons] at h
    by_cases e : x = ("__class__" : Str)
    · subst e
      simp at h
      exact ⟨rfl, h.symm⟩
    · have e' : (x == ("__class__" : Str)) = false := by simpa using e
      rw [e'] at h
      cases h
  refine ⟨⟨e0.mod, S.kind, rfl, rfl, Nat.le_refl _, fun y z c h1 h2 => ?_, fun y hy => ?_, fun y c h _ => ?_, fun _ => hd, Around.frames_deeper e0.frames, .inr ⟨rfl, rfl⟩, fun b z => absurd z (noA b), e0.bs, e0.bsz, fun b _ _ => noA b, fun b z => absurd z (noA b), e0.funs, e0.frf⟩,
    rfl, e0.bare, Un.kept hk, ⟨_, hns, fun i y v h1 h2 h3 => ?_⟩, fun y c h => ?_, e0.hok.fresh (Nat.le_refl _), fun y c h => ?_, fun p hp => absurd (show p ∈ ([] : List (Addr × Obj)) from hp) (by simp), e0.hok.kept hk, rfl⟩
  · exact (hce h1).1.trans (hce h2).1.symm
  · have hy : scope.names.lookup y = some .cell ∨ scope.names.lookup y = some .free := hy
    rcases hy with hy | hy
    · exact absurd rfl (S.nocell _ (PySem.mem_of_lookup hy))
    · have e := S.free _ (PySem.mem_of_lookup hy) rfl
      have e' : y = "__class__" := e
      subst e'
      exact ⟨cc, by show List.lookup ("__class__" : Str) ([(("__class__" : Str), cc)] : List (Str × Addr)) = some cc; simp⟩
  · cases h
  · have h1' : ([sx, px] : List Str)[i]? = some y := h1
    match i, h1', h2 with
    | 0, h1', h2 =>
      cases h1'
      cases h2
      refine ⟨u1, r1, .inl ⟨S.ls, ?_⟩⟩
      have e : (sx == px) = false := by simpa using S.ne
      simp [List.lookup, e]
    | 1, h1', h2 =>
      cases h1'
      cases h2
      exact ⟨u2, r2, .inl ⟨S.lp, by simp [List.lookup]⟩⟩
    | i + 2, h1', h2 => simp at h1'
  · obtain ⟨rfl, rfl⟩ := hce h
    exact ⟨_, _, hk _ _ hb.1, rfl⟩
  · obtain ⟨rfl, rfl⟩ := hce h
    exact hb.2
end
/-- what the written part says of an error with an __init__ -/
structure ErrC (P : Program) (K : PySem.W.Frag) (mg : Str → Option Value) (C fI : Addr) (fd : FuncData) (st : Stmt) (name qual fld : Str) : Prop where
  T : OexC K C
  ini : PySem.W.findIn K (.ref C) "__init__" = some (some (.ref fI))
  tI : PySem.W.typeIn K (.ref fI) = some (.type "function")
  nof : PySem.W.findIn K (.ref C) fld = some none
  sub : PySem.W.subIn K (.ref C) (.type "ValueError") = some true
  sup : ks_superIn K C C "__init__" = some (some (.builtin "ValueError.__init__"))
  mro : PySem.W.mroIn K C (.ref C) = some true
  fn : ∃ (oc ct dV kV doc pm : Value) (od an : Option Addr) (osl : Array (Option Value)) (cda cc : Addr) (ccl cl : Value) (cdd cld : Option Addr) (vs : Array Value) (ccs csl : Array (Option Value)) (file : Str) (tf : Tok),
    fd = ksFn name qual (defArgs st) (defBody st) (defScope st) dV kV doc pm an (.ref cda) ct cc ∧ K.lookup fI = some ⟨oc, od, .func fd, osl⟩ ∧ PySem.W.codeIn K (.ref cda) qual = true ∧
    K.lookup cda = some ⟨ccl, cdd, .fields vs, ccs⟩ ∧ vs[2]? = some (.str file tf) ∧ ((P.main.file : Str) == file) = true ∧ K.lookup cc = some ⟨cl, cld, .cell (some (.ref C)), csl⟩
  gsup : mg "super" = none
  stat : PySem.W.nsIn K PySem.cStatics "thirdparty.any" = some none
  main : (P.main.scope.names.lookup ("super" : Str)).isSome = false
theorem wpAt_cons2 {M : Model} {A : Around} {c : Code} {st : Stmt} {rest : List Stmt} {env : Env} {Q : Flow → Shared → Prop} {E : Value → Shared → Prop} {s : Shared} (h : _root_.PySem.wpAt M A c (exec st env) (fun f s' => f = .next ∧ wpAny M A (execs rest env) Q E s') E s) : _root_.PySem.wpAt M A c (execs (st :: rest) env) Q E s := fun Γ p hc hΓ => by
  rw [execs_cons, Sem.wp_bind']
  refine Sem.wp_mono M Γ _ (fun f p' s' h' => ?_) (fun _ _ _ h' => h') _ _ (h Γ p hc hΓ)
  obtain ⟨rfl, h'⟩ := h'
  exact h' Γ p' hΓ
/-- super().__init__(text) -/
theorem super_init {X : Cx} {C fI cda cc a : Addr} {fd : FuncData} {name qual fld sx px : Str} {st : Stmt} {v : V} {H : Hp} {s : Shared} {body : List Stmt} {L : Addr} {scope : Scope} {ar : Arg} {m : Str} {j : Nat} {p0 p1 p2 p3 p4 p5 : Pos}
    {oc : Value} {od : Option Addr} {osl : Array (Option Value)} {ccl cl : Value} {cdd cld : Option Addr} {vs : Array Value} {ccs csl : Array (Option Value)} {file : Str} {tf : Tok}
    (R : ErrC X.prog X.K X.mg C fI fd st name qual fld) (hN : X.N = [sx, px]) (henv : X.env = ksEnv qual scope L fI (.ref cda) cc) (S : SupScope sx px scope) (har : (fd.params.posonlyargs ++ fd.params.args).head? = some ar) (harx : ar.arg = sx)
    (lk : X.K.lookup fI = some ⟨oc, od, .func fd, osl⟩) (hcode : X.K.lookup cda = some ⟨ccl, cdd, .fields vs, ccs⟩) (hvs : vs[2]? = some (.str file tf)) (hfile : ((X.prog.main.file : Str) == file) = true) (hcc : X.K.lookup cc = some ⟨cl, cld, .cell (some (.ref C)), csl⟩)
    (I : Inv X [] [some (.ref a), some v] H s) (ea : H a = some (exo a C none)) {pl : Sem Bool}
    (hcall : eval (.Call (.Attribute (.Call (.Name "super" p0) [] [] p1) "__init__" p2) [.Constant (.str m) j p3] [] p4) X.env = (do
      let ov ← attributeBase (.Call (.Name "super" p0) [] [] p1) "__init__" X.env (eval (.Call (.Name "super" p0) [] [] p1) X.env)
      standAt p2.atName
      let (f, first) ← holding [ov] (getMethod ov "__init__" pl)
      callWith p4 f first (backTo p4 (starEach [.Constant (.str m) j p3] X.env)) []))
    (hint : interactive X.env = false) (hsw : swapsWith (.Call (.Attribute (.Call (.Name "super" p0) [] [] p1) "__init__" p2) [.Constant (.str m) j p3] [] p4) none p5.line X.env = pure false) :
    _root_.PySem.wpAt (model X.prog X.w) X.A (.func body X.env) (exec (.Expr (.Call (.Attribute (.Call (.Name "super" p0) [] [] p1) "__init__" p2) [.Constant (.str m) j p3] [] p4) p5) X.env) (fun fl s' => fl = .next ∧ Inv X [] [some (.ref a), some v] H s') X.xe s := by
  obtain ⟨nm, q, N, bs, bm, sn, sub, ab, col, dd, k0, k1, k2, k3, k5, hC, hbm⟩ := R.T.cls
  have hcd : clsIn X.K C = some { name := nm, bases := bs, mro := .ref C :: bm, ns := N, qualname := q, hasDict := true, slotNames := sn, subclasses := sub, abstract := ab, collection := col, hasDel := false } := by unfold clsIn; rw [hC] <;> rfl
  refine ks_wpAt_Expr_any (ks_wpAt_MethodCall ?_ hcall) hint hsw
  obtain ⟨t1, ho⟩ := exo_at I.hok ea
  have KX := I.kIn
  refine ks_wpAt_super_base (by rw [henv]; exact S.su) (by rw [henv]; exact S.cl) (by decide) (by rw [henv]) (KX _ _ lk) rfl har (by rw [henv]) (KX _ _ hcode) rfl hvs hfile R.main ?_
  obtain ⟨mb, hb1, hb2⟩ := I.mod.blt
  obtain ⟨mm, hmm, hloc⟩ := I.loc
  refine ks_loadName_global (by rw [henv]; exact S.kind) (by rw [henv]; exact S.su) (Calls.loadGlobal_builtin (by rw [I.ok.glob]; exact I.mod.glob.keeps I.bk) R.gsup (by rw [I.ok.blt]; exact hb1.keeps I.bk) ((hb2 _ (by decide +kernel)).trans (by boot_by_name)) ⟨rfl, ?_⟩)
  refine wpAny_loadName_free (by rw [henv]; exact S.kind) (by rw [henv]; exact S.cl) (by rw [henv]; rfl) ⟨_, KX _ _ hcc, rfl⟩ ?_
  obtain ⟨u, hu, hl⟩ := hloc 0 sx (.ref a) (by rw [hN]; rfl) rfl (by rw [henv]; exact .inl S.ls)
  have hu' : u = .ref a := hu
  subst hu'
  have hmx : mm sx = some (.ref a) := by
    rcases hl with ⟨_, e⟩ | ⟨e, _⟩
    · exact e
    · rw [henv] at e
      have e' : scope.names.lookup sx = some .cell ∨ scope.names.lookup sx = some .free := e
      rw [S.ls] at e'
      rcases e' with e' | e' <;> cases e'
  rw [harx]
  refine wpAny_loadName_local (by rw [henv]; exact S.kind) (by rw [henv]; exact S.ls) hmm hmx ?_
  refine ks_wpAny_isType_cls (KX _ _ hC) rfl ⟨rfl, ?_⟩
  obtain ⟨hh, g, d, t, os⟩ := s
  have hsub : Looks (model X.prog X.w) hh (isSubtype (.ref C) (.ref C)) true := looks_mroIn KX R.mro
  refine ks_wpAny_call_super (KX _ _ hC) rfl ho rfl (fun c e => by cases e) hsub (fun h' e1 k1 => ?_)
  have I1 : Inv X [] [some (.ref a), some v] H ⟨h', g, d, t, os⟩ := I.kept (t' := t) k1
  have X1 := I1.kIn
  have ho1 := k1 _ _ ho
  have IA : InstAt h' a _ C none := ⟨ho1, rfl, rfl, trivial⟩
  have hI : Looks (model X.prog X.w) h' (isInstance (.ref a) (.type "ValueError")) true := IA.type.andThen (looks_subIn X1 R.sub)
  have hsup := R.sup
  unfold ks_superIn at hsup
  rw [hcd] at hsup
  refine kxs_getMethod kxs_ValueError e1 (looks_opaque X1 R.stat) (l₀ := .ref C :: bm) ?_ rfl X1 hsup hI (ks_ne X1 IA hcd) (by decide) ?_
  · exact fun A Q E s k q => wpAny_bind ((looks_clsIn X1 hcd) A _ E s k (wpAny_pure q))
  have k2' : ∀ b o, h'.get? b = some o → (h'.push (kxs_mw "ValueError.__init__" a)).get? b = some o := fun b o e => Heap.get?_push_of_some _ e
  have I2 : Inv X [] [some (.ref a), some v] H ⟨h'.push (kxs_mw "ValueError.__init__" a), g, d, t + 1, os⟩ := I1.kept (t' := t + 1) k2'
  have hu2 : (h'.push (kxs_mw "ValueError.__init__" a)).get? h'.objs.size = some (kxs_mw "ValueError.__init__" a) := Heap.get?_push_at rfl rfl
  have nH : H h'.objs.size = none := I1.hok.fresh (Nat.le_refl _)
  have I3 : Inv X [(h'.objs.size, kxs_mw "ValueError.__init__" a)] [some (.ref a), some v] H ⟨h'.push (kxs_mw "ValueError.__init__" a), g, d, t + 1, os⟩ := { I2 with
    pin := fun p hp => by
      rcases List.mem_append.mp hp with hp | hp
      · exact I2.pin p (List.mem_append_left _ hp)
      · rw [List.mem_singleton] at hp
        subst hp
        refine ⟨hu2, nH, fun z => ?_, I1.nofs (Nat.le_refl _), fun v z => by cases z⟩
        have := I1.lt
        rw [← z] at this
        exact absurd this (Nat.lt_irrefl _) }
  show wpAny _ _ (callWith p4 (.ref h'.objs.size) [] (backTo p4 (starEach [.Constant (.str m) j p3] X.env)) []) _ _ _
  have he : starEach [Expr.Constant (.str m) j p3] X.env = (false, eval (.Constant (.str m) j p3) X.env) :: starEach [] X.env := rfl
  rw [he]
  refine kxs_callWith (i := "ValueError.__init__") (x := a) rfl (evalArgs_plain ?_)
  have hpa := (pa_cons (X := X) (e := .Constant (.str m) j p3) pe_str pa_nil).run p4 [(h'.objs.size, kxs_mw "ValueError.__init__" a)] _ _ H (fun vs H1 => vs = [.str m] ∧ H1 = H) I3 ⟨rfl, rfl⟩
  refine thn hpa fun us s1 ⟨vs1, H1, J1, rv, ev, eH⟩ => ?_
  subst ev eH
  have hpin := (J1.pin _ (List.mem_append_right _ (List.mem_singleton.mpr rfl))).1
  refine ⟨hpin, ?_⟩
  obtain ⟨t2, ho2⟩ := exo_at J1.hok ea
  obtain ⟨hp, g2, d2, tk2, os2⟩ := s1
  have hC2 := J1.kIn _ _ hC
  have hlen : us.length ≤ sizeLine := by
    rw [← Paired.length rv]
    show 1 ≤ sizeLine
    decide
  refine wpAny_call (codeAny_of_tree ?_)
  show wpAny _ X.A.in1 (callAny (.ref h'.objs.size) ⟨us, []⟩) _ _ _
  simp only [callAny]
  refine wpAny_bind (wpAny_load hpin ?_)
  simp only [kxs_mw, show (Value.type "method-wrapper" == Value.type "method" || Value.type "method-wrapper" == Value.type "builtin_function_or_method" || Value.type "method-wrapper" == Value.type "method-wrapper") = true by decide, if_true]
  refine KFB.if_so (by decide) ?_
  refine wpAny_bind (check_bound_init F.excBase_ValueError.toExcCallFacts hC2 ho2 rfl ?_)
  refine wpAny_bind (wpAny_pure (wpAny_pure ?_))
  refine ⟨plainId_quiet F.excBase_ValueError.init.plain _, codeAny_builtin F.excBase_ValueError.initEntry ?_⟩
  refine exc_init_tree (cls := .ref C) (t0 := t2) (dv := none) (c2 := .none) (c3 := .none) (b4 := .bool false) ho2 hlen fun h3 k3 hx3 _ => ?_
  have J := J1.write (t' := tk2) (x := a) (e := a) (o := exo a C none) (h' := h3) (by rw [ea]; exact True.intro) (.inl rfl) k3 ⟨_, hx3⟩ (exo_ok hx3)
  have eu : upd H1 a (exo a C none) = H1 := by
    funext b
    by_cases hb : b = a
    · rw [hb, upd_same, ea]
    · rw [upd_ne hb]
  rw [eu] at J
  exact ⟨trivial, { J with pin := fun p hp => J.pin p (List.mem_append_left _ (by simpa using hp)) }⟩
/-! ### the __init__ keeps its promise -/
def spX (C : Addr) (fld : Str) : Sp := fun vs H Q _ => ∃ (a : Addr) (y : V), vs = [.ref a, y] ∧ H a = some (exo a C none) ∧ ∀ dx, H dx = none → dx ≠ a → Q .non (upd (upd H dx (exd dx [(fld, y)])) a (exo a C (some dx)))
/-- where the two statements stand -/
structure SupBody (st : Stmt) (sx px fld : Str) : Prop where
  body : ∃ (m : Str) (j : Nat) (p0 p1 p2 p3 p4 p5 p6 p7 p8 p9 : Pos), defBody st = [.Expr (.Call (.Attribute (.Call (.Name "super" p0) [] [] p1) "__init__" p2) [.Constant (.str m) j p3] [] p4) p5, .Assign [.Attribute (.Name sx p6) fld p7] (.Name px p8) p9] ∧
    (∀ (qual : Str) (L f : Addr) (cd : Value) (cc : Addr), (∃ pl : Sem Bool, eval (.Call (.Attribute (.Call (.Name "super" p0) [] [] p1) "__init__" p2) [.Constant (.str m) j p3] [] p4) (ksEnv qual (defScope st) L f cd cc) = (do
      let ov ← attributeBase (.Call (.Name "super" p0) [] [] p1) "__init__" (ksEnv qual (defScope st) L f cd cc) (eval (.Call (.Name "super" p0) [] [] p1) (ksEnv qual (defScope st) L f cd cc))
      standAt p2.atName
      let (g, first) ← holding [ov] (getMethod ov "__init__" pl)
      callWith p4 g first (backTo p4 (starEach [.Constant (.str m) j p3] (ksEnv qual (defScope st) L f cd cc))) [])) ∧
      interactive (ksEnv qual (defScope st) L f cd cc) = false ∧ swapsWith (.Call (.Attribute (.Call (.Name "super" p0) [] [] p1) "__init__" p2) [.Constant (.str m) j p3] [] p4) none p5.line (ksEnv qual (defScope st) L f cd cc) = pure false ∧
      swapsWith (.Name px p8) (some (.Attribute (.Name sx p6) fld p7)) p9.line (ksEnv qual (defScope st) L f cd cc) = pure false)
  par : ((defArgs st).posonlyargs ++ (defArgs st).args).head?.map (·.arg) = some sx
  dsx : (sx == ("__debug__" : Str)) = false ∧ (sx == ("__classdict__" : Str)) = false
  dpx : (px == ("__debug__" : Str)) = false ∧ (px == ("__classdict__" : Str)) = false
theorem err_fn {CX : CXT} {P : Program} {w : World} {K : PySem.W.Frag} {mg : Str → Option Value} {base : Heap} {C fI : Addr} {fd : FuncData} {st : Stmt} {name qual fld sx px : Str} (R : ErrC P K mg C fI fd st name qual fld) (S : SupScope sx px (defScope st)) (B : SupBody st sx px fld) :
    FnOk P w K mg base CX 0 fI fd [sx, px] (spX C fld) := by
  obtain ⟨m, j, p0, p1, p2, p3, p4, p5, p6, p7, p8, p9, hbody, hfacts⟩ := B.body
  obtain ⟨oc, ct, dV, kV, doc, pm, od, an, osl, cda, cc, ccl, cl, cdd, cld, vs, ccs, csl, file, tf, efd, lk, hcd, hcode, hvs, hfile, hcc⟩ := R.fn
  refine ⟨fun vs H Q E h => ?_, fun A outer s H args us vs0 Q E hr e0 hb r hsp => ?_⟩
  · obtain ⟨a, y, rfl, _⟩ := h
    rfl
  obtain ⟨a, y, rfl, ea, hq⟩ := hsp
  cases r with
  | @cons _ u1 _ us1 r1 rr =>
  cases rr with
  | @cons _ u2 _ us2 r2 rr2 =>
  cases rr2
  have e1 : u1 = .ref a := r1
  subst e1
  have KX : K.In s.heap := e0.mod.kin.keeps fun b o e => (e0.bs b o e).1
  have lim : s.heap.NoLimit := e0.mod.nolimit.keeps fun b o e => (e0.bs b o e).1
  have hb' : BindsTo s fd args [(sx, .ref a), (px, u2)] := hb
  rw [efd] at lk hb'
  refine ks_codeAny_call_defAt hr.depth (KX _ _ lk) rfl lim (codeRec_of KX hcd) rfl hb' S.nocell (fun x hx => ?_) (fun h₀ hns hk₀ => ?_) S.co S.gen S.kind
  · simp only [List.mem_cons, List.not_mem_nil, or_false] at hx
    rcases hx with rfl | rfl
    · exact S.ls
    · exact S.lp
  have I : Inv (cxS CX P w K mg base [sx, px] qual (defScope st) fI (.ref cda) cc A outer s H E) [] [some (.ref a), some y] H { s with heap := h₀, toks := s.toks + 2 } := inv_super S e0 hr.hd hcc r1 r2 hns hk₀
  obtain ⟨⟨pl, f1⟩, f2, f3, f4⟩ := hfacts qual s.heap.objs.size fI (.ref cda) cc
  obtain ⟨ar, har, harx⟩ : ∃ ar, ((defArgs st).posonlyargs ++ (defArgs st).args).head? = some ar ∧ ar.arg = sx := by
    have z := B.par
    cases q : ((defArgs st).posonlyargs ++ (defArgs st).args).head? with
    | none => rw [q] at z; cases z
    | some ar => rw [q] at z; exact ⟨ar, rfl, Option.some.inj z⟩
  have hrun : ∀ s', Inv (cxS CX P w K mg base [sx, px] qual (defScope st) fI (.ref cda) cc A outer s H E) [] [some (.ref a), some y] H s' →
      wpAny (model P w) (A.deeper (ksEnv qual (defScope st) s.heap.objs.size fI (.ref cda) cc)) (execs [.Assign [.Attribute (.Name sx p6) fld p7] (.Name px p8) p9] (ksEnv qual (defScope st) s.heap.objs.size fI (.ref cda) cc))
        (fun f s' => CR CX outer P w H s Q E (.ok (.ret (match f with | .ret v => v | _ => .none))) s') (cxS CX P w K mg base [sx, px] qual (defScope st) fI (.ref cda) cc A outer s H E).xe s' := by
    intro s' I'
    have hv1 : PE (cxS CX P w K mg base [sx, px] qual (defScope st) fI (.ref cda) cc A outer s H E) (.Name sx p6) (tVar 0) := pe_var rfl (.inl S.ls) B.dsx.1 B.dsx.2
    have hv2 : PE (cxS CX P w K mg base [sx, px] qual (defScope st) fI (.ref cda) cc A outer s H E) (.Name px p8) (tVar 1) := pe_var rfl (.inl S.lp) B.dpx.1 B.dpx.2
    have hps := pss_cons (ps_ost (f := fld) (p' := p7) (pos := p9) hv1 hv2 f4) pss_nil
    refine wpAny_mono (hps.run [] s' _ H { nx := fun _ H' => Q .non H', rt := Q } I' ?_) (fun fl s2 hs => ?_) fun e s2 hs => hs
    · refine ⟨y, rfl, .ref a, rfl, a, C, rfl, R.T, R.nof, .inl ⟨ea, fun dx n ne => ?_⟩⟩
      exact hq dx n ne
    · have fin : ∀ {σ' : L2.St} {H' : Hp} {v : V} {u : Value}, Inv (cxS CX P w K mg base [sx, px] qual (defScope st) fI (.ref cda) cc A outer s H E) [] σ' H' s2 → RelV v u → Q v H' → CE outer P w H s Q u s2 :=
        fun {σ' H' v u} J rv q => ⟨v, H', J.os, J.bare, J.base, J.hok, rv, q⟩
      cases fl with
      | ret u =>
        obtain ⟨v, σ', H', J, rv, q⟩ := hs
        exact fin J rv q
      | next =>
        obtain ⟨σ', H', J, q⟩ := hs
        exact fin (v := V.non) (u := Value.none) J rfl q
      | brk =>
        obtain ⟨_, _, _, q⟩ := hs
        exact False.elim q
      | cont =>
        obtain ⟨_, _, _, q⟩ := hs
        exact False.elim q
  have lk' : K.lookup fI = some ⟨oc, od, .func (ksFn name qual (defArgs st) (defBody st) (defScope st) dV kV doc pm an (.ref cda) ct cc), osl⟩ := lk
  have hsi := super_init (X := cxS CX P w K mg base [sx, px] qual (defScope st) fI (.ref cda) cc A outer s H E) (body := defBody st) (L := s.heap.objs.size) (fd := fd) R rfl rfl S (by rw [efd]; exact har) harx (by rw [efd]; exact lk') hcode hvs hfile hcc I ea f1 f2 f3
  show _root_.PySem.wpAt (model P w) (A.deeper (ksEnv qual (defScope st) s.heap.objs.size fI (.ref cda) cc)) (.func (defBody st) (ksEnv qual (defScope st) s.heap.objs.size fI (.ref cda) cc)) (execs (defBody st) (ksEnv qual (defScope st) s.heap.objs.size fI (.ref cda) cc)) _ _ _
  have hex : execs (defBody st) (ksEnv qual (defScope st) s.heap.objs.size fI (.ref cda) cc) = execs [.Expr (.Call (.Attribute (.Call (.Name "super" p0) [] [] p1) "__init__" p2) [.Constant (.str m) j p3] [] p4) p5, .Assign [.Attribute (.Name sx p6) fld p7] (.Name px p8) p9] (ksEnv qual (defScope st) s.heap.objs.size fI (.ref cda) cc) := by rw [hbody]
  rw [hex]
  exact wpAt_cons2 (ks_wpAt_mono hsi (fun fl s' hs => ⟨hs.1, hrun s' hs.2⟩) fun _ _ z => z)
/-! ### raise C(e) -/
theorem q_rais1 {X : Cx} {L : Lk} {T : Tb} {W : WX} {c n : Nat} {fI : Addr} {fd : FuncData} {st : Stmt} {name qual fld sx px x : Str} {e : Expr} {ee : E} {p pos pos' : Pos} (hcalm : X.calm = true) (hr : Room (2 * n + 1) X.A) (tk : Takes X W) (R : ErrC X.prog X.K X.mg (L.ca c) fI fd st name qual fld) (S : SupScope sx px (defScope st)) (B : SupBody st sx px fld) (hb : Binds X.K fd [sx, px] [])
    (hfl : (L.fn c).head? = some fld) (hg : Gl X x) (hm : X.mg x = some (.ref (L.ca c))) (he : PE X e (rdE X.K L T W ee)) (hdb : (x == ("__debug__" : Str)) = false := by decide) (hse : starEach (e :: []) X.env = (false, eval e X.env) :: starEach [] X.env := by rfl) (hpl : (backTo pos (starEach [] X.env)).any (·.1) = false := by rfl) :
    QS X L T W (.Raise (some (.Call (.Name x p) [e] [] pos)) none pos') (.rais c (.cons ee .nil)) := fun F0 G0 am0 =>
  (ps_raise hcalm tk (pmk_oex (x := x) (p := p) (pos := pos) R.T R.ini R.tI (err_fn (CX := fun _ _ _ _ _ _ => False) (w := X.w) (base := X.base) R S B) (hr.mono (by omega)) hb .nil (fun _ _ _ _ _ _ _ z => z.elim) hg hm (pa_cons he pa_nil hse) hdb hse hpl)).imp fun D σ H ⟨sl, om, ⟨F, G, am, Rr⟩, o⟩ => by
    have e1 : evS T (.rais c (.cons ee .nil)) sl om = (evE T ee sl om).out sl fun d om => .exc c [d] sl om := by
      rw [evS, evL]
      cases evE T ee sl om with
      | stuck => rfl
      | exc c fs om => rfl
      | ok d om => rw [bind_ok, evL]; rfl
    rw [e1] at o
    refine ⟨F, G, am, om, sl, Rr.mem, Rr.slr, out_post Rr o fun d om1 v H1 G1 am1 g R1 r1 o1 => ?_⟩
    refine ⟨by simp, fun a hna => ⟨a, v, rfl, upd_same, fun dx n ne => ⟨rfl, dx, [(fld, v)], upd_same, ?_, ?_, ?_⟩⟩⟩
    · rw [upd_ne ne, upd_same]
    · rw [upd_ne ne] at n
      exact n
    · have n1 : H1 dx = none := by
        rw [upd_ne ne] at n
        exact n
      have eH : upd (del (upd (upd (upd H1 a (exo a (L.ca c) none)) dx (exd dx [(fld, v)])) a (exo a (L.ca c) (some dx))) a) dx (.xd [(fld, v)]) = upd H1 dx (.xd [(fld, v)]) := by
        funext b
        by_cases hb : b = dx
        · rw [hb, upd_same, upd_same]
        · rw [upd_ne hb, upd_ne hb]
          by_cases hba : b = a
          · rw [hba, del_same, hna]
          · rw [del_ne hba, upd_ne hba, upd_ne hb, upd_ne hba]
      rw [eH]
      have gG : Grow G1 am1 (upd G1 dx (.xd [(fld, v)])) am1 := Grow.of (R1.mem.none_g n1)
      exact o1 (.ref (L.ca c)) (some dx) σ _ F (upd G1 dx (.xd [(fld, v)])) am1 (R1.grow gG (R1.mem.new n1)) ⟨rfl, dx, v, fld, rfl, hfl, upd_same, r1.up gG⟩
end PD

set_option Elab.async false
set_option linter.all false
set_option maxRecDepth 100000
set_option maxHeartbeats 1000000
/-! PDS: the suite of a caught error that bears a field: isinstance, comparisons, a plain `_law_same`. -/
namespace PD
open PySem PySem.Spec PyProof.Rows L2
/-! ### isinstance, whatever the dict holds -/
section
open PySem.W PySem.Calls
variable {prog : Program} {w : World} {A : Around} {E : Value → Shared → Prop} {K : PySem.W.Frag} {x D : Addr} {ox : Obj} {od : Option Obj}
theorem exc_cls (C : ExcC K D) {s : Shared} {Q : Option Value → Shared → Prop} (hK : K.In s.heap) (J : InstAt s.heap x ox D od) (fin : Q (some (.ref D)) { s with toks := s.toks + 1 }) : wpAny (model prog w) A (getAttr? (.ref x) "__class__") Q E s := by
  have key : findObj K D od "__class__" = some (.bind (.builtin "getset_descriptor.__get__") (.builtin "object.__class__")) := by
    obtain ⟨cdx, hcx, _⟩ := any_some C.hd
    unfold findObj
    rw [hcx, Option.bind_some, C.ha, Option.bind_some]
    simp [C.hn, C.ht]
  obtain ⟨hp0, g0, d0, t0, os0⟩ := s
  have W0 := J.type (M := model prog w)
  have W3 := looks_find (M := model prog w) hK J key
  have isB : Looks (model prog w) hp0 (isInstance (.ref x) (.type "BaseException")) true := W0.andThen (looks_subIn hK C.hs)
  have b2 : (Value.builtin "BaseException.__getattribute__" == Value.builtin "object.__getattribute__") = false := by decide +kernel
  have b1 : (onTheHeap (Value.ref D) && Value.builtin "BaseException.__getattribute__" == Value.builtin "object.__getattribute__") = false := by rw [b2]; rfl
  unfold getAttr? getAttrBy? getAttrBy
  refine wpAny_bind (wpAny_mkText (wpAny_bind (wpAny_attempt (wpAny_holding (wpAny_bind (W0.at (wpAny_bind ((looks_findIn (M := model prog w) hK C.hg).at ?_))))))))
  show wpAny _ A (if (onTheHeap (Value.ref D) && Value.builtin "BaseException.__getattribute__" == Value.builtin "object.__getattribute__") = true then _ else _) _ _ _
  rw [b1, if_neg Bool.false_ne_true]
  unfold getAttrByItsOwn hookBefore
  refine wpAny_bind ?_
  rw [if_pos (show onTheHeap (Value.ref D) = true by rfl)]
  refine (looks_findIn (M := model prog w) hK C.hk).at (wpAny_bind (wpAny_attempt (wpAny_holding ?_)))
  unfold callGetattribute
  rw [show (false && onTheHeap (Value.builtin "BaseException.__getattribute__")) = false by rfl, if_neg Bool.false_ne_true]
  unfold boundAndCalled
  rw [PySem.F.excAttr_ValueError.ga.bind (.ref x)]
  refine wpAny_bind (wpAny_pure ?_)
  show wpAny _ A (call (.builtin "BaseException.__getattribute__") [.ref x, .str "__class__" t0]) _ _ _
  refine wpAny_call (codeAny_call_builtin PySem.F.excAttr_ValueError.ga.plain PySem.F.entry_bexc_ga (@check_slot (model prog w) _ _ ⟨hp0, g0, d0, t0 + 1, os0⟩ "BaseException.__getattribute__" "BaseException" "__getattribute__" (.ref x) [.str "__class__" t0] [] _ (by decide +kernel) (by decide +kernel) isB (PySem.F.args_bexc_ga (.ref x) (.str "__class__" t0)) ?_))
  unfold Builtin.«object.__getattribute__»
  refine wpAny_bind (wpAny_of_eq (a := ((Value.ref x : Value), [Value.str "__class__" t0])) (by first | rfl | (simp only [slotArgs]; rfl)) ?_)
  refine wpAny_bind (wpAny_pure (wpAny_bind ?_))
  refine W0.at (wpAny_bind (W3.at ?_))
  show wpAny (model prog w) _ (holding [Value.builtin "object.__class__"] (call (.builtin "getset_descriptor.__get__") [.builtin "object.__class__", .ref x, .ref D]) >>= ret) _ _ _
  refine wpAny_bind (wpAny_holding (wpAny_call (class_get (s := ⟨hp0, g0, d0, t0 + 1, os0⟩) (ox := ox) (od := od) hK J C.hm (wpAny_pure ?_))))
  show wpAny _ A (handedOut (.ref D)) _ _ _
  rw [handedOut_of (v := .ref D) rfl]
  first
    | exact wpAny_pure (wpAny_pure fin)
    | exact wpAny_pure fin
    | exact wpAny_pure (wpAny_bind (wpAny_pure (wpAny_pure fin)))
theorem kitx_err (C : ExcC K D) : KitX K (.ref x) (.ref D) (fun h => InstAt h x ox D od) := by
  obtain ⟨cdx, hcx, _⟩ := any_some C.hd
  unfold clsIn at hcx
  split at hcx
  · rename_i c1 d1 cd1 sl1 hob
    exact {
      ty := fun _ _ _ J => J.type
      it := fun _ _ hK _ A1 Q1 E1 s1 k1 q1 => by
        unfold isType loadHead
        exact wpAny_bind (wpAny_loadPart (k1 _ _ (hK _ _ hob)) (wpAny_pure q1))
      ne := fun h tp dd its n sl hK htp => by
        refine Bool.eq_false_iff.mpr fun q => ?_
        obtain rfl : D = tp := Value.ref.inj (beq_iff_eq.mp q)
        cases (hK _ _ hob).symm.trans htp
      ca := fun hK J k1 => exc_cls C hK J k1 }
  · cases hcx
end
section
variable {X : Cx} {L : Lk} {T : Tb} {W : WX} {a D0 dd : Addr} {oe : Obj} {pn : List (Addr × Obj)} {xf : Option (Addr × Str × V)} {i : Nat} {nm : Str} {b : Bool} {p1 p3 pp pos : Pos} {c : Expr} {es : List Expr} {cv : V} {cvs : List V} {cu : Value} {cus : List Value} {x1 : Nat}
theorem kit_dict {fs : List (Str × V)} (C : ExcC X.K D0) (hz : Zc (.ref D0) (some dd) oe) (hf : ∃ vs, oe.data = .fields vs) {pins : List (Addr × Obj)} {σ : L2.St} {H : Hp} {s : Shared} (I : Inv (X.suite a ((a, oe) :: pn)) pins σ H s) (hd : H dd = some (.xd fs)) : ∃ P : Heap → Prop, PySem.W.KitX X.K (.ref a) (.ref D0) P ∧ P s.heap := by
  have hp := (I.pin (a, oe) (List.mem_append_left _ (List.mem_cons_self ..))).1
  obtain ⟨vs, hvs⟩ := hf
  obtain ⟨mA, hns, _⟩ := (show ObjOk X.prog X.w H s.heap dd (.xd fs) from I.hok dd _ hd)
  obtain ⟨od, ho, _⟩ := lookIn_ns hns
  exact ⟨_, kitx_err (x := a) (ox := oe) (od := some od) C, hp, hz.1, by unfold PySem.W.notCls; rw [hvs] <;> rfl, by rw [hz.2]; exact ho⟩
def rD1 (K : PySem.W.Frag) (D0 a dd : Addr) : List V → Hp → VK → Prop := fun xs H Q => ∃ fs, H dd = some (.xd fs) ∧ rX1 K D0 a xs H Q
def rDT (K : PySem.W.Frag) (D0 a dd : Addr) : List V → Hp → VK → Prop := fun xs H Q => ∃ fs, H dd = some (.xd fs) ∧ rXT K D0 a xs H Q
theorem call_d1 (C : ExcC X.K D0) (hz : Zc (.ref D0) (some dd) oe) (hf : ∃ vs, oe.data = .fields vs) : CallR (X.suite a ((a, oe) :: pn)) (.builtin "isinstance") (rD1 X.K D0 a dd) := by
  rintro pins s σ H xs us Q I r ⟨fs, hd, cv, cu, b, rfl, kc, e, q⟩
  obtain ⟨w1, w2, rfl, r1, r2⟩ := vals2 r
  obtain rfl : w1 = Value.ref a := r1
  obtain rfl := kc.eq r2
  obtain ⟨P, Z, hP⟩ := kit_dict C hz hf I hd
  exact PySem.W.kia_one Z I.kIn hP e (fun z => nomatch z) fun tk => ⟨.bl b, H, I.tok tk, rfl, q⟩
theorem call_dT (C : ExcC X.K D0) (hz : Zc (.ref D0) (some dd) oe) (hf : ∃ vs, oe.data = .fields vs) : CallR (X.suite a ((a, oe) :: pn)) (.builtin "isinstance") (rDT X.K D0 a dd) := by
  rintro pins s σ H xs us Q I r ⟨fs, hd, tp, cvs, cus, b, rfl, hT, kc, e, q⟩
  obtain ⟨w1, w2, rfl, r1, r2⟩ := vals2 r
  obtain rfl : w1 = Value.ref a := r1
  obtain rfl : w2 = Value.ref tp := r2
  obtain ⟨P, Z, hP⟩ := kit_dict C hz hf I hd
  obtain ⟨_, its, rv, ob, g1, g2, nn, g3⟩ := (show ObjOk X.prog X.w H s.heap tp (.tup cvs) from I.hok tp _ hT)
  obtain rfl := ClsV.all kc rv
  obtain ⟨ocl, odd, odt, osl⟩ := ob
  dsimp only at g2 g3
  subst g2 g3
  exact PySem.W.kia_tup Z I.kIn hP g1 e (fun z => nomatch z) fun tk => ⟨.bl b, H, I.tok tk, rfl, q⟩
/-- isinstance(e, C), e bears a field -/
theorem pE_d1 {cc : Nat} {d : Option Addr} {d0 : PD.D} {fs : List PD.D} (C : ExcC X.K D0) (hz : Zc (.ref D0) d oe) (hf : ∃ vs, oe.data = .fields vs) (hx : XfR X.K L cc (d0 :: fs) d xf) (hN : (X.suite a ((a, oe) :: pn)).N[i]? = some nm) (hv : Vis (X.suite a ((a, oe) :: pn)).env.scope nm) (hg : Gl (X.suite a ((a, oe) :: pn)) "isinstance") (hm : X.mg "isinstance" = none)
    (kc : ClsV cv cu) (hk : PySem.W.kitOne X.K (.ref D0) cu = some b) (hc : PE (X.suite a ((a, oe) :: pn)) c (tC cv)) (hdb : (nm == ("__debug__" : Str)) = false := by decide) (hcd : (nm == ("__classdict__" : Str)) = false := by decide)
    (he : starEach (.Name nm p1 :: [c]) X.env = (false, eval (.Name nm p1) X.env) :: starEach [c] X.env := by rfl) (he2 : starEach (c :: []) X.env = (false, eval c X.env) :: starEach [] X.env := by rfl) (hpl : (backTo pos (starEach [c] X.env)).any (·.1) = false := by rfl) :
    PE (X.suite a ((a, oe) :: pn)) (.Call (.Name "isinstance" pp) [.Name nm p1, c] [] pos) (rdE X.K (L.wx (some (a, xf))) T W (.xf i (.bl b))) := by
  obtain ⟨ddx, v, nmx, G0, am0, rfl, e2, e3, e4⟩ := hx
  refine (pe_callB (call_d1 C hz hf) hg hm rfl (pa_cons (pe_var hN hv hdb hcd) (pa_cons hc pa_nil he2) he) (by decide) (by decide) he hpl).imp fun σ H Q ⟨F, G, am, om, sl, M, S, q⟩ => ?_
  rcases xf_cases (T := T) (i := i) (sl := sl) (om := om) (d := .bl b) with ⟨h, e⟩ | e
  · rw [e] at q
    obtain ⟨z1, z2⟩ := exn_at S h
    exact ⟨.ref a, z1, _, M.gH _ _ (z2 _ _ _ e3), cv, cu, b, rfl, kc, hk, q _ H G am Grow.refl M (.bl b)⟩
  · rw [e] at q
    exact q.elim
/-- isinstance(e, (C1, ..)) -/
theorem pE_dT {cc : Nat} {d : Option Addr} {d0 : PD.D} {fs : List PD.D} (C : ExcC X.K D0) (hz : Zc (.ref D0) d oe) (hf : ∃ vs, oe.data = .fields vs) (hx : XfR X.K L cc (d0 :: fs) d xf) (hN : (X.suite a ((a, oe) :: pn)).N[i]? = some nm) (hv : Vis (X.suite a ((a, oe) :: pn)).env.scope nm) (hg : Gl (X.suite a ((a, oe) :: pn)) "isinstance") (hm : X.mg "isinstance" = none)
    (kc : Paired ClsV cvs cus) (hk : PySem.W.kitAny X.K (.ref D0) cus = some b) (hl : cvs.length ≤ 1000) {ta : TA} (hc : PA (X.suite a ((a, oe) :: pn)) es ta) (hta : ∀ σ H (Q : List V → Hp → Prop), Q cvs H → ta σ H Q) (hdb : (nm == ("__debug__" : Str)) = false := by decide) (hcd : (nm == ("__classdict__" : Str)) = false := by decide)
    (he : starEach (.Name nm p1 :: [.Tuple es x1 p3]) X.env = (false, eval (.Name nm p1) X.env) :: starEach [.Tuple es x1 p3] X.env := by rfl) (he2 : starEach (.Tuple es x1 p3 :: []) X.env = (false, eval (.Tuple es x1 p3) X.env) :: starEach [] X.env := by rfl) (hpl : (backTo pos (starEach [.Tuple es x1 p3] X.env)).any (·.1) = false := by rfl) :
    PE (X.suite a ((a, oe) :: pn)) (.Call (.Name "isinstance" pp) [.Name nm p1, .Tuple es x1 p3] [] pos) (rdE X.K (L.wx (some (a, xf))) T W (.xf i (.bl b))) := by
  obtain ⟨ddx, v, nmx, G0, am0, rfl, e2, e3, e4⟩ := hx
  refine (pe_callB (call_dT C hz hf) hg hm rfl (pa_cons (pe_var hN hv hdb hcd) (pa_cons (pe_tup hc) pa_nil he2) he) (by decide) (by decide) he hpl).imp fun σ H Q ⟨F, G, am, om, sl, M, S, q⟩ => ?_
  rcases xf_cases (T := T) (i := i) (sl := sl) (om := om) (d := .bl b) with ⟨h, e⟩ | e
  · rw [e] at q
    obtain ⟨z1, z2⟩ := exn_at S h
    have hd := M.gH _ _ (z2 _ _ _ e3)
    refine ⟨.ref a, z1, hta _ _ _ ⟨sz_le (by omega), fun t ht => ⟨[(nmx, v)], ?_, t, cvs, cus, b, rfl, upd_same, kc, hk, ?_⟩⟩⟩
    · rw [upd_ne (fun z => by rw [← z, hd] at ht; cases ht)]
      exact hd
    · exact q _ _ _ am (Grow.of (M.none_g ht)) (M.new ht) (.bl b)
  · rw [e] at q
    exact q.elim
end
/-! ### a def called in a suite -/
open L2H in
structure FnW (P : Program) (w : World) (K : PySem.W.Frag) (mg : Str → Option Value) (base : Heap) (CX : CXT) (k : Nat) (f : Addr) (fd : FuncData) (ps : List Str) (sp : Sp) : Prop where
  len : ∀ vs H Q E, sp vs H Q E → vs.length = ps.length
  run : ∀ {A : Around} {outer : List Env} {s : Shared} {H : Hp} {args : Args} {us : List Value} {vs : List V} {Q : VK} {E : XK} {p : Addr × Obj}, RoomH k A → PinOk outer H s p → Env0 P w K mg base A outer s H → BindsTo s fd args (ps.zip us) → Vals vs us → sp vs H Q E → codeAny (model P w) A (.call (.ref f) args) (CR CX outer P w H s Q E) s
section
open L2H
variable {CX : CXT} {P : Program} {w : World} {K : PySem.W.Frag} {mg : Str → Option Value} {base : Heap} {k : Nat} {f : Addr} {x qual : Str} {st : Stmt} {fd : FuncData} {N ps : List Str} {sp : Sp}
theorem fnW_of (Fn : FunA K x qual st f fd) (S : FnScope N ps (defScope st)) (len : ∀ vs H Q E, sp vs H Q E → vs.length = ps.length)
    (hbody : ∀ (cdv : Value) (A : Around) (outer : List Env) (s : Shared) (H : Hp) (vs : List V) (Q : VK) (E : XK) (p : Addr × Obj), RoomH k (A.deeper (envOfC qual (defScope st) s.heap.objs.size f cdv)) → sp vs H Q E →
      ∃ t, PSs (cxH CX P w K mg base N qual (defScope st) f cdv A outer s H E p) (defBody st) t ∧ t { nx := fun _ G => Q .non G, rt := Q } (L2.start N vs) H) : FnW P w K mg base CX (k + 1) f fd ps sp := by
  obtain ⟨oc, od, dV, kV, doc, pm, an, cdv, ct, osl, rfl, lk, hcd⟩ := Fn.ex
  refine ⟨len, fun {A outer s H args us vs Q E p} room pin e0 bnd rel hsp => ?_⟩
  have inK : K.In s.heap := e0.mod.kin.keeps fun c o h => (e0.bs c o h).1
  have nol : s.heap.NoLimit := e0.mod.nolimit.keeps fun c o h => (e0.bs c o h).1
  have kinds : ∀ q ∈ ps.zip us, (defScope st).names.lookup q.1 = some .local ∨ ((defScope st).names.lookup q.1 = some .cell ∧ ((cellsFrom (s.heap.objs.size + 1) (defScope st).names []).lookup q.1).isSome = true) := fun ⟨nm, u⟩ hq =>
    (S.par nm (List.of_mem_zip hq).1).elim .inl fun h => .inr ⟨h, PySem.W.cellsFrom_some _ _ _ (.inl h)⟩
  refine codeAny_call_function room.depth (inK _ _ lk) rfl S.co S.gen rfl (PySem.W.codeRec_of inK hcd) (bnd _ _ _ _ (wpAny_newFunctionEnv_cells S.kind kinds fun env he s1 call => ?_))
  subst he
  refine ⟨nol.keeps call.toInCall.keep, codeAny_func ?_⟩
  obtain ⟨t, ht, hq⟩ := hbody cdv A outer s H vs Q E p (room.deeper _) hsp
  have J0 : Inv (cxH CX P w K mg base N qual (defScope st) f cdv A outer s H E p) [] (L2.start N vs) H s1 := inv_startH S pin e0 (len _ _ _ _ hsp) rel call
  refine wpAny_mono (ht.run [] s1 (L2.start N vs) H _ J0 hq) (fun fl s2 out => ?_) fun e s2 out => out
  cases fl with
  | ret u =>
    obtain ⟨v, _, H2, J, rv, q⟩ := out
    exact ⟨v, H2, J.os, J.bare, J.base, J.hok, rv, q⟩
  | next =>
    obtain ⟨_, H2, J, q⟩ := out
    exact ⟨V.non, H2, J.os, J.bare, J.base, J.hok, rfl, q⟩
  | brk =>
    obtain ⟨_, _, _, q⟩ := out
    exact q.elim
  | cont =>
    obtain ⟨_, _, _, q⟩ := out
    exact q.elim
end
section
open L2H
variable {X : Cx} {CX : CXT} {k : Nat} {f : Addr} {fd : FuncData} {ps : List Str} {sp : Sp} {E' : L2.St → XK} {x : Str} {q pos : Pos} {e : Expr} {es : List Expr} {t : TA} {pr : Addr × Obj}
theorem pe_callW (Fw : FnW X.prog X.w X.K X.mg X.base CX k f fd ps sp) (room : RoomH k X.A) (hp : pr ∈ X.pn) (hg : Gl X x) (hm : X.mg x = some (.ref f)) (hk : PySem.W.keepIn X.K (.ref f) = true) (hb : Binds X.K fd ps []) (hx : ∀ σ, PassesAt CX X σ (E' σ))
    (ha : PA X (e :: es) t) (hdb : (x == ("__debug__" : Str)) = false := by decide) (he : starEach (e :: es) X.env = (false, eval e X.env) :: starEach es X.env := by rfl) (hpl : (backTo pos (starEach es X.env)).any (·.1) = false := by rfl) :
    PE X (.Call (.Name x q) (e :: es) [] pos) (tCallS sp E' t) := by
  refine ⟨fun pins s σ H Q I h => wpAny_Call_Name_kw (ld_glob I hg hm (PySem.W.callWith_K (h₀ := X.base) I.ok.mod.kin hk (thn (ha.run pos pins s σ H _ I h) fun us s1 ⟨vs, H1, J, rv, hsp⟩ => ⟨J.kIn, ?_⟩) he hpl) hdb)⟩
  have len : us.length = ps.length := by rw [← rv.length]; exact Fw.len _ _ _ _ hsp
  have bnd := hb s1 us J.kIn (by rw [List.append_nil]; exact len)
  rw [List.append_nil] at bnd
  have P1 := J.pin pr (List.mem_append_left _ hp)
  refine wpAny_call (codeAny_mono (Fw.run (p := pr) room ⟨P1.1, P1.2.1, fun hm => (List.mem_cons.mp (J.stkSub pr.1 hm)).elim P1.2.2.1 P1.2.2.2.1, P1.2.2.2.2⟩ J.env0 bnd rv hsp) fun r s2 out => ?_)
  cases r with
  | error er => exact hx σ pins H1 s1 er s2 J out
  | ok fl =>
    cases fl with
    | ret u => exact J.after out
    | next => exact out.elim
    | brk => exact out.elim
    | cont => exact out.elim
end
/-! ### `_law_same` of plain values -/
def spSam (K : PySem.W.Frag) (L : Lk) : Sp := fun vs H Q _ => ∃ F G am om d1 d2 b, Mem K L F G am om H ∧ RepL K L G am [d1, d2] vs ∧ samD d1 d2 = some b ∧ ∀ H' G' am', Grow G am G' am' → Mem K L F G' am' om H' → Q (.bl b) H'
section
open L2H
variable {P : Program} {w : World} {K : PySem.W.Frag} {mg : Str → Option Value} {base : Heap} {k : Nat} {f : Addr} {x qual : Str} {st : Stmt} {fd : FuncData} {N ps : List Str} {L : Lk} {B : S}
theorem fnW_sam (Fn : FunA K x qual st f fd) (S : FnScope N ps (defScope st)) (h2 : ps.length = 2) (hle : 2 ≤ N.length)
    (body : ∀ (cdv : Value) (A : Around) (outer : List Env) (s : Shared) (H : Hp) (E : XK) (p : Addr × Obj), RoomH 3 (A.deeper (envOfC qual (defScope st) s.heap.objs.size f cdv)) → QSs (cxH (L2.CX P w) P w K mg base N qual (defScope st) f cdv A outer s H E p) L Tz (fun _ _ _ _ => False) (defBody st) B)
    (hB : ∀ d1 d2 b om, samD d1 d2 = some b → evS Tz B (slots ⟨2, N.length, B, none⟩ [d1, d2]) om = .ret (.bl b) om) : FnW P w K mg base (L2.CX P w) 4 f fd ps (spSam K L) := by
  refine fnW_of Fn S (fun vs H Q E h => ?_) fun cdv A outer s H vs Q E p room h => ?_
  · obtain ⟨F, G, am, om, d1, d2, b, M, r, _⟩ := h
    rw [← r.length, h2]
    rfl
  · obtain ⟨F, G, am, om, d1, d2, b, M, r, hs, hq⟩ := h
    have e1 : L2.start N vs = vs.map some ++ List.replicate (N.length - 2) none := by
      unfold L2.start
      rw [← r.length]
      rfl
    refine ⟨rdS K L Tz (fun _ _ _ _ => False) ⟨F, none⟩ G am B, body cdv A outer s H E p room _ _ _, slots ⟨2, N.length, B, none⟩ [d1, d2], om, ⟨F, G, am, Ex.refl, Grow.refl, M, ?_, fun i c a g1 g2 => ?_, fun i c fs g1 => ?_⟩, ?_⟩
    · rw [e1]
      exact slr_start r _
    · rw [no_own g1] at g2
      cases g2
    · cases no_own g1
    · rw [hB d1 d2 b om hs]
      intro v H' G' am' g M' rr
      cases rr
      exact hq H' G' am' g M'
end
theorem fnW_none {P : Program} {w : World} {K : PySem.W.Frag} {mg : Str → Option Value} {base : Heap} {f : Addr} {fd : FuncData} {ps : List Str} : FnW P w K mg base (L2.CX P w) 0 f fd ps (fun _ _ _ _ => False) := ⟨fun _ _ _ _ h => h.elim, fun _ _ _ _ _ h => h.elim⟩
section
open L2H
variable {X : Cx} {L : Lk} {p : Prog} {n wf : Nat} {W : WX} {f : Addr} {fd : FuncData} {ps : List Str} {x : Str} {q pos : Pos} {e1 e2 : Expr} {ea eb : E} {pr : Addr × Obj}
theorem sam_ev {T : Tb} {sl : Sl} {om : Om} : evE T (.sam ea eb) sl om = (evL T (.cons ea (.cons eb .nil)) sl om).bind fun xs om => match xs with
      | [a, b] => if 2 ≤ T.lev then match samD a b with
        | some t => .ok (.bl t) om
        | none => .stuck else .stuck
      | _ => .stuck := by
  rw [evE, evL]
  cases evE T ea sl om with
  | stuck => rfl
  | exc c fs om => rfl
  | ok d om =>
    rw [bind_ok, bind_ok, evL]
    cases evE T eb sl om with
    | stuck => rfl
    | exc c fs om => rfl
    | ok d2 om2 =>
      rw [bind_ok, bind_ok, evL]
      rfl
theorem pE_sam (Fw : FnW X.prog X.w X.K X.mg X.base (L2.CX X.prog X.w) 4 f fd ps (spSam X.K L)) (room : RoomH (2 * n + 1) X.A) (hp : pr ∈ X.pn) (hg : Gl X x) (hm : X.mg x = some (.ref f)) (hk : PySem.W.keepIn X.K (.ref f) = true) (hb : Binds X.K fd ps [])
    (ha : PA X [e1, e2] (rdL X.K L (tab p wf n) W (.cons ea (.cons eb .nil)))) (hdb : (x == ("__debug__" : Str)) = false := by decide) (he : starEach [e1, e2] X.env = (false, eval e1 X.env) :: starEach [e2] X.env := by rfl) (hpl : (backTo pos (starEach [e2] X.env)).any (·.1) = false := by rfl) :
    PE X (.Call (.Name x q) [e1, e2] [] pos) (rdE X.K L (tab p wf n) W (.sam ea eb)) := by
  by_cases h2 : 2 ≤ n
  · refine (pe_callW (E' := fun _ => fun _ _ _ => False) (pr := pr) Fw (room.mono (by omega)) hp hg hm hk hb (fun σ => passE0) ha hdb he hpl).imp fun σ H Q ⟨F, G, am, om, sl, M, S, pp⟩ => ?_
    rw [sam_ev] at pp
    refine ⟨F, G, am, om, sl, M, S, pp.bind fun ds om1 vs H1 G1 am1 g1 M1 r1 p1 => ?_⟩
    match ds, r1, p1 with
    | [d1, d2], r1, p1 =>
      dsimp only at p1
      rw [if_pos (show 2 ≤ (tab p wf n).lev from h2)] at p1
      cases hs : samD d1 d2 with
      | none => rw [hs] at p1; exact p1.elim
      | some b =>
        rw [hs] at p1
        exact ⟨F, G1, am1, om1, d1, d2, b, M1, r1, hs, fun H' G' am' g M' => p1 (.bl b) H' G' am' g M' (.bl b)⟩
    | [], r1, p1 => exact p1.elim
    | [_], r1, p1 => exact p1.elim
    | _ :: _ :: _ :: _, r1, p1 => exact p1.elim
  · refine (pe_callW (E' := fun _ => fun _ _ _ => False) (pr := pr) fnW_none (room.mono (by omega)) hp hg hm hk hb (fun σ => passE0) ha hdb he hpl).imp fun σ H Q ⟨F, G, am, om, sl, M, S, pp⟩ => ?_
    rw [sam_ev] at pp
    refine ⟨F, G, am, om, sl, M, S, pp.bind fun ds om1 vs H1 G1 am1 g1 M1 r1 p1 => ?_⟩
    match ds, r1, p1 with
    | [d1, d2], r1, p1 =>
      dsimp only at p1
      rw [if_neg (show ¬ 2 ≤ (tab p wf n).lev from h2)] at p1
      exact p1
    | [], r1, p1 => exact p1
    | [_], r1, p1 => exact p1
    | _ :: _ :: _ :: _, r1, p1 => exact p1
/-- room in a suite -/
theorem room_suite {a : Addr} {pn : List (Addr × Obj)} (hr : Room (2 * n + 1) X.A) : RoomH (2 * n + 1) (X.suite a pn).A := ⟨hr.dp, hr.un⟩
theorem hu_suite {a : Addr} {pn : List (Addr × Obj)} (hr : Room (2 * n + 1) X.A) : (X.suite a pn).A.units + 65 < cLine := by
  have h := hr.un
  show X.A.units + 65 < cLine
  omega
theorem hu_hot {k : Nat} {A : Around} (room : RoomH k A) : A.units + 65 < cLine := by
  have h := room.un
  omega
end
end PD

set_option Elab.async false
set_option linter.all false
set_option maxRecDepth 100000
set_option maxHeartbeats 1000000
/-! PDT: a list's last item taken away; text.replace(a, b) behind a test with a written number. -/
namespace PD
open PySem PySem.Spec PyProof.Rows L2
theorem RepL.dropLast {K : PySem.W.Frag} {L : Lk} {G : Hp} {am : List Addr} : ∀ {ds : List D} {vs : List V}, RepL K L G am ds vs → RepL K L G am ds.dropLast vs.dropLast
  | _, _, .nil => .nil
  | [d], [v], .cons h .nil => .nil
  | d :: d2 :: ds, v :: v2 :: vs, .cons h r => .cons h (RepL.dropLast r)
section
variable {X : Cx} {L : Lk} {p : Prog} {fi : Nat → FI} {n wf : Nat} {W : WX} {T : Tb} {i j : Nat} {pos apos cpos apos2 p' : Pos}
/-- y = x.pop(), x a list held alone -/
theorem q_pop {x : Str} {st : Stmt} (hN : X.N[i]? = some x) (hv : Vis X.env.scope x) (hij : i ≠ j) (hp : ∀ {to : TE}, PE X (.Name x apos) to → PS X st (tAsg (tBM0 X.K "list" rPop to) (gName j)))
    (hd : (x == ("__debug__" : Str)) = false := by decide) (hcd : (x == ("__classdict__" : Str)) = false := by decide) : QS X L T W st (.pop i j) := fun F0 G0 am0 =>
  (hp (pe_var hN hv hd hcd)).imp fun D σ H ⟨sl, om, ⟨F, G, am, R⟩, o⟩ => by
    simp only [evS] at o
    split at o
    · rename_i ds h0
      split at o
      · rename_i d hl
        obtain ⟨ov, ho, q, vs, rfl, hF, r⟩ := R.slr.at h0
        obtain ⟨v, hv, rv⟩ := r.get hl
        rw [r.length] at hv
        have R2 : StR X.K L F0 G0 am0 (sl.set i (.own ds.dropLast)) om σ (upd H q (.lst vs.dropLast)) (upd F q (.lst vs.dropLast)) G am := R.setUpd h0 rfl ho ⟨q, vs.dropLast, rfl, upd_same, r.dropLast⟩ (fun _ _ e => by cases e)
        exact ⟨_, ho, .inl ⟨rfl, vs, SqL.of (R.mem.fH _ _ hF)⟩, q, vs, v, rfl, rfl, R.mem.fH _ _ hF, hv, o _ _ ⟨_, G, am, R2.setVal (i := j) (c := .val d) (o := some v) rfl ⟨v, rfl, rv⟩⟩⟩
      · exact o.elim
    · exact o.elim
/-! ### a token is out -/
def QST (X : Cx) (L : Lk) (T : Tb) (W : WX) (st : Stmt) (s : S) : Prop := ∀ F0 G0 am0, PST X st (rdS X.K L T W F0 G0 am0 s)
def QSsT (X : Cx) (L : Lk) (T : Tb) (W : WX) (sts : List Stmt) (s : S) : Prop := ∀ F0 G0 am0, PSsT X sts (rdS X.K L T W F0 G0 am0 s)
variable {st : Stmt} {sts p1 p2 : List Stmt} {s s' : S} {a b o ix e c : Expr} {ea eb eo ei ee ec : E}
theorem qT_of (h : QS X L T W st s) : QST X L T W st s := fun F0 G0 am0 => .of (h F0 G0 am0)
theorem qsT_of (h : QSs X L T W sts s) : QSsT X L T W sts s := fun F0 G0 am0 => .of (h F0 G0 am0)
theorem qsT_cons (h1 : QST X L T W st s) (h2 : QSsT X L T W sts s') : QSsT X L T W (st :: sts) (.seq s s') := fun F0 G0 am0 pins sh σ H D h0 I ⟨sl, om, k, o⟩ => by
  refine psst_cons (h1 F0 G0 am0) (h2 F0 G0 am0) pins sh σ H D h0 I ⟨sl, om, k, ?_⟩
  have e : evS T (.seq s s') sl om = match evS T s sl om with
    | .next sl om => evS T s' sl om
    | o => o := rfl
  rw [e] at o
  cases q : evS T s sl om with
  | next sl' om' => rw [q] at o; exact fun σ' H' k' => ⟨sl', om', k', o⟩
  | stuck => rw [q] at o; exact o
  | brk sl' om' => rw [q] at o; exact o
  | cnt sl' om' => rw [q] at o; exact o
  | ret d om' => rw [q] at o; exact o
  | retF d om' => rw [q] at o; exact o
  | exc c fs sl' om' => rw [q] at o; exact o
/-- a test behind which a token is out -/
def PTp (X : Cx) (e : Expr) (t : TT) : Prop := ∀ (pins : List (Addr × Obj)) (s : Shared) (σ : L2.St) (H : Hp) (Q : Bool → Hp → Prop), Inv X pins σ H s → t σ H Q → wpAny (model X.prog X.w) X.A (isTrue e X.env (eval e X.env)) (fun b s' => 1 ≤ s'.toks ∧ TP X pins σ Q b s') X.xe s
theorem ptp_cm {k : Int} {j0 : Nat} {c0 : Pos} (hL : Lnk X.prog X.w X.K X.mg X.base L p fi n) (hr : Room (2 * n + 1) X.A) (o : Cop) (ha : PE X a (rdB X.K L (tab p wf n) W ea)) (hm : behindInMarks o.py (.Constant (.int k) j0 c0) = false) :
    PTp X (.Compare a [o.py] [.Constant (.int k) j0 c0] pos) (rdT X.K L (tab p wf n) W (.cm o ea (.k (.int k)))) := by
  intro pins s σ H Q I ⟨F, G, am, om, sl, M, S, pp⟩
  have e : evT (tab p wf n) (.cm o ea (.k (.int k))) sl om = (evE (tab p wf n) ea sl om).bind fun x om => (cmp (tab p wf n) o x (.int k) om).bind fun c om => .ok c om := by
    show ((evE (tab p wf n) ea sl om).bind fun x om => (cmp (tab p wf n) o x (.int k) om).bind fun c om => Rs.ok (D.bl c) om).bind (fun x om => tru x om) = _
    rw [bind_assoc]
    refine congrArg _ (funext fun x => funext fun om1 => ?_)
    rw [bind_assoc]
    rfl
  rw [e] at pp
  refine wpAny_isTrue_Compare1 (thn (ha.run pins s σ H (fun x H1 => ∃ F G am om1 dx E, Mem X.K L F G am om1 H1 ∧ RepB X.K L F G am dx x ∧ Post X.K L eqR F G am (cmp (tab p wf n) o dx (.int k) om1) E Q) I ⟨F, G, am, om, sl, M, S, pp.bind fun dx om1 x H1 G1 am1 g1 M1 rx p1 => ⟨F, G1, am1, om1, dx, (fun cv dd H => W cv dd σ H), M1, rx, ?_⟩⟩) fun v s1 ⟨x, H1, I1, r1, F1, G1, am1, om1, dx, E1, M1, rx, p1⟩ => wpAny_Constant_int ?_) hm
  · cases q : cmp (tab p wf n) o dx (.int k) om1 with
    | stuck => rw [q] at p1; exact p1
    | ok t om2 => rw [q] at p1; exact p1
    | exc c fs om2 => rw [q] at p1; exact p1
  · have z := op_cmp (wf := wf) hL hr (by have := hr.un; omega) o pins { s1 with toks := s1.toks + 1 } σ H1 x (.int k) v (.int k s1.toks) (fun y H2 => ∃ t, y = .bl t ∧ Q t H2) (I1.tok _) r1 ⟨_, rfl⟩ ⟨F1, G1, am1, om1, dx, .int k, E1, M1, rx, .inl (.int k), p1.mono fun t H2 q => ⟨t, rfl, q⟩⟩
    refine wpAny_mono (PySem.wpAny_toks z) (fun y s3 ⟨hk, y1, H3, I3, r3, t, et, q3⟩ => ?_) fun _ _ z => z.2
    subst et
    cases r3
    have hk' : s1.toks + 1 ≤ s3.toks := hk
    exact wpAny_truthy_bool ⟨by omega, H3, I3, q3⟩
theorem ptp_an {rest : List Expr} (ha : PTp X a (rdT X.K L T W ea)) (hb : PW X (.BoolOp .And (b :: rest) pos) (rdT X.K L T W eb)) : PTp X (.BoolOp .And (a :: b :: rest) pos) (rdT X.K L T W (.an ea eb)) := by
  intro pins s σ H Q I ⟨F, G, am, om, sl, M, S, pp⟩
  have e : evT T (.an ea eb) sl om = (evT T ea sl om).bind fun c om => if c = true then evT T eb sl om else .ok false om := by
    show ((evE T ea sl om).bind fun x om => (tru x om).bind fun c om => if c = true then evE T eb sl om else .ok x om).bind (fun x om => tru x om) = ((evE T ea sl om).bind fun x om => tru x om).bind fun c om => if c = true then evT T eb sl om else .ok false om
    cases evE T ea sl om with
    | stuck => rfl
    | exc c fs om => rfl
    | ok d om =>
      simp only [bind_ok]
      unfold tru
      cases q : truD d with
      | none => rfl
      | some t =>
        cases t with
        | true => rfl
        | false => simp [bind_ok, tru, q]
  rw [e] at pp
  refine isTrue_and (thn (ha pins s σ H (fun c H1 => if c = true then rdT X.K L T W eb σ H1 Q else Q false H1) I ⟨F, G, am, om, sl, M, S, pp.bind fun c om1 c' H1 G1 am1 g1 M1 z p1 => ?_⟩) fun c s1 ⟨h1, H1, I1, q1⟩ => ?_)
  · cases z
    cases c with
    | true =>
      rw [if_pos rfl] at p1 ⊢
      exact ⟨F, G1, am1, om1, sl, M1, S.grow g1, p1⟩
    | false =>
      rw [if_neg (by decide)] at p1 ⊢
      exact p1 false H1 G1 am1 Grow.refl M1 rfl
  · cases c with
    | true =>
      refine wpAny_mono (PySem.wpAny_toks (hb.run _ pins s1 σ H1 Q I1 q1)) (fun y s3 ⟨hk, z⟩ => ?_) fun _ _ z => z.2
      exact ⟨Nat.le_trans h1 hk, z⟩
    | false => exact ⟨h1, H1, I1, q1⟩
theorem q_iteT (hc : PTp X c (rdT X.K L T W ec)) (ha : QSsT X L T W p1 s) (hb : QSs X L T W p2 s') : QS X L T W (.If c p1 p2 pos) (.ite ec s s') := fun F0 G0 am0 => ⟨fun pins sh σ H D I ⟨sl, om, ⟨F, G, am, R⟩, o⟩ => by
  refine wpAny_If (thn (hc pins sh σ H (fun t H1 => if t = true then rdS X.K L T W F0 G0 am0 s D σ H1 else rdS X.K L T W F0 G0 am0 s' D σ H1) I ⟨F, G, am, om, sl, R.mem, R.slr, out_post R o fun t om1 t' H1 G1 am1 g R1 e o1 => ?_⟩) fun t s1 ⟨h1, H1, I1, q1⟩ => ?_)
  · cases e
    cases t with
    | true =>
      rw [if_pos rfl] at o1 ⊢
      exact ⟨sl, om1, ⟨F, G1, am1, R1⟩, o1⟩
    | false =>
      rw [if_neg (by decide)] at o1 ⊢
      exact ⟨sl, om1, ⟨F, G1, am1, R1⟩, o1⟩
  · cases t with
    | true => exact ha F0 G0 am0 pins s1 σ H1 D h1 I1 q1
    | false => exact (hb F0 G0 am0).run pins s1 σ H1 D I1 q1⟩
/-! ### expressions with a token out -/
theorem pet_imp {t t' : TE} (h : PET X e t) (k : ∀ σ H Q, t' σ H Q → t σ H Q) : PET X e t' := fun pins s σ H Q h0 I q => h pins s σ H Q h0 I (k σ H Q q)
theorem petB (h : PET X a (rdE X.K L T W ea)) : PET X a (rdB X.K L T W ea) := pet_imp h fun σ H Q ⟨F, G, am, om, sl, M, S, p⟩ => ⟨F, G, am, om, sl, M, S, by
  cases q : evE T ea sl om with
  | stuck => rw [q] at p; exact p
  | ok d om' => rw [q] at p; exact fun b H' G' am' g M' r => p b H' G' am' g M' (.inl r)
  | exc c fs om' => rw [q] at p; exact p⟩
theorem pet_opl (hL : Lnk X.prog X.w X.K X.mg X.base L p fi n) (hr : Room (2 * n + 1) X.A) (o : Bop) (ha : PET X a (rdB X.K L (tab p wf n) W ea)) (hb : PE X b (rdB X.K L (tab p wf n) W eb)) : PET X (.BinOp a o.py b pos) (rdE X.K L (tab p wf n) W (.op o ea eb)) := by
  intro pins s σ H Q h0 I ⟨F, G, am, om, sl, M, S, pp⟩
  have h := rd2 (r := rOp X.K L (tab p wf n) o) M S pp fun x y H' G' am' om' dx dy M' rx ry p2 => ⟨F, G', am', om', dx, dy, _, M', rx, ry, p2⟩
  exact wpAny_BinOp (thn (ha pins s σ H _ h0 I h) fun v s1 ⟨x, H1, I1, r1, q1⟩ => thn (hb.run pins s1 σ H1 _ I1 q1) fun u s2 ⟨y, H2, I2, r2, q2⟩ => op_bop hL hr o pins s2 σ H2 x y v u Q I2 r1 r2 q2)
theorem pet_opr (hL : Lnk X.prog X.w X.K X.mg X.base L p fi n) (hr : Room (2 * n + 1) X.A) (o : Bop) (ha : PE X a (rdB X.K L (tab p wf n) W ea)) (hb : PET X b (rdB X.K L (tab p wf n) W eb)) : PET X (.BinOp a o.py b pos) (rdE X.K L (tab p wf n) W (.op o ea eb)) := by
  intro pins s σ H Q h0 I ⟨F, G, am, om, sl, M, S, pp⟩
  have h := rd2 (r := rOp X.K L (tab p wf n) o) M S pp fun x y H' G' am' om' dx dy M' rx ry p2 => ⟨F, G', am', om', dx, dy, _, M', rx, ry, p2⟩
  exact wpAny_BinOp (wpAny_mono (PySem.wpAny_toks (ha.run pins s σ H _ I h)) (fun v s1 ⟨hk, x, H1, I1, r1, q1⟩ => thn (hb pins s1 σ H1 _ (Nat.le_trans h0 hk) I1 q1) fun u s2 ⟨y, H2, I2, r2, q2⟩ => op_bop hL hr o pins s2 σ H2 x y v u Q I2 r1 r2 q2) fun _ _ z => z.2)
theorem pet_lst1 (ha : PET X a (rdE X.K L T W ea)) (hs : starEach (a :: []) X.env = (false, eval a X.env) :: starEach [] X.env := by rfl) : PET X (.List [a] pos) (rdE X.K L T W (.lst (.cons ea .nil))) := by
  intro pins s σ H Q h0 I h
  have h := rdE_F (T := T) (ea := .lst (.cons ea .nil)) (fun sl om d om' h => by
    refine bind_lst (r := evL T (.cons ea .nil) sl om) (fun xs om d om' h => ?_) h
    split at h
    · cases h; exact ⟨_, rfl⟩
    · cases h) h
  obtain ⟨F, G, am, om, sl, M, S, pp⟩ := h
  refine pet_lst (pat_cons ha pat_nil hs) pins s σ H Q h0 I ⟨F, G, am, om, sl, M, S, ?_⟩
  have e : evE T (.lst (.cons ea .nil)) sl om = (evE T ea sl om).bind fun x om => .ok (.lst [x]) om := by
    rw [evE, evL]
    cases evE T ea sl om with
    | stuck => rfl
    | exc c fs om => rfl
    | ok d om => rw [bind_ok, bind_ok, evL]; rfl
  rw [e] at pp
  refine pp.bind fun d om1 v H1 G1 am1 g1 M1 r1 p1 => ⟨by show 1 ≤ _; decide, fun q hq => ?_⟩
  obtain ⟨ds', e, p1⟩ := p1
  cases e
  exact p1 _ _ _ _ am1 Grow.refl (M1.none_f hq) (M1.newF hq) (.cons r1 .nil)
theorem pst_set {x : Str} (hN : X.N.Nodup) (hi : X.N[i]? = some x) (hx : Loc X.env.scope x) (he : PET X e (rdE X.K L T W ee)) (hs : swapsWith e (some (.Name x p')) pos.line X.env = pure false := by rfl) (hf : X.fn x = true ∨ X.env.scope.names.lookup x = some .local := by first | exact .inl rfl | exact .inr rfl | assumption) :
    QST X L T W (.Assign [.Name x p'] e pos) (.set i ee) := fun F0 G0 am0 pins s σ H D h0 I ⟨sl, om, ⟨F, G, am, R⟩, o⟩ => by
  refine wpAny_Assign_Name (thn (he pins s σ H (fun v H1 => D.nx (σ.set i (some v)) H1) h0 I ⟨F, G, am, om, sl, R.mem, R.slr, out_post R o fun d om1 v H1 G1 am1 g R1 r1 o1 => o1 _ H1 ⟨F, G1, am1, R1.setVal rfl ⟨v, rfl, r1⟩⟩⟩) fun v s1 ⟨y, H1, I1, r1, q1⟩ => ?_) hs
  exact store_ok I1 hN hi hx r1 (fun s2 I2 => ⟨_, H1, I2, q1⟩) hf
/-- o.replace("y", "cs"[ix]) -/
theorem pet_rpl {y cs : Str} {j0 j1 : Nat} {c0 c1 q1 : Pos} (ho : PE X o (rdB X.K L T W eo)) (hi : PE X ix (rdB X.K L T W ei)) (hpx : PlainIx ix)
    (hst : starEach [.Constant (.str y) j0 c0, .Subscript (.Constant (.str cs) j1 c1) ix q1] X.env = [(false, eval (.Constant (.str y) j0 c0) X.env), (false, eval (.Subscript (.Constant (.str cs) j1 c1) ix q1) X.env)] := by rfl)
    (hbase : attributeBase o "replace" X.env (eval o X.env) = eval o X.env := by rfl) (hline : (apos.endLine == pos.line) = true := by rfl) :
    PET X (.Call (.Attribute o "replace" apos) [.Constant (.str y) j0 c0, .Subscript (.Constant (.str cs) j1 c1) ix q1] [] pos) (rdE X.K L T W (.rpl y eo (.ix (.k (.str cs)) ei))) := by
  intro pins s σ H Q h0 I ⟨F, G, am, om, sl, M, S, pp⟩
  have z1 := ho.run pins s σ H (fun x H1 => ∃ tx, x = .str tx ∧ rdB X.K L T W ei σ H1 fun x2 H2 => ∃ i c, x2 = .int i ∧ cs.length ≤ 1000000 ∧ atI cs.cps.toList i = some c ∧ (y == (⟨#[c]⟩ : Str)) = false ∧ tx.length + (tx.length + 1) * (⟨#[c]⟩ : Str).length ≤ 1000000 ∧ Q (.str (Txt.replace tx y ⟨#[c]⟩)) H2) I
    ⟨F, G, am, om, sl, M, S, by
      rw [evE] at pp
      refine pp.bind fun d om1 v H1 G1 am1 g1 M1 r1 p1 => ?_
      split at p1
      · rename_i tx
        cases r1.str
        refine ⟨tx, rfl, F, G1, am1, om1, sl, M1, S.grow g1, ?_⟩
        rw [evE, evE, bind_ok, bind_assoc] at p1
        refine p1.bind fun d2 om2 v2 H2 G2 am2 g2 M2 r2 p2 => ?_
        cases d2 with
        | int i =>
          cases r2.int
          dsimp only [ixD] at p2
          split at p2
          · rename_i hl
            split at p2
            · rename_i c hc
              rw [bind_ok] at p2
              dsimp only at p2
              split at p2
              · rename_i hh
                exact ⟨i, c, rfl, hl, hc, hh.1, hh.2, p2 _ H2 G2 am2 Grow.refl M2 (.str _)⟩
              · exact p2.elim
            · exact p2.elim
          · exact p2.elim
        | _ => exact p2.elim
      · exact p1.elim⟩
  refine PySem.Call_method2 hbase hst hline (wpAny_mono (PySem.wpAny_toks z1) (fun v s1 ⟨hk, x, H1, I1, rx, tx, ex, h2⟩ => ?_) fun _ _ z => z.2)
  subst ex
  obtain ⟨t, rfl⟩ := rx
  refine ⟨"str", _, PySem.F.plainAttrs_str, PySem.F.slot_str_replace, PySem.F.type_str_replace, typeIs_str _ _ _, (fun _ e => nomatch e), Calls.callWith_builtin rfl (Calls.evalArgs_plain (Calls.spliced_cons (Calls.Constant_str ?_)))⟩
  refine Calls.spliced_cons (Subscript_ (Calls.Constant_str ?_))
  refine wpAny_mono (PySem.wpAny_toks (hi.run pins _ σ H1 _ (I1.tok (s1.toks + 1 + 1)) h2)) (fun w s2 hw => ?_) fun _ _ z => z.2
  obtain ⟨hk2, x2, H2, I2, r2, i, c, e2, hl, hc, hne, hsz, q⟩ := hw
  subst e2
  obtain ⟨t2, rfl⟩ := r2
  have hk3 : s1.toks + 1 + 1 ≤ s2.toks := hk2
  obtain ⟨j, g1, g2, g3, g4, g5⟩ := atI_get hc
  have hcl : cs.cps.toList.length = cs.length := by simp [Str.length]
  rw [hcl] at g1 g4 g5
  refine tail_any (typeIs_str s2 cs _) slot_str_getitem.lookup (getItem_str (c := c) ?_ ?_ ?_) (hpx _ _)
  · have b1 : decide (i < -(2 ^ 63 : Int)) = false := decide_eq_false (by omega)
    have b2 : decide (i ≥ 2 ^ 63) = false := decide_eq_false (by omega)
    rw [b1, b2, Bool.or_false]
  · rw [g1]
    simpa using g2
  · refine Calls.spliced_nil (PySem.SC.replace (show (s1.toks : Nat) ≠ 0 by omega) (show (s2.toks : Nat) ≠ 0 by omega) (show (s1.toks : Nat) ≠ s2.toks by omega) hne (by omega) fun t' k => ⟨.str (Txt.replace tx y ⟨#[c]⟩), H2, I2.tok k, ⟨t', rfl⟩, q⟩)
end
end PD

set_option Elab.async false
set_option linter.all false
set_option maxRecDepth 100000
set_option maxHeartbeats 1000000
/-! The program's defs in the small language, and that each is what it says: printed by gen.py. -/
namespace K81
open PySem PySem.Spec PyProof.Rows L2 PD
def top (i : Nat) : Stmt := PySem.Challenge.pw_seesmore_k81_whole_lines_of_plans_are_re.main.body.getD i (.Pass ⟨0, 0, 0, 0⟩)
abbrev s_whole : Stmt := top 10
abbrev s_signal_words : Stmt := top 12
abbrev s_plan_lines : Stmt := top 13
abbrev s_PlanReader_init : Stmt := inClass (top 14) 0
abbrev s_PlanReader_begins : Stmt := inClass (top 14) 1
abbrev s_PlanReader_number : Stmt := inClass (top 14) 2
abbrev s_PlanReader_signal : Stmt := inClass (top 14) 3
abbrev s_PlanReader_plan : Stmt := inClass (top 14) 4
abbrev s_read_plan : Stmt := top 15
abbrev s_Lpool : Stmt := top 17
abbrev s_Ldraw : Stmt := top 18
abbrev s_Lspend : Stmt := top 19
abbrev s_Lsame : Stmt := top 20
abbrev s_Lsignal : Stmt := top 21
abbrev s_Ltree : Stmt := top 22
abbrev s_Lchain : Stmt := top 23
abbrev s_Lsignal_words : Stmt := top 24
abbrev s_Llines : Stmt := top 25
abbrev s_Ldigits : Stmt := top 26
abbrev s_Lsignal_right : Stmt := top 27
abbrev s_Lbad : Stmt := top 28
abbrev s_Lword : Stmt := top 29
abbrev s_Lspoilt : Stmt := top 30
abbrev s_Lchanged : Stmt := top 31
abbrev s_law : Stmt := top 32
abbrev s_BadPaper_init : Stmt := inClass (top 6) 0
theorem sup_BadPaper : SupScope "self" "at" (defScope s_BadPaper_init) := ⟨rfl, rfl, rfl, by decide, rfl, rfl, by decide +kernel, by decide +kernel, rfl, rfl⟩
theorem supb_BadPaper : SupBody s_BadPaper_init "self" "at" "at" := ⟨⟨_, _, _, _, _, _, _, _, _, _, _, _, rfl, fun qual L f cd cc => ⟨⟨_, rfl⟩, rfl, rfl, rfl⟩⟩, rfl, by decide, by decide⟩
def cs_law_0 : Nat → Option Bool := fun c => match c with
  | 6 => some true
  | _ => none
def hd_law_0 (c : Nat) (fs : List D) : S := if c = 6 then (match fs with
    | .str t :: _ => (.seq (.ite (.cm0 .ne (.v 6) (.v 3)) (.seq (.ret (.k (.bl false))) .skip) .skip) (.seq (.ite (.or (.xf 8 (.bl false)) (.no (.xf 8 (.bl true)))) (.seq (.ret (.k (.bl false))) .skip) .skip) (.seq (.ret (.an (.cm0 .isn (.v 5) (.k .non)) (.sam (.xf 8 (.str t)) (.v 5)))) .skip)))
    | .int z :: _ => (.seq (.ite (.cm0 .ne (.v 6) (.v 3)) (.seq (.ret (.k (.bl false))) .skip) .skip) (.seq (.ite (.or (.xf 8 (.bl false)) (.no (.xf 8 (.bl true)))) (.seq (.ret (.k (.bl false))) .skip) .skip) (.seq (.ret (.an (.cm0 .isn (.v 5) (.k .non)) (.sam (.xf 8 (.int z)) (.v 5)))) .skip)))
    | _ => .never) else .never
def B_whole : S := (.seq (.ite (.or (.no (.ch .lt .le (.k (.int 0)) (.bi .len (.v 0)) (.k (.int 60)))) (.no (.bi .all (.comp (.one 1) (.itl (.v 0)) (.k (.bl true)) (.cm .inn (.v 1) (.k (.str "0123456789"))))))) (.seq (.ret (.k .non)) .skip) .skip) (.seq (.ret (.ite (.an (.cm .eq (.ix (.v 0) (.k (.int 0))) (.k (.str "0"))) (.cm .ne (.v 0) (.k (.str "0")))) (.k .non) (.bi .int (.v 0)))) .skip))
def B_signal_words : S := (.seq (.ite (.isi [.tuple] (.v 0)) (.seq (.setO 1 (.lst (.cons (.k (.str "(")) .nil))) (.seq (.fo (.one 2) (.itl (.v 0)) (.seq (.ext 1 (.call 1 [] (.cons (.v 2) .nil))) .skip)) (.seq (.ret (.op .add (.b 1) (.lst (.cons (.k (.str ")")) .nil)))) .skip))) .skip) (.seq (.ret (.lst (.cons (.bi .str (.v 0)) .nil))) .skip))
def B_plan_lines : S := (.seq (.set 2 (.op .mul (.lst (.cons (.k (.str ".")) .nil)) (.v 1))) (.seq (.ite (.cm .eq (.ix (.v 0) (.k (.int 0))) (.k (.str "choose"))) (.seq (.ret (.lst (.cons (.mb .join (.k (.str " ")) (.lst (.star (.v 2) (.cons (.k (.str "choose")) (.cons (.bi .str (.ix (.v 0) (.k (.int 1)))) .nil))))) .nil))) .skip) .skip) (.seq (.setO 3 (.lst (.cons (.mb .join (.k (.str " ")) (.lst (.star (.v 2) (.cons (.k (.str "ask")) (.cons (.bi .str (.ix (.v 0) (.k (.int 1)))) .nil))))) .nil))) (.seq (.fo (.many [4, 5]) (.itl (.ix (.v 0) (.k (.int 2)))) (.seq (.app 3 (.mb .join (.k (.str " ")) (.lst (.star (.v 2) (.cons (.k (.str ".")) (.cons (.k (.str "if")) (.star (.call 1 [] (.cons (.v 4) .nil)) .nil))))))) (.seq (.ext 3 (.call 2 [] (.cons (.v 5) (.cons (.op .add (.v 1) (.k (.int 2))) .nil)))) .skip))) (.seq (.fz 3) (.seq (.ret (.v 3)) .skip))))))
def B_PlanReader_init : S := (.seq (.stF 0 0 0 (.comp (.one 2) (.itl (.v 1)) (.k (.bl true)) (.mb .split (.v 2) (.k (.str " "))))) (.seq (.stF 0 0 1 (.k (.int 0))) .skip))
def B_PlanReader_begins : S := (.seq (.ite (.cm .ge (.fld 0 1 (.v 0)) (.bi .len (.fld 0 0 (.v 0)))) (.seq (.ret (.k (.bl false))) .skip) .skip) (.seq (.set 3 (.ix (.fld 0 0 (.v 0)) (.fld 0 1 (.v 0)))) (.seq (.ret (.an (.cm .eq (.sl (.v 3) .nop (.cons (.v 1) .nil)) (.op .mul (.lst (.cons (.k (.str ".")) .nil)) (.v 1))) (.cm .eq (.sl (.v 3) (.cons (.v 1) .nil) (.cons (.op .add (.v 1) (.k (.int 1))) .nil)) (.lst (.cons (.v 2) .nil))))) .skip)))
def B_PlanReader_number : S := (.seq (.set 2 (.ix (.fld 0 0 (.v 0)) (.fld 0 1 (.v 0)))) (.seq (.ite (.or (.cm .ne (.bi .len (.v 2)) (.op .add (.v 1) (.k (.int 2)))) (.cm .is (.call 0 [] (.cons (.ix (.v 2) (.op .add (.v 1) (.k (.int 1)))) .nil)) (.k .non))) (.seq (.rais 6 (.cons (.fld 0 1 (.v 0)) .nil)) .skip) .skip) (.seq (.auF 0 0 1 (.k (.int 1))) (.seq (.ret (.call 0 [] (.cons (.ix (.v 2) (.op .add (.v 1) (.k (.int 1)))) .nil))) .skip))))
def B_PlanReader_signal : S := (.seq (.ite (.cm .ge (.v 2) (.bi .len (.v 1))) (.seq (.rais 6 (.cons (.fld 0 1 (.v 0)) .nil)) .skip) .skip) (.seq (.ite (.cm .ne (.ix (.v 1) (.v 2)) (.k (.str "("))) (.seq (.set 3 (.call 0 [] (.cons (.ix (.v 1) (.v 2)) .nil))) (.seq (.ite (.cm .is (.v 3) (.k .non)) (.seq (.rais 6 (.cons (.fld 0 1 (.v 0)) .nil)) .skip) .skip) (.seq (.ret (.tup (.cons (.v 3) (.cons (.op .add (.v 2) (.k (.int 1))) .nil)))) .skip))) .skip) (.seq (.setO 4 (.lst .nil)) (.seq (.aug 2 .add (.k (.int 1))) (.seq (.whl (.cm .ne (.sl (.v 1) (.cons (.v 2) .nil) (.cons (.op .add (.v 2) (.k (.int 1))) .nil)) (.lst (.cons (.k (.str ")")) .nil))) (.seq (.setT [5, 2] (.meth 0 6 [] (.v 0) (.cons (.v 1) (.cons (.v 2) .nil)))) (.seq (.app 4 (.v 5)) .skip))) (.seq (.ret (.tup (.cons (.bi .tuple (.b 4)) (.cons (.op .add (.v 2) (.k (.int 1))) .nil)))) .skip))))))
def B_PlanReader_plan : S := (.seq (.ite (.meth 0 4 [] (.v 0) (.cons (.v 1) (.cons (.k (.str "choose")) .nil))) (.seq (.ret (.tup (.cons (.k (.str "choose")) (.cons (.meth 0 5 [] (.v 0) (.cons (.v 1) .nil)) .nil)))) .skip) .skip) (.seq (.ite (.no (.meth 0 4 [] (.v 0) (.cons (.v 1) (.cons (.k (.str "ask")) .nil)))) (.seq (.rais 6 (.cons (.fld 0 1 (.v 0)) .nil)) .skip) .skip) (.seq (.set 2 (.meth 0 5 [] (.v 0) (.cons (.v 1) .nil))) (.seq (.setO 3 (.lst .nil)) (.seq (.whl (.meth 0 4 [] (.v 0) (.cons (.op .add (.v 1) (.k (.int 1))) (.cons (.k (.str "if")) .nil))) (.seq (.set 4 (.ix (.fld 0 0 (.v 0)) (.fld 0 1 (.v 0)))) (.seq (.setT [5, 6] (.meth 0 6 [] (.v 0) (.cons (.v 4) (.cons (.op .add (.v 1) (.k (.int 2))) .nil)))) (.seq (.ite (.or (.cm .ne (.v 6) (.bi .len (.v 4))) (.cm .inn (.v 5) (.comp (.one 7) (.itl (.b 3)) (.k (.bl true)) (.ix (.v 7) (.k (.int 0)))))) (.seq (.rais 6 (.cons (.fld 0 1 (.v 0)) .nil)) .skip) .skip) (.seq (.auF 0 0 1 (.k (.int 1))) (.seq (.app 3 (.tup (.cons (.v 5) (.cons (.meth 0 7 [] (.v 0) (.cons (.op .add (.v 1) (.k (.int 2))) .nil)) .nil)))) .skip)))))) (.seq (.ret (.tup (.cons (.k (.str "ask")) (.cons (.v 2) (.cons (.bi .tuple (.b 3)) .nil))))) .skip))))))
def B_read_plan : S := (.seq (.set 1 (.mka 0 3 [] (.cons (.v 0) .nil))) (.seq (.set 2 (.meth 0 7 [] (.v 1) (.cons (.k (.int 0)) .nil))) (.seq (.ite (.cm .lt (.fld 0 1 (.v 1)) (.bi .len (.v 0))) (.seq (.rais 6 (.cons (.fld 0 1 (.v 1)) .nil)) .skip) .skip) (.seq (.ret (.v 2)) .skip))))
def B_Lpool : S := (.seq (.retF (.lst (.cons (.bi .list (.v 0)) (.cons (.k (.int 0)) (.cons (.k (.int 0)) (.cons (.k (.int 1)) (.cons (.k (.int 0)) (.cons (.v 1) .nil)))))))) .skip)
def B_Ldraw : S := (.seq (.ite (.an (.cm .le (.ix (.v 0) (.k (.int 2))) (.k (.int 0))) (.an (.cm .le (.ix (.v 0) (.k (.int 4))) (.k (.int 0))) (.cm .lt (.ix (.v 0) (.k (.int 1))) (.bi .len (.ix (.v 0) (.k (.int 0))))))) (.seq (.set 2 (.ix (.ix (.v 0) (.k (.int 0))) (.ix (.v 0) (.k (.int 1))))) (.seq (.setIA 0 (.k (.int 1)) (.op .add (.ix (.v 0) (.k (.int 1))) (.k (.int 1)))) (.seq (.setIA 0 (.k (.int 3)) (.op .mod (.bi .int (.op .add (.op .mul (.ix (.v 0) (.k (.int 3))) (.k (.int 31))) (.v 2))) (.k (.int 2147483647)))) (.seq (.setIA 0 (.k (.int 4)) (.k (.int 7))) (.seq (.ite (.cm .ge (.v 2) (.op .pow (.k (.int 10)) (.k (.int 18)))) (.seq (.setIA 0 (.k (.int 2)) (.v 2)) .skip) .skip) .skip))))) .skip) (.seq (.ite (.cm .gt (.ix (.v 0) (.k (.int 2))) (.k (.int 0))) (.seq (.set 3 (.op .mod (.bi .int (.ix (.v 0) (.k (.int 2)))) (.v 1))) (.seq (.setIA 0 (.k (.int 2)) (.op .fdiv (.ix (.v 0) (.k (.int 2))) (.v 1))) (.seq (.setIA 0 (.k (.int 4)) (.k (.int 0))) (.seq (.ret (.v 3)) .skip)))) .skip) (.seq (.setIA 0 (.k (.int 4)) (.op .sub (.ix (.v 0) (.k (.int 4))) (.k (.int 1)))) (.seq (.setIA 0 (.k (.int 3)) (.op .mod (.bi .int (.op .add (.op .mul (.ix (.v 0) (.k (.int 3))) (.k (.int 48271))) (.k (.int 12345)))) (.k (.int 2147483647)))) (.seq (.ret (.op .mod (.op .mod (.bi .int (.op .add (.op .mul (.ix (.v 0) (.k (.int 3))) (.k (.int 69621))) (.k (.int 7919)))) (.k (.int 2147483647))) (.v 1))) .skip)))))
def B_Lspend : S := (.seq (.setIA 0 (.k (.int 5)) (.op .sub (.ix (.v 0) (.k (.int 5))) (.k (.int 1)))) (.seq (.ret (.cm .ge (.ix (.v 0) (.k (.int 5))) (.k (.int 0)))) .skip))
def B_Lsame : S := (.seq (.ite (.or (.isi [.tuple] (.v 1)) (.isi [.list] (.v 1))) (.seq (.ite (.or (.cm .ne (.isi [.tuple] (.v 1)) (.isi [.tuple] (.v 0))) (.cm .ne (.isi [.list] (.v 1)) (.isi [.list] (.v 0)))) (.seq (.ret (.k (.bl false))) .skip) .skip) (.seq (.ite (.cm .ne (.bi .len (.v 0)) (.bi .len (.v 1))) (.seq (.ret (.k (.bl false))) .skip) .skip) (.seq (.fo (.one 2) (.rng1 (.bi .len (.v 1))) (.seq (.ite (.no (.call 12 [] (.cons (.ix (.v 0) (.v 2)) (.cons (.ix (.v 1) (.v 2)) .nil)))) (.seq (.ret (.k (.bl false))) .skip) .skip) .skip)) (.seq (.ret (.k (.bl true))) .skip)))) .skip) (.seq (.ite (.or (.cm .is (.v 1) (.k .non)) (.isi [.bool] (.v 1))) (.seq (.ret (.an (.cm .eq (.cm .is (.v 0) (.k .non)) (.cm .is (.v 1) (.k .non))) (.an (.or (.cm .is (.v 1) (.k .non)) (.isi [.bool] (.v 0))) (.cm .eq (.v 0) (.v 1))))) .skip) .skip) (.seq (.ite (.isi [.int] (.v 1)) (.seq (.ret (.an (.isi [.int] (.v 0)) (.an (.no (.isi [.bool] (.v 0))) (.cm .eq (.v 0) (.v 1))))) .skip) .skip) (.seq (.ret (.an (.isi [.str] (.v 0)) (.cm .eq (.v 0) (.v 1)))) .skip))))
def B_Lsignal : S := (.seq (.ite (.or (.cm .eq (.v 1) (.k (.int 0))) (.cm .eq (.call 10 [] (.cons (.v 0) (.cons (.k (.int 2)) .nil))) (.k (.int 0)))) (.seq (.ret (.ix (.tup (.cons (.call 10 [] (.cons (.v 0) (.cons (.k (.int 9)) .nil))) (.cons (.call 10 [] (.cons (.v 0) (.cons (.k (.int 70000)) .nil))) .nil))) (.call 10 [] (.cons (.v 0) (.cons (.k (.int 2)) .nil))))) .skip) .skip) (.seq (.ret (.bi .tuple (.comp (.one 2) (.rng1 (.call 10 [] (.cons (.v 0) (.cons (.k (.int 4)) .nil)))) (.k (.bl true)) (.call 13 [] (.cons (.v 0) (.cons (.op .sub (.v 1) (.k (.int 1))) .nil)))))) .skip))
def B_Ltree : S := (.seq (.ite (.or (.cm .eq (.v 1) (.k (.int 0))) (.or (.no (.call 11 [] (.cons (.v 0) .nil))) (.cm .eq (.call 10 [] (.cons (.v 0) (.cons (.k (.int 3)) .nil))) (.k (.int 0))))) (.seq (.ret (.tup (.cons (.k (.str "choose")) (.cons (.call 10 [] (.cons (.v 0) (.cons (.k (.int 20)) .nil))) .nil)))) .skip) .skip) (.seq (.setO 2 (.lst .nil)) (.seq (.fo (.one 3) (.rng1 (.call 10 [] (.cons (.v 0) (.cons (.k (.int 4)) .nil)))) (.seq (.set 4 (.call 13 [] (.cons (.v 0) (.cons (.k (.int 2)) .nil)))) (.seq (.ite (.cm .nin (.v 4) (.comp (.one 5) (.itl (.b 2)) (.k (.bl true)) (.ix (.v 5) (.k (.int 0))))) (.seq (.app 2 (.tup (.cons (.v 4) (.cons (.call 14 [] (.cons (.v 0) (.cons (.op .sub (.v 1) (.k (.int 1))) .nil))) .nil)))) .skip) .skip) .skip))) (.seq (.ret (.tup (.cons (.k (.str "ask")) (.cons (.call 10 [] (.cons (.v 0) (.cons (.k (.int 20)) .nil))) (.cons (.bi .tuple (.b 2)) .nil))))) .skip))))
def B_Lchain : S := (.seq (.set 1 (.tup (.cons (.k (.str "choose")) (.cons (.call 10 [] (.cons (.v 0) (.cons (.k (.int 20)) .nil))) .nil)))) (.seq (.fo (.one 2) (.rng1 (.call 10 [] (.cons (.v 0) (.cons (.k (.int 21)) .nil)))) (.seq (.set 3 (.call 10 [] (.cons (.v 0) (.cons (.k (.int 9)) .nil)))) (.seq (.fo (.one 4) (.rng1 (.ix (.tup (.cons (.k (.int 0)) (.cons (.call 10 [] (.cons (.v 0) (.cons (.k (.int 10)) .nil))) .nil))) (.call 10 [] (.cons (.v 0) (.cons (.k (.int 2)) .nil))))) (.seq (.set 3 (.tup (.cons (.v 3) .nil))) .skip)) (.seq (.set 1 (.tup (.cons (.k (.str "ask")) (.cons (.call 10 [] (.cons (.v 0) (.cons (.k (.int 20)) .nil))) (.cons (.tup (.cons (.tup (.cons (.v 3) (.cons (.v 1) .nil))) .nil)) .nil))))) .skip)))) (.seq (.ret (.v 1)) .skip)))
def B_Lsignal_words : S := (.seq (.ite (.isi [.tuple] (.v 0)) (.seq (.set 1 (.lst (.cons (.k (.str "(")) .nil))) (.seq (.fo (.one 2) (.itl (.v 0)) (.seq (.set 1 (.op .add (.v 1) (.call 16 [] (.cons (.v 2) .nil)))) .skip)) (.seq (.ret (.op .add (.v 1) (.lst (.cons (.k (.str ")")) .nil)))) .skip))) .skip) (.seq (.ret (.lst (.cons (.bi .str (.v 0)) .nil))) .skip))
def B_Llines : S := (.seq (.ite (.cm .eq (.ix (.v 0) (.k (.int 0))) (.k (.str "choose"))) (.seq (.ret (.lst (.cons (.mb .join (.k (.str " ")) (.op .add (.op .mul (.lst (.cons (.k (.str ".")) .nil)) (.v 1)) (.lst (.cons (.k (.str "choose")) (.cons (.bi .str (.ix (.v 0) (.k (.int 1)))) .nil))))) .nil))) .skip) .skip) (.seq (.setO 2 (.lst (.cons (.mb .join (.k (.str " ")) (.op .add (.op .mul (.lst (.cons (.k (.str ".")) .nil)) (.v 1)) (.lst (.cons (.k (.str "ask")) (.cons (.bi .str (.ix (.v 0) (.k (.int 1)))) .nil))))) .nil))) (.seq (.fo (.many [3, 4]) (.itl (.ix (.v 0) (.k (.int 2)))) (.seq (.app 2 (.mb .join (.k (.str " ")) (.op .add (.op .add (.op .mul (.lst (.cons (.k (.str ".")) .nil)) (.op .add (.v 1) (.k (.int 1)))) (.lst (.cons (.k (.str "if")) .nil))) (.call 16 [] (.cons (.v 3) .nil))))) (.seq (.setO 2 (.cat (.b 2) (.call 17 [] (.cons (.v 4) (.cons (.op .add (.v 1) (.k (.int 2))) .nil))))) .skip))) (.seq (.fz 2) (.seq (.ret (.v 2)) .skip)))))
def B_Ldigits : S := (.seq (.ite (.no (.ch .lt .lt (.k (.int 0)) (.bi .len (.v 0)) (.k (.int 61)))) (.seq (.ret (.k .non)) .skip) .skip) (.seq (.fo (.one 1) (.itl (.v 0)) (.seq (.ite (.no (.ch .le .le (.k (.str "0")) (.v 1) (.k (.str "9")))) (.seq (.ret (.k .non)) .skip) .skip) .skip)) (.seq (.ite (.an (.cm .eq (.ix (.v 0) (.k (.int 0))) (.k (.str "0"))) (.cm .gt (.bi .len (.v 0)) (.k (.int 1)))) (.seq (.ret (.k .non)) .skip) .skip) (.seq (.ret (.bi .int (.v 0))) .skip))))
def B_Lsignal_right : S := (.seq (.set 1 (.k (.int 0))) (.seq (.set 2 (.k (.bl false))) (.seq (.fo (.one 3) (.itl (.v 0)) (.seq (.ite (.v 2) (.seq (.ret (.k (.bl false))) .skip) .skip) (.seq (.ite (.cm .eq (.v 3) (.k (.str "("))) (.seq (.set 1 (.op .add (.v 1) (.k (.int 1)))) .skip) (.seq (.ite (.cm .eq (.v 3) (.k (.str ")"))) (.seq (.set 1 (.op .sub (.v 1) (.k (.int 1)))) (.seq (.ite (.cm .lt (.v 1) (.k (.int 0))) (.seq (.ret (.k (.bl false))) .skip) .skip) .skip)) (.seq (.ite (.cm .is (.call 18 [] (.cons (.v 3) .nil)) (.k .non)) (.seq (.ret (.k (.bl false))) .skip) .skip) .skip)) .skip)) (.seq (.set 2 (.cm .eq (.v 1) (.k (.int 0)))) .skip)))) (.seq (.ret (.v 2)) .skip))))
def B_Lbad : S := (.seq (.setO 1 (.lst (.cons (.tup (.cons (.k (.str "plan")) (.cons (.k (.int 0)) .nil))) .nil))) (.seq (.fo (.one 2) (.rng1 (.bi .len (.v 0))) (.seq (.set 3 (.mb .split (.ix (.v 0) (.v 2)) (.k (.str " ")))) (.seq (.set 4 (.k (.bl false))) (.seq (.fo (.one 5) (.rng1 (.k (.int 100))) (.seq (.ite (.or (.v 4) (.cm .eq (.bi .len (.b 1)) (.k (.int 0)))) (.seq .brk .skip) .skip) (.seq (.pop 1 6) (.seq (.set 7 (.sl (.v 3) (.cons (.ix (.v 6) (.k (.int 1))) .nil) .nop)) (.seq (.set 8 (.cm .eq (.sl (.v 3) .nop (.cons (.ix (.v 6) (.k (.int 1))) .nil)) (.op .mul (.lst (.cons (.k (.str ".")) .nil)) (.ix (.v 6) (.k (.int 1)))))) (.seq (.ite (.cm .eq (.ix (.v 6) (.k (.int 0))) (.k (.str "plan"))) (.seq (.ite (.or (.no (.v 8)) (.or (.cm .ne (.bi .len (.v 7)) (.k (.int 2))) (.or (.cm .nin (.ix (.v 7) (.k (.int 0))) (.tup (.cons (.k (.str "choose")) (.cons (.k (.str "ask")) .nil)))) (.cm .is (.call 18 [] (.cons (.ix (.v 7) (.k (.int 1))) .nil)) (.k .non))))) (.seq (.ret (.v 2)) .skip) .skip) (.seq (.ite (.cm .eq (.ix (.v 7) (.k (.int 0))) (.k (.str "ask"))) (.seq (.app 1 (.tup (.cons (.k (.str "parts")) (.cons (.op .add (.ix (.v 6) (.k (.int 1))) (.k (.int 1))) (.cons (.lst .nil) .nil))))) .skip) .skip) (.seq (.set 4 (.k (.bl true))) .skip))) (.seq (.ite (.an (.v 8) (.cm .eq (.sl (.v 7) .nop (.cons (.k (.int 1)) .nil)) (.lst (.cons (.k (.str "if")) .nil)))) (.seq (.ite (.or (.no (.call 19 [] (.cons (.sl (.v 7) (.cons (.k (.int 1)) .nil) .nop) .nil))) (.cm .inn (.sl (.v 7) (.cons (.k (.int 1)) .nil) .nop) (.ix (.v 6) (.k (.int 2))))) (.seq (.ret (.v 2)) .skip) .skip) (.seq (.app 1 (.tup (.cons (.k (.str "parts")) (.cons (.ix (.v 6) (.k (.int 1))) (.cons (.op .add (.ix (.v 6) (.k (.int 2))) (.lst (.cons (.sl (.v 7) (.cons (.k (.int 1)) .nil) .nop) .nil))) .nil))))) (.seq (.app 1 (.tup (.cons (.k (.str "plan")) (.cons (.op .add (.ix (.v 6) (.k (.int 1))) (.k (.int 1))) .nil)))) (.seq (.set 4 (.k (.bl true))) .skip)))) .skip) .skip)) .skip)))))) (.seq (.ite (.no (.v 4)) (.seq (.ret (.v 2)) .skip) .skip) .skip))))) (.seq (.ite (.cm .gt (.bi .len (.comp (.one 9) (.itl (.b 1)) (.cm .eq (.ix (.v 9) (.k (.int 0))) (.k (.str "plan"))) (.v 9))) (.k (.int 0))) (.seq (.ret (.bi .len (.v 0))) .skip) .skip) (.seq (.ret (.k .non)) .skip))))
def B_Lword : S := (.seq (.set 2 (.lst (.cons (.k (.str ".")) (.cons (.k (.str "choose")) (.cons (.k (.str "ask")) (.cons (.k (.str "if")) (.cons (.k (.str "(")) (.cons (.k (.str ")")) (.cons (.k (.str "0")) (.cons (.k (.str "1")) (.cons (.k (.str "7")) (.cons (.k (.str "01")) (.cons (.k (.str "00")) (.cons (.k (.str "-1")) (.cons (.k (.str "+1")) (.cons (.k (.str "1_0")) (.cons (.k (.str "")) (.cons (.k (.str "x")) (.cons (.op .mul (.k (.str "9")) (.k (.int 60))) (.cons (.op .mul (.k (.str "9")) (.k (.int 61))) (.cons (.k (.str "Ask")) .nil))))))))))))))))))))) (.seq (.set 2 (.op .add (.op .add (.v 2) (.lst (.cons (.k (.str "1\n")) (.cons (.k (.str "(0")) (.cons (.k (.str "1)")) (.cons (.k (.str "()")) (.cons (.k (.str "(0)")) (.cons (.k (.str "((")) (.cons (.k (.str "..")) (.cons (.k (.str "...")) (.cons (.k (.str ".if")) (.cons (.k (.str "0.")) .nil)))))))))))) (.v 1))) (.seq (.set 2 (.op .add (.v 2) (.lst (.cons (.k (.str "1\t")) (.cons (.k (.str "\t0")) (.cons (.op .mul (.k (.str "9")) (.k (.int 5000))) (.cons (.op .mul (.k (.str "0")) (.k (.int 5000))) .nil))))))) (.seq (.ret (.ix (.v 2) (.call 10 [] (.cons (.v 0) (.cons (.bi .len (.v 2)) .nil))))) .skip))))
def B_Lspoilt : S := (.seq (.set 2 (.k (.str "!\"#$&'()*+,-./0123456789:;<=>?@ABCXYZ[\\]^_`{|}~abcxyz"))) (.seq (.set 3 (.call 10 [] (.cons (.v 0) (.cons (.op .add (.bi .len (.v 1)) (.k (.int 1))) .nil)))) (.seq (.ret (.op .add (.op .add (.sl (.v 1) .nop (.cons (.v 3) .nil)) (.ix (.v 2) (.call 10 [] (.cons (.v 0) (.cons (.bi .len (.v 2)) .nil))))) (.sl (.v 1) (.cons (.op .add (.v 3) (.call 10 [] (.cons (.v 0) (.cons (.k (.int 2)) .nil)))) .nil) .nop))) .skip)))
def B_Lchanged : S := (.seq (.fo (.one 2) (.rng1 (.call 10 [] (.cons (.v 0) (.cons (.k (.int 4)) .nil)))) (.seq (.set 3 (.call 10 [] (.cons (.v 0) (.cons (.op .add (.bi .len (.v 1)) (.k (.int 1))) .nil)))) (.seq (.set 4 (.call 10 [] (.cons (.v 0) (.cons (.op .add (.bi .len (.v 1)) (.k (.int 1))) .nil)))) (.seq (.set 5 (.mb .split (.mb .join (.k (.str " ")) (.sl (.v 1) (.cons (.v 3) .nil) (.cons (.op .add (.v 3) (.k (.int 1))) .nil))) (.k (.str " ")))) (.seq (.set 6 (.call 10 [] (.cons (.v 0) (.cons (.bi .len (.v 5)) .nil)))) (.seq (.set 7 (.call 10 [] (.cons (.v 0) (.cons (.k (.int 10)) .nil)))) (.seq (.ite (.cm .eq (.v 7) (.k (.int 0))) (.seq (.set 1 (.op .add (.sl (.v 1) .nop (.cons (.v 3) .nil)) (.sl (.v 1) (.cons (.op .add (.v 3) (.k (.int 1))) .nil) .nop))) .skip) (.seq (.ite (.cm .eq (.v 7) (.k (.int 1))) (.seq (.set 1 (.op .add (.op .add (.sl (.v 1) .nop (.cons (.v 3) .nil)) (.sl (.v 1) (.cons (.v 4) .nil) (.cons (.op .add (.v 4) (.k (.int 1))) .nil))) (.sl (.v 1) (.cons (.v 3) .nil) .nop))) .skip) (.seq (.ite (.cm .eq (.v 7) (.k (.int 2))) (.seq (.set 1 (.op .add (.op .add (.sl (.v 1) .nop (.cons (.v 3) .nil)) (.lst (.cons (.k (.str "")) .nil))) (.sl (.v 1) (.cons (.v 3) .nil) .nop))) .skip) (.seq (.ite (.cm .eq (.v 7) (.k (.int 3))) (.seq (.set 1 (.op .add (.op .add (.op .add (.sl (.v 1) .nop (.cons (.v 3) .nil)) (.sl (.v 1) (.cons (.op .add (.v 3) (.k (.int 1))) .nil) (.cons (.op .add (.v 3) (.k (.int 2))) .nil))) (.sl (.v 1) (.cons (.v 3) .nil) (.cons (.op .add (.v 3) (.k (.int 1))) .nil))) (.sl (.v 1) (.cons (.op .add (.v 3) (.k (.int 2))) .nil) .nop))) .skip) (.seq (.ite (.cm .eq (.v 7) (.k (.int 4))) (.seq (.set 5 (.op .add (.sl (.v 5) .nop (.cons (.v 6) .nil)) (.sl (.v 5) (.cons (.op .add (.v 6) (.k (.int 1))) .nil) .nop))) .skip) (.seq (.ite (.cm .eq (.v 7) (.k (.int 5))) (.seq (.set 5 (.op .add (.op .add (.sl (.v 5) .nop (.cons (.v 6) .nil)) (.lst (.cons (.call 21 [] (.cons (.v 0) (.cons (.v 5) .nil))) .nil))) (.sl (.v 5) (.cons (.v 6) .nil) .nop))) .skip) (.seq (.ite (.cm .eq (.v 7) (.k (.int 6))) (.seq (.set 5 (.op .add (.lst (.cons (.k (.str ".")) .nil)) (.v 5))) .skip) (.seq (.ite (.cm .eq (.v 7) (.k (.int 9))) (.seq (.set 5 (.op .add (.op .add (.sl (.v 5) .nop (.cons (.v 6) .nil)) (.lst (.cons (.call 22 [] (.cons (.v 0) (.cons (.ix (.v 5) (.v 6)) .nil))) .nil))) (.sl (.v 5) (.cons (.op .add (.v 6) (.k (.int 1))) .nil) .nop))) .skip) (.seq (.set 5 (.op .add (.op .add (.sl (.v 5) .nop (.cons (.v 6) .nil)) (.lst (.cons (.call 21 [] (.cons (.v 0) (.cons (.v 5) .nil))) .nil))) (.sl (.v 5) (.cons (.op .add (.v 6) (.k (.int 1))) .nil) .nop))) .skip)) .skip)) .skip)) .skip)) .skip)) .skip)) .skip)) .skip)) (.seq (.ite (.an (.cm .gt (.v 7) (.k (.int 3))) (.cm .lt (.v 3) (.bi .len (.v 1)))) (.seq (.set 1 (.op .add (.op .add (.sl (.v 1) .nop (.cons (.v 3) .nil)) (.lst (.cons (.mb .join (.k (.str " ")) (.v 5)) .nil))) (.sl (.v 1) (.cons (.op .add (.v 3) (.k (.int 1))) .nil) .nop))) .skip) .skip) .skip)))))))) (.seq (.ret (.v 1)) .skip))
def B_law : S := (.seq (.setA 1 (.call 9 [] (.cons (.v 0) (.cons (.k (.int 12)) .nil)))) (.seq (.set 2 (.call 14 [] (.cons (.v 1) (.cons (.k (.int 4)) .nil)))) (.seq (.ite (.cm .eq (.call 10 [] (.cons (.v 1) (.cons (.k (.int 4)) .nil))) (.k (.int 0))) (.seq (.set 2 (.call 15 [] (.cons (.v 1) .nil))) .skip) .skip) (.seq (.set 3 (.call 23 [] (.cons (.v 1) (.cons (.call 17 [] (.cons (.v 2) (.cons (.k (.int 0)) .nil))) .nil)))) (.seq (.ite (.an (.cm .gt (.bi .len (.v 3)) (.k (.int 0))) (.cm .eq (.call 10 [] (.cons (.v 1) (.cons (.k (.int 10)) .nil))) (.k (.int 0)))) (.seq (.set 4 (.call 10 [] (.cons (.v 1) (.cons (.bi .len (.v 3)) .nil)))) (.seq (.set 3 (.op .add (.op .add (.sl (.v 3) .nop (.cons (.v 4) .nil)) (.lst (.cons (.rpl " " (.ix (.v 3) (.v 4)) (.ix (.k (.str "\n\t")) (.call 10 [] (.cons (.v 1) (.cons (.k (.int 2)) .nil))))) .nil))) (.sl (.v 3) (.cons (.op .add (.v 4) (.k (.int 1))) .nil) .nop))) .skip)) .skip) (.seq (.set 5 (.call 20 [] (.cons (.v 3) .nil))) (.seq (.set 6 (.bi .list (.v 3))) (.seq (.tr (.seq (.set 7 (.call 2 [(.int 0)] (.cons (.call 8 [] (.cons (.v 6) .nil)) .nil))) .skip) cs_law_0 8 hd_law_0) (.seq (.ret (.an (.cm .is (.v 5) (.k .non)) (.an (.call 12 [] (.cons (.v 7) (.cons (.v 3) .nil))) (.cm .eq (.v 6) (.v 3))))) .skip)))))))))
def dl : List Def := [⟨1, 2, B_whole, none⟩, ⟨1, 3, B_signal_words, none⟩, ⟨2, 6, B_plan_lines, none⟩, ⟨2, 3, B_PlanReader_init, none⟩, ⟨3, 4, B_PlanReader_begins, none⟩, ⟨2, 3, B_PlanReader_number, none⟩, ⟨3, 6, B_PlanReader_signal, none⟩, ⟨2, 8, B_PlanReader_plan, none⟩, ⟨1, 3, B_read_plan, none⟩, ⟨2, 2, B_Lpool, none⟩, ⟨2, 4, B_Ldraw, none⟩, ⟨1, 1, B_Lspend, none⟩, ⟨2, 3, B_Lsame, none⟩, ⟨2, 3, B_Lsignal, none⟩, ⟨2, 6, B_Ltree, none⟩, ⟨1, 5, B_Lchain, none⟩, ⟨1, 3, B_Lsignal_words, none⟩, ⟨2, 5, B_Llines, none⟩, ⟨1, 2, B_Ldigits, none⟩, ⟨1, 4, B_Lsignal_right, none⟩, ⟨1, 10, B_Lbad, none⟩, ⟨2, 3, B_Lword, none⟩, ⟨2, 4, B_Lspoilt, none⟩, ⟨2, 8, B_Lchanged, none⟩, ⟨1, 9, B_law, none⟩]
def frl : List Nat := [9]
def p_opm : Nat → Bop → Option Nat := fun _ _ => none
def p_eqm : Nat → Option Nat := fun _ => none
def p_strm : Nat → Option Nat := fun _ => none
def p_nf : Nat → Nat := fun c => match c with
  | 0 => 2
  | 1 => 0
  | 2 => 1
  | 3 => 0
  | 4 => 1
  | 5 => 1
  | 6 => 1
  | 7 => 1
  | _ => 0
def prog : Prog := { defs := fun i => dl[i]?, fresh := fun i => frl.contains i, opm := p_opm, eqm := p_eqm, strm := p_strm, nf := p_nf }
def fnl (c : Nat) : List Str := match c with
  | 0 => ["lines", "at"]
  | 1 => []
  | 2 => ["at"]
  | 3 => []
  | 4 => ["what"]
  | 5 => ["what"]
  | 6 => ["at"]
  | 7 => ["what"]
  | _ => []
def lk (ca : Nat → Addr) : Lk := { ca := ca, fn := fnl }
/-- what the top has written -/
structure Txt (P : Program) (K : PySem.W.Frag) (mg : Str → Option Value) (ca : Nat → Addr) (fi : Nat → FI) : Prop where
  m0 : mg "whole" = some (.ref (fi 0).addr)
  k0 : PySem.W.keepIn K (.ref (fi 0).addr) = true
  b0 : Binds K (fi 0).fd (fi 0).ps []
  m1 : mg "signal_words" = some (.ref (fi 1).addr)
  k1 : PySem.W.keepIn K (.ref (fi 1).addr) = true
  b1 : Binds K (fi 1).fd (fi 1).ps []
  m2 : mg "plan_lines" = some (.ref (fi 2).addr)
  k2 : PySem.W.keepIn K (.ref (fi 2).addr) = true
  bd2_1 : ∃ ds, Vals [V.int 0] ds ∧ Binds K (fi 2).fd (fi 2).ps ds
  b2 : Binds K (fi 2).fd (fi 2).ps []
  b3 : Binds K (fi 3).fd (fi 3).ps []
  me4 : Meth K (ca 0) "begins" (fi 4).addr
  b4 : Binds K (fi 4).fd (fi 4).ps []
  me5 : Meth K (ca 0) "number" (fi 5).addr
  b5 : Binds K (fi 5).fd (fi 5).ps []
  me6 : Meth K (ca 0) "signal" (fi 6).addr
  b6 : Binds K (fi 6).fd (fi 6).ps []
  me7 : Meth K (ca 0) "plan" (fi 7).addr
  b7 : Binds K (fi 7).fd (fi 7).ps []
  m8 : mg "read_plan" = some (.ref (fi 8).addr)
  k8 : PySem.W.keepIn K (.ref (fi 8).addr) = true
  b8 : Binds K (fi 8).fd (fi 8).ps []
  m9 : mg "_law_pool" = some (.ref (fi 9).addr)
  k9 : PySem.W.keepIn K (.ref (fi 9).addr) = true
  b9 : Binds K (fi 9).fd (fi 9).ps []
  m10 : mg "_law_draw" = some (.ref (fi 10).addr)
  k10 : PySem.W.keepIn K (.ref (fi 10).addr) = true
  b10 : Binds K (fi 10).fd (fi 10).ps []
  m11 : mg "_law_spend" = some (.ref (fi 11).addr)
  k11 : PySem.W.keepIn K (.ref (fi 11).addr) = true
  b11 : Binds K (fi 11).fd (fi 11).ps []
  m12 : mg "_law_same" = some (.ref (fi 12).addr)
  k12 : PySem.W.keepIn K (.ref (fi 12).addr) = true
  b12 : Binds K (fi 12).fd (fi 12).ps []
  m13 : mg "_law_signal" = some (.ref (fi 13).addr)
  k13 : PySem.W.keepIn K (.ref (fi 13).addr) = true
  b13 : Binds K (fi 13).fd (fi 13).ps []
  m14 : mg "_law_tree" = some (.ref (fi 14).addr)
  k14 : PySem.W.keepIn K (.ref (fi 14).addr) = true
  b14 : Binds K (fi 14).fd (fi 14).ps []
  m15 : mg "_law_chain" = some (.ref (fi 15).addr)
  k15 : PySem.W.keepIn K (.ref (fi 15).addr) = true
  b15 : Binds K (fi 15).fd (fi 15).ps []
  m16 : mg "_law_signal_words" = some (.ref (fi 16).addr)
  k16 : PySem.W.keepIn K (.ref (fi 16).addr) = true
  b16 : Binds K (fi 16).fd (fi 16).ps []
  m17 : mg "_law_lines" = some (.ref (fi 17).addr)
  k17 : PySem.W.keepIn K (.ref (fi 17).addr) = true
  b17 : Binds K (fi 17).fd (fi 17).ps []
  m18 : mg "_law_digits" = some (.ref (fi 18).addr)
  k18 : PySem.W.keepIn K (.ref (fi 18).addr) = true
  b18 : Binds K (fi 18).fd (fi 18).ps []
  m19 : mg "_law_signal_right" = some (.ref (fi 19).addr)
  k19 : PySem.W.keepIn K (.ref (fi 19).addr) = true
  b19 : Binds K (fi 19).fd (fi 19).ps []
  m20 : mg "_law_bad" = some (.ref (fi 20).addr)
  k20 : PySem.W.keepIn K (.ref (fi 20).addr) = true
  b20 : Binds K (fi 20).fd (fi 20).ps []
  m21 : mg "_law_word" = some (.ref (fi 21).addr)
  k21 : PySem.W.keepIn K (.ref (fi 21).addr) = true
  b21 : Binds K (fi 21).fd (fi 21).ps []
  m22 : mg "_law_spoilt" = some (.ref (fi 22).addr)
  k22 : PySem.W.keepIn K (.ref (fi 22).addr) = true
  b22 : Binds K (fi 22).fd (fi 22).ps []
  m23 : mg "_law_changed" = some (.ref (fi 23).addr)
  k23 : PySem.W.keepIn K (.ref (fi 23).addr) = true
  b23 : Binds K (fi 23).fd (fi 23).ps []
  m24 : mg "law" = some (.ref (fi 24).addr)
  k24 : PySem.W.keepIn K (.ref (fi 24).addr) = true
  cl0 : Cls K (ca 0)
  mc0 : mg "PlanReader" = some (.ref (ca 0))
  mk0 : Mk K (ca 0) (fi 3).addr
  na0_0 : NoAttr K (ca 0) "lines"
  na0_1 : NoAttr K (ca 0) "at"
  xm6 : mg "BadPaper" = some (.ref (ca 6))
  xr6 : ∃ fI fd, ErrC P K mg (ca 6) fI fd s_BadPaper_init "__init__" "BadPaper.__init__" "at" ∧ Binds K fd ["self", "at"] []
  xc6 : ExcC K (ca 6)
  xf6 : XfC K (ca 6)
  xo6 : PySem.W.findIn K (.ref (ca 6)) "at" = some none
  xm3 : mg "BadRatio" = some (.ref (ca 3))
  xm4 : mg "BadTable" = some (.ref (ca 4))
  xm5 : mg "BadTask" = some (.ref (ca 5))
  xm2 : mg "BadText" = some (.ref (ca 2))
  xm1 : mg "SeeError" = some (.ref (ca 1))
  xm7 : mg "TooLarge" = some (.ref (ca 7))
  ko6_BadPaper : PySem.W.kitOne K (.ref (ca 6)) (.ref (ca 6)) = some true
  ko6_BadRatio : PySem.W.kitOne K (.ref (ca 6)) (.ref (ca 3)) = some false
  ko6_BadTable : PySem.W.kitOne K (.ref (ca 6)) (.ref (ca 4)) = some false
  ko6_BadTask : PySem.W.kitOne K (.ref (ca 6)) (.ref (ca 5)) = some false
  ko6_BadText : PySem.W.kitOne K (.ref (ca 6)) (.ref (ca 2)) = some false
  ko6_TooLarge : PySem.W.kitOne K (.ref (ca 6)) (.ref (ca 7)) = some false
  em6_1 : PySem.W.exmOne K (.ref (ca 6)) (.ref (ca 1)) = some true
  fa12 : FunA K "_law_same" "_law_same" s_Lsame (fi 12).addr (fi 12).fd
  pa12 : (fi 12).ps = (["_law_actual", "_law_due"] : List Str)
  n_all : mg "all" = none
  n_bool : mg "bool" = none
  n_int : mg "int" = none
  n_isinstance : mg "isinstance" = none
  n_len : mg "len" = none
  n_list : mg "list" = none
  n_range : mg "range" = none
  n_str : mg "str" = none
  n_tuple : mg "tuple" = none
  g_MOST_DIGITS : ∃ t, mg "MOST_DIGITS" = some (.int 60 t)
section
variable {P : Program} {w : World} {K : PySem.W.Frag} {mg : Str → Option Value} {base : Heap} {ca : Nat → Addr} {fi : Nat → FI} {n : Nat}
theorem sc_Lsame : FnScope ["_law_actual", "_law_due", "_law_k"] ["_law_actual", "_law_due"] (defScope s_Lsame) := ⟨rfl, rfl, rfl, by decide +kernel, rfl, by decide +kernel, by decide +kernel⟩
def HB_Lsame : S := (.seq (.ite (.or (.isi [.tuple] (.v 1)) (.isi [.list] (.v 1))) .never .skip) (.seq (.ite (.or (.cm0 .is (.v 1) (.k .non)) (.isi [.bool] (.v 1))) .never .skip) (.seq (.ite (.isi [.int] (.v 1)) (.seq (.ret (.an (.isi [.int] (.v 0)) (.an (.no (.isi [.bool] (.v 0))) (.cm0 .eq (.v 0) (.v 1))))) .skip) .skip) (.seq (.ret (.an (.isi [.str] (.v 0)) (.cm0 .eq (.v 0) (.v 1)))) .skip))))
theorem hb_val : ∀ (d1 d2 : D) (b : Bool) (om : Om), samD d1 d2 = some b → evS Tz HB_Lsame (slots ⟨2, 3, HB_Lsame, none⟩ [d1, d2]) om = .ret (.bl b) om := by
  intro d1 d2 b om h
  have si : ∀ i, SeqAt.shaped (.int i) = true := fun _ => by simp [SeqAt.shaped, PyData.canLay0, PyData.depth]
  have ss : ∀ i, SeqAt.shaped (.str i) = PyData.strOk i := fun _ => by simp [SeqAt.shaped, PyData.canLay0, PyData.depth]
  cases d1 <;> cases d2 <;> first
    | (cases h; done)
    | (cases h
       simp [HB_Lsame, slots, evS, evT, evE, Rs.out, Rs.bind, isA, isT, tru, truD, cmp, isN, eqD, toP, opt, si, ss, PyData.eqv]; done)
    | (dsimp only [samD] at h
       split at h
       · rename_i hs
         rw [Bool.and_eq_true] at hs
         cases h
         simp [HB_Lsame, slots, evS, evT, evE, Rs.out, Rs.bind, isA, isT, tru, truD, cmp, isN, eqD, toP, opt, si, ss, hs.1, hs.2, PyData.eqv]
       · cases h)
theorem fnW_same {w : World} {base : Heap} (Tx : Txt P K mg ca fi) (L : Lk) : FnW P w K mg base (L2.CX P w) 4 (fi 12).addr (fi 12).fd (fi 12).ps (spSam K L) := by
  rw [Tx.pa12]
  exact fnW_sam (N := ["_law_actual", "_law_due", "_law_k"]) Tx.fa12 sc_Lsame rfl (by decide) (fun cdv A outer s H E p room => (qs_cons (q_ite (L2.PW.pt (pW_or (pT_tru (pB (pE_isi rfl Tx.n_isinstance (by decide +kernel) (tyOk_b (by simp)) (pB (pE_var (i := 1) rfl (by first | exact Or.inl rfl | exact Or.inr (Or.inl rfl) | exact Or.inr (Or.inr rfl)))) (pe_bltn (v := .ty "tuple") rfl Tx.n_tuple (by decide +kernel) rfl))) (fun _ => rfl)) (pW_or1 (pT_tru (pB (pE_isi rfl Tx.n_isinstance (by decide +kernel) (tyOk_b (by simp)) (pB (pE_var (i := 1) rfl (by first | exact Or.inl rfl | exact Or.inr (Or.inl rfl) | exact Or.inr (Or.inr rfl)))) (pe_bltn (v := .ty "list") rfl Tx.n_list (by decide +kernel) rfl))) (fun _ => rfl))))) qs_never qs_nil)
      (qs_cons (q_ite (L2.PW.pt (pW_or (pT_cm0 (hu_hot room) .is (pB (pE_var (i := 1) rfl (by first | exact Or.inl rfl | exact Or.inr (Or.inl rfl) | exact Or.inr (Or.inr rfl)))) (pB pE_non) (nomark _)) (pW_or1 (pT_tru (pB (pE_isi rfl Tx.n_isinstance (by decide +kernel) (tyOk_b (by simp)) (pB (pE_var (i := 1) rfl (by first | exact Or.inl rfl | exact Or.inr (Or.inl rfl) | exact Or.inr (Or.inr rfl)))) (pe_bltn (v := .ty "bool") rfl Tx.n_bool (by decide +kernel) rfl))) (fun _ => rfl))))) qs_never qs_nil)
      (qs_cons (q_ite (pT_tru (pB (pE_isi rfl Tx.n_isinstance (by decide +kernel) (tyOk_b (by simp)) (pB (pE_var (i := 1) rfl (by first | exact Or.inl rfl | exact Or.inr (Or.inl rfl) | exact Or.inr (Or.inr rfl)))) (pe_bltn (v := .ty "int") rfl Tx.n_int (by decide +kernel) rfl))) (fun _ => rfl))
      (qs_cons (q_ret (pE_an (pE_isi rfl Tx.n_isinstance (by decide +kernel) (tyOk_b (by simp)) (pB (pE_var (i := 0) rfl (by first | exact Or.inl rfl | exact Or.inr (Or.inl rfl) | exact Or.inr (Or.inr rfl)))) (pe_bltn (v := .ty "int") rfl Tx.n_int (by decide +kernel) rfl)) (pE_an (pE_no (pB (pE_isi rfl Tx.n_isinstance (by decide +kernel) (tyOk_b (by simp)) (pB (pE_var (i := 0) rfl (by first | exact Or.inl rfl | exact Or.inr (Or.inl rfl) | exact Or.inr (Or.inr rfl)))) (pe_bltn (v := .ty "bool") rfl Tx.n_bool (by decide +kernel) rfl)))) (pE_one (pE_cm0 (hu_hot room) .eq (pB (pE_var (i := 0) rfl (by first | exact Or.inl rfl | exact Or.inr (Or.inl rfl) | exact Or.inr (Or.inr rfl)))) (pB (pE_var (i := 1) rfl (by first | exact Or.inl rfl | exact Or.inr (Or.inl rfl) | exact Or.inr (Or.inr rfl)))) (nomark _)))))) qs_nil)
      qs_nil)
      (qs_cons (q_ret (pE_an (pE_isi rfl Tx.n_isinstance (by decide +kernel) (tyOk_b (by simp)) (pB (pE_var (i := 0) rfl (by first | exact Or.inl rfl | exact Or.inr (Or.inl rfl) | exact Or.inr (Or.inr rfl)))) (pe_bltn (v := .ty "str") rfl Tx.n_str (by decide +kernel) rfl)) (pE_one (pE_cm0 (hu_hot room) .eq (pB (pE_var (i := 0) rfl (by first | exact Or.inl rfl | exact Or.inr (Or.inl rfl) | exact Or.inr (Or.inr rfl)))) (pB (pE_var (i := 1) rfl (by first | exact Or.inl rfl | exact Or.inr (Or.inl rfl) | exact Or.inr (Or.inr rfl)))) (nomark _))))) qs_nil))))) hb_val
theorem sc_whole : FnScope ["word", "char"] ["word"] (defScope s_whole) := ⟨rfl, rfl, rfl, by decide +kernel, rfl, by decide +kernel, by decide +kernel⟩
theorem b_whole (hL : Lnk P w K mg base (lk ca) prog fi n) (Tx : Txt P K mg ca fi) {wf : Nat} {cdv : Value} {A : Around} {outer : List Env} {s : Shared} {H : Hp} {E : XK} (hr : Room (2 * n + 1) (A.deeper (envOfC "whole" (defScope s_whole) s.heap.objs.size (fi 0).addr cdv))) :
    QSs (cxF P w K mg base ["word", "char"] "whole" s_whole (fi 0).addr cdv A outer s H E) (lk ca) (tab prog wf n) (fun cls d _ H => E cls d H) (defBody s_whole) B_whole :=
  (qs_cons (q_ite (L2.PW.pt (pW_or (pT_no (pT_ch hL hr .lt .le (pB pE_int) (pB (pE_biB hL hr rfl .len rfl rfl Tx.n_len (by decide +kernel) (pB (pE_var (i := 0) rfl (by first | exact Or.inl rfl | exact Or.inr (Or.inl rfl) | exact Or.inr (Or.inr rfl)))))) (pB (pE_gi rfl Tx.g_MOST_DIGITS.choose_spec)) (by with_unfolding_all rfl))) (pW_or1 (pT_no (pT_tru (pB (pE_biB hL hr rfl .all rfl rfl Tx.n_all (by decide +kernel) (pB (pE_comp (t := (.one 1)) (own := [("char", 1)]) rfl sc_whole.nd (pI_b (pB (pE_var (i := 0) rfl (by first | exact Or.inl rfl | exact Or.inr (Or.inl rfl) | exact Or.inr (Or.inr rfl))))) (blkOk_by (N := ["word", "char"]) (sc := defScope s_whole) (own := [("char", 1)]) (by decide +kernel)) rfl tg_one tt_yes (fun _ _ _ _ _ => (pg_name (i := 1) sc_whole.nd rfl (by first | exact Or.inl rfl | exact Or.inr rfl))) (fun _ _ _ _ _ => pts_nil) (fun _ _ _ _ _ => (pE_cm hL hr .inn (pB (pE_var (i := 1) rfl (by first | exact Or.inl rfl | exact Or.inr (Or.inl rfl) | exact Or.inr (Or.inr rfl)))) (pB pE_str) (by with_unfolding_all rfl))))))) (fun _ => rfl))))))
      (qs_cons (q_ret pE_non) qs_nil)
      qs_nil)
      (qs_cons (q_ret (pE_ite (L2.PW.pt (pW_an (pT_cm hL hr .eq (pB (pE_ix (pB (pE_var (i := 0) rfl (by first | exact Or.inl rfl | exact Or.inr (Or.inl rfl) | exact Or.inr (Or.inr rfl)))) (pB pE_int) (fun _ _ => rfl))) (pB pE_str) (nomark _)) (pW_an1 (pT_cm hL hr .ne (pB (pE_var (i := 0) rfl (by first | exact Or.inl rfl | exact Or.inr (Or.inl rfl) | exact Or.inr (Or.inr rfl)))) (pB pE_str) (nomark _))))) pE_non (pE_biT hL hr rfl .int rfl rfl Tx.n_int (by decide +kernel) (pB (pE_var (i := 0) rfl (by first | exact Or.inl rfl | exact Or.inr (Or.inl rfl) | exact Or.inr (Or.inr rfl))))))) qs_nil))
theorem sc_signal_words : FnScope ["signal", "words", "part"] ["signal"] (defScope s_signal_words) := ⟨rfl, rfl, rfl, by decide +kernel, rfl, by decide +kernel, by decide +kernel⟩
theorem b_signal_words (hL : Lnk P w K mg base (lk ca) prog fi n) (Tx : Txt P K mg ca fi) {wf : Nat} {cdv : Value} {A : Around} {outer : List Env} {s : Shared} {H : Hp} {E : XK} (hr : Room (2 * n + 1) (A.deeper (envOfC "signal_words" (defScope s_signal_words) s.heap.objs.size (fi 1).addr cdv))) :
    QSs (cxF P w K mg base ["signal", "words", "part"] "signal_words" s_signal_words (fi 1).addr cdv A outer s H E) (lk ca) (tab prog wf n) (fun cls d _ H => E cls d H) (defBody s_signal_words) B_signal_words :=
  (qs_cons (q_ite (pT_tru (pB (pE_isi rfl Tx.n_isinstance (by decide +kernel) (tyOk_b (by simp)) (pB (pE_var (i := 0) rfl (by first | exact Or.inl rfl | exact Or.inr (Or.inl rfl) | exact Or.inr (Or.inr rfl)))) (pe_bltn (v := .ty "tuple") rfl Tx.n_tuple (by decide +kernel) rfl))) (fun _ => rfl))
      (qs_cons (q_setO (ps_set (i := 1) sc_signal_words.nd rfl (by first | exact Or.inl rfl | exact Or.inr rfl) (pF_lst (pA_cons pE_str pA_nil))))
      (qs_cons (q_fo (passes_of rfl) rfl (pI_e (pE_var (i := 0) rfl (by first | exact Or.inl rfl | exact Or.inr (Or.inl rfl) | exact Or.inr (Or.inr rfl)))) (pg_name (i := 2) sc_signal_words.nd rfl (by first | exact Or.inl rfl | exact Or.inr rfl)) tgS_one
      (qs_cons (q_ext (i := 1) rfl (by first | exact Or.inl rfl | exact Or.inr (Or.inl rfl) | exact Or.inr (Or.inr rfl)) (pE_call (f := 1) hL hr (takes_of rfl rfl rfl rfl) rfl rfl rfl rfl Tx.m1 Tx.k1 Tx.b1 .nil (fun _ _ => .nil) (pA_cons (pE_var (i := 2) rfl (by first | exact Or.inl rfl | exact Or.inr (Or.inl rfl) | exact Or.inr (Or.inr rfl))) pA_nil)) (hp := fun h1 h2 => ps_expr (pe_bm PySem.F.plainAttrs_list PySem.F.slot_list_extend PySem.F.type_list_extend mt_extend h1 h2))) qs_nil))
      (qs_cons (q_ret (pE_op hL hr .add (pB_var (i := 1) rfl (by first | exact Or.inl rfl | exact Or.inr (Or.inl rfl) | exact Or.inr (Or.inr rfl))) (pB (pE_lst (pA_cons pE_str pA_nil))))) qs_nil)))
      qs_nil)
      (qs_cons (q_ret (pE_lst (pA_cons (pE_biT hL hr rfl .str rfl rfl Tx.n_str (by decide +kernel) (pB (pE_var (i := 0) rfl (by first | exact Or.inl rfl | exact Or.inr (Or.inl rfl) | exact Or.inr (Or.inr rfl))))) pA_nil))) qs_nil))
theorem sc_plan_lines : FnScope ["plan", "depth", "dots", "lines", "signal", "part"] ["plan", "depth"] (defScope s_plan_lines) := ⟨rfl, rfl, rfl, by decide +kernel, rfl, by decide +kernel, by decide +kernel⟩
theorem b_plan_lines (hL : Lnk P w K mg base (lk ca) prog fi n) (Tx : Txt P K mg ca fi) {wf : Nat} {cdv : Value} {A : Around} {outer : List Env} {s : Shared} {H : Hp} {E : XK} (hr : Room (2 * n + 1) (A.deeper (envOfC "plan_lines" (defScope s_plan_lines) s.heap.objs.size (fi 2).addr cdv))) :
    QSs (cxF P w K mg base ["plan", "depth", "dots", "lines", "signal", "part"] "plan_lines" s_plan_lines (fi 2).addr cdv A outer s H E) (lk ca) (tab prog wf n) (fun cls d _ H => E cls d H) (defBody s_plan_lines) B_plan_lines :=
  (qs_cons (q_set (ps_set (i := 2) sc_plan_lines.nd rfl (by first | exact Or.inl rfl | exact Or.inr rfl) (pE_op hL hr .mul (pB (pE_lst (pA_cons pE_str pA_nil))) (pB (pE_var (i := 1) rfl (by first | exact Or.inl rfl | exact Or.inr (Or.inl rfl) | exact Or.inr (Or.inr rfl)))))))
      (qs_cons (q_ite (pT_cm hL hr .eq (pB (pE_ix (pB (pE_var (i := 0) rfl (by first | exact Or.inl rfl | exact Or.inr (Or.inl rfl) | exact Or.inr (Or.inr rfl)))) (pB pE_int) (fun _ _ => rfl))) (pB pE_str) (nomark _))
      (qs_cons (q_ret (pE_lst (pA_cons (pE_mb .join PySem.F.slot_str_join PySem.F.type_str_join (pB pE_str) (pB (pE_lst (pA_star (pB (pE_var (i := 2) rfl (by first | exact Or.inl rfl | exact Or.inr (Or.inl rfl) | exact Or.inr (Or.inr rfl)))) (pA_cons pE_str (pA_cons (pE_biT hL hr rfl .str rfl rfl Tx.n_str (by decide +kernel) (pB (pE_ix (pB (pE_var (i := 0) rfl (by first | exact Or.inl rfl | exact Or.inr (Or.inl rfl) | exact Or.inr (Or.inr rfl)))) (pB pE_int) (fun _ _ => rfl)))) pA_nil)))))) pA_nil))) qs_nil)
      qs_nil)
      (qs_cons (q_setO (ps_set (i := 3) sc_plan_lines.nd rfl (by first | exact Or.inl rfl | exact Or.inr rfl) (pF_lst (pA_cons (pE_mb .join PySem.F.slot_str_join PySem.F.type_str_join (pB pE_str) (pB (pE_lst (pA_star (pB (pE_var (i := 2) rfl (by first | exact Or.inl rfl | exact Or.inr (Or.inl rfl) | exact Or.inr (Or.inr rfl)))) (pA_cons pE_str (pA_cons (pE_biT hL hr rfl .str rfl rfl Tx.n_str (by decide +kernel) (pB (pE_ix (pB (pE_var (i := 0) rfl (by first | exact Or.inl rfl | exact Or.inr (Or.inl rfl) | exact Or.inr (Or.inr rfl)))) (pB pE_int) (fun _ _ => rfl)))) pA_nil)))))) pA_nil))))
      (qs_cons (q_fo (passes_of rfl) rfl (pI_e (pE_ix (pB (pE_var (i := 0) rfl (by first | exact Or.inl rfl | exact Or.inr (Or.inl rfl) | exact Or.inr (Or.inr rfl)))) (pB pE_int) (fun _ _ => rfl))) (pg_tup rfl (pgs_cons (pg_name (i := 4) sc_plan_lines.nd rfl (by first | exact Or.inl rfl | exact Or.inr rfl)) (pgs_cons (pg_name (i := 5) sc_plan_lines.nd rfl (by first | exact Or.inl rfl | exact Or.inr rfl)) pgs_nil))) (tgS_many (tgsS_cons (tgsS_cons tgsS_nil)))
      (qs_cons (q_app (i := 3) rfl (by first | exact Or.inl rfl | exact Or.inr (Or.inl rfl) | exact Or.inr (Or.inr rfl)) (pE_mb .join PySem.F.slot_str_join PySem.F.type_str_join (pB pE_str) (pB (pE_lst (pA_star (pB (pE_var (i := 2) rfl (by first | exact Or.inl rfl | exact Or.inr (Or.inl rfl) | exact Or.inr (Or.inr rfl)))) (pA_cons pE_str (pA_cons pE_str (pA_star (pB (pE_call (f := 1) hL hr (takes_of rfl rfl rfl rfl) rfl rfl rfl rfl Tx.m1 Tx.k1 Tx.b1 .nil (fun _ _ => .nil) (pA_cons (pE_var (i := 4) rfl (by first | exact Or.inl rfl | exact Or.inr (Or.inl rfl) | exact Or.inr (Or.inr rfl))) pA_nil))) pA_nil))))))) (hp := fun h1 h2 => ps_expr (pe_bm PySem.F.plainAttrs_list PySem.F.slot_list_append PySem.F.type_list_append mt_append h1 h2)))
      (qs_cons (q_ext (i := 3) rfl (by first | exact Or.inl rfl | exact Or.inr (Or.inl rfl) | exact Or.inr (Or.inr rfl)) (pE_call (f := 2) hL hr (takes_of rfl rfl rfl rfl) rfl rfl rfl rfl Tx.m2 Tx.k2 Tx.b2 .nil (fun _ _ => .nil) (pA_cons (pE_var (i := 5) rfl (by first | exact Or.inl rfl | exact Or.inr (Or.inl rfl) | exact Or.inr (Or.inr rfl))) (pA_cons (pE_op hL hr .add (pB (pE_var (i := 1) rfl (by first | exact Or.inl rfl | exact Or.inr (Or.inl rfl) | exact Or.inr (Or.inr rfl)))) (pB pE_int)) pA_nil))) (hp := fun h1 h2 => ps_expr (pe_bm PySem.F.plainAttrs_list PySem.F.slot_list_extend PySem.F.type_list_extend mt_extend h1 h2))) qs_nil)))
      (qs_fz (i := 3) (qs_cons (q_ret (pE_var (i := 3) rfl (by first | exact Or.inl rfl | exact Or.inr (Or.inl rfl) | exact Or.inr (Or.inr rfl)))) qs_nil))))))
theorem sc_PlanReader_init : FnScope ["self", "lines", "line"] ["self", "lines"] (defScope s_PlanReader_init) := ⟨rfl, rfl, rfl, by decide +kernel, rfl, by decide +kernel, by decide +kernel⟩
theorem b_PlanReader_init (hL : Lnk P w K mg base (lk ca) prog fi n) (Tx : Txt P K mg ca fi) {wf : Nat} {cdv : Value} {A : Around} {outer : List Env} {s : Shared} {H : Hp} {E : XK} (hr : Room (2 * n + 1) (A.deeper (envOfC "PlanReader.__init__" (defScope s_PlanReader_init) s.heap.objs.size (fi 3).addr cdv))) :
    QSs (cxF P w K mg base ["self", "lines", "line"] "PlanReader.__init__" s_PlanReader_init (fi 3).addr cdv A outer s H E) (lk ca) (tab prog wf n) (fun cls d _ H => E cls d H) (defBody s_PlanReader_init) B_PlanReader_init :=
  (qs_cons (q_stF (i := 0) rfl (by first | exact Or.inl rfl | exact Or.inr (Or.inl rfl) | exact Or.inr (Or.inr rfl)) Tx.cl0 Tx.na0_0 rfl (show 2 < 1000 by decide) (pE_comp (t := (.one 2)) (own := [("line", 2)]) rfl sc_PlanReader_init.nd (pI_b (pB (pE_var (i := 1) rfl (by first | exact Or.inl rfl | exact Or.inr (Or.inl rfl) | exact Or.inr (Or.inr rfl))))) (blkOk_by (N := ["self", "lines", "line"]) (sc := defScope s_PlanReader_init) (own := [("line", 2)]) (by decide +kernel)) rfl tg_one tt_yes (fun _ _ _ _ _ => (pg_name (i := 2) sc_PlanReader_init.nd rfl (by first | exact Or.inl rfl | exact Or.inr rfl))) (fun _ _ _ _ _ => pts_nil) (fun _ _ _ _ _ => (pE_mb .split PySem.F.slot_str_split PySem.F.type_str_split (pB (pE_var (i := 2) rfl (by first | exact Or.inl rfl | exact Or.inr (Or.inl rfl) | exact Or.inr (Or.inr rfl)))) (pB pE_str)))) rfl)
      (qs_cons (q_stF (i := 0) rfl (by first | exact Or.inl rfl | exact Or.inr (Or.inl rfl) | exact Or.inr (Or.inr rfl)) Tx.cl0 Tx.na0_1 rfl (show 2 < 1000 by decide) pE_int rfl) qs_nil))
theorem sc_PlanReader_begins : FnScope ["self", "depth", "word", "words"] ["self", "depth", "word"] (defScope s_PlanReader_begins) := ⟨rfl, rfl, rfl, by decide +kernel, rfl, by decide +kernel, by decide +kernel⟩
theorem b_PlanReader_begins (hL : Lnk P w K mg base (lk ca) prog fi n) (Tx : Txt P K mg ca fi) {wf : Nat} {cdv : Value} {A : Around} {outer : List Env} {s : Shared} {H : Hp} {E : XK} (hr : Room (2 * n + 1) (A.deeper (envOfC "PlanReader.begins" (defScope s_PlanReader_begins) s.heap.objs.size (fi 4).addr cdv))) :
    QSs (cxF P w K mg base ["self", "depth", "word", "words"] "PlanReader.begins" s_PlanReader_begins (fi 4).addr cdv A outer s H E) (lk ca) (tab prog wf n) (fun cls d _ H => E cls d H) (defBody s_PlanReader_begins) B_PlanReader_begins :=
  (qs_cons (q_ite (pT_cm hL hr .ge (pB (pE_fld (pE_var (i := 0) rfl (by first | exact Or.inl rfl | exact Or.inr (Or.inl rfl) | exact Or.inr (Or.inr rfl))) Tx.cl0 Tx.na0_1 rfl rfl)) (pB (pE_biB hL hr rfl .len rfl rfl Tx.n_len (by decide +kernel) (pB (pE_fld (pE_var (i := 0) rfl (by first | exact Or.inl rfl | exact Or.inr (Or.inl rfl) | exact Or.inr (Or.inr rfl))) Tx.cl0 Tx.na0_0 rfl rfl)))) (nomark _))
      (qs_cons (q_ret pE_bl) qs_nil)
      qs_nil)
      (qs_cons (q_set (ps_set (i := 3) sc_PlanReader_begins.nd rfl (by first | exact Or.inl rfl | exact Or.inr rfl) (pE_ix (pB (pE_fld (pE_var (i := 0) rfl (by first | exact Or.inl rfl | exact Or.inr (Or.inl rfl) | exact Or.inr (Or.inr rfl))) Tx.cl0 Tx.na0_0 rfl rfl)) (pB (pE_fld (pE_var (i := 0) rfl (by first | exact Or.inl rfl | exact Or.inr (Or.inl rfl) | exact Or.inr (Or.inr rfl))) Tx.cl0 Tx.na0_1 rfl rfl)) (fun _ _ => rfl))))
      (qs_cons (q_ret (pE_an (pE_cm hL hr .eq (pB (pE_sl (pB (pE_var (i := 3) rfl (by first | exact Or.inl rfl | exact Or.inr (Or.inl rfl) | exact Or.inr (Or.inr rfl)))) pO_none (pO_some (pB (pE_var (i := 1) rfl (by first | exact Or.inl rfl | exact Or.inr (Or.inl rfl) | exact Or.inr (Or.inr rfl))))))) (pB (pE_op hL hr .mul (pB (pE_lst (pA_cons pE_str pA_nil))) (pB (pE_var (i := 1) rfl (by first | exact Or.inl rfl | exact Or.inr (Or.inl rfl) | exact Or.inr (Or.inr rfl)))))) (nomark _)) (pE_one (pE_cm hL hr .eq (pB (pE_sl (pB (pE_var (i := 3) rfl (by first | exact Or.inl rfl | exact Or.inr (Or.inl rfl) | exact Or.inr (Or.inr rfl)))) (pO_some (pB (pE_var (i := 1) rfl (by first | exact Or.inl rfl | exact Or.inr (Or.inl rfl) | exact Or.inr (Or.inr rfl))))) (pO_some (pB (pE_op hL hr .add (pB (pE_var (i := 1) rfl (by first | exact Or.inl rfl | exact Or.inr (Or.inl rfl) | exact Or.inr (Or.inr rfl)))) (pB pE_int)))))) (pB (pE_lst (pA_cons (pE_var (i := 2) rfl (by first | exact Or.inl rfl | exact Or.inr (Or.inl rfl) | exact Or.inr (Or.inr rfl))) pA_nil))) (nomark _))))) qs_nil)))
theorem sc_PlanReader_number : FnScope ["self", "depth", "words"] ["self", "depth"] (defScope s_PlanReader_number) := ⟨rfl, rfl, rfl, by decide +kernel, rfl, by decide +kernel, by decide +kernel⟩
theorem b_PlanReader_number (hL : Lnk P w K mg base (lk ca) prog fi n) (Tx : Txt P K mg ca fi) {wf : Nat} {cdv : Value} {A : Around} {outer : List Env} {s : Shared} {H : Hp} {E : XK} (hr : Room (2 * n + 1) (A.deeper (envOfC "PlanReader.number" (defScope s_PlanReader_number) s.heap.objs.size (fi 5).addr cdv))) :
    QSs (cxF P w K mg base ["self", "depth", "words"] "PlanReader.number" s_PlanReader_number (fi 5).addr cdv A outer s H E) (lk ca) (tab prog wf n) (fun cls d _ H => E cls d H) (defBody s_PlanReader_number) B_PlanReader_number :=
  (qs_cons (q_set (ps_set (i := 2) sc_PlanReader_number.nd rfl (by first | exact Or.inl rfl | exact Or.inr rfl) (pE_ix (pB (pE_fld (pE_var (i := 0) rfl (by first | exact Or.inl rfl | exact Or.inr (Or.inl rfl) | exact Or.inr (Or.inr rfl))) Tx.cl0 Tx.na0_0 rfl rfl)) (pB (pE_fld (pE_var (i := 0) rfl (by first | exact Or.inl rfl | exact Or.inr (Or.inl rfl) | exact Or.inr (Or.inr rfl))) Tx.cl0 Tx.na0_1 rfl rfl)) (fun _ _ => rfl))))
      (qs_cons (q_ite (L2.PW.pt (pW_or (pT_cm hL hr .ne (pB (pE_biB hL hr rfl .len rfl rfl Tx.n_len (by decide +kernel) (pB (pE_var (i := 2) rfl (by first | exact Or.inl rfl | exact Or.inr (Or.inl rfl) | exact Or.inr (Or.inr rfl)))))) (pB (pE_op hL hr .add (pB (pE_var (i := 1) rfl (by first | exact Or.inl rfl | exact Or.inr (Or.inl rfl) | exact Or.inr (Or.inr rfl)))) (pB pE_int))) (nomark _)) (pW_or1 (pT_cm hL hr .is (pB (pE_call (f := 0) hL hr (takes_of rfl rfl rfl rfl) rfl rfl rfl rfl Tx.m0 Tx.k0 Tx.b0 .nil (fun _ _ => .nil) (pA_cons (pE_ix (pB (pE_var (i := 2) rfl (by first | exact Or.inl rfl | exact Or.inr (Or.inl rfl) | exact Or.inr (Or.inr rfl)))) (pB (pE_op hL hr .add (pB (pE_var (i := 1) rfl (by first | exact Or.inl rfl | exact Or.inr (Or.inl rfl) | exact Or.inr (Or.inr rfl)))) (pB pE_int))) (fun _ _ => rfl)) pA_nil))) (pB pE_non) (nomark _)))))
      (qs_cons (q_rais1 rfl hr (takes_of rfl rfl rfl rfl) Tx.xr6.choose_spec.choose_spec.1 sup_BadPaper supb_BadPaper Tx.xr6.choose_spec.choose_spec.2 rfl rfl Tx.xm6 (pE_fld (pE_var (i := 0) rfl (by first | exact Or.inl rfl | exact Or.inr (Or.inl rfl) | exact Or.inr (Or.inr rfl))) Tx.cl0 Tx.na0_1 rfl rfl)) qs_nil)
      qs_nil)
      (qs_cons (q_auF (i := 0) rfl (by first | exact Or.inl rfl | exact Or.inr (Or.inl rfl) | exact Or.inr (Or.inr rfl)) Tx.cl0 Tx.na0_1 rfl (show 2 < 1000 by decide) pE_int)
      (qs_cons (q_ret (pE_call (f := 0) hL hr (takes_of rfl rfl rfl rfl) rfl rfl rfl rfl Tx.m0 Tx.k0 Tx.b0 .nil (fun _ _ => .nil) (pA_cons (pE_ix (pB (pE_var (i := 2) rfl (by first | exact Or.inl rfl | exact Or.inr (Or.inl rfl) | exact Or.inr (Or.inr rfl)))) (pB (pE_op hL hr .add (pB (pE_var (i := 1) rfl (by first | exact Or.inl rfl | exact Or.inr (Or.inl rfl) | exact Or.inr (Or.inr rfl)))) (pB pE_int))) (fun _ _ => rfl)) pA_nil))) qs_nil))))
theorem sc_PlanReader_signal : FnScope ["self", "words", "place", "number", "parts", "part"] ["self", "words", "place"] (defScope s_PlanReader_signal) := ⟨rfl, rfl, rfl, by decide +kernel, rfl, by decide +kernel, by decide +kernel⟩
theorem b_PlanReader_signal (hL : Lnk P w K mg base (lk ca) prog fi n) (Tx : Txt P K mg ca fi) {wf : Nat} {cdv : Value} {A : Around} {outer : List Env} {s : Shared} {H : Hp} {E : XK} (hr : Room (2 * n + 1) (A.deeper (envOfC "PlanReader.signal" (defScope s_PlanReader_signal) s.heap.objs.size (fi 6).addr cdv))) :
    QSs (cxF P w K mg base ["self", "words", "place", "number", "parts", "part"] "PlanReader.signal" s_PlanReader_signal (fi 6).addr cdv A outer s H E) (lk ca) (tab prog wf n) (fun cls d _ H => E cls d H) (defBody s_PlanReader_signal) B_PlanReader_signal :=
  (qs_cons (q_ite (pT_cm hL hr .ge (pB (pE_var (i := 2) rfl (by first | exact Or.inl rfl | exact Or.inr (Or.inl rfl) | exact Or.inr (Or.inr rfl)))) (pB (pE_biB hL hr rfl .len rfl rfl Tx.n_len (by decide +kernel) (pB (pE_var (i := 1) rfl (by first | exact Or.inl rfl | exact Or.inr (Or.inl rfl) | exact Or.inr (Or.inr rfl)))))) (nomark _))
      (qs_cons (q_rais1 rfl hr (takes_of rfl rfl rfl rfl) Tx.xr6.choose_spec.choose_spec.1 sup_BadPaper supb_BadPaper Tx.xr6.choose_spec.choose_spec.2 rfl rfl Tx.xm6 (pE_fld (pE_var (i := 0) rfl (by first | exact Or.inl rfl | exact Or.inr (Or.inl rfl) | exact Or.inr (Or.inr rfl))) Tx.cl0 Tx.na0_1 rfl rfl)) qs_nil)
      qs_nil)
      (qs_cons (q_ite (pT_cm hL hr .ne (pB (pE_ix (pB (pE_var (i := 1) rfl (by first | exact Or.inl rfl | exact Or.inr (Or.inl rfl) | exact Or.inr (Or.inr rfl)))) (pB (pE_var (i := 2) rfl (by first | exact Or.inl rfl | exact Or.inr (Or.inl rfl) | exact Or.inr (Or.inr rfl)))) (fun _ _ => rfl))) (pB pE_str) (nomark _))
      (qs_cons (q_set (ps_set (i := 3) sc_PlanReader_signal.nd rfl (by first | exact Or.inl rfl | exact Or.inr rfl) (pE_call (f := 0) hL hr (takes_of rfl rfl rfl rfl) rfl rfl rfl rfl Tx.m0 Tx.k0 Tx.b0 .nil (fun _ _ => .nil) (pA_cons (pE_ix (pB (pE_var (i := 1) rfl (by first | exact Or.inl rfl | exact Or.inr (Or.inl rfl) | exact Or.inr (Or.inr rfl)))) (pB (pE_var (i := 2) rfl (by first | exact Or.inl rfl | exact Or.inr (Or.inl rfl) | exact Or.inr (Or.inr rfl)))) (fun _ _ => rfl)) pA_nil))))
      (qs_cons (q_ite (pT_cm hL hr .is (pB (pE_var (i := 3) rfl (by first | exact Or.inl rfl | exact Or.inr (Or.inl rfl) | exact Or.inr (Or.inr rfl)))) (pB pE_non) (nomark _))
      (qs_cons (q_rais1 rfl hr (takes_of rfl rfl rfl rfl) Tx.xr6.choose_spec.choose_spec.1 sup_BadPaper supb_BadPaper Tx.xr6.choose_spec.choose_spec.2 rfl rfl Tx.xm6 (pE_fld (pE_var (i := 0) rfl (by first | exact Or.inl rfl | exact Or.inr (Or.inl rfl) | exact Or.inr (Or.inr rfl))) Tx.cl0 Tx.na0_1 rfl rfl)) qs_nil)
      qs_nil)
      (qs_cons (q_ret (pE_tup (pA_cons (pE_var (i := 3) rfl (by first | exact Or.inl rfl | exact Or.inr (Or.inl rfl) | exact Or.inr (Or.inr rfl))) (pA_cons (pE_op hL hr .add (pB (pE_var (i := 2) rfl (by first | exact Or.inl rfl | exact Or.inr (Or.inl rfl) | exact Or.inr (Or.inr rfl)))) (pB pE_int)) pA_nil)))) qs_nil)))
      qs_nil)
      (qs_cons (q_setO (ps_set (i := 4) sc_PlanReader_signal.nd rfl (by first | exact Or.inl rfl | exact Or.inr rfl) (pF_lst pA_nil)))
      (qs_cons (q_aug (x := "place") (o := .add) (by simp) (ps_aug (i := 2) sc_PlanReader_signal.nd rfl (by first | exact Or.inl rfl | exact Or.inr rfl) pE_int ip_add))
      (qs_cons (q_whl (passes_of rfl) (pT_cm hL hr .ne (pB (pE_sl (pB (pE_var (i := 1) rfl (by first | exact Or.inl rfl | exact Or.inr (Or.inl rfl) | exact Or.inr (Or.inr rfl)))) (pO_some (pB (pE_var (i := 2) rfl (by first | exact Or.inl rfl | exact Or.inr (Or.inl rfl) | exact Or.inr (Or.inr rfl))))) (pO_some (pB (pE_op hL hr .add (pB (pE_var (i := 2) rfl (by first | exact Or.inl rfl | exact Or.inr (Or.inl rfl) | exact Or.inr (Or.inr rfl)))) (pB pE_int)))))) (pB (pE_lst (pA_cons pE_str pA_nil))) (nomark _))
      (qs_cons (q_setT (tgS_many (tgsS_cons (tgsS_cons tgsS_nil))) (ps_asg (pE_meth (f := 6) hL hr (takes_of rfl rfl rfl rfl) rfl rfl rfl Tx.cl0 Tx.me6 rfl Tx.b6 .nil (fun _ _ => .nil) (pE_var (i := 0) rfl (by first | exact Or.inl rfl | exact Or.inr (Or.inl rfl) | exact Or.inr (Or.inr rfl))) (pA_cons (pE_var (i := 1) rfl (by first | exact Or.inl rfl | exact Or.inr (Or.inl rfl) | exact Or.inr (Or.inr rfl))) (pA_cons (pE_var (i := 2) rfl (by first | exact Or.inl rfl | exact Or.inr (Or.inl rfl) | exact Or.inr (Or.inr rfl))) pA_nil))) (pg_tup rfl (pgs_cons (pg_name (i := 5) sc_PlanReader_signal.nd rfl (by first | exact Or.inl rfl | exact Or.inr rfl)) (pgs_cons (pg_name (i := 2) sc_PlanReader_signal.nd rfl (by first | exact Or.inl rfl | exact Or.inr rfl)) pgs_nil)))))
      (qs_cons (q_app (i := 4) rfl (by first | exact Or.inl rfl | exact Or.inr (Or.inl rfl) | exact Or.inr (Or.inr rfl)) (pE_var (i := 5) rfl (by first | exact Or.inl rfl | exact Or.inr (Or.inl rfl) | exact Or.inr (Or.inr rfl))) (hp := fun h1 h2 => ps_expr (pe_bm PySem.F.plainAttrs_list PySem.F.slot_list_append PySem.F.type_list_append mt_append h1 h2))) qs_nil)))
      (qs_cons (q_ret (pE_tup (pA_cons (pE_biT hL hr rfl .tuple rfl rfl Tx.n_tuple (by decide +kernel) (pB_var (i := 4) rfl (by first | exact Or.inl rfl | exact Or.inr (Or.inl rfl) | exact Or.inr (Or.inr rfl)))) (pA_cons (pE_op hL hr .add (pB (pE_var (i := 2) rfl (by first | exact Or.inl rfl | exact Or.inr (Or.inl rfl) | exact Or.inr (Or.inr rfl)))) (pB pE_int)) pA_nil)))) qs_nil))))))
theorem sc_PlanReader_plan : FnScope ["self", "depth", "index", "parts", "words", "signal", "place", "row"] ["self", "depth"] (defScope s_PlanReader_plan) := ⟨rfl, rfl, rfl, by decide +kernel, rfl, by decide +kernel, by decide +kernel⟩
theorem b_PlanReader_plan (hL : Lnk P w K mg base (lk ca) prog fi n) (Tx : Txt P K mg ca fi) {wf : Nat} {cdv : Value} {A : Around} {outer : List Env} {s : Shared} {H : Hp} {E : XK} (hr : Room (2 * n + 1) (A.deeper (envOfC "PlanReader.plan" (defScope s_PlanReader_plan) s.heap.objs.size (fi 7).addr cdv))) :
    QSs (cxF P w K mg base ["self", "depth", "index", "parts", "words", "signal", "place", "row"] "PlanReader.plan" s_PlanReader_plan (fi 7).addr cdv A outer s H E) (lk ca) (tab prog wf n) (fun cls d _ H => E cls d H) (defBody s_PlanReader_plan) B_PlanReader_plan :=
  (qs_cons (q_ite (pT_tru (pB (pE_meth (f := 4) hL hr (takes_of rfl rfl rfl rfl) rfl rfl rfl Tx.cl0 Tx.me4 rfl Tx.b4 .nil (fun _ _ => .nil) (pE_var (i := 0) rfl (by first | exact Or.inl rfl | exact Or.inr (Or.inl rfl) | exact Or.inr (Or.inr rfl))) (pA_cons (pE_var (i := 1) rfl (by first | exact Or.inl rfl | exact Or.inr (Or.inl rfl) | exact Or.inr (Or.inr rfl))) (pA_cons pE_str pA_nil)))) (fun _ => rfl))
      (qs_cons (q_ret (pE_tup (pA_cons pE_str (pA_cons (pE_meth (f := 5) hL hr (takes_of rfl rfl rfl rfl) rfl rfl rfl Tx.cl0 Tx.me5 rfl Tx.b5 .nil (fun _ _ => .nil) (pE_var (i := 0) rfl (by first | exact Or.inl rfl | exact Or.inr (Or.inl rfl) | exact Or.inr (Or.inr rfl))) (pA_cons (pE_var (i := 1) rfl (by first | exact Or.inl rfl | exact Or.inr (Or.inl rfl) | exact Or.inr (Or.inr rfl))) pA_nil)) pA_nil)))) qs_nil)
      qs_nil)
      (qs_cons (q_ite (pT_no (pT_tru (pB (pE_meth (f := 4) hL hr (takes_of rfl rfl rfl rfl) rfl rfl rfl Tx.cl0 Tx.me4 rfl Tx.b4 .nil (fun _ _ => .nil) (pE_var (i := 0) rfl (by first | exact Or.inl rfl | exact Or.inr (Or.inl rfl) | exact Or.inr (Or.inr rfl))) (pA_cons (pE_var (i := 1) rfl (by first | exact Or.inl rfl | exact Or.inr (Or.inl rfl) | exact Or.inr (Or.inr rfl))) (pA_cons pE_str pA_nil)))) (fun _ => rfl)))
      (qs_cons (q_rais1 rfl hr (takes_of rfl rfl rfl rfl) Tx.xr6.choose_spec.choose_spec.1 sup_BadPaper supb_BadPaper Tx.xr6.choose_spec.choose_spec.2 rfl rfl Tx.xm6 (pE_fld (pE_var (i := 0) rfl (by first | exact Or.inl rfl | exact Or.inr (Or.inl rfl) | exact Or.inr (Or.inr rfl))) Tx.cl0 Tx.na0_1 rfl rfl)) qs_nil)
      qs_nil)
      (qs_cons (q_set (ps_set (i := 2) sc_PlanReader_plan.nd rfl (by first | exact Or.inl rfl | exact Or.inr rfl) (pE_meth (f := 5) hL hr (takes_of rfl rfl rfl rfl) rfl rfl rfl Tx.cl0 Tx.me5 rfl Tx.b5 .nil (fun _ _ => .nil) (pE_var (i := 0) rfl (by first | exact Or.inl rfl | exact Or.inr (Or.inl rfl) | exact Or.inr (Or.inr rfl))) (pA_cons (pE_var (i := 1) rfl (by first | exact Or.inl rfl | exact Or.inr (Or.inl rfl) | exact Or.inr (Or.inr rfl))) pA_nil))))
      (qs_cons (q_setO (ps_set (i := 3) sc_PlanReader_plan.nd rfl (by first | exact Or.inl rfl | exact Or.inr rfl) (pF_lst pA_nil)))
      (qs_cons (q_whl (passes_of rfl) (pT_tru (pB (pE_meth (f := 4) hL hr (takes_of rfl rfl rfl rfl) rfl rfl rfl Tx.cl0 Tx.me4 rfl Tx.b4 .nil (fun _ _ => .nil) (pE_var (i := 0) rfl (by first | exact Or.inl rfl | exact Or.inr (Or.inl rfl) | exact Or.inr (Or.inr rfl))) (pA_cons (pE_op hL hr .add (pB (pE_var (i := 1) rfl (by first | exact Or.inl rfl | exact Or.inr (Or.inl rfl) | exact Or.inr (Or.inr rfl)))) (pB pE_int)) (pA_cons pE_str pA_nil)))) (fun _ => rfl))
      (qs_cons (q_set (ps_set (i := 4) sc_PlanReader_plan.nd rfl (by first | exact Or.inl rfl | exact Or.inr rfl) (pE_ix (pB (pE_fld (pE_var (i := 0) rfl (by first | exact Or.inl rfl | exact Or.inr (Or.inl rfl) | exact Or.inr (Or.inr rfl))) Tx.cl0 Tx.na0_0 rfl rfl)) (pB (pE_fld (pE_var (i := 0) rfl (by first | exact Or.inl rfl | exact Or.inr (Or.inl rfl) | exact Or.inr (Or.inr rfl))) Tx.cl0 Tx.na0_1 rfl rfl)) (fun _ _ => rfl))))
      (qs_cons (q_setT (tgS_many (tgsS_cons (tgsS_cons tgsS_nil))) (ps_asg (pE_meth (f := 6) hL hr (takes_of rfl rfl rfl rfl) rfl rfl rfl Tx.cl0 Tx.me6 rfl Tx.b6 .nil (fun _ _ => .nil) (pE_var (i := 0) rfl (by first | exact Or.inl rfl | exact Or.inr (Or.inl rfl) | exact Or.inr (Or.inr rfl))) (pA_cons (pE_var (i := 4) rfl (by first | exact Or.inl rfl | exact Or.inr (Or.inl rfl) | exact Or.inr (Or.inr rfl))) (pA_cons (pE_op hL hr .add (pB (pE_var (i := 1) rfl (by first | exact Or.inl rfl | exact Or.inr (Or.inl rfl) | exact Or.inr (Or.inr rfl)))) (pB pE_int)) pA_nil))) (pg_tup rfl (pgs_cons (pg_name (i := 5) sc_PlanReader_plan.nd rfl (by first | exact Or.inl rfl | exact Or.inr rfl)) (pgs_cons (pg_name (i := 6) sc_PlanReader_plan.nd rfl (by first | exact Or.inl rfl | exact Or.inr rfl)) pgs_nil)))))
      (qs_cons (q_ite (L2.PW.pt (pW_or (pT_cm hL hr .ne (pB (pE_var (i := 6) rfl (by first | exact Or.inl rfl | exact Or.inr (Or.inl rfl) | exact Or.inr (Or.inr rfl)))) (pB (pE_biB hL hr rfl .len rfl rfl Tx.n_len (by decide +kernel) (pB (pE_var (i := 4) rfl (by first | exact Or.inl rfl | exact Or.inr (Or.inl rfl) | exact Or.inr (Or.inr rfl)))))) (nomark _)) (pW_or1 (pT_cm hL hr .inn (pB (pE_var (i := 5) rfl (by first | exact Or.inl rfl | exact Or.inr (Or.inl rfl) | exact Or.inr (Or.inr rfl)))) (pB (pE_comp (t := (.one 7)) (own := [("row", 7)]) rfl sc_PlanReader_plan.nd (pI_b (pB_var (i := 3) rfl (by first | exact Or.inl rfl | exact Or.inr (Or.inl rfl) | exact Or.inr (Or.inr rfl)))) (blkOk_by (N := ["self", "depth", "index", "parts", "words", "signal", "place", "row"]) (sc := defScope s_PlanReader_plan) (own := [("row", 7)]) (by decide +kernel)) rfl tg_one tt_yes (fun _ _ _ _ _ => (pg_name (i := 7) sc_PlanReader_plan.nd rfl (by first | exact Or.inl rfl | exact Or.inr rfl))) (fun _ _ _ _ _ => pts_nil) (fun _ _ _ _ _ => (pE_ix (pB (pE_var (i := 7) rfl (by first | exact Or.inl rfl | exact Or.inr (Or.inl rfl) | exact Or.inr (Or.inr rfl)))) (pB pE_int) (fun _ _ => rfl))))) (by with_unfolding_all rfl)))))
      (qs_cons (q_rais1 rfl hr (takes_of rfl rfl rfl rfl) Tx.xr6.choose_spec.choose_spec.1 sup_BadPaper supb_BadPaper Tx.xr6.choose_spec.choose_spec.2 rfl rfl Tx.xm6 (pE_fld (pE_var (i := 0) rfl (by first | exact Or.inl rfl | exact Or.inr (Or.inl rfl) | exact Or.inr (Or.inr rfl))) Tx.cl0 Tx.na0_1 rfl rfl)) qs_nil)
      qs_nil)
      (qs_cons (q_auF (i := 0) rfl (by first | exact Or.inl rfl | exact Or.inr (Or.inl rfl) | exact Or.inr (Or.inr rfl)) Tx.cl0 Tx.na0_1 rfl (show 2 < 1000 by decide) pE_int)
      (qs_cons (q_app (i := 3) rfl (by first | exact Or.inl rfl | exact Or.inr (Or.inl rfl) | exact Or.inr (Or.inr rfl)) (pE_tup (pA_cons (pE_var (i := 5) rfl (by first | exact Or.inl rfl | exact Or.inr (Or.inl rfl) | exact Or.inr (Or.inr rfl))) (pA_cons (pE_meth (f := 7) hL hr (takes_of rfl rfl rfl rfl) rfl rfl rfl Tx.cl0 Tx.me7 rfl Tx.b7 .nil (fun _ _ => .nil) (pE_var (i := 0) rfl (by first | exact Or.inl rfl | exact Or.inr (Or.inl rfl) | exact Or.inr (Or.inr rfl))) (pA_cons (pE_op hL hr .add (pB (pE_var (i := 1) rfl (by first | exact Or.inl rfl | exact Or.inr (Or.inl rfl) | exact Or.inr (Or.inr rfl)))) (pB pE_int)) pA_nil)) pA_nil))) (hp := fun h1 h2 => ps_expr (pe_bm PySem.F.plainAttrs_list PySem.F.slot_list_append PySem.F.type_list_append mt_append h1 h2))) qs_nil))))))
      (qs_cons (q_ret (pE_tup (pA_cons pE_str (pA_cons (pE_var (i := 2) rfl (by first | exact Or.inl rfl | exact Or.inr (Or.inl rfl) | exact Or.inr (Or.inr rfl))) (pA_cons (pE_biT hL hr rfl .tuple rfl rfl Tx.n_tuple (by decide +kernel) (pB_var (i := 3) rfl (by first | exact Or.inl rfl | exact Or.inr (Or.inl rfl) | exact Or.inr (Or.inr rfl)))) pA_nil))))) qs_nil))))))
theorem sc_read_plan : FnScope ["lines", "reader", "plan"] ["lines"] (defScope s_read_plan) := ⟨rfl, rfl, rfl, by decide +kernel, rfl, by decide +kernel, by decide +kernel⟩
theorem b_read_plan (hL : Lnk P w K mg base (lk ca) prog fi n) (Tx : Txt P K mg ca fi) {wf : Nat} {cdv : Value} {A : Around} {outer : List Env} {s : Shared} {H : Hp} {E : XK} (hr : Room (2 * n + 1) (A.deeper (envOfC "read_plan" (defScope s_read_plan) s.heap.objs.size (fi 8).addr cdv))) :
    QSs (cxF P w K mg base ["lines", "reader", "plan"] "read_plan" s_read_plan (fi 8).addr cdv A outer s H E) (lk ca) (tab prog wf n) (fun cls d _ H => E cls d H) (defBody s_read_plan) B_read_plan :=
  (qs_cons (q_set (ps_set (i := 1) sc_read_plan.nd rfl (by first | exact Or.inl rfl | exact Or.inr rfl) (pE_mka (f := 3) hL hr (takes_of rfl rfl rfl rfl) rfl rfl rfl Tx.mk0 rfl Tx.mc0 Tx.b3 .nil (fun _ _ => .nil) (pA_cons (pE_var (i := 0) rfl (by first | exact Or.inl rfl | exact Or.inr (Or.inl rfl) | exact Or.inr (Or.inr rfl))) pA_nil))))
      (qs_cons (q_set (ps_set (i := 2) sc_read_plan.nd rfl (by first | exact Or.inl rfl | exact Or.inr rfl) (pE_meth (f := 7) hL hr (takes_of rfl rfl rfl rfl) rfl rfl rfl Tx.cl0 Tx.me7 rfl Tx.b7 .nil (fun _ _ => .nil) (pE_var (i := 1) rfl (by first | exact Or.inl rfl | exact Or.inr (Or.inl rfl) | exact Or.inr (Or.inr rfl))) (pA_cons pE_int pA_nil))))
      (qs_cons (q_ite (pT_cm hL hr .lt (pB (pE_fld (pE_var (i := 1) rfl (by first | exact Or.inl rfl | exact Or.inr (Or.inl rfl) | exact Or.inr (Or.inr rfl))) Tx.cl0 Tx.na0_1 rfl rfl)) (pB (pE_biB hL hr rfl .len rfl rfl Tx.n_len (by decide +kernel) (pB (pE_var (i := 0) rfl (by first | exact Or.inl rfl | exact Or.inr (Or.inl rfl) | exact Or.inr (Or.inr rfl)))))) (nomark _))
      (qs_cons (q_rais1 rfl hr (takes_of rfl rfl rfl rfl) Tx.xr6.choose_spec.choose_spec.1 sup_BadPaper supb_BadPaper Tx.xr6.choose_spec.choose_spec.2 rfl rfl Tx.xm6 (pE_fld (pE_var (i := 1) rfl (by first | exact Or.inl rfl | exact Or.inr (Or.inl rfl) | exact Or.inr (Or.inr rfl))) Tx.cl0 Tx.na0_1 rfl rfl)) qs_nil)
      qs_nil)
      (qs_cons (q_ret (pE_var (i := 2) rfl (by first | exact Or.inl rfl | exact Or.inr (Or.inl rfl) | exact Or.inr (Or.inr rfl)))) qs_nil))))
theorem sc_Lpool : FnScope ["_law_script", "_law_budget"] ["_law_script", "_law_budget"] (defScope s_Lpool) := ⟨rfl, rfl, rfl, by decide +kernel, rfl, by decide +kernel, by decide +kernel⟩
theorem b_Lpool (hL : Lnk P w K mg base (lk ca) prog fi n) (Tx : Txt P K mg ca fi) {wf : Nat} {cdv : Value} {A : Around} {outer : List Env} {s : Shared} {H : Hp} {E : XK} (hr : Room (2 * n + 1) (A.deeper (envOfC "_law_pool" (defScope s_Lpool) s.heap.objs.size (fi 9).addr cdv))) :
    QSs (cxF P w K mg base ["_law_script", "_law_budget"] "_law_pool" s_Lpool (fi 9).addr cdv A outer s H E) (lk ca) (tab prog wf n) (fun cls d _ H => E cls d H) (defBody s_Lpool) B_Lpool :=
  (qs_cons (q_retF (pF_lst (pA_cons (pE_biT hL hr rfl .list rfl rfl Tx.n_list (by decide +kernel) (pB (pE_var (i := 0) rfl (by first | exact Or.inl rfl | exact Or.inr (Or.inl rfl) | exact Or.inr (Or.inr rfl))))) (pA_cons pE_int (pA_cons pE_int (pA_cons pE_int (pA_cons pE_int (pA_cons (pE_var (i := 1) rfl (by first | exact Or.inl rfl | exact Or.inr (Or.inl rfl) | exact Or.inr (Or.inr rfl))) pA_nil)))))))) qs_nil)
theorem sc_Ldraw : FnScope ["_law_pool_here", "_law_size", "_law_cell", "_law_value"] ["_law_pool_here", "_law_size"] (defScope s_Ldraw) := ⟨rfl, rfl, rfl, by decide +kernel, rfl, by decide +kernel, by decide +kernel⟩
theorem b_Ldraw (hL : Lnk P w K mg base (lk ca) prog fi n) (Tx : Txt P K mg ca fi) {wf : Nat} {cdv : Value} {A : Around} {outer : List Env} {s : Shared} {H : Hp} {E : XK} (hr : Room (2 * n + 1) (A.deeper (envOfC "_law_draw" (defScope s_Ldraw) s.heap.objs.size (fi 10).addr cdv))) :
    QSs (cxF P w K mg base ["_law_pool_here", "_law_size", "_law_cell", "_law_value"] "_law_draw" s_Ldraw (fi 10).addr cdv A outer s H E) (lk ca) (tab prog wf n) (fun cls d _ H => E cls d H) (defBody s_Ldraw) B_Ldraw :=
  (qs_cons (q_ite (L2.PW.pt (pW_an (pT_cm hL hr .le (pB (pE_ix (pB (pE_var (i := 0) rfl (by first | exact Or.inl rfl | exact Or.inr (Or.inl rfl) | exact Or.inr (Or.inr rfl)))) (pB pE_int) (fun _ _ => rfl))) (pB pE_int) (nomark _)) (pW_an (pT_cm hL hr .le (pB (pE_ix (pB (pE_var (i := 0) rfl (by first | exact Or.inl rfl | exact Or.inr (Or.inl rfl) | exact Or.inr (Or.inr rfl)))) (pB pE_int) (fun _ _ => rfl))) (pB pE_int) (nomark _)) (pW_an1 (pT_cm hL hr .lt (pB (pE_ix (pB (pE_var (i := 0) rfl (by first | exact Or.inl rfl | exact Or.inr (Or.inl rfl) | exact Or.inr (Or.inr rfl)))) (pB pE_int) (fun _ _ => rfl))) (pB (pE_biB hL hr rfl .len rfl rfl Tx.n_len (by decide +kernel) (pB (pE_ix (pB (pE_var (i := 0) rfl (by first | exact Or.inl rfl | exact Or.inr (Or.inl rfl) | exact Or.inr (Or.inr rfl)))) (pB pE_int) (fun _ _ => rfl))))) (nomark _))))))
      (qs_cons (q_set (ps_set (i := 2) sc_Ldraw.nd rfl (by first | exact Or.inl rfl | exact Or.inr rfl) (pE_ix (pB (pE_ix (pB (pE_var (i := 0) rfl (by first | exact Or.inl rfl | exact Or.inr (Or.inl rfl) | exact Or.inr (Or.inr rfl)))) (pB pE_int) (fun _ _ => rfl))) (pB (pE_ix (pB (pE_var (i := 0) rfl (by first | exact Or.inl rfl | exact Or.inr (Or.inl rfl) | exact Or.inr (Or.inr rfl)))) (pB pE_int) (fun _ _ => rfl))) (fun _ _ => rfl))))
      (qs_cons (q_setIA (i := 0) rfl (by first | exact Or.inl rfl | exact Or.inr (Or.inl rfl) | exact Or.inr (Or.inr rfl)) (hp := fun h => ps_asg (pE_op hL hr .add (pB (pE_ix (pB (pE_var (i := 0) rfl (by first | exact Or.inl rfl | exact Or.inr (Or.inl rfl) | exact Or.inr (Or.inr rfl)))) (pB pE_int) (fun _ _ => rfl))) (pB pE_int)) (pg_sub h pE_int set_list)))
      (qs_cons (q_setIA (i := 0) rfl (by first | exact Or.inl rfl | exact Or.inr (Or.inl rfl) | exact Or.inr (Or.inr rfl)) (hp := fun h => ps_asg (pE_op hL hr .mod (pB (pE_biT hL hr rfl .int rfl rfl Tx.n_int (by decide +kernel) (pB (pE_op hL hr .add (pB (pE_op hL hr .mul (pB (pE_ix (pB (pE_var (i := 0) rfl (by first | exact Or.inl rfl | exact Or.inr (Or.inl rfl) | exact Or.inr (Or.inr rfl)))) (pB pE_int) (fun _ _ => rfl))) (pB pE_int))) (pB (pE_var (i := 2) rfl (by first | exact Or.inl rfl | exact Or.inr (Or.inl rfl) | exact Or.inr (Or.inr rfl)))))))) (pB pE_int)) (pg_sub h pE_int set_list)))
      (qs_cons (q_setIA (i := 0) rfl (by first | exact Or.inl rfl | exact Or.inr (Or.inl rfl) | exact Or.inr (Or.inr rfl)) (hp := fun h => ps_asg pE_int (pg_sub h pE_int set_list)))
      (qs_cons (q_ite (pT_cm hL hr .ge (pB (pE_var (i := 2) rfl (by first | exact Or.inl rfl | exact Or.inr (Or.inl rfl) | exact Or.inr (Or.inr rfl)))) (pB (pE_op hL hr .pow (pB pE_int) (pB pE_int))) (nomark _))
      (qs_cons (q_setIA (i := 0) rfl (by first | exact Or.inl rfl | exact Or.inr (Or.inl rfl) | exact Or.inr (Or.inr rfl)) (hp := fun h => ps_asg (pE_var (i := 2) rfl (by first | exact Or.inl rfl | exact Or.inr (Or.inl rfl) | exact Or.inr (Or.inr rfl))) (pg_sub h pE_int set_list))) qs_nil)
      qs_nil) qs_nil)))))
      qs_nil)
      (qs_cons (q_ite (pT_cm hL hr .gt (pB (pE_ix (pB (pE_var (i := 0) rfl (by first | exact Or.inl rfl | exact Or.inr (Or.inl rfl) | exact Or.inr (Or.inr rfl)))) (pB pE_int) (fun _ _ => rfl))) (pB pE_int) (nomark _))
      (qs_cons (q_set (ps_set (i := 3) sc_Ldraw.nd rfl (by first | exact Or.inl rfl | exact Or.inr rfl) (pE_op hL hr .mod (pB (pE_biT hL hr rfl .int rfl rfl Tx.n_int (by decide +kernel) (pB (pE_ix (pB (pE_var (i := 0) rfl (by first | exact Or.inl rfl | exact Or.inr (Or.inl rfl) | exact Or.inr (Or.inr rfl)))) (pB pE_int) (fun _ _ => rfl))))) (pB (pE_var (i := 1) rfl (by first | exact Or.inl rfl | exact Or.inr (Or.inl rfl) | exact Or.inr (Or.inr rfl)))))))
      (qs_cons (q_setIA (i := 0) rfl (by first | exact Or.inl rfl | exact Or.inr (Or.inl rfl) | exact Or.inr (Or.inr rfl)) (hp := fun h => ps_asg (pE_op hL hr .fdiv (pB (pE_ix (pB (pE_var (i := 0) rfl (by first | exact Or.inl rfl | exact Or.inr (Or.inl rfl) | exact Or.inr (Or.inr rfl)))) (pB pE_int) (fun _ _ => rfl))) (pB (pE_var (i := 1) rfl (by first | exact Or.inl rfl | exact Or.inr (Or.inl rfl) | exact Or.inr (Or.inr rfl))))) (pg_sub h pE_int set_list)))
      (qs_cons (q_setIA (i := 0) rfl (by first | exact Or.inl rfl | exact Or.inr (Or.inl rfl) | exact Or.inr (Or.inr rfl)) (hp := fun h => ps_asg pE_int (pg_sub h pE_int set_list)))
      (qs_cons (q_ret (pE_var (i := 3) rfl (by first | exact Or.inl rfl | exact Or.inr (Or.inl rfl) | exact Or.inr (Or.inr rfl)))) qs_nil))))
      qs_nil)
      (qs_cons (q_setIA (i := 0) rfl (by first | exact Or.inl rfl | exact Or.inr (Or.inl rfl) | exact Or.inr (Or.inr rfl)) (hp := fun h => ps_asg (pE_op hL hr .sub (pB (pE_ix (pB (pE_var (i := 0) rfl (by first | exact Or.inl rfl | exact Or.inr (Or.inl rfl) | exact Or.inr (Or.inr rfl)))) (pB pE_int) (fun _ _ => rfl))) (pB pE_int)) (pg_sub h pE_int set_list)))
      (qs_cons (q_setIA (i := 0) rfl (by first | exact Or.inl rfl | exact Or.inr (Or.inl rfl) | exact Or.inr (Or.inr rfl)) (hp := fun h => ps_asg (pE_op hL hr .mod (pB (pE_biT hL hr rfl .int rfl rfl Tx.n_int (by decide +kernel) (pB (pE_op hL hr .add (pB (pE_op hL hr .mul (pB (pE_ix (pB (pE_var (i := 0) rfl (by first | exact Or.inl rfl | exact Or.inr (Or.inl rfl) | exact Or.inr (Or.inr rfl)))) (pB pE_int) (fun _ _ => rfl))) (pB pE_int))) (pB pE_int))))) (pB pE_int)) (pg_sub h pE_int set_list)))
      (qs_cons (q_ret (pE_op hL hr .mod (pB (pE_op hL hr .mod (pB (pE_biT hL hr rfl .int rfl rfl Tx.n_int (by decide +kernel) (pB (pE_op hL hr .add (pB (pE_op hL hr .mul (pB (pE_ix (pB (pE_var (i := 0) rfl (by first | exact Or.inl rfl | exact Or.inr (Or.inl rfl) | exact Or.inr (Or.inr rfl)))) (pB pE_int) (fun _ _ => rfl))) (pB pE_int))) (pB pE_int))))) (pB pE_int))) (pB (pE_var (i := 1) rfl (by first | exact Or.inl rfl | exact Or.inr (Or.inl rfl) | exact Or.inr (Or.inr rfl)))))) qs_nil)))))
theorem sc_Lspend : FnScope ["_law_pool_here"] ["_law_pool_here"] (defScope s_Lspend) := ⟨rfl, rfl, rfl, by decide +kernel, rfl, by decide +kernel, by decide +kernel⟩
theorem b_Lspend (hL : Lnk P w K mg base (lk ca) prog fi n) (Tx : Txt P K mg ca fi) {wf : Nat} {cdv : Value} {A : Around} {outer : List Env} {s : Shared} {H : Hp} {E : XK} (hr : Room (2 * n + 1) (A.deeper (envOfC "_law_spend" (defScope s_Lspend) s.heap.objs.size (fi 11).addr cdv))) :
    QSs (cxF P w K mg base ["_law_pool_here"] "_law_spend" s_Lspend (fi 11).addr cdv A outer s H E) (lk ca) (tab prog wf n) (fun cls d _ H => E cls d H) (defBody s_Lspend) B_Lspend :=
  (qs_cons (q_setIA (i := 0) rfl (by first | exact Or.inl rfl | exact Or.inr (Or.inl rfl) | exact Or.inr (Or.inr rfl)) (hp := fun h => ps_asg (pE_op hL hr .sub (pB (pE_ix (pB (pE_var (i := 0) rfl (by first | exact Or.inl rfl | exact Or.inr (Or.inl rfl) | exact Or.inr (Or.inr rfl)))) (pB pE_int) (fun _ _ => rfl))) (pB pE_int)) (pg_sub h pE_int set_list)))
      (qs_cons (q_ret (pE_cm hL hr .ge (pB (pE_ix (pB (pE_var (i := 0) rfl (by first | exact Or.inl rfl | exact Or.inr (Or.inl rfl) | exact Or.inr (Or.inr rfl)))) (pB pE_int) (fun _ _ => rfl))) (pB pE_int) (nomark _))) qs_nil))
theorem b_Lsame (hL : Lnk P w K mg base (lk ca) prog fi n) (Tx : Txt P K mg ca fi) {wf : Nat} {cdv : Value} {A : Around} {outer : List Env} {s : Shared} {H : Hp} {E : XK} (hr : Room (2 * n + 1) (A.deeper (envOfC "_law_same" (defScope s_Lsame) s.heap.objs.size (fi 12).addr cdv))) :
    QSs (cxF P w K mg base ["_law_actual", "_law_due", "_law_k"] "_law_same" s_Lsame (fi 12).addr cdv A outer s H E) (lk ca) (tab prog wf n) (fun cls d _ H => E cls d H) (defBody s_Lsame) B_Lsame :=
  (qs_cons (q_ite (L2.PW.pt (pW_or (pT_tru (pB (pE_isi rfl Tx.n_isinstance (by decide +kernel) (tyOk_b (by simp)) (pB (pE_var (i := 1) rfl (by first | exact Or.inl rfl | exact Or.inr (Or.inl rfl) | exact Or.inr (Or.inr rfl)))) (pe_bltn (v := .ty "tuple") rfl Tx.n_tuple (by decide +kernel) rfl))) (fun _ => rfl)) (pW_or1 (pT_tru (pB (pE_isi rfl Tx.n_isinstance (by decide +kernel) (tyOk_b (by simp)) (pB (pE_var (i := 1) rfl (by first | exact Or.inl rfl | exact Or.inr (Or.inl rfl) | exact Or.inr (Or.inr rfl)))) (pe_bltn (v := .ty "list") rfl Tx.n_list (by decide +kernel) rfl))) (fun _ => rfl)))))
      (qs_cons (q_ite (L2.PW.pt (pW_or (pT_cm hL hr .ne (pB (pE_isi rfl Tx.n_isinstance (by decide +kernel) (tyOk_b (by simp)) (pB (pE_var (i := 1) rfl (by first | exact Or.inl rfl | exact Or.inr (Or.inl rfl) | exact Or.inr (Or.inr rfl)))) (pe_bltn (v := .ty "tuple") rfl Tx.n_tuple (by decide +kernel) rfl))) (pB (pE_isi rfl Tx.n_isinstance (by decide +kernel) (tyOk_b (by simp)) (pB (pE_var (i := 0) rfl (by first | exact Or.inl rfl | exact Or.inr (Or.inl rfl) | exact Or.inr (Or.inr rfl)))) (pe_bltn (v := .ty "tuple") rfl Tx.n_tuple (by decide +kernel) rfl))) (nomark _)) (pW_or1 (pT_cm hL hr .ne (pB (pE_isi rfl Tx.n_isinstance (by decide +kernel) (tyOk_b (by simp)) (pB (pE_var (i := 1) rfl (by first | exact Or.inl rfl | exact Or.inr (Or.inl rfl) | exact Or.inr (Or.inr rfl)))) (pe_bltn (v := .ty "list") rfl Tx.n_list (by decide +kernel) rfl))) (pB (pE_isi rfl Tx.n_isinstance (by decide +kernel) (tyOk_b (by simp)) (pB (pE_var (i := 0) rfl (by first | exact Or.inl rfl | exact Or.inr (Or.inl rfl) | exact Or.inr (Or.inr rfl)))) (pe_bltn (v := .ty "list") rfl Tx.n_list (by decide +kernel) rfl))) (nomark _)))))
      (qs_cons (q_ret pE_bl) qs_nil)
      qs_nil)
      (qs_cons (q_ite (pT_cm hL hr .ne (pB (pE_biB hL hr rfl .len rfl rfl Tx.n_len (by decide +kernel) (pB (pE_var (i := 0) rfl (by first | exact Or.inl rfl | exact Or.inr (Or.inl rfl) | exact Or.inr (Or.inr rfl)))))) (pB (pE_biB hL hr rfl .len rfl rfl Tx.n_len (by decide +kernel) (pB (pE_var (i := 1) rfl (by first | exact Or.inl rfl | exact Or.inr (Or.inl rfl) | exact Or.inr (Or.inr rfl)))))) (nomark _))
      (qs_cons (q_ret pE_bl) qs_nil)
      qs_nil)
      (qs_cons (q_fo (passes_of rfl) rfl (pI_rng1 rfl Tx.n_range (pB (pE_biB hL hr rfl .len rfl rfl Tx.n_len (by decide +kernel) (pB (pE_var (i := 1) rfl (by first | exact Or.inl rfl | exact Or.inr (Or.inl rfl) | exact Or.inr (Or.inr rfl))))))) (pg_name (i := 2) sc_Lsame.nd rfl (by first | exact Or.inl rfl | exact Or.inr rfl)) tgS_one
      (qs_cons (q_ite (pT_no (pT_tru (pB (pE_call (f := 12) hL hr (takes_of rfl rfl rfl rfl) rfl rfl rfl rfl Tx.m12 Tx.k12 Tx.b12 .nil (fun _ _ => .nil) (pA_cons (pE_ix (pB (pE_var (i := 0) rfl (by first | exact Or.inl rfl | exact Or.inr (Or.inl rfl) | exact Or.inr (Or.inr rfl)))) (pB (pE_var (i := 2) rfl (by first | exact Or.inl rfl | exact Or.inr (Or.inl rfl) | exact Or.inr (Or.inr rfl)))) (fun _ _ => rfl)) (pA_cons (pE_ix (pB (pE_var (i := 1) rfl (by first | exact Or.inl rfl | exact Or.inr (Or.inl rfl) | exact Or.inr (Or.inr rfl)))) (pB (pE_var (i := 2) rfl (by first | exact Or.inl rfl | exact Or.inr (Or.inl rfl) | exact Or.inr (Or.inr rfl)))) (fun _ _ => rfl)) pA_nil)))) (fun _ => rfl)))
      (qs_cons (q_ret pE_bl) qs_nil)
      qs_nil) qs_nil))
      (qs_cons (q_ret pE_bl) qs_nil))))
      qs_nil)
      (qs_cons (q_ite (L2.PW.pt (pW_or (pT_cm hL hr .is (pB (pE_var (i := 1) rfl (by first | exact Or.inl rfl | exact Or.inr (Or.inl rfl) | exact Or.inr (Or.inr rfl)))) (pB pE_non) (nomark _)) (pW_or1 (pT_tru (pB (pE_isi rfl Tx.n_isinstance (by decide +kernel) (tyOk_b (by simp)) (pB (pE_var (i := 1) rfl (by first | exact Or.inl rfl | exact Or.inr (Or.inl rfl) | exact Or.inr (Or.inr rfl)))) (pe_bltn (v := .ty "bool") rfl Tx.n_bool (by decide +kernel) rfl))) (fun _ => rfl)))))
      (qs_cons (q_ret (pE_an (pE_cm hL hr .eq (pB (pE_cm hL hr .is (pB (pE_var (i := 0) rfl (by first | exact Or.inl rfl | exact Or.inr (Or.inl rfl) | exact Or.inr (Or.inr rfl)))) (pB pE_non) (nomark _))) (pB (pE_cm hL hr .is (pB (pE_var (i := 1) rfl (by first | exact Or.inl rfl | exact Or.inr (Or.inl rfl) | exact Or.inr (Or.inr rfl)))) (pB pE_non) (nomark _))) (nomark _)) (pE_an (pE_or (pE_cm hL hr .is (pB (pE_var (i := 1) rfl (by first | exact Or.inl rfl | exact Or.inr (Or.inl rfl) | exact Or.inr (Or.inr rfl)))) (pB pE_non) (nomark _)) (pE_one (pE_isi rfl Tx.n_isinstance (by decide +kernel) (tyOk_b (by simp)) (pB (pE_var (i := 0) rfl (by first | exact Or.inl rfl | exact Or.inr (Or.inl rfl) | exact Or.inr (Or.inr rfl)))) (pe_bltn (v := .ty "bool") rfl Tx.n_bool (by decide +kernel) rfl)))) (pE_one (pE_cm hL hr .eq (pB (pE_var (i := 0) rfl (by first | exact Or.inl rfl | exact Or.inr (Or.inl rfl) | exact Or.inr (Or.inr rfl)))) (pB (pE_var (i := 1) rfl (by first | exact Or.inl rfl | exact Or.inr (Or.inl rfl) | exact Or.inr (Or.inr rfl)))) (nomark _)))))) qs_nil)
      qs_nil)
      (qs_cons (q_ite (pT_tru (pB (pE_isi rfl Tx.n_isinstance (by decide +kernel) (tyOk_b (by simp)) (pB (pE_var (i := 1) rfl (by first | exact Or.inl rfl | exact Or.inr (Or.inl rfl) | exact Or.inr (Or.inr rfl)))) (pe_bltn (v := .ty "int") rfl Tx.n_int (by decide +kernel) rfl))) (fun _ => rfl))
      (qs_cons (q_ret (pE_an (pE_isi rfl Tx.n_isinstance (by decide +kernel) (tyOk_b (by simp)) (pB (pE_var (i := 0) rfl (by first | exact Or.inl rfl | exact Or.inr (Or.inl rfl) | exact Or.inr (Or.inr rfl)))) (pe_bltn (v := .ty "int") rfl Tx.n_int (by decide +kernel) rfl)) (pE_an (pE_no (pB (pE_isi rfl Tx.n_isinstance (by decide +kernel) (tyOk_b (by simp)) (pB (pE_var (i := 0) rfl (by first | exact Or.inl rfl | exact Or.inr (Or.inl rfl) | exact Or.inr (Or.inr rfl)))) (pe_bltn (v := .ty "bool") rfl Tx.n_bool (by decide +kernel) rfl)))) (pE_one (pE_cm hL hr .eq (pB (pE_var (i := 0) rfl (by first | exact Or.inl rfl | exact Or.inr (Or.inl rfl) | exact Or.inr (Or.inr rfl)))) (pB (pE_var (i := 1) rfl (by first | exact Or.inl rfl | exact Or.inr (Or.inl rfl) | exact Or.inr (Or.inr rfl)))) (nomark _)))))) qs_nil)
      qs_nil)
      (qs_cons (q_ret (pE_an (pE_isi rfl Tx.n_isinstance (by decide +kernel) (tyOk_b (by simp)) (pB (pE_var (i := 0) rfl (by first | exact Or.inl rfl | exact Or.inr (Or.inl rfl) | exact Or.inr (Or.inr rfl)))) (pe_bltn (v := .ty "str") rfl Tx.n_str (by decide +kernel) rfl)) (pE_one (pE_cm hL hr .eq (pB (pE_var (i := 0) rfl (by first | exact Or.inl rfl | exact Or.inr (Or.inl rfl) | exact Or.inr (Or.inr rfl)))) (pB (pE_var (i := 1) rfl (by first | exact Or.inl rfl | exact Or.inr (Or.inl rfl) | exact Or.inr (Or.inr rfl)))) (nomark _))))) qs_nil))))
theorem sc_Lsignal : FnScope ["_law_pool_here", "_law_deep", "_law_k"] ["_law_pool_here", "_law_deep"] (defScope s_Lsignal) := ⟨rfl, rfl, rfl, by decide +kernel, rfl, by decide +kernel, by decide +kernel⟩
theorem b_Lsignal (hL : Lnk P w K mg base (lk ca) prog fi n) (Tx : Txt P K mg ca fi) {wf : Nat} {cdv : Value} {A : Around} {outer : List Env} {s : Shared} {H : Hp} {E : XK} (hr : Room (2 * n + 1) (A.deeper (envOfC "_law_signal" (defScope s_Lsignal) s.heap.objs.size (fi 13).addr cdv))) :
    QSs (cxF P w K mg base ["_law_pool_here", "_law_deep", "_law_k"] "_law_signal" s_Lsignal (fi 13).addr cdv A outer s H E) (lk ca) (tab prog wf n) (fun cls d _ H => E cls d H) (defBody s_Lsignal) B_Lsignal :=
  (qs_cons (q_ite (L2.PW.pt (pW_or (pT_cm hL hr .eq (pB (pE_var (i := 1) rfl (by first | exact Or.inl rfl | exact Or.inr (Or.inl rfl) | exact Or.inr (Or.inr rfl)))) (pB pE_int) (nomark _)) (pW_or1 (pT_cm hL hr .eq (pB (pE_call (f := 10) hL hr (takes_of rfl rfl rfl rfl) rfl rfl rfl rfl Tx.m10 Tx.k10 Tx.b10 .nil (fun _ _ => .nil) (pA_cons (pE_var (i := 0) rfl (by first | exact Or.inl rfl | exact Or.inr (Or.inl rfl) | exact Or.inr (Or.inr rfl))) (pA_cons pE_int pA_nil)))) (pB pE_int) (nomark _)))))
      (qs_cons (q_ret (pE_ix (pB (pE_tup (pA_cons (pE_call (f := 10) hL hr (takes_of rfl rfl rfl rfl) rfl rfl rfl rfl Tx.m10 Tx.k10 Tx.b10 .nil (fun _ _ => .nil) (pA_cons (pE_var (i := 0) rfl (by first | exact Or.inl rfl | exact Or.inr (Or.inl rfl) | exact Or.inr (Or.inr rfl))) (pA_cons pE_int pA_nil))) (pA_cons (pE_call (f := 10) hL hr (takes_of rfl rfl rfl rfl) rfl rfl rfl rfl Tx.m10 Tx.k10 Tx.b10 .nil (fun _ _ => .nil) (pA_cons (pE_var (i := 0) rfl (by first | exact Or.inl rfl | exact Or.inr (Or.inl rfl) | exact Or.inr (Or.inr rfl))) (pA_cons pE_int pA_nil))) pA_nil)))) (pB (pE_call (f := 10) hL hr (takes_of rfl rfl rfl rfl) rfl rfl rfl rfl Tx.m10 Tx.k10 Tx.b10 .nil (fun _ _ => .nil) (pA_cons (pE_var (i := 0) rfl (by first | exact Or.inl rfl | exact Or.inr (Or.inl rfl) | exact Or.inr (Or.inr rfl))) (pA_cons pE_int pA_nil)))) (fun _ _ => rfl))) qs_nil)
      qs_nil)
      (qs_cons (q_ret (pE_biT hL hr rfl .tuple rfl rfl Tx.n_tuple (by decide +kernel) (pB (pE_comp (t := (.one 2)) (own := [("_law_k", 2)]) rfl sc_Lsignal.nd (pI_rng1 rfl Tx.n_range (pB (pE_call (f := 10) hL hr (takes_of rfl rfl rfl rfl) rfl rfl rfl rfl Tx.m10 Tx.k10 Tx.b10 .nil (fun _ _ => .nil) (pA_cons (pE_var (i := 0) rfl (by first | exact Or.inl rfl | exact Or.inr (Or.inl rfl) | exact Or.inr (Or.inr rfl))) (pA_cons pE_int pA_nil))))) (blkOk_by (N := ["_law_pool_here", "_law_deep", "_law_k"]) (sc := defScope s_Lsignal) (own := [("_law_k", 2)]) (by decide +kernel)) rfl tg_one tt_yes (fun _ _ _ _ _ => (pg_name (i := 2) sc_Lsignal.nd rfl (by first | exact Or.inl rfl | exact Or.inr rfl))) (fun _ _ _ _ _ => pts_nil) (fun _ _ _ _ _ => (pE_call (f := 13) hL hr takes0 rfl rfl rfl rfl Tx.m13 Tx.k13 Tx.b13 .nil (fun _ _ => .nil) (pA_cons (pE_var (i := 0) rfl (by first | exact Or.inl rfl | exact Or.inr (Or.inl rfl) | exact Or.inr (Or.inr rfl))) (pA_cons (pE_op hL hr .sub (pB (pE_var (i := 1) rfl (by first | exact Or.inl rfl | exact Or.inr (Or.inl rfl) | exact Or.inr (Or.inr rfl)))) (pB pE_int)) pA_nil)))))))) qs_nil))
theorem sc_Ltree : FnScope ["_law_pool_here", "_law_deep", "_law_parts", "_law_k", "_law_signal_here", "_law_part"] ["_law_pool_here", "_law_deep"] (defScope s_Ltree) := ⟨rfl, rfl, rfl, by decide +kernel, rfl, by decide +kernel, by decide +kernel⟩
theorem b_Ltree (hL : Lnk P w K mg base (lk ca) prog fi n) (Tx : Txt P K mg ca fi) {wf : Nat} {cdv : Value} {A : Around} {outer : List Env} {s : Shared} {H : Hp} {E : XK} (hr : Room (2 * n + 1) (A.deeper (envOfC "_law_tree" (defScope s_Ltree) s.heap.objs.size (fi 14).addr cdv))) :
    QSs (cxF P w K mg base ["_law_pool_here", "_law_deep", "_law_parts", "_law_k", "_law_signal_here", "_law_part"] "_law_tree" s_Ltree (fi 14).addr cdv A outer s H E) (lk ca) (tab prog wf n) (fun cls d _ H => E cls d H) (defBody s_Ltree) B_Ltree :=
  (qs_cons (q_ite (L2.PW.pt (pW_or (pT_cm hL hr .eq (pB (pE_var (i := 1) rfl (by first | exact Or.inl rfl | exact Or.inr (Or.inl rfl) | exact Or.inr (Or.inr rfl)))) (pB pE_int) (nomark _)) (pW_or (pT_no (pT_tru (pB (pE_call (f := 11) hL hr (takes_of rfl rfl rfl rfl) rfl rfl rfl rfl Tx.m11 Tx.k11 Tx.b11 .nil (fun _ _ => .nil) (pA_cons (pE_var (i := 0) rfl (by first | exact Or.inl rfl | exact Or.inr (Or.inl rfl) | exact Or.inr (Or.inr rfl))) pA_nil))) (fun _ => rfl))) (pW_or1 (pT_cm hL hr .eq (pB (pE_call (f := 10) hL hr (takes_of rfl rfl rfl rfl) rfl rfl rfl rfl Tx.m10 Tx.k10 Tx.b10 .nil (fun _ _ => .nil) (pA_cons (pE_var (i := 0) rfl (by first | exact Or.inl rfl | exact Or.inr (Or.inl rfl) | exact Or.inr (Or.inr rfl))) (pA_cons pE_int pA_nil)))) (pB pE_int) (nomark _))))))
      (qs_cons (q_ret (pE_tup (pA_cons pE_str (pA_cons (pE_call (f := 10) hL hr (takes_of rfl rfl rfl rfl) rfl rfl rfl rfl Tx.m10 Tx.k10 Tx.b10 .nil (fun _ _ => .nil) (pA_cons (pE_var (i := 0) rfl (by first | exact Or.inl rfl | exact Or.inr (Or.inl rfl) | exact Or.inr (Or.inr rfl))) (pA_cons pE_int pA_nil))) pA_nil)))) qs_nil)
      qs_nil)
      (qs_cons (q_setO (ps_set (i := 2) sc_Ltree.nd rfl (by first | exact Or.inl rfl | exact Or.inr rfl) (pF_lst pA_nil)))
      (qs_cons (q_fo (passes_of rfl) rfl (pI_rng1 rfl Tx.n_range (pB (pE_call (f := 10) hL hr (takes_of rfl rfl rfl rfl) rfl rfl rfl rfl Tx.m10 Tx.k10 Tx.b10 .nil (fun _ _ => .nil) (pA_cons (pE_var (i := 0) rfl (by first | exact Or.inl rfl | exact Or.inr (Or.inl rfl) | exact Or.inr (Or.inr rfl))) (pA_cons pE_int pA_nil))))) (pg_name (i := 3) sc_Ltree.nd rfl (by first | exact Or.inl rfl | exact Or.inr rfl)) tgS_one
      (qs_cons (q_set (ps_set (i := 4) sc_Ltree.nd rfl (by first | exact Or.inl rfl | exact Or.inr rfl) (pE_call (f := 13) hL hr (takes_of rfl rfl rfl rfl) rfl rfl rfl rfl Tx.m13 Tx.k13 Tx.b13 .nil (fun _ _ => .nil) (pA_cons (pE_var (i := 0) rfl (by first | exact Or.inl rfl | exact Or.inr (Or.inl rfl) | exact Or.inr (Or.inr rfl))) (pA_cons pE_int pA_nil)))))
      (qs_cons (q_ite (pT_cm hL hr .nin (pB (pE_var (i := 4) rfl (by first | exact Or.inl rfl | exact Or.inr (Or.inl rfl) | exact Or.inr (Or.inr rfl)))) (pB (pE_comp (t := (.one 5)) (own := [("_law_part", 5)]) rfl sc_Ltree.nd (pI_b (pB_var (i := 2) rfl (by first | exact Or.inl rfl | exact Or.inr (Or.inl rfl) | exact Or.inr (Or.inr rfl)))) (blkOk_by (N := ["_law_pool_here", "_law_deep", "_law_parts", "_law_k", "_law_signal_here", "_law_part"]) (sc := defScope s_Ltree) (own := [("_law_part", 5)]) (by decide +kernel)) rfl tg_one tt_yes (fun _ _ _ _ _ => (pg_name (i := 5) sc_Ltree.nd rfl (by first | exact Or.inl rfl | exact Or.inr rfl))) (fun _ _ _ _ _ => pts_nil) (fun _ _ _ _ _ => (pE_ix (pB (pE_var (i := 5) rfl (by first | exact Or.inl rfl | exact Or.inr (Or.inl rfl) | exact Or.inr (Or.inr rfl)))) (pB pE_int) (fun _ _ => rfl))))) (by with_unfolding_all rfl))
      (qs_cons (q_app (i := 2) rfl (by first | exact Or.inl rfl | exact Or.inr (Or.inl rfl) | exact Or.inr (Or.inr rfl)) (pE_tup (pA_cons (pE_var (i := 4) rfl (by first | exact Or.inl rfl | exact Or.inr (Or.inl rfl) | exact Or.inr (Or.inr rfl))) (pA_cons (pE_call (f := 14) hL hr (takes_of rfl rfl rfl rfl) rfl rfl rfl rfl Tx.m14 Tx.k14 Tx.b14 .nil (fun _ _ => .nil) (pA_cons (pE_var (i := 0) rfl (by first | exact Or.inl rfl | exact Or.inr (Or.inl rfl) | exact Or.inr (Or.inr rfl))) (pA_cons (pE_op hL hr .sub (pB (pE_var (i := 1) rfl (by first | exact Or.inl rfl | exact Or.inr (Or.inl rfl) | exact Or.inr (Or.inr rfl)))) (pB pE_int)) pA_nil))) pA_nil))) (hp := fun h1 h2 => ps_expr (pe_bm PySem.F.plainAttrs_list PySem.F.slot_list_append PySem.F.type_list_append mt_append h1 h2))) qs_nil)
      qs_nil) qs_nil)))
      (qs_cons (q_ret (pE_tup (pA_cons pE_str (pA_cons (pE_call (f := 10) hL hr (takes_of rfl rfl rfl rfl) rfl rfl rfl rfl Tx.m10 Tx.k10 Tx.b10 .nil (fun _ _ => .nil) (pA_cons (pE_var (i := 0) rfl (by first | exact Or.inl rfl | exact Or.inr (Or.inl rfl) | exact Or.inr (Or.inr rfl))) (pA_cons pE_int pA_nil))) (pA_cons (pE_biT hL hr rfl .tuple rfl rfl Tx.n_tuple (by decide +kernel) (pB_var (i := 2) rfl (by first | exact Or.inl rfl | exact Or.inr (Or.inl rfl) | exact Or.inr (Or.inr rfl)))) pA_nil))))) qs_nil))))
theorem sc_Lchain : FnScope ["_law_pool_here", "_law_plan", "_law_k", "_law_signal_here", "_law_turn"] ["_law_pool_here"] (defScope s_Lchain) := ⟨rfl, rfl, rfl, by decide +kernel, rfl, by decide +kernel, by decide +kernel⟩
theorem b_Lchain (hL : Lnk P w K mg base (lk ca) prog fi n) (Tx : Txt P K mg ca fi) {wf : Nat} {cdv : Value} {A : Around} {outer : List Env} {s : Shared} {H : Hp} {E : XK} (hr : Room (2 * n + 1) (A.deeper (envOfC "_law_chain" (defScope s_Lchain) s.heap.objs.size (fi 15).addr cdv))) :
    QSs (cxF P w K mg base ["_law_pool_here", "_law_plan", "_law_k", "_law_signal_here", "_law_turn"] "_law_chain" s_Lchain (fi 15).addr cdv A outer s H E) (lk ca) (tab prog wf n) (fun cls d _ H => E cls d H) (defBody s_Lchain) B_Lchain :=
  (qs_cons (q_set (ps_set (i := 1) sc_Lchain.nd rfl (by first | exact Or.inl rfl | exact Or.inr rfl) (pE_tup (pA_cons pE_str (pA_cons (pE_call (f := 10) hL hr (takes_of rfl rfl rfl rfl) rfl rfl rfl rfl Tx.m10 Tx.k10 Tx.b10 .nil (fun _ _ => .nil) (pA_cons (pE_var (i := 0) rfl (by first | exact Or.inl rfl | exact Or.inr (Or.inl rfl) | exact Or.inr (Or.inr rfl))) (pA_cons pE_int pA_nil))) pA_nil)))))
      (qs_cons (q_fo (passes_of rfl) rfl (pI_rng1 rfl Tx.n_range (pB (pE_call (f := 10) hL hr (takes_of rfl rfl rfl rfl) rfl rfl rfl rfl Tx.m10 Tx.k10 Tx.b10 .nil (fun _ _ => .nil) (pA_cons (pE_var (i := 0) rfl (by first | exact Or.inl rfl | exact Or.inr (Or.inl rfl) | exact Or.inr (Or.inr rfl))) (pA_cons pE_int pA_nil))))) (pg_name (i := 2) sc_Lchain.nd rfl (by first | exact Or.inl rfl | exact Or.inr rfl)) tgS_one
      (qs_cons (q_set (ps_set (i := 3) sc_Lchain.nd rfl (by first | exact Or.inl rfl | exact Or.inr rfl) (pE_call (f := 10) hL hr (takes_of rfl rfl rfl rfl) rfl rfl rfl rfl Tx.m10 Tx.k10 Tx.b10 .nil (fun _ _ => .nil) (pA_cons (pE_var (i := 0) rfl (by first | exact Or.inl rfl | exact Or.inr (Or.inl rfl) | exact Or.inr (Or.inr rfl))) (pA_cons pE_int pA_nil)))))
      (qs_cons (q_fo (passes_of rfl) rfl (pI_rng1 rfl Tx.n_range (pB (pE_ix (pB (pE_tup (pA_cons pE_int (pA_cons (pE_call (f := 10) hL hr (takes_of rfl rfl rfl rfl) rfl rfl rfl rfl Tx.m10 Tx.k10 Tx.b10 .nil (fun _ _ => .nil) (pA_cons (pE_var (i := 0) rfl (by first | exact Or.inl rfl | exact Or.inr (Or.inl rfl) | exact Or.inr (Or.inr rfl))) (pA_cons pE_int pA_nil))) pA_nil)))) (pB (pE_call (f := 10) hL hr (takes_of rfl rfl rfl rfl) rfl rfl rfl rfl Tx.m10 Tx.k10 Tx.b10 .nil (fun _ _ => .nil) (pA_cons (pE_var (i := 0) rfl (by first | exact Or.inl rfl | exact Or.inr (Or.inl rfl) | exact Or.inr (Or.inr rfl))) (pA_cons pE_int pA_nil)))) (fun _ _ => rfl)))) (pg_name (i := 4) sc_Lchain.nd rfl (by first | exact Or.inl rfl | exact Or.inr rfl)) tgS_one
      (qs_cons (q_set (ps_set (i := 3) sc_Lchain.nd rfl (by first | exact Or.inl rfl | exact Or.inr rfl) (pE_tup (pA_cons (pE_var (i := 3) rfl (by first | exact Or.inl rfl | exact Or.inr (Or.inl rfl) | exact Or.inr (Or.inr rfl))) pA_nil)))) qs_nil))
      (qs_cons (q_set (ps_set (i := 1) sc_Lchain.nd rfl (by first | exact Or.inl rfl | exact Or.inr rfl) (pE_tup (pA_cons pE_str (pA_cons (pE_call (f := 10) hL hr (takes_of rfl rfl rfl rfl) rfl rfl rfl rfl Tx.m10 Tx.k10 Tx.b10 .nil (fun _ _ => .nil) (pA_cons (pE_var (i := 0) rfl (by first | exact Or.inl rfl | exact Or.inr (Or.inl rfl) | exact Or.inr (Or.inr rfl))) (pA_cons pE_int pA_nil))) (pA_cons (pE_tup (pA_cons (pE_tup (pA_cons (pE_var (i := 3) rfl (by first | exact Or.inl rfl | exact Or.inr (Or.inl rfl) | exact Or.inr (Or.inr rfl))) (pA_cons (pE_var (i := 1) rfl (by first | exact Or.inl rfl | exact Or.inr (Or.inl rfl) | exact Or.inr (Or.inr rfl))) pA_nil))) pA_nil)) pA_nil)))))) qs_nil))))
      (qs_cons (q_ret (pE_var (i := 1) rfl (by first | exact Or.inl rfl | exact Or.inr (Or.inl rfl) | exact Or.inr (Or.inr rfl)))) qs_nil)))
theorem sc_Lsignal_words : FnScope ["_law_signal_here", "_law_words", "_law_part"] ["_law_signal_here"] (defScope s_Lsignal_words) := ⟨rfl, rfl, rfl, by decide +kernel, rfl, by decide +kernel, by decide +kernel⟩
theorem b_Lsignal_words (hL : Lnk P w K mg base (lk ca) prog fi n) (Tx : Txt P K mg ca fi) {wf : Nat} {cdv : Value} {A : Around} {outer : List Env} {s : Shared} {H : Hp} {E : XK} (hr : Room (2 * n + 1) (A.deeper (envOfC "_law_signal_words" (defScope s_Lsignal_words) s.heap.objs.size (fi 16).addr cdv))) :
    QSs (cxF P w K mg base ["_law_signal_here", "_law_words", "_law_part"] "_law_signal_words" s_Lsignal_words (fi 16).addr cdv A outer s H E) (lk ca) (tab prog wf n) (fun cls d _ H => E cls d H) (defBody s_Lsignal_words) B_Lsignal_words :=
  (qs_cons (q_ite (pT_tru (pB (pE_isi rfl Tx.n_isinstance (by decide +kernel) (tyOk_b (by simp)) (pB (pE_var (i := 0) rfl (by first | exact Or.inl rfl | exact Or.inr (Or.inl rfl) | exact Or.inr (Or.inr rfl)))) (pe_bltn (v := .ty "tuple") rfl Tx.n_tuple (by decide +kernel) rfl))) (fun _ => rfl))
      (qs_cons (q_set (ps_set (i := 1) sc_Lsignal_words.nd rfl (by first | exact Or.inl rfl | exact Or.inr rfl) (pE_lst (pA_cons pE_str pA_nil))))
      (qs_cons (q_fo (passes_of rfl) rfl (pI_e (pE_var (i := 0) rfl (by first | exact Or.inl rfl | exact Or.inr (Or.inl rfl) | exact Or.inr (Or.inr rfl)))) (pg_name (i := 2) sc_Lsignal_words.nd rfl (by first | exact Or.inl rfl | exact Or.inr rfl)) tgS_one
      (qs_cons (q_set (ps_set (i := 1) sc_Lsignal_words.nd rfl (by first | exact Or.inl rfl | exact Or.inr rfl) (pE_op hL hr .add (pB (pE_var (i := 1) rfl (by first | exact Or.inl rfl | exact Or.inr (Or.inl rfl) | exact Or.inr (Or.inr rfl)))) (pB (pE_call (f := 16) hL hr (takes_of rfl rfl rfl rfl) rfl rfl rfl rfl Tx.m16 Tx.k16 Tx.b16 .nil (fun _ _ => .nil) (pA_cons (pE_var (i := 2) rfl (by first | exact Or.inl rfl | exact Or.inr (Or.inl rfl) | exact Or.inr (Or.inr rfl))) pA_nil)))))) qs_nil))
      (qs_cons (q_ret (pE_op hL hr .add (pB (pE_var (i := 1) rfl (by first | exact Or.inl rfl | exact Or.inr (Or.inl rfl) | exact Or.inr (Or.inr rfl)))) (pB (pE_lst (pA_cons pE_str pA_nil))))) qs_nil)))
      qs_nil)
      (qs_cons (q_ret (pE_lst (pA_cons (pE_biT hL hr rfl .str rfl rfl Tx.n_str (by decide +kernel) (pB (pE_var (i := 0) rfl (by first | exact Or.inl rfl | exact Or.inr (Or.inl rfl) | exact Or.inr (Or.inr rfl))))) pA_nil))) qs_nil))
theorem sc_Llines : FnScope ["_law_plan", "_law_depth", "_law_lines_here", "_law_signal_here", "_law_part"] ["_law_plan", "_law_depth"] (defScope s_Llines) := ⟨rfl, rfl, rfl, by decide +kernel, rfl, by decide +kernel, by decide +kernel⟩
theorem b_Llines (hL : Lnk P w K mg base (lk ca) prog fi n) (Tx : Txt P K mg ca fi) {wf : Nat} {cdv : Value} {A : Around} {outer : List Env} {s : Shared} {H : Hp} {E : XK} (hr : Room (2 * n + 1) (A.deeper (envOfC "_law_lines" (defScope s_Llines) s.heap.objs.size (fi 17).addr cdv))) :
    QSs (cxF P w K mg base ["_law_plan", "_law_depth", "_law_lines_here", "_law_signal_here", "_law_part"] "_law_lines" s_Llines (fi 17).addr cdv A outer s H E) (lk ca) (tab prog wf n) (fun cls d _ H => E cls d H) (defBody s_Llines) B_Llines :=
  (qs_cons (q_ite (pT_cm hL hr .eq (pB (pE_ix (pB (pE_var (i := 0) rfl (by first | exact Or.inl rfl | exact Or.inr (Or.inl rfl) | exact Or.inr (Or.inr rfl)))) (pB pE_int) (fun _ _ => rfl))) (pB pE_str) (nomark _))
      (qs_cons (q_ret (pE_lst (pA_cons (pE_mb .join PySem.F.slot_str_join PySem.F.type_str_join (pB pE_str) (pB (pE_op hL hr .add (pB (pE_op hL hr .mul (pB (pE_lst (pA_cons pE_str pA_nil))) (pB (pE_var (i := 1) rfl (by first | exact Or.inl rfl | exact Or.inr (Or.inl rfl) | exact Or.inr (Or.inr rfl)))))) (pB (pE_lst (pA_cons pE_str (pA_cons (pE_biT hL hr rfl .str rfl rfl Tx.n_str (by decide +kernel) (pB (pE_ix (pB (pE_var (i := 0) rfl (by first | exact Or.inl rfl | exact Or.inr (Or.inl rfl) | exact Or.inr (Or.inr rfl)))) (pB pE_int) (fun _ _ => rfl)))) pA_nil))))))) pA_nil))) qs_nil)
      qs_nil)
      (qs_cons (q_setO (ps_set (i := 2) sc_Llines.nd rfl (by first | exact Or.inl rfl | exact Or.inr rfl) (pF_lst (pA_cons (pE_mb .join PySem.F.slot_str_join PySem.F.type_str_join (pB pE_str) (pB (pE_op hL hr .add (pB (pE_op hL hr .mul (pB (pE_lst (pA_cons pE_str pA_nil))) (pB (pE_var (i := 1) rfl (by first | exact Or.inl rfl | exact Or.inr (Or.inl rfl) | exact Or.inr (Or.inr rfl)))))) (pB (pE_lst (pA_cons pE_str (pA_cons (pE_biT hL hr rfl .str rfl rfl Tx.n_str (by decide +kernel) (pB (pE_ix (pB (pE_var (i := 0) rfl (by first | exact Or.inl rfl | exact Or.inr (Or.inl rfl) | exact Or.inr (Or.inr rfl)))) (pB pE_int) (fun _ _ => rfl)))) pA_nil))))))) pA_nil))))
      (qs_cons (q_fo (passes_of rfl) rfl (pI_e (pE_ix (pB (pE_var (i := 0) rfl (by first | exact Or.inl rfl | exact Or.inr (Or.inl rfl) | exact Or.inr (Or.inr rfl)))) (pB pE_int) (fun _ _ => rfl))) (pg_tup rfl (pgs_cons (pg_name (i := 3) sc_Llines.nd rfl (by first | exact Or.inl rfl | exact Or.inr rfl)) (pgs_cons (pg_name (i := 4) sc_Llines.nd rfl (by first | exact Or.inl rfl | exact Or.inr rfl)) pgs_nil))) (tgS_many (tgsS_cons (tgsS_cons tgsS_nil)))
      (qs_cons (q_app (i := 2) rfl (by first | exact Or.inl rfl | exact Or.inr (Or.inl rfl) | exact Or.inr (Or.inr rfl)) (pE_mb .join PySem.F.slot_str_join PySem.F.type_str_join (pB pE_str) (pB (pE_op hL hr .add (pB (pE_op hL hr .add (pB (pE_op hL hr .mul (pB (pE_lst (pA_cons pE_str pA_nil))) (pB (pE_op hL hr .add (pB (pE_var (i := 1) rfl (by first | exact Or.inl rfl | exact Or.inr (Or.inl rfl) | exact Or.inr (Or.inr rfl)))) (pB pE_int))))) (pB (pE_lst (pA_cons pE_str pA_nil))))) (pB (pE_call (f := 16) hL hr (takes_of rfl rfl rfl rfl) rfl rfl rfl rfl Tx.m16 Tx.k16 Tx.b16 .nil (fun _ _ => .nil) (pA_cons (pE_var (i := 3) rfl (by first | exact Or.inl rfl | exact Or.inr (Or.inl rfl) | exact Or.inr (Or.inr rfl))) pA_nil)))))) (hp := fun h1 h2 => ps_expr (pe_bm PySem.F.plainAttrs_list PySem.F.slot_list_append PySem.F.type_list_append mt_append h1 h2)))
      (qs_cons (q_setO (ps_set (i := 2) sc_Llines.nd rfl (by first | exact Or.inl rfl | exact Or.inr rfl) (pF_cat (pB_var (i := 2) rfl (by first | exact Or.inl rfl | exact Or.inr (Or.inl rfl) | exact Or.inr (Or.inr rfl))) (pB (pE_call (f := 17) hL hr (takes_of rfl rfl rfl rfl) rfl rfl rfl rfl Tx.m17 Tx.k17 Tx.b17 .nil (fun _ _ => .nil) (pA_cons (pE_var (i := 4) rfl (by first | exact Or.inl rfl | exact Or.inr (Or.inl rfl) | exact Or.inr (Or.inr rfl))) (pA_cons (pE_op hL hr .add (pB (pE_var (i := 1) rfl (by first | exact Or.inl rfl | exact Or.inr (Or.inl rfl) | exact Or.inr (Or.inr rfl)))) (pB pE_int)) pA_nil))))))) qs_nil)))
      (qs_fz (i := 2) (qs_cons (q_ret (pE_var (i := 2) rfl (by first | exact Or.inl rfl | exact Or.inr (Or.inl rfl) | exact Or.inr (Or.inr rfl)))) qs_nil)))))
theorem sc_Ldigits : FnScope ["_law_word_here", "_law_char"] ["_law_word_here"] (defScope s_Ldigits) := ⟨rfl, rfl, rfl, by decide +kernel, rfl, by decide +kernel, by decide +kernel⟩
theorem b_Ldigits (hL : Lnk P w K mg base (lk ca) prog fi n) (Tx : Txt P K mg ca fi) {wf : Nat} {cdv : Value} {A : Around} {outer : List Env} {s : Shared} {H : Hp} {E : XK} (hr : Room (2 * n + 1) (A.deeper (envOfC "_law_digits" (defScope s_Ldigits) s.heap.objs.size (fi 18).addr cdv))) :
    QSs (cxF P w K mg base ["_law_word_here", "_law_char"] "_law_digits" s_Ldigits (fi 18).addr cdv A outer s H E) (lk ca) (tab prog wf n) (fun cls d _ H => E cls d H) (defBody s_Ldigits) B_Ldigits :=
  (qs_cons (q_ite (pT_no (pT_ch hL hr .lt .lt (pB pE_int) (pB (pE_biB hL hr rfl .len rfl rfl Tx.n_len (by decide +kernel) (pB (pE_var (i := 0) rfl (by first | exact Or.inl rfl | exact Or.inr (Or.inl rfl) | exact Or.inr (Or.inr rfl)))))) (pB pE_int) (by with_unfolding_all rfl)))
      (qs_cons (q_ret pE_non) qs_nil)
      qs_nil)
      (qs_cons (q_fo (passes_of rfl) rfl (pI_e (pE_var (i := 0) rfl (by first | exact Or.inl rfl | exact Or.inr (Or.inl rfl) | exact Or.inr (Or.inr rfl)))) (pg_name (i := 1) sc_Ldigits.nd rfl (by first | exact Or.inl rfl | exact Or.inr rfl)) tgS_one
      (qs_cons (q_ite (pT_no (pT_ch hL hr .le .le (pB pE_str) (pB (pE_var (i := 1) rfl (by first | exact Or.inl rfl | exact Or.inr (Or.inl rfl) | exact Or.inr (Or.inr rfl)))) (pB pE_str) (by with_unfolding_all rfl)))
      (qs_cons (q_ret pE_non) qs_nil)
      qs_nil) qs_nil))
      (qs_cons (q_ite (L2.PW.pt (pW_an (pT_cm hL hr .eq (pB (pE_ix (pB (pE_var (i := 0) rfl (by first | exact Or.inl rfl | exact Or.inr (Or.inl rfl) | exact Or.inr (Or.inr rfl)))) (pB pE_int) (fun _ _ => rfl))) (pB pE_str) (nomark _)) (pW_an1 (pT_cm hL hr .gt (pB (pE_biB hL hr rfl .len rfl rfl Tx.n_len (by decide +kernel) (pB (pE_var (i := 0) rfl (by first | exact Or.inl rfl | exact Or.inr (Or.inl rfl) | exact Or.inr (Or.inr rfl)))))) (pB pE_int) (nomark _)))))
      (qs_cons (q_ret pE_non) qs_nil)
      qs_nil)
      (qs_cons (q_ret (pE_biT hL hr rfl .int rfl rfl Tx.n_int (by decide +kernel) (pB (pE_var (i := 0) rfl (by first | exact Or.inl rfl | exact Or.inr (Or.inl rfl) | exact Or.inr (Or.inr rfl)))))) qs_nil))))
theorem sc_Lsignal_right : FnScope ["_law_words", "_law_depth", "_law_done", "_law_word_here"] ["_law_words"] (defScope s_Lsignal_right) := ⟨rfl, rfl, rfl, by decide +kernel, rfl, by decide +kernel, by decide +kernel⟩
theorem b_Lsignal_right (hL : Lnk P w K mg base (lk ca) prog fi n) (Tx : Txt P K mg ca fi) {wf : Nat} {cdv : Value} {A : Around} {outer : List Env} {s : Shared} {H : Hp} {E : XK} (hr : Room (2 * n + 1) (A.deeper (envOfC "_law_signal_right" (defScope s_Lsignal_right) s.heap.objs.size (fi 19).addr cdv))) :
    QSs (cxF P w K mg base ["_law_words", "_law_depth", "_law_done", "_law_word_here"] "_law_signal_right" s_Lsignal_right (fi 19).addr cdv A outer s H E) (lk ca) (tab prog wf n) (fun cls d _ H => E cls d H) (defBody s_Lsignal_right) B_Lsignal_right :=
  (qs_cons (q_set (ps_set (i := 1) sc_Lsignal_right.nd rfl (by first | exact Or.inl rfl | exact Or.inr rfl) pE_int))
      (qs_cons (q_set (ps_set (i := 2) sc_Lsignal_right.nd rfl (by first | exact Or.inl rfl | exact Or.inr rfl) pE_bl))
      (qs_cons (q_fo (passes_of rfl) rfl (pI_e (pE_var (i := 0) rfl (by first | exact Or.inl rfl | exact Or.inr (Or.inl rfl) | exact Or.inr (Or.inr rfl)))) (pg_name (i := 3) sc_Lsignal_right.nd rfl (by first | exact Or.inl rfl | exact Or.inr rfl)) tgS_one
      (qs_cons (q_ite (pT_tru (pB (pE_var (i := 2) rfl (by first | exact Or.inl rfl | exact Or.inr (Or.inl rfl) | exact Or.inr (Or.inr rfl)))) (fun _ => rfl))
      (qs_cons (q_ret pE_bl) qs_nil)
      qs_nil)
      (qs_cons (q_ite (pT_cm hL hr .eq (pB (pE_var (i := 3) rfl (by first | exact Or.inl rfl | exact Or.inr (Or.inl rfl) | exact Or.inr (Or.inr rfl)))) (pB pE_str) (nomark _))
      (qs_cons (q_set (ps_set (i := 1) sc_Lsignal_right.nd rfl (by first | exact Or.inl rfl | exact Or.inr rfl) (pE_op hL hr .add (pB (pE_var (i := 1) rfl (by first | exact Or.inl rfl | exact Or.inr (Or.inl rfl) | exact Or.inr (Or.inr rfl)))) (pB pE_int)))) qs_nil)
      (qs_cons (q_ite (pT_cm hL hr .eq (pB (pE_var (i := 3) rfl (by first | exact Or.inl rfl | exact Or.inr (Or.inl rfl) | exact Or.inr (Or.inr rfl)))) (pB pE_str) (nomark _))
      (qs_cons (q_set (ps_set (i := 1) sc_Lsignal_right.nd rfl (by first | exact Or.inl rfl | exact Or.inr rfl) (pE_op hL hr .sub (pB (pE_var (i := 1) rfl (by first | exact Or.inl rfl | exact Or.inr (Or.inl rfl) | exact Or.inr (Or.inr rfl)))) (pB pE_int))))
      (qs_cons (q_ite (pT_cm hL hr .lt (pB (pE_var (i := 1) rfl (by first | exact Or.inl rfl | exact Or.inr (Or.inl rfl) | exact Or.inr (Or.inr rfl)))) (pB pE_int) (nomark _))
      (qs_cons (q_ret pE_bl) qs_nil)
      qs_nil) qs_nil))
      (qs_cons (q_ite (pT_cm hL hr .is (pB (pE_call (f := 18) hL hr (takes_of rfl rfl rfl rfl) rfl rfl rfl rfl Tx.m18 Tx.k18 Tx.b18 .nil (fun _ _ => .nil) (pA_cons (pE_var (i := 3) rfl (by first | exact Or.inl rfl | exact Or.inr (Or.inl rfl) | exact Or.inr (Or.inr rfl))) pA_nil))) (pB pE_non) (nomark _))
      (qs_cons (q_ret pE_bl) qs_nil)
      qs_nil) qs_nil)) qs_nil))
      (qs_cons (q_set (ps_set (i := 2) sc_Lsignal_right.nd rfl (by first | exact Or.inl rfl | exact Or.inr rfl) (pE_cm hL hr .eq (pB (pE_var (i := 1) rfl (by first | exact Or.inl rfl | exact Or.inr (Or.inl rfl) | exact Or.inr (Or.inr rfl)))) (pB pE_int) (nomark _)))) qs_nil))))
      (qs_cons (q_ret (pE_var (i := 2) rfl (by first | exact Or.inl rfl | exact Or.inr (Or.inl rfl) | exact Or.inr (Or.inr rfl)))) qs_nil))))
theorem sc_Lbad : FnScope ["_law_lines_here", "_law_stack", "_law_at", "_law_words", "_law_found", "_law_turn", "_law_top", "_law_own", "_law_dots", "_law_part"] ["_law_lines_here"] (defScope s_Lbad) := ⟨rfl, rfl, rfl, by decide +kernel, rfl, by decide +kernel, by decide +kernel⟩
theorem b_Lbad (hL : Lnk P w K mg base (lk ca) prog fi n) (Tx : Txt P K mg ca fi) {wf : Nat} {cdv : Value} {A : Around} {outer : List Env} {s : Shared} {H : Hp} {E : XK} (hr : Room (2 * n + 1) (A.deeper (envOfC "_law_bad" (defScope s_Lbad) s.heap.objs.size (fi 20).addr cdv))) :
    QSs (cxF P w K mg base ["_law_lines_here", "_law_stack", "_law_at", "_law_words", "_law_found", "_law_turn", "_law_top", "_law_own", "_law_dots", "_law_part"] "_law_bad" s_Lbad (fi 20).addr cdv A outer s H E) (lk ca) (tab prog wf n) (fun cls d _ H => E cls d H) (defBody s_Lbad) B_Lbad :=
  (qs_cons (q_setO (ps_set (i := 1) sc_Lbad.nd rfl (by first | exact Or.inl rfl | exact Or.inr rfl) (pF_lst (pA_cons (pE_tup (pA_cons pE_str (pA_cons pE_int pA_nil))) pA_nil))))
      (qs_cons (q_fo (passes_of rfl) rfl (pI_rng1 rfl Tx.n_range (pB (pE_biB hL hr rfl .len rfl rfl Tx.n_len (by decide +kernel) (pB (pE_var (i := 0) rfl (by first | exact Or.inl rfl | exact Or.inr (Or.inl rfl) | exact Or.inr (Or.inr rfl))))))) (pg_name (i := 2) sc_Lbad.nd rfl (by first | exact Or.inl rfl | exact Or.inr rfl)) tgS_one
      (qs_cons (q_set (ps_set (i := 3) sc_Lbad.nd rfl (by first | exact Or.inl rfl | exact Or.inr rfl) (pE_mb .split PySem.F.slot_str_split PySem.F.type_str_split (pB (pE_ix (pB (pE_var (i := 0) rfl (by first | exact Or.inl rfl | exact Or.inr (Or.inl rfl) | exact Or.inr (Or.inr rfl)))) (pB (pE_var (i := 2) rfl (by first | exact Or.inl rfl | exact Or.inr (Or.inl rfl) | exact Or.inr (Or.inr rfl)))) (fun _ _ => rfl))) (pB pE_str))))
      (qs_cons (q_set (ps_set (i := 4) sc_Lbad.nd rfl (by first | exact Or.inl rfl | exact Or.inr rfl) pE_bl))
      (qs_cons (q_fo (passes_of rfl) rfl (pI_rng1 rfl Tx.n_range (pB pE_int)) (pg_name (i := 5) sc_Lbad.nd rfl (by first | exact Or.inl rfl | exact Or.inr rfl)) tgS_one
      (qs_cons (q_ite (L2.PW.pt (pW_or (pT_tru (pB (pE_var (i := 4) rfl (by first | exact Or.inl rfl | exact Or.inr (Or.inl rfl) | exact Or.inr (Or.inr rfl)))) (fun _ => rfl)) (pW_or1 (pT_cm hL hr .eq (pB (pE_biB hL hr rfl .len rfl rfl Tx.n_len (by decide +kernel) (pB_var (i := 1) rfl (by first | exact Or.inl rfl | exact Or.inr (Or.inl rfl) | exact Or.inr (Or.inr rfl))))) (pB pE_int) (nomark _)))))
      (qs_cons q_brk qs_nil)
      qs_nil)
      (qs_cons (q_pop (i := 1) (j := 6) rfl (by first | exact Or.inl rfl | exact Or.inr (Or.inl rfl) | exact Or.inr (Or.inr rfl)) (by decide) (fun h => ps_set (i := 6) sc_Lbad.nd rfl (by first | exact Or.inl rfl | exact Or.inr rfl) (pe_bm0 PySem.F.plainAttrs_list PySem.F.slot_list_pop PySem.F.type_list_pop mt_pop h)))
      (qs_cons (q_set (ps_set (i := 7) sc_Lbad.nd rfl (by first | exact Or.inl rfl | exact Or.inr rfl) (pE_sl (pB (pE_var (i := 3) rfl (by first | exact Or.inl rfl | exact Or.inr (Or.inl rfl) | exact Or.inr (Or.inr rfl)))) (pO_some (pB (pE_ix (pB (pE_var (i := 6) rfl (by first | exact Or.inl rfl | exact Or.inr (Or.inl rfl) | exact Or.inr (Or.inr rfl)))) (pB pE_int) (fun _ _ => rfl)))) pO_none)))
      (qs_cons (q_set (ps_set (i := 8) sc_Lbad.nd rfl (by first | exact Or.inl rfl | exact Or.inr rfl) (pE_cm hL hr .eq (pB (pE_sl (pB (pE_var (i := 3) rfl (by first | exact Or.inl rfl | exact Or.inr (Or.inl rfl) | exact Or.inr (Or.inr rfl)))) pO_none (pO_some (pB (pE_ix (pB (pE_var (i := 6) rfl (by first | exact Or.inl rfl | exact Or.inr (Or.inl rfl) | exact Or.inr (Or.inr rfl)))) (pB pE_int) (fun _ _ => rfl)))))) (pB (pE_op hL hr .mul (pB (pE_lst (pA_cons pE_str pA_nil))) (pB (pE_ix (pB (pE_var (i := 6) rfl (by first | exact Or.inl rfl | exact Or.inr (Or.inl rfl) | exact Or.inr (Or.inr rfl)))) (pB pE_int) (fun _ _ => rfl))))) (nomark _))))
      (qs_cons (q_ite (pT_cm hL hr .eq (pB (pE_ix (pB (pE_var (i := 6) rfl (by first | exact Or.inl rfl | exact Or.inr (Or.inl rfl) | exact Or.inr (Or.inr rfl)))) (pB pE_int) (fun _ _ => rfl))) (pB pE_str) (nomark _))
      (qs_cons (q_ite (L2.PW.pt (pW_or (pT_no (pT_tru (pB (pE_var (i := 8) rfl (by first | exact Or.inl rfl | exact Or.inr (Or.inl rfl) | exact Or.inr (Or.inr rfl)))) (fun _ => rfl))) (pW_or (pT_cm hL hr .ne (pB (pE_biB hL hr rfl .len rfl rfl Tx.n_len (by decide +kernel) (pB (pE_var (i := 7) rfl (by first | exact Or.inl rfl | exact Or.inr (Or.inl rfl) | exact Or.inr (Or.inr rfl)))))) (pB pE_int) (nomark _)) (pW_or (pT_cm hL hr .nin (pB (pE_ix (pB (pE_var (i := 7) rfl (by first | exact Or.inl rfl | exact Or.inr (Or.inl rfl) | exact Or.inr (Or.inr rfl)))) (pB pE_int) (fun _ _ => rfl))) (pB (pE_tup (pA_cons pE_str (pA_cons pE_str pA_nil)))) (by with_unfolding_all rfl)) (pW_or1 (pT_cm hL hr .is (pB (pE_call (f := 18) hL hr (takes_of rfl rfl rfl rfl) rfl rfl rfl rfl Tx.m18 Tx.k18 Tx.b18 .nil (fun _ _ => .nil) (pA_cons (pE_ix (pB (pE_var (i := 7) rfl (by first | exact Or.inl rfl | exact Or.inr (Or.inl rfl) | exact Or.inr (Or.inr rfl)))) (pB pE_int) (fun _ _ => rfl)) pA_nil))) (pB pE_non) (nomark _)))))))
      (qs_cons (q_ret (pE_var (i := 2) rfl (by first | exact Or.inl rfl | exact Or.inr (Or.inl rfl) | exact Or.inr (Or.inr rfl)))) qs_nil)
      qs_nil)
      (qs_cons (q_ite (pT_cm hL hr .eq (pB (pE_ix (pB (pE_var (i := 7) rfl (by first | exact Or.inl rfl | exact Or.inr (Or.inl rfl) | exact Or.inr (Or.inr rfl)))) (pB pE_int) (fun _ _ => rfl))) (pB pE_str) (nomark _))
      (qs_cons (q_app (i := 1) rfl (by first | exact Or.inl rfl | exact Or.inr (Or.inl rfl) | exact Or.inr (Or.inr rfl)) (pE_tup (pA_cons pE_str (pA_cons (pE_op hL hr .add (pB (pE_ix (pB (pE_var (i := 6) rfl (by first | exact Or.inl rfl | exact Or.inr (Or.inl rfl) | exact Or.inr (Or.inr rfl)))) (pB pE_int) (fun _ _ => rfl))) (pB pE_int)) (pA_cons (pE_lst pA_nil) pA_nil)))) (hp := fun h1 h2 => ps_expr (pe_bm PySem.F.plainAttrs_list PySem.F.slot_list_append PySem.F.type_list_append mt_append h1 h2))) qs_nil)
      qs_nil)
      (qs_cons (q_set (ps_set (i := 4) sc_Lbad.nd rfl (by first | exact Or.inl rfl | exact Or.inr rfl) pE_bl)) qs_nil)))
      (qs_cons (q_ite (L2.PW.pt (pW_an (pT_tru (pB (pE_var (i := 8) rfl (by first | exact Or.inl rfl | exact Or.inr (Or.inl rfl) | exact Or.inr (Or.inr rfl)))) (fun _ => rfl)) (pW_an1 (pT_cm hL hr .eq (pB (pE_sl (pB (pE_var (i := 7) rfl (by first | exact Or.inl rfl | exact Or.inr (Or.inl rfl) | exact Or.inr (Or.inr rfl)))) pO_none (pO_some (pB pE_int)))) (pB (pE_lst (pA_cons pE_str pA_nil))) (nomark _)))))
      (qs_cons (q_ite (L2.PW.pt (pW_or (pT_no (pT_tru (pB (pE_call (f := 19) hL hr (takes_of rfl rfl rfl rfl) rfl rfl rfl rfl Tx.m19 Tx.k19 Tx.b19 .nil (fun _ _ => .nil) (pA_cons (pE_sl (pB (pE_var (i := 7) rfl (by first | exact Or.inl rfl | exact Or.inr (Or.inl rfl) | exact Or.inr (Or.inr rfl)))) (pO_some (pB pE_int)) pO_none) pA_nil))) (fun _ => rfl))) (pW_or1 (pT_cm hL hr .inn (pB (pE_sl (pB (pE_var (i := 7) rfl (by first | exact Or.inl rfl | exact Or.inr (Or.inl rfl) | exact Or.inr (Or.inr rfl)))) (pO_some (pB pE_int)) pO_none)) (pB (pE_ix (pB (pE_var (i := 6) rfl (by first | exact Or.inl rfl | exact Or.inr (Or.inl rfl) | exact Or.inr (Or.inr rfl)))) (pB pE_int) (fun _ _ => rfl))) (by with_unfolding_all rfl)))))
      (qs_cons (q_ret (pE_var (i := 2) rfl (by first | exact Or.inl rfl | exact Or.inr (Or.inl rfl) | exact Or.inr (Or.inr rfl)))) qs_nil)
      qs_nil)
      (qs_cons (q_app (i := 1) rfl (by first | exact Or.inl rfl | exact Or.inr (Or.inl rfl) | exact Or.inr (Or.inr rfl)) (pE_tup (pA_cons pE_str (pA_cons (pE_ix (pB (pE_var (i := 6) rfl (by first | exact Or.inl rfl | exact Or.inr (Or.inl rfl) | exact Or.inr (Or.inr rfl)))) (pB pE_int) (fun _ _ => rfl)) (pA_cons (pE_op hL hr .add (pB (pE_ix (pB (pE_var (i := 6) rfl (by first | exact Or.inl rfl | exact Or.inr (Or.inl rfl) | exact Or.inr (Or.inr rfl)))) (pB pE_int) (fun _ _ => rfl))) (pB (pE_lst (pA_cons (pE_sl (pB (pE_var (i := 7) rfl (by first | exact Or.inl rfl | exact Or.inr (Or.inl rfl) | exact Or.inr (Or.inr rfl)))) (pO_some (pB pE_int)) pO_none) pA_nil)))) pA_nil)))) (hp := fun h1 h2 => ps_expr (pe_bm PySem.F.plainAttrs_list PySem.F.slot_list_append PySem.F.type_list_append mt_append h1 h2)))
      (qs_cons (q_app (i := 1) rfl (by first | exact Or.inl rfl | exact Or.inr (Or.inl rfl) | exact Or.inr (Or.inr rfl)) (pE_tup (pA_cons pE_str (pA_cons (pE_op hL hr .add (pB (pE_ix (pB (pE_var (i := 6) rfl (by first | exact Or.inl rfl | exact Or.inr (Or.inl rfl) | exact Or.inr (Or.inr rfl)))) (pB pE_int) (fun _ _ => rfl))) (pB pE_int)) pA_nil))) (hp := fun h1 h2 => ps_expr (pe_bm PySem.F.plainAttrs_list PySem.F.slot_list_append PySem.F.type_list_append mt_append h1 h2)))
      (qs_cons (q_set (ps_set (i := 4) sc_Lbad.nd rfl (by first | exact Or.inl rfl | exact Or.inr rfl) pE_bl)) qs_nil))))
      qs_nil) qs_nil)) qs_nil))))))
      (qs_cons (q_ite (pT_no (pT_tru (pB (pE_var (i := 4) rfl (by first | exact Or.inl rfl | exact Or.inr (Or.inl rfl) | exact Or.inr (Or.inr rfl)))) (fun _ => rfl)))
      (qs_cons (q_ret (pE_var (i := 2) rfl (by first | exact Or.inl rfl | exact Or.inr (Or.inl rfl) | exact Or.inr (Or.inr rfl)))) qs_nil)
      qs_nil) qs_nil)))))
      (qs_cons (q_ite (pT_cm hL hr .gt (pB (pE_biB hL hr rfl .len rfl rfl Tx.n_len (by decide +kernel) (pB (pE_comp (t := (.one 9)) (own := [("_law_part", 9)]) rfl sc_Lbad.nd (pI_b (pB_var (i := 1) rfl (by first | exact Or.inl rfl | exact Or.inr (Or.inl rfl) | exact Or.inr (Or.inr rfl)))) (blkOk_by (N := ["_law_lines_here", "_law_stack", "_law_at", "_law_words", "_law_found", "_law_turn", "_law_top", "_law_own", "_law_dots", "_law_part"]) (sc := defScope s_Lbad) (own := [("_law_part", 9)]) (by decide +kernel)) rfl tg_one (fun _ _ _ h => h) (fun _ _ _ _ _ => (pg_name (i := 9) sc_Lbad.nd rfl (by first | exact Or.inl rfl | exact Or.inr rfl))) (fun _ _ _ _ _ => pts_one (pT_cm hL hr .eq (pB (pE_ix (pB (pE_var (i := 9) rfl (by first | exact Or.inl rfl | exact Or.inr (Or.inl rfl) | exact Or.inr (Or.inr rfl)))) (pB pE_int) (fun _ _ => rfl))) (pB pE_str) (nomark _))) (fun _ _ _ _ _ => (pE_var (i := 9) rfl (by first | exact Or.inl rfl | exact Or.inr (Or.inl rfl) | exact Or.inr (Or.inr rfl)))))))) (pB pE_int) (nomark _))
      (qs_cons (q_ret (pE_biB hL hr rfl .len rfl rfl Tx.n_len (by decide +kernel) (pB (pE_var (i := 0) rfl (by first | exact Or.inl rfl | exact Or.inr (Or.inl rfl) | exact Or.inr (Or.inr rfl)))))) qs_nil)
      qs_nil)
      (qs_cons (q_ret pE_non) qs_nil))))
theorem sc_Lword : FnScope ["_law_pool_here", "_law_words", "_law_menu"] ["_law_pool_here", "_law_words"] (defScope s_Lword) := ⟨rfl, rfl, rfl, by decide +kernel, rfl, by decide +kernel, by decide +kernel⟩
theorem b_Lword (hL : Lnk P w K mg base (lk ca) prog fi n) (Tx : Txt P K mg ca fi) {wf : Nat} {cdv : Value} {A : Around} {outer : List Env} {s : Shared} {H : Hp} {E : XK} (hr : Room (2 * n + 1) (A.deeper (envOfC "_law_word" (defScope s_Lword) s.heap.objs.size (fi 21).addr cdv))) :
    QSs (cxF P w K mg base ["_law_pool_here", "_law_words", "_law_menu"] "_law_word" s_Lword (fi 21).addr cdv A outer s H E) (lk ca) (tab prog wf n) (fun cls d _ H => E cls d H) (defBody s_Lword) B_Lword :=
  (qs_cons (q_set (ps_set (i := 2) sc_Lword.nd rfl (by first | exact Or.inl rfl | exact Or.inr rfl) (pE_lst (pA_cons pE_str (pA_cons pE_str (pA_cons pE_str (pA_cons pE_str (pA_cons pE_str (pA_cons pE_str (pA_cons pE_str (pA_cons pE_str (pA_cons pE_str (pA_cons pE_str (pA_cons pE_str (pA_cons pE_str (pA_cons pE_str (pA_cons pE_str (pA_cons pE_str (pA_cons pE_str (pA_cons (pE_op hL hr .mul (pB pE_str) (pB pE_int)) (pA_cons (pE_op hL hr .mul (pB pE_str) (pB pE_int)) (pA_cons pE_str pA_nil))))))))))))))))))))))
      (qs_cons (q_set (ps_set (i := 2) sc_Lword.nd rfl (by first | exact Or.inl rfl | exact Or.inr rfl) (pE_op hL hr .add (pB (pE_op hL hr .add (pB (pE_var (i := 2) rfl (by first | exact Or.inl rfl | exact Or.inr (Or.inl rfl) | exact Or.inr (Or.inr rfl)))) (pB (pE_lst (pA_cons pE_str (pA_cons pE_str (pA_cons pE_str (pA_cons pE_str (pA_cons pE_str (pA_cons pE_str (pA_cons pE_str (pA_cons pE_str (pA_cons pE_str (pA_cons pE_str pA_nil)))))))))))))) (pB (pE_var (i := 1) rfl (by first | exact Or.inl rfl | exact Or.inr (Or.inl rfl) | exact Or.inr (Or.inr rfl)))))))
      (qs_cons (q_set (ps_set (i := 2) sc_Lword.nd rfl (by first | exact Or.inl rfl | exact Or.inr rfl) (pE_op hL hr .add (pB (pE_var (i := 2) rfl (by first | exact Or.inl rfl | exact Or.inr (Or.inl rfl) | exact Or.inr (Or.inr rfl)))) (pB (pE_lst (pA_cons pE_str (pA_cons pE_str (pA_cons (pE_op hL hr .mul (pB pE_str) (pB pE_int)) (pA_cons (pE_op hL hr .mul (pB pE_str) (pB pE_int)) pA_nil)))))))))
      (qs_cons (q_ret (pE_ix (pB (pE_var (i := 2) rfl (by first | exact Or.inl rfl | exact Or.inr (Or.inl rfl) | exact Or.inr (Or.inr rfl)))) (pB (pE_call (f := 10) hL hr (takes_of rfl rfl rfl rfl) rfl rfl rfl rfl Tx.m10 Tx.k10 Tx.b10 .nil (fun _ _ => .nil) (pA_cons (pE_var (i := 0) rfl (by first | exact Or.inl rfl | exact Or.inr (Or.inl rfl) | exact Or.inr (Or.inr rfl))) (pA_cons (pE_biB hL hr rfl .len rfl rfl Tx.n_len (by decide +kernel) (pB (pE_var (i := 2) rfl (by first | exact Or.inl rfl | exact Or.inr (Or.inl rfl) | exact Or.inr (Or.inr rfl))))) pA_nil)))) (fun _ _ => rfl))) qs_nil))))
theorem sc_Lspoilt : FnScope ["_law_pool_here", "_law_word_here", "_law_signs", "_law_at"] ["_law_pool_here", "_law_word_here"] (defScope s_Lspoilt) := ⟨rfl, rfl, rfl, by decide +kernel, rfl, by decide +kernel, by decide +kernel⟩
theorem b_Lspoilt (hL : Lnk P w K mg base (lk ca) prog fi n) (Tx : Txt P K mg ca fi) {wf : Nat} {cdv : Value} {A : Around} {outer : List Env} {s : Shared} {H : Hp} {E : XK} (hr : Room (2 * n + 1) (A.deeper (envOfC "_law_spoilt" (defScope s_Lspoilt) s.heap.objs.size (fi 22).addr cdv))) :
    QSs (cxF P w K mg base ["_law_pool_here", "_law_word_here", "_law_signs", "_law_at"] "_law_spoilt" s_Lspoilt (fi 22).addr cdv A outer s H E) (lk ca) (tab prog wf n) (fun cls d _ H => E cls d H) (defBody s_Lspoilt) B_Lspoilt :=
  (qs_cons (q_set (ps_set (i := 2) sc_Lspoilt.nd rfl (by first | exact Or.inl rfl | exact Or.inr rfl) pE_str))
      (qs_cons (q_set (ps_set (i := 3) sc_Lspoilt.nd rfl (by first | exact Or.inl rfl | exact Or.inr rfl) (pE_call (f := 10) hL hr (takes_of rfl rfl rfl rfl) rfl rfl rfl rfl Tx.m10 Tx.k10 Tx.b10 .nil (fun _ _ => .nil) (pA_cons (pE_var (i := 0) rfl (by first | exact Or.inl rfl | exact Or.inr (Or.inl rfl) | exact Or.inr (Or.inr rfl))) (pA_cons (pE_op hL hr .add (pB (pE_biB hL hr rfl .len rfl rfl Tx.n_len (by decide +kernel) (pB (pE_var (i := 1) rfl (by first | exact Or.inl rfl | exact Or.inr (Or.inl rfl) | exact Or.inr (Or.inr rfl)))))) (pB pE_int)) pA_nil)))))
      (qs_cons (q_ret (pE_op hL hr .add (pB (pE_op hL hr .add (pB (pE_sl (pB (pE_var (i := 1) rfl (by first | exact Or.inl rfl | exact Or.inr (Or.inl rfl) | exact Or.inr (Or.inr rfl)))) pO_none (pO_some (pB (pE_var (i := 3) rfl (by first | exact Or.inl rfl | exact Or.inr (Or.inl rfl) | exact Or.inr (Or.inr rfl))))))) (pB (pE_ix (pB (pE_var (i := 2) rfl (by first | exact Or.inl rfl | exact Or.inr (Or.inl rfl) | exact Or.inr (Or.inr rfl)))) (pB (pE_call (f := 10) hL hr (takes_of rfl rfl rfl rfl) rfl rfl rfl rfl Tx.m10 Tx.k10 Tx.b10 .nil (fun _ _ => .nil) (pA_cons (pE_var (i := 0) rfl (by first | exact Or.inl rfl | exact Or.inr (Or.inl rfl) | exact Or.inr (Or.inr rfl))) (pA_cons (pE_biB hL hr rfl .len rfl rfl Tx.n_len (by decide +kernel) (pB (pE_var (i := 2) rfl (by first | exact Or.inl rfl | exact Or.inr (Or.inl rfl) | exact Or.inr (Or.inr rfl))))) pA_nil)))) (fun _ _ => rfl))))) (pB (pE_sl (pB (pE_var (i := 1) rfl (by first | exact Or.inl rfl | exact Or.inr (Or.inl rfl) | exact Or.inr (Or.inr rfl)))) (pO_some (pB (pE_op hL hr .add (pB (pE_var (i := 3) rfl (by first | exact Or.inl rfl | exact Or.inr (Or.inl rfl) | exact Or.inr (Or.inr rfl)))) (pB (pE_call (f := 10) hL hr (takes_of rfl rfl rfl rfl) rfl rfl rfl rfl Tx.m10 Tx.k10 Tx.b10 .nil (fun _ _ => .nil) (pA_cons (pE_var (i := 0) rfl (by first | exact Or.inl rfl | exact Or.inr (Or.inl rfl) | exact Or.inr (Or.inr rfl))) (pA_cons pE_int pA_nil))))))) pO_none)))) qs_nil)))
theorem sc_Lchanged : FnScope ["_law_pool_here", "_law_lines_here", "_law_k", "_law_place", "_law_other", "_law_words", "_law_at", "_law_way"] ["_law_pool_here", "_law_lines_here"] (defScope s_Lchanged) := ⟨rfl, rfl, rfl, by decide +kernel, rfl, by decide +kernel, by decide +kernel⟩
theorem b_Lchanged (hL : Lnk P w K mg base (lk ca) prog fi n) (Tx : Txt P K mg ca fi) {wf : Nat} {cdv : Value} {A : Around} {outer : List Env} {s : Shared} {H : Hp} {E : XK} (hr : Room (2 * n + 1) (A.deeper (envOfC "_law_changed" (defScope s_Lchanged) s.heap.objs.size (fi 23).addr cdv))) :
    QSs (cxF P w K mg base ["_law_pool_here", "_law_lines_here", "_law_k", "_law_place", "_law_other", "_law_words", "_law_at", "_law_way"] "_law_changed" s_Lchanged (fi 23).addr cdv A outer s H E) (lk ca) (tab prog wf n) (fun cls d _ H => E cls d H) (defBody s_Lchanged) B_Lchanged :=
  (qs_cons (q_fo (passes_of rfl) rfl (pI_rng1 rfl Tx.n_range (pB (pE_call (f := 10) hL hr (takes_of rfl rfl rfl rfl) rfl rfl rfl rfl Tx.m10 Tx.k10 Tx.b10 .nil (fun _ _ => .nil) (pA_cons (pE_var (i := 0) rfl (by first | exact Or.inl rfl | exact Or.inr (Or.inl rfl) | exact Or.inr (Or.inr rfl))) (pA_cons pE_int pA_nil))))) (pg_name (i := 2) sc_Lchanged.nd rfl (by first | exact Or.inl rfl | exact Or.inr rfl)) tgS_one
      (qs_cons (q_set (ps_set (i := 3) sc_Lchanged.nd rfl (by first | exact Or.inl rfl | exact Or.inr rfl) (pE_call (f := 10) hL hr (takes_of rfl rfl rfl rfl) rfl rfl rfl rfl Tx.m10 Tx.k10 Tx.b10 .nil (fun _ _ => .nil) (pA_cons (pE_var (i := 0) rfl (by first | exact Or.inl rfl | exact Or.inr (Or.inl rfl) | exact Or.inr (Or.inr rfl))) (pA_cons (pE_op hL hr .add (pB (pE_biB hL hr rfl .len rfl rfl Tx.n_len (by decide +kernel) (pB (pE_var (i := 1) rfl (by first | exact Or.inl rfl | exact Or.inr (Or.inl rfl) | exact Or.inr (Or.inr rfl)))))) (pB pE_int)) pA_nil)))))
      (qs_cons (q_set (ps_set (i := 4) sc_Lchanged.nd rfl (by first | exact Or.inl rfl | exact Or.inr rfl) (pE_call (f := 10) hL hr (takes_of rfl rfl rfl rfl) rfl rfl rfl rfl Tx.m10 Tx.k10 Tx.b10 .nil (fun _ _ => .nil) (pA_cons (pE_var (i := 0) rfl (by first | exact Or.inl rfl | exact Or.inr (Or.inl rfl) | exact Or.inr (Or.inr rfl))) (pA_cons (pE_op hL hr .add (pB (pE_biB hL hr rfl .len rfl rfl Tx.n_len (by decide +kernel) (pB (pE_var (i := 1) rfl (by first | exact Or.inl rfl | exact Or.inr (Or.inl rfl) | exact Or.inr (Or.inr rfl)))))) (pB pE_int)) pA_nil)))))
      (qs_cons (q_set (ps_set (i := 5) sc_Lchanged.nd rfl (by first | exact Or.inl rfl | exact Or.inr rfl) (pE_mb .split PySem.F.slot_str_split PySem.F.type_str_split (pB (pE_mb .join PySem.F.slot_str_join PySem.F.type_str_join (pB pE_str) (pB (pE_sl (pB (pE_var (i := 1) rfl (by first | exact Or.inl rfl | exact Or.inr (Or.inl rfl) | exact Or.inr (Or.inr rfl)))) (pO_some (pB (pE_var (i := 3) rfl (by first | exact Or.inl rfl | exact Or.inr (Or.inl rfl) | exact Or.inr (Or.inr rfl))))) (pO_some (pB (pE_op hL hr .add (pB (pE_var (i := 3) rfl (by first | exact Or.inl rfl | exact Or.inr (Or.inl rfl) | exact Or.inr (Or.inr rfl)))) (pB pE_int)))))))) (pB pE_str))))
      (qs_cons (q_set (ps_set (i := 6) sc_Lchanged.nd rfl (by first | exact Or.inl rfl | exact Or.inr rfl) (pE_call (f := 10) hL hr (takes_of rfl rfl rfl rfl) rfl rfl rfl rfl Tx.m10 Tx.k10 Tx.b10 .nil (fun _ _ => .nil) (pA_cons (pE_var (i := 0) rfl (by first | exact Or.inl rfl | exact Or.inr (Or.inl rfl) | exact Or.inr (Or.inr rfl))) (pA_cons (pE_biB hL hr rfl .len rfl rfl Tx.n_len (by decide +kernel) (pB (pE_var (i := 5) rfl (by first | exact Or.inl rfl | exact Or.inr (Or.inl rfl) | exact Or.inr (Or.inr rfl))))) pA_nil)))))
      (qs_cons (q_set (ps_set (i := 7) sc_Lchanged.nd rfl (by first | exact Or.inl rfl | exact Or.inr rfl) (pE_call (f := 10) hL hr (takes_of rfl rfl rfl rfl) rfl rfl rfl rfl Tx.m10 Tx.k10 Tx.b10 .nil (fun _ _ => .nil) (pA_cons (pE_var (i := 0) rfl (by first | exact Or.inl rfl | exact Or.inr (Or.inl rfl) | exact Or.inr (Or.inr rfl))) (pA_cons pE_int pA_nil)))))
      (qs_cons (q_ite (pT_cm hL hr .eq (pB (pE_var (i := 7) rfl (by first | exact Or.inl rfl | exact Or.inr (Or.inl rfl) | exact Or.inr (Or.inr rfl)))) (pB pE_int) (nomark _))
      (qs_cons (q_set (ps_set (i := 1) sc_Lchanged.nd rfl (by first | exact Or.inl rfl | exact Or.inr rfl) (pE_op hL hr .add (pB (pE_sl (pB (pE_var (i := 1) rfl (by first | exact Or.inl rfl | exact Or.inr (Or.inl rfl) | exact Or.inr (Or.inr rfl)))) pO_none (pO_some (pB (pE_var (i := 3) rfl (by first | exact Or.inl rfl | exact Or.inr (Or.inl rfl) | exact Or.inr (Or.inr rfl))))))) (pB (pE_sl (pB (pE_var (i := 1) rfl (by first | exact Or.inl rfl | exact Or.inr (Or.inl rfl) | exact Or.inr (Or.inr rfl)))) (pO_some (pB (pE_op hL hr .add (pB (pE_var (i := 3) rfl (by first | exact Or.inl rfl | exact Or.inr (Or.inl rfl) | exact Or.inr (Or.inr rfl)))) (pB pE_int)))) pO_none))))) qs_nil)
      (qs_cons (q_ite (pT_cm hL hr .eq (pB (pE_var (i := 7) rfl (by first | exact Or.inl rfl | exact Or.inr (Or.inl rfl) | exact Or.inr (Or.inr rfl)))) (pB pE_int) (nomark _))
      (qs_cons (q_set (ps_set (i := 1) sc_Lchanged.nd rfl (by first | exact Or.inl rfl | exact Or.inr rfl) (pE_op hL hr .add (pB (pE_op hL hr .add (pB (pE_sl (pB (pE_var (i := 1) rfl (by first | exact Or.inl rfl | exact Or.inr (Or.inl rfl) | exact Or.inr (Or.inr rfl)))) pO_none (pO_some (pB (pE_var (i := 3) rfl (by first | exact Or.inl rfl | exact Or.inr (Or.inl rfl) | exact Or.inr (Or.inr rfl))))))) (pB (pE_sl (pB (pE_var (i := 1) rfl (by first | exact Or.inl rfl | exact Or.inr (Or.inl rfl) | exact Or.inr (Or.inr rfl)))) (pO_some (pB (pE_var (i := 4) rfl (by first | exact Or.inl rfl | exact Or.inr (Or.inl rfl) | exact Or.inr (Or.inr rfl))))) (pO_some (pB (pE_op hL hr .add (pB (pE_var (i := 4) rfl (by first | exact Or.inl rfl | exact Or.inr (Or.inl rfl) | exact Or.inr (Or.inr rfl)))) (pB pE_int)))))))) (pB (pE_sl (pB (pE_var (i := 1) rfl (by first | exact Or.inl rfl | exact Or.inr (Or.inl rfl) | exact Or.inr (Or.inr rfl)))) (pO_some (pB (pE_var (i := 3) rfl (by first | exact Or.inl rfl | exact Or.inr (Or.inl rfl) | exact Or.inr (Or.inr rfl))))) pO_none))))) qs_nil)
      (qs_cons (q_ite (pT_cm hL hr .eq (pB (pE_var (i := 7) rfl (by first | exact Or.inl rfl | exact Or.inr (Or.inl rfl) | exact Or.inr (Or.inr rfl)))) (pB pE_int) (nomark _))
      (qs_cons (q_set (ps_set (i := 1) sc_Lchanged.nd rfl (by first | exact Or.inl rfl | exact Or.inr rfl) (pE_op hL hr .add (pB (pE_op hL hr .add (pB (pE_sl (pB (pE_var (i := 1) rfl (by first | exact Or.inl rfl | exact Or.inr (Or.inl rfl) | exact Or.inr (Or.inr rfl)))) pO_none (pO_some (pB (pE_var (i := 3) rfl (by first | exact Or.inl rfl | exact Or.inr (Or.inl rfl) | exact Or.inr (Or.inr rfl))))))) (pB (pE_lst (pA_cons pE_str pA_nil))))) (pB (pE_sl (pB (pE_var (i := 1) rfl (by first | exact Or.inl rfl | exact Or.inr (Or.inl rfl) | exact Or.inr (Or.inr rfl)))) (pO_some (pB (pE_var (i := 3) rfl (by first | exact Or.inl rfl | exact Or.inr (Or.inl rfl) | exact Or.inr (Or.inr rfl))))) pO_none))))) qs_nil)
      (qs_cons (q_ite (pT_cm hL hr .eq (pB (pE_var (i := 7) rfl (by first | exact Or.inl rfl | exact Or.inr (Or.inl rfl) | exact Or.inr (Or.inr rfl)))) (pB pE_int) (nomark _))
      (qs_cons (q_set (ps_set (i := 1) sc_Lchanged.nd rfl (by first | exact Or.inl rfl | exact Or.inr rfl) (pE_op hL hr .add (pB (pE_op hL hr .add (pB (pE_op hL hr .add (pB (pE_sl (pB (pE_var (i := 1) rfl (by first | exact Or.inl rfl | exact Or.inr (Or.inl rfl) | exact Or.inr (Or.inr rfl)))) pO_none (pO_some (pB (pE_var (i := 3) rfl (by first | exact Or.inl rfl | exact Or.inr (Or.inl rfl) | exact Or.inr (Or.inr rfl))))))) (pB (pE_sl (pB (pE_var (i := 1) rfl (by first | exact Or.inl rfl | exact Or.inr (Or.inl rfl) | exact Or.inr (Or.inr rfl)))) (pO_some (pB (pE_op hL hr .add (pB (pE_var (i := 3) rfl (by first | exact Or.inl rfl | exact Or.inr (Or.inl rfl) | exact Or.inr (Or.inr rfl)))) (pB pE_int)))) (pO_some (pB (pE_op hL hr .add (pB (pE_var (i := 3) rfl (by first | exact Or.inl rfl | exact Or.inr (Or.inl rfl) | exact Or.inr (Or.inr rfl)))) (pB pE_int)))))))) (pB (pE_sl (pB (pE_var (i := 1) rfl (by first | exact Or.inl rfl | exact Or.inr (Or.inl rfl) | exact Or.inr (Or.inr rfl)))) (pO_some (pB (pE_var (i := 3) rfl (by first | exact Or.inl rfl | exact Or.inr (Or.inl rfl) | exact Or.inr (Or.inr rfl))))) (pO_some (pB (pE_op hL hr .add (pB (pE_var (i := 3) rfl (by first | exact Or.inl rfl | exact Or.inr (Or.inl rfl) | exact Or.inr (Or.inr rfl)))) (pB pE_int)))))))) (pB (pE_sl (pB (pE_var (i := 1) rfl (by first | exact Or.inl rfl | exact Or.inr (Or.inl rfl) | exact Or.inr (Or.inr rfl)))) (pO_some (pB (pE_op hL hr .add (pB (pE_var (i := 3) rfl (by first | exact Or.inl rfl | exact Or.inr (Or.inl rfl) | exact Or.inr (Or.inr rfl)))) (pB pE_int)))) pO_none))))) qs_nil)
      (qs_cons (q_ite (pT_cm hL hr .eq (pB (pE_var (i := 7) rfl (by first | exact Or.inl rfl | exact Or.inr (Or.inl rfl) | exact Or.inr (Or.inr rfl)))) (pB pE_int) (nomark _))
      (qs_cons (q_set (ps_set (i := 5) sc_Lchanged.nd rfl (by first | exact Or.inl rfl | exact Or.inr rfl) (pE_op hL hr .add (pB (pE_sl (pB (pE_var (i := 5) rfl (by first | exact Or.inl rfl | exact Or.inr (Or.inl rfl) | exact Or.inr (Or.inr rfl)))) pO_none (pO_some (pB (pE_var (i := 6) rfl (by first | exact Or.inl rfl | exact Or.inr (Or.inl rfl) | exact Or.inr (Or.inr rfl))))))) (pB (pE_sl (pB (pE_var (i := 5) rfl (by first | exact Or.inl rfl | exact Or.inr (Or.inl rfl) | exact Or.inr (Or.inr rfl)))) (pO_some (pB (pE_op hL hr .add (pB (pE_var (i := 6) rfl (by first | exact Or.inl rfl | exact Or.inr (Or.inl rfl) | exact Or.inr (Or.inr rfl)))) (pB pE_int)))) pO_none))))) qs_nil)
      (qs_cons (q_ite (pT_cm hL hr .eq (pB (pE_var (i := 7) rfl (by first | exact Or.inl rfl | exact Or.inr (Or.inl rfl) | exact Or.inr (Or.inr rfl)))) (pB pE_int) (nomark _))
      (qs_cons (q_set (ps_set (i := 5) sc_Lchanged.nd rfl (by first | exact Or.inl rfl | exact Or.inr rfl) (pE_op hL hr .add (pB (pE_op hL hr .add (pB (pE_sl (pB (pE_var (i := 5) rfl (by first | exact Or.inl rfl | exact Or.inr (Or.inl rfl) | exact Or.inr (Or.inr rfl)))) pO_none (pO_some (pB (pE_var (i := 6) rfl (by first | exact Or.inl rfl | exact Or.inr (Or.inl rfl) | exact Or.inr (Or.inr rfl))))))) (pB (pE_lst (pA_cons (pE_call (f := 21) hL hr (takes_of rfl rfl rfl rfl) rfl rfl rfl rfl Tx.m21 Tx.k21 Tx.b21 .nil (fun _ _ => .nil) (pA_cons (pE_var (i := 0) rfl (by first | exact Or.inl rfl | exact Or.inr (Or.inl rfl) | exact Or.inr (Or.inr rfl))) (pA_cons (pE_var (i := 5) rfl (by first | exact Or.inl rfl | exact Or.inr (Or.inl rfl) | exact Or.inr (Or.inr rfl))) pA_nil))) pA_nil))))) (pB (pE_sl (pB (pE_var (i := 5) rfl (by first | exact Or.inl rfl | exact Or.inr (Or.inl rfl) | exact Or.inr (Or.inr rfl)))) (pO_some (pB (pE_var (i := 6) rfl (by first | exact Or.inl rfl | exact Or.inr (Or.inl rfl) | exact Or.inr (Or.inr rfl))))) pO_none))))) qs_nil)
      (qs_cons (q_ite (pT_cm hL hr .eq (pB (pE_var (i := 7) rfl (by first | exact Or.inl rfl | exact Or.inr (Or.inl rfl) | exact Or.inr (Or.inr rfl)))) (pB pE_int) (nomark _))
      (qs_cons (q_set (ps_set (i := 5) sc_Lchanged.nd rfl (by first | exact Or.inl rfl | exact Or.inr rfl) (pE_op hL hr .add (pB (pE_lst (pA_cons pE_str pA_nil))) (pB (pE_var (i := 5) rfl (by first | exact Or.inl rfl | exact Or.inr (Or.inl rfl) | exact Or.inr (Or.inr rfl))))))) qs_nil)
      (qs_cons (q_ite (pT_cm hL hr .eq (pB (pE_var (i := 7) rfl (by first | exact Or.inl rfl | exact Or.inr (Or.inl rfl) | exact Or.inr (Or.inr rfl)))) (pB pE_int) (nomark _))
      (qs_cons (q_set (ps_set (i := 5) sc_Lchanged.nd rfl (by first | exact Or.inl rfl | exact Or.inr rfl) (pE_op hL hr .add (pB (pE_op hL hr .add (pB (pE_sl (pB (pE_var (i := 5) rfl (by first | exact Or.inl rfl | exact Or.inr (Or.inl rfl) | exact Or.inr (Or.inr rfl)))) pO_none (pO_some (pB (pE_var (i := 6) rfl (by first | exact Or.inl rfl | exact Or.inr (Or.inl rfl) | exact Or.inr (Or.inr rfl))))))) (pB (pE_lst (pA_cons (pE_call (f := 22) hL hr (takes_of rfl rfl rfl rfl) rfl rfl rfl rfl Tx.m22 Tx.k22 Tx.b22 .nil (fun _ _ => .nil) (pA_cons (pE_var (i := 0) rfl (by first | exact Or.inl rfl | exact Or.inr (Or.inl rfl) | exact Or.inr (Or.inr rfl))) (pA_cons (pE_ix (pB (pE_var (i := 5) rfl (by first | exact Or.inl rfl | exact Or.inr (Or.inl rfl) | exact Or.inr (Or.inr rfl)))) (pB (pE_var (i := 6) rfl (by first | exact Or.inl rfl | exact Or.inr (Or.inl rfl) | exact Or.inr (Or.inr rfl)))) (fun _ _ => rfl)) pA_nil))) pA_nil))))) (pB (pE_sl (pB (pE_var (i := 5) rfl (by first | exact Or.inl rfl | exact Or.inr (Or.inl rfl) | exact Or.inr (Or.inr rfl)))) (pO_some (pB (pE_op hL hr .add (pB (pE_var (i := 6) rfl (by first | exact Or.inl rfl | exact Or.inr (Or.inl rfl) | exact Or.inr (Or.inr rfl)))) (pB pE_int)))) pO_none))))) qs_nil)
      (qs_cons (q_set (ps_set (i := 5) sc_Lchanged.nd rfl (by first | exact Or.inl rfl | exact Or.inr rfl) (pE_op hL hr .add (pB (pE_op hL hr .add (pB (pE_sl (pB (pE_var (i := 5) rfl (by first | exact Or.inl rfl | exact Or.inr (Or.inl rfl) | exact Or.inr (Or.inr rfl)))) pO_none (pO_some (pB (pE_var (i := 6) rfl (by first | exact Or.inl rfl | exact Or.inr (Or.inl rfl) | exact Or.inr (Or.inr rfl))))))) (pB (pE_lst (pA_cons (pE_call (f := 21) hL hr (takes_of rfl rfl rfl rfl) rfl rfl rfl rfl Tx.m21 Tx.k21 Tx.b21 .nil (fun _ _ => .nil) (pA_cons (pE_var (i := 0) rfl (by first | exact Or.inl rfl | exact Or.inr (Or.inl rfl) | exact Or.inr (Or.inr rfl))) (pA_cons (pE_var (i := 5) rfl (by first | exact Or.inl rfl | exact Or.inr (Or.inl rfl) | exact Or.inr (Or.inr rfl))) pA_nil))) pA_nil))))) (pB (pE_sl (pB (pE_var (i := 5) rfl (by first | exact Or.inl rfl | exact Or.inr (Or.inl rfl) | exact Or.inr (Or.inr rfl)))) (pO_some (pB (pE_op hL hr .add (pB (pE_var (i := 6) rfl (by first | exact Or.inl rfl | exact Or.inr (Or.inl rfl) | exact Or.inr (Or.inr rfl)))) (pB pE_int)))) pO_none))))) qs_nil)) qs_nil)) qs_nil)) qs_nil)) qs_nil)) qs_nil)) qs_nil)) qs_nil))
      (qs_cons (q_ite (L2.PW.pt (pW_an (pT_cm hL hr .gt (pB (pE_var (i := 7) rfl (by first | exact Or.inl rfl | exact Or.inr (Or.inl rfl) | exact Or.inr (Or.inr rfl)))) (pB pE_int) (nomark _)) (pW_an1 (pT_cm hL hr .lt (pB (pE_var (i := 3) rfl (by first | exact Or.inl rfl | exact Or.inr (Or.inl rfl) | exact Or.inr (Or.inr rfl)))) (pB (pE_biB hL hr rfl .len rfl rfl Tx.n_len (by decide +kernel) (pB (pE_var (i := 1) rfl (by first | exact Or.inl rfl | exact Or.inr (Or.inl rfl) | exact Or.inr (Or.inr rfl)))))) (nomark _)))))
      (qs_cons (q_set (ps_set (i := 1) sc_Lchanged.nd rfl (by first | exact Or.inl rfl | exact Or.inr rfl) (pE_op hL hr .add (pB (pE_op hL hr .add (pB (pE_sl (pB (pE_var (i := 1) rfl (by first | exact Or.inl rfl | exact Or.inr (Or.inl rfl) | exact Or.inr (Or.inr rfl)))) pO_none (pO_some (pB (pE_var (i := 3) rfl (by first | exact Or.inl rfl | exact Or.inr (Or.inl rfl) | exact Or.inr (Or.inr rfl))))))) (pB (pE_lst (pA_cons (pE_mb .join PySem.F.slot_str_join PySem.F.type_str_join (pB pE_str) (pB (pE_var (i := 5) rfl (by first | exact Or.inl rfl | exact Or.inr (Or.inl rfl) | exact Or.inr (Or.inr rfl))))) pA_nil))))) (pB (pE_sl (pB (pE_var (i := 1) rfl (by first | exact Or.inl rfl | exact Or.inr (Or.inl rfl) | exact Or.inr (Or.inr rfl)))) (pO_some (pB (pE_op hL hr .add (pB (pE_var (i := 3) rfl (by first | exact Or.inl rfl | exact Or.inr (Or.inl rfl) | exact Or.inr (Or.inr rfl)))) (pB pE_int)))) pO_none))))) qs_nil)
      qs_nil) qs_nil))))))))
      (qs_cons (q_ret (pE_var (i := 1) rfl (by first | exact Or.inl rfl | exact Or.inr (Or.inl rfl) | exact Or.inr (Or.inr rfl)))) qs_nil))
theorem sc_law : FnScope ["_law_script", "_law_pool_here", "_law_plan", "_law_lines_here", "_law_place", "_law_bad_here", "_law_passed", "_law_again", "e"] ["_law_script"] (defScope s_law) := ⟨rfl, rfl, rfl, by decide +kernel, rfl, by decide +kernel, by decide +kernel⟩
theorem hcs_law_0 (Tx : Txt P K mg ca fi) : ∀ c b, cs_law_0 c = some b → PySem.W.exmOne K (.ref ((lk ca).ca c)) (.ref ((lk ca).ca 1)) = some b := by
  intro c b h
  unfold cs_law_0 at h
  split at h <;> cases h
  all_goals first | exact Tx.em6_1
theorem b_law (hL : Lnk P w K mg base (lk ca) prog fi n) (Tx : Txt P K mg ca fi) {wf : Nat} {cdv : Value} {A : Around} {outer : List Env} {s : Shared} {H : Hp} {E : XK} (hr : Room (2 * n + 1) (A.deeper (envOfC "law" (defScope s_law) s.heap.objs.size (fi 24).addr cdv))) :
    QSs (cxF P w K mg base ["_law_script", "_law_pool_here", "_law_plan", "_law_lines_here", "_law_place", "_law_bad_here", "_law_passed", "_law_again", "e"] "law" s_law (fi 24).addr cdv A outer s H E) (lk ca) (tab prog wf n) (fun cls d _ H => E cls d H) (defBody s_law) B_law :=
  (qs_cons (q_setA (ps_set (i := 1) sc_law.nd rfl (by first | exact Or.inl rfl | exact Or.inr rfl) (pF_call (f := 9) hL hr (takes_of rfl rfl rfl rfl) rfl rfl rfl rfl Tx.m9 Tx.k9 Tx.b9 .nil (fun _ _ => .nil) (pA_cons (pE_var (i := 0) rfl (by first | exact Or.inl rfl | exact Or.inr (Or.inl rfl) | exact Or.inr (Or.inr rfl))) (pA_cons pE_int pA_nil)))))
      (qs_cons (q_set (ps_set (i := 2) sc_law.nd rfl (by first | exact Or.inl rfl | exact Or.inr rfl) (pE_call (f := 14) hL hr (takes_of rfl rfl rfl rfl) rfl rfl rfl rfl Tx.m14 Tx.k14 Tx.b14 .nil (fun _ _ => .nil) (pA_cons (pE_var (i := 1) rfl (by first | exact Or.inl rfl | exact Or.inr (Or.inl rfl) | exact Or.inr (Or.inr rfl))) (pA_cons pE_int pA_nil)))))
      (qs_cons (q_ite (pT_cm hL hr .eq (pB (pE_call (f := 10) hL hr (takes_of rfl rfl rfl rfl) rfl rfl rfl rfl Tx.m10 Tx.k10 Tx.b10 .nil (fun _ _ => .nil) (pA_cons (pE_var (i := 1) rfl (by first | exact Or.inl rfl | exact Or.inr (Or.inl rfl) | exact Or.inr (Or.inr rfl))) (pA_cons pE_int pA_nil)))) (pB pE_int) (nomark _))
      (qs_cons (q_set (ps_set (i := 2) sc_law.nd rfl (by first | exact Or.inl rfl | exact Or.inr rfl) (pE_call (f := 15) hL hr (takes_of rfl rfl rfl rfl) rfl rfl rfl rfl Tx.m15 Tx.k15 Tx.b15 .nil (fun _ _ => .nil) (pA_cons (pE_var (i := 1) rfl (by first | exact Or.inl rfl | exact Or.inr (Or.inl rfl) | exact Or.inr (Or.inr rfl))) pA_nil)))) qs_nil)
      qs_nil)
      (qs_cons (q_set (ps_set (i := 3) sc_law.nd rfl (by first | exact Or.inl rfl | exact Or.inr rfl) (pE_call (f := 23) hL hr (takes_of rfl rfl rfl rfl) rfl rfl rfl rfl Tx.m23 Tx.k23 Tx.b23 .nil (fun _ _ => .nil) (pA_cons (pE_var (i := 1) rfl (by first | exact Or.inl rfl | exact Or.inr (Or.inl rfl) | exact Or.inr (Or.inr rfl))) (pA_cons (pE_call (f := 17) hL hr (takes_of rfl rfl rfl rfl) rfl rfl rfl rfl Tx.m17 Tx.k17 Tx.b17 .nil (fun _ _ => .nil) (pA_cons (pE_var (i := 2) rfl (by first | exact Or.inl rfl | exact Or.inr (Or.inl rfl) | exact Or.inr (Or.inr rfl))) (pA_cons pE_int pA_nil))) pA_nil)))))
      (qs_cons (q_iteT (ptp_an (ptp_cm hL hr .gt (pB (pE_biB hL hr rfl .len rfl rfl Tx.n_len (by decide +kernel) (pB (pE_var (i := 3) rfl (by first | exact Or.inl rfl | exact Or.inr (Or.inl rfl) | exact Or.inr (Or.inr rfl)))))) (nomark _)) (pW_an1 (pT_cm hL hr .eq (pB (pE_call (f := 10) hL hr (takes_of rfl rfl rfl rfl) rfl rfl rfl rfl Tx.m10 Tx.k10 Tx.b10 .nil (fun _ _ => .nil) (pA_cons (pE_var (i := 1) rfl (by first | exact Or.inl rfl | exact Or.inr (Or.inl rfl) | exact Or.inr (Or.inr rfl))) (pA_cons pE_int pA_nil)))) (pB pE_int) (nomark _))))
      (qsT_cons (qT_of (q_set (ps_set (i := 4) sc_law.nd rfl (by first | exact Or.inl rfl | exact Or.inr rfl) (pE_call (f := 10) hL hr (takes_of rfl rfl rfl rfl) rfl rfl rfl rfl Tx.m10 Tx.k10 Tx.b10 .nil (fun _ _ => .nil) (pA_cons (pE_var (i := 1) rfl (by first | exact Or.inl rfl | exact Or.inr (Or.inl rfl) | exact Or.inr (Or.inr rfl))) (pA_cons (pE_biB hL hr rfl .len rfl rfl Tx.n_len (by decide +kernel) (pB (pE_var (i := 3) rfl (by first | exact Or.inl rfl | exact Or.inr (Or.inl rfl) | exact Or.inr (Or.inr rfl))))) pA_nil))))))
      (qsT_cons (pst_set (i := 3) sc_law.nd rfl (by first | exact Or.inl rfl | exact Or.inr rfl) (pet_opl hL hr .add (petB (pet_opr hL hr .add (pB (pE_sl (pB (pE_var (i := 3) rfl (by first | exact Or.inl rfl | exact Or.inr (Or.inl rfl) | exact Or.inr (Or.inr rfl)))) pO_none (pO_some (pB (pE_var (i := 4) rfl (by first | exact Or.inl rfl | exact Or.inr (Or.inl rfl) | exact Or.inr (Or.inr rfl))))))) (petB (pet_lst1 (pet_rpl (pB (pE_ix (pB (pE_var (i := 3) rfl (by first | exact Or.inl rfl | exact Or.inr (Or.inl rfl) | exact Or.inr (Or.inr rfl)))) (pB (pE_var (i := 4) rfl (by first | exact Or.inl rfl | exact Or.inr (Or.inl rfl) | exact Or.inr (Or.inr rfl)))) (fun _ _ => rfl))) (pB (pE_call (f := 10) hL hr (takes_of rfl rfl rfl rfl) rfl rfl rfl rfl Tx.m10 Tx.k10 Tx.b10 .nil (fun _ _ => .nil) (pA_cons (pE_var (i := 1) rfl (by first | exact Or.inl rfl | exact Or.inr (Or.inl rfl) | exact Or.inr (Or.inr rfl))) (pA_cons pE_int pA_nil)))) (fun _ _ => rfl)))))) (pB (pE_sl (pB (pE_var (i := 3) rfl (by first | exact Or.inl rfl | exact Or.inr (Or.inl rfl) | exact Or.inr (Or.inr rfl)))) (pO_some (pB (pE_op hL hr .add (pB (pE_var (i := 4) rfl (by first | exact Or.inl rfl | exact Or.inr (Or.inl rfl) | exact Or.inr (Or.inr rfl)))) (pB pE_int)))) pO_none))))
      (qsT_of qs_nil))) qs_nil)
      (qs_cons (q_set (ps_set (i := 5) sc_law.nd rfl (by first | exact Or.inl rfl | exact Or.inr rfl) (pE_call (f := 20) hL hr (takes_of rfl rfl rfl rfl) rfl rfl rfl rfl Tx.m20 Tx.k20 Tx.b20 .nil (fun _ _ => .nil) (pA_cons (pE_var (i := 3) rfl (by first | exact Or.inl rfl | exact Or.inr (Or.inl rfl) | exact Or.inr (Or.inr rfl))) pA_nil))))
      (qs_cons (q_set (ps_set (i := 6) sc_law.nd rfl (by first | exact Or.inl rfl | exact Or.inr rfl) (pE_biT hL hr rfl .list rfl rfl Tx.n_list (by decide +kernel) (pB (pE_var (i := 3) rfl (by first | exact Or.inl rfl | exact Or.inr (Or.inl rfl) | exact Or.inr (Or.inr rfl)))))))
      (qs_cons (q_try (i := 8) (cc := 1) rfl rfl sc_law.nd rfl rfl ⟨rfl, by decide, .inl Tx.xm1⟩ (takes_of rfl rfl rfl rfl) (hcs_law_0 Tx)
      (fun W_ pn xe tkB poB => (qs_cons (q_set (ps_set (i := 7) sc_law.nd rfl (by first | exact Or.inl rfl | exact Or.inr rfl) (pE_call (f := 2) hL hr tkB rfl rfl rfl rfl Tx.m2 Tx.k2 Tx.bd2_1.choose_spec.2 Tx.bd2_1.choose_spec.1 (fun _ _ => (.cons (.int _) .nil)) (pA_cons (pE_call (f := 8) hL hr tkB rfl rfl rfl rfl Tx.m8 Tx.k8 Tx.b8 .nil (fun _ _ => .nil) (pA_cons (pE_var (i := 6) rfl (by first | exact Or.inl rfl | exact Or.inr (Or.inl rfl) | exact Or.inr (Or.inr rfl))) pA_nil)) pA_nil)))) qs_nil))
      (fun c fs a oe d pn xf hcb hz hv hx => by
      unfold hd_law_0
      by_cases h6 : c = 6
      · subst h6
        rw [if_pos rfl]
        exact match fs, hx with
      | .str t :: _, hx => (qs_cons (q_ite (pT_cm0 (hu_suite hr) .ne (pB (pE_var (i := 6) rfl (by first | exact Or.inl rfl | exact Or.inr (Or.inl rfl) | exact Or.inr (Or.inr rfl)))) (pB (pE_var (i := 3) rfl (by first | exact Or.inl rfl | exact Or.inr (Or.inl rfl) | exact Or.inr (Or.inr rfl)))) (nomark _))
        (qs_cons (q_ret pE_bl) qs_nil)
        qs_nil)
        (qs_cons (q_ite (L2.PW.pt (pW_or (pT_tru (pB (pE_dT (i := 8) (cvs := [(.ref (ca 3)), (.ref (ca 4)), (.ref (ca 5)), (.ref (ca 2)), (.ref (ca 7))]) Tx.xc6 hz hv hx rfl (by first | exact Or.inl rfl | exact Or.inr (Or.inl rfl) | exact Or.inr (Or.inr rfl)) rfl Tx.n_isinstance (.cons (.own _) (.cons (.own _) (.cons (.own _) (.cons (.own _) (.cons (.own _) .nil))))) (kitAny_cons Tx.ko6_BadRatio (fun _ => (kitAny_cons Tx.ko6_BadTable (fun _ => (kitAny_cons Tx.ko6_BadTask (fun _ => (kitAny_cons Tx.ko6_BadText (fun _ => (kitAny_cons Tx.ko6_TooLarge (fun _ => rfl) (fun h => nomatch h))) (fun h => nomatch h))) (fun h => nomatch h))) (fun h => nomatch h))) (fun h => nomatch h)) (by simp) (pa_cons (pe_glob (v := .ref (ca 3)) rfl Tx.xm3 rfl) (pa_cons (pe_glob (v := .ref (ca 4)) rfl Tx.xm4 rfl) (pa_cons (pe_glob (v := .ref (ca 5)) rfl Tx.xm5 rfl) (pa_cons (pe_glob (v := .ref (ca 2)) rfl Tx.xm2 rfl) (pa_cons (pe_glob (v := .ref (ca 7)) rfl Tx.xm7 rfl) pa_nil))))) (fun _ _ _ h => h))) (fun _ => rfl)) (pW_or1 (pT_no (pT_tru (pB (pE_d1 (i := 8) (cv := (.ref (ca 6))) Tx.xc6 hz hv hx rfl (by first | exact Or.inl rfl | exact Or.inr (Or.inl rfl) | exact Or.inr (Or.inr rfl)) rfl Tx.n_isinstance (.own _) Tx.ko6_BadPaper (pe_glob (v := .ref (ca 6)) rfl Tx.xm6 rfl))) (fun _ => rfl))))))
        (qs_cons (q_ret pE_bl) qs_nil)
        qs_nil)
        (qs_cons (q_ret (pE_an (pE_cm0 (hu_suite hr) .isn (pB (pE_var (i := 5) rfl (by first | exact Or.inl rfl | exact Or.inr (Or.inl rfl) | exact Or.inr (Or.inr rfl)))) (pB pE_non) (nomark _)) (pE_one (pE_sam (pr := (a, oe)) (fnW_same Tx _) (room_suite hr) List.mem_cons_self rfl Tx.m12 Tx.k12 (Tx.b12) (pA_cons (pE_xf Tx.xf6 Tx.xo6 hz hv hx rfl (.inl ⟨_, rfl⟩) rfl (by first | exact Or.inl rfl | exact Or.inr (Or.inl rfl) | exact Or.inr (Or.inr rfl))) (pA_cons (pE_var (i := 5) rfl (by first | exact Or.inl rfl | exact Or.inr (Or.inl rfl) | exact Or.inr (Or.inr rfl))) pA_nil)))))) qs_nil)))
        | .int z :: _, hx => (qs_cons (q_ite (pT_cm0 (hu_suite hr) .ne (pB (pE_var (i := 6) rfl (by first | exact Or.inl rfl | exact Or.inr (Or.inl rfl) | exact Or.inr (Or.inr rfl)))) (pB (pE_var (i := 3) rfl (by first | exact Or.inl rfl | exact Or.inr (Or.inl rfl) | exact Or.inr (Or.inr rfl)))) (nomark _))
        (qs_cons (q_ret pE_bl) qs_nil)
        qs_nil)
        (qs_cons (q_ite (L2.PW.pt (pW_or (pT_tru (pB (pE_dT (i := 8) (cvs := [(.ref (ca 3)), (.ref (ca 4)), (.ref (ca 5)), (.ref (ca 2)), (.ref (ca 7))]) Tx.xc6 hz hv hx rfl (by first | exact Or.inl rfl | exact Or.inr (Or.inl rfl) | exact Or.inr (Or.inr rfl)) rfl Tx.n_isinstance (.cons (.own _) (.cons (.own _) (.cons (.own _) (.cons (.own _) (.cons (.own _) .nil))))) (kitAny_cons Tx.ko6_BadRatio (fun _ => (kitAny_cons Tx.ko6_BadTable (fun _ => (kitAny_cons Tx.ko6_BadTask (fun _ => (kitAny_cons Tx.ko6_BadText (fun _ => (kitAny_cons Tx.ko6_TooLarge (fun _ => rfl) (fun h => nomatch h))) (fun h => nomatch h))) (fun h => nomatch h))) (fun h => nomatch h))) (fun h => nomatch h)) (by simp) (pa_cons (pe_glob (v := .ref (ca 3)) rfl Tx.xm3 rfl) (pa_cons (pe_glob (v := .ref (ca 4)) rfl Tx.xm4 rfl) (pa_cons (pe_glob (v := .ref (ca 5)) rfl Tx.xm5 rfl) (pa_cons (pe_glob (v := .ref (ca 2)) rfl Tx.xm2 rfl) (pa_cons (pe_glob (v := .ref (ca 7)) rfl Tx.xm7 rfl) pa_nil))))) (fun _ _ _ h => h))) (fun _ => rfl)) (pW_or1 (pT_no (pT_tru (pB (pE_d1 (i := 8) (cv := (.ref (ca 6))) Tx.xc6 hz hv hx rfl (by first | exact Or.inl rfl | exact Or.inr (Or.inl rfl) | exact Or.inr (Or.inr rfl)) rfl Tx.n_isinstance (.own _) Tx.ko6_BadPaper (pe_glob (v := .ref (ca 6)) rfl Tx.xm6 rfl))) (fun _ => rfl))))))
        (qs_cons (q_ret pE_bl) qs_nil)
        qs_nil)
        (qs_cons (q_ret (pE_an (pE_cm0 (hu_suite hr) .isn (pB (pE_var (i := 5) rfl (by first | exact Or.inl rfl | exact Or.inr (Or.inl rfl) | exact Or.inr (Or.inr rfl)))) (pB pE_non) (nomark _)) (pE_one (pE_sam (pr := (a, oe)) (fnW_same Tx _) (room_suite hr) List.mem_cons_self rfl Tx.m12 Tx.k12 (Tx.b12) (pA_cons (pE_xf Tx.xf6 Tx.xo6 hz hv hx rfl (.inr ⟨_, rfl⟩) rfl (by first | exact Or.inl rfl | exact Or.inr (Or.inl rfl) | exact Or.inr (Or.inr rfl))) (pA_cons (pE_var (i := 5) rfl (by first | exact Or.inl rfl | exact Or.inr (Or.inl rfl) | exact Or.inr (Or.inr rfl))) pA_nil)))))) qs_nil)))
        | [], _ => qs_never
        | .non :: _, _ => qs_never
        | .bl _ :: _, _ => qs_never
        | .lst _ :: _, _ => qs_never
        | .tup _ :: _, _ => qs_never
        | .obj _ _ :: _, _ => qs_never
        | .amb _ :: _, _ => qs_never
        | .scr _ :: _, _ => qs_never
      rw [if_neg h6]
      exact qs_never))
      (qs_cons (q_ret (pE_an (pE_cm hL hr .is (pB (pE_var (i := 5) rfl (by first | exact Or.inl rfl | exact Or.inr (Or.inl rfl) | exact Or.inr (Or.inr rfl)))) (pB pE_non) (nomark _)) (pE_an (pE_call (f := 12) hL hr (takes_of rfl rfl rfl rfl) rfl rfl rfl rfl Tx.m12 Tx.k12 Tx.b12 .nil (fun _ _ => .nil) (pA_cons (pE_var (i := 7) rfl (by first | exact Or.inl rfl | exact Or.inr (Or.inl rfl) | exact Or.inr (Or.inr rfl))) (pA_cons (pE_var (i := 3) rfl (by first | exact Or.inl rfl | exact Or.inr (Or.inl rfl) | exact Or.inr (Or.inr rfl))) pA_nil))) (pE_one (pE_cm hL hr .eq (pB (pE_var (i := 6) rfl (by first | exact Or.inl rfl | exact Or.inr (Or.inl rfl) | exact Or.inr (Or.inr rfl)))) (pB (pE_var (i := 3) rfl (by first | exact Or.inl rfl | exact Or.inr (Or.inl rfl) | exact Or.inr (Or.inr rfl)))) (nomark _)))))) qs_nil)))))))))
theorem nf_ok (ca : Nat → Addr) (c : Nat) : prog.nf c = ((lk ca).fn c).length := by
  show p_nf c = (fnl c).length
  unfold p_nf fnl
  split <;> rfl
theorem opm_ok (Tx : Txt P K mg ca fi) : ∀ c o f, prog.opm c o = some f → (∃ d, prog.defs f = some d ∧ d.cls = none ∧ d.np = 2) ∧ prog.fresh f = false ∧ PySem.W.selfFirst K ((lk ca).ca c) = true ∧
    PySem.W.findIn K (.ref ((lk ca).ca c)) (PySem.dunder o.py.info.2) = some (some (.ref (fi f).addr)) ∧ PySem.W.isFn K (.ref (fi f).addr) = true ∧ Binds K (fi f).fd (fi f).ps [] := fun c o f h => nomatch (show (none : Option Nat) = some f from h)
theorem eqm_ok (Tx : Txt P K mg ca fi) : ∀ c f, prog.eqm c = some f → (∃ d, prog.defs f = some d ∧ d.cls = none ∧ d.np = 2) ∧ prog.fresh f = false ∧ PySem.W.notFirst K ((lk ca).ca c) (.ref ((lk ca).ca c)) = true ∧
    PySem.W.findIn K (.ref ((lk ca).ca c)) "__eq__" = some (some (.ref (fi f).addr)) ∧ PySem.W.isFn K (.ref (fi f).addr) = true ∧ Binds K (fi f).fd (fi f).ps [] := fun c f h => nomatch (show (none : Option Nat) = some f from h)
theorem strm_ok (Tx : Txt P K mg ca fi) : ∀ c f, prog.strm c = some f → (∃ d, prog.defs f = some d ∧ d.cls = none ∧ d.np = 1) ∧ prog.fresh f = false ∧
    PySem.W.findIn K (.ref ((lk ca).ca c)) "__str__" = some (some (.ref (fi f).addr)) ∧ PySem.W.isFn K (.ref (fi f).addr) = true ∧ Binds K (fi f).fd (fi f).ps [] := by
  intro c f h
  change p_strm c = some f at h
  unfold p_strm at h
  cases h
end
end K81

set_option Elab.async false
set_option linter.all false
set_option maxRecDepth 100000
set_option maxHeartbeats 400000
/-! PDM: how the small language is computed by rewriting; the pool; loops; comprehensions. -/
namespace PD
open PySem PySem.Spec PyProof.Rows L2
section
variable {T : Tb} {sl : Sl} {om om' : Om} {x y d : D} {ds es : List D} {i j : Nat} {m n : Int}
/-! ### expressions -/
@[simp] theorem r_v (h : sl[i]? = some (.val d)) : evE T (.v i) sl om = .ok d om := by rw [evE, h]
@[simp] theorem r_b (h : sl[i]? = some (.val d)) : evE T (.b i) sl om = .ok d om := by rw [evE, h]
@[simp] theorem r_bo (h : sl[i]? = some (.own ds)) : evE T (.b i) sl om = .ok (.lst ds) om := by rw [evE, h]
@[simp] theorem r_k : evE T (.k d) sl om = .ok d om := by rw [evE]
def kOp (T : Tb) (r : Rs D) (o : Bop) (b : E) (sl : Sl) : Rs D := r.bind fun x om => (evE T b sl om).bind fun y om => bop T o x y om
def kOp2 (T : Tb) (r : Rs D) (o : Bop) (x : D) : Rs D := r.bind fun y om => bop T o x y om
@[simp] theorem r_op {o : Bop} {a b : E} : evE T (.op o a b) sl om = kOp T (evE T a sl om) o b sl := by rw [evE]; rfl
@[simp] theorem r_op1 {o : Bop} {b : E} : kOp T (.ok x om) o b sl = kOp2 T (evE T b sl om) o x := rfl
@[simp] theorem r_op2 {o : Bop} : kOp2 T (.ok y om) o x = bop T o x y om := rfl
def kCat (T : Tb) (r : Rs D) (b : E) (sl : Sl) : Rs D := r.bind fun x om => (evE T b sl om).bind fun y om => catD x y om
def kCat2 (r : Rs D) (x : D) : Rs D := r.bind fun y om => catD x y om
@[simp] theorem r_cat {a b : E} : evE T (.cat a b) sl om = kCat T (evE T a sl om) b sl := by rw [evE]; rfl
@[simp] theorem r_cat1 {b : E} : kCat T (.ok x om) b sl = kCat2 (evE T b sl om) x := rfl
@[simp] theorem r_cat2 : kCat2 (.ok (.lst es) om) (.lst ds) = if ds.length + es.length ≤ 1000000 then .ok (.lst (ds ++ es)) om else .stuck := rfl
def kRp (T : Tb) (r : Rs D) (b : E) (sl : Sl) : Rs D := r.bind fun x om => (evE T b sl om).bind fun y om => repD x y om
def kRp2 (r : Rs D) (x : D) : Rs D := r.bind fun y om => repD x y om
@[simp] theorem r_rp {a b : E} : evE T (.rp a b) sl om = kRp T (evE T a sl om) b sl := by rw [evE]; rfl
@[simp] theorem r_rp1 {b : E} : kRp T (.ok x om) b sl = kRp2 (evE T b sl om) x := rfl
@[simp] theorem r_rp2 : kRp2 (.ok (.int n) om) (.lst ds) = if 0 ≤ n ∧ n ≤ 1000000 ∧ ds.length * n.toNat ≤ 1000000 then .ok (.lst (List.replicate n.toNat ds).flatten) om else .stuck := rfl
def kNeg (r : Rs D) : Rs D := r.bind fun x om => match x with | .int i => .ok (.int (-i)) om | _ => .stuck
@[simp] theorem r_neg {a : E} : evE T (.neg a) sl om = kNeg (evE T a sl om) := by rw [evE]; rfl
@[simp] theorem r_neg1 : kNeg (.ok (.int n) om) = .ok (.int (-n)) om := rfl
def kNo (r : Rs D) : Rs D := r.bind fun x om => (tru x om).bind fun b om => .ok (.bl (!b)) om
@[simp] theorem r_no {a : E} : evE T (.no a) sl om = kNo (evE T a sl om) := by rw [evE]; rfl
@[simp] theorem r_no1 {b : Bool} : kNo (.ok (.bl b) om) = .ok (.bl (!b)) om := rfl
@[simp] theorem r_no2 : kNo (.ok (.lst ds) om) = .ok (.bl ds.isEmpty) om := by show Rs.ok (D.bl (!(!ds.isEmpty))) om = _; rw [Bool.not_not]
@[simp] theorem r_no3 : kNo (.ok (.tup ds) om) = .ok (.bl ds.isEmpty) om := by show Rs.ok (D.bl (!(!ds.isEmpty))) om = _; rw [Bool.not_not]
@[simp] theorem r_no4 : kNo (.ok (.int n) om) = .ok (.bl (n == 0)) om := by show Rs.ok (D.bl (!(!(n == 0)))) om = _; rw [Bool.not_not]
def kAn (T : Tb) (r : Rs D) (b : E) (sl : Sl) : Rs D := r.bind fun x om => (tru x om).bind fun c om => if c = true then evE T b sl om else .ok x om
@[simp] theorem r_an {a b : E} : evE T (.an a b) sl om = kAn T (evE T a sl om) b sl := by rw [evE]; rfl
@[simp] theorem r_an1 {b : E} : kAn T (.ok (.bl true) om) b sl = evE T b sl om := rfl
@[simp] theorem r_an2 {b : E} : kAn T (.ok (.bl false) om) b sl = .ok (.bl false) om := rfl
def kOr (T : Tb) (r : Rs D) (b : E) (sl : Sl) : Rs D := r.bind fun x om => (tru x om).bind fun c om => if c = true then .ok x om else evE T b sl om
@[simp] theorem r_or {a b : E} : evE T (.or a b) sl om = kOr T (evE T a sl om) b sl := by rw [evE]; rfl
@[simp] theorem r_or1 {b : E} : kOr T (.ok (.bl true) om) b sl = .ok (.bl true) om := rfl
@[simp] theorem r_or2 {b : E} : kOr T (.ok (.bl false) om) b sl = evE T b sl om := rfl
def kIte (T : Tb) (r : Rs Bool) (a b : E) (sl : Sl) : Rs D := r.bind fun c om => if c = true then evE T a sl om else evE T b sl om
def kTr (r : Rs D) : Rs Bool := r.bind fun x om => tru x om
@[simp] theorem r_ite {c a b : E} : evE T (.ite c a b) sl om = kIte T (kTr (evE T c sl om)) a b sl := by
  rw [evE]
  cases evE T c sl om <;> rfl
@[simp] theorem r_ite1 {a b : E} : kIte T (.ok true om) a b sl = evE T a sl om := rfl
@[simp] theorem r_ite2 {a b : E} : kIte T (.ok false om) a b sl = evE T b sl om := rfl
@[simp] theorem r_tr1 {b : Bool} : kTr (.ok (.bl b) om) = .ok b om := rfl
@[simp] theorem r_tr2 : kTr (.ok (.lst ds) om) = .ok (!ds.isEmpty) om := rfl
@[simp] theorem r_tr3 : kTr (.ok (.tup ds) om) = .ok (!ds.isEmpty) om := rfl
@[simp] theorem r_tr4 : kTr (.ok (.int n) om) = .ok (n != 0) om := rfl
@[simp] theorem r_tr5 : kTr (.ok .non om) = .ok false om := rfl
def kCm (T : Tb) (r : Rs D) (o : Cop) (b : E) (sl : Sl) : Rs D := r.bind fun x om => (evE T b sl om).bind fun y om => (cmp T o x y om).bind fun c om => .ok (.bl c) om
def kCm2 (T : Tb) (r : Rs D) (o : Cop) (x : D) : Rs D := r.bind fun y om => (cmp T o x y om).bind fun c om => .ok (.bl c) om
def kBl (r : Rs Bool) : Rs D := r.bind fun c om => .ok (.bl c) om
@[simp] theorem r_cm {o : Cop} {a b : E} : evE T (.cm o a b) sl om = kCm T (evE T a sl om) o b sl := by rw [evE]; rfl
@[simp] theorem r_cm1 {o : Cop} {b : E} : kCm T (.ok x om) o b sl = kCm2 T (evE T b sl om) o x := rfl
@[simp] theorem r_cm2 {o : Cop} : kCm2 T (.ok y om) o x = kBl (cmp T o x y om) := rfl
@[simp] theorem r_bl {b : Bool} : kBl (.ok b om) = .ok (.bl b) om := rfl
def kCh (T : Tb) (r : Rs D) (o o' : Cop) (b c : E) (sl : Sl) : Rs D := r.bind fun x om => (evE T b sl om).bind fun y om => (cmp T o x y om).bind fun r om => if r = true then (evE T c sl om).bind fun z om => (cmp T o' y z om).bind fun r om => .ok (.bl r) om else .ok (.bl false) om
def kCh2 (T : Tb) (r : Rs D) (o o' : Cop) (x : D) (c : E) (sl : Sl) : Rs D := r.bind fun y om => (cmp T o x y om).bind fun r om => if r = true then (evE T c sl om).bind fun z om => (cmp T o' y z om).bind fun r om => .ok (.bl r) om else .ok (.bl false) om
def kCh3 (T : Tb) (r : Rs Bool) (o' : Cop) (y : D) (c : E) (sl : Sl) : Rs D := r.bind fun r om => if r = true then (evE T c sl om).bind fun z om => (cmp T o' y z om).bind fun r om => .ok (.bl r) om else .ok (.bl false) om
@[simp] theorem r_ch {o o' : Cop} {a b c : E} : evE T (.ch o o' a b c) sl om = kCh T (evE T a sl om) o o' b c sl := by rw [evE]; rfl
@[simp] theorem r_ch1 {o o' : Cop} {b c : E} : kCh T (.ok x om) o o' b c sl = kCh2 T (evE T b sl om) o o' x c sl := rfl
@[simp] theorem r_ch2 {o o' : Cop} {c : E} : kCh2 T (.ok y om) o o' x c sl = kCh3 T (cmp T o x y om) o' y c sl := rfl
@[simp] theorem r_ch3 {o' : Cop} {c : E} : kCh3 T (.ok true om) o' y c sl = kCm2 T (evE T c sl om) o' y := rfl
@[simp] theorem r_ch4 {o' : Cop} {c : E} : kCh3 T (.ok false om) o' y c sl = .ok (.bl false) om := rfl
def kCall (T : Tb) (r : Rs (List D)) (f : Nat) (dv : List D) : Rs D := r.bind fun xs om => T.call f (xs ++ dv) om
@[simp] theorem r_call {f : Nat} {dv : List D} {as : E} : evE T (.call f dv as) sl om = kCall T (evL T as sl om) f dv := by rw [evE]; rfl
@[simp] theorem r_call1 {f : Nat} {dv : List D} : kCall T (.ok ds om) f dv = T.call f (ds ++ dv) om := rfl
def kMk (T : Tb) (r : Rs (List D)) (c f : Nat) (dv : List D) : Rs D := r.bind fun xs om => (T.init f (xs ++ dv) om).bind fun fs om => if fs.length = T.nf c then .ok (.obj c fs) om else .stuck
def kMk2 (T : Tb) (r : Rs (List D)) (c : Nat) : Rs D := r.bind fun fs om => if fs.length = T.nf c then .ok (.obj c fs) om else .stuck
@[simp] theorem r_mk {c f : Nat} {dv : List D} {as : E} : evE T (.mk c f dv as) sl om = kMk T (evL T as sl om) c f dv := by rw [evE]; rfl
@[simp] theorem r_mk1 {c f : Nat} {dv : List D} : kMk T (.ok ds om) c f dv = kMk2 T (T.init f (ds ++ dv) om) c := rfl
@[simp] theorem r_mk2 {c : Nat} : kMk2 T (.ok ds om) c = if ds.length = T.nf c then .ok (.obj c ds) om else .stuck := rfl
def kMka (T : Tb) (r : Rs (List D)) (c f : Nat) (dv : List D) : Rs D := r.bind fun xs om => (T.call f (.amb om.length :: (xs ++ dv)) (om ++ [.ob c []])).bind fun r om' => match r with | .non => .ok (.amb om.length) om' | _ => .stuck
def kMka2 (r : Rs D) (k : Nat) : Rs D := r.bind fun r om' => match r with | .non => .ok (.amb k) om' | _ => .stuck
@[simp] theorem r_mka {c f : Nat} {dv : List D} {as : E} : evE T (.mka c f dv as) sl om = kMka T (evL T as sl om) c f dv := by rw [evE]; rfl
@[simp] theorem r_mka1 {c f : Nat} {dv : List D} : kMka T (.ok ds om) c f dv = kMka2 (T.call f (.amb om.length :: (ds ++ dv)) (om ++ [.ob c []])) om.length := rfl
@[simp] theorem r_mka2 {k : Nat} : kMka2 (.ok .non om) k = .ok (.amb k) om := rfl
def kMe (T : Tb) (r : Rs D) (c f : Nat) (dv : List D) (as : E) (sl : Sl) : Rs D := r.bind fun x om => if isC c x om = true then (evL T as sl om).bind fun xs om => T.call f (x :: (xs ++ dv)) om else .stuck
def kMe2 (T : Tb) (r : Rs (List D)) (f : Nat) (dv : List D) (x : D) : Rs D := r.bind fun xs om => T.call f (x :: (xs ++ dv)) om
@[simp] theorem r_meth {c f : Nat} {dv : List D} {o as : E} : evE T (.meth c f dv o as) sl om = kMe T (evE T o sl om) c f dv as sl := by rw [evE]; rfl
@[simp] theorem r_meth1 {c f : Nat} {dv : List D} {as : E} (h : isC c x om = true) : kMe T (.ok x om) c f dv as sl = kMe2 T (evL T as sl om) f dv x := by
  show (if isC c x om = true then _ else _) = _
  rw [if_pos h]
  rfl
@[simp] theorem r_meth2 {f : Nat} {dv : List D} : kMe2 T (.ok ds om) f dv x = T.call f (x :: (ds ++ dv)) om := rfl
@[simp] theorem r_isCo {c : Nat} : isC c (.obj c ds) om = true := by show (c == c) = true; exact beq_self_eq_true c
theorem r_isCa {c k : Nat} (h : om[k]? = some (.ob c ds)) : isC c (.amb k) om = true := by
  show (match om[k]? with | some (.ob c' _) => c' == c | _ => false) = true
  rw [h]
  exact beq_self_eq_true c
@[simp] theorem r_fs {c : Nat} (h : sl[(0 : Nat)]? = some (.newo c ds)) (h2 : ds[j]? = some d) : evE T (.fs c j) sl om = .ok d om := by
  rw [evE, h]
  simp only [if_true]
  rw [h2]
def kFld (r : Rs D) (c j : Nat) : Rs D := r.bind fun x om => fldD c j x om
@[simp] theorem r_fld {c : Nat} {a : E} : evE T (.fld c j a) sl om = kFld (evE T a sl om) c j := by rw [evE]; rfl
@[simp] theorem r_fldo {c : Nat} (h : ds[j]? = some d) : kFld (.ok (.obj c ds) om) c j = .ok d om := by
  show fldD c j (.obj c ds) om = _
  rw [fldD, if_pos rfl, h]
theorem r_flda {c k : Nat} (h0 : om[k]? = some (.ob c ds)) (h : ds[j]? = some d) : kFld (.ok (.amb k) om) c j = .ok d om := by
  show fldD c j (.amb k) om = _
  rw [fldD, h0]
  simp only [if_true]
  rw [h]
def kNl (r : Rs D) : Rs D := r.bind fun d om => match d with | .lst ds => .ok (.amb om.length) (om ++ [.pl ds]) | _ => .stuck
@[simp] theorem r_nl {a : E} : evE T (.nl a) sl om = kNl (evE T a sl om) := by rw [evE]; rfl
@[simp] theorem r_nl1 : kNl (.ok (.lst ds) om) = .ok (.amb om.length) (om ++ [.pl ds]) := rfl
def kDn (r : Rs (List D)) (ks : List L2.Key) : Rs D := r.bind fun xs om => if ks.length = xs.length then .ok (.amb om.length) (om ++ [.dc ks xs]) else .stuck
@[simp] theorem r_dnw {a : E} {ks : List L2.Key} : evE T (.dnw ks a) sl om = kDn (evL T a sl om) ks := by rw [evE]; rfl
@[simp] theorem r_dnw1 {ks : List L2.Key} : kDn (.ok ds om) ks = if ks.length = ds.length then .ok (.amb om.length) (om ++ [.dc ks ds]) else .stuck := rfl
def kDg (r : Rs D) (k : L2.Key) : Rs D := r.bind fun x om => match x with
    | .amb j => match om[j]? with
      | some (.dc ks ds) => match dgD ks ds k with | some d => .ok d om | none => .stuck
      | _ => .stuck
    | _ => .stuck
@[simp] theorem r_dg {a : E} {k : L2.Key} : evE T (.dg a k) sl om = kDg (evE T a sl om) k := by rw [evE]; rfl
theorem r_dg1 {k : L2.Key} {ks : List L2.Key} (h : om[j]? = some (.dc ks ds)) (h2 : dgD ks ds k = some d) : kDg (.ok (.amb j) om) k = .ok d om := by
  show (match om[j]? with
      | some (.dc ks ds) => match dgD ks ds k with | some d => Rs.ok d om | none => .stuck
      | _ => .stuck) = _
  rw [h]
  show (match dgD ks ds k with | some d => Rs.ok d om | none => .stuck) = _
  rw [h2]
def kBi (T : Tb) (r : Rs D) (b : Bi) : Rs D := r.bind fun x om => biD T b x om
@[simp] theorem r_bi {b : Bi} {a : E} : evE T (.bi b a) sl om = kBi T (evE T a sl om) b := by rw [evE]; rfl
@[simp] theorem r_bi1 {b : Bi} : kBi T (.ok x om) b = biD T b x om := rfl
def kMb (T : Tb) (r : Rs D) (m : Mb) (a : E) (sl : Sl) : Rs D := r.bind fun x om => match x with
    | .str s => (evE T a sl om).bind fun y om => mbf m s y om
    | _ => .stuck
def kMb2 (r : Rs D) (m : Mb) (s : Str) : Rs D := r.bind fun y om => mbf m s y om
@[simp] theorem r_mb {m : Mb} {o a : E} : evE T (.mb m o a) sl om = kMb T (evE T o sl om) m a sl := by rw [evE]; rfl
@[simp] theorem r_mb1 {m : Mb} {a : E} {s : Str} : kMb T (.ok (.str s) om) m a sl = kMb2 (evE T a sl om) m s := rfl
@[simp] theorem r_mb2 {m : Mb} {s : Str} : kMb2 (.ok x om) m s = mbf m s x om := rfl
def kIsi (r : Rs D) (ts : List Ty) : Rs D := r.bind fun x om => match isA ts x with | some b => .ok (.bl b) om | none => .stuck
@[simp] theorem r_isi {ts : List Ty} {a : E} : evE T (.isi ts a) sl om = kIsi (evE T a sl om) ts := by rw [evE]; rfl
@[simp] theorem r_isi1 {ts : List Ty} {b : Bool} (h : isA ts x = some b) : kIsi (.ok x om) ts = .ok (.bl b) om := by
  show (match isA ts x with | some b => Rs.ok (D.bl b) om | none => .stuck) = _
  rw [h]
def kIx (T : Tb) (r : Rs D) (b : E) (sl : Sl) : Rs D := r.bind fun x om => (evE T b sl om).bind fun y om => ixD x y om
def kIx2 (r : Rs D) (x : D) : Rs D := r.bind fun y om => ixD x y om
@[simp] theorem r_ix {a b : E} : evE T (.ix a b) sl om = kIx T (evE T a sl om) b sl := by rw [evE]; rfl
@[simp] theorem r_ix1 {b : E} : kIx T (.ok x om) b sl = kIx2 (evE T b sl om) x := rfl
@[simp] theorem r_ix2 : kIx2 (.ok y om) x = ixD x y om := rfl
def kSl (T : Tb) (r : Rs D) (lo hi : E) (sl : Sl) : Rs D := r.bind fun x om => (evO T lo sl om).bind fun l om => (evO T hi sl om).bind fun h om => slD x l h om
def kSl2 (T : Tb) (r : Rs (Option Int)) (x : D) (hi : E) (sl : Sl) : Rs D := r.bind fun l om => (evO T hi sl om).bind fun h om => slD x l h om
def kSl3 (r : Rs (Option Int)) (x : D) (l : Option Int) : Rs D := r.bind fun h om => slD x l h om
@[simp] theorem r_sl {a lo hi : E} : evE T (.sl a lo hi) sl om = kSl T (evE T a sl om) lo hi sl := by rw [evE]; rfl
@[simp] theorem r_sl1 {lo hi : E} : kSl T (.ok x om) lo hi sl = kSl2 T (evO T lo sl om) x hi sl := rfl
@[simp] theorem r_sl2 {hi : E} {l : Option Int} : kSl2 T (.ok l om) x hi sl = kSl3 (evO T hi sl om) x l := rfl
@[simp] theorem r_sl3 {l h : Option Int} : kSl3 (.ok h om) x l = slD x l h om := rfl
def kO (r : Rs D) : Rs (Option Int) := r.bind fun x om => match x with | .int i => .ok (some i) om | _ => .stuck
@[simp] theorem r_o0 : evO T .nop sl om = .ok none om := by rw [evO]
@[simp] theorem r_o1 {a : E} : evO T (.cons a .nil) sl om = kO (evE T a sl om) := by rw [evO]; rfl
@[simp] theorem r_o2 : kO (.ok (.int n) om) = .ok (some n) om := rfl
def kTup (r : Rs (List D)) : Rs D := r.bind fun xs om => if xs.length ≤ 1000000 then .ok (.tup xs) om else .stuck
def kLst (r : Rs (List D)) : Rs D := r.bind fun xs om => if xs.length ≤ 1000000 then .ok (.lst xs) om else .stuck
@[simp] theorem r_tup {as : E} : evE T (.tup as) sl om = kTup (evL T as sl om) := by rw [evE]; rfl
@[simp] theorem r_lst {as : E} : evE T (.lst as) sl om = kLst (evL T as sl om) := by rw [evE]; rfl
@[simp] theorem r_tup1 : kTup (.ok ds om) = if ds.length ≤ 1000000 then .ok (.tup ds) om else .stuck := rfl
@[simp] theorem r_lst1 : kLst (.ok ds om) = if ds.length ≤ 1000000 then .ok (.lst ds) om else .stuck := rfl
def kFs (r : Rs Str) : Rs D := r.bind fun s om => .ok (.str s) om
@[simp] theorem r_fstr {as : E} : evE T (.fstr as) sl om = kFs (evJ T as (⟨#[]⟩ : Str) sl om) := by rw [evE]; rfl
@[simp] theorem r_fstr1 {s : Str} : kFs (.ok s om) = .ok (.str s) om := rfl
/-- a comprehension's items -/
def cmpG (T : Tb) (cond elt : E) (tg : Tg) (sl : Sl) (ds : List D) (om : Om) : Rs (List D) := compGo (fun sl om => (evE T cond sl om).bind fun x om => tru x om) (evE T elt) tg sl ds om
def kCo (T : Tb) (r : Rs (List D)) (tg : Tg) (cond elt : E) (sl : Sl) : Rs D := r.bind fun ds om => if ds.length ≤ 1000000 then (cmpG T cond elt tg (wipeS sl (tgIx tg)) ds om).bind fun xs om => .ok (.lst xs) om else .stuck
def kCo2 (r : Rs (List D)) : Rs D := r.bind fun xs om => .ok (.lst xs) om
@[simp] theorem r_comp {tg : Tg} {it cond elt : E} : evE T (.comp tg it cond elt) sl om = kCo T (evI T it sl om) tg cond elt sl := by rw [evE]; rfl
@[simp] theorem r_comp1 {tg : Tg} {cond elt : E} : kCo T (.ok ds om) tg cond elt sl = if ds.length ≤ 1000000 then kCo2 (cmpG T cond elt tg (wipeS sl (tgIx tg)) ds om) else .stuck := rfl
@[simp] theorem r_comp2 : kCo2 (.ok ds om) = .ok (.lst ds) om := rfl
/-! ### argument lists, iterables -/
def kL (T : Tb) (r : Rs D) (as : E) (sl : Sl) : Rs (List D) := r.bind fun x om => (evL T as sl om).bind fun xs om => .ok (x :: xs) om
def kL2 (r : Rs (List D)) (x : D) : Rs (List D) := r.bind fun xs om => .ok (x :: xs) om
@[simp] theorem r_l0 : evL T .nil sl om = .ok [] om := by rw [evL]
@[simp] theorem r_l {a as : E} : evL T (.cons a as) sl om = kL T (evE T a sl om) as sl := by rw [evL]; rfl
@[simp] theorem r_l1 {as : E} : kL T (.ok x om) as sl = kL2 (evL T as sl om) x := rfl
@[simp] theorem r_l2 : kL2 (.ok ds om) x = .ok (x :: ds) om := rfl
def kSt (T : Tb) (r : Rs D) (as : E) (sl : Sl) : Rs (List D) := r.bind fun x om => match x with
    | .lst ys => (evL T as sl om).bind fun xs om => .ok (ys ++ xs) om
    | .tup ys => (evL T as sl om).bind fun xs om => .ok (ys ++ xs) om
    | _ => .stuck
def kSt2 (r : Rs (List D)) (ys : List D) : Rs (List D) := r.bind fun xs om => .ok (ys ++ xs) om
@[simp] theorem r_st {a as : E} : evL T (.star a as) sl om = kSt T (evE T a sl om) as sl := by rw [evL]; rfl
@[simp] theorem r_st1 {as : E} : kSt T (.ok (.lst ds) om) as sl = kSt2 (evL T as sl om) ds := rfl
@[simp] theorem r_st2 {as : E} : kSt T (.ok (.tup ds) om) as sl = kSt2 (evL T as sl om) ds := rfl
@[simp] theorem r_st3 : kSt2 (.ok es om) ds = .ok (ds ++ es) om := rfl
def kIt (r : Rs D) : Rs (List D) := r.bind fun x om => match items x with | some ds => .ok ds om | none => .stuck
@[simp] theorem r_itl {a : E} : evI T (.itl a) sl om = kIt (evE T a sl om) := by rw [evI]; rfl
@[simp] theorem r_itl1 : kIt (.ok (.lst ds) om) = .ok ds om := rfl
@[simp] theorem r_itl2 : kIt (.ok (.tup ds) om) = .ok ds om := rfl
@[simp] theorem r_itl3 {s : Str} : kIt (.ok (.str s) om) = .ok (s.cps.toList.map fun c => .str ⟨#[c]⟩) om := rfl
def kR1 (r : Rs D) : Rs (List D) := r.bind fun x om => match x with
    | .int n => if -(2 ^ 62) ≤ n ∧ n < 2 ^ 62 then .ok ((List.range n.toNat).map fun (k : Nat) => .int k) om else .stuck
    | _ => .stuck
@[simp] theorem r_rng1 {a : E} : evI T (.rng1 a) sl om = kR1 (evE T a sl om) := by rw [evI]; rfl
@[simp] theorem r_rng1a (h : n < 2 ^ 62) (h0 : 0 ≤ n) : kR1 (.ok (.int n) om) = .ok ((List.range n.toNat).map fun (k : Nat) => .int k) om := by
  show (if -(2 ^ 62) ≤ n ∧ n < 2 ^ 62 then _ else _) = _
  rw [if_pos ⟨by omega, h⟩]
def kR2 (T : Tb) (r : Rs D) (b : E) (sl : Sl) : Rs (List D) := r.bind fun x om => (evE T b sl om).bind fun y om => match x, y with
    | .int m, .int n => if (-(2 ^ 62) ≤ m ∧ m < 2 ^ 62) ∧ -(2 ^ 62) ≤ n ∧ n < 2 ^ 62 then .ok ((List.range (n - m).toNat).map fun (k : Nat) => .int (m + k)) om else .stuck
    | _, _ => .stuck
def kR3 (r : Rs D) (x : D) : Rs (List D) := r.bind fun y om => match x, y with
    | .int m, .int n => if (-(2 ^ 62) ≤ m ∧ m < 2 ^ 62) ∧ -(2 ^ 62) ≤ n ∧ n < 2 ^ 62 then .ok ((List.range (n - m).toNat).map fun (k : Nat) => .int (m + k)) om else .stuck
    | _, _ => .stuck
@[simp] theorem r_rng2 {a b : E} : evI T (.rng2 a b) sl om = kR2 T (evE T a sl om) b sl := by rw [evI]; rfl
@[simp] theorem r_rng2a {b : E} : kR2 T (.ok x om) b sl = kR3 (evE T b sl om) x := rfl
theorem r_rng2b (hm : m < 2 ^ 62) (hm0 : -(2 ^ 62) ≤ m) (h : n < 2 ^ 62) (h0 : -(2 ^ 62) ≤ n) : kR3 (.ok (.int n) om) (.int m) = .ok ((List.range (n - m).toNat).map fun (k : Nat) => .int (m + k)) om := by
  show (if (-(2 ^ 62) ≤ m ∧ m < 2 ^ 62) ∧ -(2 ^ 62) ≤ n ∧ n < 2 ^ 62 then _ else _) = _
  rw [if_pos ⟨⟨hm0, hm⟩, h0, h⟩]
/-! ### operators on plain values -/
@[simp] theorem o_addi : bop T .add (.int m) (.int n) om = .ok (.int (m + n)) om := rfl
@[simp] theorem o_subi : bop T .sub (.int m) (.int n) om = .ok (.int (m - n)) om := rfl
theorem o_muli (h : CMulW m n) : bop T .mul (.int m) (.int n) om = .ok (.int (m * n)) om := if_pos h
theorem o_divi (h : CDivW m n) : bop T .fdiv (.int m) (.int n) om = .ok (.int (m / n)) om := if_pos h
@[simp] theorem o_modi (h : 0 < n) : bop T .mod (.int m) (.int n) om = .ok (.int (m % n)) om := if_pos h
theorem o_powi (h : CPow m n) : bop T .pow (.int m) (.int n) om = .ok (.int (m ^ n.toNat)) om := if_pos h
@[simp] theorem o_addl : bop T .add (.lst ds) (.lst es) om = if ds.length + es.length ≤ 1000000 then .ok (.lst (ds ++ es)) om else .stuck := rfl
@[simp] theorem o_addt : bop T .add (.tup ds) (.tup es) om = if ds.length + es.length ≤ 1000000 then .ok (.tup (ds ++ es)) om else .stuck := rfl
@[simp] theorem o_mull : bop T .mul (.lst ds) (.int n) om = if 0 ≤ n ∧ n ≤ 1000000 ∧ ds.length * n.toNat ≤ 1000000 then .ok (.lst (List.replicate n.toNat ds).flatten) om else .stuck := rfl
@[simp] theorem o_lt : cmp T .lt (.int m) (.int n) om = .ok (decide (m < n)) om := rfl
@[simp] theorem o_le : cmp T .le (.int m) (.int n) om = .ok (decide (m ≤ n)) om := rfl
@[simp] theorem o_gt : cmp T .gt (.int m) (.int n) om = .ok (decide (n < m)) om := rfl
@[simp] theorem o_ge : cmp T .ge (.int m) (.int n) om = .ok (decide (n ≤ m)) om := rfl
theorem beq_dec (m n : Int) : (m == n) = decide (m = n) := rfl
@[simp] theorem o_eqi : cmp T .eq (.int m) (.int n) om = .ok (decide (m = n)) om := rfl
@[simp] theorem o_nei : cmp T .ne (.int m) (.int n) om = .ok (!decide (m = n)) om := rfl
theorem o_eqs {s t : Str} (hs : PyData.strOk s = true) (ht : PyData.strOk t = true) : cmp T .eq (.str s) (.str t) om = .ok (s == t) om := by
  show (if ((PyData.strOk s && decide (0 ≤ 64)) && (PyData.strOk t && decide (0 ≤ 64))) = true then Rs.ok (s == t) om else .stuck) = _
  rw [hs, ht]
  rfl
theorem o_nes {s t : Str} (hs : PyData.strOk s = true) (ht : PyData.strOk t = true) : cmp T .ne (.str s) (.str t) om = .ok (!(s == t)) om := by
  show (if ((PyData.strOk s && decide (0 ≤ 64)) && (PyData.strOk t && decide (0 ≤ 64))) = true then Rs.ok (!(s == t)) om else .stuck) = _
  rw [hs, ht]
  rfl
@[simp] theorem o_eqb {s t : Bool} : cmp T .eq (.bl s) (.bl t) om = .ok (s == t) om := rfl
@[simp] theorem o_neb {s t : Bool} : cmp T .ne (.bl s) (.bl t) om = .ok (!(s == t)) om := rfl
@[simp] theorem o_isn : cmp T .is .non .non om = .ok true om := rfl
@[simp] theorem o_isi : cmp T .is (.int n) .non om = .ok false om := rfl
@[simp] theorem o_iss {s : Str} : cmp T .is (.str s) .non om = .ok false om := rfl
@[simp] theorem o_isb {s : Bool} : cmp T .is (.bl s) .non om = .ok false om := rfl
@[simp] theorem o_isl : cmp T .is (.lst ds) .non om = .ok false om := rfl
@[simp] theorem o_ist : cmp T .is (.tup ds) .non om = .ok false om := rfl
@[simp] theorem o_iso {c : Nat} : cmp T .is (.obj c ds) .non om = .ok false om := rfl
@[simp] theorem o_isnn : cmp T .isn .non .non om = .ok false om := rfl
@[simp] theorem o_isni : cmp T .isn (.int n) .non om = .ok true om := rfl
@[simp] theorem o_isnl : cmp T .isn (.lst ds) .non om = .ok true om := rfl
@[simp] theorem o_isnt : cmp T .isn (.tup ds) .non om = .ok true om := rfl
@[simp] theorem b_lenl : biD T .len (.lst ds) om = .ok (.int ds.length) om := rfl
@[simp] theorem b_lent : biD T .len (.tup ds) om = .ok (.int ds.length) om := rfl
@[simp] theorem b_lens : biD T .len (.scr ds) om = .ok (.int ds.length) om := rfl
@[simp] theorem b_inti : biD T .int (.int n) om = .ok (.int n) om := rfl
@[simp] theorem b_intb {b : Bool} : biD T .int (.bl b) om = .ok (.int (if b = true then 1 else 0)) om := by cases b <;> rfl
@[simp] theorem b_abs : biD T .abs (.int n) om = .ok (.int (if n < 0 then -n else n)) om := rfl
@[simp] theorem b_ll : biD T .list (.lst ds) om = .ok (.lst ds) om := rfl
@[simp] theorem b_lt : biD T .list (.tup ds) om = .ok (.lst ds) om := rfl
@[simp] theorem b_ls : biD T .list (.scr ds) om = .ok (.lst ds) om := rfl
@[simp] theorem b_tl : biD T .tuple (.lst ds) om = .ok (.tup ds) om := rfl
@[simp] theorem b_strs {s : Str} : biD T .str (.str s) om = .ok (.str s) om := rfl
@[simp] theorem b_boolb {b : Bool} : biD T .bool (.bl b) om = .ok (.bl b) om := rfl
theorem b_boola {k : Nat} (h : om[k]? = some (.pl ds)) : biD T .bool (.amb k) om = .ok (.bl (!ds.isEmpty)) om := by rw [biD, h]
theorem b_tupa {k : Nat} (h : om[k]? = some (.pl ds)) : biD T .tuple (.amb k) om = .ok (.tup ds) om := by rw [biD, h]
theorem o_inna {k : Nat} {b : Bool} (h : om[k]? = some (.pl ds)) (h2 : inD x ds = some b) : cmp T .inn x (.amb k) om = .ok b om := by
  show opt (inA x (.amb k) om) om = _
  unfold inA
  dsimp only
  rw [h]
  show opt (inD x ds) om = _
  rw [h2]
  rfl
theorem o_nina {k : Nat} {b : Bool} (h : om[k]? = some (.pl ds)) (h2 : inD x ds = some b) : cmp T .nin x (.amb k) om = .ok (!b) om := by
  show opt ((inA x (.amb k) om).map (!·)) om = _
  unfold inA
  dsimp only
  rw [h]
  show opt ((inD x ds).map (!·)) om = _
  rw [h2]
  rfl
theorem o_innt {b : Bool} (h2 : inT x ds = some b) : cmp T .inn x (.tup ds) om = .ok b om := by
  show opt (inT x ds) om = _
  rw [h2]
  rfl
theorem o_nint {b : Bool} (h2 : inT x ds = some b) : cmp T .nin x (.tup ds) om = .ok (!b) om := by
  show opt ((inT x ds).map (!·)) om = _
  rw [h2]
  rfl
@[simp] theorem o_mult : bop T .mul (.tup ds) (.int n) om = if 0 ≤ n ∧ n ≤ 1000 ∧ ds.isEmpty = false ∧ ds.length ≤ 1000 then .ok (.tup (List.replicate n.toNat ds).flatten) om else .stuck := rfl
@[simp] theorem b_tt : biD T .tuple (.tup ds) om = .ok (.tup ds) om := rfl
@[simp] theorem x_l (h : atI ds n = some d) : ixD (.lst ds) (.int n) om = .ok d om := by rw [ixD, h]
@[simp] theorem x_t (h : atI ds n = some d) : ixD (.tup ds) (.int n) om = .ok d om := by rw [ixD, h]
theorem x_p {k : Nat} (h0 : om[k]? = some (.pl ds)) (h : atI ds n = some d) : ixD (.amb k) (.int n) om = .ok d om := by
  rw [ixD, h0]
  show (match atI ds n with | some d => Rs.ok d om | none => .stuck) = _
  rw [h]
@[simp] theorem sl_l {l h : Option Int} : slD (.lst ds) l h om = .ok (.lst (cutD ds l h)) om := rfl
@[simp] theorem sl_t {l h : Option Int} : slD (.tup ds) l h om = .ok (.tup (cutD ds l h)) om := rfl
theorem atI_nat {α : Type} {xs : List α} {k : Nat} : atI xs (k : Int) = xs[k]? := by
  unfold atI ixN
  rw [if_pos (by omega)]
  by_cases h : k < xs.length
  · rw [if_pos (by omega)]
    rfl
  · rw [if_neg (by omega), List.getElem?_eq_none (by omega)]
    rfl
theorem atI_nn {α : Type} {xs : List α} {n : Int} (h : 0 ≤ n) : atI xs n = xs[n.toNat]? := by
  obtain ⟨k, rfl⟩ := Int.eq_ofNat_of_zero_le h
  exact atI_nat
@[simp] theorem atI0 {α : Type} {x : α} {xs : List α} : atI (x :: xs) 0 = some x := by rw [atI_nn (by decide)]; rfl
@[simp] theorem atI1 {α : Type} {x y : α} {xs : List α} : atI (x :: y :: xs) 1 = some y := by rw [atI_nn (by decide)]; rfl
@[simp] theorem atI2 {α : Type} {x y z : α} {xs : List α} : atI (x :: y :: z :: xs) 2 = some z := by rw [atI_nn (by decide)]; rfl
@[simp] theorem atI3 {α : Type} {x y z u : α} {xs : List α} : atI (x :: y :: z :: u :: xs) 3 = some u := by rw [atI_nn (by decide)]; rfl
/-! ### statements -/
def seqO (T : Tb) (o : Out) (b : S) : Out := match o with
    | .next sl om => evS T b sl om
    | o => o
@[simp] theorem z_skip : evS T .skip sl om = .next sl om := by rw [evS]
@[simp] theorem z_seq {a b : S} : evS T (.seq a b) sl om = seqO T (evS T a sl om) b := by rw [evS]; rfl
@[simp] theorem z_seq1 {b : S} : seqO T (.next sl om) b = evS T b sl om := rfl
@[simp] theorem z_seq2 {b : S} : seqO T (.ret d om) b = .ret d om := rfl
@[simp] theorem z_seq3 {b : S} : seqO T (.retF ds om) b = .retF ds om := rfl
@[simp] theorem z_seq4 {b : S} : seqO T (.brk sl om) b = .brk sl om := rfl
@[simp] theorem z_seq5 {b : S} : seqO T (.cnt sl om) b = .cnt sl om := rfl
@[simp] theorem z_seq6 {b : S} {c : Nat} : seqO T (.exc c ds sl om) b = .exc c ds sl om := rfl
def kSet (r : Rs D) (i : Nat) (sl : Sl) : Out := r.out sl fun d om => .next (sl.set i (.val d)) om
@[simp] theorem z_set {e : E} : evS T (.set i e) sl om = kSet (evE T e sl om) i sl := by rw [evS]; rfl
@[simp] theorem z_set1 : kSet (.ok d om) i sl = .next (sl.set i (.val d)) om := rfl
def kSetO (r : Rs D) (i : Nat) (sl : Sl) : Out := r.out sl fun d om => match d with
    | .lst ds => .next (sl.set i (.own ds)) om
    | _ => .stuck
@[simp] theorem z_setO {e : E} : evS T (.setO i e) sl om = kSetO (evE T e sl om) i sl := by rw [evS]; rfl
@[simp] theorem z_setO1 : kSetO (.ok (.lst ds) om) i sl = .next (sl.set i (.own ds)) om := rfl
def kSetA (r : Rs D) (i : Nat) (sl : Sl) : Out := r.out sl fun d om => match d with
    | .lst ds => .next (sl.set i (.val (.amb om.length))) (om ++ [.pl ds])
    | _ => .stuck
@[simp] theorem z_setA {e : E} : evS T (.setA i e) sl om = kSetA (evE T e sl om) i sl := by rw [evS]; rfl
@[simp] theorem z_setA1 : kSetA (.ok (.lst ds) om) i sl = .next (sl.set i (.val (.amb om.length))) (om ++ [.pl ds]) := rfl
theorem z_fz (h : sl[i]? = some (.own ds)) : evS T (.fz i) sl om = .next (sl.set i (.val (.lst ds))) om := by rw [evS, h]
def kSetT (r : Rs D) (is : List Nat) (sl : Sl) : Out := r.out sl fun d om => match PD.setT sl (.many is) d with
    | some sl => .next sl om
    | none => .stuck
@[simp] theorem z_setT {is : List Nat} {e : E} : evS T (.setT is e) sl om = kSetT (evE T e sl om) is sl := by rw [evS]; rfl
@[simp] theorem z_setT1 {is : List Nat} : kSetT (.ok (.tup ds) om) is sl = if ds.length = is.length then .next (sets sl is ds) om else .stuck := by
  show (match (if ds.length = is.length then some (sets sl is ds) else none) with
    | some sl => Out.next sl om
    | none => .stuck) = _
  by_cases h : ds.length = is.length
  · rw [if_pos h, if_pos h]
  · rw [if_neg h, if_neg h]
@[simp] theorem s_cons {is : List Nat} : sets sl (i :: is) (d :: ds) = sets (sl.set i (.val d)) is ds := rfl
@[simp] theorem s_nil : sets sl [] ds = sl := by cases ds <;> rfl
def kPar (T : Tb) (r : Rs D) (i j : Nat) (b : E) (sl : Sl) : Out := r.out sl fun x om => (evE T b sl om).out sl fun y om => .next ((sl.set i (.val x)).set j (.val y)) om
def kPar2 (r : Rs D) (i j : Nat) (x : D) (sl : Sl) : Out := r.out sl fun y om => .next ((sl.set i (.val x)).set j (.val y)) om
@[simp] theorem z_par {a b : E} : evS T (.par i j a b) sl om = kPar T (evE T a sl om) i j b sl := by rw [evS]; rfl
@[simp] theorem z_par1 {b : E} : kPar T (.ok x om) i j b sl = kPar2 (evE T b sl om) i j x sl := rfl
@[simp] theorem z_par2 : kPar2 (.ok y om) i j x sl = .next ((sl.set i (.val x)).set j (.val y)) om := rfl
def kApp (r : Rs D) (i : Nat) (ds : List D) (sl : Sl) : Out := r.out sl fun d om => if ds.length < 1000000 then .next (sl.set i (.own (ds ++ [d]))) om else .stuck
@[simp] theorem z_app {e : E} (h : sl[i]? = some (.own ds)) : evS T (.app i e) sl om = kApp (evE T e sl om) i ds sl := by rw [evS, h]; rfl
@[simp] theorem z_app1 : kApp (.ok d om) i ds sl = if ds.length < 1000000 then .next (sl.set i (.own (ds ++ [d]))) om else .stuck := rfl
def kExt (r : Rs D) (i : Nat) (ds : List D) (sl : Sl) : Out := r.out sl fun d om => match d with
      | .lst es => if ds.length + es.length ≤ 1000000 then .next (sl.set i (.own (ds ++ es))) om else .stuck
      | _ => .stuck
@[simp] theorem z_ext {e : E} (h : sl[i]? = some (.own ds)) : evS T (.ext i e) sl om = kExt (evE T e sl om) i ds sl := by rw [evS, h]; rfl
@[simp] theorem z_ext1 : kExt (.ok (.lst es) om) i ds sl = if ds.length + es.length ≤ 1000000 then .next (sl.set i (.own (ds ++ es))) om else .stuck := rfl
def kSI (T : Tb) (r : Rs D) (i : Nat) (x : E) (ds : List D) (sl : Sl) : Out := r.out sl fun d om => (evE T x sl om).out sl fun n om => match n with
      | .int n => match ixN ds.length n with
        | some j => .next (sl.set i (.own (ds.set j d))) om
        | none => .stuck
      | _ => .stuck
def kSI2 (r : Rs D) (i : Nat) (d : D) (ds : List D) (sl : Sl) : Out := r.out sl fun n om => match n with
      | .int n => match ixN ds.length n with
        | some j => .next (sl.set i (.own (ds.set j d))) om
        | none => .stuck
      | _ => .stuck
@[simp] theorem z_setI {x e : E} (h : sl[i]? = some (.own ds)) : evS T (.setI i x e) sl om = kSI T (evE T e sl om) i x ds sl := by rw [evS, h]; rfl
@[simp] theorem z_setI1 {x : E} : kSI T (.ok d om) i x ds sl = kSI2 (evE T x sl om) i d ds sl := rfl
@[simp] theorem z_setI2 (h : ixN ds.length n = some j) : kSI2 (.ok (.int n) om) i d ds sl = .next (sl.set i (.own (ds.set j d))) om := by
  show (match ixN ds.length n with | some j => Out.next (sl.set i (.own (ds.set j d))) om | none => .stuck) = _
  rw [h]
def kSP (T : Tb) (r : Rs D) (x : E) (k : Nat) (sl : Sl) : Out := r.out sl fun d om => (evE T x sl om).out sl fun n om => match n with
      | .int n => match om[k]? with
        | some (.pl ds) => match ixN ds.length n with
          | some j => .next sl (om.set k (.pl (ds.set j d)))
          | none => .stuck
        | _ => .stuck
      | _ => .stuck
def kSP2 (r : Rs D) (d : D) (k : Nat) (sl : Sl) : Out := r.out sl fun n om => match n with
      | .int n => match om[k]? with
        | some (.pl ds) => match ixN ds.length n with
          | some j => .next sl (om.set k (.pl (ds.set j d)))
          | none => .stuck
        | _ => .stuck
      | _ => .stuck
@[simp] theorem z_setIA {x e : E} {k : Nat} (h : sl[i]? = some (.val (.amb k))) : evS T (.setIA i x e) sl om = kSP T (evE T e sl om) x k sl := by rw [evS, h]; rfl
@[simp] theorem z_setIA1 {x : E} {k : Nat} : kSP T (.ok d om) x k sl = kSP2 (evE T x sl om) d k sl := rfl
theorem z_setIA2 {k : Nat} (h0 : om[k]? = some (.pl ds)) (h : ixN ds.length n = some j) : kSP2 (.ok (.int n) om) d k sl = .next sl (om.set k (.pl (ds.set j d))) := by
  show (match om[k]? with
        | some (.pl ds) => match ixN ds.length n with
          | some j => Out.next sl (om.set k (.pl (ds.set j d)))
          | none => .stuck
        | _ => .stuck) = _
  rw [h0]
  show (match ixN ds.length n with
          | some j => Out.next sl (om.set k (.pl (ds.set j d)))
          | none => .stuck) = _
  rw [h]
def kSF (r : Rs D) (c j : Nat) (sl : Sl) : Out := r.out sl fun d om => match sl[(0 : Nat)]? with
    | some (.newo c' fs) => if c' = c ∧ fs.length = j then .next (sl.set 0 (.newo c (fs ++ [d]))) om else .stuck
    | _ => .stuck
@[simp] theorem z_setF {c : Nat} {e : E} : evS T (.setF c j e) sl om = kSF (evE T e sl om) c j sl := by rw [evS]; rfl
@[simp] theorem z_setF1 {c : Nat} (h : sl[(0 : Nat)]? = some (.newo c ds)) (hj : ds.length = j) : kSF (.ok d om) c j sl = .next (sl.set 0 (.newo c (ds ++ [d]))) om := by
  show (match sl[(0 : Nat)]? with
    | some (.newo c' fs) => if c' = c ∧ fs.length = j then Out.next (sl.set 0 (.newo c (fs ++ [d]))) om else .stuck
    | _ => .stuck) = _
  rw [h]
  exact if_pos ⟨rfl, hj⟩
def kTF (r : Rs D) (c j k : Nat) (sl : Sl) : Out := r.out sl fun d om => match om[k]? with
      | some (.ob c' fs) => if c' = c then if j < fs.length then .next sl (om.set k (.ob c (fs.set j d))) else if j = fs.length then .next sl (om.set k (.ob c (fs ++ [d]))) else .stuck else .stuck
      | _ => .stuck
@[simp] theorem z_stF {c k : Nat} {e : E} (h : sl[i]? = some (.val (.amb k))) : evS T (.stF i c j e) sl om = kTF (evE T e sl om) c j k sl := by rw [evS, h]; rfl
theorem z_stF1 {c k : Nat} (h : om[k]? = some (.ob c ds)) (hj : j < ds.length) : kTF (.ok d om) c j k sl = .next sl (om.set k (.ob c (ds.set j d))) := by
  show (match om[k]? with
      | some (.ob c' fs) => if c' = c then if j < fs.length then Out.next sl (om.set k (.ob c (fs.set j d))) else if j = fs.length then .next sl (om.set k (.ob c (fs ++ [d]))) else .stuck else .stuck
      | _ => .stuck) = _
  rw [h]
  show (if c = c then _ else _) = _
  rw [if_pos rfl, if_pos hj]
theorem z_stF2 {c k : Nat} (h : om[k]? = some (.ob c ds)) (hj : j = ds.length) : kTF (.ok d om) c j k sl = .next sl (om.set k (.ob c (ds ++ [d]))) := by
  show (match om[k]? with
      | some (.ob c' fs) => if c' = c then if j < fs.length then Out.next sl (om.set k (.ob c (fs.set j d))) else if j = fs.length then .next sl (om.set k (.ob c (fs ++ [d]))) else .stuck else .stuck
      | _ => .stuck) = _
  rw [h]
  show (if c = c then _ else _) = _
  rw [if_pos rfl, if_neg (by omega), if_pos hj]
def kAF (r : Rs D) (c j k : Nat) (m : Int) (sl : Sl) : Out := r.out sl fun y om => match y with
            | .int n => match om[k]? with
              | some (.ob c' fs) => if c' = c ∧ j < fs.length then .next sl (om.set k (.ob c (fs.set j (.int (m + n))))) else .stuck
              | _ => .stuck
            | _ => .stuck
theorem z_auF {c k : Nat} {e : E} (h : sl[i]? = some (.val (.amb k))) (h0 : om[k]? = some (.ob c ds)) (h1 : ds[j]? = some (.int m)) : evS T (.auF i c j e) sl om = kAF (evE T e sl om) c j k m sl := by
  rw [evS, h]
  dsimp only
  rw [h0]
  show (if c = c then _ else _) = _
  rw [if_pos rfl, h1]
  rfl
theorem z_auF1 {c k : Nat} (h0 : om[k]? = some (.ob c ds)) (hj : j < ds.length) : kAF (.ok (.int n) om) c j k m sl = .next sl (om.set k (.ob c (ds.set j (.int (m + n))))) := by
  show (match om[k]? with
              | some (.ob c' fs) => if c' = c ∧ j < fs.length then Out.next sl (om.set k (.ob c (fs.set j (.int (m + n))))) else .stuck
              | _ => .stuck) = _
  rw [h0]
  exact if_pos ⟨rfl, hj⟩
def kPutE (T : Tb) (r : Rs D) (e : E) (sl : Sl) : Out := r.out sl fun r om => match r with
    | .amb k => match om[k]? with
      | some (.pl _) => (evE T e sl om).out sl fun d om => match om[k]? with
        | some (.pl ds) => if ds.length < 1000000 then .next sl (om.set k (.pl (ds ++ [d]))) else .stuck
        | _ => .stuck
      | _ => .stuck
    | _ => .stuck
def kPutE2 (r : Rs D) (k : Nat) (sl : Sl) : Out := r.out sl fun d om => match om[k]? with
        | some (.pl ds) => if ds.length < 1000000 then .next sl (om.set k (.pl (ds ++ [d]))) else .stuck
        | _ => .stuck
@[simp] theorem z_appE {o e : E} : evS T (.appE o e) sl om = kPutE T (evE T o sl om) e sl := by rw [evS]; rfl
theorem z_appE1 {k : Nat} {e : E} (h : om[k]? = some (.pl ds)) : kPutE T (.ok (.amb k) om) e sl = kPutE2 (evE T e sl om) k sl := by
  show (match om[k]? with
      | some (.pl _) => (evE T e sl om).out sl fun d om => match om[k]? with
        | some (.pl ds) => if ds.length < 1000000 then Out.next sl (om.set k (.pl (ds ++ [d]))) else .stuck
        | _ => .stuck
      | _ => .stuck) = _
  rw [h]
  rfl
theorem z_appE2 {k : Nat} (h : om[k]? = some (.pl ds)) (hl : ds.length < 1000000) : kPutE2 (.ok d om) k sl = .next sl (om.set k (.pl (ds ++ [d]))) := by
  show (match om[k]? with
        | some (.pl ds) => if ds.length < 1000000 then Out.next sl (om.set k (.pl (ds ++ [d]))) else .stuck
        | _ => .stuck) = _
  rw [h]
  exact if_pos hl
def kDp (T : Tb) (r : Rs D) (o : E) (k : L2.Key) (sl : Sl) : Out := r.out sl fun d om => (evE T o sl om).out sl fun r om => match r with
    | .amb j => match om[j]? with
      | some (.dc ks ds) => match dpD ks ds k d with | some es => .next sl (om.set j (.dc ks es)) | none => .stuck
      | _ => .stuck
    | _ => .stuck
def kDp2 (r : Rs D) (d : D) (k : L2.Key) (sl : Sl) : Out := r.out sl fun r om => match r with
    | .amb j => match om[j]? with
      | some (.dc ks ds) => match dpD ks ds k d with | some es => .next sl (om.set j (.dc ks es)) | none => .stuck
      | _ => .stuck
    | _ => .stuck
@[simp] theorem z_dput {o e : E} {k : L2.Key} : evS T (.dput o k e) sl om = kDp T (evE T e sl om) o k sl := by rw [evS]; rfl
@[simp] theorem z_dput1 {o : E} {k : L2.Key} : kDp T (.ok d om) o k sl = kDp2 (evE T o sl om) d k sl := rfl
theorem z_dput2 {k : L2.Key} {ks : List L2.Key} (h : om[j]? = some (.dc ks ds)) (h2 : dpD ks ds k d = some es) : kDp2 (.ok (.amb j) om) d k sl = .next sl (om.set j (.dc ks es)) := by
  show (match om[j]? with
      | some (.dc ks ds) => match dpD ks ds k d with | some es => Out.next sl (om.set j (.dc ks es)) | none => .stuck
      | _ => .stuck) = _
  rw [h]
  show (match dpD ks ds k d with | some es => Out.next sl (om.set j (.dc ks es)) | none => .stuck) = _
  rw [h2]
def kAu (r : Rs D) (i : Nat) (o : Bop) (m : Int) (sl : Sl) : Out := r.out sl fun y om => match o, y with
      | .add, .int n => .next (sl.set i (.val (.int (m + n)))) om
      | .sub, .int n => .next (sl.set i (.val (.int (m - n)))) om
      | _, _ => .stuck
@[simp] theorem z_aug {o : Bop} {e : E} (h : sl[i]? = some (.val (.int m))) : evS T (.aug i o e) sl om = kAu (evE T e sl om) i o m sl := by rw [evS, h]; rfl
@[simp] theorem z_aug1 : kAu (.ok (.int n) om) i .add m sl = .next (sl.set i (.val (.int (m + n)))) om := rfl
@[simp] theorem z_aug2 : kAu (.ok (.int n) om) i .sub m sl = .next (sl.set i (.val (.int (m - n)))) om := rfl
def kDr (r : Rs D) (sl : Sl) : Out := r.out sl fun _ om => .next sl om
@[simp] theorem z_drop {e : E} : evS T (.drop e) sl om = kDr (evE T e sl om) sl := by rw [evS]; rfl
@[simp] theorem z_drop1 : kDr (.ok d om) sl = .next sl om := rfl
def kIf (T : Tb) (r : Rs Bool) (a b : S) (sl : Sl) : Out := r.out sl fun t om => if t = true then evS T a sl om else evS T b sl om
@[simp] theorem z_ite {c : E} {a b : S} : evS T (.ite c a b) sl om = kIf T (kTr (evE T c sl om)) a b sl := by rw [evS]; rfl
@[simp] theorem z_ite1 {a b : S} : kIf T (.ok true om) a b sl = evS T a sl om := rfl
@[simp] theorem z_ite2 {a b : S} : kIf T (.ok false om) a b sl = evS T b sl om := rfl
@[simp] theorem z_brk : evS T .brk sl om = .brk sl om := by rw [evS]
@[simp] theorem z_cnt : evS T .cnt sl om = .cnt sl om := by rw [evS]
@[simp] theorem z_retN : evS T .retN sl om = .ret .non om := by rw [evS]
def kRet (r : Rs D) (sl : Sl) : Out := r.out sl fun d om => .ret d om
@[simp] theorem z_ret {e : E} : evS T (.ret e) sl om = kRet (evE T e sl om) sl := by rw [evS]; rfl
@[simp] theorem z_ret1 : kRet (.ok d om) sl = .ret d om := rfl
def kRetF (r : Rs D) (sl : Sl) : Out := r.out sl fun d om => match d with
    | .lst ds => .retF ds om
    | _ => .stuck
@[simp] theorem z_retF {e : E} : evS T (.retF e) sl om = kRetF (evE T e sl om) sl := by rw [evS]; rfl
@[simp] theorem z_retF1 : kRetF (.ok (.lst ds) om) sl = .retF ds om := rfl
@[simp] theorem z_retO (h : sl[i]? = some (.own ds)) : evS T (.retO i) sl om = .retF ds om := by rw [evS, h]
/-! loops -/
def forG (T : Tb) (b : S) (tg : Tg) (ds : List D) (sl : Sl) (om : Om) : Out := forGo (evS T b) tg ds sl om
def kFo (T : Tb) (r : Rs (List D)) (tg : Tg) (b : S) (sl : Sl) : Out := r.out sl fun ds om => forG T b tg ds sl om
@[simp] theorem z_fo {tg : Tg} {it : E} {b : S} : evS T (.fo tg it b) sl om = kFo T (evI T it sl om) tg b sl := by rw [evS]; rfl
@[simp] theorem z_fo1 {tg : Tg} {b : S} : kFo T (.ok ds om) tg b sl = forG T b tg ds sl om := rfl
def kBody (T : Tb) (o : Out) (b : S) (tg : Tg) (ds : List D) : Out := match o with
      | .next sl om => forGo (evS T b) tg ds sl om
      | .cnt sl om => forGo (evS T b) tg ds sl om
      | .brk sl om => .next sl om
      | o => o
@[simp] theorem f_nil {tg : Tg} {b : S} : forG T b tg [] sl om = .next sl om := rfl
theorem f_cons {b : S} : forG T b (.one i) (d :: ds) sl om = kBody T (evS T b (sl.set i (.val d)) om) b (.one i) ds := rfl
theorem f_consT {b : S} {is : List Nat} (h : es.length = is.length) : forG T b (.many is) (.tup es :: ds) sl om = kBody T (evS T b (sets sl is es) om) b (.many is) ds := by
  unfold forG kBody
  rw [forGo]
  show (match (if es.length = is.length then some (sets sl is es) else none) with
    | none => Out.stuck
    | some sl => _) = _
  rw [if_pos h] <;> rfl
@[simp] theorem f_n {tg : Tg} {b : S} : kBody T (.next sl om) b tg ds = forG T b tg ds sl om := rfl
@[simp] theorem f_c {tg : Tg} {b : S} : kBody T (.cnt sl om) b tg ds = forG T b tg ds sl om := rfl
@[simp] theorem f_b {tg : Tg} {b : S} : kBody T (.brk sl om) b tg ds = .next sl om := rfl
@[simp] theorem f_r {tg : Tg} {b : S} : kBody T (.ret d om) b tg ds = .ret d om := rfl
@[simp] theorem f_rF {tg : Tg} {b : S} : kBody T (.retF es om) b tg ds = .retF es om := rfl
@[simp] theorem f_e {tg : Tg} {b : S} {c : Nat} : kBody T (.exc c es sl om) b tg ds = .exc c es sl om := rfl
def whlG (T : Tb) (c : E) (b : S) (n : Nat) (sl : Sl) (om : Om) : Out := whileGo (evT T c) (evS T b) n sl om
@[simp] theorem z_whl {c : E} {b : S} : evS T (.whl c b) sl om = whlG T c b T.wf sl om := by rw [evS]; rfl
def kW (T : Tb) (r : Rs Bool) (c : E) (b : S) (n : Nat) (sl : Sl) : Out := r.out sl fun t om => if t = true then match evS T b sl om with
      | .next sl om => whileGo (evT T c) (evS T b) n sl om
      | .cnt sl om => whileGo (evT T c) (evS T b) n sl om
      | .brk sl om => .next sl om
      | o => o
    else .next sl om
def kW2 (T : Tb) (o : Out) (c : E) (b : S) (n : Nat) : Out := match o with
      | .next sl om => whileGo (evT T c) (evS T b) n sl om
      | .cnt sl om => whileGo (evT T c) (evS T b) n sl om
      | .brk sl om => .next sl om
      | o => o
theorem w_step {c : E} {b : S} {n : Nat} : whlG T c b (n + 1) sl om = kW T (kTr (evE T c sl om)) c b n sl := rfl
@[simp] theorem w_t {c : E} {b : S} {n : Nat} : kW T (.ok true om) c b n sl = kW2 T (evS T b sl om) c b n := rfl
@[simp] theorem w_f {c : E} {b : S} {n : Nat} : kW T (.ok false om) c b n sl = .next sl om := rfl
@[simp] theorem w_n {c : E} {b : S} {n : Nat} : kW2 T (.next sl om) c b n = whlG T c b n sl om := rfl
@[simp] theorem w_c {c : E} {b : S} {n : Nat} : kW2 T (.cnt sl om) c b n = whlG T c b n sl om := rfl
@[simp] theorem w_b {c : E} {b : S} {n : Nat} : kW2 T (.brk sl om) c b n = .next sl om := rfl
@[simp] theorem w_r {c : E} {b : S} {n : Nat} : kW2 T (.ret d om) c b n = .ret d om := rfl
@[simp] theorem w_rF {c : E} {b : S} {n : Nat} : kW2 T (.retF ds om) c b n = .retF ds om := rfl
@[simp] theorem w_e {c : E} {b : S} {n k : Nat} : kW2 T (.exc k ds sl om) c b n = .exc k ds sl om := rfl
/-! comprehensions -/
@[simp] theorem c_nil {tg : Tg} {cond elt : E} : cmpG T cond elt tg sl [] om = .ok [] om := rfl
def kC (T : Tb) (r : Rs Bool) (cond elt : E) (tg : Tg) (sl sl' : Sl) (ds : List D) : Rs (List D) := match r with
      | .ok true om1 => match evE T elt sl' om1 with
        | .ok x om2 => match cmpG T cond elt tg sl ds om2 with
          | .ok xs om3 => .ok (x :: xs) om3
          | _ => .stuck
        | _ => .stuck
      | .ok false om1 => cmpG T cond elt tg sl ds om1
      | _ => .stuck
def kC2 (T : Tb) (r : Rs D) (cond elt : E) (tg : Tg) (sl : Sl) (ds : List D) : Rs (List D) := match r with
        | .ok x om2 => match cmpG T cond elt tg sl ds om2 with
          | .ok xs om3 => .ok (x :: xs) om3
          | _ => .stuck
        | _ => .stuck
def kC3 (r : Rs (List D)) (x : D) : Rs (List D) := match r with
          | .ok xs om3 => .ok (x :: xs) om3
          | _ => .stuck
theorem c_cons {cond elt : E} : cmpG T cond elt (.one i) sl (d :: ds) om = kC T (kTr (evE T cond (sl.set i (.val d)) om)) cond elt (.one i) sl (sl.set i (.val d)) ds := rfl
theorem c_consT {cond elt : E} {is : List Nat} (h : es.length = is.length) : cmpG T cond elt (.many is) sl (.tup es :: ds) om = kC T (kTr (evE T cond (sets sl is es) om)) cond elt (.many is) sl (sets sl is es) ds := by
  unfold cmpG
  rw [compGo]
  show (match (if es.length = is.length then some (sets sl is es) else none) with
    | none => Rs.stuck
    | some sl' => _) = _
  rw [if_pos h]
  rfl
@[simp] theorem c_t {cond elt : E} {tg : Tg} {sl' : Sl} : kC T (.ok true om) cond elt tg sl sl' ds = kC2 T (evE T elt sl' om) cond elt tg sl ds := rfl
@[simp] theorem c_f {cond elt : E} {tg : Tg} {sl' : Sl} : kC T (.ok false om) cond elt tg sl sl' ds = cmpG T cond elt tg sl ds om := rfl
@[simp] theorem c_2 {cond elt : E} {tg : Tg} : kC2 T (.ok x om) cond elt tg sl ds = kC3 (cmpG T cond elt tg sl ds om) x := rfl
@[simp] theorem c_3 : kC3 (.ok ds om) x = .ok (x :: ds) om := rfl
@[simp] theorem wi_1 : wipeS sl (tgIx (.one i)) = sl.set i .no := rfl
@[simp] theorem wi_m {is : List Nat} : wipeS sl (tgIx (.many is)) = wipeS sl is := rfl
@[simp] theorem wi_c {is : List Nat} : wipeS sl (i :: is) = (wipeS sl is).set i .no := rfl
@[simp] theorem wi_n : wipeS sl [] = sl := rfl
end
/-! ### calls -/
section
variable {p : Prog} {wf n : Nat}
@[simp] theorem t_call : (tab p wf n).call = callN p wf n := rfl
@[simp] theorem t_init : (tab p wf n).init = initN p wf n := rfl
@[simp] theorem t_wf : (tab p wf n).wf = wf := rfl
@[simp] theorem t_nf : (tab p wf n).nf = p.nf := rfl
@[simp] theorem t_opm : (tab p wf n).opm = p.opm := rfl
@[simp] theorem t_eqm : (tab p wf n).eqm = p.eqm := rfl
@[simp] theorem t_strm : (tab p wf n).strm = p.strm := rfl
theorem call_ret {f : Nat} {d : Def} {ds : List D} {om om' : Om} {x : D} (hd : p.defs f = some d) (hl : ds.length = d.np) (hf : p.fresh f = false) (h : evS (tab p wf n) d.body (slots d ds) om = .ret x om') : callN p wf (n + 1) f ds om = .ok x om' := by
  unfold tab at h
  rw [callN, hd]
  dsimp only
  rw [if_pos hl, h]
  dsimp only
  rw [if_neg (by rw [hf]; decide)]
theorem call_retF {f : Nat} {d : Def} {ds xs : List D} {om om' : Om} (hd : p.defs f = some d) (hl : ds.length = d.np) (h : evS (tab p wf n) d.body (slots d ds) om = .retF xs om') : callN p wf (n + 1) f ds om = .ok (.lst xs) om' := by
  unfold tab at h
  rw [callN, hd]
  dsimp only
  rw [if_pos hl, h]
theorem call_next {f : Nat} {d : Def} {ds : List D} {om om' : Om} {sl : Sl} (hd : p.defs f = some d) (hl : ds.length = d.np) (hf : p.fresh f = false) (h : evS (tab p wf n) d.body (slots d ds) om = .next sl om') : callN p wf (n + 1) f ds om = .ok .non om' := by
  unfold tab at h
  rw [callN, hd]
  dsimp only
  rw [if_pos hl, h]
  dsimp only
  rw [if_neg (by rw [hf]; decide)]
theorem call_exc {f : Nat} {d : Def} {ds fs : List D} {om om' : Om} {sl : Sl} {c : Nat} (hd : p.defs f = some d) (hl : ds.length = d.np) (h : evS (tab p wf n) d.body (slots d ds) om = .exc c fs sl om') : callN p wf (n + 1) f ds om = .exc c fs om' := by
  unfold tab at h
  rw [callN, hd]
  dsimp only
  rw [if_pos hl, h]
theorem init_next {f c : Nat} {d : Def} {ds fs : List D} {om om' : Om} {sl : Sl} (hd : p.defs f = some d) (hc : d.cls = some c) (hl : ds.length + 1 = d.np) (h : evS (tab p wf n) d.body (.newo c [] :: (ds.map .val ++ List.replicate (d.nl - d.np) .no)) om = .next sl om') (h0 : sl[(0 : Nat)]? = some (.newo c fs)) : initN p wf (n + 1) f ds om = .ok fs om' := by
  unfold tab at h
  rw [initN, hd]
  dsimp only
  rw [hc]
  dsimp only
  rw [if_pos hl, h]
  dsimp only
  rw [h0]
  exact if_pos rfl
theorem init_exc {f c c' : Nat} {d : Def} {ds fs : List D} {om om' : Om} {sl : Sl} (hd : p.defs f = some d) (hc : d.cls = some c) (hl : ds.length + 1 = d.np) (h : evS (tab p wf n) d.body (.newo c [] :: (ds.map .val ++ List.replicate (d.nl - d.np) .no)) om = .exc c' fs sl om') : initN p wf (n + 1) f ds om = .exc c' fs om' := by
  unfold tab at h
  rw [initN, hd]
  dsimp only
  rw [hc]
  dsimp only
  rw [if_pos hl, h]
end
/-! ### loops by what they keep -/
section
variable {T : Tb} {sl : Sl} {om om' : Om} {x y d : D} {ds es : List D} {i j : Nat}
/-- a loop over a list: what holds after the items done; the items left are still to come -/
theorem for_keep {b : S} {α : Type} {f : α → D} (I : List α → Sl → Om → Prop) : ∀ (xs done : List α) (sl : Sl) (om : Om), I done sl om →
    (∀ done x, x ∈ xs → ∀ sl om, I done sl om → ∃ sl' om', evS T b (sl.set i (.val (f x))) om = .next sl' om' ∧ I (done ++ [x]) sl' om') →
    ∃ sl' om', forG T b (.one i) (xs.map f) sl om = .next sl' om' ∧ I (done ++ xs) sl' om'
  | [], done, sl, om, h, _ => ⟨sl, om, rfl, by rw [List.append_nil]; exact h⟩
  | x :: xs, done, sl, om, h, st => by
    obtain ⟨sl1, om1, e1, h1⟩ := st done x List.mem_cons_self sl om h
    obtain ⟨sl2, om2, e2, h2⟩ := for_keep I xs (done ++ [x]) sl1 om1 h1 fun dn y hy => st dn y (List.mem_cons_of_mem _ hy)
    refine ⟨sl2, om2, ?_, by rw [List.append_assoc] at h2; exact h2⟩
    rw [List.map_cons, f_cons, e1, f_n, e2]
theorem for_keepT {b : S} {α : Type} {is : List Nat} {f : α → List D} (hf : ∀ x, (f x).length = is.length) (I : List α → Sl → Om → Prop) : ∀ (xs done : List α) (sl : Sl) (om : Om), I done sl om →
    (∀ done x, x ∈ xs → ∀ sl om, I done sl om → ∃ sl' om', evS T b (sets sl is (f x)) om = .next sl' om' ∧ I (done ++ [x]) sl' om') →
    ∃ sl' om', forG T b (.many is) (xs.map fun x => .tup (f x)) sl om = .next sl' om' ∧ I (done ++ xs) sl' om'
  | [], done, sl, om, h, _ => ⟨sl, om, rfl, by rw [List.append_nil]; exact h⟩
  | x :: xs, done, sl, om, h, st => by
    obtain ⟨sl1, om1, e1, h1⟩ := st done x List.mem_cons_self sl om h
    obtain ⟨sl2, om2, e2, h2⟩ := for_keepT hf I xs (done ++ [x]) sl1 om1 h1 fun dn y hy => st dn y (List.mem_cons_of_mem _ hy)
    refine ⟨sl2, om2, ?_, by rw [List.append_assoc] at h2; exact h2⟩
    rw [List.map_cons, f_consT (hf x), e1, f_n, e2]
/-- a comprehension whose items come out one by one -/
theorem comp_keep {cond elt : E} {α : Type} {f : α → D} (I : List α → List D → Om → Prop) : ∀ (xs done : List α) (ys : List D) (om : Om), I done ys om →
    (∀ done ys x, x ∈ xs → ∀ om, I done ys om → ∃ y om', kTr (evE T cond (sl.set i (.val (f x))) om) = .ok true om ∧ evE T elt (sl.set i (.val (f x))) om = .ok y om' ∧ I (done ++ [x]) (ys ++ [y]) om') →
    ∃ zs om', cmpG T cond elt (.one i) sl (xs.map f) om = .ok zs om' ∧ I (done ++ xs) (ys ++ zs) om'
  | [], done, ys, om, h, _ => ⟨[], om, rfl, by rw [List.append_nil, List.append_nil]; exact h⟩
  | x :: xs, done, ys, om, h, st => by
    obtain ⟨y, om1, e0, e1, h1⟩ := st done ys x List.mem_cons_self om h
    obtain ⟨zs, om2, e2, h2⟩ := comp_keep I xs (done ++ [x]) (ys ++ [y]) om1 h1 fun dn y z hy => st dn y z (List.mem_cons_of_mem _ hy)
    refine ⟨y :: zs, om2, ?_, by rw [List.append_assoc, List.append_assoc] at h2; exact h2⟩
    rw [List.map_cons, c_cons, e0, c_t, e1, c_2, e2, c_3]
/-- a comprehension of plain items -/
theorem comp_map {cond elt : E} {α : Type} {f g : α → D} : ∀ (xs : List α), (∀ x ∈ xs, kTr (evE T cond (sl.set i (.val (f x))) om) = .ok true om ∧ evE T elt (sl.set i (.val (f x))) om = .ok (g x) om) →
    cmpG T cond elt (.one i) sl (xs.map f) om = .ok (xs.map g) om
  | [], _ => rfl
  | x :: xs, st => by
    obtain ⟨e0, e1⟩ := st x List.mem_cons_self
    rw [List.map_cons, c_cons, e0, c_t, e1, c_2, comp_map xs fun y hy => st y (List.mem_cons_of_mem _ hy), c_3]
    rfl
end
end PD

set_option Elab.async false
set_option linter.all false
set_option maxRecDepth 100000
set_option maxHeartbeats 400000
/-! PDN: the pool. -/
namespace PD
open PySem PySem.Spec PyProof.Rows L2
theorem log2_small {n k : Nat} (h : n < 2 ^ k) (hk : 0 < k) : n.log2 < k := by
  by_cases h0 : n = 0
  · subst h0
    simpa using hk
  · exact (Nat.log2_lt h0).mpr h
theorem cmulW_s {i j : Int} {a b : Nat} (hi : i.natAbs < 2 ^ a) (hj : j.natAbs < 2 ^ b) (ha : 0 < a) (hb : 0 < b) (h : a + b ≤ 1000000) : CMulW i j := by
  have x := log2_small hi ha
  have y := log2_small hj hb
  unfold CMulW
  omega
theorem cdivW_s {i j : Int} {b : Nat} (h : 0 < j) (hj : j.natAbs < 2 ^ b) (hb : 0 < b) (hb' : b ≤ 9000) : CDivW i j := by
  have y := log2_small hj hb
  exact ⟨h, by omega⟩
/-- the pool -/
abbrev poolD (ns : List Int) (a b c d e : Int) : List D := [.lst (ns.map .int), .int a, .int b, .int c, .int d, .int e]
def PoolAt (om : Om) (r : Om) : Prop := ∃ ns a b c d e, om = .pl (poolD ns a b c d e) :: r ∧ 0 ≤ a ∧ 0 ≤ c ∧ c < 2147483647
/-- with so much left to spend -/
def PoolE (om : Om) (r : Om) (e : Int) : Prop := ∃ ns a b c d, om = .pl (poolD ns a b c d e) :: r ∧ 0 ≤ a ∧ 0 ≤ c ∧ c < 2147483647
theorem PoolE.at {om r : Om} {e : Int} (h : PoolE om r e) : PoolAt om r := by
  obtain ⟨ns, a, b, c, d, h⟩ := h
  exact ⟨ns, a, b, c, d, e, h⟩
theorem PoolAt.e {om r : Om} (h : PoolAt om r) : ∃ e, PoolE om r e := by
  obtain ⟨ns, a, b, c, d, e, h⟩ := h
  exact ⟨e, ns, a, b, c, d, h⟩
def drawB : S := (.seq (.ite (.an (.cm .le (.ix (.v 0) (.k (.int 2))) (.k (.int 0))) (.an (.cm .le (.ix (.v 0) (.k (.int 4))) (.k (.int 0))) (.cm .lt (.ix (.v 0) (.k (.int 1))) (.bi .len (.ix (.v 0) (.k (.int 0))))))) (.seq (.set 2 (.ix (.ix (.v 0) (.k (.int 0))) (.ix (.v 0) (.k (.int 1))))) (.seq (.setIA 0 (.k (.int 1)) (.op .add (.ix (.v 0) (.k (.int 1))) (.k (.int 1)))) (.seq (.setIA 0 (.k (.int 3)) (.op .mod (.bi .int (.op .add (.op .mul (.ix (.v 0) (.k (.int 3))) (.k (.int 31))) (.v 2))) (.k (.int 2147483647)))) (.seq (.setIA 0 (.k (.int 4)) (.k (.int 7))) (.seq (.ite (.cm .ge (.v 2) (.op .pow (.k (.int 10)) (.k (.int 18)))) (.seq (.setIA 0 (.k (.int 2)) (.v 2)) .skip) .skip) .skip))))) .skip) (.seq (.ite (.cm .gt (.ix (.v 0) (.k (.int 2))) (.k (.int 0))) (.seq (.set 3 (.op .mod (.bi .int (.ix (.v 0) (.k (.int 2)))) (.v 1))) (.seq (.setIA 0 (.k (.int 2)) (.op .fdiv (.ix (.v 0) (.k (.int 2))) (.v 1))) (.seq (.setIA 0 (.k (.int 4)) (.k (.int 0))) (.seq (.ret (.v 3)) .skip)))) .skip) (.seq (.setIA 0 (.k (.int 4)) (.op .sub (.ix (.v 0) (.k (.int 4))) (.k (.int 1)))) (.seq (.setIA 0 (.k (.int 3)) (.op .mod (.bi .int (.op .add (.op .mul (.ix (.v 0) (.k (.int 3))) (.k (.int 48271))) (.k (.int 12345)))) (.k (.int 2147483647)))) (.seq (.ret (.op .mod (.op .mod (.bi .int (.op .add (.op .mul (.ix (.v 0) (.k (.int 3))) (.k (.int 69621))) (.k (.int 7919)))) (.k (.int 2147483647))) (.v 1))) .skip)))))
def spendB : S := (.seq (.setIA 0 (.k (.int 5)) (.op .sub (.ix (.v 0) (.k (.int 5))) (.k (.int 1)))) (.seq (.ret (.cm .ge (.ix (.v 0) (.k (.int 5))) (.k (.int 0)))) .skip))
def poolB : S := (.seq (.retF (.lst (.cons (.bi .list (.v 0)) (.cons (.k (.int 0)) (.cons (.k (.int 0)) (.cons (.k (.int 1)) (.cons (.k (.int 0)) (.cons (.v 1) .nil)))))))) .skip)
section
variable {T : Tb} {ns : List Int} {a b c d e n : Int} {r : Om} {sl : Sl} {x : D}
theorem ixp0 : ixD (.amb 0) (.int 0) (.pl (poolD ns a b c d e) :: r) = .ok (.lst (ns.map .int)) (.pl (poolD ns a b c d e) :: r) := rfl
theorem ixp1 : ixD (.amb 0) (.int 1) (.pl (poolD ns a b c d e) :: r) = .ok (.int a) (.pl (poolD ns a b c d e) :: r) := rfl
theorem ixp2 : ixD (.amb 0) (.int 2) (.pl (poolD ns a b c d e) :: r) = .ok (.int b) (.pl (poolD ns a b c d e) :: r) := rfl
theorem ixp3 : ixD (.amb 0) (.int 3) (.pl (poolD ns a b c d e) :: r) = .ok (.int c) (.pl (poolD ns a b c d e) :: r) := rfl
theorem ixp4 : ixD (.amb 0) (.int 4) (.pl (poolD ns a b c d e) :: r) = .ok (.int d) (.pl (poolD ns a b c d e) :: r) := rfl
theorem ixp5 : ixD (.amb 0) (.int 5) (.pl (poolD ns a b c d e) :: r) = .ok (.int e) (.pl (poolD ns a b c d e) :: r) := rfl
theorem sp1 : kSP2 (.ok (.int 1) (.pl (poolD ns a b c d e) :: r)) (.int n) 0 sl = .next sl (.pl (poolD ns n b c d e) :: r) := rfl
theorem sp2 : kSP2 (.ok (.int 2) (.pl (poolD ns a b c d e) :: r)) (.int n) 0 sl = .next sl (.pl (poolD ns a n c d e) :: r) := rfl
theorem sp3 : kSP2 (.ok (.int 3) (.pl (poolD ns a b c d e) :: r)) (.int n) 0 sl = .next sl (.pl (poolD ns a b n d e) :: r) := rfl
theorem sp4 : kSP2 (.ok (.int 4) (.pl (poolD ns a b c d e) :: r)) (.int n) 0 sl = .next sl (.pl (poolD ns a b c n e) :: r) := rfl
theorem sp5 : kSP2 (.ok (.int 5) (.pl (poolD ns a b c d e) :: r)) (.int n) 0 sl = .next sl (.pl (poolD ns a b c d n) :: r) := rfl
theorem atI_map {i : Int} (h0 : 0 ≤ i) (h : i < ns.length) : ∃ n, atI (ns.map D.int) i = some (.int n) := by
  rw [atI_nn h0, List.getElem?_map, List.getElem?_eq_getElem (by omega : i.toNat < ns.length)]
  exact ⟨_, rfl⟩
theorem mul31 (h : 0 ≤ c) (h' : c < 2147483647) : CMulW c 31 := cmulW_s (a := 31) (b := 5) (by omega) (by decide) (by decide) (by decide) (by decide)
theorem mul48 (h : 0 ≤ c) (h' : c < 2147483647) : CMulW c 48271 := cmulW_s (a := 31) (b := 16) (by omega) (by decide) (by decide) (by decide) (by decide)
theorem mul69 (h : 0 ≤ c) (h' : c < 2147483647) : CMulW c 69621 := cmulW_s (a := 31) (b := 17) (by omega) (by decide) (by decide) (by decide) (by decide)
theorem pow18 : bop T .pow (.int 10) (.int 18) r = .ok (.int 1000000000000000000) r := by
  rw [o_powi (by decide)]
  rfl
/-- the second half of a draw -/
theorem draw2 {s : Int} {y : Cell} (hs : 0 < s) (hs' : s < 2 ^ 200) (ha : 0 ≤ a) (hc : 0 ≤ c) (hc' : c < 2147483647) {B : S} (hB : drawB = .seq B (match drawB with | .seq _ b => b | _ => .skip)) :
    ∃ v om', evS T (match drawB with | .seq _ b => b | _ => .skip) [.val (.amb 0), .val (.int s), y, .no] (.pl (poolD ns a b c d e) :: r) = .ret (.int v) om' ∧ 0 ≤ v ∧ v < s ∧ PoolE om' r e := by
  by_cases h : 0 < b
  · refine ⟨b % s, .pl (poolD ns a (b / s) c 0 e) :: r, ?_, Int.emod_nonneg _ (by omega), Int.emod_lt_of_pos _ hs, ⟨_, _, _, _, _, rfl, ha, hc, hc'⟩⟩
    have hd : CDivW b s := cdivW_s (b := 200) hs (by omega) (by decide) (by decide)
    simp [drawB, ixp0, ixp1, ixp2, ixp3, ixp4, sp1, sp2, sp3, sp4, h, hs, o_divi hd]
  · have hc2 : 0 ≤ (c * 48271 + 12345) % 2147483647 := Int.emod_nonneg _ (by decide)
    have hc3 : (c * 48271 + 12345) % 2147483647 < 2147483647 := Int.emod_lt_of_pos _ (by decide)
    refine ⟨((c * 48271 + 12345) % 2147483647 * 69621 + 7919) % 2147483647 % s, .pl (poolD ns a b ((c * 48271 + 12345) % 2147483647) (d - 1) e) :: r, ?_, Int.emod_nonneg _ (by omega), Int.emod_lt_of_pos _ hs, ⟨_, _, _, _, _, rfl, ha, hc2, hc3⟩⟩
    simp [drawB, ixp0, ixp1, ixp2, ixp3, ixp4, sp1, sp2, sp3, sp4, h, hs, o_muli (mul48 hc hc'), o_muli (mul69 hc2 hc3)]
theorem draw_okE {s : Int} {om r : Om} {e : Int} (hs : 0 < s) (hs' : s < 2 ^ 200) (hp : PoolE om r e) : ∃ v om', evS T drawB [.val (.amb 0), .val (.int s), .no, .no] om = .ret (.int v) om' ∧ 0 ≤ v ∧ v < s ∧ PoolE om' r e := by
  obtain ⟨ns, a, b, c, d, rfl, ha, hc, hc'⟩ := hp
  have key : ∀ {y a b c d}, 0 ≤ a → 0 ≤ c → c < 2147483647 → evS T drawB [.val (.amb 0), .val (.int s), .no, .no] (.pl (poolD ns a b c d e) :: r) = evS T (match drawB with | .seq _ b => b | _ => .skip) [.val (.amb 0), .val (.int s), y, .no] (.pl (poolD ns a b c d e) :: r) → True := fun _ _ _ _ => trivial
  by_cases h1 : b ≤ 0
  · by_cases h2 : d ≤ 0
    · by_cases h3 : a < ns.length
      · obtain ⟨cell, hcell⟩ := atI_map ha h3
        have hc2 : 0 ≤ (c * 31 + cell) % 2147483647 := Int.emod_nonneg _ (by decide)
        have hc3 : (c * 31 + cell) % 2147483647 < 2147483647 := Int.emod_lt_of_pos _ (by decide)
        by_cases h4 : 1000000000000000000 ≤ cell
        · obtain ⟨v, om', e1, h⟩ := draw2 (T := T) (ns := ns) (a := a + 1) (b := cell) (c := (c * 31 + cell) % 2147483647) (d := 7) (e := e) (r := r) (y := .val (.int cell)) hs hs' (by omega) hc2 hc3 rfl
          refine ⟨v, om', ?_, h⟩
          rw [← e1, drawB]
          simp only [z_seq, z_seq1, z_ite, z_ite1, z_ite2, r_tr1, r_an, r_an1, r_an2, r_cm, r_cm1, r_cm2, r_bl, r_k, r_ix, r_ix1, r_ix2, ixp0, ixp1, ixp2, ixp3, ixp4, o_le, o_lt, o_ge]
          simp [ixp0, ixp1, ixp2, ixp3, ixp4, sp1, sp2, sp3, sp4, h1, h2, h3, h4, hcell, pow18, o_muli (mul31 hc hc')]
        · obtain ⟨v, om', e1, h⟩ := draw2 (T := T) (ns := ns) (a := a + 1) (b := b) (c := (c * 31 + cell) % 2147483647) (d := 7) (e := e) (r := r) (y := .val (.int cell)) hs hs' (by omega) hc2 hc3 rfl
          refine ⟨v, om', ?_, h⟩
          rw [← e1, drawB]
          simp [ixp0, ixp1, ixp2, ixp3, ixp4, sp1, sp2, sp3, sp4, h1, h2, h3, h4, hcell, pow18, o_muli (mul31 hc hc')]
      · obtain ⟨v, om', e1, h⟩ := draw2 (T := T) (ns := ns) (a := a) (b := b) (c := c) (d := d) (e := e) (r := r) (y := .no) hs hs' ha hc hc' rfl
        refine ⟨v, om', ?_, h⟩
        rw [← e1, drawB]
        simp [ixp0, ixp1, ixp2, ixp3, ixp4, sp1, sp2, sp3, sp4, h1, h2, h3]
    · obtain ⟨v, om', e1, h⟩ := draw2 (T := T) (ns := ns) (a := a) (b := b) (c := c) (d := d) (e := e) (r := r) (y := .no) hs hs' ha hc hc' rfl
      refine ⟨v, om', ?_, h⟩
      rw [← e1, drawB]
      simp [ixp0, ixp1, ixp2, ixp3, ixp4, sp1, sp2, sp3, sp4, h1, h2]
  · obtain ⟨v, om', e1, h⟩ := draw2 (T := T) (ns := ns) (a := a) (b := b) (c := c) (d := d) (e := e) (r := r) (y := .no) hs hs' ha hc hc' rfl
    refine ⟨v, om', ?_, h⟩
    rw [← e1, drawB]
    simp [ixp0, ixp1, ixp2, ixp3, ixp4, sp1, sp2, sp3, sp4, h1]
theorem draw_ok {s : Int} {om r : Om} (hs : 0 < s) (hs' : s < 2 ^ 200) (hp : PoolAt om r) : ∃ v om', evS T drawB [.val (.amb 0), .val (.int s), .no, .no] om = .ret (.int v) om' ∧ 0 ≤ v ∧ v < s ∧ PoolAt om' r := by
  obtain ⟨e, hp⟩ := hp.e
  obtain ⟨v, om', h1, h2, h3, h4⟩ := draw_okE (T := T) hs hs' hp
  exact ⟨v, om', h1, h2, h3, h4.at⟩
end
end PD

set_option Elab.async false
set_option linter.all false
set_option maxRecDepth 100000
set_option maxHeartbeats 400000
/-! PDO: lists of texts, numbers as texts, slices, two values the same. -/
namespace PD
open PySem PySem.Spec PyProof.Rows L2
abbrev strL (ws : List Str) : List D := ws.map D.str
theorem strs_ok : ∀ ws : List Str, strsD (strL ws) = some ws
  | [] => rfl
  | w :: ws => by
    show (strsD (strL ws)).map (w :: ·) = _
    rw [strs_ok ws]
    rfl
theorem toPs_str : ∀ ws : List Str, toPs (strL ws) = some (ws.map PyData.str)
  | [] => rfl
  | w :: ws => by
    show (match toPs (strL ws) with | some ps => some (PyData.str w :: ps) | none => none) = _
    rw [toPs_str ws]
    rfl
theorem canLay_str : ∀ {ws : List Str}, (∀ w ∈ ws, PyData.strOk w = true) → PyData.canLayAll0 (ws.map PyData.str) = true
  | [], _ => rfl
  | w :: ws, h => by
    show (PyData.strOk w && PyData.canLayAll0 (ws.map PyData.str)) = true
    rw [h w List.mem_cons_self, canLay_str fun x hx => h x (List.mem_cons_of_mem _ hx)]
    rfl
theorem depth_str : ∀ ws : List Str, PyData.depthAll (ws.map PyData.str) = 0
  | [] => rfl
  | w :: ws => by
    show max 0 (PyData.depthAll (ws.map PyData.str)) = 0
    rw [depth_str ws]
    rfl
theorem eqv_str : ∀ xs ys : List Str, PyData.eqvAll (xs.map PyData.str) (ys.map PyData.str) = decide (xs = ys)
  | [], [] => rfl
  | [], _ :: _ => rfl
  | _ :: _, [] => rfl
  | x :: xs, y :: ys => by
    show ((x == y) && PyData.eqvAll (xs.map PyData.str) (ys.map PyData.str)) = _
    rw [eqv_str xs ys]
    by_cases h : x = y
    · subst h
      simp
    · simp [h]
theorem shaped_str {ws : List Str} (h : ∀ w ∈ ws, PyData.strOk w = true) : SeqAt.shaped (.list (ws.map PyData.str)) = true := by
  show (PyData.canLayAll0 (ws.map PyData.str) && decide (PyData.depthAll (ws.map PyData.str) + 1 ≤ 64)) = true
  rw [canLay_str h, depth_str]
  rfl
section
variable {T : Tb} {om : Om} {xs ys ws : List Str}
theorem o_eqls (hx : ∀ w ∈ xs, PyData.strOk w = true) (hy : ∀ w ∈ ys, PyData.strOk w = true) : cmp T .eq (.lst (strL xs)) (.lst (strL ys)) om = .ok (decide (xs = ys)) om := by
  show (match (toPs (strL xs)).map PyData.list, (toPs (strL ys)).map PyData.list with
    | some p, some q => if (SeqAt.shaped p && SeqAt.shaped q) = true then Rs.ok (PyData.eqv p q) om else .stuck
    | _, _ => .stuck) = _
  rw [toPs_str, toPs_str]
  show (if (SeqAt.shaped (.list (xs.map PyData.str)) && SeqAt.shaped (.list (ys.map PyData.str))) = true then Rs.ok (PyData.eqvAll (xs.map PyData.str) (ys.map PyData.str)) om else .stuck) = _
  rw [shaped_str hx, shaped_str hy, eqv_str]
  rfl
theorem o_nels (hx : ∀ w ∈ xs, PyData.strOk w = true) (hy : ∀ w ∈ ys, PyData.strOk w = true) : cmp T .ne (.lst (strL xs)) (.lst (strL ys)) om = .ok (!decide (xs = ys)) om := by
  show (match (toPs (strL xs)).map PyData.list, (toPs (strL ys)).map PyData.list with
    | some p, some q => if (SeqAt.shaped p && SeqAt.shaped q) = true then Rs.ok (!PyData.eqv p q) om else .stuck
    | _, _ => .stuck) = _
  rw [toPs_str, toPs_str]
  show (if (SeqAt.shaped (.list (xs.map PyData.str)) && SeqAt.shaped (.list (ys.map PyData.str))) = true then Rs.ok (!PyData.eqvAll (xs.map PyData.str) (ys.map PyData.str)) om else .stuck) = _
  rw [shaped_str hx, shaped_str hy, eqv_str]
  rfl
theorem j_ok {s : Str} (h : (ws.map Str.length).sum + ws.length * s.length ≤ 1000000) : mbf .join s (.lst (strL ws)) om = .ok (.str (Txt.join s ws)) om := by
  show (match strsD (strL ws) with
    | some (ys : List Str) => if (ys.map Str.length).sum + ys.length * s.length ≤ 1000000 then Rs.ok (D.str (Txt.join s ys)) om else .stuck
    | none => .stuck) = _
  rw [strs_ok]
  exact if_pos h
theorem cut_map {α : Type} (f : α → D) (l : List α) (lo hi : Option Int) : cutD (l.map f) lo hi = ((l.drop (HT.sIx l.length 0 lo)).take (HT.sIx l.length l.length hi - HT.sIx l.length 0 lo)).map f := by
  unfold cutD
  rw [List.length_map, List.map_take, List.map_drop]
theorem cut_take {α : Type} (f : α → D) (l : List α) (k : Nat) : cutD (l.map f) none (some (k : Int)) = (l.take k).map f := by
  rw [cut_map, HT.sIx_none, HT.sIx_nat, List.drop_zero, Nat.sub_zero]
  by_cases h : k ≤ l.length
  · rw [Nat.min_eq_left h]
  · rw [Nat.min_eq_right (by omega), List.take_of_length_le (by omega), List.take_of_length_le (by omega)]
theorem cut_one {α : Type} (f : α → D) (l : List α) (k : Nat) : cutD (l.map f) (some (k : Int)) (some ((k : Int) + 1)) = ((l.drop k).take 1).map f := by
  have e : ((k : Int) + 1) = ((k + 1 : Nat) : Int) := by omega
  rw [cut_map, e, HT.sIx_nat, HT.sIx_nat]
  by_cases h : k < l.length
  · rw [Nat.min_eq_left (by omega), Nat.min_eq_left (by omega)]
    congr 2
    omega
  · rw [Nat.min_eq_right (by omega), Nat.min_eq_right (by omega), List.drop_of_length_le (by omega), List.drop_of_length_le (by omega)]
    simp
end
/-! ### numbers as texts -/
def num (k : Nat) : Str := Str.ofString (toString ((k : Nat) : Int))
theorem tl_n (k : Nat) : (num k).cps.toList = TL.numL k := TL.tl_num k
theorem num_len {k m : Nat} (hm : 0 < m) (h : k < 10 ^ m) : (num k).length ≤ m := by
  rw [TL.len_tl, TL.tl, tl_n]
  exact TL.numL_len hm h
theorem strOk_of {s : Str} (h : ∀ c ∈ s.cps.toList, c < 128) : PyData.strOk s = true := by
  unfold PyData.strOk
  rw [Array.all_eq_true_iff_forall_mem]
  intro c hc
  exact decide_eq_true (by have := h c (Array.mem_toList_iff.mpr hc); omega)
theorem strOk_lit {s : Str} (l : List Nat) (e : s.cps.toList = l) (h : l.all (· < 128) = true) : PyData.strOk s = true := strOk_of fun c hc => by
  rw [e] at hc
  exact of_decide_eq_true (List.all_eq_true.mp h c hc)
theorem num_ok (k : Nat) : PyData.strOk (num k) = true := strOk_of fun c hc => by
  rw [tl_n] at hc
  have := TL.numL_digits k c hc
  omega
theorem num_inj {j k : Nat} (h : num j = num k) : j = k := TL.numL_inj (by rw [← tl_n, ← tl_n, h])
theorem num_free {k s : Nat} (h : s < 48 ∨ 57 < s) : s ∉ TL.tl (num k) := by
  rw [TL.tl, tl_n]
  exact TL.numL_free h
theorem num_ne (k : Nat) : (num k).cps.toList ≠ [] := by
  rw [tl_n]
  exact TL.numL_ne k
theorem num_zero (k : Nat) (h : (TL.numL k).head? = some 48) : k = 0 := by
  induction k using Nat.strongRecOn with
  | _ k ih =>
    by_cases hk : k < 10
    · rw [TL.numL_lt hk] at h
      have e : 48 + k = 48 := Option.some.inj h
      omega
    · rw [TL.numL_step (by omega)] at h
      rw [List.head?_append] at h
      have hn := TL.numL_ne (k / 10)
      cases q : TL.numL (k / 10) with
      | nil => exact absurd q hn
      | cons c r =>
        rw [q] at h
        have z := ih (k / 10) (by omega) (by rw [q]; exact h)
        omega
theorem b_str {T : Tb} {om : Om} {k : Nat} (h : k < 2 ^ 200) : biD T .str (.int (k : Int)) om = .ok (.str (num k)) om := by
  show (if ((k : Int)).natAbs.log2 < 1920 then _ else _) = _
  rw [if_pos (Nat.lt_trans (log2_small (k := 200) (by rw [Int.natAbs_natCast]; exact h) (by decide)) (by decide))]
  rfl
theorem b_int {T : Tb} {om : Om} {k : Nat} (h : (num k).length ≤ 640) : biD T .int (.str (num k)) om = .ok (.int (k : Int)) om := by
  show (match PySem.intText? (num k) with
    | some n => if (num k).length ≤ 640 then Rs.ok (D.int n) om else .stuck
    | none => .stuck) = _
  have e : PySem.intText? (num k) = some (k : Int) := TL.int_num (by rw [TL.len_tl, TL.tl, tl_n] at h; omega)
  rw [e]
  exact if_pos h
theorem in_dig {T : Tb} {om : Om} {c : Nat} : cmp T .inn (.str ⟨#[c]⟩) (.str (Str.ofString "0123456789")) om = .ok (decide (c ∈ [48, 49, 50, 51, 52, 53, 54, 55, 56, 57])) om := by
  show opt (some (!(Builtin.Str.occurrences (Str.ofString "0123456789") ⟨#[c]⟩ 0 (Str.ofString "0123456789").length 1).isEmpty)) om = _
  have z := StrLaws.found_one (Str.ofString "0123456789") c
  exact congrArg (fun b => Rs.ok b om) z
theorem bls_true : ∀ (n : Nat), blsD (List.replicate n (.bl true)) = some (List.replicate n true)
  | 0 => rfl
  | n + 1 => by
    rw [List.replicate_succ, List.replicate_succ]
    show (blsD (List.replicate n (.bl true))).map (true :: ·) = _
    rw [bls_true n]
    rfl
theorem b_all {T : Tb} {om : Om} {n : Nat} : biD T .all (.lst (List.replicate n (.bl true))) om = .ok (.bl true) om := by
  show (match blsD (List.replicate n (.bl true)) with
    | some bs => Rs.ok (D.bl (bs.all id)) om
    | none => .stuck) = _
  rw [bls_true]
  simp
/-! ### the def of both papers that reads a number's text -/
def wholeB : S := (.seq (.ite (.or (.no (.ch .lt .le (.k (.int 0)) (.bi .len (.v 0)) (.k (.int 60)))) (.no (.bi .all (.comp (.one 1) (.itl (.v 0)) (.k (.bl true)) (.cm .inn (.v 1) (.k (.str "0123456789"))))))) (.seq (.ret (.k .non)) .skip) .skip) (.seq (.ret (.ite (.an (.cm .eq (.ix (.v 0) (.k (.int 0))) (.k (.str "0"))) (.cm .ne (.v 0) (.k (.str "0")))) (.k .non) (.bi .int (.v 0)))) .skip))
theorem num0 : num 0 = Str.ofString "0" := rfl
theorem whole_ok {T : Tb} {om : Om} {k : Nat} (h : (num k).length ≤ 60) : evS T wholeB [.val (.str (num k)), .no] om = .ret (.int k) om := by
  have hl : biD T .len (.str (num k)) om = .ok (.int ((num k).length : Int)) om := if_pos (by omega)
  have hp : 0 < (num k).length := by
    rw [TL.len_tl, TL.tl]
    exact List.length_pos_iff.mpr (num_ne k)
  have hc : cmpG T (.k (.bl true)) (.cm .inn (.v 1) (.k (.str "0123456789"))) (.one 1) [.val (.str (num k)), .no] ((num k).cps.toList.map fun c => .str ⟨#[c]⟩) om = .ok (List.replicate (num k).length (.bl true)) om := by
    have z := comp_map (T := T) (sl := [.val (.str (num k)), .no]) (om := om) (i := 1) (cond := .k (.bl true)) (elt := .cm .inn (.v 1) (.k (.str "0123456789"))) (f := fun c : Nat => .str ⟨#[c]⟩) (g := fun _ => .bl true) (num k).cps.toList (fun c hc => by
      have hd : c ∈ [48, 49, 50, 51, 52, 53, 54, 55, 56, 57] := by
        rw [tl_n] at hc
        have := TL.numL_digits k c hc
        simp
        omega
      refine ⟨by simp, ?_⟩
      simp only [r_cm, r_cm1, r_cm2, r_k, List.set_cons_succ, List.set_cons_zero]
      rw [r_v (d := .str ⟨#[c]⟩) rfl, r_cm1, r_k, r_cm2, in_dig, decide_eq_true hd, r_bl])
    rw [z]
    congr 1
    rw [List.map_const', ← TL.len_tl]
  obtain ⟨c, r, hcr⟩ : ∃ c r, (num k).cps.toList = c :: r := by
    cases q : (num k).cps.toList with
    | nil => exact absurd q (num_ne k)
    | cons c r => exact ⟨c, r, rfl⟩
  have hx : ixD (.str (num k)) (.int 0) om = .ok (.str ⟨#[c]⟩) om := by
    show (if (num k).length ≤ 1000000 then match atI (num k).cps.toList 0 with | some c => Rs.ok (D.str ⟨#[c]⟩) om | none => .stuck else .stuck) = _
    rw [if_pos (by omega), hcr, atI0]
  have hco : PyData.strOk ⟨#[c]⟩ = true := strOk_of fun x hx => by
    have hx' : x ∈ [c] := hx
    rw [List.mem_singleton.mp hx']
    have := TL.numL_digits k c (by rw [← tl_n, hcr]; exact List.mem_cons_self)
    omega
  have h0 : PyData.strOk (Str.ofString "0") = true := strOk_lit [48] rfl rfl
  have hz : kTr (kAn T (.ok (.bl ((⟨#[c]⟩ : Str) == Str.ofString "0")) om) (.cm .ne (.v 0) (.k (.str "0"))) [.val (.str (num k)), .no]) = .ok false om := by
    by_cases e : ((⟨#[c]⟩ : Str) == Str.ofString "0") = true
    · have hc48 : c = 48 := by
        have e1 : (⟨#[c]⟩ : Str) = Str.ofString "0" := eq_of_beq e
        have e2 : ((⟨#[c]⟩ : Str)).cps.toList = (Str.ofString "0").cps.toList := by rw [e1]
        have e3 : [c] = [48] := e2
        exact List.singleton_inj.mp e3
      have hk : k = 0 := num_zero k (by rw [← tl_n, hcr, hc48]; rfl)
      rw [e]
      subst hk
      simp [o_nes, num0, h0]
    · have e' : ((⟨#[c]⟩ : Str) == Str.ofString "0") = false := by
        cases q : ((⟨#[c]⟩ : Str) == Str.ofString "0") with
        | true => exact absurd q e
        | false => rfl
      rw [e']
      rfl
  have hl2 : (num k).cps.toList.length ≤ 1000000 := by
    rw [← TL.len_tl]
    omega
  unfold wholeB
  have he : evE T (.v 0) [.val (.str (num k)), .no] om = .ok (.str (num k)) om := r_v rfl
  have hm : List.map (fun c : Nat => D.str ⟨#[c]⟩) (num k).cps.toList = List.map (fun c : Nat => D.str ⟨#[c]⟩) (num k).cps.toList := rfl
  have hbound : (0 : Int) < ((num k).length : Int) := by omega
  have hb2 : ((num k).length : Int) ≤ 60 := by omega
  rw [z_seq, z_ite, r_or, r_no, r_ch, r_k, r_ch1, r_bi, he, r_bi1, hl, r_ch2, o_lt, decide_eq_true hbound, r_ch3, r_k, r_cm2, o_le, decide_eq_true hb2, r_bl, r_no1]
  simp only [Bool.not_true]
  rw [r_or2, r_no, r_bi, r_comp, r_itl, he, r_itl3, r_comp1, if_pos (by rw [List.length_map]; exact hl2), wi_1]
  simp only [List.set_cons_succ, List.set_cons_zero]
  rw [hc, r_comp2, r_bi1, b_all, r_no1]
  simp only [Bool.not_true]
  rw [r_tr1, z_ite2, z_skip, z_seq1, z_seq, z_ret, r_ite, r_an, r_cm, r_ix, he, r_ix1, r_k, r_ix2, hx, r_cm1, r_k, r_cm2, o_eqs hco h0, r_bl, hz, r_ite2, r_bi, he, r_bi1, b_int (by omega), z_ret1, z_seq2]
section
variable {om : Om} {n : Int} {b : Bool} {t : Str} {ds : List D}
@[simp] theorem i_tuple_int : kIsi (.ok (.int n) om) [.tuple] = .ok (.bl false) om := rfl
@[simp] theorem i_tuple_bl : kIsi (.ok (.bl b) om) [.tuple] = .ok (.bl false) om := rfl
@[simp] theorem i_tuple_non : kIsi (.ok .non om) [.tuple] = .ok (.bl false) om := rfl
@[simp] theorem i_tuple_str : kIsi (.ok (.str t) om) [.tuple] = .ok (.bl false) om := rfl
@[simp] theorem i_tuple_lst : kIsi (.ok (.lst ds) om) [.tuple] = .ok (.bl false) om := rfl
@[simp] theorem i_tuple_tup : kIsi (.ok (.tup ds) om) [.tuple] = .ok (.bl true) om := rfl
@[simp] theorem i_list_int : kIsi (.ok (.int n) om) [.list] = .ok (.bl false) om := rfl
@[simp] theorem i_list_bl : kIsi (.ok (.bl b) om) [.list] = .ok (.bl false) om := rfl
@[simp] theorem i_list_non : kIsi (.ok .non om) [.list] = .ok (.bl false) om := rfl
@[simp] theorem i_list_str : kIsi (.ok (.str t) om) [.list] = .ok (.bl false) om := rfl
@[simp] theorem i_list_lst : kIsi (.ok (.lst ds) om) [.list] = .ok (.bl true) om := rfl
@[simp] theorem i_list_tup : kIsi (.ok (.tup ds) om) [.list] = .ok (.bl false) om := rfl
@[simp] theorem i_int_int : kIsi (.ok (.int n) om) [.int] = .ok (.bl true) om := rfl
@[simp] theorem i_int_bl : kIsi (.ok (.bl b) om) [.int] = .ok (.bl true) om := rfl
@[simp] theorem i_int_non : kIsi (.ok .non om) [.int] = .ok (.bl false) om := rfl
@[simp] theorem i_int_str : kIsi (.ok (.str t) om) [.int] = .ok (.bl false) om := rfl
@[simp] theorem i_int_lst : kIsi (.ok (.lst ds) om) [.int] = .ok (.bl false) om := rfl
@[simp] theorem i_int_tup : kIsi (.ok (.tup ds) om) [.int] = .ok (.bl false) om := rfl
@[simp] theorem i_bool_int : kIsi (.ok (.int n) om) [.bool] = .ok (.bl false) om := rfl
@[simp] theorem i_bool_bl : kIsi (.ok (.bl b) om) [.bool] = .ok (.bl true) om := rfl
@[simp] theorem i_bool_non : kIsi (.ok .non om) [.bool] = .ok (.bl false) om := rfl
@[simp] theorem i_bool_str : kIsi (.ok (.str t) om) [.bool] = .ok (.bl false) om := rfl
@[simp] theorem i_bool_lst : kIsi (.ok (.lst ds) om) [.bool] = .ok (.bl false) om := rfl
@[simp] theorem i_bool_tup : kIsi (.ok (.tup ds) om) [.bool] = .ok (.bl false) om := rfl
@[simp] theorem i_str_int : kIsi (.ok (.int n) om) [.str] = .ok (.bl false) om := rfl
@[simp] theorem i_str_bl : kIsi (.ok (.bl b) om) [.str] = .ok (.bl false) om := rfl
@[simp] theorem i_str_non : kIsi (.ok .non om) [.str] = .ok (.bl false) om := rfl
@[simp] theorem i_str_str : kIsi (.ok (.str t) om) [.str] = .ok (.bl true) om := rfl
@[simp] theorem i_str_lst : kIsi (.ok (.lst ds) om) [.str] = .ok (.bl false) om := rfl
@[simp] theorem i_str_tup : kIsi (.ok (.tup ds) om) [.str] = .ok (.bl false) om := rfl
end

/-! ### two values the same -/
def sameB (f : Nat) : S := (.seq (.ite (.or (.isi [.tuple] (.v 1)) (.isi [.list] (.v 1))) (.seq (.ite (.or (.cm .ne (.isi [.tuple] (.v 1)) (.isi [.tuple] (.v 0))) (.cm .ne (.isi [.list] (.v 1)) (.isi [.list] (.v 0)))) (.seq (.ret (.k (.bl false))) .skip) .skip) (.seq (.ite (.cm .ne (.bi .len (.v 0)) (.bi .len (.v 1))) (.seq (.ret (.k (.bl false))) .skip) .skip) (.seq (.fo (.one 2) (.rng1 (.bi .len (.v 1))) (.seq (.ite (.no (.call f [] (.cons (.ix (.v 0) (.v 2)) (.cons (.ix (.v 1) (.v 2)) .nil)))) (.seq (.ret (.k (.bl false))) .skip) .skip) .skip)) (.seq (.ret (.k (.bl true))) .skip)))) .skip) (.seq (.ite (.or (.cm .is (.v 1) (.k .non)) (.isi [.bool] (.v 1))) (.seq (.ret (.an (.cm .eq (.cm .is (.v 0) (.k .non)) (.cm .is (.v 1) (.k .non))) (.an (.or (.cm .is (.v 1) (.k .non)) (.isi [.bool] (.v 0))) (.cm .eq (.v 0) (.v 1))))) .skip) .skip) (.seq (.ite (.isi [.int] (.v 1)) (.seq (.ret (.an (.isi [.int] (.v 0)) (.an (.no (.isi [.bool] (.v 0))) (.cm .eq (.v 0) (.v 1))))) .skip) .skip) (.seq (.ret (.an (.isi [.str] (.v 0)) (.cm .eq (.v 0) (.v 1)))) .skip))))
def SameD : Nat → D → Prop
  | 0, d => (∃ i, d = .int i) ∨ (∃ s, d = .str s ∧ PyData.strOk s = true) ∨ (∃ b, d = .bl b) ∨ d = .non
  | n + 1, d => SameD 0 d ∨ ∃ ds : List D, (d = .lst ds ∨ d = .tup ds) ∧ ds.length < 2 ^ 62 ∧ ∀ x ∈ ds, SameD n x
section
variable {p : Prog} {wf f : Nat} {om : Om}
theorem same_flat {T : Tb} {d : D} (h : SameD 0 d) : evS T (sameB f) [.val d, .val d, .no] om = .ret (.bl true) om := by
  rw [SameD] at h
  rcases h with ⟨i, rfl⟩ | ⟨s, rfl, hs⟩ | ⟨b, rfl⟩ | rfl
  · simp [sameB]
  · simp [sameB, o_eqs hs hs]
  · simp [sameB]
  · have e : cmp T .eq .non .non om = .ok true om := rfl
    simp [sameB, e]
theorem same_loop {T : Tb} {d : D} {ds : List D} (hd : d = .lst ds ∨ d = .tup ds) (hl : ds.length < 2 ^ 62) (st : ∀ x ∈ ds, T.call f [x, x] om = .ok (.bl true) om) : evS T (sameB f) [.val d, .val d, .no] om = .ret (.bl true) om := by
  have lp : ∀ d : D, (d = .lst ds ∨ d = .tup ds) → ∃ sl', forG T (.seq (.ite (.no (.call f [] (.cons (.ix (.v 0) (.v 2)) (.cons (.ix (.v 1) (.v 2)) .nil)))) (.seq (.ret (.k (.bl false))) .skip) .skip) .skip) (.one 2) ((List.range ds.length).map fun (k : Nat) => .int k) [.val d, .val d, .no] om = .next sl' om := by
    intro d hd
    obtain ⟨sl', om', e, ⟨_, _, rfl⟩⟩ := for_keep (T := T) (i := 2) (b := .seq (.ite (.no (.call f [] (.cons (.ix (.v 0) (.v 2)) (.cons (.ix (.v 1) (.v 2)) .nil)))) (.seq (.ret (.k (.bl false))) .skip) .skip) .skip) (f := fun k : Nat => D.int k) (fun _ sl om' => ∃ c, sl = [.val d, .val d, c] ∧ om' = om) (List.range ds.length) [] [.val d, .val d, .no] om ⟨_, rfl, rfl⟩ (fun done k hk sl om1 hI => by
      obtain ⟨c, rfl, rfl⟩ := hI
      have hk' : k < ds.length := List.mem_range.mp hk
      have hx : atI ds (k : Int) = some ds[k] := by rw [atI_nat, List.getElem?_eq_getElem hk']
      have hc := st ds[k] (List.getElem_mem hk')
      refine ⟨[.val d, .val d, .val (.int k)], om1, ?_, _, rfl, rfl⟩
      rcases hd with rfl | rfl
      · simp [x_l hx, hc]
      · simp [x_t hx, hc])
    exact ⟨sl', e⟩
  obtain ⟨sl', e⟩ := lp d hd
  have hr : ∀ om : Om, kR1 (.ok (.int (ds.length : Int)) om) = .ok ((List.range ds.length).map fun (k : Nat) => .int k) om := fun om => by
    rw [r_rng1a (by omega) (by omega), Int.toNat_natCast]
  rcases hd with rfl | rfl
  · simp [sameB, hr, e]
  · simp [sameB, hr, e]
theorem same_ok (hp : p.defs f = some ⟨2, 3, sameB f, none⟩) (hf : p.fresh f = false) : ∀ (n : Nat) (d : D), SameD n d → ∀ m, n < m → callN p wf m f [d, d] om = .ok (.bl true) om := by
  intro n
  induction n with
  | zero =>
    intro d h m hm
    obtain ⟨m, rfl⟩ : ∃ k, m = k + 1 := ⟨m - 1, by omega⟩
    exact call_ret hp rfl hf (same_flat h)
  | succ n ih =>
    intro d h m hm
    obtain ⟨m, rfl⟩ : ∃ k, m = k + 1 := ⟨m - 1, by omega⟩
    rw [SameD] at h
    rcases h with h | ⟨ds, hd, hl, h⟩
    · exact call_ret hp rfl hf (same_flat h)
    · exact call_ret hp rfl hf (same_loop hd hl fun x hx => ih x (h x hx) m (by omega))
end

/-! ### loops over a whole list -/
section
variable {T : Tb} {sl : Sl} {om : Om} {i : Nat}
theorem for_all {b : S} {α : Type} {f : α → D} (all : List α) (I : List α → Sl → Om → Prop) (h0 : I [] sl om)
    (st : ∀ done x rest, all = done ++ x :: rest → ∀ sl om, I done sl om → ∃ sl' om', evS T b (sl.set i (.val (f x))) om = .next sl' om' ∧ I (done ++ [x]) sl' om') :
    ∃ sl' om', forG T b (.one i) (all.map f) sl om = .next sl' om' ∧ I all sl' om' := by
  have key : ∀ (rest done : List α) (sl : Sl) (om : Om), all = done ++ rest → I done sl om → ∃ sl' om', forG T b (.one i) (rest.map f) sl om = .next sl' om' ∧ I all sl' om' := by
    intro rest
    induction rest with
    | nil =>
      intro done sl om e h
      rw [List.append_nil] at e
      subst e
      exact ⟨sl, om, rfl, h⟩
    | cons x rest ih =>
      intro done sl om e h
      obtain ⟨sl1, om1, e1, h1⟩ := st done x rest e sl om h
      obtain ⟨sl2, om2, e2, h2⟩ := ih (done ++ [x]) sl1 om1 (by rw [e, List.append_assoc]; rfl) h1
      exact ⟨sl2, om2, by rw [List.map_cons, f_cons, e1, f_n, e2], h2⟩
  exact key all [] sl om rfl h0
theorem for_allT {b : S} {α : Type} {is : List Nat} {f : α → List D} (hf : ∀ x, (f x).length = is.length) (all : List α) (I : List α → Sl → Om → Prop) (h0 : I [] sl om)
    (st : ∀ done x rest, all = done ++ x :: rest → ∀ sl om, I done sl om → ∃ sl' om', evS T b (sets sl is (f x)) om = .next sl' om' ∧ I (done ++ [x]) sl' om') :
    ∃ sl' om', forG T b (.many is) (all.map fun x => .tup (f x)) sl om = .next sl' om' ∧ I all sl' om' := by
  have key : ∀ (rest done : List α) (sl : Sl) (om : Om), all = done ++ rest → I done sl om → ∃ sl' om', forG T b (.many is) (rest.map fun x => .tup (f x)) sl om = .next sl' om' ∧ I all sl' om' := by
    intro rest
    induction rest with
    | nil =>
      intro done sl om e h
      rw [List.append_nil] at e
      subst e
      exact ⟨sl, om, rfl, h⟩
    | cons x rest ih =>
      intro done sl om e h
      obtain ⟨sl1, om1, e1, h1⟩ := st done x rest e sl om h
      obtain ⟨sl2, om2, e2, h2⟩ := ih (done ++ [x]) sl1 om1 (by rw [e, List.append_assoc]; rfl) h1
      exact ⟨sl2, om2, by rw [List.map_cons, f_consT (hf x), e1, f_n, e2], h2⟩
  exact key all [] sl om rfl h0
end
theorem flat_le {α : Type} {b : Nat} : ∀ {l : List (List α)}, (∀ x ∈ l, x.length ≤ b) → l.flatten.length ≤ l.length * b
  | [], _ => by simp
  | x :: l, h => by
    have h1 := h x List.mem_cons_self
    have h2 := flat_le (l := l) fun y hy => h y (List.mem_cons_of_mem _ hy)
    rw [List.flatten_cons, List.length_append, List.length_cons, Nat.succ_mul]
    omega
theorem sum_le {b : Nat} : ∀ {l : List Str}, (∀ x ∈ l, x.length ≤ b) → (l.map Str.length).sum ≤ l.length * b
  | [], _ => by simp
  | x :: l, h => by
    have h1 := h x List.mem_cons_self
    have h2 := sum_le (l := l) fun y hy => h y (List.mem_cons_of_mem _ hy)
    rw [List.map_cons, List.sum_cons, List.length_cons, Nat.succ_mul]
    omega
theorem joinL_len (S : List Nat) : ∀ l : List (List Nat), (TL.joinL S l).length ≤ (l.map List.length).sum + l.length * S.length
  | [] => by simp [TL.joinL]
  | [p] => by simp [TL.joinL]
  | p :: q :: r => by
    have h := joinL_len S (q :: r)
    simp only [TL.joinL, List.length_append, List.map_cons, List.sum_cons, List.length_cons, Nat.succ_mul] at h ⊢
    omega
theorem join_len (y : Str) (ws : List Str) : (Txt.join y ws).length ≤ (ws.map Str.length).sum + ws.length * y.length := by
  rw [TL.len_tl, TL.join_eq, TL.tl_join]
  have h := joinL_len (TL.tl y) (ws.map TL.tl)
  rw [List.map_map, List.length_map] at h
  have e : ws.map (List.length ∘ TL.tl) = ws.map Str.length := List.map_congr_left fun w _ => (TL.len_tl w).symm
  rw [e, ← TL.len_tl] at h
  exact h
/-! ### dots -/
def dots (k : Nat) : List Str := List.replicate k (Str.ofString ".")
theorem o_dots {T : Tb} {om : Om} {k : Nat} (h : k ≤ 1000) : bop T .mul (.lst [.str (Str.ofString ".")]) (.int (k : Int)) om = .ok (.lst (strL (dots k))) om := by
  rw [o_mull, if_pos ⟨by omega, by omega, by simp; omega⟩, Int.toNat_natCast]
  congr 2
  unfold strL dots
  rw [List.map_replicate]
  induction k with
  | zero => rfl
  | succ k ih =>
    rw [List.replicate_succ, List.replicate_succ, List.flatten_cons, ih (by omega)]
    rfl
theorem dots_ok {k : Nat} : ∀ w ∈ dots k, w = Str.ofString "." := fun w h => (List.mem_replicate.mp h).2

/-! ### data that may be laid out -/
def Lay (n : Nat) (d : D) : Prop := ∃ q, toP d = some q ∧ PyData.canLay0 q = true ∧ PyData.depth q ≤ n
theorem Lay.up {n k : Nat} {d : D} (h : Lay n d) (hk : n ≤ k) : Lay k d := by
  obtain ⟨q, h1, h2, h3⟩ := h
  exact ⟨q, h1, h2, by omega⟩
theorem lays {n : Nat} : ∀ {ds : List D}, (∀ x ∈ ds, Lay n x) → ∃ qs, toPs ds = some qs ∧ PyData.canLayAll0 qs = true ∧ PyData.depthAll qs ≤ n
  | [], _ => ⟨[], rfl, rfl, Nat.zero_le _⟩
  | d :: ds, h => by
    obtain ⟨q, h1, h2, h3⟩ := h d List.mem_cons_self
    obtain ⟨qs, k1, k2, k3⟩ := lays (ds := ds) fun x hx => h x (List.mem_cons_of_mem _ hx)
    refine ⟨q :: qs, ?_, ?_, ?_⟩
    · rw [toPs, h1, k1]
    · show (PyData.canLay0 q && PyData.canLayAll0 qs) = true
      rw [h2, k2]
      rfl
    · show max (PyData.depth q) (PyData.depthAll qs) ≤ n
      omega
theorem lay_tup {n : Nat} {ds : List D} (h : ∀ x ∈ ds, Lay n x) : Lay (n + 1) (.tup ds) := by
  obtain ⟨qs, k1, k2, k3⟩ := lays h
  exact ⟨.tuple qs, by rw [toP, k1]; rfl, k2, Nat.succ_le_succ k3⟩
theorem lay_lst {n : Nat} {ds : List D} (h : ∀ x ∈ ds, Lay n x) : Lay (n + 1) (.lst ds) := by
  obtain ⟨qs, k1, k2, k3⟩ := lays h
  exact ⟨.list qs, by rw [toP, k1]; rfl, k2, Nat.succ_le_succ k3⟩
theorem lay_int {n : Nat} {i : Int} : Lay n (.int i) := ⟨.int i, rfl, rfl, Nat.zero_le _⟩
theorem lay_str {n : Nat} {t : Str} (h : PyData.strOk t = true) : Lay n (.str t) := ⟨.str t, rfl, h, Nat.zero_le _⟩
theorem inD_some {n : Nat} {x : D} {ys : List D} (hx : Lay n x) (hy : ∀ y ∈ ys, Lay n y) (hn : n < 64) : ∃ b, inD x ys = some b := by
  obtain ⟨q, h1, h2, h3⟩ := hx
  obtain ⟨qs, k1, k2, k3⟩ := lays hy
  unfold inD
  rw [h1, k1]
  have e : (SeqAt.shaped q && SeqAt.shaped (.list qs)) = true := by
    have e1 : SeqAt.shaped q = true := by
      unfold SeqAt.shaped
      rw [h2, decide_eq_true (by omega)]
      rfl
    have e2 : SeqAt.shaped (.list qs) = true := by
      show (PyData.canLayAll0 qs && decide (PyData.depthAll qs + 1 ≤ 64)) = true
      rw [k2, decide_eq_true (by omega)]
      rfl
    rw [e1, e2]
    rfl
  exact ⟨_, if_pos e⟩
theorem o_nin {T : Tb} {x : D} {ys : List D} {b : Bool} {om : Om} (h : inD x ys = some b) : cmp T .nin x (.lst ys) om = .ok (!b) om := by
  show opt ((inD x ys).map (!·)) om = _
  rw [h]
  rfl
theorem o_inn {T : Tb} {x : D} {ys : List D} {b : Bool} {om : Om} (h : inD x ys = some b) : cmp T .inn x (.lst ys) om = .ok b om := by
  show opt (inD x ys) om = _
  rw [h]
  rfl
end PD

set_option Elab.async false
set_option linter.all false
set_option maxRecDepth 100000
set_option maxHeartbeats 1000000
/-! K81P: signals, plans, the lines' stack: plain. -/
namespace K81
open PySem L2 PD
/-! ### numbers -/
theorem numL_of : ∀ (l : List Nat), l ≠ [] → (∀ c ∈ l, 48 ≤ c ∧ c ≤ 57) → (l.head? ≠ some 48 ∨ l.length = 1) → ∃ k, TL.numL k = l := by
  intro l
  induction hn : l.length using Nat.strongRecOn generalizing l with
  | _ n ih =>
    intro h1 h2 h3
    rcases List.eq_nil_or_concat l with rfl | ⟨l', c, rfl⟩
    · exact absurd rfl h1
    · rw [List.concat_eq_append] at hn h1 h2 h3 ⊢
      have hc := h2 c (by simp)
      by_cases h0 : l' = []
      · subst h0
        refine ⟨c - 48, ?_⟩
        rw [TL.numL_lt (by omega)]
        have : 48 + (c - 48) = c := by omega
        rw [this]
        rfl
      · have hh : l'.head? ≠ some 48 := by
          rcases h3 with h3 | h3
          · cases l' with
            | nil => exact absurd rfl h0
            | cons a t => exact h3
          · rw [List.length_append, List.length_singleton] at hn
            exact absurd (List.eq_nil_of_length_eq_zero (by omega)) h0
        obtain ⟨k, hk⟩ := ih l'.length (by rw [← hn, List.length_append, List.length_singleton]; omega) l' rfl h0 (fun x hx => h2 x (by simp [hx])) (.inl hh)
        have k0 : k ≠ 0 := fun e => by
          subst e
          rw [TL.numL_lt (by decide)] at hk
          rw [← hk] at hh
          exact hh rfl
        refine ⟨10 * k + (c - 48), ?_⟩
        rw [TL.numL_step (by omega)]
        have e1 : (10 * k + (c - 48)) / 10 = k := by omega
        have e2 : 48 + (10 * k + (c - 48)) % 10 = c := by omega
        rw [e1, e2, hk]
def Num (w : Str) (k : Nat) : Prop := w = num k ∧ w.length ≤ 60
def IsN (w : Str) : Prop := ∃ k, Num w k
abbrev lp : Str := Str.ofString "("
abbrev rp : Str := Str.ofString ")"
theorem num_lp {k : Nat} : num k ≠ lp := fun e => by
  have z := num_free (k := k) (s := 40) (.inl (by decide))
  rw [e] at z
  exact z (by decide)
theorem num_rp {k : Nat} : num k ≠ rp := fun e => by
  have z := num_free (k := k) (s := 41) (.inl (by decide))
  rw [e] at z
  exact z (by decide)
theorem lp_rp : lp ≠ rp := fun e => by
  have e' : [40] = [41] := congrArg (fun s : Str => s.cps.toList) e
  simp at e'
/-! ### signals -/
mutual
inductive Sg where
  | n (k : Nat)
  | b (l : Sgs)
inductive Sgs where
  | nil
  | cons (s : Sg) (l : Sgs)
end
mutual
def wS : Sg → List Str
  | .n k => [num k]
  | .b l => lp :: (wL l ++ [rp])
def wL : Sgs → List Str
  | .nil => []
  | .cons s l => wS s ++ wL l
end
mutual
def okS : Sg → Prop
  | .n k => (num k).length ≤ 60
  | .b l => okL l
def okL : Sgs → Prop
  | .nil => True
  | .cons s l => okS s ∧ okL l
end
mutual
def dS : Sg → D
  | .n k => .int k
  | .b l => .tup (dL l)
def dL : Sgs → List D
  | .nil => []
  | .cons s l => dS s :: dL l
end
theorem wS_hd : ∀ s : Sg, ∃ w t, wS s = w :: t ∧ w ≠ rp
  | .n k => ⟨num k, [], by rw [wS], num_rp⟩
  | .b l => ⟨lp, wL l ++ [rp], by rw [wS], lp_rp⟩
mutual
theorem wS_inj : ∀ (s s' : Sg) (r r' : List Str), wS s ++ r = wS s' ++ r' → s = s' ∧ r = r'
  | .n k, .n k', r, r', h => by
    rw [wS, wS] at h
    obtain ⟨h1, h2⟩ := List.cons.inj h
    rw [num_inj h1]
    exact ⟨rfl, h2⟩
  | .n k, .b l, r, r', h => by
    rw [wS, wS] at h
    exact absurd (List.cons.inj h).1 num_lp
  | .b l, .n k, r, r', h => by
    rw [wS, wS] at h
    exact absurd (List.cons.inj h).1.symm num_lp
  | .b l, .b l', r, r', h => by
    rw [wS, wS] at h
    have h2 : (wL l ++ [rp]) ++ r = (wL l' ++ [rp]) ++ r' := (List.cons.inj h).2
    rw [List.append_assoc, List.append_assoc] at h2
    obtain ⟨e1, e2⟩ := wL_inj l l' r r' h2
    rw [e1, e2]
    exact ⟨rfl, rfl⟩
theorem wL_inj : ∀ (l l' : Sgs) (r r' : List Str), wL l ++ ([rp] ++ r) = wL l' ++ ([rp] ++ r') → l = l' ∧ r = r'
  | .nil, .nil, r, r', h => by
    rw [wL, List.nil_append, List.nil_append] at h
    exact ⟨rfl, (List.cons.inj h).2⟩
  | .nil, .cons s l, r, r', h => by
    rw [wL, wL] at h
    obtain ⟨w, t, e, hw⟩ := wS_hd s
    rw [e] at h
    exact absurd (List.cons.inj h).1.symm hw
  | .cons s l, .nil, r, r', h => by
    rw [wL, wL] at h
    obtain ⟨w, t, e, hw⟩ := wS_hd s
    rw [e] at h
    exact absurd (List.cons.inj h).1 hw
  | .cons s l, .cons s' l', r, r', h => by
    rw [wL, wL, List.append_assoc, List.append_assoc] at h
    obtain ⟨e1, e2⟩ := wS_inj s s' _ _ h
    obtain ⟨e3, e4⟩ := wL_inj l l' r r' e2
    rw [e1, e3, e4]
    exact ⟨rfl, rfl⟩
end
theorem wS_eq {s s' : Sg} (h : wS s = wS s') : s = s' := (wS_inj s s' [] [] (by rw [h])).1
/-! ### the automaton of one signal -/
open Classical in
noncomputable def acc : Nat → List Str → Prop
  | _, [] => False
  | d, w :: r => if w = lp then acc (d + 1) r else if w = rp then (match d with
      | 0 => False
      | 1 => r = []
      | d + 2 => acc (d + 1) r) else IsN w ∧ (if d = 0 then r = [] else acc d r)
theorem acc_nil {d : Nat} : acc d [] ↔ False := by rw [acc.eq_def]
open Classical in
theorem acc_cons {d : Nat} {w : Str} {r : List Str} : acc d (w :: r) = if w = lp then acc (d + 1) r else if w = rp then (match d with
      | 0 => False
      | 1 => r = []
      | d + 2 => acc (d + 1) r) else IsN w ∧ (if d = 0 then r = [] else acc d r) := by rw [acc.eq_def]
def cl : Nat → List Str → Prop
  | 0, r => r = []
  | d + 1, r => ∃ l r', okL l ∧ r = wL l ++ rp :: r' ∧ cl d r'
theorem acc_cl : ∀ (r : List Str) (d : Nat), acc (d + 1) r ↔ cl (d + 1) r
  | [], d => by
    rw [acc_nil, cl]
    constructor
    · exact False.elim
    · rintro ⟨l, r', _, e, _⟩
      exact absurd e (by simp)
  | w :: r, d => by
    rw [acc_cons]
    by_cases h1 : w = lp
    · subst h1
      rw [if_pos rfl, acc_cl r (d + 1), cl, cl]
      constructor
      · rintro ⟨l, r', hl, rfl, h⟩
        rw [cl] at h
        obtain ⟨l2, r2, hl2, rfl, h⟩ := h
        exact ⟨.cons (.b l) l2, r2, by rw [okL, okS]; exact ⟨hl, hl2⟩, by rw [wL, wS]; simp, h⟩
      · rintro ⟨l, r', hl, e, h⟩
        cases l with
        | nil =>
          rw [wL] at e
          exact absurd (List.cons.inj e).1 lp_rp
        | cons s l2 =>
          cases s with
          | n k =>
            rw [wL, wS] at e
            exact absurd (List.cons.inj e).1.symm num_lp
          | b l0 =>
            rw [okL, okS] at hl
            rw [wL, wS] at e
            have e2 := (List.cons.inj e).2
            refine ⟨l0, wL l2 ++ rp :: r', hl.1, by rw [e2]; simp, ?_⟩
            rw [cl]
            exact ⟨l2, r', hl.2, rfl, h⟩
    · rw [if_neg h1]
      by_cases h2 : w = rp
      · subst h2
        rw [if_pos rfl]
        have key : (match d + 1 with
            | 0 => False
            | 1 => r = []
            | d + 2 => acc (d + 1) r) ↔ cl d r := by
          cases d with
          | zero => rw [cl]
          | succ d => exact acc_cl r d
        rw [key, cl]
        constructor
        · intro h
          exact ⟨.nil, r, by rw [okL]; trivial, by rw [wL]; rfl, h⟩
        · rintro ⟨l, r', hl, e, h⟩
          cases l with
          | nil =>
            rw [wL] at e
            rw [(List.cons.inj e).2]
            exact h
          | cons s l2 =>
            obtain ⟨w, t, e1, hw⟩ := wS_hd s
            rw [wL, e1] at e
            exact absurd (List.cons.inj e).1.symm hw
      · rw [if_neg h2, if_neg (by omega), acc_cl r d]
        constructor
        · rintro ⟨⟨k, hk1, hk2⟩, h⟩
          rw [cl] at h
          obtain ⟨l, r', hl, rfl, h⟩ := h
          subst hk1
          rw [cl]
          exact ⟨.cons (.n k) l, r', by rw [okL, okS]; exact ⟨hk2, hl⟩, by rw [wL, wS]; rfl, h⟩
        · intro h
          rw [cl] at h
          obtain ⟨l, r', hl, e, h⟩ := h
          cases l with
          | nil =>
            rw [wL] at e
            exact absurd (List.cons.inj e).1 h2
          | cons s l2 =>
            cases s with
            | n k =>
              rw [okL, okS] at hl
              rw [wL, wS] at e
              obtain ⟨e1, e2⟩ := List.cons.inj e
              rw [cl]
              exact ⟨⟨k, e1, by rw [e1]; exact hl.1⟩, l2, r', hl.2, e2, h⟩
            | b l0 =>
              rw [wL, wS] at e
              exact absurd (List.cons.inj e).1 h1
theorem acc_iff (r : List Str) : acc 0 r ↔ ∃ s, okS s ∧ r = wS s := by
  cases r with
  | nil =>
    rw [acc_nil]
    constructor
    · exact False.elim
    · rintro ⟨s, _, e⟩
      obtain ⟨w, t, e1, _⟩ := wS_hd s
      rw [e1] at e
      exact nomatch e
  | cons w r =>
    rw [acc_cons]
    by_cases h1 : w = lp
    · subst h1
      rw [if_pos rfl, acc_cl r 0, cl]
      constructor
      · rintro ⟨l, r', hl, rfl, h⟩
        rw [cl] at h
        subst h
        exact ⟨.b l, by rw [okS]; exact hl, by rw [wS]⟩
      · rintro ⟨s, hs, e⟩
        cases s with
        | n k =>
          rw [wS] at e
          exact absurd (List.cons.inj e).1.symm num_lp
        | b l =>
          rw [okS] at hs
          rw [wS] at e
          exact ⟨l, [], hs, (List.cons.inj e).2, by rw [cl]⟩
    · rw [if_neg h1]
      by_cases h2 : w = rp
      · subst h2
        rw [if_pos rfl]
        constructor
        · exact False.elim
        · rintro ⟨s, _, e⟩
          obtain ⟨w, t, e1, hw⟩ := wS_hd s
          rw [e1] at e
          exact absurd (List.cons.inj e).1.symm hw
      · rw [if_neg h2, if_pos rfl]
        constructor
        · rintro ⟨⟨k, rfl, hk⟩, rfl⟩
          exact ⟨.n k, by rw [okS]; exact hk, by rw [wS]⟩
        · rintro ⟨s, hs, e⟩
          cases s with
          | n k =>
            rw [okS] at hs
            rw [wS] at e
            obtain ⟨e1, e2⟩ := List.cons.inj e
            exact ⟨⟨k, e1, by rw [e1]; exact hs⟩, e2⟩
          | b l =>
            rw [wS] at e
            exact absurd (List.cons.inj e).1 h1
/-! ### plans -/
theorem dlen {k : Nat} : (dots k).length = k := List.length_replicate
mutual
inductive Pl where
  | ch (k : Nat)
  | ask (k : Nat) (ps : Pls)
inductive Pls where
  | nil
  | cons (s : Sg) (p : Pl) (ps : Pls)
end
abbrev wC : Str := Str.ofString "choose"
abbrev wA : Str := Str.ofString "ask"
abbrev wI : Str := Str.ofString "if"
mutual
def lP : Nat → Pl → List (List Str)
  | d, .ch k => [dots d ++ [wC, num k]]
  | d, .ask k ps => (dots d ++ [wA, num k]) :: lPs d ps
def lPs : Nat → Pls → List (List Str)
  | _, .nil => []
  | d, .cons s p ps => (dots (d + 1) ++ wI :: wS s) :: (lP (d + 2) p ++ lPs d ps)
end
mutual
def dP : Pl → D
  | .ch k => .tup [.str wC, .int k]
  | .ask k ps => .tup [.str wA, .int k, .tup (dPs ps)]
def dPs : Pls → List D
  | .nil => []
  | .cons s p ps => .tup [dS s, dP p] :: dPs ps
end
/-! ### what is open -/
inductive En where
  | plan (d : Nat)
  | parts (d : Nat) (seen : List (List Str))
def En.isPlan : En → Bool
  | .plan _ => true
  | .parts _ _ => false
def HeadL (w : Str) (d : Nat) (l : List Str) : Prop := ∃ k, l = dots d ++ [w, num k] ∧ (num k).length ≤ 60
def IfL (d : Nat) (l : List Str) : Prop := l.take d = dots d ∧ (l.drop d).take 1 = [wI]
def SigL (ws : List Str) : Prop := ∃ s, okS s ∧ ws = wS s
open Classical in
noncomputable def M (st : List En) (ls : List (List Str)) (p : Nat) : Option Nat := match st, ls with
  | st, [] => if st.any En.isPlan = true then some p else none
  | [], _ :: _ => some p
  | .plan d :: st, l :: ls => if HeadL wC d l then M st ls (p + 1) else if HeadL wA d l then M (.parts (d + 1) [] :: st) ls (p + 1) else some p
  | .parts d seen :: st, l :: ls => if IfL d l then (if SigL (l.drop (d + 1)) ∧ l.drop (d + 1) ∉ seen then M (.plan (d + 1) :: .parts d (seen ++ [l.drop (d + 1)]) :: st) ls (p + 1) else some p) else M st (l :: ls) p
termination_by (ls.length, st.length)
theorem M_nil {st : List En} {p : Nat} : M st [] p = if st.any En.isPlan = true then some p else none := by
  rw [M]
theorem M_emp {l : List Str} {ls : List (List Str)} {p : Nat} : M [] (l :: ls) p = some p := by rw [M]
theorem M_ch {d : Nat} {st : List En} {l : List Str} {ls : List (List Str)} {p : Nat} (h : HeadL wC d l) : M (.plan d :: st) (l :: ls) p = M st ls (p + 1) := by rw [M, if_pos h]
theorem M_ask {d : Nat} {st : List En} {l : List Str} {ls : List (List Str)} {p : Nat} (h0 : ¬ HeadL wC d l) (h : HeadL wA d l) : M (.plan d :: st) (l :: ls) p = M (.parts (d + 1) [] :: st) ls (p + 1) := by rw [M, if_neg h0, if_pos h]
theorem M_bad {d : Nat} {st : List En} {l : List Str} {ls : List (List Str)} {p : Nat} (h0 : ¬ HeadL wC d l) (h : ¬ HeadL wA d l) : M (.plan d :: st) (l :: ls) p = some p := by rw [M, if_neg h0, if_neg h]
theorem M_if {d : Nat} {seen : List (List Str)} {st : List En} {l : List Str} {ls : List (List Str)} {p : Nat} (h : IfL d l) (h2 : SigL (l.drop (d + 1))) (h3 : l.drop (d + 1) ∉ seen) : M (.parts d seen :: st) (l :: ls) p = M (.plan (d + 1) :: .parts d (seen ++ [l.drop (d + 1)]) :: st) ls (p + 1) := by rw [M, if_pos h, if_pos ⟨h2, h3⟩]
theorem M_ifbad {d : Nat} {seen : List (List Str)} {st : List En} {l : List Str} {ls : List (List Str)} {p : Nat} (h : IfL d l) (h2 : ¬ (SigL (l.drop (d + 1)) ∧ l.drop (d + 1) ∉ seen)) : M (.parts d seen :: st) (l :: ls) p = some p := by rw [M, if_pos h, if_neg h2]
theorem M_pop {d : Nat} {seen : List (List Str)} {st : List En} {l : List Str} {ls : List (List Str)} {p : Nat} (h : ¬ IfL d l) : M (.parts d seen :: st) (l :: ls) p = M st (l :: ls) p := by rw [M, if_neg h]
theorem M_popn {d : Nat} {seen : List (List Str)} {st : List En} {p : Nat} : M (.parts d seen :: st) [] p = M st [] p := by
  rw [M_nil, M_nil]
  rfl
end K81

set_option Elab.async false
set_option linter.all false
set_option maxRecDepth 100000
set_option maxHeartbeats 1000000
/-! K81G: what is drawn: trees, chains, their lines. -/
namespace K81
open PySem L2 PD
section
variable {wf m : Nat} {om r : Om}
theorem draw {s : Int} (hm : 0 < m) (hs : 0 < s) (hs' : s < 2 ^ 200) (hp : PoolAt om r) : ∃ v om', callN prog wf m 10 [.amb 0, .int s] om = .ok (.int v) om' ∧ 0 ≤ v ∧ v < s ∧ PoolAt om' r := by
  obtain ⟨m, rfl⟩ : ∃ k, m = k + 1 := ⟨m - 1, by omega⟩
  obtain ⟨v, om', e, h⟩ := draw_ok (T := tab prog wf m) hs hs' hp
  exact ⟨v, om', call_ret (d := ⟨2, 4, B_Ldraw, none⟩) rfl rfl rfl e, h⟩
theorem spend (hm : 0 < m) (hp : PoolAt om r) : ∃ b om', callN prog wf m 11 [.amb 0] om = .ok (.bl b) om' ∧ PoolAt om' r := by
  obtain ⟨m, rfl⟩ : ∃ k, m = k + 1 := ⟨m - 1, by omega⟩
  obtain ⟨ns, a, b, c, d, e, rfl, ha, hc, hc'⟩ := hp
  refine ⟨decide (0 ≤ e - 1), .pl (poolD ns a b c d (e - 1)) :: r, call_ret (d := ⟨1, 1, B_Lspend, none⟩) rfl rfl rfl ?_, ⟨_, _, _, _, _, _, rfl, ha, hc, hc'⟩⟩
  simp [B_Lspend, slots, ixp5, sp5]
/-! ### signals -/
def SigR : Nat → D → List Str → Prop
  | 0, d, ws => ∃ k : Nat, k < 70000 ∧ d = .int k ∧ ws = [num k]
  | n + 1, d, ws => SigR 0 d ws ∨ ∃ ps : List (D × List Str), ps.length ≤ 3 ∧ (∀ p ∈ ps, SigR n p.1 p.2) ∧ d = .tup (ps.map (·.1)) ∧ ws = Str.ofString "(" :: ((ps.map (·.2)).flatten ++ [Str.ofString ")"])
theorem SigR.zero {n : Nat} {d : D} {ws : List Str} (h : SigR 0 d ws) : SigR n d ws := by
  cases n with
  | zero => exact h
  | succ n => rw [SigR]; exact .inl h
theorem SigR.up {n : Nat} : ∀ {d : D} {ws : List Str}, SigR n d ws → SigR (n + 1) d ws := by
  induction n with
  | zero => intro d ws h; exact h.zero
  | succ n ih =>
    intro d ws h
    rw [SigR] at h
    rcases h with h | ⟨ps, h1, h2, h3, h4⟩
    · exact h.zero
    · rw [SigR]
      exact .inr ⟨ps, h1, fun p hp => ih (h2 p hp), h3, h4⟩
theorem SigR.le {n k : Nat} (hk : n ≤ k) {d : D} {ws : List Str} (h : SigR n d ws) : SigR k d ws := by
  induction hk with
  | refl => exact h
  | step _ ih => exact ih.up
theorem sig_leaf (hm : 0 < m) (hp : PoolAt om r) {n : Int} : ∃ (k : Nat) (om' : Om), evE (tab prog wf m) (.ix (.tup (.cons (.call 10 [] (.cons (.v 0) (.cons (.k (.int 9)) .nil))) (.cons (.call 10 [] (.cons (.v 0) (.cons (.k (.int 70000)) .nil))) .nil))) (.call 10 [] (.cons (.v 0) (.cons (.k (.int 2)) .nil)))) [.val (.amb 0), .val (.int n), .no] om = .ok (.int k) om' ∧ k < 70000 ∧ PoolAt om' r := by
  obtain ⟨v1, om1, e1, a1, b1, p1⟩ := draw (wf := wf) hm (s := 9) (by decide) (by decide) hp
  obtain ⟨v2, om2, e2, a2, b2, p2⟩ := draw (wf := wf) hm (s := 70000) (by decide) (by decide) p1
  obtain ⟨v3, om3, e3, a3, b3, p3⟩ := draw (wf := wf) hm (s := 2) (by decide) (by decide) p2
  obtain ⟨k1, rfl⟩ := Int.eq_ofNat_of_zero_le a1
  obtain ⟨k2, rfl⟩ := Int.eq_ofNat_of_zero_le a2
  have h3 : v3 = 0 ∨ v3 = 1 := by omega
  rcases h3 with rfl | rfl
  · exact ⟨k1, om3, by simp [e1, e2, e3], by omega, p3⟩
  · exact ⟨k2, om3, by simp [e1, e2, e3], by omega, p3⟩
theorem signal : ∀ (n : Nat) (m : Nat) (om : Om), n + 1 < m → PoolAt om r → ∃ d ws om', callN prog wf m 13 [.amb 0, .int n] om = .ok d om' ∧ SigR n d ws ∧ PoolAt om' r := by
  intro n
  induction n with
  | zero =>
    intro m om hm hp
    obtain ⟨m, rfl⟩ : ∃ k, m = k + 1 := ⟨m - 1, by omega⟩
    obtain ⟨k, om', e, hk, p1⟩ := sig_leaf (wf := wf) (m := m) (n := 0) (by omega) hp
    refine ⟨.int k, [num k], om', call_ret (d := ⟨2, 3, B_Lsignal, none⟩) rfl rfl rfl ?_, (by rw [SigR]; exact ⟨k, hk, rfl, rfl⟩), p1⟩
    have hs : slots ⟨2, 3, B_Lsignal, none⟩ [.amb 0, .int ((0 : Nat) : Int)] = [.val (.amb 0), .val (.int 0), .no] := rfl
    rw [hs]
    unfold B_Lsignal
    rw [z_seq, z_ite, r_or, r_cm, r_v rfl, r_cm1, r_k, r_cm2, o_eqi]
    simp only [decide_true, r_bl, r_or1, r_tr1, z_ite1, z_seq, z_ret]
    rw [e, z_ret1, z_seq2, z_seq2]
  | succ n ih =>
    intro m om hm hp
    obtain ⟨m, rfl⟩ : ∃ k, m = k + 1 := ⟨m - 1, by omega⟩
    have hs : slots ⟨2, 3, B_Lsignal, none⟩ [.amb 0, .int ((n + 1 : Nat) : Int)] = [.val (.amb 0), .val (.int ((n + 1 : Nat) : Int)), .no] := rfl
    have hn0 : ¬ ((n + 1 : Nat) : Int) = 0 := by omega
    have hn1 : ((n + 1 : Nat) : Int) - 1 = (n : Int) := by omega
    generalize ((n + 1 : Nat) : Int) = N at hs hn0 hn1 ⊢
    obtain ⟨v0, om0, e0, a0, b0, p0⟩ := draw (wf := wf) (m := m) (s := 2) (by omega) (by decide) (by decide) hp
    by_cases hv : v0 = 0
    · subst hv
      obtain ⟨k, om', e, hk, p1⟩ := sig_leaf (wf := wf) (m := m) (n := N) (by omega) p0
      refine ⟨.int k, [num k], om', call_ret (d := ⟨2, 3, B_Lsignal, none⟩) rfl rfl rfl ?_, SigR.zero (by rw [SigR]; exact ⟨k, hk, rfl, rfl⟩), p1⟩
      rw [hs]
      unfold B_Lsignal
      rw [z_seq, z_ite, r_or, r_cm, r_v rfl, r_cm1, r_k, r_cm2, o_eqi, decide_eq_false hn0, r_bl, r_or2, r_cm]
      rw [show evE (tab prog wf m) (.call 10 [] (.cons (.v 0) (.cons (.k (.int 2)) .nil))) [.val (.amb 0), .val (.int N), .no] om = .ok (.int 0) om0 by simp [e0]]
      simp only [r_cm1, r_k, r_cm2, o_eqi, decide_true, r_bl, r_tr1, z_ite1, z_seq, z_ret]
      rw [e, z_ret1, z_seq2, z_seq2]
    · obtain ⟨v1, om1, e1, a1, b1, p1⟩ := draw (wf := wf) (m := m) (s := 4) (by omega) (by decide) (by decide) p0
      obtain ⟨k1, rfl⟩ := Int.eq_ofNat_of_zero_le a1
      have hcomp := comp_keep (T := tab prog wf m) (i := 2) (sl := [.val (.amb 0), .val (.int N), .no]) (cond := .k (.bl true)) (elt := .call 13 [] (.cons (.v 0) (.cons (.op .sub (.v 1) (.k (.int 1))) .nil))) (f := fun k : Nat => D.int k)
        (fun done ys om => ∃ ps : List (D × List Str), ys = ps.map (·.1) ∧ ps.length = done.length ∧ (∀ p ∈ ps, SigR n p.1 p.2) ∧ PoolAt om r) (List.range k1) [] [] om1 ⟨[], rfl, rfl, fun _ h => (nomatch h), p1⟩
        (fun done ys x hx om hI => by
          obtain ⟨ps, rfl, hl, hall, hp⟩ := hI
          obtain ⟨d, ws, om', e, hd, hp'⟩ := ih m om (by omega) hp
          refine ⟨d, om', by simp, by simp [hn1, e], ps ++ [(d, ws)], by simp, by simp [hl], fun p hp => ?_, hp'⟩
          rcases List.mem_append.mp hp with h | h
          · exact hall p h
          · rw [List.mem_singleton.mp h]; exact hd)
      obtain ⟨zs, om2, ez, ps, hys, hl, hall, p2⟩ := hcomp
      rw [List.nil_append] at hys hl
      rw [List.length_range] at hl
      refine ⟨.tup (ps.map (·.1)), Str.ofString "(" :: ((ps.map (·.2)).flatten ++ [Str.ofString ")"]), om2, call_ret (d := ⟨2, 3, B_Lsignal, none⟩) rfl rfl rfl ?_, ?_, p2⟩
      · rw [hs]
        have hr : kR1 (.ok (.int (k1 : Int)) om1) = .ok ((List.range k1).map fun (k : Nat) => .int k) om1 := by
          rw [r_rng1a (by omega) (by omega), Int.toNat_natCast]
        have hl2 : k1 ≤ 1000000 := by omega
        simp [B_Lsignal, hn0, e0, hv, e1, hr, hl2, ez, hys]
      · rw [SigR]
        exact .inr ⟨ps, by omega, hall, rfl, rfl⟩

theorem sig_lay : ∀ {n : Nat} {d : D} {ws : List Str}, SigR n d ws → Lay n d := by
  intro n
  induction n with
  | zero =>
    intro d ws h
    rw [SigR] at h
    obtain ⟨k, _, rfl, _⟩ := h
    exact lay_int
  | succ n ih =>
    intro d ws h
    rw [SigR] at h
    rcases h with h | ⟨ps, h1, h2, rfl, _⟩
    · rw [SigR] at h
      obtain ⟨k, _, rfl, _⟩ := h
      exact lay_int
    · refine lay_tup fun x hx => ?_
      obtain ⟨p, hp, rfl⟩ := List.mem_map.mp hx
      exact ih (h2 p hp)
/-! ### plans -/
theorem sig_len : ∀ {n : Nat} {d : D} {ws : List Str}, SigR n d ws → ws.length + 1 ≤ 2 * 3 ^ n := by
  intro n
  induction n with
  | zero =>
    intro d ws h
    rw [SigR] at h
    obtain ⟨k, _, _, rfl⟩ := h
    simp
  | succ n ih =>
    intro d ws h
    rw [SigR] at h
    rcases h with h | ⟨ps, h1, h2, _, rfl⟩
    · rw [SigR] at h
      obtain ⟨k, _, _, rfl⟩ := h
      have : 1 ≤ 3 ^ (n + 1) := Nat.one_le_pow _ _ (by decide)
      simp
      omega
    · have z := flat_le (l := ps.map (·.2)) (b := 2 * 3 ^ n - 1) (fun x hx => by
        obtain ⟨p, hp, rfl⟩ := List.mem_map.mp hx
        have := ih (h2 p hp)
        omega)
      rw [List.length_map] at z
      have z2 : ps.length * (2 * 3 ^ n - 1) ≤ 3 * (2 * 3 ^ n - 1) := Nat.mul_le_mul_right _ h1
      have : 1 ≤ 3 ^ n := Nat.one_le_pow _ _ (by decide)
      rw [List.length_cons, List.length_append, List.length_singleton, Nat.pow_succ]
      omega
structure Pt where
  s : D
  ws : List Str
  q : D
  ls : List (List Str)
abbrev Pt.d (p : Pt) : D := .tup [p.s, p.q]
def Dist (ps : List Pt) : Prop := ∀ done p rest, ps = done ++ p :: rest → inD p.s (done.map Pt.s) = some false
def ptL (dep : Nat) (p : Pt) : List (List Str) := (dots (dep + 1) ++ Str.ofString "if" :: p.ws) :: p.ls
def PlanR : Nat → Nat → D → List (List Str) → Prop
  | 0, dep, d, ls => ∃ k : Nat, k < 20 ∧ d = .tup [.str (Str.ofString "choose"), .int k] ∧ ls = [dots dep ++ [Str.ofString "choose", num k]]
  | n + 1, dep, d, ls => PlanR 0 dep d ls ∨ ∃ (k : Nat) (ps : List Pt), k < 20 ∧ ps.length ≤ 3 ∧ d = .tup [.str (Str.ofString "ask"), .int k, .tup (ps.map Pt.d)] ∧ Dist ps ∧ (∀ p ∈ ps, SigR 9 p.s p.ws ∧ PlanR n (dep + 2) p.q p.ls) ∧
      ls = (dots dep ++ [Str.ofString "ask", num k]) :: (ps.map (ptL dep)).flatten
theorem PlanR.zero {n dep : Nat} {d : D} {ls : List (List Str)} (h : PlanR 0 dep d ls) : PlanR n dep d ls := by
  cases n with
  | zero => exact h
  | succ n => rw [PlanR]; exact .inl h
theorem PlanR.up {n : Nat} : ∀ {dep : Nat} {d : D} {ls : List (List Str)}, PlanR n dep d ls → PlanR (n + 1) dep d ls := by
  induction n with
  | zero => intro dep d ws h; exact h.zero
  | succ n ih =>
    intro dep d ws h
    rw [PlanR] at h
    rcases h with h | ⟨k, ps, h1, h2, h3, h4, h5, h6⟩
    · exact h.zero
    · rw [PlanR]
      exact .inr ⟨k, ps, h1, h2, h3, h4, fun p hp => ⟨(h5 p hp).1, ih (h5 p hp).2⟩, h6⟩
theorem PlanR.le {n k dep : Nat} (hk : n ≤ k) {d : D} {ls : List (List Str)} (h : PlanR n dep d ls) : PlanR k dep d ls := by
  induction hk with
  | refl => exact h
  | step _ ih => exact ih.up
theorem Dist.app {ps : List Pt} {p : Pt} (h : Dist ps) (hp : inD p.s (ps.map Pt.s) = some false) : Dist (ps ++ [p]) := by
  intro done x rest e
  rcases List.eq_nil_or_concat rest with rfl | ⟨r', y, rfl⟩
  · obtain ⟨e1, e2⟩ := List.append_inj' e rfl
    cases e2
    rw [← e1]
    exact hp
  · have e' : ps ++ [p] = (done ++ x :: r') ++ [y] := by rw [e]; simp
    obtain ⟨e1, _⟩ := List.append_inj' e' rfl
    exact h done x r' e1
theorem tree_leaf (hm : 0 < m) (hp : PoolAt om r) {n : Int} : ∃ (k : Nat) (om' : Om), evE (tab prog wf m) (.tup (.cons (.k (.str "choose")) (.cons (.call 10 [] (.cons (.v 0) (.cons (.k (.int 20)) .nil))) .nil))) [.val (.amb 0), .val (.int n), .no, .no, .no, .no] om = .ok (.tup [.str (Str.ofString "choose"), .int k]) om' ∧ k < 20 ∧ PoolAt om' r := by
  obtain ⟨v1, om1, e1, a1, b1, p1⟩ := draw (wf := wf) hm (s := 20) (by decide) (by decide) hp
  obtain ⟨k1, rfl⟩ := Int.eq_ofNat_of_zero_le a1
  exact ⟨k1, om1, by simp [e1], by omega, p1⟩
theorem tree : ∀ (n dep m : Nat) (om : Om), n + 4 < m → PoolAt om r → ∃ d ls om', callN prog wf m 14 [.amb 0, .int n] om = .ok d om' ∧ PlanR n dep d ls ∧ (ls.length ≤ 4 ^ (n + 1) ∧ ∀ l ∈ ls, l.length ≤ dep + 2 * n + 20) ∧ PoolAt om' r := by
  intro n
  induction n with
  | zero =>
    intro dep m om hm hp
    obtain ⟨m, rfl⟩ : ∃ k, m = k + 1 := ⟨m - 1, by omega⟩
    obtain ⟨k, om', e, hk, p1⟩ := tree_leaf (wf := wf) (m := m) (n := ((0 : Nat) : Int)) (by omega) hp
    refine ⟨_, [dots dep ++ [Str.ofString "choose", num k]], om', call_ret (d := ⟨2, 6, B_Ltree, none⟩) rfl rfl rfl ?_, (by rw [PlanR]; exact ⟨k, hk, rfl, rfl⟩), ⟨by simp, fun l hl => by rw [List.mem_singleton.mp hl, List.length_append, dlen]; simp⟩, p1⟩
    have hs : slots ⟨2, 6, B_Ltree, none⟩ [.amb 0, .int ((0 : Nat) : Int)] = [.val (.amb 0), .val (.int ((0 : Nat) : Int)), .no, .no, .no, .no] := rfl
    rw [hs]
    unfold B_Ltree
    rw [z_seq, z_ite, r_or, r_cm, r_v rfl, r_cm1, r_k, r_cm2, o_eqi]
    simp only [Int.natCast_zero, decide_true, r_bl, r_or1, r_tr1, z_ite1, z_seq, z_ret] at e ⊢
    rw [e, z_ret1, z_seq2, z_seq2]
  | succ n ih =>
    intro dep m om hm hp
    obtain ⟨m, rfl⟩ : ∃ k, m = k + 1 := ⟨m - 1, by omega⟩
    have hs : slots ⟨2, 6, B_Ltree, none⟩ [.amb 0, .int ((n + 1 : Nat) : Int)] = [.val (.amb 0), .val (.int ((n + 1 : Nat) : Int)), .no, .no, .no, .no] := rfl
    have hn0 : ¬ ((n + 1 : Nat) : Int) = 0 := by omega
    have hn1 : ((n + 1 : Nat) : Int) - 1 = (n : Int) := by omega
    generalize ((n + 1 : Nat) : Int) = N at hs hn0 hn1 ⊢
    have leaf : ∀ om0, PoolAt om0 r → evE (tab prog wf m) (.or (.cm .eq (.v 1) (.k (.int 0))) (.or (.no (.call 11 [] (.cons (.v 0) .nil))) (.cm .eq (.call 10 [] (.cons (.v 0) (.cons (.k (.int 3)) .nil))) (.k (.int 0))))) [.val (.amb 0), .val (.int N), .no, .no, .no, .no] om = .ok (.bl true) om0 →
        ∃ d ls om', callN prog wf (m + 1) 14 [.amb 0, .int N] om = .ok d om' ∧ PlanR (n + 1) dep d ls ∧ (ls.length ≤ 4 ^ (n + 1 + 1) ∧ ∀ l ∈ ls, l.length ≤ dep + 2 * (n + 1) + 20) ∧ PoolAt om' r := by
      intro om0 p0 ec
      obtain ⟨k, om', e, hk, p1⟩ := tree_leaf (wf := wf) (m := m) (n := N) (by omega) p0
      refine ⟨_, [dots dep ++ [Str.ofString "choose", num k]], om', call_ret (d := ⟨2, 6, B_Ltree, none⟩) rfl rfl rfl ?_, PlanR.zero (by rw [PlanR]; exact ⟨k, hk, rfl, rfl⟩), ?_, p1⟩
      · rw [hs]
        unfold B_Ltree
        rw [z_seq, z_ite, ec, r_tr1, z_ite1, z_seq, z_ret, e, z_ret1, z_seq2, z_seq2]
      · exact ⟨Nat.one_le_pow _ _ (by decide), fun l hl => by rw [List.mem_singleton.mp hl, List.length_append, dlen, List.length_cons, List.length_singleton]; omega⟩
    obtain ⟨b, om0, e0, p0⟩ := spend (wf := wf) (m := m) (by omega) hp
    cases b with
    | false => exact leaf om0 p0 (by simp [hn0, e0])
    | true =>
      obtain ⟨v1, om1, e1, a1, b1, p1⟩ := draw (wf := wf) (m := m) (s := 3) (by omega) (by decide) (by decide) p0
      by_cases hv : v1 = 0
      · exact leaf om1 p1 (by simp [hn0, e0, e1, hv])
      · obtain ⟨v2, om2, e2, a2, b2, p2⟩ := draw (wf := wf) (m := m) (s := 4) (by omega) (by decide) (by decide) p1
        obtain ⟨k2, rfl⟩ := Int.eq_ofNat_of_zero_le a2
        have ec : evE (tab prog wf m) (.or (.cm .eq (.v 1) (.k (.int 0))) (.or (.no (.call 11 [] (.cons (.v 0) .nil))) (.cm .eq (.call 10 [] (.cons (.v 0) (.cons (.k (.int 3)) .nil))) (.k (.int 0))))) [.val (.amb 0), .val (.int N), .no, .no, .no, .no] om = .ok (.bl false) om1 := by simp [hn0, e0, e1, hv]
        have loop := for_all (T := tab prog wf m) (i := 3) (sl := [.val (.amb 0), .val (.int N), .own [], .no, .no, .no]) (om := om2) (f := fun k : Nat => D.int k)
          (b := (.seq (.set 4 (.call 13 [] (.cons (.v 0) (.cons (.k (.int 2)) .nil)))) (.seq (.ite (.cm .nin (.v 4) (.comp (.one 5) (.itl (.b 2)) (.k (.bl true)) (.ix (.v 5) (.k (.int 0))))) (.seq (.app 2 (.tup (.cons (.v 4) (.cons (.call 14 [] (.cons (.v 0) (.cons (.op .sub (.v 1) (.k (.int 1))) .nil))) .nil)))) .skip) .skip) .skip)))
          (List.range k2)
          (fun done sl om => ∃ (ps : List Pt) (c3 c4 : Cell), sl = [.val (.amb 0), .val (.int N), .own (ps.map Pt.d), c3, c4, .no] ∧ ps.length ≤ done.length ∧ Dist ps ∧ (∀ p ∈ ps, (SigR 9 p.s p.ws ∧ PlanR n (dep + 2) p.q p.ls) ∧ (p.ls.length ≤ 4 ^ (n + 1) ∧ ∀ l ∈ p.ls, l.length ≤ dep + 2 + 2 * n + 20) ∧ p.ws.length ≤ 17) ∧ PoolAt om r)
          ⟨[], .no, .no, rfl, Nat.le_refl _, fun done p rest h => by simp at h, fun _ h => (nomatch h), p2⟩
          (by
            rintro done x rest hall sl om ⟨ps, c3, c4, rfl, hl, hd, hps, hp⟩
            have hlen : done.length < 3 := by
              have z := congrArg List.length hall
              rw [List.length_range, List.length_append, List.length_cons] at z
              omega
            obtain ⟨d, ws, om', e, hsig, p'⟩ := signal (wf := wf) 2 m om (by omega) hp
            have hsig9 : SigR 9 d ws := hsig.le (by decide)
            obtain ⟨bb, hb⟩ := inD_some (n := 9) (ys := ps.map Pt.s) (sig_lay hsig9) (fun y hy => by
              obtain ⟨p, hp, rfl⟩ := List.mem_map.mp hy
              exact sig_lay (hps p hp).1.1) (by decide)
            have hcm := comp_map (T := tab prog wf m) (om := om') (i := 5) (sl := [.val (.amb 0), .val (.int N), .own (ps.map Pt.d), .val (.int (x : Int)), .val d, .no]) (cond := .k (.bl true)) (elt := .ix (.v 5) (.k (.int 0))) (f := Pt.d) (g := Pt.s) ps (fun p hp => by simp)
            have hl2 : ps.length ≤ 1000000 := by omega
            have e' : callN prog wf m 13 [.amb 0, .int 2] om = .ok d om' := e
            cases bb with
            | true =>
              refine ⟨_, om', ?_, ps, .val (.int (x : Int)), .val d, rfl, by simp; omega, hd, hps, p'⟩
              simp [e', hl2, hcm, o_nin hb]
            | false =>
              obtain ⟨q, ls, om3, eq, hq, hql, p3⟩ := ih (dep + 2) m om' (by omega) p'
              refine ⟨[.val (.amb 0), .val (.int N), .own ((ps ++ [(⟨d, ws, q, ls⟩ : Pt)]).map Pt.d), .val (.int (x : Int)), .val d, .no], om3, ?_, ps ++ [(⟨d, ws, q, ls⟩ : Pt)], .val (.int (x : Int)), .val d, rfl, by simp; omega, hd.app hb, fun p hp => ?_, p3⟩
              · have hl3 : ps.length < 1000000 := by omega
                simp [e', hl2, hl3, hcm, o_nin hb, hn1, eq]
              · rcases List.mem_append.mp hp with h | h
                · exact hps p h
                · rw [List.mem_singleton.mp h]
                  exact ⟨⟨hsig9, hq⟩, hql, by have := sig_len hsig; simp at this; omega⟩)
        obtain ⟨sl', om3, ef, ps, c3, c4, rfl, hl, hd, hps, p3⟩ := loop
        obtain ⟨v4, om4, e4, a4, b4, p4⟩ := draw (wf := wf) (m := m) (s := 20) (by omega) (by decide) (by decide) p3
        obtain ⟨k4, rfl⟩ := Int.eq_ofNat_of_zero_le a4
        rw [List.length_range] at hl
        refine ⟨.tup [.str (Str.ofString "ask"), .int k4, .tup (ps.map Pt.d)], (dots dep ++ [Str.ofString "ask", num k4]) :: (ps.map (ptL dep)).flatten, om4, call_ret (d := ⟨2, 6, B_Ltree, none⟩) rfl rfl rfl ?_, ?_, ?_, p4⟩
        · rw [hs]
          unfold B_Ltree
          have hr : kR1 (.ok (.int (k2 : Int)) om2) = .ok ((List.range k2).map fun (k : Nat) => .int k) om2 := by
            rw [r_rng1a (by omega) (by omega), Int.toNat_natCast]
          rw [z_seq, z_ite, ec, r_tr1, z_ite2, z_skip, z_seq1]
          simp [e2, hr, ef, e4]
        · rw [PlanR]
          exact .inr ⟨k4, ps, by omega, by omega, rfl, hd, fun p hp => (hps p hp).1, rfl⟩
        · refine ⟨?_, fun l hl => ?_⟩
          rotate_left
          · rcases List.mem_cons.mp hl with rfl | hl
            · rw [List.length_append, dlen, List.length_cons, List.length_singleton]
              omega
            · obtain ⟨x, hx, hl⟩ := List.mem_flatten.mp hl
              obtain ⟨p, hp, rfl⟩ := List.mem_map.mp hx
              obtain ⟨_, ⟨_, h2⟩, h3⟩ := hps p hp
              rcases List.mem_cons.mp hl with rfl | hl
              · rw [List.length_append, dlen, List.length_cons]
                omega
              · have := h2 l hl
                omega
          have z := flat_le (l := ps.map (ptL dep)) (b := 4 ^ (n + 1) + 1) (fun x hx => by
            obtain ⟨p, hp, rfl⟩ := List.mem_map.mp hx
            have := (hps p hp).2.1.1
            unfold ptL
            rw [List.length_cons]
            omega)
          rw [List.length_cons]
          rw [List.length_map] at z
          have z2 : ps.length * (4 ^ (n + 1) + 1) ≤ 3 * (4 ^ (n + 1) + 1) := Nat.mul_le_mul_right _ (by omega)
          have z3 : 1 ≤ 4 ^ n := Nat.one_le_pow _ _ (by decide)
          rw [Nat.pow_succ 4 (n + 1)]
          rw [Nat.pow_succ] at z z2 ⊢
          omega

theorem inD_nil {n : Nat} {x : D} (hx : Lay n x) (hn : n < 64) : inD x [] = some false := by
  obtain ⟨b, hb⟩ := inD_some (ys := []) hx (fun _ h => (nomatch h)) hn
  obtain ⟨q, h1, h2, h3⟩ := hx
  rw [hb]
  unfold inD at hb
  rw [h1] at hb
  dsimp only [toPs] at hb
  split at hb
  · exact hb.symm
  · exact nomatch hb
theorem chain (hm : 1 < m) (hp : PoolAt om r) : ∃ d ls om', callN prog wf m 15 [.amb 0] om = .ok d om' ∧ PlanR 20 0 d ls ∧ (ls.length ≤ 41 ∧ ∀ l ∈ ls, l.length ≤ 61) ∧ PoolAt om' r := by
  obtain ⟨m, rfl⟩ : ∃ k, m = k + 1 := ⟨m - 1, by omega⟩
  obtain ⟨v1, om1, e1, a1, b1, p1⟩ := draw (wf := wf) (m := m) (s := 20) (by omega) (by decide) (by decide) hp
  obtain ⟨v2, om2, e2, a2, b2, p2⟩ := draw (wf := wf) (m := m) (s := 21) (by omega) (by decide) (by decide) p1
  obtain ⟨k1, rfl⟩ := Int.eq_ofNat_of_zero_le a1
  obtain ⟨t, rfl⟩ := Int.eq_ofNat_of_zero_le a2
  have loop := for_all (T := tab prog wf m) (i := 2) (sl := [.val (.amb 0), .val (.tup [.str (Str.ofString "choose"), .int k1]), .no, .no, .no]) (om := om2) (f := fun k : Nat => D.int k)
    (b := (.seq (.set 3 (.call 10 [] (.cons (.v 0) (.cons (.k (.int 9)) .nil)))) (.seq (.fo (.one 4) (.rng1 (.ix (.tup (.cons (.k (.int 0)) (.cons (.call 10 [] (.cons (.v 0) (.cons (.k (.int 10)) .nil))) .nil))) (.call 10 [] (.cons (.v 0) (.cons (.k (.int 2)) .nil))))) (.seq (.set 3 (.tup (.cons (.v 3) .nil))) .skip)) (.seq (.set 1 (.tup (.cons (.k (.str "ask")) (.cons (.call 10 [] (.cons (.v 0) (.cons (.k (.int 20)) .nil))) (.cons (.tup (.cons (.tup (.cons (.v 3) (.cons (.v 1) .nil))) .nil)) .nil))))) .skip))))
    (List.range t)
    (fun done sl om => ∃ (d : D) (ls : List (List Str)) (c2 c3 c4 : Cell), sl = [.val (.amb 0), .val d, c2, c3, c4] ∧ PlanR done.length (2 * (t - done.length)) d ls ∧ (ls.length ≤ 2 * done.length + 1 ∧ ∀ l ∈ ls, l.length ≤ 61) ∧ PoolAt om r)
    ⟨_, [dots (2 * (t - 0)) ++ [Str.ofString "choose", num k1]], .no, .no, .no, rfl, by rw [List.length_nil, PlanR]; exact ⟨k1, by omega, rfl, rfl⟩, ⟨by simp, fun l hl => by rw [List.mem_singleton.mp hl, List.length_append, dlen, List.length_cons, List.length_singleton]; omega⟩, p2⟩
    (by
      rintro done x rest hall sl om ⟨d, ls, c2, c3, c4, rfl, hd, ⟨hls, hlw⟩, hp⟩
      have hlen : done.length < t := by
        have z := congrArg List.length hall
        rw [List.length_range, List.length_append, List.length_cons] at z
        omega
      obtain ⟨v3, om3, e3, a3, b3, p3⟩ := draw (wf := wf) (m := m) (s := 9) (by omega) (by decide) (by decide) hp
      obtain ⟨v4, om4, e4, a4, b4, p4⟩ := draw (wf := wf) (m := m) (s := 10) (by omega) (by decide) (by decide) p3
      obtain ⟨v5, om5, e5, a5, b5, p5⟩ := draw (wf := wf) (m := m) (s := 2) (by omega) (by decide) (by decide) p4
      obtain ⟨k3, rfl⟩ := Int.eq_ofNat_of_zero_le a3
      obtain ⟨k4, rfl⟩ := Int.eq_ofNat_of_zero_le a4
      have hu : ∃ u : Nat, u < 10 ∧ atI [D.int 0, D.int (k4 : Int)] v5 = some (.int (u : Int)) := by
        have h5 : v5 = 0 ∨ v5 = 1 := by omega
        rcases h5 with rfl | rfl
        · exact ⟨0, by omega, atI0⟩
        · exact ⟨k4, by omega, atI1⟩
      obtain ⟨u, hu, hat⟩ := hu
      have hxx : ∀ o : Om, ixD (.tup [.int 0, .int (k4 : Int)]) (.int v5) o = .ok (.int (u : Int)) o := fun o => x_t hat
      have hr : kR1 (.ok (.int (u : Int)) om5) = .ok ((List.range u).map fun (k : Nat) => .int k) om5 := by
        rw [r_rng1a (by omega) (by omega), Int.toNat_natCast]
      have inner := for_all (T := tab prog wf m) (i := 4) (sl := [.val (.amb 0), .val d, .val (.int (x : Int)), .val (.int (k3 : Int)), c4]) (om := om5) (f := fun k : Nat => D.int k)
        (b := (.seq (.set 3 (.tup (.cons (.v 3) .nil))) .skip)) (List.range u)
        (fun done sl om => om = om5 ∧ ∃ (s : D) (ws : List Str) (c4 : Cell), sl = [.val (.amb 0), .val d, .val (.int (x : Int)), .val s, c4] ∧ SigR done.length s ws ∧ ws.length = 2 * done.length + 1)
        ⟨rfl, .int k3, [num k3], c4, rfl, by rw [List.length_nil, SigR]; exact ⟨k3, by omega, rfl, rfl⟩, rfl⟩
        (by
          rintro done y rest hall sl om ⟨rfl, s, ws, c4, rfl, hs, hwl⟩
          refine ⟨_, _, ?_, rfl, .tup [s], Str.ofString "(" :: (([(s, ws)].map (·.2)).flatten ++ [Str.ofString ")"]), .val (.int (y : Int)), rfl, ?_, ?_⟩
          · simp
          rotate_left
          · simp
            omega
          · rw [List.length_append, List.length_singleton, SigR]
            refine .inr ⟨[(s, ws)], by simp, fun p hp => ?_, rfl, rfl⟩
            rw [List.mem_singleton.mp hp]
            exact hs)
      obtain ⟨sl', om6, ef, rfl, s, ws, c4', rfl, hs, hwl⟩ := inner
      rw [List.length_range] at hs hwl
      have hs9 : SigR 9 s ws := hs.le (by omega)
      obtain ⟨v6, om7, e6, a6, b6, p6⟩ := draw (wf := wf) (m := m) (s := 20) (by omega) (by decide) (by decide) p5
      obtain ⟨k6, rfl⟩ := Int.eq_ofNat_of_zero_le a6
      refine ⟨[.val (.amb 0), .val (.tup [.str (Str.ofString "ask"), .int k6, .tup [.tup [s, d]]]), .val (.int (x : Int)), .val s, c4'], om7, ?_, _, (dots (2 * (t - (done.length + 1))) ++ [Str.ofString "ask", num k6]) :: ([(⟨s, ws, d, ls⟩ : Pt)].map (ptL (2 * (t - (done.length + 1))))).flatten, _, _, _, rfl, ?_, ?_, p6⟩
      · simp [e3, e4, e5, hxx, hr, ef, e6]
      · rw [List.length_append, List.length_singleton, PlanR]
        refine .inr ⟨k6, [⟨s, ws, d, ls⟩], by omega, by simp, rfl, fun dn p rs e => ?_, fun p hp => ?_, rfl⟩
        · cases dn with
          | nil =>
            have e' := (List.cons.inj e).1
            rw [← e']
            exact inD_nil (sig_lay hs9) (by decide)
          | cons a dn => simp at e
        · rw [List.mem_singleton.mp hp]
          refine ⟨hs9, ?_⟩
          have e : 2 * (t - (done.length + 1)) + 2 = 2 * (t - done.length) := by omega
          rw [e]
          exact hd
      · refine ⟨?_, fun l hl => ?_⟩
        rotate_left
        · rcases List.mem_cons.mp hl with rfl | hl
          · rw [List.length_append, dlen, List.length_cons, List.length_singleton]
            omega
          · rw [List.map_singleton, List.flatten_singleton] at hl
            rcases List.mem_cons.mp hl with rfl | hl
            · rw [List.length_append, dlen, List.length_cons]
              show _ + 1 + (ws.length + 1) ≤ 61
              omega
            · exact hlw l hl
        rw [List.length_append, List.length_singleton, List.length_cons, List.map_singleton, List.flatten_singleton]
        have z : (ptL (2 * (t - (done.length + 1))) ⟨s, ws, d, ls⟩).length = ls.length + 1 := rfl
        omega)
  obtain ⟨sl', om3, ef, d, ls, c2, c3, c4, rfl, hd, ⟨hls, hlw⟩, p3⟩ := loop
  rw [List.length_range] at hd hls
  refine ⟨d, ls, om3, call_ret (d := ⟨1, 5, B_Lchain, none⟩) rfl rfl rfl ?_, ?_, ⟨by omega, hlw⟩, p3⟩
  · have hs : slots ⟨1, 5, B_Lchain, none⟩ [.amb 0] = [.val (.amb 0), .no, .no, .no, .no] := rfl
    have hr : kR1 (.ok (.int (t : Int)) om2) = .ok ((List.range t).map fun (k : Nat) => .int k) om2 := by
      rw [r_rng1a (by omega) (by omega), Int.toNat_natCast]
    rw [hs]
    simp [B_Lchain, e1, e2, hr, ef]
  · have e : 2 * (t - t) = 0 := by omega
    rw [e] at hd
    exact hd.le (by omega)
/-! ### words -/
theorem sig_len9 {n : Nat} {d : D} {ws : List Str} (hn : n ≤ 9) (h : SigR n d ws) : ws.length ≤ 40000 := by
  have z := sig_len (h.le hn)
  have : 2 * 3 ^ 9 = 39366 := by decide
  omega
theorem sw_flat {n : Nat} (hn : n ≤ 9) {ps : List (D × List Str)} (hps : ∀ p ∈ ps, SigR n p.1 p.2) (hl : ps.length ≤ 3) : (ps.map (·.2)).flatten.length ≤ 120000 := by
  have z := flat_le (l := ps.map (·.2)) (b := 40000) (fun x hx => by
    obtain ⟨p, hp, rfl⟩ := List.mem_map.mp hx
    exact sig_len9 hn (hps p hp))
  rw [List.length_map] at z
  omega
theorem isi_sig0 {n : Nat} {d : D} {ws : List Str} (h : SigR 0 d ws) : kIsi (.ok d om) [.tuple] = .ok (.bl false) om := by
  rw [SigR] at h
  obtain ⟨k, _, rfl, _⟩ := h
  rfl
theorem sw16_leaf {T : Tb} {d : D} {ws : List Str} (h : SigR 0 d ws) : evS T B_Lsignal_words [.val d, .no, .no] om = .ret (.lst (strL ws)) om := by
  rw [SigR] at h
  obtain ⟨k, hk, rfl, rfl⟩ := h
  have e : biD T .str (.int (k : Int)) om = .ok (.str (num k)) om := b_str (Nat.lt_trans hk (by decide))
  simp [B_Lsignal_words, e]
theorem sw16 : ∀ (n : Nat) (d : D) (ws : List Str), n ≤ 9 → SigR n d ws → ∀ m, n < m → callN prog wf m 16 [d] om = .ok (.lst (strL ws)) om := by
  intro n
  induction n with
  | zero =>
    intro d ws hn h m hm
    obtain ⟨m, rfl⟩ : ∃ k, m = k + 1 := ⟨m - 1, by omega⟩
    exact call_ret (d := ⟨1, 3, B_Lsignal_words, none⟩) rfl rfl rfl (sw16_leaf h)
  | succ n ih =>
    intro d ws hn h m hm
    obtain ⟨m, rfl⟩ : ∃ k, m = k + 1 := ⟨m - 1, by omega⟩
    rw [SigR] at h
    rcases h with h | ⟨ps, h1, h2, rfl, rfl⟩
    · exact call_ret (d := ⟨1, 3, B_Lsignal_words, none⟩) rfl rfl rfl (sw16_leaf h)
    · have loop := for_all (T := tab prog wf m) (i := 2) (sl := [.val (.tup (ps.map (·.1))), .val (.lst [.str (Str.ofString "(")]), .no]) (om := om) (f := fun p : D × List Str => p.1)
        (b := (.seq (.set 1 (.op .add (.v 1) (.call 16 [] (.cons (.v 2) .nil)))) .skip)) ps
        (fun done sl om' => om' = om ∧ ∃ c, sl = [.val (.tup (ps.map (·.1))), .val (.lst (strL (Str.ofString "(" :: (done.map (·.2)).flatten))), c])
        ⟨rfl, .no, rfl⟩
        (by
          rintro done x rest hall sl om' ⟨rfl, c, rfl⟩
          have hx : x ∈ ps := by rw [hall]; simp
          have e := ih x.1 x.2 (by omega) (h2 x hx) m (by omega)
          have hb := sw_flat (n := n) (ps := done) (by omega) (fun p hp => h2 p (by rw [hall]; simp [hp])) (by
            have z := congrArg List.length hall
            rw [List.length_append, List.length_cons] at z
            omega)
          have hb2 := sig_len9 (n := n) (by omega) (h2 x hx)
          have hsz : (strL (Str.ofString "(" :: (done.map (·.2)).flatten)).length + (strL x.2).length ≤ 1000000 := by
            rw [List.length_map, List.length_map, List.length_cons]
            omega
          refine ⟨[.val (.tup (ps.map (·.1))), .val (.lst (strL (Str.ofString "(" :: (done.map (·.2)).flatten) ++ strL x.2)), .val x.1], _, ?_, rfl, .val x.1, ?_⟩
          · change evS (tab prog wf m) _ [.val (.tup (ps.map (·.1))), .val (.lst (strL (Str.ofString "(" :: (done.map (·.2)).flatten))), .val x.1] om' = _
            rw [z_seq, z_set, r_op, r_v rfl, r_op1, r_call, r_l]
            rw [show evE (tab prog wf m) (.v 2) [.val (.tup (ps.map (·.1))), .val (.lst (strL (Str.ofString "(" :: (done.map (·.2)).flatten))), .val x.1] om' = .ok x.1 om' from r_v rfl, r_l1, r_l0, r_l2, r_call1]
            rw [show (tab prog wf m).call 16 ([x.1] ++ []) om' = callN prog wf m 16 [x.1] om' from rfl, e, r_op2, o_addl, if_pos hsz, z_set1, z_seq1, z_skip]
            rfl
          · simp)
      obtain ⟨sl', om', ef, rfl, c, rfl⟩ := loop
      have hb := sw_flat (n := n) (ps := ps) (by omega) h2 h1
      have hsz : (strL (Str.ofString "(" :: (ps.map (·.2)).flatten)).length + [D.str (Str.ofString ")")].length ≤ 1000000 := by
        rw [List.length_map, List.length_cons, List.length_singleton]
        omega
      refine call_ret (d := ⟨1, 3, B_Lsignal_words, none⟩) rfl rfl rfl ?_
      have hs : slots ⟨1, 3, B_Lsignal_words, none⟩ [.tup (ps.map (·.1))] = [.val (.tup (ps.map (·.1))), .no, .no] := rfl
      rw [hs]
      unfold B_Lsignal_words
      rw [z_seq, z_ite, r_isi, r_v rfl, i_tuple_tup, r_tr1, z_ite1, z_seq, z_set, r_lst, r_l, r_k, r_l1, r_l0, r_l2, r_lst1, if_pos (by decide), z_set1, z_seq1]
      simp only [List.set_cons_succ, List.set_cons_zero]
      rw [z_seq, z_fo, r_itl, r_v rfl, r_itl2, z_fo1, ef, z_seq1, z_seq, z_ret, r_op, r_v rfl, r_op1, r_lst, r_l, r_k, r_l1, r_l0, r_l2, r_lst1, if_pos (by decide), r_op2, o_addl, if_pos hsz, z_ret1, z_seq2, z_seq2]
      simp
/-! ### lines -/
def GoodW (w : Str) : Prop := w.length ≤ 6 ∧ PyData.strOk w = true ∧ 32 ∉ TL.tl w
def Good (ws : List Str) : Prop := ws ≠ [] ∧ ws.length ≤ 50000 ∧ ∀ w ∈ ws, GoodW w
theorem goodW_lit {w : Str} (l : List Nat) (e : w.cps.toList = l) (h1 : l.length ≤ 6) (h2 : l.all (· < 128) = true) (h3 : 32 ∉ l) : GoodW w :=
  ⟨by rw [TL.len_tl, TL.tl, e]; exact h1, strOk_lit l e h2, by rw [TL.tl, e]; exact h3⟩
theorem gw_dot : GoodW (Str.ofString ".") := goodW_lit [46] rfl (by decide) rfl (by decide)
theorem gw_if : GoodW (Str.ofString "if") := goodW_lit [105, 102] rfl (by decide) rfl (by decide)
theorem gw_ask : GoodW (Str.ofString "ask") := goodW_lit [97, 115, 107] rfl (by decide) rfl (by decide)
theorem gw_choose : GoodW (Str.ofString "choose") := goodW_lit [99, 104, 111, 111, 115, 101] rfl (by decide) rfl (by decide)
theorem gw_lp : GoodW (Str.ofString "(") := goodW_lit [40] rfl (by decide) rfl (by decide)
theorem gw_rp : GoodW (Str.ofString ")") := goodW_lit [41] rfl (by decide) rfl (by decide)
theorem gw_num {k : Nat} (h : k < 1000000) : GoodW (num k) := ⟨num_len (by decide) h, num_ok k, num_free (.inl (by decide))⟩
theorem gw_dots {k : Nat} : ∀ w ∈ dots k, GoodW w := fun w h => by
  rw [dots_ok w h]
  exact gw_dot
theorem dots_len {k : Nat} : (dots k).length = k := List.length_replicate
theorem sig_good : ∀ {n : Nat} {d : D} {ws : List Str}, SigR n d ws → ∀ w ∈ ws, GoodW w := by
  intro n
  induction n with
  | zero =>
    intro d ws h w hw
    rw [SigR] at h
    obtain ⟨k, hk, _, rfl⟩ := h
    rw [List.mem_singleton.mp hw]
    exact gw_num (by omega)
  | succ n ih =>
    intro d ws h w hw
    rw [SigR] at h
    rcases h with h | ⟨ps, h1, h2, _, rfl⟩
    · rw [SigR] at h
      obtain ⟨k, hk, _, rfl⟩ := h
      rw [List.mem_singleton.mp hw]
      exact gw_num (by omega)
    · rcases List.mem_cons.mp hw with rfl | hw
      · exact gw_lp
      · rcases List.mem_append.mp hw with hw | hw
        · obtain ⟨l, hl, hw⟩ := List.mem_flatten.mp hw
          obtain ⟨p, hp, rfl⟩ := List.mem_map.mp hl
          exact ih (h2 p hp) w hw
        · rw [List.mem_singleton.mp hw]
          exact gw_rp
theorem good_head {dep k : Nat} {w : Str} (hd : dep ≤ 1000) (hw : GoodW w) (hk : k < 1000000) : Good (dots dep ++ [w, num k]) := by
  refine ⟨by simp, ?_, fun x hx => ?_⟩
  · rw [List.length_append, dots_len]
    simp
    omega
  · rcases List.mem_append.mp hx with h | h
    · exact gw_dots x h
    · rcases List.mem_cons.mp h with rfl | h
      · exact hw
      · rw [List.mem_singleton.mp h]
        exact gw_num hk
theorem good_if {dep n : Nat} {s : D} {ws : List Str} (hd : dep ≤ 1000) (hn : n ≤ 9) (h : SigR n s ws) : Good (dots (dep + 1) ++ Str.ofString "if" :: ws) := by
  refine ⟨by simp, ?_, fun x hx => ?_⟩
  · have := sig_len9 hn h
    rw [List.length_append, dots_len, List.length_cons]
    omega
  · rcases List.mem_append.mp hx with hx | hx
    · exact gw_dots x hx
    · rcases List.mem_cons.mp hx with rfl | hx
      · exact gw_if
      · exact sig_good h x hx
theorem plan_good : ∀ {n dep : Nat} {d : D} {ls : List (List Str)}, dep + 2 * n ≤ 1000 → PlanR n dep d ls → ∀ ws ∈ ls, Good ws := by
  intro n
  induction n with
  | zero =>
    intro dep d ls hd h ws hws
    rw [PlanR] at h
    obtain ⟨k, hk, _, rfl⟩ := h
    rw [List.mem_singleton.mp hws]
    exact good_head (by omega) gw_choose (by omega)
  | succ n ih =>
    intro dep d ls hd h ws hws
    rw [PlanR] at h
    rcases h with h | ⟨k, ps, h1, h2, _, _, h5, rfl⟩
    · rw [PlanR] at h
      obtain ⟨k, hk, _, rfl⟩ := h
      rw [List.mem_singleton.mp hws]
      exact good_head (by omega) gw_choose (by omega)
    · rcases List.mem_cons.mp hws with rfl | hws
      · exact good_head (by omega) gw_ask (by omega)
      · obtain ⟨l, hl, hws⟩ := List.mem_flatten.mp hws
        obtain ⟨p, hp, rfl⟩ := List.mem_map.mp hl
        rcases List.mem_cons.mp hws with rfl | hws
        · exact good_if (by omega) (by decide) (h5 p hp).1
        · exact ih (by omega) (h5 p hp).2 ws hws
def sp : Str := Str.ofString " "
def jn (ws : List Str) : Str := Txt.join sp ws
theorem jn_ok {T : Tb} {ws : List Str} (h : Good ws) : mbf .join (Str.ofString " ") (.lst (strL ws)) om = .ok (.str (jn ws)) om := by
  refine j_ok (s := Str.ofString " ") ?_
  have z := sum_le (l := ws) (b := 6) fun w hw => (h.2.2 w hw).1
  have hl := h.2.1
  have hsp : (Str.ofString " ").length = 1 := rfl
  rw [hsp]
  omega
theorem jn_len {ws : List Str} (h : Good ws) : (jn ws).length ≤ 400000 := by
  have z := sum_le (l := ws) (b := 6) fun w hw => (h.2.2 w hw).1
  have hl := h.2.1
  have hj := join_len sp ws
  have hsp : sp.length = 1 := rfl
  rw [hsp] at hj
  unfold jn
  omega
def lnL (ls : List (List Str)) : List D := ls.map fun ws => .str (jn ws)
theorem pl_flat {dep : Nat} {done : List Pt} {x : Pt} {rest all : List Pt} (hall : all = done ++ x :: rest) : (done.map (ptL dep)).flatten.length + x.ls.length + 1 ≤ (all.map (ptL dep)).flatten.length := by
  rw [hall, List.map_append, List.flatten_append, List.map_cons, List.flatten_cons, List.length_append, List.length_append]
  have z : (ptL dep x).length = x.ls.length + 1 := rfl
  omega
theorem ne_ask : ((Str.ofString "ask") == (Str.ofString "choose")) = false := by
  cases q : ((Str.ofString "ask") == (Str.ofString "choose")) with
  | false => rfl
  | true =>
    have e := congrArg (fun s : Str => s.cps.toList) (eq_of_beq q)
    have e' : [97, 115, 107] = [99, 104, 111, 111, 115, 101] := e
    simp at e'
theorem join_head17 {T : Tb} {dep k : Nat} {w : Str} {sl : Sl} {d : D} {ds : List D} (hd : dep ≤ 1000) (h : Good (dots dep ++ [w, num k])) (hk : k < 2 ^ 200) (h1 : sl[1]? = some (.val (.int (dep : Int)))) (h2 : sl[0]? = some (.val (.tup (d :: .int k :: ds)))) :
    evE T (.mb .join (.k (.str (Str.ofString " "))) (.op .add (.op .mul (.lst (.cons (.k (.str (Str.ofString "."))) .nil)) (.v 1)) (.lst (.cons (.k (.str w)) (.cons (.bi .str (.ix (.v 0) (.k (.int 1)))) .nil))))) sl om = .ok (.str (jn (dots dep ++ [w, num k]))) om := by
  have hx : ixD (.tup (d :: .int (k : Int) :: ds)) (.int 1) om = .ok (.int k) om := x_t atI1
  have hl : (strL (dots dep)).length + [D.str w, D.str (num k)].length ≤ 1000000 := by
    have := h.2.1
    rw [List.length_append] at this
    rw [List.length_map]
    simp at this ⊢
    omega
  have e : strL (dots dep) ++ [D.str w, D.str (num k)] = strL (dots dep ++ [w, num k]) := by simp
  rw [r_mb, r_k, r_mb1, r_op, r_op, r_lst, r_l, r_k, r_l1, r_l0, r_l2, r_lst1, if_pos (by decide), r_op1, r_v h1, r_op2, o_dots hd, r_op1, r_lst, r_l, r_k, r_l1, r_l, r_bi, r_ix, r_v h2, r_ix1, r_k, r_ix2, hx, r_bi1, b_str hk, r_l1, r_l0, r_l2, r_l2, r_lst1, if_pos (by simp), r_op2, o_addl, if_pos hl, r_mb2, e, jn_ok (T := T) h]
theorem join_if17 {T : Tb} {dep : Nat} {sl : Sl} {s : D} {ws : List Str} (hd : dep ≤ 900) (h : Good (dots (dep + 1) ++ Str.ofString "if" :: ws)) (h1 : sl[1]? = some (.val (.int (dep : Int)))) (h2 : sl[3]? = some (.val s)) (hc : T.call 16 [s] om = .ok (.lst (strL ws)) om) :
    evE T (.mb .join (.k (.str (Str.ofString " "))) (.op .add (.op .add (.op .mul (.lst (.cons (.k (.str (Str.ofString "."))) .nil)) (.op .add (.v 1) (.k (.int 1)))) (.lst (.cons (.k (.str (Str.ofString "if"))) .nil))) (.call 16 [] (.cons (.v 3) .nil)))) sl om = .ok (.str (jn (dots (dep + 1) ++ Str.ofString "if" :: ws))) om := by
  have e : strL (dots (dep + 1)) ++ [D.str (Str.ofString "if")] ++ strL ws = strL (dots (dep + 1) ++ Str.ofString "if" :: ws) := by simp
  have h3 := h.2.1
  rw [List.length_append, List.length_cons] at h3
  have hl : (strL (dots (dep + 1))).length + [D.str (Str.ofString "if")].length ≤ 1000000 := by
    rw [List.length_map, List.length_singleton]
    omega
  have hl2 : (strL (dots (dep + 1)) ++ [D.str (Str.ofString "if")]).length + (strL ws).length ≤ 1000000 := by
    rw [List.length_append, List.length_map, List.length_map, List.length_singleton]
    omega
  have ed : (dep : Int) + 1 = ((dep + 1 : Nat) : Int) := by omega
  rw [r_mb, r_k, r_mb1, r_op, r_op, r_op, r_lst, r_l, r_k, r_l1, r_l0, r_l2, r_lst1, if_pos (by decide), r_op1, r_op, r_v h1, r_op1, r_k, r_op2, o_addi, ed, r_op2, o_dots (by omega), r_op1, r_lst, r_l, r_k, r_l1, r_l0, r_l2, r_lst1, if_pos (by decide), r_op2, o_addl, if_pos hl, r_op1, r_call, r_l, r_v h2, r_l1, r_l0, r_l2, r_call1]
  rw [show T.call 16 ([s] ++ []) om = T.call 16 [s] om from rfl, hc, r_op2, o_addl, if_pos hl2, r_mb2, e, jn_ok (T := T) h]
theorem ll_leaf {dep : Nat} {d : D} {ls : List (List Str)} (hd : dep ≤ 1000) (h : PlanR 0 dep d ls) : evS (tab prog wf m) B_Llines [.val d, .val (.int (dep : Int)), .no, .no, .no] om = .ret (.lst (lnL ls)) om := by
  rw [PlanR] at h
  obtain ⟨k, hk, rfl, rfl⟩ := h
  have j := join_head17 (T := tab prog wf m) (om := om) (sl := [.val (.tup [.str (Str.ofString "choose"), .int (k : Int)]), .val (.int (dep : Int)), .no, .no, .no]) hd (good_head (dep := dep) (k := k) hd gw_choose (by omega)) (Nat.lt_trans hk (by decide)) rfl rfl
  have hx : ixD (.tup [.str (Str.ofString "choose"), .int (k : Int)]) (.int 0) om = .ok (.str (Str.ofString "choose")) om := x_t atI0
  unfold B_Llines
  rw [z_seq, z_ite, r_cm, r_ix, r_v rfl, r_ix1, r_k, r_ix2, hx, r_cm1, r_k, r_cm2, o_eqs gw_choose.2.1 gw_choose.2.1, beq_self_eq_true, r_bl, r_tr1, z_ite1, z_seq, z_ret, r_lst, r_l, j, r_l1, r_l0, r_l2, r_lst1, if_pos (by simp), z_ret1, z_seq2, z_seq2]
  rfl
theorem ll17 : ∀ (n dep : Nat) (d : D) (ls : List (List Str)), dep + 2 * n ≤ 900 → ls.length ≤ 100000 → PlanR n dep d ls → ∀ m, n + 10 < m → callN prog wf m 17 [d, .int (dep : Int)] om = .ok (.lst (lnL ls)) om := by
  intro n
  induction n with
  | zero =>
    intro dep d ls hd hl h m hm
    obtain ⟨m, rfl⟩ : ∃ k, m = k + 1 := ⟨m - 1, by omega⟩
    exact call_ret (d := ⟨2, 5, B_Llines, none⟩) rfl rfl rfl (ll_leaf (by omega) h)
  | succ n ih =>
    intro dep d ls hd hl h m hm
    obtain ⟨m, rfl⟩ : ∃ k, m = k + 1 := ⟨m - 1, by omega⟩
    rw [PlanR] at h
    rcases h with h | ⟨k, ps, hk, h2, rfl, _, h5, rfl⟩
    · exact call_ret (d := ⟨2, 5, B_Llines, none⟩) rfl rfl rfl (ll_leaf (by omega) h)
    · refine call_ret (d := ⟨2, 5, B_Llines, none⟩) rfl rfl rfl ?_
      have gh := good_head (dep := dep) (k := k) (by omega) gw_ask (by omega)
      have loop := for_allT (T := tab prog wf m) (is := [3, 4]) (f := fun p : Pt => [p.s, p.q]) (fun _ => rfl)
        (sl := [.val (.tup [.str (Str.ofString "ask"), .int k, .tup (ps.map Pt.d)]), .val (.int (dep : Int)), .own (lnL [dots dep ++ [Str.ofString "ask", num k]]), .no, .no]) (om := om)
        (b := (.seq (.app 2 (.mb .join (.k (.str " ")) (.op .add (.op .add (.op .mul (.lst (.cons (.k (.str ".")) .nil)) (.op .add (.v 1) (.k (.int 1)))) (.lst (.cons (.k (.str "if")) .nil))) (.call 16 [] (.cons (.v 3) .nil))))) (.seq (.setO 2 (.cat (.b 2) (.call 17 [] (.cons (.v 4) (.cons (.op .add (.v 1) (.k (.int 2))) .nil))))) .skip))) ps
        (fun done sl om' => om' = om ∧ ∃ c4 c5, sl = [.val (.tup [.str (Str.ofString "ask"), .int k, .tup (ps.map Pt.d)]), .val (.int (dep : Int)), .own (lnL ((dots dep ++ [Str.ofString "ask", num k]) :: (done.map (ptL dep)).flatten)), c4, c5])
        ⟨rfl, .no, .no, rfl⟩
        (by
          rintro done x rest hall sl om' ⟨rfl, c4, c5, rfl⟩
          have hx : x ∈ ps := by rw [hall]; simp
          have e1 := sw16 (wf := wf) (om := om') 9 x.s x.ws (by decide) (h5 x hx).1 m (by omega)
          have hz := pl_flat (dep := dep) hall
          rw [List.length_cons] at hl
          have e2 := ih (dep + 2) x.q x.ls (by omega) (by omega) (h5 x hx).2 m (by omega)
          have ed : ((dep + 2 : Nat) : Int) = (dep : Int) + 2 := by omega
          rw [ed] at e2
          refine ⟨[.val (.tup [.str (Str.ofString "ask"), .int k, .tup (ps.map Pt.d)]), .val (.int (dep : Int)), .own ((lnL ((dots dep ++ [Str.ofString "ask", num k]) :: (done.map (ptL dep)).flatten) ++ [.str (jn (dots (dep + 1) ++ Str.ofString "if" :: x.ws))]) ++ lnL x.ls), .val x.s, .val x.q], _, ?_, rfl, .val x.s, .val x.q, ?_⟩
          · change evS (tab prog wf m) _ [.val (.tup [.str (Str.ofString "ask"), .int k, .tup (ps.map Pt.d)]), .val (.int (dep : Int)), .own (lnL ((dots dep ++ [Str.ofString "ask", num k]) :: (done.map (ptL dep)).flatten)), .val x.s, .val x.q] om' = _
            rw [z_seq, z_app rfl, join_if17 (by omega) (good_if (by omega) (by decide) (h5 x hx).1) rfl rfl e1, z_app1, if_pos (by rw [lnL, List.length_map, List.length_cons]; omega), z_seq1]
            simp only [List.set_cons_succ, List.set_cons_zero]
            rw [z_seq, z_setO, r_cat, r_bo rfl, r_cat1, r_call, r_l, r_v rfl, r_l1, r_l, r_op, r_v rfl, r_op1, r_k, r_op2, o_addi, r_l1, r_l0, r_l2, r_l2, r_call1]
            rw [show (tab prog wf m).call 17 ([x.q, .int ((dep : Int) + 2)] ++ []) om' = callN prog wf m 17 [x.q, .int ((dep : Int) + 2)] om' from rfl, e2, r_cat2, if_pos (by rw [List.length_append, lnL, lnL, List.length_map, List.length_map, List.length_cons, List.length_singleton]; omega), z_setO1, z_seq1, z_skip]
            rfl
          · rw [List.map_append, List.flatten_append, List.map_singleton, List.flatten_singleton]
            unfold lnL ptL
            simp)
      obtain ⟨sl', om', ef, rfl, c4, c5, rfl⟩ := loop
      have hs : slots ⟨2, 5, B_Llines, none⟩ [.tup [.str (Str.ofString "ask"), .int k, .tup (ps.map Pt.d)], .int (dep : Int)] = [.val (.tup [.str (Str.ofString "ask"), .int k, .tup (ps.map Pt.d)]), .val (.int (dep : Int)), .no, .no, .no] := rfl
      rw [hs]
      have hx0 : ixD (.tup [.str (Str.ofString "ask"), .int (k : Int), .tup (ps.map Pt.d)]) (.int 0) om' = .ok (.str (Str.ofString "ask")) om' := x_t atI0
      have hx2 : ixD (.tup [.str (Str.ofString "ask"), .int (k : Int), .tup (ps.map Pt.d)]) (.int 2) om' = .ok (.tup (ps.map Pt.d)) om' := x_t atI2
      have j := join_head17 (T := tab prog wf m) (om := om') (sl := [.val (.tup [.str (Str.ofString "ask"), .int k, .tup (ps.map Pt.d)]), .val (.int (dep : Int)), .no, .no, .no]) (by omega) gh (Nat.lt_trans hk (by decide)) rfl rfl
      unfold B_Llines
      rw [z_seq, z_ite, r_cm, r_ix, r_v rfl, r_ix1, r_k, r_ix2, hx0, r_cm1, r_k, r_cm2, o_eqs gw_ask.2.1 gw_choose.2.1, ne_ask, r_bl, r_tr1, z_ite2, z_skip, z_seq1, z_seq, z_setO, r_lst, r_l, j, r_l1, r_l0, r_l2, r_lst1, if_pos (by simp), z_setO1, z_seq1]
      simp only [List.set_cons_succ, List.set_cons_zero]
      rw [z_seq, z_fo, r_itl, r_ix, r_v rfl, r_ix1, r_k, r_ix2, hx2, r_itl2, z_fo1]
      rw [show List.map (fun x : Pt => D.tup [x.s, x.q]) ps = ps.map Pt.d from rfl] at ef
      rw [show lnL [dots dep ++ [Str.ofString "ask", num k]] = [D.str (jn (dots dep ++ [Str.ofString "ask", num k]))] from rfl] at ef
      rw [ef, z_seq1, z_seq, z_fz rfl, z_seq1, z_seq, z_ret, r_v rfl, z_ret1, z_seq2]
end
end K81

set_option Elab.async false
set_option linter.all false
set_option maxRecDepth 100000
set_option maxHeartbeats 1000000
/-! PDU: more rewriting: errors on their way, comparisons in suites, pop, try. -/
namespace PD
open PySem PySem.Spec PyProof.Rows L2
section
variable {T : Tb} {sl sl' : Sl} {om om' om2 : Om} {d x y : D} {ds es fs : List D} {n m : Int} {i j c : Nat}
@[simp] theorem e_kOp {o : Bop} {b : E} : kOp T (.exc c fs om) o b sl = .exc c fs om := rfl
@[simp] theorem e_kOp2 {o : Bop} : kOp2 T (.exc c fs om) o x = .exc c fs om := rfl
@[simp] theorem e_kCat {b : E} : kCat T (.exc c fs om) b sl = .exc c fs om := rfl
@[simp] theorem e_kCat2  : kCat2 (.exc c fs om) x = .exc c fs om := rfl
@[simp] theorem e_kRp {b : E} : kRp T (.exc c fs om) b sl = .exc c fs om := rfl
@[simp] theorem e_kRp2  : kRp2 (.exc c fs om) x = .exc c fs om := rfl
@[simp] theorem e_kNeg  : kNeg (.exc c fs om) = .exc c fs om := rfl
@[simp] theorem e_kNo  : kNo (.exc c fs om) = .exc c fs om := rfl
@[simp] theorem e_kAn {b : E} : kAn T (.exc c fs om) b sl = .exc c fs om := rfl
@[simp] theorem e_kOr {b : E} : kOr T (.exc c fs om) b sl = .exc c fs om := rfl
@[simp] theorem e_kIte {a : E} {b : E} : kIte T (.exc c fs om) a b sl = .exc c fs om := rfl
@[simp] theorem e_kTr  : kTr (.exc c fs om) = .exc c fs om := rfl
@[simp] theorem e_kCm {o : Cop} {b : E} : kCm T (.exc c fs om) o b sl = .exc c fs om := rfl
@[simp] theorem e_kCm2 {o : Cop} : kCm2 T (.exc c fs om) o x = .exc c fs om := rfl
@[simp] theorem e_kBl  : kBl (.exc c fs om) = .exc c fs om := rfl
@[simp] theorem e_kCh {o : Cop} {o' : Cop} {b : E} {c1 : E} : kCh T (.exc c fs om) o o' b c1 sl = .exc c fs om := rfl
@[simp] theorem e_kCh2 {o : Cop} {o' : Cop} {c1 : E} : kCh2 T (.exc c fs om) o o' x c1 sl = .exc c fs om := rfl
@[simp] theorem e_kCh3 {o' : Cop} {c1 : E} : kCh3 T (.exc c fs om) o' y c1 sl = .exc c fs om := rfl
@[simp] theorem e_kCall {f : Nat} {dv : List D} : kCall T (.exc c fs om) f dv = .exc c fs om := rfl
@[simp] theorem e_kMk {c1 : Nat} {f : Nat} {dv : List D} : kMk T (.exc c fs om) c1 f dv = .exc c fs om := rfl
@[simp] theorem e_kMk2 {c1 : Nat} : kMk2 T (.exc c fs om) c1 = .exc c fs om := rfl
@[simp] theorem e_kMka {c1 : Nat} {f : Nat} {dv : List D} : kMka T (.exc c fs om) c1 f dv = .exc c fs om := rfl
@[simp] theorem e_kMka2 {k : Nat} : kMka2 (.exc c fs om) k = .exc c fs om := rfl
@[simp] theorem e_kMe {c1 : Nat} {f : Nat} {dv : List D} {as : E} : kMe T (.exc c fs om) c1 f dv as sl = .exc c fs om := rfl
@[simp] theorem e_kMe2 {f : Nat} {dv : List D} : kMe2 T (.exc c fs om) f dv x = .exc c fs om := rfl
@[simp] theorem e_kFld {c1 : Nat} : kFld (.exc c fs om) c1 j = .exc c fs om := rfl
@[simp] theorem e_kNl  : kNl (.exc c fs om) = .exc c fs om := rfl
@[simp] theorem e_kDn {ks : List L2.Key} : kDn (.exc c fs om) ks = .exc c fs om := rfl
@[simp] theorem e_kDg {k : L2.Key} : kDg (.exc c fs om) k = .exc c fs om := rfl
@[simp] theorem e_kBi {b : Bi} : kBi T (.exc c fs om) b = .exc c fs om := rfl
@[simp] theorem e_kMb {m : Mb} {a : E} : kMb T (.exc c fs om) m a sl = .exc c fs om := rfl
@[simp] theorem e_kMb2 {m : Mb} {s : Str} : kMb2 (.exc c fs om) m s = .exc c fs om := rfl
@[simp] theorem e_kIsi {ts : List Ty} : kIsi (.exc c fs om) ts = .exc c fs om := rfl
@[simp] theorem e_kIx {b : E} : kIx T (.exc c fs om) b sl = .exc c fs om := rfl
@[simp] theorem e_kIx2  : kIx2 (.exc c fs om) x = .exc c fs om := rfl
@[simp] theorem e_kSl {lo : E} {hi : E} : kSl T (.exc c fs om) lo hi sl = .exc c fs om := rfl
@[simp] theorem e_kSl2 {hi : E} : kSl2 T (.exc c fs om) x hi sl = .exc c fs om := rfl
@[simp] theorem e_kSl3 {l : Option Int} : kSl3 (.exc c fs om) x l = .exc c fs om := rfl
@[simp] theorem e_kO  : kO (.exc c fs om) = .exc c fs om := rfl
@[simp] theorem e_kTup  : kTup (.exc c fs om) = .exc c fs om := rfl
@[simp] theorem e_kLst  : kLst (.exc c fs om) = .exc c fs om := rfl
@[simp] theorem e_kFs  : kFs (.exc c fs om) = .exc c fs om := rfl
@[simp] theorem e_kCo {tg : Tg} {cond : E} {elt : E} : kCo T (.exc c fs om) tg cond elt sl = .exc c fs om := rfl
@[simp] theorem e_kCo2  : kCo2 (.exc c fs om) = .exc c fs om := rfl
@[simp] theorem e_kL {as : E} : kL T (.exc c fs om) as sl = .exc c fs om := rfl
@[simp] theorem e_kL2  : kL2 (.exc c fs om) x = .exc c fs om := rfl
@[simp] theorem e_kSt {as : E} : kSt T (.exc c fs om) as sl = .exc c fs om := rfl
@[simp] theorem e_kSt2 {ys : List D} : kSt2 (.exc c fs om) ys = .exc c fs om := rfl
@[simp] theorem e_kIt  : kIt (.exc c fs om) = .exc c fs om := rfl
@[simp] theorem e_kR1  : kR1 (.exc c fs om) = .exc c fs om := rfl
@[simp] theorem e_kR2 {b : E} : kR2 T (.exc c fs om) b sl = .exc c fs om := rfl
@[simp] theorem e_kR3  : kR3 (.exc c fs om) x = .exc c fs om := rfl
@[simp] theorem e_kSet  : kSet (.exc c fs om) i sl = .exc c fs sl om := rfl
@[simp] theorem e_kSetO  : kSetO (.exc c fs om) i sl = .exc c fs sl om := rfl
@[simp] theorem e_kSetA  : kSetA (.exc c fs om) i sl = .exc c fs sl om := rfl
@[simp] theorem e_kSetT {is : List Nat} : kSetT (.exc c fs om) is sl = .exc c fs sl om := rfl
@[simp] theorem e_kPar {b : E} : kPar T (.exc c fs om) i j b sl = .exc c fs sl om := rfl
@[simp] theorem e_kPar2  : kPar2 (.exc c fs om) i j x sl = .exc c fs sl om := rfl
@[simp] theorem e_kApp  : kApp (.exc c fs om) i ds sl = .exc c fs sl om := rfl
@[simp] theorem e_kExt  : kExt (.exc c fs om) i ds sl = .exc c fs sl om := rfl
@[simp] theorem e_kSI {x : E} : kSI T (.exc c fs om) i x ds sl = .exc c fs sl om := rfl
@[simp] theorem e_kSI2  : kSI2 (.exc c fs om) i d ds sl = .exc c fs sl om := rfl
@[simp] theorem e_kSP {x : E} {k : Nat} : kSP T (.exc c fs om) x k sl = .exc c fs sl om := rfl
@[simp] theorem e_kSP2 {k : Nat} : kSP2 (.exc c fs om) d k sl = .exc c fs sl om := rfl
@[simp] theorem e_kSF {c1 : Nat} : kSF (.exc c fs om) c1 j sl = .exc c fs sl om := rfl
@[simp] theorem e_kTF {c1 : Nat} {k : Nat} : kTF (.exc c fs om) c1 j k sl = .exc c fs sl om := rfl
@[simp] theorem e_kAF {c1 : Nat} {k : Nat} : kAF (.exc c fs om) c1 j k m sl = .exc c fs sl om := rfl
@[simp] theorem e_kPutE {e : E} : kPutE T (.exc c fs om) e sl = .exc c fs sl om := rfl
@[simp] theorem e_kPutE2 {k : Nat} : kPutE2 (.exc c fs om) k sl = .exc c fs sl om := rfl
@[simp] theorem e_kDp {o : E} {k : L2.Key} : kDp T (.exc c fs om) o k sl = .exc c fs sl om := rfl
@[simp] theorem e_kDp2 {k : L2.Key} : kDp2 (.exc c fs om) d k sl = .exc c fs sl om := rfl
@[simp] theorem e_kAu {o : Bop} : kAu (.exc c fs om) i o m sl = .exc c fs sl om := rfl
@[simp] theorem e_kDr  : kDr (.exc c fs om) sl = .exc c fs sl om := rfl
@[simp] theorem e_kIf {a : S} {b : S} : kIf T (.exc c fs om) a b sl = .exc c fs sl om := rfl
@[simp] theorem e_kRet  : kRet (.exc c fs om) sl = .exc c fs sl om := rfl
@[simp] theorem e_kRetF  : kRetF (.exc c fs om) sl = .exc c fs sl om := rfl
@[simp] theorem e_kFo {tg : Tg} {b : S} : kFo T (.exc c fs om) tg b sl = .exc c fs sl om := rfl
@[simp] theorem e_kW {c1 : E} {b : S} {n : Nat} : kW T (.exc c fs om) c1 b n sl = .exc c fs sl om := rfl
def kS0 (T : Tb) (r : Rs D) (o : Cop) (b : E) (sl : Sl) : Rs D := r.bind fun x om => (evE T b sl om).bind fun y om => (cmp Tz o x y om).bind fun c om => .ok (.bl c) om
def kS02 (r : Rs D) (o : Cop) (x : D) : Rs D := r.bind fun y om => (cmp Tz o x y om).bind fun c om => .ok (.bl c) om
@[simp] theorem r_cm0 {o : Cop} {a b : E} : evE T (.cm0 o a b) sl om = kS0 T (evE T a sl om) o b sl := by rw [evE]; rfl
@[simp] theorem r_cm01 {o : Cop} {b : E} : kS0 T (.ok x om) o b sl = kS02 (evE T b sl om) o x := rfl
@[simp] theorem r_cm02 {o : Cop} : kS02 (.ok y om) o x = kBl (cmp Tz o x y om) := rfl
theorem r_sam {a b : E} {t : Bool} (ha : evE T a sl om = .ok x om') (hb : evE T b sl om' = .ok y om2) (hl : 2 ≤ T.lev) (h : samD x y = some t) : evE T (.sam a b) sl om = .ok (.bl t) om2 := by
  rw [evE, ha, bind_ok, hb, bind_ok, if_pos hl, h]
theorem r_rpl {a b : E} {t z w : Str} (ha : evE T a sl om = .ok (.str z) om') (hb : evE T b sl om' = .ok (.str w) om2) (hn : (t == w) = false) (hs : z.length + (z.length + 1) * w.length ≤ 1000000) : evE T (.rpl t a b) sl om = .ok (.str (Txt.replace z t w)) om2 := by
  rw [evE, ha, bind_ok]
  dsimp only
  rw [hb, bind_ok]
  dsimp only
  rw [if_pos ⟨hn, hs⟩]
theorem z_pop (h : sl[i]? = some (.own ds)) (hd : ds[ds.length - 1]? = some d) : evS T (.pop i j) sl om = .next ((sl.set i (.own ds.dropLast)).set j (.val d)) om := by
  rw [evS, h]
  dsimp only
  rw [hd]
@[simp] theorem z_rais {a : E} : evS T (.rais c a) sl om = (evL T a sl om).out sl fun fs om => .exc c fs sl om := by rw [evS]
@[simp] theorem o_out {α : Type} {a : α} {f : α → Om → Out} : (Rs.ok a om).out sl f = f a om := rfl
@[simp] theorem o_outx {α : Type} {f : α → Om → Out} : (Rs.exc c fs om : Rs α).out sl f = .exc c fs sl om := rfl
theorem z_trn {b : S} {cs : Nat → Option Bool} {hd : Nat → List D → S} (h : evS T b sl om = .next sl' om') : evS T (.tr b cs i hd) sl om = .next sl' om' := by
  rw [evS, h]
theorem z_trx {b : S} {cs : Nat → Option Bool} {hd : Nat → List D → S} (h : evS T b sl om = .exc c fs sl' om') (hc : cs c = some true) : evS T (.tr b cs i hd) sl om = aft i (evS T (hd c fs) ((unx sl').set i .exn) om') := by
  rw [evS, h]
  dsimp only
  rw [hc]
@[simp] theorem aft_r {k : Nat} : aft k (.ret d om) = .ret d om := rfl
@[simp] theorem o_muls {s : Str} : bop T .mul (.str s) (.int n) om = if 0 ≤ n ∧ n ≤ 1000000 ∧ s.length * n.toNat ≤ 1000000 then .ok (.str (repS s n.toNat)) om else .stuck := rfl
@[simp] theorem t_lev {p : Prog} {wf n : Nat} : (tab p wf n).lev = n := rfl
@[simp] theorem o_isnz : cmp Tz .isn .non .non om = .ok false om := rfl
@[simp] theorem o_isniz : cmp Tz .isn (.int n) .non om = .ok true om := rfl
theorem r_xf (h : sl[i]? = some .exn) : evE T (.xf i d) sl om = .ok d om := by rw [evE, h]
@[simp] theorem sl_str {s : Str} {l h : Option Int} (hs : s.length ≤ 1000000) : slD (.str s) l h om = .ok (.str (cutS s l h)) om := by
  rw [slD, if_pos hs]
@[simp] theorem o_adds {s t : Str} : bop T .add (.str s) (.str t) om = if s.length + t.length ≤ 1000000 then .ok (.str (s ++ t)) om else .stuck := rfl
theorem b_lenstr {s : Str} (hs : s.length ≤ 1000000) : biD T .len (.str s) om = .ok (.int s.length) om := by
  rw [biD, if_pos hs]
end
end PD

set_option Elab.async false
set_option linter.all false
set_option maxRecDepth 100000
set_option maxHeartbeats 2000000
/-! K81C: the changes. -/
namespace K81
open PySem L2 PD
/-- a word: not too long, no blank -/
def WOk (B : Nat) (w : Str) : Prop := w.length ≤ B ∧ ∀ c ∈ TL.tl w, c < 0x110000 ∧ c ≠ 32
theorem WOk.up {B B' : Nat} {w : Str} (h : WOk B w) (hb : B ≤ B') : WOk B' w := ⟨Nat.le_trans h.1 hb, h.2⟩
theorem sok_iff {t : Str} : PyData.strOk t = true ↔ ∀ c ∈ TL.tl t, c < 0x110000 := by
  unfold PyData.strOk
  rw [Array.all_eq_true_iff_forall_mem]
  exact ⟨fun h c hc => of_decide_eq_true (h c (Array.mem_toList_iff.mp hc)), fun h c hc => decide_eq_true (h c (Array.mem_toList_iff.mpr hc))⟩
theorem WOk.ok {B : Nat} {w : Str} (h : WOk B w) : PyData.strOk w = true := sok_iff.mpr fun c hc => (h.2 c hc).1
theorem wok_lit {w : Str} (l : List Nat) (e : w.cps.toList = l) (B : Nat) (h1 : l.length ≤ B) (h2 : l.all (fun c => decide (c < 128) && !decide (c = 32)) = true) : WOk B w := by
  refine ⟨by rw [TL.len_tl, TL.tl, e]; exact h1, fun c hc => ?_⟩
  rw [TL.tl, e] at hc
  have z := List.all_eq_true.mp h2 c hc
  rw [Bool.and_eq_true] at z
  have z1 := of_decide_eq_true z.1
  have z2 : ¬ c = 32 := by simpa using z.2
  exact ⟨by omega, z2⟩
theorem wok_app {B B' : Nat} {a b : Str} (ha : WOk B a) (hb : WOk B' b) : WOk (B + B') (a ++ b) := by
  have e := TL.tl_append a b
  refine ⟨?_, fun c hc => ?_⟩
  · rw [TL.len_tl, e, List.length_append, ← TL.len_tl, ← TL.len_tl]
    have := ha.1; have := hb.1
    omega
  · rw [e] at hc
    rcases List.mem_append.mp hc with h | h
    · exact ha.2 c h
    · exact hb.2 c h
theorem fold_mem {c : Nat} {a : Array Nat} : ∀ (n : Nat) (acc : Array Nat), c ∈ ((List.replicate n a).foldl (· ++ ·) acc).toList → c ∈ acc.toList ∨ c ∈ a.toList
  | 0, acc, h => .inl h
  | n + 1, acc, h => by
    rw [List.replicate_succ, List.foldl_cons] at h
    rcases fold_mem n _ h with h | h
    · rw [Array.toList_append] at h
      exact List.mem_append.mp h
    · exact .inr h
theorem wok_rep {s : Str} {n : Nat} {B : Nat} (h : WOk 1 s) (hn : n ≤ B) : WOk B (repS s n) := by
  refine ⟨?_, fun c hc => ?_⟩
  · rw [repS_len]
    have := h.1
    have : n * s.length ≤ n * 1 := Nat.mul_le_mul_left _ this
    omega
  · rcases fold_mem n #[] hc with h' | h'
    · exact absurd h' (by simp)
    · exact h.2 c h'
theorem tl_cut (z : Str) (lo hi : Option Int) : TL.tl (cutS z lo hi) = (z.cps.toList.drop (HT.sIx z.length 0 lo)).take (HT.sIx z.length z.length hi - HT.sIx z.length 0 lo) := rfl
theorem sum_mem {l : List Str} {w : Str} (h : w ∈ l) : w.length ≤ (l.map Str.length).sum := by
  induction l with
  | nil => exact nomatch h
  | cons a l ih =>
    rw [List.map_cons, List.sum_cons]
    rcases List.mem_cons.mp h with rfl | h
    · omega
    · have := ih h
      omega
def bS (b : Nat) : Nat := 6000 * 2 ^ b
theorem bS_up (b : Nat) : bS (b + 1) = bS b + bS b := by
  unfold bS
  rw [Nat.pow_succ]
  omega
theorem bS_ge (b : Nat) : 6000 ≤ bS b := by
  unfold bS
  have : 1 ≤ 2 ^ b := Nat.one_le_pow _ _ (by decide)
  omega
theorem bS_le {b : Nat} (h : b ≤ 3) : bS b ≤ 48000 := by
  unfold bS
  have : 2 ^ b ≤ 2 ^ 3 := Nat.pow_le_pow_right (by decide) h
  omega
/-- a line's words behind b changes -/
structure LnOk (b : Nat) (ws : List Str) : Prop where
  len : ws.length ≤ 61 + b
  tot : (ws.map Str.length).sum ≤ bS b
  w : ∀ x ∈ ws, ∀ c ∈ TL.tl x, c < 0x110000 ∧ c ≠ 32
theorem LnOk.wok {b : Nat} {ws : List Str} (h : LnOk b ws) : ∀ x ∈ ws, WOk (bS b) x := fun x hx => ⟨Nat.le_trans (sum_mem hx) h.tot, h.w x hx⟩
theorem LnOk.up {b b' : Nat} {ws : List Str} (h : LnOk b ws) (hb : b ≤ b') : LnOk b' ws := ⟨by have := h.len; omega, Nat.le_trans h.tot (Nat.mul_le_mul_left _ (Nat.pow_le_pow_right (by decide) hb)), h.w⟩
abbrev emp : Str := Str.ofString ""
def TOk (b : Nat) (t : Str) : Prop := ∃ ws, t = jn ws ∧ ws ≠ [] ∧ LnOk b ws
theorem TOk.up {b b' : Nat} {t : Str} (h : TOk b t) (hb : b ≤ b') : TOk b' t := by
  obtain ⟨ws, e, hn, h⟩ := h
  exact ⟨ws, e, hn, h.up hb⟩
theorem emp_ok {b : Nat} : LnOk b [emp] := ⟨by rw [List.length_singleton]; omega, by show 0 + 0 ≤ _; omega, fun x hx c hc => by
  rw [List.mem_singleton.mp hx] at hc
  exact nomatch hc⟩
theorem jn_nil : jn [] = jn [emp] := rfl
theorem tok_of {b : Nat} {ws : List Str} (h : LnOk b ws) : TOk b (jn ws) := by
  by_cases hn : ws = []
  · subst hn
    exact ⟨[emp], jn_nil, by simp, emp_ok⟩
  · exact ⟨ws, rfl, hn, h⟩
theorem tok_emp {b : Nat} : TOk b emp := ⟨[emp], rfl, by simp, emp_ok⟩
theorem sp_ok : sp.cps.all (· < 256) = true := by
  rw [Array.all_eq_true_iff_forall_mem]
  intro c hc
  have h : c ∈ [32] := Array.mem_toList_iff.mpr hc
  rw [List.mem_singleton.mp h]
  rfl
section
variable {wf m : Nat} {om r : Om} {T : Tb} {b : Nat} {ws : List Str}
theorem jnL (hb : b ≤ 3) (h : LnOk b ws) : (jn ws).length ≤ 50000 := by
  have hj := join_len sp ws
  have hsp : sp.length = 1 := rfl
  rw [hsp] at hj
  have := h.len; have := h.tot; have := bS_le hb
  unfold jn
  omega
theorem jnJ (hb : b ≤ 3) (h : LnOk b ws) : mbf .join (Str.ofString " ") (.lst (strL ws)) om = .ok (.str (jn ws)) om := by
  refine j_ok (s := Str.ofString " ") ?_
  have hsp : (Str.ofString " ").length = 1 := rfl
  rw [hsp]
  have := h.len; have := h.tot; have := bS_le hb
  omega
theorem split_jn (hn : ws ≠ []) (h : LnOk b ws) : Txt.split (jn ws) (Str.ofString " ") = ws := TL.split_join (s := 32) (S := []) rfl sp_ok hn fun p hp hc => (h.w p hp 32 hc).2 rfl
theorem jnS (hb : b ≤ 3) (hn : ws ≠ []) (h : LnOk b ws) : mbf .split (jn ws) (.str (Str.ofString " ")) om = .ok (.lst (strL ws)) om := by
  show (if ((Str.ofString " ").length == 0) = false ∧ (jn ws).length + 2 ≤ 1000000 then Rs.ok (D.lst ((Txt.split (jn ws) (Str.ofString " ")).map D.str)) om else .stuck) = _
  have hl := jnL hb h
  rw [if_pos ⟨rfl, by omega⟩, split_jn hn h]
/-! ### cuts -/
def cutG (l : List Str) (lo hi : Option Int) : List Str := (l.drop (HT.sIx l.length 0 lo)).take (HT.sIx l.length l.length hi - HT.sIx l.length 0 lo)
theorem cut_G (l : List Str) (lo hi : Option Int) : cutD (strL l) lo hi = strL (cutG l lo hi) := cut_map D.str l lo hi
theorem cutG_mem {l : List Str} {lo hi : Option Int} {x : Str} (h : x ∈ cutG l lo hi) : x ∈ l := List.mem_of_mem_drop (List.mem_of_mem_take h)
theorem cutG_len (l : List Str) (lo hi : Option Int) : (cutG l lo hi).length ≤ l.length := by
  unfold cutG
  rw [List.length_take, List.length_drop]
  omega
theorem cut_from (l : List Str) (k : Nat) : cutD (strL l) (some (k : Int)) none = strL (l.drop k) := by
  rw [cut_G]
  unfold cutG
  rw [HT.sIx_none, HT.sIx_nat]
  by_cases h : k ≤ l.length
  · rw [Nat.min_eq_left h, List.take_of_length_le (by rw [List.length_drop]; omega)]
  · rw [Nat.min_eq_right (by omega), List.drop_of_length_le (Nat.le_refl _), List.drop_of_length_le (by omega)]
    simp
theorem drawn {s : Int} (hm : 0 < m) (hs : 0 < s) (hs' : s < 2 ^ 200) (hp : PoolAt om r) : ∃ (k : Nat) (om' : Om), callN prog wf m 10 [.amb 0, .int s] om = .ok (.int (k : Int)) om' ∧ (k : Int) < s ∧ PoolAt om' r := by
  obtain ⟨v, om', e, h0, h1, h2⟩ := draw (wf := wf) hm hs hs' hp
  obtain ⟨k, rfl⟩ := Int.eq_ofNat_of_zero_le h0
  exact ⟨k, om', e, h1, h2⟩
/-! ### a word of the menu -/
theorem word_ok {B : Nat} (hm : 1 < m) (hB : 5000 ≤ B) (hl : ws.length ≤ 1000) (hw : ∀ x ∈ ws, WOk B x) (hp : PoolAt om r) : ∃ w om', callN prog wf m 21 [.amb 0, .lst (strL ws)] om = .ok (.str w) om' ∧ WOk B w ∧ PoolAt om' r := by
  obtain ⟨m, rfl⟩ : ∃ j, m = j + 1 := ⟨m - 1, by omega⟩
  have n9 : WOk 1 (Str.ofString "9") := wok_lit [57] rfl 1 (by decide) rfl
  have n0 : WOk 1 (Str.ofString "0") := wok_lit [48] rfl 1 (by decide) rfl
  have r60 : ∀ om : Om, bop (tab prog wf m) .mul (.str (Str.ofString "9")) (.int 60) om = .ok (.str (repS (Str.ofString "9") 60)) om := fun om => rfl
  have r61 : ∀ om : Om, bop (tab prog wf m) .mul (.str (Str.ofString "9")) (.int 61) om = .ok (.str (repS (Str.ofString "9") 61)) om := fun om => rfl
  have r5 : ∀ om : Om, bop (tab prog wf m) .mul (.str (Str.ofString "9")) (.int 5000) om = .ok (.str (repS (Str.ofString "9") 5000)) om := fun om => by
    rw [o_muls, if_pos ⟨by decide, by decide, by decide⟩]
    rfl
  have r50 : ∀ om : Om, bop (tab prog wf m) .mul (.str (Str.ofString "0")) (.int 5000) om = .ok (.str (repS (Str.ofString "0") 5000)) om := fun om => by
    rw [o_muls, if_pos ⟨by decide, by decide, by decide⟩]
    rfl
  have key : ∃ L : List Str, L.length ≤ 2000 ∧ 0 < L.length ∧ (∀ x ∈ L, WOk B x) ∧ ∀ om1 : Om, PoolAt om1 r → (∀ v om2, callN prog wf m 10 [.amb 0, .int (L.length : Int)] om1 = .ok (.int v) om2 → ∀ w, atI (strL L) v = some (.str w) → evS (tab prog wf m) B_Lword [.val (.amb 0), .val (.lst (strL ws)), .no] om1 = .ret (.str w) om2) := by
    refine ⟨([".", "choose", "ask", "if", "(", ")", "0", "1", "7", "01", "00", "-1", "+1", "1_0", "", "x"].map Str.ofString ++ [repS (Str.ofString "9") 60, repS (Str.ofString "9") 61, Str.ofString "Ask"] ++ ["1\n", "(0", "1)", "()", "(0)", "((", "..", "...", ".if", "0."].map Str.ofString ++ ws ++ [Str.ofString "1\t", Str.ofString "\t0", repS (Str.ofString "9") 5000, repS (Str.ofString "0") 5000]), ?_, ?_, fun x hx => ?_, fun om1 hp1 v om2 e w hw => ?_⟩
    · simp
      omega
    · simp
    · simp only [List.mem_append, List.map_cons, List.map_nil, List.mem_cons, List.not_mem_nil, or_false] at hx
      rcases hx with (((hx | hx) | hx) | hx) | hx
      · rcases hx with rfl | rfl | rfl | rfl | rfl | rfl | rfl | rfl | rfl | rfl | rfl | rfl | rfl | rfl | rfl | rfl
        all_goals exact (wok_lit _ rfl 10 (by decide) rfl).up (by omega)
      · rcases hx with rfl | rfl | rfl
        · exact wok_rep n9 (by omega)
        · exact wok_rep n9 (by omega)
        · exact (wok_lit _ rfl 10 (by decide) rfl).up (by omega)
      · rcases hx with rfl | rfl | rfl | rfl | rfl | rfl | rfl | rfl | rfl | rfl
        all_goals exact (wok_lit _ rfl 10 (by decide) rfl).up (by omega)
      · exact hw x hx
      · rcases hx with rfl | rfl | rfl | rfl
        · exact (wok_lit _ rfl 10 (by decide) rfl).up (by omega)
        · exact (wok_lit _ rfl 10 (by decide) rfl).up (by omega)
        · exact wok_rep n9 (by omega)
        · exact wok_rep n0 (by omega)
    · simp [B_Lword, r60, r61, r5, r50] at e hw ⊢
      rw [if_pos (by omega)]
      simp [r5, r50]
      rw [if_pos (by omega)]
      have hx : ∀ om : Om, ixD (.lst _) (.int v) om = .ok (.str w) om := fun om => x_l hw
      simp [e, hx]
  obtain ⟨L, h1, h2, h3, h4⟩ := key
  obtain ⟨v, om', e, hv, p1⟩ := drawn (wf := wf) (m := m) (s := (L.length : Int)) (by omega) (by omega) (by omega) hp
  have hv' : v < L.length := by omega
  refine ⟨L[v], om', call_ret (d := ⟨2, 3, B_Lword, none⟩) rfl rfl rfl ?_, h3 _ (List.getElem_mem hv'), p1⟩
  exact h4 om hp v om' e L[v] (by rw [PD.atI_nat, List.getElem?_map, List.getElem?_eq_getElem hv']; rfl)
/-! ### a word spoilt -/
theorem spoilt_ok {B : Nat} {w : Str} (hm : 1 < m) (hB : B ≤ 100000) (hw : WOk B w) (hp : PoolAt om r) : ∃ w' om', callN prog wf m 22 [.amb 0, .str w] om = .ok (.str w') om' ∧ w'.length ≤ w.length + 1 ∧ (∀ c ∈ TL.tl w', c < 0x110000 ∧ c ≠ 32) ∧ PoolAt om' r := by
  obtain ⟨m, rfl⟩ : ∃ j, m = j + 1 := ⟨m - 1, by omega⟩
  have hl := hw.1
  have hlw : w.length ≤ 1000000 := by omega
  have hz : (Str.ofString "!\"#$&'()*+,-./0123456789:;<=>?@ABCXYZ[\\]^_`{|}~abcxyz").length = 53 := by decide
  obtain ⟨a, om1, e1, a1, p1⟩ := drawn (wf := wf) (m := m) (s := (w.length : Int) + 1) (by omega) (by omega) (by omega) hp
  obtain ⟨k, om2, e2, a2, p2⟩ := drawn (wf := wf) (m := m) (s := 53) (by omega) (by decide) (by decide) p1
  obtain ⟨t, om3, e3, a3, p3⟩ := drawn (wf := wf) (m := m) (s := 2) (by omega) (by decide) (by decide) p2
  have hc : ∃ c, (Str.ofString "!\"#$&'()*+,-./0123456789:;<=>?@ABCXYZ[\\]^_`{|}~abcxyz").cps.toList[k]? = some c ∧ WOk 1 (⟨#[c]⟩ : Str) := by
    have hk : k < (Str.ofString "!\"#$&'()*+,-./0123456789:;<=>?@ABCXYZ[\\]^_`{|}~abcxyz").cps.toList.length := by
      show k < (Str.ofString "!\"#$&'()*+,-./0123456789:;<=>?@ABCXYZ[\\]^_`{|}~abcxyz").cps.size
      have : (Str.ofString "!\"#$&'()*+,-./0123456789:;<=>?@ABCXYZ[\\]^_`{|}~abcxyz").cps.size = 53 := hz
      omega
    refine ⟨_, List.getElem?_eq_getElem hk, by show 1 ≤ 1; omega, fun c hc => ?_⟩
    have hc' : c ∈ [(Str.ofString "!\"#$&'()*+,-./0123456789:;<=>?@ABCXYZ[\\]^_`{|}~abcxyz").cps.toList[k]] := hc
    rw [List.mem_singleton] at hc'
    have hall : ∀ c ∈ (Str.ofString "!\"#$&'()*+,-./0123456789:;<=>?@ABCXYZ[\\]^_`{|}~abcxyz").cps.toList, c < 0x110000 ∧ c ≠ 32 := by decide
    rw [hc']
    exact hall _ (List.getElem_mem hk)
  obtain ⟨c, hck, hcw⟩ := hc
  have hix : ∀ om : Om, ixD (.str (Str.ofString "!\"#$&'()*+,-./0123456789:;<=>?@ABCXYZ[\\]^_`{|}~abcxyz")) (.int (k : Int)) om = .ok (.str ⟨#[c]⟩) om := fun om => by
    rw [ixD, if_pos (by rw [hz]; decide), PD.atI_nat, hck]
  have hA : (cutS w none (some (a : Int))).length ≤ a := by
    rw [TL.len_tl, tl_cut, List.length_take]
    have : HT.sIx w.length w.length (some (a : Int)) = min a w.length := HT.sIx_nat _ _ _
    rw [this, HT.sIx_none]
    omega
  have hAt : (((a : Int) + (t : Int))) = ((a + t : Nat) : Int) := by omega
  have hC : (cutS w (some ((a : Int) + (t : Int))) none).length ≤ w.length - a := by
    rw [hAt, TL.len_tl, tl_cut, List.length_take, List.length_drop, HT.sIx_nat, HT.sIx_none, Array.length_toList]
    have : w.cps.size = w.length := rfl
    omega
  have hA2 : WOk a (cutS w none (some (a : Int))) := ⟨hA, fun c hc => hw.2 c (by
    rw [tl_cut] at hc
    exact List.mem_of_mem_drop (List.mem_of_mem_take hc))⟩
  have hC2 : WOk (w.length - a) (cutS w (some ((a : Int) + (t : Int))) none) := ⟨hC, fun c hc => hw.2 c (by
    rw [tl_cut] at hc
    exact List.mem_of_mem_drop (List.mem_of_mem_take hc))⟩
  have hcl : (⟨#[c]⟩ : Str).length = 1 := rfl
  have h12 := wok_app hA2 hcw
  have h3 := wok_app h12 hC2
  refine ⟨cutS w none (some (a : Int)) ++ ⟨#[c]⟩ ++ cutS w (some ((a : Int) + (t : Int))) none, om3, call_ret (d := ⟨2, 4, B_Lspoilt, none⟩) rfl rfl rfl ?_, by have := h3.1; omega, h3.2, p3⟩
  have b1 : ∀ om : Om, biD (tab prog wf m) .len (.str w) om = .ok (.int w.length) om := fun om => b_lenstr hlw
  have b2 : ∀ om : Om, biD (tab prog wf m) .len (.str (Str.ofString "!\"#$&'()*+,-./0123456789:;<=>?@ABCXYZ[\\]^_`{|}~abcxyz")) om = .ok (.int 53) om := fun om => by
    rw [b_lenstr (by rw [hz]; decide), hz]
    rfl
  have c1 : (cutS w none (some (a : Int))).length + (⟨#[c]⟩ : Str).length ≤ 1000000 := by rw [hcl]; omega
  have c2 : (cutS w none (some (a : Int)) ++ ⟨#[c]⟩).length + (cutS w (some ((a : Int) + (t : Int))) none).length ≤ 1000000 := by
    have := h12.1
    omega
  simp [B_Lspoilt, slots, b1, b2, e1, e2, e3, hix, hlw, c1, c2]
/-! ### the changes -/
abbrev bC : S := match B_Lchanged with
  | .seq (.fo _ _ b) _ => b
  | _ => .skip
theorem ln_del {a : Nat} (h : LnOk b ws) : LnOk (b + 1) (ws.take a ++ ws.drop (a + 1)) := by
  have hs : ((ws.take a ++ ws.drop (a + 1)).map Str.length).sum ≤ (ws.map Str.length).sum := by
    have e : ws.take a ++ ws.drop a = ws := List.take_append_drop a ws
    have z : ((ws.take a ++ ws.drop a).map Str.length).sum = (ws.map Str.length).sum := by rw [e]
    rw [List.map_append, List.sum_append] at z ⊢
    have : ((ws.drop (a + 1)).map Str.length).sum ≤ ((ws.drop a).map Str.length).sum := by
      cases q : ws.drop a with
      | nil =>
        have : ws.drop (a + 1) = [] := by rw [← List.drop_drop, q]; rfl
        rw [this]
        exact Nat.le_refl _
      | cons x t =>
        have : ws.drop (a + 1) = t := by rw [← List.drop_drop, q]; rfl
        rw [this, List.map_cons, List.sum_cons]
        omega
    omega
  refine ⟨?_, ?_, fun x hx => h.w x ?_⟩
  · have := h.len
    rw [List.length_append, List.length_take, List.length_drop]
    omega
  · have := h.tot; have := bS_up b
    omega
  · rcases List.mem_append.mp hx with h | h
    · exact List.mem_of_mem_take h
    · exact List.mem_of_mem_drop h
theorem ln_ins {a : Nat} {x : Str} (h : LnOk b ws) (hx : x.length ≤ bS b) (hw : ∀ c ∈ TL.tl x, c < 0x110000 ∧ c ≠ 32) : LnOk (b + 1) (ws.take a ++ x :: ws.drop a) := by
  refine ⟨?_, ?_, fun y hy => ?_⟩
  · have := h.len
    rw [List.length_append, List.length_cons, List.length_take, List.length_drop]
    omega
  · have e : ws.take a ++ ws.drop a = ws := List.take_append_drop a ws
    have z : ((ws.take a ++ ws.drop a).map Str.length).sum = (ws.map Str.length).sum := by rw [e]
    rw [List.map_append, List.sum_append] at z ⊢
    rw [List.map_cons, List.sum_cons]
    have := h.tot; have := bS_up b
    omega
  · rcases List.mem_append.mp hy with hy | hy
    · exact h.w y (List.mem_of_mem_take hy)
    · rcases List.mem_cons.mp hy with rfl | hy
      · exact hw
      · exact h.w y (List.mem_of_mem_drop hy)
theorem ln_rep {a : Nat} {x : Str} (h : LnOk b ws) (ha : a < ws.length) (hx : x.length ≤ bS b + ws[a].length) (hw : ∀ c ∈ TL.tl x, c < 0x110000 ∧ c ≠ 32) : LnOk (b + 1) (ws.take a ++ x :: ws.drop (a + 1)) := by
  refine ⟨?_, ?_, fun y hy => ?_⟩
  · have := h.len
    rw [List.length_append, List.length_cons, List.length_take, List.length_drop]
    omega
  · have e : ws.take a ++ ws.drop a = ws := List.take_append_drop a ws
    have z : ((ws.take a ++ ws.drop a).map Str.length).sum = (ws.map Str.length).sum := by rw [e]
    rw [List.drop_eq_getElem_cons ha] at z
    rw [List.map_append, List.sum_append, List.map_cons, List.sum_cons] at z ⊢
    have := h.tot; have := bS_up b
    omega
  · rcases List.mem_append.mp hy with hy | hy
    · exact h.w y (List.mem_of_mem_take hy)
    · rcases List.mem_cons.mp hy with rfl | hy
      · exact hw
      · exact h.w y (List.mem_of_mem_drop hy)
theorem strL_inj {a b : List Str} (h : strL a = strL b) : a = b := by
  have z := congrArg strsD h
  rw [strs_ok, strs_ok] at z
  exact Option.some.inj z
theorem cutG_take (l : List Str) (k : Nat) : cutG l none (some (k : Int)) = l.take k := by
  have h1 := cut_G l none (some (k : Int))
  rw [cut_take] at h1
  exact (strL_inj h1).symm
theorem cutG_from (l : List Str) (k : Nat) : cutG l (some (k : Int)) none = l.drop k := by
  have h1 := cut_G l (some (k : Int)) none
  rw [cut_from] at h1
  exact (strL_inj h1).symm
theorem cutG_from1 (l : List Str) (k : Nat) : cutG l (some ((k : Int) + 1)) none = l.drop (k + 1) := cutG_from l (k + 1)
theorem cutG_one (l : List Str) (k : Nat) : cutG l (some (k : Int)) (some ((k : Int) + 1)) = (l.drop k).take 1 := by
  have h1 := cut_G l (some (k : Int)) (some ((k : Int) + 1))
  rw [cut_one] at h1
  exact (strL_inj h1).symm
/-- the words of the place -/
theorem words_at {ls : List Str} {p : Nat} (hb : b ≤ 3) (h : ∀ t ∈ ls, TOk b t) : ∃ (t : Str) (ws : List Str), ws ≠ [] ∧ LnOk b ws ∧ (∀ om : Om, mbf .join (Str.ofString " ") (.lst (strL (cutG ls (some (p : Int)) (some ((p : Int) + 1))))) om = .ok (.str t) om) ∧ ∀ om : Om, mbf .split t (.str (Str.ofString " ")) om = .ok (.lst (strL ws)) om := by
  rw [cutG_one]
  by_cases hp : p < ls.length
  · obtain ⟨ws, e, hn, hw⟩ := h ls[p] (List.getElem_mem hp)
    have e1 : (ls.drop p).take 1 = [ls[p]] := by
      rw [List.drop_eq_getElem_cons hp]
      rfl
    refine ⟨ls[p], ws, hn, hw, fun om => ?_, fun om => ?_⟩
    · rw [e1]
      have hj : Txt.join (Str.ofString " ") [ls[p]] = ls[p] := by
        refine TL.ext_tl ?_
        rw [TL.join_eq, TL.tl_join]
        rfl
      have hl := jnL hb hw
      rw [← e] at hl
      rw [j_ok (s := Str.ofString " ") (by
        have hsp : (Str.ofString " ").length = 1 := rfl
        rw [hsp]
        simp
        omega), hj]
    · rw [e]
      exact jnS hb hn hw
  · have e1 : (ls.drop p).take 1 = [] := by
      rw [List.drop_of_length_le (by omega)]
      rfl
    refine ⟨emp, [emp], by simp, emp_ok, fun om => ?_, fun om => ?_⟩
    · rw [e1]
      rfl
    · have z := jnS (om := om) (b := b) (ws := [emp]) hb (by simp) emp_ok
      exact z
theorem changed_ok {ls : List Str} (hm : 2 < m) (hl : ls.length ≤ 1024) (h0 : ∀ t ∈ ls, TOk 0 t) (hp : PoolAt om r) : ∃ ls' om', callN prog wf m 23 [.amb 0, .lst (strL ls)] om = .ok (.lst (strL ls')) om' ∧ (∀ t ∈ ls', TOk 3 t) ∧ ls'.length ≤ 65536 ∧ PoolAt om' r := by
  obtain ⟨m, rfl⟩ : ∃ j, m = j + 1 := ⟨m - 1, by omega⟩
  obtain ⟨n, om1, e1, a1, p1⟩ := drawn (wf := wf) (m := m) (s := 4) (by omega) (by decide) (by decide) hp
  have loop := for_all (T := tab prog wf m) (i := 2) (sl := [.val (.amb 0), .val (.lst (strL ls)), .no, .no, .no, .no, .no, .no]) (om := om1) (f := fun k : Nat => D.int k) (b := bC) (List.range n)
    (fun done sl om => ∃ (ls : List Str) (c2 c3 c4 c5 c6 c7 : Cell), sl = [.val (.amb 0), .val (.lst (strL ls)), c2, c3, c4, c5, c6, c7] ∧ (∀ t ∈ ls, TOk done.length t) ∧ ls.length ≤ 1024 * 4 ^ done.length ∧ PoolAt om r)
    ⟨ls, .no, .no, .no, .no, .no, .no, rfl, h0, by simpa using hl, p1⟩
    (by
      rintro done x rest hall sl om ⟨ls, c2, c3, c4, c5, c6, c7, rfl, ht, hln, hp⟩
      have hlen : done.length < n := by
        have z := congrArg List.length hall
        rw [List.length_range, List.length_append, List.length_cons] at z
        omega
      have hb : done.length ≤ 2 := by omega
      have h4 : 4 ^ done.length ≤ 4 ^ 2 := Nat.pow_le_pow_right (by decide) hb
      have h5 : 4 ^ (done.length + 1) = 4 ^ done.length * 4 := Nat.pow_succ ..
      have h6 : 1 ≤ 4 ^ done.length := Nat.one_le_pow _ _ (by decide)
      have hN : ls.length ≤ 16384 := by omega
      rw [List.length_append, List.length_singleton]
      generalize hbd : done.length = b at ht hln hb h4 h5 h6 ⊢
      clear hall hlen hbd
      obtain ⟨p, om2, e2, a2, p2⟩ := drawn (wf := wf) (m := m) (s := (ls.length : Int) + 1) (by omega) (by omega) (by omega) hp
      obtain ⟨q, om3, e3, a3, p3⟩ := drawn (wf := wf) (m := m) (s := (ls.length : Int) + 1) (by omega) (by omega) (by omega) p2
      obtain ⟨t, ws, hn, hw, hJ, hS⟩ := words_at (p := p) (by omega) ht
      have hwl : 0 < ws.length := List.length_pos_iff.mpr hn
      have hwl2 := hw.len
      obtain ⟨a, om4, e4, a4, p4⟩ := drawn (wf := wf) (m := m) (s := (ws.length : Int)) (by omega) (by omega) (by omega) p3
      obtain ⟨v, om5, e5, a5, p5⟩ := drawn (wf := wf) (m := m) (s := 10) (by omega) (by decide) (by decide) p4
      have ha : a < ws.length := by omega
      have cm : ∀ lo hi, ∀ t ∈ cutG ls lo hi, TOk (b + 1) t := fun lo hi t h => (ht t (cutG_mem h)).up (by omega)
      have cl : ∀ lo hi, (cutG ls lo hi).length ≤ ls.length := cutG_len ls
      have ht' : ∀ t ∈ ls, TOk (b + 1) t := fun t h => (ht t h).up (by omega)
      have hcut : ∀ lo hi, cutD (strL ls) lo hi = strL (cutG ls lo hi) := cut_G ls
      have wcut : ∀ lo hi, cutD (strL ws) lo hi = strL (cutG ws lo hi) := cut_G ws
      have hv : v = 0 ∨ v = 1 ∨ v = 2 ∨ v = 3 ∨ v = 4 ∨ v = 5 ∨ v = 6 ∨ v = 7 ∨ v = 8 ∨ v = 9 := by omega
      rcases hv with rfl | rfl | rfl | rfl | hv
      · have e5' : callN prog wf m 10 [.amb 0, .int 10] om4 = .ok (.int 0) om5 := e5
        refine ⟨[.val (.amb 0), .val (.lst (strL (cutG ls none (some (p : Int)) ++ cutG ls (some ((p : Int) + 1)) none))), .val (.int (x : Int)), .val (.int (p : Int)), .val (.int (q : Int)), .val (.lst (strL (ws))), .val (.int (a : Int)), .val (.int 0)], om5, ?_, cutG ls none (some (p : Int)) ++ cutG ls (some ((p : Int) + 1)) none, _, _, _, _, _, _, rfl, fun t h => ?_, ?_, p5⟩
        · have l0 := cutG_len ls none (some (p : Int))
          have l1 := cutG_len ls (some ((p : Int) + 1)) none
          simp [bC, B_Lchanged, e2, e3, hcut, hJ, hS, e4, e5']
          repeat (rw [if_pos (by first | omega | (simp only [List.length_append, List.length_map, List.length_cons, List.length_nil]; omega))]; simp [hcut])
        · simp only [List.mem_append, List.mem_singleton] at h
          rcases h with h | h
          · exact cm _ _ t h
          · exact cm _ _ t h
        · have l0 := cutG_len ls none (some (p : Int))
          have l1 := cutG_len ls (some ((p : Int) + 1)) none
          simp only [List.length_append, List.length_singleton]
          omega
      · have e5' : callN prog wf m 10 [.amb 0, .int 10] om4 = .ok (.int 1) om5 := e5
        refine ⟨[.val (.amb 0), .val (.lst (strL (cutG ls none (some (p : Int)) ++ cutG ls (some (q : Int)) (some ((q : Int) + 1)) ++ cutG ls (some (p : Int)) none))), .val (.int (x : Int)), .val (.int (p : Int)), .val (.int (q : Int)), .val (.lst (strL (ws))), .val (.int (a : Int)), .val (.int 1)], om5, ?_, cutG ls none (some (p : Int)) ++ cutG ls (some (q : Int)) (some ((q : Int) + 1)) ++ cutG ls (some (p : Int)) none, _, _, _, _, _, _, rfl, fun t h => ?_, ?_, p5⟩
        · have l0 := cutG_len ls none (some (p : Int))
          have l1 := cutG_len ls (some (q : Int)) (some ((q : Int) + 1))
          have l2 := cutG_len ls (some (p : Int)) none
          simp [bC, B_Lchanged, e2, e3, hcut, hJ, hS, e4, e5']
          repeat (rw [if_pos (by first | omega | (simp only [List.length_append, List.length_map, List.length_cons, List.length_nil]; omega))]; simp [hcut])
        · simp only [List.mem_append, List.mem_singleton] at h
          rcases h with (h | h) | h
          · exact cm _ _ t h
          · exact cm _ _ t h
          · exact cm _ _ t h
        · have l0 := cutG_len ls none (some (p : Int))
          have l1 := cutG_len ls (some (q : Int)) (some ((q : Int) + 1))
          have l2 := cutG_len ls (some (p : Int)) none
          simp only [List.length_append, List.length_singleton]
          omega
      · have e5' : callN prog wf m 10 [.amb 0, .int 10] om4 = .ok (.int 2) om5 := e5
        refine ⟨[.val (.amb 0), .val (.lst (strL (cutG ls none (some (p : Int)) ++ [emp] ++ cutG ls (some (p : Int)) none))), .val (.int (x : Int)), .val (.int (p : Int)), .val (.int (q : Int)), .val (.lst (strL (ws))), .val (.int (a : Int)), .val (.int 2)], om5, ?_, cutG ls none (some (p : Int)) ++ [emp] ++ cutG ls (some (p : Int)) none, _, _, _, _, _, _, rfl, fun t h => ?_, ?_, p5⟩
        · have l0 := cutG_len ls none (some (p : Int))
          have l2 := cutG_len ls (some (p : Int)) none
          simp [bC, B_Lchanged, e2, e3, hcut, hJ, hS, e4, e5']
          repeat (rw [if_pos (by first | omega | (simp only [List.length_append, List.length_map, List.length_cons, List.length_nil]; omega))]; simp [hcut])
        · simp only [List.mem_append, List.mem_singleton] at h
          rcases h with (h | h) | h
          · exact cm _ _ t h
          · rw [h]; exact tok_emp
          · exact cm _ _ t h
        · have l0 := cutG_len ls none (some (p : Int))
          have l2 := cutG_len ls (some (p : Int)) none
          simp only [List.length_append, List.length_singleton]
          omega
      · have e5' : callN prog wf m 10 [.amb 0, .int 10] om4 = .ok (.int 3) om5 := e5
        refine ⟨[.val (.amb 0), .val (.lst (strL (cutG ls none (some (p : Int)) ++ cutG ls (some ((p : Int) + 1)) (some ((p : Int) + 2)) ++ cutG ls (some (p : Int)) (some ((p : Int) + 1)) ++ cutG ls (some ((p : Int) + 2)) none))), .val (.int (x : Int)), .val (.int (p : Int)), .val (.int (q : Int)), .val (.lst (strL (ws))), .val (.int (a : Int)), .val (.int 3)], om5, ?_, cutG ls none (some (p : Int)) ++ cutG ls (some ((p : Int) + 1)) (some ((p : Int) + 2)) ++ cutG ls (some (p : Int)) (some ((p : Int) + 1)) ++ cutG ls (some ((p : Int) + 2)) none, _, _, _, _, _, _, rfl, fun t h => ?_, ?_, p5⟩
        · have l0 := cutG_len ls none (some (p : Int))
          have l1 := cutG_len ls (some ((p : Int) + 1)) (some ((p : Int) + 2))
          have l2 := cutG_len ls (some (p : Int)) (some ((p : Int) + 1))
          have l3 := cutG_len ls (some ((p : Int) + 2)) none
          simp [bC, B_Lchanged, e2, e3, hcut, hJ, hS, e4, e5']
          repeat (rw [if_pos (by first | omega | (simp only [List.length_append, List.length_map, List.length_cons, List.length_nil]; omega))]; simp [hcut])
        · simp only [List.mem_append, List.mem_singleton] at h
          rcases h with ((h | h) | h) | h
          · exact cm _ _ t h
          · exact cm _ _ t h
          · exact cm _ _ t h
          · exact cm _ _ t h
        · have l0 := cutG_len ls none (some (p : Int))
          have l1 := cutG_len ls (some ((p : Int) + 1)) (some ((p : Int) + 2))
          have l2 := cutG_len ls (some (p : Int)) (some ((p : Int) + 1))
          have l3 := cutG_len ls (some ((p : Int) + 2)) none
          simp only [List.length_append, List.length_singleton]
          omega
      have hge := bS_ge b
      have wl : ∀ lo hi, (cutG ws lo hi).length ≤ ws.length := cutG_len ws
      have hst : bS b ≤ 24000 := by
        unfold bS
        have : 2 ^ b ≤ 2 ^ 2 := Nat.pow_le_pow_right (by decide) hb
        omega
      rcases hv with rfl | rfl | rfl | rfl | rfl | rfl
      · have e5' : callN prog wf m 10 [.amb 0, .int 10] om4 = .ok (.int 4) om5 := e5
        have h' : LnOk (b + 1) (cutG ws none (some (a : Int)) ++ cutG ws (some ((a : Int) + 1)) none) := by
          rw [cutG_take, cutG_from1]
          exact ln_del hw
        have hJ' : ∀ om : Om, mbf .join (Str.ofString " ") (.lst (strL (cutG ws none (some (a : Int))) ++ strL (cutG ws (some ((a : Int) + 1)) none))) om = .ok (.str (jn (cutG ws none (some (a : Int)) ++ cutG ws (some ((a : Int) + 1)) none))) om := fun om => by
          have z := jnJ (om := om) (by omega) h'
          simpa using z
        have l0 := cutG_len ls none (some (p : Int))
        have l1 := cutG_len ls (some ((p : Int) + 1)) none
        have w0 := cutG_len ws none (some (a : Int))
        have w1 := cutG_len ws (some ((a : Int) + 1)) none
        have w2 := cutG_len ws (some (a : Int)) none
        by_cases hpl : p < ls.length
        · refine ⟨[.val (.amb 0), .val (.lst (strL (cutG ls none (some (p : Int)) ++ [jn (cutG ws none (some (a : Int)) ++ cutG ws (some ((a : Int) + 1)) none)] ++ cutG ls (some ((p : Int) + 1)) none))), .val (.int (x : Int)), .val (.int (p : Int)), .val (.int (q : Int)), .val (.lst (strL (cutG ws none (some (a : Int)) ++ cutG ws (some ((a : Int) + 1)) none))), .val (.int (a : Int)), .val (.int 4)], om5, ?_, cutG ls none (some (p : Int)) ++ [jn (cutG ws none (some (a : Int)) ++ cutG ws (some ((a : Int) + 1)) none)] ++ cutG ls (some ((p : Int) + 1)) none, _, _, _, _, _, _, rfl, fun t h => ?_, ?_, p5⟩
          · simp [bC, B_Lchanged, e2, e3, hcut, wcut, hJ, hS, e4, e5', hJ', hpl]
            repeat (rw [if_pos (by first | omega | (simp only [List.length_append, List.length_map, List.length_cons, List.length_nil]; omega))]; simp [hcut, wcut, hJ', hpl])
          · simp only [List.mem_append, List.mem_singleton] at h
            rcases h with (h | h) | h
            · exact cm _ _ t h
            · rw [h]; exact tok_of h'
            · exact cm _ _ t h
          · simp only [List.length_append, List.length_singleton]
            omega
        · refine ⟨[.val (.amb 0), .val (.lst (strL (ls))), .val (.int (x : Int)), .val (.int (p : Int)), .val (.int (q : Int)), .val (.lst (strL (cutG ws none (some (a : Int)) ++ cutG ws (some ((a : Int) + 1)) none))), .val (.int (a : Int)), .val (.int 4)], om5, ?_, ls, _, _, _, _, _, _, rfl, ht', by omega, p5⟩
          simp [bC, B_Lchanged, e2, e3, hcut, wcut, hJ, hS, e4, e5', hJ', hpl]
          repeat (rw [if_pos (by first | omega | (simp only [List.length_append, List.length_map, List.length_cons, List.length_nil]; omega))]; simp [hcut, wcut, hJ', hpl])
      · have e5' : callN prog wf m 10 [.amb 0, .int 10] om4 = .ok (.int 5) om5 := e5
        obtain ⟨w, om6, e6, hww, p6⟩ := word_ok (wf := wf) (m := m) (B := bS b) (by omega) (by omega) (by omega) hw.wok p5
        have h' : LnOk (b + 1) (cutG ws none (some (a : Int)) ++ w :: cutG ws (some (a : Int)) none) := by
          rw [cutG_take, cutG_from]
          exact ln_ins hw hww.1 hww.2
        have hJ' : ∀ om : Om, mbf .join (Str.ofString " ") (.lst (strL (cutG ws none (some (a : Int))) ++ D.str w :: strL (cutG ws (some (a : Int)) none))) om = .ok (.str (jn (cutG ws none (some (a : Int)) ++ w :: cutG ws (some (a : Int)) none))) om := fun om => by
          have z := jnJ (om := om) (by omega) h'
          simpa using z
        have l0 := cutG_len ls none (some (p : Int))
        have l1 := cutG_len ls (some ((p : Int) + 1)) none
        have w0 := cutG_len ws none (some (a : Int))
        have w1 := cutG_len ws (some ((a : Int) + 1)) none
        have w2 := cutG_len ws (some (a : Int)) none
        by_cases hpl : p < ls.length
        · refine ⟨[.val (.amb 0), .val (.lst (strL (cutG ls none (some (p : Int)) ++ [jn (cutG ws none (some (a : Int)) ++ w :: cutG ws (some (a : Int)) none)] ++ cutG ls (some ((p : Int) + 1)) none))), .val (.int (x : Int)), .val (.int (p : Int)), .val (.int (q : Int)), .val (.lst (strL (cutG ws none (some (a : Int)) ++ w :: cutG ws (some (a : Int)) none))), .val (.int (a : Int)), .val (.int 5)], om6, ?_, cutG ls none (some (p : Int)) ++ [jn (cutG ws none (some (a : Int)) ++ w :: cutG ws (some (a : Int)) none)] ++ cutG ls (some ((p : Int) + 1)) none, _, _, _, _, _, _, rfl, fun t h => ?_, ?_, p6⟩
          · simp [bC, B_Lchanged, e2, e3, hcut, wcut, hJ, hS, e4, e5', hJ', hpl, e6]
            repeat (rw [if_pos (by first | omega | (simp only [List.length_append, List.length_map, List.length_cons, List.length_nil]; omega))]; simp [hcut, wcut, hJ', hpl, e6])
          · simp only [List.mem_append, List.mem_singleton] at h
            rcases h with (h | h) | h
            · exact cm _ _ t h
            · rw [h]; exact tok_of h'
            · exact cm _ _ t h
          · simp only [List.length_append, List.length_singleton]
            omega
        · refine ⟨[.val (.amb 0), .val (.lst (strL (ls))), .val (.int (x : Int)), .val (.int (p : Int)), .val (.int (q : Int)), .val (.lst (strL (cutG ws none (some (a : Int)) ++ w :: cutG ws (some (a : Int)) none))), .val (.int (a : Int)), .val (.int 5)], om6, ?_, ls, _, _, _, _, _, _, rfl, ht', by omega, p6⟩
          simp [bC, B_Lchanged, e2, e3, hcut, wcut, hJ, hS, e4, e5', hJ', hpl, e6]
          repeat (rw [if_pos (by first | omega | (simp only [List.length_append, List.length_map, List.length_cons, List.length_nil]; omega))]; simp [hcut, wcut, hJ', hpl, e6])
      · have e5' : callN prog wf m 10 [.amb 0, .int 10] om4 = .ok (.int 6) om5 := e5
        have h' : LnOk (b + 1) (Str.ofString "." :: ws) := by
          have z := ln_ins (a := 0) (x := Str.ofString ".") hw (by show 1 ≤ _; omega) (fun c hc => by
            have : c ∈ [46] := hc
            rw [List.mem_singleton.mp this]
            decide)
          exact z
        have hJ' : ∀ om : Om, mbf .join (Str.ofString " ") (.lst (D.str (Str.ofString ".") :: strL ws)) om = .ok (.str (jn (Str.ofString "." :: ws))) om := fun om => by
          have z := jnJ (om := om) (by omega) h'
          simpa using z
        have l0 := cutG_len ls none (some (p : Int))
        have l1 := cutG_len ls (some ((p : Int) + 1)) none
        have w0 := cutG_len ws none (some (a : Int))
        have w1 := cutG_len ws (some ((a : Int) + 1)) none
        have w2 := cutG_len ws (some (a : Int)) none
        by_cases hpl : p < ls.length
        · refine ⟨[.val (.amb 0), .val (.lst (strL (cutG ls none (some (p : Int)) ++ [jn (Str.ofString "." :: ws)] ++ cutG ls (some ((p : Int) + 1)) none))), .val (.int (x : Int)), .val (.int (p : Int)), .val (.int (q : Int)), .val (.lst (strL (Str.ofString "." :: ws))), .val (.int (a : Int)), .val (.int 6)], om5, ?_, cutG ls none (some (p : Int)) ++ [jn (Str.ofString "." :: ws)] ++ cutG ls (some ((p : Int) + 1)) none, _, _, _, _, _, _, rfl, fun t h => ?_, ?_, p5⟩
          · simp [bC, B_Lchanged, e2, e3, hcut, wcut, hJ, hS, e4, e5', hJ', hpl]
            repeat (rw [if_pos (by first | omega | (simp only [List.length_append, List.length_map, List.length_cons, List.length_nil]; omega))]; simp [hcut, wcut, hJ', hpl])
          · simp only [List.mem_append, List.mem_singleton] at h
            rcases h with (h | h) | h
            · exact cm _ _ t h
            · rw [h]; exact tok_of h'
            · exact cm _ _ t h
          · simp only [List.length_append, List.length_singleton]
            omega
        · refine ⟨[.val (.amb 0), .val (.lst (strL (ls))), .val (.int (x : Int)), .val (.int (p : Int)), .val (.int (q : Int)), .val (.lst (strL (Str.ofString "." :: ws))), .val (.int (a : Int)), .val (.int 6)], om5, ?_, ls, _, _, _, _, _, _, rfl, ht', by omega, p5⟩
          simp [bC, B_Lchanged, e2, e3, hcut, wcut, hJ, hS, e4, e5', hJ', hpl]
          repeat (rw [if_pos (by first | omega | (simp only [List.length_append, List.length_map, List.length_cons, List.length_nil]; omega))]; simp [hcut, wcut, hJ', hpl])
      · have e5' : callN prog wf m 10 [.amb 0, .int 10] om4 = .ok (.int 7) om5 := e5
        obtain ⟨w, om6, e6, hww, p6⟩ := word_ok (wf := wf) (m := m) (B := bS b) (by omega) (by omega) (by omega) hw.wok p5
        have h' : LnOk (b + 1) (cutG ws none (some (a : Int)) ++ w :: cutG ws (some ((a : Int) + 1)) none) := by
          rw [cutG_take, cutG_from1]
          exact ln_rep hw ha (by have := hww.1; omega) hww.2
        have hJ' : ∀ om : Om, mbf .join (Str.ofString " ") (.lst (strL (cutG ws none (some (a : Int))) ++ D.str w :: strL (cutG ws (some ((a : Int) + 1)) none))) om = .ok (.str (jn (cutG ws none (some (a : Int)) ++ w :: cutG ws (some ((a : Int) + 1)) none))) om := fun om => by
          have z := jnJ (om := om) (by omega) h'
          simpa using z
        have l0 := cutG_len ls none (some (p : Int))
        have l1 := cutG_len ls (some ((p : Int) + 1)) none
        have w0 := cutG_len ws none (some (a : Int))
        have w1 := cutG_len ws (some ((a : Int) + 1)) none
        have w2 := cutG_len ws (some (a : Int)) none
        by_cases hpl : p < ls.length
        · refine ⟨[.val (.amb 0), .val (.lst (strL (cutG ls none (some (p : Int)) ++ [jn (cutG ws none (some (a : Int)) ++ w :: cutG ws (some ((a : Int) + 1)) none)] ++ cutG ls (some ((p : Int) + 1)) none))), .val (.int (x : Int)), .val (.int (p : Int)), .val (.int (q : Int)), .val (.lst (strL (cutG ws none (some (a : Int)) ++ w :: cutG ws (some ((a : Int) + 1)) none))), .val (.int (a : Int)), .val (.int 7)], om6, ?_, cutG ls none (some (p : Int)) ++ [jn (cutG ws none (some (a : Int)) ++ w :: cutG ws (some ((a : Int) + 1)) none)] ++ cutG ls (some ((p : Int) + 1)) none, _, _, _, _, _, _, rfl, fun t h => ?_, ?_, p6⟩
          · simp [bC, B_Lchanged, e2, e3, hcut, wcut, hJ, hS, e4, e5', hJ', hpl, e6]
            repeat (rw [if_pos (by first | omega | (simp only [List.length_append, List.length_map, List.length_cons, List.length_nil]; omega))]; simp [hcut, wcut, hJ', hpl, e6])
          · simp only [List.mem_append, List.mem_singleton] at h
            rcases h with (h | h) | h
            · exact cm _ _ t h
            · rw [h]; exact tok_of h'
            · exact cm _ _ t h
          · simp only [List.length_append, List.length_singleton]
            omega
        · refine ⟨[.val (.amb 0), .val (.lst (strL (ls))), .val (.int (x : Int)), .val (.int (p : Int)), .val (.int (q : Int)), .val (.lst (strL (cutG ws none (some (a : Int)) ++ w :: cutG ws (some ((a : Int) + 1)) none))), .val (.int (a : Int)), .val (.int 7)], om6, ?_, ls, _, _, _, _, _, _, rfl, ht', by omega, p6⟩
          simp [bC, B_Lchanged, e2, e3, hcut, wcut, hJ, hS, e4, e5', hJ', hpl, e6]
          repeat (rw [if_pos (by first | omega | (simp only [List.length_append, List.length_map, List.length_cons, List.length_nil]; omega))]; simp [hcut, wcut, hJ', hpl, e6])
      · have e5' : callN prog wf m 10 [.amb 0, .int 10] om4 = .ok (.int 8) om5 := e5
        obtain ⟨w, om6, e6, hww, p6⟩ := word_ok (wf := wf) (m := m) (B := bS b) (by omega) (by omega) (by omega) hw.wok p5
        have h' : LnOk (b + 1) (cutG ws none (some (a : Int)) ++ w :: cutG ws (some ((a : Int) + 1)) none) := by
          rw [cutG_take, cutG_from1]
          exact ln_rep hw ha (by have := hww.1; omega) hww.2
        have hJ' : ∀ om : Om, mbf .join (Str.ofString " ") (.lst (strL (cutG ws none (some (a : Int))) ++ D.str w :: strL (cutG ws (some ((a : Int) + 1)) none))) om = .ok (.str (jn (cutG ws none (some (a : Int)) ++ w :: cutG ws (some ((a : Int) + 1)) none))) om := fun om => by
          have z := jnJ (om := om) (by omega) h'
          simpa using z
        have l0 := cutG_len ls none (some (p : Int))
        have l1 := cutG_len ls (some ((p : Int) + 1)) none
        have w0 := cutG_len ws none (some (a : Int))
        have w1 := cutG_len ws (some ((a : Int) + 1)) none
        have w2 := cutG_len ws (some (a : Int)) none
        by_cases hpl : p < ls.length
        · refine ⟨[.val (.amb 0), .val (.lst (strL (cutG ls none (some (p : Int)) ++ [jn (cutG ws none (some (a : Int)) ++ w :: cutG ws (some ((a : Int) + 1)) none)] ++ cutG ls (some ((p : Int) + 1)) none))), .val (.int (x : Int)), .val (.int (p : Int)), .val (.int (q : Int)), .val (.lst (strL (cutG ws none (some (a : Int)) ++ w :: cutG ws (some ((a : Int) + 1)) none))), .val (.int (a : Int)), .val (.int 8)], om6, ?_, cutG ls none (some (p : Int)) ++ [jn (cutG ws none (some (a : Int)) ++ w :: cutG ws (some ((a : Int) + 1)) none)] ++ cutG ls (some ((p : Int) + 1)) none, _, _, _, _, _, _, rfl, fun t h => ?_, ?_, p6⟩
          · simp [bC, B_Lchanged, e2, e3, hcut, wcut, hJ, hS, e4, e5', hJ', hpl, e6]
            repeat (rw [if_pos (by first | omega | (simp only [List.length_append, List.length_map, List.length_cons, List.length_nil]; omega))]; simp [hcut, wcut, hJ', hpl, e6])
          · simp only [List.mem_append, List.mem_singleton] at h
            rcases h with (h | h) | h
            · exact cm _ _ t h
            · rw [h]; exact tok_of h'
            · exact cm _ _ t h
          · simp only [List.length_append, List.length_singleton]
            omega
        · refine ⟨[.val (.amb 0), .val (.lst (strL (ls))), .val (.int (x : Int)), .val (.int (p : Int)), .val (.int (q : Int)), .val (.lst (strL (cutG ws none (some (a : Int)) ++ w :: cutG ws (some ((a : Int) + 1)) none))), .val (.int (a : Int)), .val (.int 8)], om6, ?_, ls, _, _, _, _, _, _, rfl, ht', by omega, p6⟩
          simp [bC, B_Lchanged, e2, e3, hcut, wcut, hJ, hS, e4, e5', hJ', hpl, e6]
          repeat (rw [if_pos (by first | omega | (simp only [List.length_append, List.length_map, List.length_cons, List.length_nil]; omega))]; simp [hcut, wcut, hJ', hpl, e6])
      · have e5' : callN prog wf m 10 [.amb 0, .int 10] om4 = .ok (.int 9) om5 := e5
        obtain ⟨w, om6, e6, hwl3, hwc, p6⟩ := spoilt_ok (wf := wf) (m := m) (B := bS b) (by omega) (by omega) (hw.wok ws[a] (List.getElem_mem ha)) p5
        have hxa : ∀ om : Om, ixD (.lst (strL ws)) (.int (a : Int)) om = .ok (.str ws[a]) om := fun om => x_l (by rw [PD.atI_nat, List.getElem?_map, List.getElem?_eq_getElem ha]; rfl)
        have h' : LnOk (b + 1) (cutG ws none (some (a : Int)) ++ w :: cutG ws (some ((a : Int) + 1)) none) := by
          rw [cutG_take, cutG_from1]
          exact ln_rep hw ha (by omega) hwc
        have hJ' : ∀ om : Om, mbf .join (Str.ofString " ") (.lst (strL (cutG ws none (some (a : Int))) ++ D.str w :: strL (cutG ws (some ((a : Int) + 1)) none))) om = .ok (.str (jn (cutG ws none (some (a : Int)) ++ w :: cutG ws (some ((a : Int) + 1)) none))) om := fun om => by
          have z := jnJ (om := om) (by omega) h'
          simpa using z
        have l0 := cutG_len ls none (some (p : Int))
        have l1 := cutG_len ls (some ((p : Int) + 1)) none
        have w0 := cutG_len ws none (some (a : Int))
        have w1 := cutG_len ws (some ((a : Int) + 1)) none
        have w2 := cutG_len ws (some (a : Int)) none
        by_cases hpl : p < ls.length
        · refine ⟨[.val (.amb 0), .val (.lst (strL (cutG ls none (some (p : Int)) ++ [jn (cutG ws none (some (a : Int)) ++ w :: cutG ws (some ((a : Int) + 1)) none)] ++ cutG ls (some ((p : Int) + 1)) none))), .val (.int (x : Int)), .val (.int (p : Int)), .val (.int (q : Int)), .val (.lst (strL (cutG ws none (some (a : Int)) ++ w :: cutG ws (some ((a : Int) + 1)) none))), .val (.int (a : Int)), .val (.int 9)], om6, ?_, cutG ls none (some (p : Int)) ++ [jn (cutG ws none (some (a : Int)) ++ w :: cutG ws (some ((a : Int) + 1)) none)] ++ cutG ls (some ((p : Int) + 1)) none, _, _, _, _, _, _, rfl, fun t h => ?_, ?_, p6⟩
          · simp [bC, B_Lchanged, e2, e3, hcut, wcut, hJ, hS, e4, e5', hJ', hpl, e6, hxa]
            repeat (rw [if_pos (by first | omega | (simp only [List.length_append, List.length_map, List.length_cons, List.length_nil]; omega))]; simp [hcut, wcut, hJ', hpl, e6, hxa])
          · simp only [List.mem_append, List.mem_singleton] at h
            rcases h with (h | h) | h
            · exact cm _ _ t h
            · rw [h]; exact tok_of h'
            · exact cm _ _ t h
          · simp only [List.length_append, List.length_singleton]
            omega
        · refine ⟨[.val (.amb 0), .val (.lst (strL (ls))), .val (.int (x : Int)), .val (.int (p : Int)), .val (.int (q : Int)), .val (.lst (strL (cutG ws none (some (a : Int)) ++ w :: cutG ws (some ((a : Int) + 1)) none))), .val (.int (a : Int)), .val (.int 9)], om6, ?_, ls, _, _, _, _, _, _, rfl, ht', by omega, p6⟩
          simp [bC, B_Lchanged, e2, e3, hcut, wcut, hJ, hS, e4, e5', hJ', hpl, e6, hxa]
          repeat (rw [if_pos (by first | omega | (simp only [List.length_append, List.length_map, List.length_cons, List.length_nil]; omega))]; simp [hcut, wcut, hJ', hpl, e6, hxa]))
  obtain ⟨sl', om2, ef, ls', c2, c3, c4, c5, c6, c7, rfl, ht, hln, p2⟩ := loop
  rw [List.length_range] at ht hln
  have hn3 : n ≤ 3 := by omega
  have h4 : 4 ^ n ≤ 4 ^ 3 := Nat.pow_le_pow_right (by decide) hn3
  refine ⟨ls', om2, call_ret (d := ⟨2, 8, B_Lchanged, none⟩) rfl rfl rfl ?_, fun t h => (ht t h).up hn3, by omega, p2⟩
  have hr : kR1 (.ok (.int (n : Int)) om1) = .ok ((List.range n).map fun (k : Nat) => .int k) om1 := by
    rw [r_rng1a (by omega) (by omega), Int.toNat_natCast]
  have hs : slots ⟨2, 8, B_Lchanged, none⟩ [.amb 0, .lst (strL ls)] = [.val (.amb 0), .val (.lst (strL ls)), .no, .no, .no, .no, .no, .no] := rfl
  rw [hs]
  have hB : B_Lchanged = .seq (.fo (.one 2) (.rng1 (.call 10 [] (.cons (.v 0) (.cons (.k (.int 4)) .nil)))) bC) (.seq (.ret (.v 1)) .skip) := rfl
  rw [hB]
  simp [-bC, e1, hr, ef]
end
end K81

set_option Elab.async false
set_option linter.all false
set_option maxRecDepth 100000
set_option maxHeartbeats 2000000
/-! K81N: numbers of any word; a signal's words. -/
namespace K81
open PySem L2 PD
theorem lt_one {T : Tb} {om : Om} {a c : Nat} : cmp T .le (.str ⟨#[a]⟩) (.str ⟨#[c]⟩) om = .ok (decide (a ≤ c)) om := by
  show opt (some (!decide ([c] < [a]))) om = _
  have e : decide ([c] < [a]) = decide (c < a) := by
    by_cases h : c < a
    · have h' : [c] < [a] := List.Lex.rel h
      rw [decide_eq_true h, decide_eq_true h']
    · rw [decide_eq_false h, decide_eq_false]
      intro z
      cases z with
      | rel h' => exact h h'
      | cons h' => exact nomatch h'
  rw [e]
  show Rs.ok _ _ = _
  by_cases h : c < a
  · rw [decide_eq_true h, decide_eq_false (by omega)]
    rfl
  · rw [decide_eq_false h, decide_eq_true (by omega)]
    rfl
theorem bls_map (l : List Bool) : blsD (l.map D.bl) = some l := by
  induction l with
  | nil => rfl
  | cons a l ih =>
    show (blsD (l.map D.bl)).map (a :: ·) = _
    rw [ih]
    rfl
theorem b_allm {T : Tb} {om : Om} {l : List Bool} : biD T .all (.lst (l.map D.bl)) om = .ok (.bl (l.all id)) om := by
  show (match blsD (l.map D.bl) with
    | some bs => Rs.ok (D.bl (bs.all id)) om
    | none => .stuck) = _
  rw [bls_map]
/-- digits only -/
def Dig (w : Str) : Prop := ∀ c ∈ w.cps.toList, 48 ≤ c ∧ c ≤ 57
theorem isN_of {w : Str} (h0 : 0 < w.length) (h1 : w.length ≤ 60) (hd : Dig w) (hz : w.cps.toList.head? ≠ some 48 ∨ w.length = 1) : IsN w := by
  have hl : w.cps.toList.length = w.length := by simp [Str.length]
  obtain ⟨k, hk⟩ := numL_of w.cps.toList (fun e => by rw [e] at hl; simp at hl; omega) hd (by rw [hl]; exact hz)
  refine ⟨k, TL.ext_tl ?_, h1⟩
  rw [TL.tl, TL.tl, tl_n, hk]
theorem dig_of {w : Str} (h : IsN w) : 0 < w.length ∧ w.length ≤ 60 ∧ Dig w ∧ (w.cps.toList.head? ≠ some 48 ∨ w.length = 1) := by
  obtain ⟨k, rfl, h1⟩ := h
  refine ⟨?_, h1, fun c hc => ?_, ?_⟩
  · rw [TL.len_tl, TL.tl]
    exact List.length_pos_iff.mpr (num_ne k)
  · rw [tl_n] at hc
    exact TL.numL_digits k c hc
  · by_cases e : (num k).cps.toList.head? = some 48
    · right
      have : k = 0 := num_zero k (by rw [← tl_n]; exact e)
      subst this
      rfl
    · exact .inl e
section
variable {wf m : Nat} {om : Om} {B : Nat} {w : Str}
theorem w_hd (h : 0 < w.length) : ∃ c r, w.cps.toList = c :: r := by
  cases q : w.cps.toList with
  | nil =>
    have : w.cps.toList.length = w.length := by simp [Str.length]
    rw [q] at this
    simp at this
    omega
  | cons c r => exact ⟨c, r, rfl⟩
theorem ix0 {c : Nat} {r : List Nat} (hl : w.length ≤ 1000000) (h : w.cps.toList = c :: r) : ixD (.str w) (.int 0) om = .ok (.str ⟨#[c]⟩) om := by
  show (if w.length ≤ 1000000 then match atI w.cps.toList 0 with | some c => Rs.ok (D.str ⟨#[c]⟩) om | none => .stuck else .stuck) = _
  rw [if_pos hl, h, atI0]
theorem one_eq {a c : Nat} : ((⟨#[a]⟩ : Str) == (⟨#[c]⟩ : Str)) = decide (a = c) := by
  by_cases h : a = c
  · subst h
    simp
  · rw [decide_eq_false h]
    cases q : ((⟨#[a]⟩ : Str) == (⟨#[c]⟩ : Str)) with
    | false => rfl
    | true =>
      have e1 : (⟨#[a]⟩ : Str) = ⟨#[c]⟩ := eq_of_beq q
      have e2 : [a] = [c] := congrArg (fun s : Str => s.cps.toList) e1
      exact absurd (List.singleton_inj.mp e2) h
theorem zero_eq : Str.ofString "0" = (⟨#[48]⟩ : Str) := rfl
theorem w_zero {c : Nat} {r : List Nat} (h : w.cps.toList = c :: r) (hc : c = 48) : (w == Str.ofString "0") = decide (w.length = 1) := by
  have hl : w.cps.toList.length = w.length := by simp [Str.length]
  by_cases h1 : w.length = 1
  · rw [decide_eq_true h1]
    have hr : r = [] := by
      rw [h, List.length_cons, h1] at hl
      exact List.eq_nil_of_length_eq_zero (by omega)
    subst hr hc
    have e : w = Str.ofString "0" := TL.ext_tl h
    rw [e]
    exact beq_self_eq_true _
  · rw [decide_eq_false h1]
    cases q : (w == Str.ofString "0") with
    | false => rfl
    | true => exact absurd (by rw [eq_of_beq q]; rfl) h1
theorem cok {c : Nat} (hc : c < 0x110000) : PyData.strOk ⟨#[c]⟩ = true := sok_iff.mpr fun x hx => by
  have hx' : x ∈ [c] := hx
  rw [List.mem_singleton.mp hx']
  exact hc
theorem zok : PyData.strOk (Str.ofString "0") = true := strOk_lit [48] rfl rfl
theorem whole_num (hm : 0 < m) {k : Nat} (h : Num w k) : callN prog wf m 0 [.str w] om = .ok (.int (k : Int)) om := by
  obtain ⟨m, rfl⟩ : ∃ j, m = j + 1 := ⟨m - 1, by omega⟩
  obtain ⟨rfl, h1⟩ := h
  exact call_ret (d := ⟨1, 2, B_whole, none⟩) rfl rfl rfl (whole_ok h1)
theorem whole_non (hm : 0 < m) (hB : B ≤ 300000) (hw : WOk B w) (h : ¬ IsN w) : callN prog wf m 0 [.str w] om = .ok .non om := by
  obtain ⟨m, rfl⟩ : ∃ j, m = j + 1 := ⟨m - 1, by omega⟩
  refine call_ret (d := ⟨1, 2, B_whole, none⟩) rfl rfl rfl ?_
  have hl := hw.1
  have hl6 : w.length ≤ 1000000 := by omega
  have b1 : ∀ om : Om, biD (tab prog wf m) .len (.str w) om = .ok (.int w.length) om := fun om => b_lenstr hl6
  have hs : slots ⟨1, 2, B_whole, none⟩ [.str w] = [.val (.str w), .no] := rfl
  rw [hs]
  have hc : cmpG (tab prog wf m) (.k (.bl true)) (.cm .inn (.v 1) (.k (.str (Str.ofString "0123456789")))) (.one 1) [.val (.str w), .no] (w.cps.toList.map fun c => .str ⟨#[c]⟩) om = .ok ((w.cps.toList.map fun c => decide (c ∈ [48, 49, 50, 51, 52, 53, 54, 55, 56, 57])).map D.bl) om := by
    rw [List.map_map]
    exact comp_map (T := tab prog wf m) (sl := [.val (.str w), .no]) (om := om) (i := 1) (cond := .k (.bl true)) (elt := .cm .inn (.v 1) (.k (.str (Str.ofString "0123456789")))) (f := fun c : Nat => .str ⟨#[c]⟩) (g := fun c => .bl (decide (c ∈ [48, 49, 50, 51, 52, 53, 54, 55, 56, 57]))) w.cps.toList (fun c hc => by
      refine ⟨by simp, ?_⟩
      simp only [r_cm, List.set_cons_succ, List.set_cons_zero]
      rw [r_v (d := .str ⟨#[c]⟩) rfl, r_cm1, r_k, r_cm2, in_dig, r_bl])
  have hl2 : w.cps.toList.length ≤ 1000000 := by
    rw [← TL.len_tl]
    omega
  have hall1 : Dig w → ((w.cps.toList.map fun c => decide (c ∈ [48, 49, 50, 51, 52, 53, 54, 55, 56, 57])).all id) = true := fun z => by
    rw [List.all_eq_true]
    intro b hb
    obtain ⟨c, hc, rfl⟩ := List.mem_map.mp hb
    have := z c hc
    simp
    omega
  have hall2 : ¬ Dig w → ((w.cps.toList.map fun c => decide (c ∈ [48, 49, 50, 51, 52, 53, 54, 55, 56, 57])).all id) = false := fun z => by
    cases q : ((w.cps.toList.map fun c => decide (c ∈ [48, 49, 50, 51, 52, 53, 54, 55, 56, 57])).all id) with
    | false => rfl
    | true =>
      refine absurd (fun c hc => ?_) z
      have := List.all_eq_true.mp q _ (List.mem_map.mpr ⟨c, hc, rfl⟩)
      simp at this
      omega
  have hlen0 : ((0 : Int) < (w.length : Int)) ↔ 0 < w.length := by omega
  have hitm : ∀ om : Om, kIt (.ok (.str w) om) = .ok (w.cps.toList.map fun c => .str ⟨#[c]⟩) om := fun om => rfl
  have hv : ∀ om : Om, evE (tab prog wf m) (.v 0) [.val (.str w), .no] om = .ok (.str w) om := fun om => r_v rfl
  have hset : ([.val (.str w), .no] : Sl).set 1 .no = [.val (.str w), .no] := rfl
  by_cases h0 : 0 < w.length ∧ w.length ≤ 60
  · have c1 : decide ((0 : Int) < (w.length : Int)) = true := decide_eq_true (by omega)
    have c2 : decide ((w.length : Int) ≤ 60) = true := decide_eq_true (by omega)
    by_cases hd : Dig w
    · obtain ⟨c, r, hcr⟩ := w_hd h0.1
      have hz : w.cps.toList.head? = some 48 ∧ w.length ≠ 1 := by
        constructor
        · cases Classical.em (w.cps.toList.head? = some 48) with
          | inl h => exact h
          | inr h2 => exact absurd (isN_of h0.1 h0.2 hd (.inl h2)) h
        · exact fun h2 => h (isN_of h0.1 h0.2 hd (.inr h2))
      have hc48 : c = 48 := by
        have := hz.1
        rw [hcr] at this
        exact Option.some.inj this
      have hx := fun om => ix0 (om := om) hl6 hcr
      have e1 : ((⟨#[c]⟩ : Str) == Str.ofString "0") = true := by
        rw [zero_eq, one_eq]
        exact decide_eq_true hc48
      have e2 : (w == Str.ofString "0") = false := by
        rw [w_zero hcr hc48]
        exact decide_eq_false hz.2
      have hco : PyData.strOk ⟨#[c]⟩ = true := cok (by omega)
      unfold B_whole
      rw [z_seq, z_ite, r_or, r_no, r_ch, r_k, r_ch1, r_bi, hv, r_bi1, b1, r_ch2, o_lt, c1, r_ch3, r_k, r_cm2, o_le, c2, r_bl, r_no1]
      simp only [Bool.not_true]
      rw [r_or2, r_no, r_bi, r_comp, r_itl, hv, hitm, r_comp1, if_pos (by rw [List.length_map]; exact hl2), wi_1, hset, hc, r_comp2, r_bi1, b_allm, hall1 hd, r_no1]
      simp only [Bool.not_true]
      rw [r_tr1, z_ite2, z_skip, z_seq1, z_seq, z_ret, r_ite, r_an, r_cm, r_ix, hv, r_ix1, r_k, r_ix2, hx, r_cm1, r_k, r_cm2, o_eqs hco zok, e1, r_bl, r_an1, r_cm, hv, r_cm1, r_k, r_cm2, o_nes hw.ok zok, e2]
      simp only [Bool.not_false]
      rw [r_bl, r_tr1, r_ite1, r_k, z_ret1, z_seq2]
    · unfold B_whole
      rw [z_seq, z_ite, r_or, r_no, r_ch, r_k, r_ch1, r_bi, hv, r_bi1, b1, r_ch2, o_lt, c1, r_ch3, r_k, r_cm2, o_le, c2, r_bl, r_no1]
      simp only [Bool.not_true]
      rw [r_or2, r_no, r_bi, r_comp, r_itl, hv, hitm, r_comp1, if_pos (by rw [List.length_map]; exact hl2), wi_1, hset, hc, r_comp2, r_bi1, b_allm, hall2 hd, r_no1]
      simp only [Bool.not_false]
      rw [r_tr1, z_ite1, z_seq, z_ret, r_k, z_ret1, z_seq2, z_seq2]
  · by_cases h1 : 0 < w.length
    · have c1 : decide ((0 : Int) < (w.length : Int)) = true := decide_eq_true (by omega)
      have c2 : decide ((w.length : Int) ≤ 60) = false := decide_eq_false (by omega)
      unfold B_whole
      rw [z_seq, z_ite, r_or, r_no, r_ch, r_k, r_ch1, r_bi, hv, r_bi1, b1, r_ch2, o_lt, c1, r_ch3, r_k, r_cm2, o_le, c2, r_bl, r_no1]
      simp only [Bool.not_false]
      rw [r_or1, r_tr1, z_ite1, z_seq, z_ret, r_k, z_ret1, z_seq2, z_seq2]
    · have c1 : decide ((0 : Int) < (w.length : Int)) = false := decide_eq_false (by omega)
      unfold B_whole
      rw [z_seq, z_ite, r_or, r_no, r_ch, r_k, r_ch1, r_bi, hv, r_bi1, b1, r_ch2, o_lt, c1, r_ch4, r_no1]
      simp only [Bool.not_false]
      rw [r_or1, r_tr1, z_ite1, z_seq, z_ret, r_k, z_ret1, z_seq2, z_seq2]
/-- the law's own reading of digits -/
theorem digits_num (hm : 0 < m) {k : Nat} (h : Num w k) : ∃ z : Int, callN prog wf m 18 [.str w] om = .ok (.int z) om := by
  obtain ⟨m, rfl⟩ : ∃ j, m = j + 1 := ⟨m - 1, by omega⟩
  obtain ⟨h0, h1, hd, hz⟩ := dig_of ⟨k, h⟩
  obtain ⟨rfl, _⟩ := h
  refine ⟨k, call_ret (d := ⟨1, 2, B_Ldigits, none⟩) rfl rfl rfl ?_⟩
  have hl6 : (num k).length ≤ 1000000 := by omega
  have b1 : ∀ om : Om, biD (tab prog wf m) .len (.str (num k)) om = .ok (.int (num k).length) om := fun om => b_lenstr hl6
  have hs : slots ⟨1, 2, B_Ldigits, none⟩ [.str (num k)] = [.val (.str (num k)), .no] := rfl
  rw [hs]
  obtain ⟨c, r, hcr⟩ := w_hd h0
  have hx := fun om => ix0 (om := om) hl6 hcr
  have hco : PyData.strOk ⟨#[c]⟩ = true := cok (by have := hd c (by rw [hcr]; exact List.mem_cons_self); omega)
  have c1 : decide ((0 : Int) < ((num k).length : Int)) = true := decide_eq_true (by omega)
  have c2 : decide (((num k).length : Int) < 61) = true := decide_eq_true (by omega)
  have loop := for_all (T := tab prog wf m) (i := 1) (sl := [.val (.str (num k)), .no]) (om := om) (f := fun c : Nat => D.str ⟨#[c]⟩)
    (b := (.seq (.ite (.no (.ch .le .le (.k (.str (Str.ofString "0"))) (.v 1) (.k (.str (Str.ofString "9"))))) (.seq (.ret (.k .non)) .skip) .skip) .skip)) (num k).cps.toList
    (fun _ sl om' => om' = om ∧ ∃ c1, sl = [.val (.str (num k)), c1]) ⟨rfl, .no, rfl⟩
    (by
      rintro done x rest hall sl om' ⟨rfl, c1, rfl⟩
      have hx : x ∈ (num k).cps.toList := by rw [hall]; simp
      obtain ⟨g1, g2⟩ := hd x hx
      refine ⟨_, _, ?_, rfl, .val (.str ⟨#[x]⟩), rfl⟩
      have z1 : ∀ om : Om, cmp (tab prog wf m) .le (.str (Str.ofString "0")) (.str ⟨#[x]⟩) om = .ok true om := fun om => by
        rw [zero_eq, lt_one, decide_eq_true g1]
      have z2 : ∀ om : Om, cmp (tab prog wf m) .le (.str ⟨#[x]⟩) (.str (Str.ofString "9")) om = .ok true om := fun om => by
        rw [show Str.ofString "9" = (⟨#[57]⟩ : Str) from rfl, lt_one, decide_eq_true g2]
      simp [z1, z2])
  obtain ⟨sl', om', ef, rfl, c1', rfl⟩ := loop
  have hlast : kTr (kAn (tab prog wf m) (.ok (.bl ((⟨#[c]⟩ : Str) == Str.ofString "0")) om') (.cm .gt (.bi .len (.v 0)) (.k (.int 1))) [.val (.str (num k)), c1']) = .ok false om' := by
    rw [zero_eq, one_eq]
    by_cases e : c = 48
    · have h1' : (num k).length = 1 := by
        rcases hz with hz | hz
        · rw [hcr, e] at hz
          exact absurd rfl hz
        · exact hz
      rw [decide_eq_true e]
      simp [b1, h1']
    · rw [decide_eq_false e]
      simp
  have hbi : biD (tab prog wf m) .int (.str (num k)) om' = .ok (.int (k : Int)) om' := b_int (by omega)
  have hitm : ∀ om : Om, kIt (.ok (.str (num k)) om) = .ok ((num k).cps.toList.map fun c => .str ⟨#[c]⟩) om := fun om => rfl
  unfold B_Ldigits
  rw [z_seq, z_ite, r_no, r_ch, r_k, r_ch1, r_bi, r_v rfl, r_bi1, b1, r_ch2, o_lt, c1, r_ch3, r_k, r_cm2, o_lt, c2, r_bl, r_no1]
  simp only [Bool.not_true, r_tr1, z_ite2, z_skip, z_seq1]
  rw [z_seq, z_fo, r_itl, r_v rfl, hitm, z_fo1, ef, z_seq1, z_seq, z_ite, r_an, r_cm, r_ix, r_v rfl, r_ix1, r_k, r_ix2, hx, r_cm1, r_k, r_cm2, o_eqs hco zok, r_bl, hlast, z_ite2, z_skip, z_seq1, z_seq, z_ret, r_bi, r_v rfl, r_bi1, hbi, z_ret1, z_seq2]
def B_dg : S := (.seq (.ite (.no (.ch .le .le (.k (.str (Str.ofString "0"))) (.v 1) (.k (.str (Str.ofString "9"))))) (.seq (.ret (.k .non)) .skip) .skip) .skip)
theorem dig_loop {T : Tb} : ∀ (l : List Nat) (c1 : Cell), (∃ c1', forG T B_dg (.one 1) (l.map fun c => .str ⟨#[c]⟩) [.val (.str w), c1] om = .next [.val (.str w), c1'] om ∧ ∀ c ∈ l, 48 ≤ c ∧ c ≤ 57) ∨ (forG T B_dg (.one 1) (l.map fun c => .str ⟨#[c]⟩) [.val (.str w), c1] om = .ret .non om ∧ ¬ ∀ c ∈ l, 48 ≤ c ∧ c ≤ 57)
  | [], c1 => .inl ⟨c1, rfl, fun _ h => (nomatch h)⟩
  | x :: l, c1 => by
    have z1 : ∀ om : Om, cmp T .le (.str (Str.ofString "0")) (.str ⟨#[x]⟩) om = .ok (decide (48 ≤ x)) om := fun om => by
      rw [zero_eq, lt_one]
    have z2 : ∀ om : Om, cmp T .le (.str ⟨#[x]⟩) (.str (Str.ofString "9")) om = .ok (decide (x ≤ 57)) om := fun om => by
      rw [show Str.ofString "9" = (⟨#[57]⟩ : Str) from rfl, lt_one]
    rw [List.map_cons, f_cons]
    simp only [List.set_cons_succ, List.set_cons_zero]
    by_cases g1 : 48 ≤ x
    · by_cases g2 : x ≤ 57
      · have e : evS T B_dg [.val (.str w), .val (.str ⟨#[x]⟩)] om = .next [.val (.str w), .val (.str ⟨#[x]⟩)] om := by
          simp [B_dg, z1, z2, g1, g2]
        rw [e, f_n]
        rcases dig_loop l (.val (.str ⟨#[x]⟩)) with ⟨c1', h1, h2⟩ | ⟨h1, h2⟩
        · exact .inl ⟨c1', h1, fun c hc => by
            rcases List.mem_cons.mp hc with rfl | hc
            · exact ⟨g1, g2⟩
            · exact h2 c hc⟩
        · exact .inr ⟨h1, fun z => h2 fun c hc => z c (List.mem_cons_of_mem _ hc)⟩
      · have e : evS T B_dg [.val (.str w), .val (.str ⟨#[x]⟩)] om = .ret .non om := by
          simp [B_dg, z1, z2, g1, g2]
        rw [e, f_r]
        exact .inr ⟨rfl, fun z => g2 (z x List.mem_cons_self).2⟩
    · have e : evS T B_dg [.val (.str w), .val (.str ⟨#[x]⟩)] om = .ret .non om := by
        simp [B_dg, z1, z2, g1]
      rw [e, f_r]
      exact .inr ⟨rfl, fun z => g1 (z x List.mem_cons_self).1⟩
theorem digits_non (hm : 0 < m) (hB : B ≤ 300000) (hw : WOk B w) (h : ¬ IsN w) : callN prog wf m 18 [.str w] om = .ok .non om := by
  obtain ⟨m, rfl⟩ : ∃ j, m = j + 1 := ⟨m - 1, by omega⟩
  refine call_ret (d := ⟨1, 2, B_Ldigits, none⟩) rfl rfl rfl ?_
  have hl := hw.1
  have hl6 : w.length ≤ 1000000 := by omega
  have b1 : ∀ om : Om, biD (tab prog wf m) .len (.str w) om = .ok (.int w.length) om := fun om => b_lenstr hl6
  have hs : slots ⟨1, 2, B_Ldigits, none⟩ [.str w] = [.val (.str w), .no] := rfl
  have hv : ∀ (c : Cell) (om : Om), evE (tab prog wf m) (.v 0) [.val (.str w), c] om = .ok (.str w) om := fun c om => r_v rfl
  have hitm : ∀ om : Om, kIt (.ok (.str w) om) = .ok (w.cps.toList.map fun c => .str ⟨#[c]⟩) om := fun om => rfl
  rw [hs]
  unfold B_Ldigits
  by_cases h1 : 0 < w.length
  · have c1 : decide ((0 : Int) < (w.length : Int)) = true := decide_eq_true (by omega)
    rw [z_seq, z_ite, r_no, r_ch, r_k, r_ch1, r_bi, hv, r_bi1, b1, r_ch2, o_lt, c1, r_ch3, r_k, r_cm2, o_lt]
    by_cases h2 : w.length < 61
    · rw [decide_eq_true (show (w.length : Int) < 61 by omega), r_bl, r_no1]
      simp only [Bool.not_true]
      rw [r_tr1, z_ite2, z_skip, z_seq1, z_seq, z_fo, r_itl, hv, hitm, z_fo1]
      rw [show (S.seq (.ite (.no (.ch .le .le (.k (.str (Str.ofString "0"))) (.v 1) (.k (.str (Str.ofString "9"))))) (.seq (.ret (.k .non)) .skip) .skip) .skip) = B_dg from rfl]
      rcases dig_loop (T := tab prog wf m) (om := om) (w := w) w.cps.toList .no with ⟨c1', e1, hd⟩ | ⟨e1, hd⟩
      · rw [e1, z_seq1]
        obtain ⟨c, r, hcr⟩ := w_hd h1
        have hz1 : w.cps.toList.head? = some 48 := by
          cases Classical.em (w.cps.toList.head? = some 48) with
          | inl h => exact h
          | inr h3 => exact absurd (isN_of h1 (by omega) hd (.inl h3)) h
        have hz2 : w.length ≠ 1 := fun h3 => h (isN_of h1 (by omega) hd (.inr h3))
        have hc48 : c = 48 := by
          rw [hcr] at hz1
          exact Option.some.inj hz1
        have hx := fun om => ix0 (om := om) hl6 hcr
        have e1 : ((⟨#[c]⟩ : Str) == Str.ofString "0") = true := by
          rw [zero_eq, one_eq]
          exact decide_eq_true hc48
        have hco : PyData.strOk ⟨#[c]⟩ = true := cok (by omega)
        rw [z_seq, z_ite, r_an, r_cm, r_ix, hv, r_ix1, r_k, r_ix2, hx, r_cm1, r_k, r_cm2, o_eqs hco zok, e1, r_bl, r_an1, r_cm, r_bi, hv, r_bi1, b1, r_cm1, r_k, r_cm2, o_gt, decide_eq_true (show (1 : Int) < (w.length : Int) by omega), r_bl, r_tr1, z_ite1, z_seq, z_ret, r_k, z_ret1, z_seq2, z_seq2]
      · rw [e1, z_seq2]
    · rw [decide_eq_false (show ¬ (w.length : Int) < 61 by omega), r_bl, r_no1]
      simp only [Bool.not_false]
      rw [r_tr1, z_ite1, z_seq, z_ret, r_k, z_ret1, z_seq2, z_seq2]
  · rw [z_seq, z_ite, r_no, r_ch, r_k, r_ch1, r_bi, hv, r_bi1, b1, r_ch2, o_lt, decide_eq_false (by omega), r_ch4, r_no1]
    simp only [Bool.not_false]
    rw [r_tr1, z_ite1, z_seq, z_ret, r_k, z_ret1, z_seq2, z_seq2]
/-! ### the law's signal -/
def B_sr : S := match B_Lsignal_right with
  | .seq _ (.seq _ (.seq (.fo _ _ b) _)) => b
  | _ => .skip
theorem lpok : PyData.strOk lp = true := strOk_lit [40] rfl rfl
theorem rpok : PyData.strOk rp = true := strOk_lit [41] rfl rfl
theorem dec_eq {a c : Str} : (a == c) = decide (a = c) := by
  by_cases h : a = c
  · rw [h, decide_eq_true rfl]
    exact beq_self_eq_true _
  · rw [decide_eq_false h]
    cases q : (a == c) with
    | false => rfl
    | true => exact absurd (eq_of_beq q) h
section
variable {ws : List Str}
/-- one word of a signal -/
theorem sr_step (hm : 0 < m) (hB : B ≤ 300000) {x : Str} (hx : WOk B x) {d : Nat} {c3 : Cell} {r : List Str} :
    (acc d (x :: r) → ∃ d' : Nat, evS (tab prog wf m) B_sr [.val (.lst (strL ws)), .val (.int (d : Int)), .val (.bl false), .val (.str x)] om = .next [.val (.lst (strL ws)), .val (.int (d' : Int)), .val (.bl (decide (d' = 0))), .val (.str x)] om ∧ (if d' = 0 then r = [] else acc d' r)) ∧
    (¬ acc d (x :: r) → evS (tab prog wf m) B_sr [.val (.lst (strL ws)), .val (.int (d : Int)), .val (.bl false), .val (.str x)] om = .ret (.bl false) om ∨ ∃ d' : Nat, evS (tab prog wf m) B_sr [.val (.lst (strL ws)), .val (.int (d : Int)), .val (.bl false), .val (.str x)] om = .next [.val (.lst (strL ws)), .val (.int (d' : Int)), .val (.bl (decide (d' = 0))), .val (.str x)] om ∧ ¬ (if d' = 0 then r = [] else acc d' r)) := by
  have q1 := fun om => o_eqs (T := tab prog wf m) (om := om) hx.ok lpok
  have q2 := fun om => o_eqs (T := tab prog wf m) (om := om) hx.ok rpok
  by_cases h1 : x = lp
  · have e : evS (tab prog wf m) B_sr [.val (.lst (strL ws)), .val (.int (d : Int)), .val (.bl false), .val (.str x)] om = .next [.val (.lst (strL ws)), .val (.int ((d + 1 : Nat) : Int)), .val (.bl (decide (d + 1 = 0))), .val (.str x)] om := by
      have hz : ¬ (d : Int) + 1 = 0 := by omega
      subst h1
      simp [B_sr, B_Lsignal_right, q1, hz]
    rw [acc_cons, if_pos h1]
    exact ⟨fun h => ⟨d + 1, e, by rw [if_neg (by omega)]; exact h⟩, fun h => .inr ⟨d + 1, e, by rw [if_neg (by omega)]; exact h⟩⟩
  · have q1' : (x == lp) = false := by rw [dec_eq, decide_eq_false h1]
    by_cases h2 : x = rp
    · cases d with
      | zero =>
        have e : evS (tab prog wf m) B_sr [.val (.lst (strL ws)), .val (.int ((0 : Nat) : Int)), .val (.bl false), .val (.str x)] om = .ret (.bl false) om := by
          have hb : (rp == lp) = false := by rw [← h2]; exact q1'
          subst h2
          simp [B_sr, B_Lsignal_right, q1, q2, hb]
        rw [acc_cons, if_neg h1, if_pos h2]
        exact ⟨fun h => h.elim, fun _ => .inl e⟩
      | succ d =>
        have e : evS (tab prog wf m) B_sr [.val (.lst (strL ws)), .val (.int ((d + 1 : Nat) : Int)), .val (.bl false), .val (.str x)] om = .next [.val (.lst (strL ws)), .val (.int (d : Int)), .val (.bl (decide (d = 0))), .val (.str x)] om := by
          have hb : (rp == lp) = false := by rw [← h2]; exact q1'
          have hz : (d : Int) + 1 - 1 = (d : Int) := by omega
          have hz2 : ¬ (d : Int) < 0 := by omega
          subst h2
          simp [B_sr, B_Lsignal_right, q1, q2, hb, hz, hz2]
        have hacc : acc (d + 1) (x :: r) ↔ (if d = 0 then r = [] else acc d r) := by
          rw [acc_cons, if_neg h1, if_pos h2]
          cases d with
          | zero => simp
          | succ d => simp
        rw [hacc]
        exact ⟨fun h => ⟨d, e, h⟩, fun h => .inr ⟨d, e, h⟩⟩
    · have q2' : (x == rp) = false := by rw [dec_eq, decide_eq_false h2]
      rw [acc_cons, if_neg h1, if_neg h2]
      by_cases h3 : IsN x
      · obtain ⟨k, hk⟩ := h3
        obtain ⟨z, hz⟩ := digits_num (wf := wf) (m := m) (om := om) hm hk
        have e : evS (tab prog wf m) B_sr [.val (.lst (strL ws)), .val (.int (d : Int)), .val (.bl false), .val (.str x)] om = .next [.val (.lst (strL ws)), .val (.int (d : Int)), .val (.bl (decide (d = 0))), .val (.str x)] om := by
          simp [B_sr, B_Lsignal_right, q1, q2, q1', q2', hz]
        exact ⟨fun h => ⟨d, e, h.2⟩, fun h => .inr ⟨d, e, fun h' => h ⟨⟨k, hk⟩, h'⟩⟩⟩
      · have hz := digits_non (wf := wf) (m := m) (om := om) hm hB hx h3
        have e : evS (tab prog wf m) B_sr [.val (.lst (strL ws)), .val (.int (d : Int)), .val (.bl false), .val (.str x)] om = .ret (.bl false) om := by
          simp [B_sr, B_Lsignal_right, q1, q2, q1', q2', hz]
        exact ⟨fun h => absurd h.1 h3, fun _ => .inl e⟩
theorem sr_loop (hm : 0 < m) (hB : B ≤ 300000) : ∀ (r : List Str) (d : Nat) (c3 : Cell), (∀ x ∈ r, WOk B x) →
    (acc d r → ∃ (d' : Nat) (c3' : Cell), forG (tab prog wf m) B_sr (.one 3) (strL r) [.val (.lst (strL ws)), .val (.int (d : Int)), .val (.bl false), c3] om = .next [.val (.lst (strL ws)), .val (.int (d' : Int)), .val (.bl true), c3'] om) ∧
    (¬ acc d r → forG (tab prog wf m) B_sr (.one 3) (strL r) [.val (.lst (strL ws)), .val (.int (d : Int)), .val (.bl false), c3] om = .ret (.bl false) om ∨ ∃ (d' : Nat) (c3' : Cell), forG (tab prog wf m) B_sr (.one 3) (strL r) [.val (.lst (strL ws)), .val (.int (d : Int)), .val (.bl false), c3] om = .next [.val (.lst (strL ws)), .val (.int (d' : Int)), .val (.bl false), c3'] om)
  | [], d, c3, _ => by
    rw [acc_nil]
    exact ⟨fun h => h.elim, fun _ => .inr ⟨d, c3, rfl⟩⟩
  | x :: r, d, c3, hr => by
    obtain ⟨s1, s2⟩ := sr_step (wf := wf) (m := m) (om := om) (ws := ws) hm hB (hr x List.mem_cons_self) (d := d) (c3 := c3) (r := r)
    have hr' : ∀ y ∈ r, WOk B y := fun y hy => hr y (List.mem_cons_of_mem _ hy)
    have go : ∀ d' : Nat, evS (tab prog wf m) B_sr [.val (.lst (strL ws)), .val (.int (d : Int)), .val (.bl false), .val (.str x)] om = .next [.val (.lst (strL ws)), .val (.int (d' : Int)), .val (.bl (decide (d' = 0))), .val (.str x)] om →
        ((if d' = 0 then r = [] else acc d' r) → ∃ (d' : Nat) (c3' : Cell), forG (tab prog wf m) B_sr (.one 3) (strL (x :: r)) [.val (.lst (strL ws)), .val (.int (d : Int)), .val (.bl false), c3] om = .next [.val (.lst (strL ws)), .val (.int (d' : Int)), .val (.bl true), c3'] om) ∧
        (¬ (if d' = 0 then r = [] else acc d' r) → forG (tab prog wf m) B_sr (.one 3) (strL (x :: r)) [.val (.lst (strL ws)), .val (.int (d : Int)), .val (.bl false), c3] om = .ret (.bl false) om ∨ ∃ (d' : Nat) (c3' : Cell), forG (tab prog wf m) B_sr (.one 3) (strL (x :: r)) [.val (.lst (strL ws)), .val (.int (d : Int)), .val (.bl false), c3] om = .next [.val (.lst (strL ws)), .val (.int (d' : Int)), .val (.bl false), c3'] om) := by
      intro d' e
      have e0 : forG (tab prog wf m) B_sr (.one 3) (strL (x :: r)) [.val (.lst (strL ws)), .val (.int (d : Int)), .val (.bl false), c3] om = forG (tab prog wf m) B_sr (.one 3) (strL r) [.val (.lst (strL ws)), .val (.int (d' : Int)), .val (.bl (decide (d' = 0))), .val (.str x)] om := by
        rw [show strL (x :: r) = D.str x :: strL r from rfl, f_cons]
        simp only [List.set_cons_succ, List.set_cons_zero]
        rw [e, f_n]
      rw [e0]
      by_cases hd : d' = 0
      · subst hd
        rw [if_pos rfl, decide_eq_true rfl]
        cases r with
        | nil => exact ⟨fun _ => ⟨0, _, rfl⟩, fun h => absurd rfl h⟩
        | cons y r =>
          refine ⟨(fun h => nomatch h), fun _ => .inl ?_⟩
          rw [show strL (y :: r) = D.str y :: strL r from rfl, f_cons]
          simp only [List.set_cons_succ, List.set_cons_zero]
          have e2 : evS (tab prog wf m) B_sr [.val (.lst (strL ws)), .val (.int ((0 : Nat) : Int)), .val (.bl true), .val (.str y)] om = .ret (.bl false) om := by
            simp [B_sr, B_Lsignal_right]
          rw [e2, f_r]
      · rw [if_neg hd, decide_eq_false hd]
        exact sr_loop hm hB r d' _ hr'
    constructor
    · intro h
      obtain ⟨d', e, h'⟩ := s1 h
      exact (go d' e).1 h'
    · intro h
      rcases s2 h with e | ⟨d', e, h'⟩
      · left
        rw [show strL (x :: r) = D.str x :: strL r from rfl, f_cons]
        simp only [List.set_cons_succ, List.set_cons_zero]
        rw [e, f_r]
      · exact (go d' e).2 h'
open Classical in
theorem signal_right (hm : 1 < m) (hB : B ≤ 300000) (hw : ∀ x ∈ ws, WOk B x) : callN prog wf m 19 [.lst (strL ws)] om = .ok (.bl (decide (SigL ws))) om := by
  obtain ⟨m, rfl⟩ : ∃ j, m = j + 1 := ⟨m - 1, by omega⟩
  refine call_ret (d := ⟨1, 4, B_Lsignal_right, none⟩) rfl rfl rfl ?_
  have hs : slots ⟨1, 4, B_Lsignal_right, none⟩ [.lst (strL ws)] = [.val (.lst (strL ws)), .no, .no, .no] := rfl
  rw [hs]
  have hb : B_Lsignal_right = .seq (.set 1 (.k (.int 0))) (.seq (.set 2 (.k (.bl false))) (.seq (.fo (.one 3) (.itl (.v 0)) B_sr) (.seq (.ret (.v 2)) .skip))) := rfl
  have hit : ∀ om : Om, kIt (.ok (.lst (strL ws)) om) = .ok (strL ws) om := fun om => rfl
  obtain ⟨s1, s2⟩ := sr_loop (wf := wf) (m := m) (om := om) (ws := ws) (by omega) hB ws 0 .no hw
  have hA : acc 0 ws ↔ SigL ws := acc_iff ws
  rw [hb, z_seq, z_set, r_k, z_set1, z_seq1]
  simp only [List.set_cons_succ, List.set_cons_zero]
  rw [z_seq, z_set, r_k, z_set1, z_seq1]
  simp only [List.set_cons_succ, List.set_cons_zero]
  rw [z_seq, z_fo, r_itl, r_v rfl, hit, z_fo1]
  by_cases h : acc 0 ws
  · obtain ⟨d', c3', e⟩ := s1 h
    have e' : forG (tab prog wf m) B_sr (.one 3) (strL ws) [.val (.lst (strL ws)), .val (.int 0), .val (.bl false), .no] om = _ := e
    rw [e', z_seq1, z_seq, z_ret, r_v rfl, z_ret1, z_seq2, decide_eq_true (hA.mp h)]
  · rw [decide_eq_false (fun z => h (hA.mpr z))]
    rcases s2 h with e | ⟨d', c3', e⟩
    · have e' : forG (tab prog wf m) B_sr (.one 3) (strL ws) [.val (.lst (strL ws)), .val (.int 0), .val (.bl false), .no] om = _ := e
      rw [e', z_seq2]
    · have e' : forG (tab prog wf m) B_sr (.one 3) (strL ws) [.val (.lst (strL ws)), .val (.int 0), .val (.bl false), .no] om = _ := e
      rw [e', z_seq1, z_seq, z_ret, r_v rfl, z_ret1, z_seq2]
end
end
end K81

set_option Elab.async false
set_option linter.all false
set_option maxRecDepth 100000
set_option maxHeartbeats 4000000
/-! K81B: the law's own stack. -/
namespace K81
open PySem L2 PD
/-- a line as it is read -/
structure FL (ws : List Str) : Prop where
  ne : ws ≠ []
  len : ws.length ≤ 64
  w : ∀ x ∈ ws, WOk 200000 x
  jl : (jn ws).length ≤ 200000
  sp : Txt.split (jn ws) (Str.ofString " ") = ws
theorem FL.ok {ws : List Str} (h : FL ws) : ∀ x ∈ ws, PyData.strOk x = true := fun x hx => (h.w x hx).ok
theorem FL.split {ws : List Str} {om : Om} (h : FL ws) : mbf .split (jn ws) (.str (Str.ofString " ")) om = .ok (.lst (strL ws)) om := by
  show (if ((Str.ofString " ").length == 0) = false ∧ (jn ws).length + 2 ≤ 1000000 then Rs.ok (D.lst ((Txt.split (jn ws) (Str.ofString " ")).map D.str)) om else .stuck) = _
  have := h.jl
  rw [if_pos ⟨rfl, by omega⟩, h.sp]
def En.dep : En → Nat
  | .plan d => d
  | .parts d _ => d
def seenD (seen : List (List Str)) : List D := seen.map fun ws => .lst (strL ws)
def eD : En → D
  | .plan d => .tup [.str (Str.ofString "plan"), .int (d : Int)]
  | .parts d seen => .tup [.str (Str.ofString "parts"), .int (d : Int), .lst (seenD seen)]
def stD (st : List En) : List D := st.reverse.map eD
/-- the stack's depths sink -/
structure StOk (N : Nat) (st : List En) : Prop where
  pw : List.Pairwise (· > ·) (st.map En.dep)
  le : ∀ e ∈ st, e.dep ≤ 65
  sn : ∀ d seen, En.parts d seen ∈ st → (∀ ws ∈ seen, ∀ x ∈ ws, PyData.strOk x = true) ∧ seen.length ≤ N
theorem pw_len : ∀ (l : List Nat) (k : Nat), List.Pairwise (· > ·) l → (∀ x ∈ l, x ≤ k) → l.length ≤ k + 1
  | [], k, _, _ => Nat.zero_le _
  | x :: l, k, h, hk => by
    obtain ⟨h1, h2⟩ := List.pairwise_cons.mp h
    have hx := hk x List.mem_cons_self
    cases l with
    | nil => rw [List.length_singleton]; omega
    | cons y l =>
      have hxy : x > y := h1 y List.mem_cons_self
      have z := pw_len (y :: l) (x - 1) h2 (fun z hz => by have := h1 z hz; omega)
      rw [List.length_cons]
      omega
theorem StOk.len {N : Nat} {st : List En} (h : StOk N st) : st.length ≤ 66 := by
  have z := pw_len (st.map En.dep) 65 h.pw (fun x hx => by
    obtain ⟨e, he, rfl⟩ := List.mem_map.mp hx
    exact h.le e he)
  rw [List.length_map] at z
  omega
theorem StOk.up {N N' : Nat} {st : List En} (h : StOk N st) (hn : N ≤ N') : StOk N' st := ⟨h.pw, h.le, fun d s hs => ⟨(h.sn d s hs).1, Nat.le_trans (h.sn d s hs).2 hn⟩⟩
theorem StOk.tail {N : Nat} {e : En} {st : List En} (h : StOk N (e :: st)) : StOk N st := ⟨(List.pairwise_cons.mp h.pw).2, fun x hx => h.le x (List.mem_cons_of_mem _ hx), fun d s hs => h.sn d s (List.mem_cons_of_mem _ hs)⟩
theorem StOk.push {N : Nat} {e e' : En} {st : List En} (h : StOk N (e :: st)) (h1 : e.dep ≤ e'.dep) (h2 : e'.dep ≤ 65) (h3 : ∀ d seen, e' = En.parts d seen → (∀ ws ∈ seen, ∀ x ∈ ws, PyData.strOk x = true) ∧ seen.length ≤ N) : StOk N (e' :: st) := by
  obtain ⟨p1, p2⟩ := List.pairwise_cons.mp h.pw
  refine ⟨List.pairwise_cons.mpr ⟨fun x hx => ?_, p2⟩, fun x hx => ?_, fun d s hs => ?_⟩
  · have := p1 x hx
    omega
  · rcases List.mem_cons.mp hx with rfl | hx
    · exact h2
    · exact h.le x (List.mem_cons_of_mem _ hx)
  · rcases List.mem_cons.mp hs with e | hs
    · exact h3 d s e.symm
    · exact h.sn d s (List.mem_cons_of_mem _ hs)
theorem StOk.over {N : Nat} {e e' : En} {st : List En} (h : StOk N (e :: st)) (h1 : e.dep < e'.dep) (h2 : e'.dep ≤ 65) (h3 : ∀ d seen, e' = En.parts d seen → (∀ ws ∈ seen, ∀ x ∈ ws, PyData.strOk x = true) ∧ seen.length ≤ N) : StOk N (e' :: e :: st) := by
  refine ⟨List.pairwise_cons.mpr ⟨fun x hx => ?_, h.pw⟩, fun x hx => ?_, fun d s hs => ?_⟩
  · obtain ⟨p1, p2⟩ := List.pairwise_cons.mp h.pw
    rcases List.mem_cons.mp (show x ∈ e.dep :: st.map En.dep from hx) with rfl | hx
    · exact h1
    · have := p1 x hx
      omega
  · rcases List.mem_cons.mp hx with rfl | hx
    · exact h2
    · exact h.le x hx
  · rcases List.mem_cons.mp hs with e | hs
    · exact h3 d s e.symm
    · exact h.sn d s hs
/-! ### in a list of word lists -/
theorem toP_ws (ws : List Str) : toP (.lst (strL ws)) = some (.list (ws.map PyData.str)) := by
  rw [toP, toPs_str]
  rfl
theorem toPs_ws (ls : List (List Str)) : toPs (seenD ls) = some (ls.map fun ws => PyData.list (ws.map PyData.str)) := by
  induction ls with
  | nil => rfl
  | cons ws ls ih =>
    show toPs (.lst (strL ws) :: seenD ls) = _
    rw [toPs, toP_ws, ih]
    rfl
theorem in_seen {x : List Str} {seen : List (List Str)} (hx : ∀ w ∈ x, PyData.strOk w = true) (hs : ∀ ws ∈ seen, ∀ w ∈ ws, PyData.strOk w = true) : inD (.lst (strL x)) (seenD seen) = some (decide (x ∈ seen)) := by
  obtain ⟨b, hb⟩ := inD_some (n := 1) (x := .lst (strL x)) (ys := seenD seen) (lay_lst fun d hd => by
      obtain ⟨w, hw, rfl⟩ := List.mem_map.mp hd
      exact lay_str (hx w hw)) (fun y hy => by
      obtain ⟨ws, hws, rfl⟩ := List.mem_map.mp hy
      exact lay_lst fun d hd => by
        obtain ⟨w, hw, rfl⟩ := List.mem_map.mp hd
        exact lay_str (hs ws hws w hw)) (by decide)
  rw [hb]
  unfold inD at hb
  rw [toP_ws, toPs_ws] at hb
  dsimp only at hb
  split at hb
  · have e : (List.any (seen.map fun ws => PyData.list (ws.map PyData.str)) fun z => PyData.eqv z (.list (x.map PyData.str))) = decide (x ∈ seen) := by
      rw [Bool.eq_iff_iff, List.any_eq_true, decide_eq_true_iff]
      constructor
      · rintro ⟨z, hz, he⟩
        obtain ⟨ws, hws, rfl⟩ := List.mem_map.mp hz
        have e2 : PyData.eqvAll (ws.map PyData.str) (x.map PyData.str) = true := by simpa [PyData.eqv] using he
        rw [eqv_str] at e2
        rw [← of_decide_eq_true e2]
        exact hws
      · intro h
        refine ⟨_, List.mem_map.mpr ⟨x, h, rfl⟩, ?_⟩
        have e2 : PyData.eqvAll (x.map PyData.str) (x.map PyData.str) = true := by
          rw [eqv_str]
          exact decide_eq_true rfl
        simpa [PyData.eqv] using e2
    rw [← e]
    exact hb.symm
  · exact nomatch hb
/-! ### one turn -/
def bI : S := match B_Lbad with
  | .seq _ (.seq (.fo _ _ (.seq _ (.seq _ (.seq (.fo _ _ b) _)))) _) => b
  | _ => .skip
section
variable {wf m : Nat} {om : Om}
theorem strL_len (l : List Str) : (strL l).length = l.length := List.length_map ..
theorem pop_top {T : Tb} {e : En} {st : List En} {c0 c2 c3 c4 c5 c6 c7 c8 c9 : Cell} : evS T (.pop 1 6) [c0, .own (stD (e :: st)), c2, c3, c4, c5, c6, c7, c8, c9] om = .next [c0, .own (stD st), c2, c3, c4, c5, .val (eD e), c7, c8, c9] om := by
  have e1 : stD (e :: st) = stD st ++ [eD e] := by
    unfold stD
    rw [List.reverse_cons, List.map_append]
    rfl
  rw [z_pop (ds := stD st ++ [eD e]) (d := eD e) (by rw [e1]; rfl) (by rw [List.length_append, List.length_singleton, Nat.add_sub_cancel, List.getElem?_append_right (Nat.le_refl _), Nat.sub_self]; rfl)]
  rw [List.dropLast_concat]
  rfl
theorem st_len {st : List En} : (stD st).length = st.length := by
  unfold stD
  rw [List.length_map, List.length_reverse]
theorem head_iff {w : Str} {d : Nat} {l : List Str} : HeadL w d l ↔ l.take d = dots d ∧ ∃ w1, l.drop d = [w, w1] ∧ IsN w1 := by
  constructor
  · rintro ⟨k, rfl, hk⟩
    refine ⟨?_, num k, ?_, k, rfl, hk⟩
    · rw [List.take_left' dlen]
    · rw [List.drop_left' dlen]
  · rintro ⟨h1, w1, h2, k, rfl, hk⟩
    refine ⟨k, ?_, hk⟩
    rw [← h1, ← h2, List.take_append_drop]
theorem plok : PyData.strOk (Str.ofString "plan") = true := strOk_lit [112, 108, 97, 110] rfl rfl
theorem paok : PyData.strOk (Str.ofString "parts") = true := strOk_lit [112, 97, 114, 116, 115] rfl rfl
theorem wcok : PyData.strOk wC = true := gw_choose.2.1
theorem waok : PyData.strOk wA = true := gw_ask.2.1
theorem wiok : PyData.strOk wI = true := gw_if.2.1
theorem nin2 {T : Tb} {w : Str} (hw : PyData.strOk w = true) : cmp T .nin (.str w) (.tup [.str wC, .str wA]) om = .ok (!(decide (wC = w) || decide (wA = w))) om := by
  refine o_nint ?_
  unfold inT
  rw [if_pos (by rfl)]
  show some (PyData.eqv (.str wC) (.str w) || (PyData.eqv (.str wA) (.str w) || false)) = _
  rw [Bool.or_false]
  rfl
/-- the plan entry: what its branch does -/
theorem plan_step (hm : 1 < m) {ls : List Str} {l : List Str} (hl : FL l) {p d : Nat} (hd : d ≤ 65) {st : List En} (hst : st.length ≤ 100) {x c6 c7 c8 c9 : Cell} :
    (HeadL wC d l → ∃ a6 a7 a8 : Cell, evS (tab prog wf m) bI [.val (.lst (strL ls)), .own (stD (.plan d :: st)), .val (.int (p : Int)), .val (.lst (strL l)), .val (.bl false), x, c6, c7, c8, c9] om = .next [.val (.lst (strL ls)), .own (stD st), .val (.int (p : Int)), .val (.lst (strL l)), .val (.bl true), x, a6, a7, a8, c9] om) ∧
    (HeadL wA d l → ∃ a6 a7 a8 : Cell, evS (tab prog wf m) bI [.val (.lst (strL ls)), .own (stD (.plan d :: st)), .val (.int (p : Int)), .val (.lst (strL l)), .val (.bl false), x, c6, c7, c8, c9] om = .next [.val (.lst (strL ls)), .own (stD (.parts (d + 1) [] :: st)), .val (.int (p : Int)), .val (.lst (strL l)), .val (.bl true), x, a6, a7, a8, c9] om) ∧
    (¬ HeadL wC d l → ¬ HeadL wA d l → evS (tab prog wf m) bI [.val (.lst (strL ls)), .own (stD (.plan d :: st)), .val (.int (p : Int)), .val (.lst (strL l)), .val (.bl false), x, c6, c7, c8, c9] om = .ret (.int (p : Int)) om) := by
  have hne : stD (En.plan d :: st) ≠ [] := fun h => by
    have z := congrArg List.length h
    rw [st_len, List.length_cons] at z
    exact nomatch z
  have hx0 : ∀ om : Om, ixD (eD (.plan d)) (.int 0) om = .ok (.str (Str.ofString "plan")) om := fun om => x_t atI0
  have hx1 : ∀ om : Om, ixD (eD (.plan d)) (.int 1) om = .ok (.int (d : Int)) om := fun om => x_t atI1
  have hcf : cutD (strL l) (some (d : Int)) none = strL (l.drop d) := cut_from l d
  have hct : cutD (strL l) none (some (d : Int)) = strL (l.take d) := cut_take D.str l d
  have hdots : ∀ om : Om, bop (tab prog wf m) .mul (.lst [.str (Str.ofString ".")]) (.int (d : Int)) om = .ok (.lst (strL (dots d))) om := fun om => o_dots (by omega)
  have hdq : ∀ om : Om, cmp (tab prog wf m) .eq (.lst (strL (l.take d))) (.lst (strL (dots d))) om = .ok (decide (l.take d = dots d)) om := fun om => o_eqls (fun x hx => hl.ok x (List.mem_of_mem_take hx)) (fun x hx => (gw_dots x hx).2.1)
  have hpp : ∀ om : Om, cmp (tab prog wf m) .eq (.str (Str.ofString "plan")) (.str (Str.ofString "plan")) om = .ok true om := fun om => by
    rw [o_eqs plok plok, beq_self_eq_true]
  have hqq : ∀ om : Om, cmp (tab prog wf m) .eq (.lst (strL (dots d))) (.lst (strL (dots d))) om = .ok true om := fun om => by
    rw [o_eqls (fun x hx => (gw_dots x hx).2.1) (fun x hx => (gw_dots x hx).2.1), decide_eq_true rfl]
  by_cases h1 : l.take d = dots d
  · cases hdr : l.drop d with
    | nil =>
      have n1 : ∀ w, ¬ HeadL w d l := fun w h => by
        obtain ⟨_, w1, h2, _⟩ := head_iff.mp h
        rw [hdr] at h2
        exact nomatch h2
      refine ⟨fun h => absurd h (n1 _), fun h => absurd h (n1 _), fun _ _ => ?_⟩
      rw [hdr] at hcf
      simp [bI, B_Lbad, hne, pop_top, hx0, hx1, hcf, hct, hdots, hqq, h1, hpp]
    | cons w0 t =>
      have hw0 : w0 ∈ l := List.mem_of_mem_drop (by rw [hdr]; exact List.mem_cons_self)
      have k0 := hl.ok w0 hw0
      cases t with
      | nil =>
        have n1 : ∀ w, ¬ HeadL w d l := fun w h => by
          obtain ⟨_, w1, h2, _⟩ := head_iff.mp h
          rw [hdr] at h2
          exact nomatch h2
        refine ⟨fun h => absurd h (n1 _), fun h => absurd h (n1 _), fun _ _ => ?_⟩
        rw [hdr] at hcf
        simp [bI, B_Lbad, hne, pop_top, hx0, hx1, hcf, hct, hdots, hqq, h1, hpp]
      | cons w1 t =>
        have hw1 : w1 ∈ l := List.mem_of_mem_drop (by rw [hdr]; simp)
        cases t with
        | cons w2 t =>
          have n1 : ∀ w, ¬ HeadL w d l := fun w h => by
            obtain ⟨_, w1', h2, _⟩ := head_iff.mp h
            rw [hdr] at h2
            simp at h2
          refine ⟨fun h => absurd h (n1 _), fun h => absurd h (n1 _), fun _ _ => ?_⟩
          rw [hdr] at hcf
          have hz : ((t.length : Int) + 1 + 1 + 1 = 2) = False := by
            simp
            omega
          simp [bI, B_Lbad, hne, pop_top, hx0, hx1, hcf, hct, hdots, hqq, h1, hpp, hz]
        | nil =>
          rw [hdr] at hcf
          have hnn := fun om => nin2 (T := tab prog wf m) (om := om) k0
          have hy0 : ∀ om : Om, ixD (.lst [.str w0, .str w1]) (.int 0) om = .ok (.str w0) om := fun om => x_l atI0
          have hy1 : ∀ om : Om, ixD (.lst [.str w0, .str w1]) (.int 1) om = .ok (.str w1) om := fun om => x_l atI1
          have hea := fun om => o_eqs (T := tab prog wf m) (om := om) k0 waok
          have hCA : (wC == wA) = false := by
            rw [dec_eq]
            exact decide_eq_false (fun e => by
              have e' : [99, 104, 111, 111, 115, 101] = [97, 115, 107] := congrArg (fun s : Str => s.cps.toList) e
              simp at e')
          have hnCA : wC ≠ wA := fun e => by
            rw [dec_eq] at hCA
            exact absurd e (of_decide_eq_false hCA)
          have hH : ∀ w, HeadL w d l ↔ w0 = w ∧ IsN w1 := fun w => by
            rw [head_iff, hdr]
            constructor
            · rintro ⟨_, w1', h2, h3⟩
              obtain ⟨e1, e2⟩ := List.cons.inj h2
              obtain ⟨e3, _⟩ := List.cons.inj e2
              exact ⟨e1, by rw [e3]; exact h3⟩
            · rintro ⟨rfl, h3⟩
              exact ⟨h1, w1, rfl, h3⟩
          rw [hH, hH]
          have hsl : (stD st).length < 1000000 := by rw [st_len]; omega
          by_cases hN : IsN w1
          · obtain ⟨k, hk⟩ := hN
            obtain ⟨z, hz⟩ := digits_num (wf := wf) (m := m) (om := om) (by omega) hk
            by_cases hC : w0 = wC
            · subst hC
              refine ⟨fun _ => ⟨.val (eD (.plan d)), .val (.lst [.str wC, .str w1]), .val (.bl true), ?_⟩, fun h => absurd h.1 hnCA, fun h => absurd ⟨rfl, k, hk⟩ h⟩
              simp [bI, B_Lbad, hne, pop_top, hx0, hx1, hcf, hct, hdots, hqq, h1, hpp, hnn, hy0, hy1, hz, hea, hCA]
            · by_cases hA : w0 = wA
              · subst hA
                refine ⟨fun h => absurd h.1 hC, fun _ => ⟨.val (eD (.plan d)), .val (.lst [.str wA, .str w1]), .val (.bl true), ?_⟩, fun _ h => absurd ⟨rfl, k, hk⟩ h⟩
                have hst2 : stD (.parts (d + 1) [] :: st) = stD st ++ [.tup [.str (Str.ofString "parts"), .int ((d : Int) + 1), .lst []]] := by
                  unfold stD
                  rw [List.reverse_cons, List.map_append]
                  rfl
                rw [hst2]
                simp [bI, B_Lbad, hne, pop_top, hx0, hx1, hcf, hct, hdots, hqq, h1, hpp, hnn, hy0, hy1, hz, hea, hsl]
              · refine ⟨fun h => absurd h.1 hC, fun h => absurd h.1 hA, fun _ _ => ?_⟩
                have hC' : ¬ wC = w0 := fun e => hC e.symm
                have hA' : ¬ wA = w0 := fun e => hA e.symm
                simp [bI, B_Lbad, hne, pop_top, hx0, hx1, hcf, hct, hdots, hqq, h1, hpp, hnn, hy0, hy1, hC', hA']
          · have hz := digits_non (wf := wf) (m := m) (om := om) (by omega) (by omega) (hl.w w1 hw1) hN
            refine ⟨fun h => absurd h.2 hN, fun h => absurd h.2 hN, fun _ _ => ?_⟩
            by_cases hq : wC = w0 ∨ wA = w0
            · have hq' : (decide (wC = w0) || decide (wA = w0)) = true := by simpa using hq
              simp [bI, B_Lbad, hne, pop_top, hx0, hx1, hcf, hct, hdots, hqq, h1, hpp, hnn, hy0, hy1, hz, hq, hq']
            · have hq1 : ¬ wC = w0 := fun e => hq (.inl e)
              have hq2 : ¬ wA = w0 := fun e => hq (.inr e)
              simp [bI, B_Lbad, hne, pop_top, hx0, hx1, hcf, hct, hdots, hqq, h1, hpp, hnn, hy0, hy1, hz, hq1, hq2]
  · have n1 : ∀ w, ¬ HeadL w d l := fun w h => h1 (head_iff.mp h).1
    refine ⟨fun h => absurd h (n1 _), fun h => absurd h (n1 _), fun _ _ => ?_⟩
    clear n1
    generalize l.take d = tk at hct hdq h1
    generalize l.drop d = dr at hcf
    simp [bI, B_Lbad, hne, pop_top, hx0, hx1, hcf, hct, hdots, hdq, h1, hpp]
open Classical in
/-- the parts entry -/
theorem parts_step (hm : 2 < m) {ls : List Str} {l : List Str} (hl : FL l) {p d N : Nat} {seen : List (List Str)} (hd : d ≤ 65) (hN : N ≤ 100000) (hs : (∀ ws ∈ seen, ∀ x ∈ ws, PyData.strOk x = true) ∧ seen.length ≤ N) {st : List En} (hst : st.length ≤ 100) {x c6 c7 c8 c9 : Cell} :
    (IfL d l → SigL (l.drop (d + 1)) → l.drop (d + 1) ∉ seen → ∃ a6 a7 a8 : Cell, evS (tab prog wf m) bI [.val (.lst (strL ls)), .own (stD (.parts d seen :: st)), .val (.int (p : Int)), .val (.lst (strL l)), .val (.bl false), x, c6, c7, c8, c9] om = .next [.val (.lst (strL ls)), .own (stD (.plan (d + 1) :: .parts d (seen ++ [l.drop (d + 1)]) :: st)), .val (.int (p : Int)), .val (.lst (strL l)), .val (.bl true), x, a6, a7, a8, c9] om) ∧
    (IfL d l → ¬ (SigL (l.drop (d + 1)) ∧ l.drop (d + 1) ∉ seen) → evS (tab prog wf m) bI [.val (.lst (strL ls)), .own (stD (.parts d seen :: st)), .val (.int (p : Int)), .val (.lst (strL l)), .val (.bl false), x, c6, c7, c8, c9] om = .ret (.int (p : Int)) om) ∧
    (¬ IfL d l → ∃ a6 a7 a8 : Cell, evS (tab prog wf m) bI [.val (.lst (strL ls)), .own (stD (.parts d seen :: st)), .val (.int (p : Int)), .val (.lst (strL l)), .val (.bl false), x, c6, c7, c8, c9] om = .next [.val (.lst (strL ls)), .own (stD st), .val (.int (p : Int)), .val (.lst (strL l)), .val (.bl false), x, a6, a7, a8, c9] om) := by
  have hne : stD (En.parts d seen :: st) ≠ [] := fun h => by
    have z := congrArg List.length h
    rw [st_len, List.length_cons] at z
    exact nomatch z
  have hx0 : ∀ om : Om, ixD (eD (.parts d seen)) (.int 0) om = .ok (.str (Str.ofString "parts")) om := fun om => x_t atI0
  have hx1 : ∀ om : Om, ixD (eD (.parts d seen)) (.int 1) om = .ok (.int (d : Int)) om := fun om => x_t atI1
  have hx2 : ∀ om : Om, ixD (eD (.parts d seen)) (.int 2) om = .ok (.lst (seenD seen)) om := fun om => x_t atI2
  have hcf : cutD (strL l) (some (d : Int)) none = strL (l.drop d) := cut_from l d
  have hct : cutD (strL l) none (some (d : Int)) = strL (l.take d) := cut_take D.str l d
  have hdots : ∀ om : Om, bop (tab prog wf m) .mul (.lst [.str (Str.ofString ".")]) (.int (d : Int)) om = .ok (.lst (strL (dots d))) om := fun om => o_dots (by omega)
  have hdq : ∀ om : Om, cmp (tab prog wf m) .eq (.lst (strL (l.take d))) (.lst (strL (dots d))) om = .ok (decide (l.take d = dots d)) om := fun om => o_eqls (fun x hx => hl.ok x (List.mem_of_mem_take hx)) (fun x hx => (gw_dots x hx).2.1)
  have hpp : ∀ om : Om, cmp (tab prog wf m) .eq (.str (Str.ofString "parts")) (.str (Str.ofString "plan")) om = .ok false om := fun om => by
    rw [o_eqs paok plok]
    rfl
  have hds : l.drop (d + 1) = (l.drop d).drop 1 := by rw [List.drop_drop]
  have hc1 : cutD (strL (l.drop d)) none (some 1) = strL ((l.drop d).take 1) := cut_take D.str (l.drop d) 1
  have hc2 : cutD (strL (l.drop d)) (some 1) none = strL ((l.drop d).drop 1) := cut_from (l.drop d) 1
  have hok1 : ∀ x ∈ (l.drop d).drop 1, PyData.strOk x = true := fun x hx => hl.ok x (List.mem_of_mem_drop (List.mem_of_mem_drop hx))
  have hfe : ∀ om : Om, cmp (tab prog wf m) .eq (.lst (strL ((l.drop d).take 1))) (.lst [.str wI]) om = .ok (decide ((l.drop d).take 1 = [wI])) om := fun om => o_eqls (ys := [wI]) (fun x hx => hl.ok x (List.mem_of_mem_drop (List.mem_of_mem_take hx))) (fun x hx => by rw [List.mem_singleton.mp hx]; exact wiok)
  have hsr : callN prog wf m 19 [.lst (strL ((l.drop d).drop 1))] om = .ok (.bl (decide (SigL ((l.drop d).drop 1)))) om := signal_right (by omega) (B := 200000) (by omega) fun x hx => hl.w x (List.mem_of_mem_drop (List.mem_of_mem_drop hx))
  have hin : ∀ om : Om, cmp (tab prog wf m) .inn (.lst (strL ((l.drop d).drop 1))) (.lst (seenD seen)) om = .ok (decide ((l.drop d).drop 1 ∈ seen)) om := fun om => o_inn (in_seen hok1 hs.1)
  have hsl : (stD st).length < 1000000 := by rw [st_len]; omega
  have hsl2 : (stD st).length + 1 < 1000000 := by rw [st_len]; omega
  have hsn : (seenD seen).length + 1 ≤ 1000000 := by
    unfold seenD
    rw [List.length_map]
    omega
  have hst1 : stD (.plan (d + 1) :: .parts d (seen ++ [(l.drop d).drop 1]) :: st) = stD st ++ [.tup [.str (Str.ofString "parts"), .int (d : Int), .lst (seenD seen ++ [.lst (strL ((l.drop d).drop 1))])], .tup [.str (Str.ofString "plan"), .int ((d : Int) + 1)]] := by
    unfold stD
    rw [List.reverse_cons, List.reverse_cons, List.map_append, List.map_append, List.append_assoc]
    show _ ++ [D.tup [.str (Str.ofString "parts"), .int (d : Int), .lst (seenD (seen ++ [(l.drop d).drop 1]))], _] = _
    rw [show seenD (seen ++ [(l.drop d).drop 1]) = seenD seen ++ [.lst (strL ((l.drop d).drop 1))] from by unfold seenD; rw [List.map_append]; rfl]
    rfl
  have hif : IfL d l ↔ l.take d = dots d ∧ (l.drop d).take 1 = [wI] := Iff.rfl
  rw [hds, hif, hst1]
  clear hif hst1 hds hok1
  generalize (l.drop d).take 1 = tk1 at hc1 hfe ⊢
  generalize (l.drop d).drop 1 = dr1 at hc2 hsr hin ⊢
  generalize l.drop d = dr at hcf hc1 hc2
  generalize l.take d = tk at hct hdq ⊢
  by_cases h1 : tk = dots d
  · have hqq : ∀ om : Om, cmp (tab prog wf m) .eq (.lst (strL (dots d))) (.lst (strL (dots d))) om = .ok true om := fun om => by
      rw [o_eqls (fun x hx => (gw_dots x hx).2.1) (fun x hx => (gw_dots x hx).2.1), decide_eq_true rfl]
    subst h1
    by_cases h2 : tk1 = [wI]
    · have hfe' : ∀ om : Om, cmp (tab prog wf m) .eq (.lst (strL tk1)) (.lst [.str wI]) om = .ok true om := fun om => by rw [hfe, decide_eq_true h2]
      refine ⟨fun _ h3 h4 => ⟨.val (eD (.parts d seen)), .val (.lst (strL dr)), .val (.bl true), ?_⟩, fun _ h3 => ?_, fun h3 => absurd ⟨rfl, h2⟩ h3⟩
      · have hsr' : callN prog wf m 19 [.lst (strL dr1)] om = .ok (.bl true) om := by rw [hsr, decide_eq_true h3]
        have hin' : ∀ om : Om, cmp (tab prog wf m) .inn (.lst (strL dr1)) (.lst (seenD seen)) om = .ok false om := fun om => by rw [hin, decide_eq_false h4]
        clear hfe hsr hin
        simp [bI, B_Lbad, hne, pop_top, hx0, hx1, hx2, hcf, hct, hdots, hqq, hpp, hc1, hc2, hfe', hsr', hin', hsl, hsl2, hsn]
      · by_cases h4 : SigL dr1
        · have hsr' : callN prog wf m 19 [.lst (strL dr1)] om = .ok (.bl true) om := by rw [hsr, decide_eq_true h4]
          have h5 : dr1 ∈ seen := Classical.byContradiction fun h5 => h3 ⟨h4, h5⟩
          have hin' : ∀ om : Om, cmp (tab prog wf m) .inn (.lst (strL dr1)) (.lst (seenD seen)) om = .ok true om := fun om => by rw [hin, decide_eq_true h5]
          clear hfe hsr hin
          simp [bI, B_Lbad, hne, pop_top, hx0, hx1, hx2, hcf, hct, hdots, hqq, hpp, hc1, hc2, hfe', hsr', hin']
        · have hsr' : callN prog wf m 19 [.lst (strL dr1)] om = .ok (.bl false) om := by rw [hsr, decide_eq_false h4]
          clear hfe hsr hin
          simp [bI, B_Lbad, hne, pop_top, hx0, hx1, hx2, hcf, hct, hdots, hqq, hpp, hc1, hc2, hfe', hsr']
    · have hfe' : ∀ om : Om, cmp (tab prog wf m) .eq (.lst (strL tk1)) (.lst [.str wI]) om = .ok false om := fun om => by rw [hfe, decide_eq_false h2]
      refine ⟨fun h3 => absurd h3.2 h2, fun h3 => absurd h3.2 h2, fun _ => ⟨.val (eD (.parts d seen)), .val (.lst (strL dr)), .val (.bl true), ?_⟩⟩
      clear hfe hsr hin
      simp [bI, B_Lbad, hne, pop_top, hx0, hx1, hx2, hcf, hct, hdots, hqq, hpp, hc1, hc2, hfe']
  · have hdq' : ∀ om : Om, cmp (tab prog wf m) .eq (.lst (strL tk)) (.lst (strL (dots d))) om = .ok false om := fun om => by rw [hdq, decide_eq_false h1]
    refine ⟨fun h3 => absurd h3.1 h1, fun h3 => absurd h3.1 h1, fun _ => ⟨.val (eD (.parts d seen)), .val (.lst (strL dr)), .val (.bl false), ?_⟩⟩
    clear hfe hsr hin hdq
    simp [bI, B_Lbad, hne, pop_top, hx0, hx1, hx2, hcf, hct, hdots, hpp, hdq']
/-- nothing more is done behind a found entry -/
theorem found_done {T : Tb} {ls : List Str} {l : List Str} {ds : List D} {p : Nat} : ∀ (xs : List Nat) (x c6 c7 c8 c9 : Cell), ∃ x', forG T bI (.one 5) (xs.map fun k : Nat => D.int k) [.val (.lst (strL ls)), .own ds, .val (.int (p : Int)), .val (.lst (strL l)), .val (.bl true), x, c6, c7, c8, c9] om = .next [.val (.lst (strL ls)), .own ds, .val (.int (p : Int)), .val (.lst (strL l)), .val (.bl true), x', c6, c7, c8, c9] om
  | [], x, c6, c7, c8, c9 => ⟨x, rfl⟩
  | k :: xs, x, c6, c7, c8, c9 => by
    refine ⟨.val (.int (k : Int)), ?_⟩
    rw [List.map_cons, f_cons]
    simp only [List.set_cons_succ, List.set_cons_zero]
    have e : evS T bI [.val (.lst (strL ls)), .own ds, .val (.int (p : Int)), .val (.lst (strL l)), .val (.bl true), .val (.int (k : Int)), c6, c7, c8, c9] om = .brk [.val (.lst (strL ls)), .own ds, .val (.int (p : Int)), .val (.lst (strL l)), .val (.bl true), .val (.int (k : Int)), c6, c7, c8, c9] om := by
      simp [bI, B_Lbad]
    rw [e, f_b]
theorem empty_done {T : Tb} {ls : List Str} {l : List Str} {p : Nat} : ∀ (xs : List Nat) (x c6 c7 c8 c9 : Cell), ∃ x', forG T bI (.one 5) (xs.map fun k : Nat => D.int k) [.val (.lst (strL ls)), .own [], .val (.int (p : Int)), .val (.lst (strL l)), .val (.bl false), x, c6, c7, c8, c9] om = .next [.val (.lst (strL ls)), .own [], .val (.int (p : Int)), .val (.lst (strL l)), .val (.bl false), x', c6, c7, c8, c9] om
  | [], x, c6, c7, c8, c9 => ⟨x, rfl⟩
  | k :: xs, x, c6, c7, c8, c9 => by
    refine ⟨.val (.int (k : Int)), ?_⟩
    rw [List.map_cons, f_cons]
    simp only [List.set_cons_succ, List.set_cons_zero]
    have e : evS T bI [.val (.lst (strL ls)), .own [], .val (.int (p : Int)), .val (.lst (strL l)), .val (.bl false), .val (.int (k : Int)), c6, c7, c8, c9] om = .brk [.val (.lst (strL ls)), .own [], .val (.int (p : Int)), .val (.lst (strL l)), .val (.bl false), .val (.int (k : Int)), c6, c7, c8, c9] om := by
      simp [bI, B_Lbad]
    rw [e, f_b]
/-- the turns at one line -/
theorem turns (hm : 2 < m) {ls : List Str} {l : List Str} (hl : FL l) {p N : Nat} (hN : N ≤ 100000) : ∀ (st : List En), StOk N st → ∀ (xs : List Nat), st.length < xs.length → ∀ (x c6 c7 c8 c9 : Cell),
    ((∀ lr, M st (l :: lr) p = some p) ∧ (forG (tab prog wf m) bI (.one 5) (xs.map fun k : Nat => D.int k) [.val (.lst (strL ls)), .own (stD st), .val (.int (p : Int)), .val (.lst (strL l)), .val (.bl false), x, c6, c7, c8, c9] om = .ret (.int (p : Int)) om ∨
      ∃ x' c6' c7' c8', forG (tab prog wf m) bI (.one 5) (xs.map fun k : Nat => D.int k) [.val (.lst (strL ls)), .own (stD st), .val (.int (p : Int)), .val (.lst (strL l)), .val (.bl false), x, c6, c7, c8, c9] om = .next [.val (.lst (strL ls)), .own [], .val (.int (p : Int)), .val (.lst (strL l)), .val (.bl false), x', c6', c7', c8', c9] om)) ∨
    (∃ st', StOk (N + 1) st' ∧ (∀ lr, M st (l :: lr) p = M st' lr (p + 1)) ∧ ∃ x' c6' c7' c8', forG (tab prog wf m) bI (.one 5) (xs.map fun k : Nat => D.int k) [.val (.lst (strL ls)), .own (stD st), .val (.int (p : Int)), .val (.lst (strL l)), .val (.bl false), x, c6, c7, c8, c9] om = .next [.val (.lst (strL ls)), .own (stD st'), .val (.int (p : Int)), .val (.lst (strL l)), .val (.bl true), x', c6', c7', c8', c9] om)
  | [], hst, xs, hx, x, c6, c7, c8, c9 => by
    obtain ⟨x', e⟩ := empty_done (T := tab prog wf m) (om := om) (ls := ls) (l := l) (p := p) xs x c6 c7 c8 c9
    exact .inl ⟨fun lr => M_emp, .inr ⟨x', c6, c7, c8, e⟩⟩
  | e :: st, hst, xs, hx, x, c6, c7, c8, c9 => by
    have hlen := hst.len
    rw [List.length_cons] at hlen
    cases xs with
    | nil => exact absurd hx (Nat.not_lt_zero _)
    | cons k xs =>
      rw [List.length_cons, List.length_cons] at hx
      have unf : ∀ y : Cell, forG (tab prog wf m) bI (.one 5) ((k :: xs).map fun k : Nat => D.int k) [.val (.lst (strL ls)), .own (stD (e :: st)), .val (.int (p : Int)), .val (.lst (strL l)), .val (.bl false), y, c6, c7, c8, c9] om =
          kBody (tab prog wf m) (evS (tab prog wf m) bI [.val (.lst (strL ls)), .own (stD (e :: st)), .val (.int (p : Int)), .val (.lst (strL l)), .val (.bl false), .val (.int (k : Int)), c6, c7, c8, c9] om) bI (.one 5) (xs.map fun k : Nat => D.int k) := fun y => by
        rw [List.map_cons, f_cons]
        simp only [List.set_cons_succ, List.set_cons_zero]
      rw [unf x]
      have hdl : e.dep ≤ 65 := hst.le e List.mem_cons_self
      cases e with
      | plan d =>
        obtain ⟨s1, s2, s3⟩ := plan_step (wf := wf) (m := m) (om := om) (by omega) (ls := ls) hl (p := p) (d := d) hdl (st := st) (by omega) (x := .val (.int (k : Int))) (c6 := c6) (c7 := c7) (c8 := c8) (c9 := c9)
        by_cases h1 : HeadL wC d l
        · obtain ⟨a6, a7, a8, e1⟩ := s1 h1
          obtain ⟨x', e2⟩ := found_done (T := tab prog wf m) (om := om) (ls := ls) (l := l) (ds := stD st) (p := p) xs (.val (.int (k : Int))) a6 a7 a8 c9
          exact .inr ⟨st, hst.tail.up (by omega), fun lr => M_ch h1, x', a6, a7, a8, by rw [e1, f_n, e2]⟩
        · by_cases h2 : HeadL wA d l
          · obtain ⟨a6, a7, a8, e1⟩ := s2 h2
            obtain ⟨x', e2⟩ := found_done (T := tab prog wf m) (om := om) (ls := ls) (l := l) (ds := stD (.parts (d + 1) [] :: st)) (p := p) xs (.val (.int (k : Int))) a6 a7 a8 c9
            have hd2 : d + 2 ≤ 64 := by
              obtain ⟨k, rfl, _⟩ := h2
              have := hl.len
              rw [List.length_append, dlen] at this
              exact this
            exact .inr ⟨.parts (d + 1) [] :: st, (hst.push (e' := .parts (d + 1) []) (by show d ≤ d + 1; omega) (by show d + 1 ≤ 65; omega) (fun d' s' h => by cases h; exact ⟨fun _ h => (nomatch h), Nat.zero_le _⟩)).up (by omega), fun lr => M_ask h1 h2, x', a6, a7, a8, by rw [e1, f_n, e2]⟩
          · exact .inl ⟨fun lr => M_bad h1 h2, .inl (by rw [s3 h1 h2, f_r])⟩
      | parts d seen =>
        have hs := hst.sn d seen List.mem_cons_self
        obtain ⟨s1, s2, s3⟩ := parts_step (wf := wf) (m := m) (om := om) hm (ls := ls) hl (p := p) (d := d) (N := N) hdl hN hs (st := st) (by omega) (x := .val (.int (k : Int))) (c6 := c6) (c7 := c7) (c8 := c8) (c9 := c9)
        by_cases h1 : IfL d l
        · by_cases h2 : SigL (l.drop (d + 1)) ∧ l.drop (d + 1) ∉ seen
          · obtain ⟨a6, a7, a8, e1⟩ := s1 h1 h2.1 h2.2
            obtain ⟨x', e2⟩ := found_done (T := tab prog wf m) (om := om) (ls := ls) (l := l) (ds := stD (.plan (d + 1) :: .parts d (seen ++ [l.drop (d + 1)]) :: st)) (p := p) xs (.val (.int (k : Int))) a6 a7 a8 c9
            have hd2 : d ≤ 64 := by
              have := hl.len
              have z := congrArg List.length h1.1
              rw [List.length_take, dlen] at z
              omega
            have p1 := (hst.up (Nat.le_succ N)).push (e' := .parts d (seen ++ [l.drop (d + 1)])) (Nat.le_refl _) (by show d ≤ 65; omega) (fun d' s' h => by
              cases h
              refine ⟨fun ws hws y hy => ?_, by rw [List.length_append, List.length_singleton]; have := hs.2; omega⟩
              rcases List.mem_append.mp hws with h | h
              · exact hs.1 ws h y hy
              · rw [List.mem_singleton.mp h] at hy
                exact hl.ok y (List.mem_of_mem_drop hy))
            exact .inr ⟨_, p1.over (e' := .plan (d + 1)) (by show d < d + 1; omega) (by show d + 1 ≤ 65; omega) (fun d' s' h => by cases h), fun lr => M_if h1 h2.1 h2.2, x', a6, a7, a8, by rw [e1, f_n, e2]⟩
          · exact .inl ⟨fun lr => M_ifbad h1 h2, .inl (by rw [s2 h1 h2, f_r])⟩
        · obtain ⟨a6, a7, a8, e1⟩ := s3 h1
          rw [e1, f_n]
          rcases turns hm hl hN st hst.tail xs (by omega) (.val (.int (k : Int))) a6 a7 a8 c9 with ⟨h2, h3⟩ | ⟨st', h2, h3, h4⟩
          · exact .inl ⟨fun lr => by rw [M_pop h1]; exact h2 lr, h3⟩
          · exact .inr ⟨st', h2, fun lr => by rw [M_pop h1]; exact h3 lr, h4⟩
def bO : S := match B_Lbad with
  | .seq _ (.seq (.fo _ _ b) _) => b
  | _ => .skip
theorem outer (hm : 2 < m) {L : List (List Str)} (hL : ∀ ws ∈ L, FL ws) (hn : L.length ≤ 70000) : ∀ (k p : Nat), p + k = L.length → ∀ (st : List En), StOk (p + 1) st → ∀ (c2 c3 c4 c5 c6 c7 c8 c9 : Cell),
    (∃ e : Nat, M st (L.drop p) p = some e ∧ forG (tab prog wf m) bO (.one 2) ((List.range' p k).map fun k : Nat => D.int k) [.val (.lst (strL (L.map jn))), .own (stD st), c2, c3, c4, c5, c6, c7, c8, c9] om = .ret (.int (e : Int)) om) ∨
    (∃ (st' : List En) (c2' c3' c4' c5' c6' c7' c8' : Cell), M st (L.drop p) p = M st' [] L.length ∧ StOk (L.length + 1) st' ∧ forG (tab prog wf m) bO (.one 2) ((List.range' p k).map fun k : Nat => D.int k) [.val (.lst (strL (L.map jn))), .own (stD st), c2, c3, c4, c5, c6, c7, c8, c9] om = .next [.val (.lst (strL (L.map jn))), .own (stD st'), c2', c3', c4', c5', c6', c7', c8', c9] om)
  | 0, p, hp, st, hst, c2, c3, c4, c5, c6, c7, c8, c9 => by
    have e : L.drop p = [] := List.drop_of_length_le (by omega)
    have ep : p = L.length := by omega
    exact .inr ⟨st, c2, c3, c4, c5, c6, c7, c8, by rw [e, ep], by rw [← ep]; exact hst, rfl⟩
  | k + 1, p, hp, st, hst, c2, c3, c4, c5, c6, c7, c8, c9 => by
    have hpl : p < L.length := by omega
    have hdr : L.drop p = L[p] :: L.drop (p + 1) := List.drop_eq_getElem_cons hpl
    have hl : FL L[p] := hL _ (List.getElem_mem hpl)
    have hx : ∀ om : Om, ixD (.lst (strL (L.map jn))) (.int (p : Int)) om = .ok (.str (jn L[p])) om := fun om => x_l (by
      rw [PD.atI_nat, List.getElem?_map, List.getElem?_map, List.getElem?_eq_getElem hpl]
      rfl)
    have hsp := fun om => hl.split (om := om)
    have hb : bO = .seq (.set 3 (.mb .split (.ix (.v 0) (.v 2)) (.k (.str (Str.ofString " "))))) (.seq (.set 4 (.k (.bl false))) (.seq (.fo (.one 5) (.rng1 (.k (.int 100))) bI) (.seq (.ite (.no (.v 4)) (.seq (.ret (.v 2)) .skip) .skip) .skip))) := rfl
    have hr : ∀ om : Om, kR1 (.ok (.int 100) om) = .ok ((List.range 100).map fun (k : Nat) => .int k) om := fun om => by
      rw [r_rng1a (by decide) (by decide)]
      rfl
    rw [List.range'_succ, List.map_cons, f_cons]
    simp only [List.set_cons_succ, List.set_cons_zero]
    have hpre : evS (tab prog wf m) bO [.val (.lst (strL (L.map jn))), .own (stD st), .val (.int (p : Int)), c3, c4, c5, c6, c7, c8, c9] om =
        seqO (tab prog wf m) (forG (tab prog wf m) bI (.one 5) ((List.range 100).map fun (k : Nat) => D.int k) [.val (.lst (strL (L.map jn))), .own (stD st), .val (.int (p : Int)), .val (.lst (strL L[p])), .val (.bl false), c5, c6, c7, c8, c9] om) (.seq (.ite (.no (.v 4)) (.seq (.ret (.v 2)) .skip) .skip) .skip) := by
      rw [hb, z_seq, z_set, r_mb, r_ix, r_v rfl, r_ix1, r_v rfl, r_ix2, hx, r_mb1, r_k, r_mb2, hsp, z_set1, z_seq1]
      simp only [List.set_cons_succ, List.set_cons_zero]
      rw [z_seq, z_set, r_k, z_set1, z_seq1]
      simp only [List.set_cons_succ, List.set_cons_zero]
      rw [z_seq, z_fo, r_rng1, r_k, hr, z_fo1]
    have hlen := hst.len
    rcases turns (wf := wf) (m := m) (om := om) hm (ls := L.map jn) hl (p := p) (N := p + 1) (by omega) st hst (List.range 100) (by rw [List.length_range]; omega) c5 c6 c7 c8 c9 with ⟨h1, h2⟩ | ⟨st', h1, h2, x', a6, a7, a8, h3⟩
    · refine .inl ⟨p, by rw [hdr]; exact h1 _, ?_⟩
      rcases h2 with h2 | ⟨x', a6, a7, a8, h2⟩
      · rw [hpre, h2, z_seq2, f_r]
      · rw [hpre, h2, z_seq1, z_seq, z_ite, r_no, r_v rfl, r_no1]
        simp only [Bool.not_false]
        rw [r_tr1, z_ite1, z_seq, z_ret, r_v rfl, z_ret1, z_seq2, z_seq2, f_r]
    · have e1 : evS (tab prog wf m) bO [.val (.lst (strL (L.map jn))), .own (stD st), .val (.int (p : Int)), c3, c4, c5, c6, c7, c8, c9] om = .next [.val (.lst (strL (L.map jn))), .own (stD st'), .val (.int (p : Int)), .val (.lst (strL L[p])), .val (.bl true), x', a6, a7, a8, c9] om := by
        rw [hpre, h3, z_seq1, z_seq, z_ite, r_no, r_v rfl, r_no1]
        simp only [Bool.not_true]
        rw [r_tr1, z_ite2, z_skip, z_seq1, z_skip]
      rw [e1, f_n, hdr, h2]
      exact outer hm hL hn k (p + 1) (by omega) st' h1 _ _ _ _ _ _ _ _
theorem plan_eq {T : Tb} (e : En) : cmp T .eq (match eD e with | .tup (x :: _) => x | _ => .non) (.str (Str.ofString "plan")) om = .ok e.isPlan om := by
  cases e with
  | plan d =>
    show cmp T .eq (.str (Str.ofString "plan")) (.str (Str.ofString "plan")) om = _
    rw [o_eqs plok plok, beq_self_eq_true]
    rfl
  | parts d s =>
    show cmp T .eq (.str (Str.ofString "parts")) (.str (Str.ofString "plan")) om = _
    rw [o_eqs paok plok]
    rfl
theorem plans_left {T : Tb} {sl : Sl} (hs : 9 < sl.length) : ∀ (l : List En), cmpG T (.cm .eq (.ix (.v 9) (.k (.int 0))) (.k (.str (Str.ofString "plan")))) (.v 9) (.one 9) sl (l.map eD) om = .ok ((l.filter En.isPlan).map eD) om
  | [] => rfl
  | e :: l => by
    have hg : (sl.set 9 (.val (eD e)))[9]? = some (.val (eD e)) := by
      rw [List.getElem?_set_self hs]
    have hx : ∀ om : Om, ixD (eD e) (.int 0) om = .ok (match eD e with | .tup (x :: _) => x | _ => .non) om := fun om => by
      cases e with
      | plan d => exact x_t atI0
      | parts d s => exact x_t atI0
    rw [List.map_cons, c_cons, r_cm, r_ix, r_v hg, r_ix1, r_k, r_ix2, hx, r_cm1, r_k, r_cm2, plan_eq, r_bl, r_tr1]
    cases h : e.isPlan with
    | true =>
      rw [c_t, r_v hg, c_2, plans_left hs l, c_3, List.filter_cons_of_pos h]
      rfl
    | false =>
      rw [c_f, plans_left hs l, List.filter_cons_of_neg (by rw [h]; decide)]
def badD : Option Nat → D
  | some k => .int (k : Int)
  | none => .non
theorem bad_ok (hm : 3 < m) {L : List (List Str)} (hL : ∀ ws ∈ L, FL ws) (hn : L.length ≤ 70000) : callN prog wf m 20 [.lst (strL (L.map jn))] om = .ok (badD (M [.plan 0] L 0)) om := by
  obtain ⟨m, rfl⟩ : ∃ j, m = j + 1 := ⟨m - 1, by omega⟩
  refine call_ret (d := ⟨1, 10, B_Lbad, none⟩) rfl rfl rfl ?_
  have hs : slots ⟨1, 10, B_Lbad, none⟩ [.lst (strL (L.map jn))] = [.val (.lst (strL (L.map jn))), .no, .no, .no, .no, .no, .no, .no, .no, .no] := rfl
  have hb : B_Lbad = .seq (.setO 1 (.lst (.cons (.tup (.cons (.k (.str (Str.ofString "plan"))) (.cons (.k (.int 0)) .nil))) .nil))) (.seq (.fo (.one 2) (.rng1 (.bi .len (.v 0))) bO) (.seq (.ite (.cm .gt (.bi .len (.comp (.one 9) (.itl (.b 1)) (.cm .eq (.ix (.v 9) (.k (.int 0))) (.k (.str (Str.ofString "plan")))) (.v 9))) (.k (.int 0))) (.seq (.ret (.bi .len (.v 0))) .skip) .skip) (.seq (.ret (.k .non)) .skip))) := rfl
  have hlen : ∀ om : Om, biD (tab prog wf m) .len (.lst (strL (L.map jn))) om = .ok (.int (L.length : Int)) om := fun om => by
    rw [b_lenl, strL_len, List.length_map]
  have hr : ∀ om : Om, kR1 (.ok (.int (L.length : Int)) om) = .ok ((List.range' 0 L.length).map fun (k : Nat) => .int k) om := fun om => by
    rw [r_rng1a (by omega) (by omega), Int.toNat_natCast, List.range_eq_range']
  have hst0 : StOk (0 + 1) [.plan 0] := ⟨by simp, fun e he => by rw [List.mem_singleton.mp he]; exact Nat.zero_le _, fun d s h => by simp at h⟩
  rw [hs, hb, z_seq, z_setO, r_lst, r_l, r_tup, r_l, r_k, r_l1, r_l, r_k, r_l1, r_l0, r_l2, r_l2, r_tup1, if_pos (by simp), r_l1, r_l0, r_l2, r_lst1, if_pos (by simp), z_setO1, z_seq1]
  simp only [List.set_cons_succ, List.set_cons_zero]
  rw [z_seq, z_fo, r_rng1, r_bi, r_v rfl, r_bi1, hlen, hr, z_fo1]
  rw [show ([D.tup [.str (Str.ofString "plan"), .int 0]] : List D) = stD [.plan 0] from rfl]
  rcases outer (wf := wf) (m := m) (om := om) (by omega) hL hn L.length 0 (by omega) [.plan 0] hst0 .no .no .no .no .no .no .no .no with ⟨e, h1, h2⟩ | ⟨st', c2', c3', c4', c5', c6', c7', c8', h1, h2, h3⟩
  · rw [h2, z_seq2]
    rw [List.drop_zero] at h1
    rw [h1]
    rfl
  · rw [List.drop_zero] at h1
    rw [h3, z_seq1, h1, M_nil]
    have hsl : (stD st').length ≤ 1000000 := by
      rw [st_len]
      have := h2.len
      omega
    have hcm : cmpG (tab prog wf m) (.cm .eq (.ix (.v 9) (.k (.int 0))) (.k (.str (Str.ofString "plan")))) (.v 9) (.one 9) [.val (.lst (strL (L.map jn))), .own (stD st'), c2', c3', c4', c5', c6', c7', c8', .no] (stD st') om = .ok ((st'.reverse.filter En.isPlan).map eD) om := plans_left (T := tab prog wf m) (om := om) (sl := [.val (.lst (strL (L.map jn))), .own (stD st'), c2', c3', c4', c5', c6', c7', c8', .no]) (by show 9 < 10; decide) st'.reverse
    have hit : ∀ om : Om, kIt (.ok (.lst (stD st')) om) = .ok (stD st') om := fun om => rfl
    rw [z_seq, z_ite, r_cm, r_bi, r_comp, r_itl, r_bo rfl, hit, r_comp1, if_pos hsl, wi_1]
    simp only [List.set_cons_succ, List.set_cons_zero]
    rw [hcm, r_comp2, r_bi1, b_lenl, r_cm1, r_k, r_cm2, o_gt, r_bl, r_tr1, List.length_map]
    by_cases ha : st'.any En.isPlan = true
    · rw [if_pos ha]
      have hp : 0 < (st'.reverse.filter En.isPlan).length := by
        obtain ⟨e, he, hq⟩ := List.any_eq_true.mp ha
        exact List.length_pos_of_mem (List.mem_filter.mpr ⟨List.mem_reverse.mpr he, hq⟩)
      rw [decide_eq_true (by omega), z_ite1, z_seq, z_ret, r_bi, r_v rfl, r_bi1, hlen, z_ret1, z_seq2, z_seq2]
      rfl
    · rw [if_neg ha]
      have hp : (st'.reverse.filter En.isPlan).length = 0 := by
        rw [List.length_eq_zero_iff, List.filter_eq_nil_iff]
        intro e he hq
        exact ha (List.any_eq_true.mpr ⟨e, List.mem_reverse.mp he, hq⟩)
      rw [hp, decide_eq_false (by decide), z_ite2, z_skip, z_seq1, z_seq, z_ret, r_k, z_ret1, z_seq2]
      rfl
end
end K81

set_option Elab.async false
set_option linter.all false
set_option maxRecDepth 100000
set_option maxHeartbeats 4000000
/-! K81R: the reader on any lines. -/
namespace K81
open PySem L2 PD
/-! ### the reader's own object -/
def LD (ls : List (List Str)) : D := .lst (ls.map fun ws => .lst (strL ws))
def cx (p : Ob) (ls : List (List Str)) (k : Nat) : Om := [p, .ob 0 [LD ls, .int (k : Int)]]
section
variable {wf m : Nat} {om : Om} {p : Ob} {ls : List (List Str)} {k : Nat}
theorem isc1 : isC 0 (.amb 1) (cx p ls k) = true := rfl
theorem f0 : kFld (.ok (.amb 1) (cx p ls k)) 0 0 = .ok (LD ls) (cx p ls k) := rfl
theorem f1 : kFld (.ok (.amb 1) (cx p ls k)) 0 1 = .ok (.int (k : Int)) (cx p ls k) := rfl
theorem len_LD {T : Tb} : biD T .len (LD ls) (cx p ls k) = .ok (.int (ls.length : Int)) (cx p ls k) := by
  show Rs.ok (D.int ((ls.map fun ws => D.lst (strL ws)).length : Int)) _ = _
  rw [List.length_map]
theorem ix_LD {ws : List Str} (h : ls[k]? = some ws) : ixD (LD ls) (.int (k : Int)) (cx p ls k) = .ok (.lst (strL ws)) (cx p ls k) := by
  refine x_l ?_
  rw [PD.atI_nat, List.getElem?_map, h]
  rfl
theorem begins_end {dep : Int} {w : Str} (hm : 0 < m) (h : ls.length ≤ k) : callN prog wf m 4 [.amb 1, .int dep, .str w] (cx p ls k) = .ok (.bl false) (cx p ls k) := by
  obtain ⟨m, rfl⟩ : ∃ j, m = j + 1 := ⟨m - 1, by omega⟩
  refine call_ret (d := ⟨3, 4, B_PlanReader_begins, none⟩) rfl rfl rfl ?_
  have hs : slots ⟨3, 4, B_PlanReader_begins, none⟩ [.amb 1, .int dep, .str w] = [.val (.amb 1), .val (.int dep), .val (.str w), .no] := rfl
  rw [hs]
  unfold B_PlanReader_begins
  rw [z_seq, z_ite, r_cm, r_fld, r_v rfl, f1, r_cm1, r_bi, r_fld, r_v rfl, f0, r_bi1, len_LD, r_cm2, o_ge, decide_eq_true (by omega), r_bl, r_tr1, z_ite1, z_seq, z_ret, r_k, z_ret1, z_seq2, z_seq2]
theorem begins_at {dep : Nat} {w : Str} {ws : List Str} (hm : 0 < m) (hd : dep ≤ 1000) (h : ls[k]? = some ws) (hg : ∀ x ∈ ws, PyData.strOk x = true) (hw : PyData.strOk w = true) :
    callN prog wf m 4 [.amb 1, .int (dep : Int), .str w] (cx p ls k) = .ok (.bl (decide (ws.take dep = dots dep) && decide ((ws.drop dep).take 1 = [w]))) (cx p ls k) := by
  obtain ⟨m, rfl⟩ : ∃ j, m = j + 1 := ⟨m - 1, by omega⟩
  have hk : k < ls.length := (List.getElem?_eq_some_iff.mp h).1
  refine call_ret (d := ⟨3, 4, B_PlanReader_begins, none⟩) rfl rfl rfl ?_
  have hs : slots ⟨3, 4, B_PlanReader_begins, none⟩ [.amb 1, .int (dep : Int), .str w] = [.val (.amb 1), .val (.int dep), .val (.str w), .no] := rfl
  rw [hs]
  have e1 := o_eqls (T := tab prog wf m) (om := cx p ls k) (xs := ws.take dep) (ys := dots dep) (fun x hx => hg x (List.mem_of_mem_take hx)) (fun x hx => (gw_dots x hx).2.1)
  have e2 := o_eqls (T := tab prog wf m) (om := cx p ls k) (xs := (ws.drop dep).take 1) (ys := [w]) (fun x hx => hg x (List.mem_of_mem_drop (List.mem_of_mem_take hx))) (fun x hx => by rw [List.mem_singleton.mp hx]; exact hw)
  unfold B_PlanReader_begins
  rw [z_seq, z_ite, r_cm, r_fld, r_v rfl, f1, r_cm1, r_bi, r_fld, r_v rfl, f0, r_bi1, len_LD, r_cm2, o_ge, decide_eq_false (by omega), r_bl, r_tr1, z_ite2, z_skip, z_seq1, z_seq, z_set, r_ix, r_fld, r_v rfl, f0, r_ix1, r_fld, r_v rfl, f1, r_ix2, ix_LD h, z_set1, z_seq1]
  simp only [List.set_cons_succ, List.set_cons_zero]
  have hA : evE (tab prog wf m) (.cm .eq (.sl (.v 3) .nop (.cons (.v 1) .nil)) (.op .mul (.lst (.cons (.k (.str (Str.ofString "."))) .nil)) (.v 1))) [.val (.amb 1), .val (.int (dep : Int)), .val (.str w), .val (.lst (strL ws))] (cx p ls k) = .ok (.bl (decide (ws.take dep = dots dep))) (cx p ls k) := by
    rw [r_cm, r_sl, r_v rfl, r_sl1, r_o0, r_sl2, r_o1, r_v rfl, r_o2, r_sl3, sl_l, cut_take, r_cm1, r_op, r_lst, r_l, r_k, r_l1, r_l0, r_l2, r_lst1, if_pos (by simp), r_op1, r_v rfl, r_op2, o_dots hd, r_cm2, e1, r_bl]
  have hB : evE (tab prog wf m) (.cm .eq (.sl (.v 3) (.cons (.v 1) .nil) (.cons (.op .add (.v 1) (.k (.int 1))) .nil)) (.lst (.cons (.v 2) .nil))) [.val (.amb 1), .val (.int (dep : Int)), .val (.str w), .val (.lst (strL ws))] (cx p ls k) = .ok (.bl (decide ((ws.drop dep).take 1 = [w]))) (cx p ls k) := by
    rw [r_cm, r_sl, r_v rfl, r_sl1, r_o1, r_v rfl, r_o2, r_sl2, r_o1, r_op, r_v rfl, r_op1, r_k, r_op2, o_addi, r_o2, r_sl3, sl_l, cut_one, r_cm1, r_lst, r_l, r_v rfl, r_l1, r_l0, r_l2, r_lst1, if_pos (by simp), r_cm2]
    rw [show [D.str w] = strL [w] from rfl, e2, r_bl]
  rw [z_seq, z_ret, r_an, hA]
  cases decide (ws.take dep = dots dep) with
  | false => rw [r_an2, z_ret1, z_seq2, Bool.false_and]
  | true => rw [r_an1, hB, z_ret1, z_seq2, Bool.true_and]
/-- the line's number, or its error -/
theorem number_any {dep : Nat} {w : Str} {ws : List Str} (hm : 1 < m) (hl : FL ws) (h : ls[k]? = some ws) (hb : ws.take dep = dots dep ∧ (ws.drop dep).take 1 = [w]) :
    (∀ j, ws = dots dep ++ [w, num j] → (num j).length ≤ 60 → callN prog wf m 5 [.amb 1, .int (dep : Int)] (cx p ls k) = .ok (.int (j : Int)) (cx p ls (k + 1))) ∧
    (¬ HeadL w dep ws → callN prog wf m 5 [.amb 1, .int (dep : Int)] (cx p ls k) = .exc 6 [.int (k : Int)] (cx p ls k)) := by
  obtain ⟨m, rfl⟩ : ∃ j, m = j + 1 := ⟨m - 1, by omega⟩
  have hs : slots ⟨2, 3, B_PlanReader_number, none⟩ [.amb 1, .int (dep : Int)] = [.val (.amb 1), .val (.int dep), .no] := rfl
  refine ⟨fun j e hj => ?_, fun hn => ?_⟩
  · subst e
    refine call_ret (d := ⟨2, 3, B_PlanReader_number, none⟩) rfl rfl rfl ?_
    rw [hs]
    have hx : ∀ om : Om, ixD (.lst (strL (dots dep ++ [w, num j]))) (.int ((dep : Int) + 1)) om = .ok (.str (num j)) om := fun om => by
      refine x_l ?_
      rw [show (dep : Int) + 1 = ((dep + 1 : Nat) : Int) by omega, PD.atI_nat, List.getElem?_map, List.getElem?_append_right (by rw [dlen]; omega), dlen, show dep + 1 - dep = 1 by omega]
      rfl
    have hlen : ((strL (dots dep ++ [w, num j])).length : Int) = (dep : Int) + 2 := by
      rw [List.length_map, List.length_append, dlen]
      simp
    have hw := fun om => whole_num (wf := wf) (m := m) (om := om) (w := num j) (by omega) ⟨rfl, hj⟩
    have hst : kAF (.ok (.int 1) (cx p ls k)) 0 1 1 (k : Int) [.val (.amb 1), .val (.int (dep : Int)), .val (.lst (strL (dots dep ++ [w, num j])))] = .next [.val (.amb 1), .val (.int (dep : Int)), .val (.lst (strL (dots dep ++ [w, num j])))] (cx p ls (k + 1)) := rfl
    unfold B_PlanReader_number
    rw [z_seq, z_set, r_ix, r_fld, r_v rfl, f0, r_ix1, r_fld, r_v rfl, f1, r_ix2, ix_LD h, z_set1, z_seq1]
    simp only [List.set_cons_succ, List.set_cons_zero]
    rw [z_seq, z_ite, r_or, r_cm, r_bi, r_v rfl, r_bi1, b_lenl, hlen, r_cm1, r_op, r_v rfl, r_op1, r_k, r_op2, o_addi, r_cm2, o_nei, decide_eq_true rfl, Bool.not_true, r_bl, r_or2, r_cm, r_call, r_l, r_ix, r_v rfl, r_ix1, r_op, r_v rfl, r_op1, r_k, r_op2, o_addi, r_ix2, hx, r_l1, r_l0, r_l2, r_call1]
    rw [show (tab prog wf m).call 0 ([.str (num j)] ++ []) (cx p ls k) = callN prog wf m 0 [.str (num j)] (cx p ls k) from rfl, hw, r_cm1, r_k, r_cm2, o_isi, r_bl, r_tr1, z_ite2, z_skip, z_seq1, z_seq, z_auF (k := 1) (ds := [LD ls, .int (k : Int)]) (m := (k : Int)) (c := 0) rfl rfl rfl, r_k, hst, z_seq1, z_seq, z_ret, r_call, r_l, r_ix, r_v rfl, r_ix1, r_op, r_v rfl, r_op1, r_k, r_op2, o_addi, r_ix2, hx, r_l1, r_l0, r_l2, r_call1]
    rw [show (tab prog wf m).call 0 ([.str (num j)] ++ []) (cx p ls (k + 1)) = callN prog wf m 0 [.str (num j)] (cx p ls (k + 1)) from rfl, hw, z_ret1, z_seq2]
  · have hex : ∀ sl : Sl, sl[(0 : Nat)]? = some (.val (.amb 1)) → evS (tab prog wf m) (.rais 6 (.cons (.fld 0 1 (.v 0)) .nil)) sl (cx p ls k) = .exc 6 [.int (k : Int)] sl (cx p ls k) := fun sl h0 => by
      rw [z_rais, r_l, r_fld, r_v h0, f1, r_l1, r_l0, r_l2]
      rfl
    refine call_exc (d := ⟨2, 3, B_PlanReader_number, none⟩) (sl := [.val (.amb 1), .val (.int (dep : Int)), .val (.lst (strL ws))]) rfl rfl ?_
    rw [hs]
    unfold B_PlanReader_number
    rw [z_seq, z_set, r_ix, r_fld, r_v rfl, f0, r_ix1, r_fld, r_v rfl, f1, r_ix2, ix_LD h, z_set1, z_seq1]
    simp only [List.set_cons_succ, List.set_cons_zero]
    by_cases hlen : ws.length = dep + 2
    · have hl2 : ((strL ws).length : Int) = (dep : Int) + 2 := by rw [strL_len]; omega
      obtain ⟨w1, hw1⟩ : ∃ w1, ws.drop dep = [w, w1] := by
        have z : (ws.drop dep).length = 2 := by rw [List.length_drop]; omega
        cases q : ws.drop dep with
        | nil => rw [q] at z; exact nomatch z
        | cons a t =>
          cases t with
          | nil => rw [q] at z; exact nomatch z
          | cons b t =>
            cases t with
            | nil =>
              have e := hb.2
              rw [q] at e
              have e2 : a = w := (List.cons.inj e).1
              exact ⟨b, by rw [e2]⟩
            | cons c t => rw [q] at z; exact nomatch z
      have hm1 : w1 ∈ ws := List.mem_of_mem_drop (by rw [hw1]; simp)
      have hN : ¬ IsN w1 := fun hN => hn (head_iff.mpr ⟨hb.1, w1, hw1, hN⟩)
      have hx : ∀ om : Om, ixD (.lst (strL ws)) (.int ((dep : Int) + 1)) om = .ok (.str w1) om := fun om => by
        refine x_l ?_
        have e : ws[dep + 1]? = some w1 := by
          have : (ws.drop dep)[1]? = some w1 := by rw [hw1]; rfl
          rw [List.getElem?_drop] at this
          exact this
        rw [show (dep : Int) + 1 = ((dep + 1 : Nat) : Int) by omega, PD.atI_nat, List.getElem?_map, e]
        rfl
      have hw := whole_non (wf := wf) (m := m) (om := cx p ls k) (by omega) (by omega) (hl.w w1 hm1) hN
      rw [z_seq, z_ite, r_or, r_cm, r_bi, r_v rfl, r_bi1, b_lenl, hl2, r_cm1, r_op, r_v rfl, r_op1, r_k, r_op2, o_addi, r_cm2, o_nei, decide_eq_true rfl, Bool.not_true, r_bl, r_or2, r_cm, r_call, r_l, r_ix, r_v rfl, r_ix1, r_op, r_v rfl, r_op1, r_k, r_op2, o_addi, r_ix2, hx, r_l1, r_l0, r_l2, r_call1]
      rw [show (tab prog wf m).call 0 ([.str w1] ++ []) (cx p ls k) = callN prog wf m 0 [.str w1] (cx p ls k) from rfl, hw, r_cm1, r_k, r_cm2, o_isn, r_bl, r_tr1, z_ite1, z_seq, hex _ rfl, z_seq6, z_seq6]
    · have hl2 : ¬ ((strL ws).length : Int) = (dep : Int) + 2 := by rw [strL_len]; omega
      rw [z_seq, z_ite, r_or, r_cm, r_bi, r_v rfl, r_bi1, b_lenl, r_cm1, r_op, r_v rfl, r_op1, r_k, r_op2, o_addi, r_cm2, o_nei, decide_eq_false hl2, Bool.not_false, r_bl, r_or1, r_tr1, z_ite1, z_seq, hex _ rfl, z_seq6, z_seq6]
/-! ### signals -/
def B_sigW : S := (.seq (.setT [5, 2] (.meth 0 6 [] (.v 0) (.cons (.v 1) (.cons (.v 2) .nil)))) (.seq (.app 4 (.v 5)) .skip))
def C_sigW : E := (.cm .ne (.sl (.v 1) (.cons (.v 2) .nil) (.cons (.op .add (.v 2) (.k (.int 1))) .nil)) (.lst (.cons (.k (.str (Str.ofString ")"))) .nil)))
theorem sigW_cond {T : Tb} {words : List Str} {a : Nat} {c3 c4 c5 : Cell} (hg : ∀ w ∈ words, PyData.strOk w = true) : evE T C_sigW [.val (.amb 1), .val (.lst (strL words)), .val (.int (a : Int)), c3, c4, c5] om = .ok (.bl (!decide ((words.drop a).take 1 = [rp]))) om := by
  have e := o_nels (T := T) (om := om) (xs := (words.drop a).take 1) (ys := [rp]) (fun x hx => hg x (List.mem_of_mem_drop (List.mem_of_mem_take hx))) (fun x hx => by rw [List.mem_singleton.mp hx]; exact rpok)
  unfold C_sigW
  rw [r_cm, r_sl, r_v rfl, r_sl1, r_o1, r_v rfl, r_o2, r_sl2, r_o1, r_op, r_v rfl, r_op1, r_k, r_op2, o_addi, r_o2, r_sl3, sl_l, cut_one, r_cm1, r_lst, r_l, r_k, r_l1, r_l0, r_l2, r_lst1, if_pos (by simp), r_cm2]
  rw [show [D.str rp] = strL [rp] from rfl, e, r_bl]
/-- what reading a signal at r comes to -/
def SigSpec (wf m : Nat) (p : Ob) (ls : List (List Str)) (k : Nat) (words pre r : List Str) : Prop :=
  (∃ s r', okS s ∧ r = wS s ++ r' ∧ callN prog wf m 6 [.amb 1, .lst (strL words), .int (pre.length : Int)] (cx p ls k) = .ok (.tup [dS s, .int ((pre.length + (wS s).length : Nat) : Int)]) (cx p ls k)) ∨
  ((∀ s r', okS s → r ≠ wS s ++ r') ∧ callN prog wf m 6 [.amb 1, .lst (strL words), .int (pre.length : Int)] (cx p ls k) = .exc 6 [.int (k : Int)] (cx p ls k))
theorem wS_pos (s : Sg) : 0 < (wS s).length := by
  obtain ⟨w, t, e, _⟩ := wS_hd s
  rw [e, List.length_cons]
  omega
theorem sig_loop {words : List Str} {n : Nat} (hg : ∀ w ∈ words, PyData.strOk w = true) (hcall : ∀ pre r : List Str, words = pre ++ r → r.length ≤ n → SigSpec wf m p ls k words pre r) : ∀ (f : Nat) (pre r : List Str) (done : List D) (c5 : Cell), words = pre ++ r → r.length ≤ n → r.length < f → done.length + r.length ≤ 100 →
    (∃ l r' c5', okL l ∧ r = wL l ++ rp :: r' ∧ whlG (tab prog wf m) C_sigW B_sigW f [.val (.amb 1), .val (.lst (strL words)), .val (.int (pre.length : Int)), .no, .own done, c5] (cx p ls k) = .next [.val (.amb 1), .val (.lst (strL words)), .val (.int ((pre.length + (wL l).length : Nat) : Int)), .no, .own (done ++ dL l), c5'] (cx p ls k)) ∨
    ((∀ l r', okL l → r ≠ wL l ++ rp :: r') ∧ ∃ sl', whlG (tab prog wf m) C_sigW B_sigW f [.val (.amb 1), .val (.lst (strL words)), .val (.int (pre.length : Int)), .no, .own done, c5] (cx p ls k) = .exc 6 [.int (k : Int)] sl' (cx p ls k))
  | 0, pre, r, done, c5, hw, hn, hf, hd => absurd hf (Nat.not_lt_zero _)
  | f + 1, pre, r, done, c5, hw, hn, hf, hd => by
    have hdr : (words.drop pre.length).take 1 = r.take 1 := by rw [hw, List.drop_left]
    rw [w_step, sigW_cond hg, hdr]
    by_cases h1 : r.take 1 = [rp]
    · left
      obtain ⟨r', rfl⟩ : ∃ r', r = rp :: r' := by
        cases r with
        | nil => exact nomatch h1
        | cons a t => exact ⟨t, by rw [(List.cons.inj h1).1]⟩
      refine ⟨.nil, r', c5, by rw [okL]; trivial, by rw [wL]; rfl, ?_⟩
      rw [decide_eq_true h1, Bool.not_true, r_tr1, w_f, wL, dL]
      simp
    · rw [decide_eq_false h1, Bool.not_false, r_tr1, w_t]
      have nonil : ∀ l r', r = wL l ++ rp :: r' → ∃ s l2, l = .cons s l2 := fun l r' e => by
        cases l with
        | nil =>
          rw [wL] at e
          rw [e] at h1
          exact absurd rfl h1
        | cons s l2 => exact ⟨s, l2, rfl⟩
      rcases hcall pre r hw hn with ⟨s, r1, hs, rfl, hc⟩ | ⟨hno, hc⟩
      · have hb : evS (tab prog wf m) B_sigW [.val (.amb 1), .val (.lst (strL words)), .val (.int (pre.length : Int)), .no, .own done, c5] (cx p ls k) = .next [.val (.amb 1), .val (.lst (strL words)), .val (.int ((pre.length + (wS s).length : Nat) : Int)), .no, .own (done ++ [dS s]), .val (dS s)] (cx p ls k) := by
          unfold B_sigW
          rw [z_seq, z_setT, r_meth, r_v rfl, r_meth1 isc1, r_l, r_v rfl, r_l1, r_l, r_v rfl, r_l1, r_l0, r_l2, r_l2, r_meth2]
          rw [show (tab prog wf m).call 6 (.amb 1 :: ([.lst (strL words), .int (pre.length : Int)] ++ [])) (cx p ls k) = callN prog wf m 6 [.amb 1, .lst (strL words), .int (pre.length : Int)] (cx p ls k) from rfl, hc, z_setT1, if_pos (by simp), s_cons, s_cons, s_nil, z_seq1]
          simp only [List.set_cons_succ, List.set_cons_zero]
          rw [z_seq, z_app rfl, r_v rfl, z_app1, if_pos (by omega), z_seq1, z_skip]
          rfl
        have hp := wS_pos s
        rw [List.length_append] at hn hf hd
        have hw2 : words = (pre ++ wS s) ++ r1 := by rw [hw, List.append_assoc]
        rw [hb, w_n]
        rcases sig_loop hg hcall f (pre ++ wS s) r1 (done ++ [dS s]) (.val (dS s)) hw2 (by omega) (by omega) (by rw [List.length_append, List.length_singleton]; omega) with ⟨l, r', c5', hl, rfl, e⟩ | ⟨h2, sl', e⟩
        · left
          refine ⟨.cons s l, r', c5', by rw [okL]; exact ⟨hs, hl⟩, by rw [wL, List.append_assoc], ?_⟩
          rw [List.length_append] at e
          rw [e, wL, dL, List.length_append]
          simp [Nat.add_assoc]
        · right
          refine ⟨fun l r' hl e2 => ?_, sl', ?_⟩
          · obtain ⟨s', l2, rfl⟩ := nonil l r' e2
            rw [wL, List.append_assoc] at e2
            rw [okL] at hl
            obtain ⟨_, e3⟩ := wS_inj s s' _ _ e2
            exact h2 l2 r' hl.2 e3
          · rw [List.length_append] at e
            exact e
      · right
        refine ⟨fun l r' hl e2 => ?_, [.val (.amb 1), .val (.lst (strL words)), .val (.int (pre.length : Int)), .no, .own done, c5], ?_⟩
        · obtain ⟨s', l2, rfl⟩ := nonil l r' e2
          rw [wL, List.append_assoc] at e2
          rw [okL] at hl
          exact hno s' _ hl.1 e2
        · have hb : evS (tab prog wf m) B_sigW [.val (.amb 1), .val (.lst (strL words)), .val (.int (pre.length : Int)), .no, .own done, c5] (cx p ls k) = .exc 6 [.int (k : Int)] [.val (.amb 1), .val (.lst (strL words)), .val (.int (pre.length : Int)), .no, .own done, c5] (cx p ls k) := by
            unfold B_sigW
            rw [z_seq, z_setT, r_meth, r_v rfl, r_meth1 isc1, r_l, r_v rfl, r_l1, r_l, r_v rfl, r_l1, r_l0, r_l2, r_l2, r_meth2]
            rw [show (tab prog wf m).call 6 (.amb 1 :: ([.lst (strL words), .int (pre.length : Int)] ++ [])) (cx p ls k) = callN prog wf m 6 [.amb 1, .lst (strL words), .int (pre.length : Int)] (cx p ls k) from rfl, hc, e_kSetT, z_seq6]
          rw [hb, w_e]
theorem sig_any {words : List Str} (hl : FL words) (hwf : 100 ≤ wf) : ∀ (n : Nat) (pre r : List Str) (m : Nat), words = pre ++ r → r.length ≤ n → n + 2 < m → SigSpec wf m p ls k words pre r := by
  intro n
  induction n with
  | zero =>
    intro pre r m hw hn hm
    have hr : r = [] := List.eq_nil_of_length_eq_zero (by omega)
    subst hr
    obtain ⟨m, rfl⟩ : ∃ j, m = j + 1 := ⟨m - 1, by omega⟩
    right
    refine ⟨fun s r' _ e => ?_, ?_⟩
    · obtain ⟨w, t, e1, _⟩ := wS_hd s
      rw [e1] at e
      exact nomatch e
    · have hge : words.length ≤ pre.length := by rw [hw]; simp
      refine call_exc (d := ⟨3, 6, B_PlanReader_signal, none⟩) (sl := [.val (.amb 1), .val (.lst (strL words)), .val (.int (pre.length : Int)), .no, .no, .no]) rfl rfl ?_
      have hs : slots ⟨3, 6, B_PlanReader_signal, none⟩ [.amb 1, .lst (strL words), .int (pre.length : Int)] = [.val (.amb 1), .val (.lst (strL words)), .val (.int (pre.length : Int)), .no, .no, .no] := rfl
      have hex : ∀ sl : Sl, sl[(0 : Nat)]? = some (.val (.amb 1)) → evS (tab prog wf m) (.rais 6 (.cons (.fld 0 1 (.v 0)) .nil)) sl (cx p ls k) = .exc 6 [.int (k : Int)] sl (cx p ls k) := fun sl h0 => by
        rw [z_rais, r_l, r_fld, r_v h0, f1, r_l1, r_l0, r_l2]
        rfl
      rw [hs]
      unfold B_PlanReader_signal
      rw [z_seq, z_ite, r_cm, r_v rfl, r_cm1, r_bi, r_v rfl, r_bi1, b_lenl, r_cm2, o_ge, decide_eq_true (by rw [strL_len]; omega), r_bl, r_tr1, z_ite1, z_seq, hex _ rfl, z_seq6, z_seq6]
  | succ n ih =>
    intro pre r m hw hn hm
    by_cases hr : r.length ≤ n
    · exact ih pre r m hw hr (by omega)
    obtain ⟨m, rfl⟩ : ∃ j, m = j + 1 := ⟨m - 1, by omega⟩
    have hs : slots ⟨3, 6, B_PlanReader_signal, none⟩ [.amb 1, .lst (strL words), .int (pre.length : Int)] = [.val (.amb 1), .val (.lst (strL words)), .val (.int (pre.length : Int)), .no, .no, .no] := rfl
    have hex : ∀ sl : Sl, sl[(0 : Nat)]? = some (.val (.amb 1)) → evS (tab prog wf m) (.rais 6 (.cons (.fld 0 1 (.v 0)) .nil)) sl (cx p ls k) = .exc 6 [.int (k : Int)] sl (cx p ls k) := fun sl h0 => by
      rw [z_rais, r_l, r_fld, r_v h0, f1, r_l1, r_l0, r_l2]
      rfl
    cases r with
    | nil => exact absurd (Nat.zero_le _) hr
    | cons w t =>
      have hwm : w ∈ words := by rw [hw]; simp
      have hw0 := hl.w w hwm
      have hlen : pre.length < words.length := by rw [hw]; simp
      have hl64 := hl.len
      have hx : ∀ om : Om, ixD (.lst (strL words)) (.int (pre.length : Int)) om = .ok (.str w) om := fun om => by
        refine x_l ?_
        rw [PD.atI_nat, List.getElem?_map, hw, List.getElem?_append_right (Nat.le_refl _), Nat.sub_self]
        rfl
      by_cases h1 : w = lp
      · subst h1
        rw [List.length_cons] at hn
        have hw2 : words = (pre ++ [lp]) ++ t := by rw [hw]; simp
        have hcall : ∀ pre r : List Str, words = pre ++ r → r.length ≤ n → SigSpec wf m p ls k words pre r := fun pre r e h => ih pre r m e h (by omega)
        have htl : t.length < wf := by
          have := congrArg List.length hw
          rw [List.length_append, List.length_cons] at this
          omega
        have hdl : ([] : List D).length + t.length ≤ 100 := by
          have := congrArg List.length hw
          rw [List.length_append, List.length_cons] at this
          simp
          omega
        have el : ((pre ++ [lp]).length : Int) = (pre.length : Int) + 1 := by simp
        have pre_ev : ∀ X, evS (tab prog wf m) B_PlanReader_signal [.val (.amb 1), .val (.lst (strL words)), .val (.int (pre.length : Int)), .no, .no, .no] (cx p ls k) = X ↔
            seqO (tab prog wf m) (whlG (tab prog wf m) C_sigW B_sigW wf [.val (.amb 1), .val (.lst (strL words)), .val (.int ((pre.length : Int) + 1)), .no, .own [], .no] (cx p ls k)) (.seq (.ret (.tup (.cons (.bi .tuple (.b 4)) (.cons (.op .add (.v 2) (.k (.int 1))) .nil)))) .skip) = X := fun X => by
          unfold B_PlanReader_signal
          rw [z_seq, z_ite, r_cm, r_v rfl, r_cm1, r_bi, r_v rfl, r_bi1, b_lenl, r_cm2, o_ge, decide_eq_false (by rw [strL_len]; omega), r_bl, r_tr1, z_ite2, z_skip, z_seq1, z_seq, z_ite, r_cm, r_ix, r_v rfl, r_ix1, r_v rfl, r_ix2, hx, r_cm1, r_k, r_cm2, o_nes lpok lpok, beq_self_eq_true, Bool.not_true, r_bl, r_tr1, z_ite2, z_skip, z_seq1, z_seq, z_setO, r_lst, r_l0, r_lst1, if_pos (by simp), z_setO1, z_seq1]
          simp only [List.set_cons_succ, List.set_cons_zero]
          rw [z_seq, z_aug rfl, r_k, z_aug1, z_seq1]
          simp only [List.set_cons_succ, List.set_cons_zero]
          rw [z_seq, z_whl]
          exact Iff.rfl
        rcases sig_loop (wf := wf) (m := m) (p := p) (ls := ls) (k := k) hl.ok hcall wf (pre ++ [lp]) t [] .no hw2 (by omega) htl hdl with ⟨l, r', c5', hol, rfl, e⟩ | ⟨h2, sl', e⟩
        · left
          refine ⟨.b l, r', by rw [okS]; exact hol, by rw [wS]; simp, ?_⟩
          refine call_ret (d := ⟨3, 6, B_PlanReader_signal, none⟩) rfl rfl rfl ?_
          rw [el] at e
          rw [hs]
          refine (pre_ev _).mpr ?_
          rw [e, z_seq1, z_seq, z_ret, r_tup, r_l, r_bi, r_bo rfl, r_bi1, b_tl, r_l1, r_l, r_op, r_v rfl, r_op1, r_k, r_op2, o_addi, r_l1, r_l0, r_l2, r_l2, r_tup1, if_pos (by simp), z_ret1, z_seq2, List.nil_append, dS, wS]
          congr 4
          simp
          omega
        · right
          refine ⟨fun s r' hos e2 => ?_, ?_⟩
          · cases s with
            | n j =>
              rw [wS] at e2
              exact num_lp (List.cons.inj e2).1.symm
            | b l =>
              rw [okS] at hos
              rw [wS] at e2
              have e3 : t = (wL l ++ [rp]) ++ r' := (List.cons.inj e2).2
              rw [List.append_assoc] at e3
              exact h2 l r' hos e3
          · refine call_exc (d := ⟨3, 6, B_PlanReader_signal, none⟩) (sl := sl') rfl rfl ?_
            rw [el] at e
            rw [hs]
            refine (pre_ev _).mpr ?_
            rw [e, z_seq6]
      · have hne : (w == lp) = false := by rw [dec_eq, decide_eq_false h1]
        have pre_ev : ∀ X, evS (tab prog wf m) B_PlanReader_signal [.val (.amb 1), .val (.lst (strL words)), .val (.int (pre.length : Int)), .no, .no, .no] (cx p ls k) = X ↔
            seqO (tab prog wf m) (seqO (tab prog wf m) (kSet (callN prog wf m 0 [.str w] (cx p ls k)) 3 [.val (.amb 1), .val (.lst (strL words)), .val (.int (pre.length : Int)), .no, .no, .no]) (.seq (.ite (.cm .is (.v 3) (.k .non)) (.seq (.rais 6 (.cons (.fld 0 1 (.v 0)) .nil)) .skip) .skip) (.seq (.ret (.tup (.cons (.v 3) (.cons (.op .add (.v 2) (.k (.int 1))) .nil)))) .skip))) (match B_PlanReader_signal with | .seq _ (.seq _ b) => b | _ => .skip) = X := fun X => by
          unfold B_PlanReader_signal
          rw [z_seq, z_ite, r_cm, r_v rfl, r_cm1, r_bi, r_v rfl, r_bi1, b_lenl, r_cm2, o_ge, decide_eq_false (by rw [strL_len]; omega), r_bl, r_tr1, z_ite2, z_skip, z_seq1, z_seq, z_ite, r_cm, r_ix, r_v rfl, r_ix1, r_v rfl, r_ix2, hx, r_cm1, r_k, r_cm2, o_nes hw0.ok lpok, hne, Bool.not_false, r_bl, r_tr1, z_ite1, z_seq, z_set, r_call, r_l, r_ix, r_v rfl, r_ix1, r_v rfl, r_ix2, hx, r_l1, r_l0, r_l2, r_call1]
          exact Iff.rfl
        by_cases hN : IsN w
        · obtain ⟨j, hj⟩ := hN
          left
          refine ⟨.n j, t, by rw [okS]; rw [← hj.1]; exact hj.2, by rw [wS, ← hj.1]; rfl, ?_⟩
          refine call_ret (d := ⟨3, 6, B_PlanReader_signal, none⟩) rfl rfl rfl ?_
          rw [hs]
          refine (pre_ev _).mpr ?_
          rw [whole_num (by omega) hj, z_set1, z_seq1]
          simp only [List.set_cons_succ, List.set_cons_zero]
          rw [z_seq, z_ite, r_cm, r_v rfl, r_cm1, r_k, r_cm2, o_isi, r_bl, r_tr1, z_ite2, z_skip, z_seq1, z_seq, z_ret, r_tup, r_l, r_v rfl, r_l1, r_l, r_op, r_v rfl, r_op1, r_k, r_op2, o_addi, r_l1, r_l0, r_l2, r_l2, r_tup1, if_pos (by simp), z_ret1, z_seq2, z_seq2, dS, wS]
          rfl
        · right
          refine ⟨fun s r' hos e2 => ?_, ?_⟩
          · cases s with
            | n j =>
              rw [okS] at hos
              rw [wS] at e2
              have e3 := (List.cons.inj e2).1
              exact hN ⟨j, e3, by rw [e3]; exact hos⟩
            | b l =>
              rw [wS] at e2
              exact h1 (List.cons.inj e2).1
          · refine call_exc (d := ⟨3, 6, B_PlanReader_signal, none⟩) (sl := [.val (.amb 1), .val (.lst (strL words)), .val (.int (pre.length : Int)), .val .non, .no, .no]) rfl rfl ?_
            rw [hs]
            refine (pre_ev _).mpr ?_
            rw [whole_non (by omega) (by omega) hw0 hN, z_set1, z_seq1]
            simp only [List.set_cons_succ, List.set_cons_zero]
            rw [z_seq, z_ite, r_cm, r_v rfl, r_cm1, r_k, r_cm2, o_isn, r_bl, r_tr1, z_ite1, z_seq, hex _ rfl, z_seq6, z_seq6, z_seq6]
end
end K81

set_option Elab.async false
set_option linter.all false
set_option maxRecDepth 100000
set_option maxHeartbeats 4000000
/-! K81Q: plans read from any lines. -/
namespace K81
open PySem L2 PD
/-! ### signals compared -/
mutual
def pS : Sg → PyData
  | .n k => .int (k : Int)
  | .b l => .tuple (pL l)
def pL : Sgs → List PyData
  | .nil => []
  | .cons s l => pS s :: pL l
end
mutual
theorem toP_S : ∀ s : Sg, toP (dS s) = some (pS s)
  | .n k => by rw [dS, pS]; rfl
  | .b l => by rw [dS, pS, toP, toPs_L l]; rfl
theorem toPs_L : ∀ l : Sgs, toPs (dL l) = some (pL l)
  | .nil => by rw [dL, pL]; rfl
  | .cons s l => by rw [dL, pL, toPs, toP_S s, toPs_L l]
end
mutual
theorem eqv_S : ∀ s s' : Sg, PyData.eqv (pS s) (pS s') = true ↔ s = s'
  | .n k, .n k' => by
    rw [pS, pS]
    simp [PyData.eqv]
    omega
  | .n k, .b l => by
    rw [pS, pS]
    simp [PyData.eqv]
  | .b l, .n k => by
    rw [pS, pS]
    simp [PyData.eqv]
  | .b l, .b l' => by
    rw [pS, pS]
    have z := eqv_L l l'
    simp [PyData.eqv, z]
theorem eqv_L : ∀ l l' : Sgs, PyData.eqvAll (pL l) (pL l') = true ↔ l = l'
  | .nil, .nil => by
    rw [pL]
    simp [PyData.eqvAll]
  | .nil, .cons s l => by
    rw [pL, pL]
    simp [PyData.eqvAll]
  | .cons s l, .nil => by
    rw [pL, pL]
    simp [PyData.eqvAll]
  | .cons s l, .cons s' l' => by
    rw [pL, pL]
    have z1 := eqv_S s s'
    have z2 := eqv_L l l'
    simp [PyData.eqvAll, z1, z2]
end
mutual
theorem lay_S : ∀ (s : Sg) (n : Nat), (wS s).length ≤ 2 * n + 1 → Lay n (dS s)
  | .n k, n, _ => by rw [dS]; exact lay_int
  | .b l, n, h => by
    rw [wS, List.length_cons, List.length_append, List.length_singleton] at h
    obtain ⟨j, rfl⟩ : ∃ j, n = j + 1 := ⟨n - 1, by omega⟩
    rw [dS]
    exact lay_tup (lay_L l j (by omega))
theorem lay_L : ∀ (l : Sgs) (n : Nat), (wL l).length ≤ 2 * n + 1 → ∀ x ∈ dL l, Lay n x
  | .nil, n, _, x, hx => by
    rw [dL] at hx
    exact nomatch hx
  | .cons s l, n, h, x, hx => by
    rw [wL, List.length_append] at h
    rw [dL] at hx
    rcases List.mem_cons.mp hx with rfl | hx
    · exact lay_S s n (by omega)
    · exact lay_L l n (by omega) x hx
end
theorem in_sigs {s : Sg} {ss : List Sg} (h : (wS s).length ≤ 64) (hs : ∀ x ∈ ss, (wS x).length ≤ 64) : ∃ b, inD (dS s) (ss.map dS) = some b ∧ (b = true ↔ s ∈ ss) := by
  obtain ⟨b, hb⟩ := inD_some (n := 32) (lay_S s 32 (by omega)) (ys := ss.map dS) (fun y hy => by
    obtain ⟨x, hx, rfl⟩ := List.mem_map.mp hy
    exact lay_S x 32 (by have := hs x hx; omega)) (by decide)
  refine ⟨b, hb, ?_⟩
  have e : toPs (ss.map dS) = some (ss.map pS) := by
    clear hb hs
    induction ss with
    | nil => rfl
    | cons x ss ih =>
      rw [List.map_cons, List.map_cons, toPs, toP_S, ih]
  unfold inD at hb
  rw [toP_S, e] at hb
  dsimp only at hb
  split at hb
  · cases hb
    rw [List.any_eq_true]
    constructor
    · rintro ⟨z, hz, he⟩
      obtain ⟨x, hx, rfl⟩ := List.mem_map.mp hz
      rw [← (eqv_S x s).mp he]
      exact hx
    · intro hx
      exact ⟨_, List.mem_map.mpr ⟨s, hx, rfl⟩, (eqv_S s s).mpr rfl⟩
  · exact nomatch hb
/-! ### plans -/
mutual
def okP : Pl → Prop
  | .ch k => (num k).length ≤ 60
  | .ask k ps => (num k).length ≤ 60 ∧ okPs ps
def okPs : Pls → Prop
  | .nil => True
  | .cons s p ps => okS s ∧ okP p ∧ okPs ps
end
def toPls : List (Sg × Pl) → Pls
  | [] => .nil
  | x :: l => .cons x.1 x.2 (toPls l)
def ptl (d : Nat) (x : Sg × Pl) : List (List Str) := (dots (d + 1) ++ wI :: wS x.1) :: lP (d + 2) x.2
theorem lPs_of (d : Nat) : ∀ l : List (Sg × Pl), lPs d (toPls l) = (l.map (ptl d)).flatten
  | [] => by rw [toPls, lPs]; rfl
  | x :: l => by
    rw [toPls, lPs, lPs_of d l, List.map_cons, List.flatten_cons]
    rfl
theorem dPs_of : ∀ l : List (Sg × Pl), dPs (toPls l) = l.map fun x => .tup [dS x.1, dP x.2]
  | [] => by rw [toPls, dPs]; rfl
  | x :: l => by
    rw [toPls, dPs, dPs_of l, List.map_cons]
theorem okPs_of : ∀ l : List (Sg × Pl), (∀ x ∈ l, okS x.1 ∧ okP x.2) → okPs (toPls l)
  | [], _ => by rw [toPls, okPs]; trivial
  | x :: l, h => by
    rw [toPls, okPs]
    have z := h x List.mem_cons_self
    exact ⟨z.1, z.2, okPs_of l fun y hy => h y (List.mem_cons_of_mem _ hy)⟩
section
variable {wf m : Nat} {om : Om} {p : Ob} {ls : List (List Str)} {k : Nat}
def PlanSpec (wf m : Nat) (p : Ob) (ls : List (List Str)) (k d : Nat) : Prop :=
  (∃ (q : Pl) (k' : Nat), okP q ∧ k ≤ k' ∧ k' ≤ ls.length ∧ ls.drop k = lP d q ++ ls.drop k' ∧ (∀ st, M (.plan d :: st) (ls.drop k) k = M st (ls.drop k') k') ∧ callN prog wf m 7 [.amb 1, .int (d : Int)] (cx p ls k) = .ok (dP q) (cx p ls k')) ∨
  (∃ e k' : Nat, (∀ st, M (.plan d :: st) (ls.drop k) k = some e) ∧ callN prog wf m 7 [.amb 1, .int (d : Int)] (cx p ls k) = .exc 6 [.int (e : Int)] (cx p ls k'))
def C_plW : E := (.meth 0 4 [] (.v 0) (.cons (.op .add (.v 1) (.k (.int 1))) (.cons (.k (.str (Str.ofString "if"))) .nil)))
def B_plW : S := match B_PlanReader_plan with
  | .seq _ (.seq _ (.seq _ (.seq _ (.seq (.whl _ b) _)))) => b
  | _ => .skip
def rowD (x : Sg × Pl) : D := .tup [dS x.1, dP x.2]
theorem cond_end {d : Nat} {c2 c3 c4 c5 c6 c7 : Cell} (hm : 0 < m) (h : ls.length ≤ k) : evE (tab prog wf m) C_plW [.val (.amb 1), .val (.int (d : Int)), c2, c3, c4, c5, c6, c7] (cx p ls k) = .ok (.bl false) (cx p ls k) := by
  have hb := begins_end (wf := wf) (m := m) (p := p) (dep := (d : Int) + 1) (w := wI) hm h
  unfold C_plW
  rw [r_meth, r_v rfl, r_meth1 isc1, r_l, r_op, r_v rfl, r_op1, r_k, r_op2, o_addi, r_l1, r_l, r_k, r_l1, r_l0, r_l2, r_l2, r_meth2]
  exact hb
open Classical in
theorem cond_at {d : Nat} {l : List Str} {c2 c3 c4 c5 c6 c7 : Cell} (hm : 0 < m) (hd : d ≤ 66) (hl : FL l) (h : ls[k]? = some l) : evE (tab prog wf m) C_plW [.val (.amb 1), .val (.int (d : Int)), c2, c3, c4, c5, c6, c7] (cx p ls k) = .ok (.bl (decide (IfL (d + 1) l))) (cx p ls k) := by
  have hb := begins_at (wf := wf) (m := m) (p := p) (dep := d + 1) (w := wI) hm (by omega) h hl.ok wiok
  have e : (decide (l.take (d + 1) = dots (d + 1)) && decide ((l.drop (d + 1)).take 1 = [wI])) = decide (IfL (d + 1) l) := by
    rw [Bool.eq_iff_iff, Bool.and_eq_true, decide_eq_true_iff, decide_eq_true_iff, decide_eq_true_iff]
    exact Iff.rfl
  rw [e] at hb
  unfold C_plW
  rw [r_meth, r_v rfl, r_meth1 isc1, r_l, r_op, r_v rfl, r_op1, r_k, r_op2, o_addi, r_l1, r_l, r_k, r_l1, r_l0, r_l2, r_l2, r_meth2]
  exact hb
open Classical in
theorem parts_loop {d : Nat} {i : Nat} (hm : 70 < m) (hd : d ≤ 64) (hwf : 100 ≤ wf) (hL : ∀ ws ∈ ls, FL ws) (hn : ls.length ≤ 70000) (hplan : ∀ k', k < k' → k' ≤ ls.length → d + 2 ≤ 64 → PlanSpec wf m p ls k' (d + 2)) :
    ∀ (f k0 : Nat) (done : List (Sg × Pl)) (c4 c5 c6 : Cell), k ≤ k0 → k0 ≤ ls.length → ls.length - k0 < f → done.length ≤ k0 → (∀ x ∈ done, (okS x.1 ∧ okP x.2) ∧ (wS x.1).length ≤ 64) →
    (∃ (ps : List (Sg × Pl)) (k' : Nat) (c4' c5' c6' : Cell), (∀ x ∈ ps, okS x.1 ∧ okP x.2) ∧ k0 ≤ k' ∧ k' ≤ ls.length ∧ ls.drop k0 = (ps.map (ptl d)).flatten ++ ls.drop k' ∧ (∀ st, M (.parts (d + 1) (done.map fun x => wS x.1) :: st) (ls.drop k0) k0 = M st (ls.drop k') k') ∧
      whlG (tab prog wf m) C_plW B_plW f [.val (.amb 1), .val (.int (d : Int)), .val (.int (i : Int)), .own (done.map rowD), c4, c5, c6, .no] (cx p ls k0) = .next [.val (.amb 1), .val (.int (d : Int)), .val (.int (i : Int)), .own ((done ++ ps).map rowD), c4', c5', c6', .no] (cx p ls k')) ∨
    (∃ e k' : Nat, (∀ st, M (.parts (d + 1) (done.map fun x => wS x.1) :: st) (ls.drop k0) k0 = some e) ∧ ∃ sl', whlG (tab prog wf m) C_plW B_plW f [.val (.amb 1), .val (.int (d : Int)), .val (.int (i : Int)), .own (done.map rowD), c4, c5, c6, .no] (cx p ls k0) = .exc 6 [.int (e : Int)] sl' (cx p ls k'))
  | 0, k0, done, c4, c5, c6, h1, h2, h3, h4, h5 => absurd h3 (Nat.not_lt_zero _)
  | f + 1, k0, done, c4, c5, c6, h1, h2, h3, h4, h5 => by
    by_cases hk : ls.length ≤ k0
    · left
      have e : ls.drop k0 = [] := List.drop_of_length_le hk
      refine ⟨[], k0, c4, c5, c6, (fun _ h => nomatch h), Nat.le_refl _, h2, rfl, fun st => by rw [e, M_popn], ?_⟩
      rw [w_step, cond_end (by omega) hk, r_tr1, w_f, List.append_nil]
    · have hk' : k0 < ls.length := by omega
      have hdr : ls.drop k0 = ls[k0] :: ls.drop (k0 + 1) := List.drop_eq_getElem_cons hk'
      have hget : ls[k0]? = some ls[k0] := List.getElem?_eq_getElem hk'
      have hl : FL ls[k0] := hL _ (List.getElem_mem hk')
      generalize hlv : ls[k0] = l at hdr hget hl
      rw [w_step, cond_at (by omega) (by omega) hl hget]
      by_cases hif : IfL (d + 1) l
      · have hlen2 : d + 2 ≤ l.length := by
          have z1 := congrArg List.length hif.1
          have z2 := congrArg List.length hif.2
          rw [List.length_take, dlen] at z1
          rw [List.length_take, List.length_drop, List.length_singleton] at z2
          omega
        have hl64 := hl.len
        have hw : l = l.take (d + 2) ++ l.drop (d + 2) := (List.take_append_drop _ _).symm
        have hpl : (l.take (d + 2)).length = d + 2 := by rw [List.length_take]; omega
        have hspec := sig_any (wf := wf) (p := p) (ls := ls) (k := k0) hl hwf 64 (l.take (d + 2)) (l.drop (d + 2)) m hw (by rw [List.length_drop]; omega) (by omega)
        unfold SigSpec at hspec
        rw [hpl] at hspec
        have ed : ((d + 2 : Nat) : Int) = (d : Int) + 2 := by omega
        rw [ed] at hspec
        have hex : ∀ sl : Sl, sl[(0 : Nat)]? = some (.val (.amb 1)) → evS (tab prog wf m) (.rais 6 (.cons (.fld 0 1 (.v 0)) .nil)) sl (cx p ls k0) = .exc 6 [.int (k0 : Int)] sl (cx p ls k0) := fun sl h0 => by
          rw [z_rais, r_l, r_fld, r_v h0, f1, r_l1, r_l0, r_l2]
          rfl
        have hpre : ∀ (c4 c5 c6 : Cell) (X : Rs D), callN prog wf m 6 [.amb 1, .lst (strL l), .int ((d : Int) + 2)] (cx p ls k0) = X →
            evS (tab prog wf m) B_plW [.val (.amb 1), .val (.int (d : Int)), .val (.int (i : Int)), .own (done.map rowD), c4, c5, c6, .no] (cx p ls k0) =
            seqO (tab prog wf m) (kSetT X [5, 6] [.val (.amb 1), .val (.int (d : Int)), .val (.int (i : Int)), .own (done.map rowD), .val (.lst (strL l)), c5, c6, .no]) (match B_plW with | .seq _ (.seq _ b) => b | _ => .skip) := fun c4 c5 c6 X hX => by
          have hb : B_plW = .seq (.set 4 (.ix (.fld 0 0 (.v 0)) (.fld 0 1 (.v 0)))) (.seq (.setT [5, 6] (.meth 0 6 [] (.v 0) (.cons (.v 4) (.cons (.op .add (.v 1) (.k (.int 2))) .nil)))) (match B_plW with | .seq _ (.seq _ b) => b | _ => .skip)) := rfl
          rw [hb, z_seq, z_set, r_ix, r_fld, r_v rfl, f0, r_ix1, r_fld, r_v rfl, f1, r_ix2, ix_LD hget, z_set1, z_seq1]
          simp only [List.set_cons_succ, List.set_cons_zero]
          rw [z_seq, z_setT, r_meth, r_v rfl, r_meth1 isc1, r_l, r_v rfl, r_l1, r_l, r_op, r_v rfl, r_op1, r_k, r_op2, o_addi, r_l1, r_l0, r_l2, r_l2, r_meth2]
          rw [show (tab prog wf m).call 6 (.amb 1 :: ([.lst (strL l), .int ((d : Int) + 2)] ++ [])) (cx p ls k0) = callN prog wf m 6 [.amb 1, .lst (strL l), .int ((d : Int) + 2)] (cx p ls k0) from rfl, hX]
        rw [decide_eq_true hif, r_tr1, w_t]
        rcases hspec with ⟨s, r', hs, er, hc⟩ | ⟨hno, hc⟩
        · have hsl : (wS s).length ≤ 64 := by
            have z := congrArg List.length er
            rw [List.length_drop, List.length_append] at z
            omega
          by_cases hr : r' = []
          · subst hr
            rw [List.append_nil] at er
            have hfull : ((d : Int) + 2 + ((wS s).length : Int)) = (l.length : Int) := by
              have z := congrArg List.length er
              rw [List.length_drop] at z
              omega
            obtain ⟨b, hb, hbi⟩ := in_sigs (s := s) (ss := done.map (·.1)) hsl (fun x hx => by
              obtain ⟨y, hy, rfl⟩ := List.mem_map.mp hx
              exact (h5 y hy).2)
            have hbw : b = true ↔ l.drop (d + 2) ∈ done.map fun x => wS x.1 := by
              rw [hbi, er]
              constructor
              · intro h
                obtain ⟨y, hy, e⟩ := List.mem_map.mp h
                exact List.mem_map.mpr ⟨y, hy, by rw [e]⟩
              · intro h
                obtain ⟨y, hy, e⟩ := List.mem_map.mp h
                exact List.mem_map.mpr ⟨y, hy, wS_eq e⟩
            have hcm := comp_map (T := tab prog wf m) (om := cx p ls k0) (i := 7) (sl := [.val (.amb 1), .val (.int (d : Int)), .val (.int (i : Int)), .own (done.map rowD), .val (.lst (strL l)), .val (dS s), .val (.int ((d : Int) + 2 + ((wS s).length : Int))), .no]) (cond := .k (.bl true)) (elt := .ix (.v 7) (.k (.int 0))) (f := rowD) (g := fun x => dS x.1) done (fun x hx => by
              refine ⟨by simp, ?_⟩
              simp only [List.set_cons_succ, List.set_cons_zero]
              rw [r_ix, r_v rfl, r_ix1, r_k, r_ix2]
              exact x_t atI0)
            have hdl : (done.map rowD).length ≤ 1000000 := by rw [List.length_map]; omega
            have hin : ∀ om : Om, cmp (tab prog wf m) .inn (dS s) (.lst (done.map fun x => dS x.1)) om = .ok b om := fun om => by
              refine o_inn ?_
              rw [List.map_map] at hb
              exact hb
            have hA : evS (tab prog wf m) B_plW [.val (.amb 1), .val (.int (d : Int)), .val (.int (i : Int)), .own (done.map rowD), c4, c5, c6, .no] (cx p ls k0) =
                seqO (tab prog wf m) (kIf (tab prog wf m) (.ok b (cx p ls k0)) (.seq (.rais 6 (.cons (.fld 0 1 (.v 0)) .nil)) .skip) .skip [.val (.amb 1), .val (.int (d : Int)), .val (.int (i : Int)), .own (done.map rowD), .val (.lst (strL l)), .val (dS s), .val (.int ((d : Int) + 2 + ((wS s).length : Int))), .no])
                  (.seq (.auF 0 0 1 (.k (.int 1))) (.seq (.app 3 (.tup (.cons (.v 5) (.cons (.meth 0 7 [] (.v 0) (.cons (.op .add (.v 1) (.k (.int 2))) .nil)) .nil)))) .skip)) := by
              rw [hpre c4 c5 c6 _ hc, z_setT1, if_pos (by simp), s_cons, s_cons, s_nil, z_seq1]
              simp only [List.set_cons_succ, List.set_cons_zero]
              have ec : ((d + 2 + (wS s).length : Nat) : Int) = (d : Int) + 2 + ((wS s).length : Int) := by omega
              rw [ec]
              have hb2 : (match B_plW with | .seq _ (.seq _ b) => b | _ => .skip) = S.seq (.ite (.or (.cm .ne (.v 6) (.bi .len (.v 4))) (.cm .inn (.v 5) (.comp (.one 7) (.itl (.b 3)) (.k (.bl true)) (.ix (.v 7) (.k (.int 0)))))) (.seq (.rais 6 (.cons (.fld 0 1 (.v 0)) .nil)) .skip) .skip) (.seq (.auF 0 0 1 (.k (.int 1))) (.seq (.app 3 (.tup (.cons (.v 5) (.cons (.meth 0 7 [] (.v 0) (.cons (.op .add (.v 1) (.k (.int 2))) .nil)) .nil)))) .skip)) := rfl
              have hit : ∀ om : Om, kIt (.ok (.lst (done.map rowD)) om) = .ok (done.map rowD) om := fun om => rfl
              rw [hb2, z_seq, z_ite, r_or, r_cm, r_v rfl, r_cm1, r_bi, r_v rfl, r_bi1, b_lenl, strL_len, r_cm2, o_nei, decide_eq_true hfull, Bool.not_true, r_bl, r_or2, r_cm, r_v rfl, r_cm1, r_comp, r_itl, r_bo rfl, hit, r_comp1, if_pos hdl, wi_1]
              simp only [List.set_cons_succ, List.set_cons_zero]
              rw [hcm, r_comp2, r_cm2, hin, r_bl, r_tr1]
            cases hbb : b with
            | true =>
              right
              subst hbb
              refine ⟨k0, k0, fun st => ?_, [.val (.amb 1), .val (.int (d : Int)), .val (.int (i : Int)), .own (done.map rowD), .val (.lst (strL l)), .val (dS s), .val (.int ((d : Int) + 2 + ((wS s).length : Int))), .no], ?_⟩
              · rw [hdr]
                exact M_ifbad hif fun h => h.2 (hbw.mp rfl)
              · rw [hA, z_ite1, z_seq, hex _ rfl, z_seq6, z_seq6, w_e]
            | false =>
              subst hbb
              have hM : ∀ st, M (.parts (d + 1) (done.map fun x => wS x.1) :: st) (ls.drop k0) k0 = M (.plan (d + 2) :: .parts (d + 1) ((done.map fun x => wS x.1) ++ [wS s]) :: st) (ls.drop (k0 + 1)) (k0 + 1) := fun st => by
                rw [hdr, M_if hif ⟨s, hs, er⟩ (fun h => by have := hbw.mpr h; exact nomatch this), er]
              have hst : kAF (.ok (.int 1) (cx p ls k0)) 0 1 1 (k0 : Int) [.val (.amb 1), .val (.int (d : Int)), .val (.int (i : Int)), .own (done.map rowD), .val (.lst (strL l)), .val (dS s), .val (.int ((d : Int) + 2 + ((wS s).length : Int))), .no] = .next [.val (.amb 1), .val (.int (d : Int)), .val (.int (i : Int)), .own (done.map rowD), .val (.lst (strL l)), .val (dS s), .val (.int ((d : Int) + 2 + ((wS s).length : Int))), .no] (cx p ls (k0 + 1)) := rfl
              have hB : ∀ X, callN prog wf m 7 [.amb 1, .int ((d : Int) + 2)] (cx p ls (k0 + 1)) = X → evS (tab prog wf m) B_plW [.val (.amb 1), .val (.int (d : Int)), .val (.int (i : Int)), .own (done.map rowD), c4, c5, c6, .no] (cx p ls k0) =
                  seqO (tab prog wf m) (kApp (kTup (kL2 (kL (tab prog wf m) X .nil [.val (.amb 1), .val (.int (d : Int)), .val (.int (i : Int)), .own (done.map rowD), .val (.lst (strL l)), .val (dS s), .val (.int ((d : Int) + 2 + ((wS s).length : Int))), .no]) (dS s))) 3 (done.map rowD) [.val (.amb 1), .val (.int (d : Int)), .val (.int (i : Int)), .own (done.map rowD), .val (.lst (strL l)), .val (dS s), .val (.int ((d : Int) + 2 + ((wS s).length : Int))), .no]) .skip := fun X hX => by
                rw [hA, z_ite2, z_skip, z_seq1, z_seq, z_auF (k := 1) (ds := [LD ls, .int (k0 : Int)]) (m := (k0 : Int)) (c := 0) rfl rfl rfl, r_k, hst, z_seq1, z_seq, z_app rfl, r_tup, r_l, r_v rfl, r_l1, r_l, r_meth, r_v rfl, r_meth1 isc1, r_l, r_op, r_v rfl, r_op1, r_k, r_op2, o_addi, r_l1, r_l0, r_l2, r_meth2]
                rw [show (tab prog wf m).call 7 (.amb 1 :: ([.int ((d : Int) + 2)] ++ [])) (cx p ls (k0 + 1)) = callN prog wf m 7 [.amb 1, .int ((d : Int) + 2)] (cx p ls (k0 + 1)) from rfl, hX]
              have hps := hplan (k0 + 1) (by omega) (by omega) (by omega)
              unfold PlanSpec at hps
              rw [ed] at hps
              rcases hps with ⟨q, k2, hq, g1, g2, g3, g4, g5⟩ | ⟨e, k2, g1, g2⟩
              · have hnx : evS (tab prog wf m) B_plW [.val (.amb 1), .val (.int (d : Int)), .val (.int (i : Int)), .own (done.map rowD), c4, c5, c6, .no] (cx p ls k0) = .next [.val (.amb 1), .val (.int (d : Int)), .val (.int (i : Int)), .own ((done ++ [(s, q)]).map rowD), .val (.lst (strL l)), .val (dS s), .val (.int ((d : Int) + 2 + ((wS s).length : Int))), .no] (cx p ls k2) := by
                  rw [hB _ g5, r_l1, r_l0, r_l2, r_l2, r_tup1, if_pos (by simp), z_app1, if_pos (by rw [List.length_map]; omega), z_seq1, z_skip, List.map_append]
                  rfl
                rw [hnx, w_n]
                have hM2 : ∀ st, M (.parts (d + 1) (done.map fun x => wS x.1) :: st) (ls.drop k0) k0 = M (.parts (d + 1) ((done ++ [(s, q)]).map fun x => wS x.1) :: st) (ls.drop k2) k2 := fun st => by
                  rw [hM, g4, List.map_append]
                  rfl
                have hlines : ls.drop k0 = ptl d (s, q) ++ ls.drop k2 := by
                  rw [hdr, g3]
                  have el : l = dots (d + 1) ++ wI :: wS s := by
                    have e1 : l = l.take (d + 1) ++ l.drop (d + 1) := (List.take_append_drop _ _).symm
                    have e2 : l.drop (d + 1) = wI :: l.drop (d + 2) := by
                      have e3 : l.drop (d + 1) = (l.drop (d + 1)).take 1 ++ (l.drop (d + 1)).drop 1 := (List.take_append_drop _ _).symm
                      rw [hif.2, List.drop_drop] at e3
                      exact e3
                    rw [e1, hif.1, e2, er]
                  rw [el]
                  rfl
                rcases parts_loop hm hd hwf hL hn hplan f k2 (done ++ [(s, q)]) (.val (.lst (strL l))) (.val (dS s)) (.val (.int ((d : Int) + 2 + ((wS s).length : Int)))) (by omega) g2 (by omega) (by rw [List.length_append, List.length_singleton]; omega) (fun x hx => by
                  rcases List.mem_append.mp hx with h | h
                  · exact h5 x h
                  · rw [List.mem_singleton.mp h]
                    exact ⟨⟨hs, hq⟩, hsl⟩) with ⟨ps, k3, a4, a5, a6, j1, j2, j3, j4, j5, j6⟩ | ⟨e, k3, j1, sl', j2⟩
                · left
                  refine ⟨(s, q) :: ps, k3, a4, a5, a6, fun x hx => ?_, by omega, j3, ?_, fun st => by rw [hM2, j5], ?_⟩
                  · rcases List.mem_cons.mp hx with rfl | hx
                    · exact ⟨hs, hq⟩
                    · exact j1 x hx
                  · rw [hlines, j4, List.map_cons, List.flatten_cons, List.append_assoc]
                  · rw [j6, List.append_assoc]
                    rfl
                · right
                  exact ⟨e, k3, fun st => by rw [hM2, j1], sl', j2⟩
              · right
                refine ⟨e, k2, fun st => by rw [hM, g1], [.val (.amb 1), .val (.int (d : Int)), .val (.int (i : Int)), .own (done.map rowD), .val (.lst (strL l)), .val (dS s), .val (.int ((d : Int) + 2 + ((wS s).length : Int))), .no], ?_⟩
                rw [hB _ g2, e_kL, e_kL2, e_kTup, e_kApp, z_seq6, w_e]
          · right
            refine ⟨k0, k0, fun st => ?_, [.val (.amb 1), .val (.int (d : Int)), .val (.int (i : Int)), .own (done.map rowD), .val (.lst (strL l)), .val (dS s), .val (.int ((d : Int) + 2 + ((wS s).length : Int))), .no], ?_⟩
            · rw [hdr]
              refine M_ifbad hif fun h => ?_
              obtain ⟨⟨s2, _, e2⟩, _⟩ := h
              have e2' : l.drop (d + 2) = wS s2 := e2
              rw [er] at e2'
              exact hr (wS_inj s s2 r' [] (by rw [e2', List.append_nil])).2
            · have hne : ¬ ((d : Int) + 2 + ((wS s).length : Int)) = (l.length : Int) := fun h => by
                have z := congrArg List.length er
                rw [List.length_drop, List.length_append] at z
                have : 0 < r'.length := List.length_pos_iff.mpr hr
                omega
              have hb2 : (match B_plW with | .seq _ (.seq _ b) => b | _ => .skip) = S.seq (.ite (.or (.cm .ne (.v 6) (.bi .len (.v 4))) (.cm .inn (.v 5) (.comp (.one 7) (.itl (.b 3)) (.k (.bl true)) (.ix (.v 7) (.k (.int 0)))))) (.seq (.rais 6 (.cons (.fld 0 1 (.v 0)) .nil)) .skip) .skip) (.seq (.auF 0 0 1 (.k (.int 1))) (.seq (.app 3 (.tup (.cons (.v 5) (.cons (.meth 0 7 [] (.v 0) (.cons (.op .add (.v 1) (.k (.int 2))) .nil)) .nil)))) .skip)) := rfl
              rw [hpre c4 c5 c6 _ hc, z_setT1, if_pos (by simp), s_cons, s_cons, s_nil, z_seq1]
              simp only [List.set_cons_succ, List.set_cons_zero]
              have ec : ((d + 2 + (wS s).length : Nat) : Int) = (d : Int) + 2 + ((wS s).length : Int) := by omega
              rw [ec, hb2, z_seq, z_ite, r_or, r_cm, r_v rfl, r_cm1, r_bi, r_v rfl, r_bi1, b_lenl, strL_len, r_cm2, o_nei, decide_eq_false hne, Bool.not_false, r_bl, r_or1, r_tr1, z_ite1, z_seq, hex _ rfl, z_seq6, z_seq6, w_e]
        · right
          refine ⟨k0, k0, fun st => ?_, [.val (.amb 1), .val (.int (d : Int)), .val (.int (i : Int)), .own (done.map rowD), .val (.lst (strL l)), c5, c6, .no], ?_⟩
          · rw [hdr]
            refine M_ifbad hif fun h => ?_
            obtain ⟨⟨s2, h2, e2⟩, _⟩ := h
            have e2' : l.drop (d + 2) = wS s2 := e2
            exact hno s2 [] h2 (by rw [e2', List.append_nil])
          · rw [hpre c4 c5 c6 _ hc, e_kSetT, z_seq6, w_e]
      · left
        refine ⟨[], k0, c4, c5, c6, (fun _ h => nomatch h), Nat.le_refl _, h2, rfl, fun st => by rw [hdr, M_pop hif], ?_⟩
        rw [decide_eq_false hif, r_tr1, w_f, List.append_nil]
/-- a plan read at any line -/
theorem plan_any (hwf : 100000 ≤ wf) (hL : ∀ ws ∈ ls, FL ws) (hn : ls.length ≤ 70000) : ∀ (n k d m : Nat), ls.length - k ≤ n → k ≤ ls.length → d ≤ 64 → 208 ≤ 2 * m + d → PlanSpec wf m p ls k d := by
  intro n
  induction n with
  | zero =>
    intro k d m h1 h2 h3 h4
    obtain ⟨m, rfl⟩ : ∃ j, m = j + 1 := ⟨m - 1, by omega⟩
    right
    have e : ls.drop k = [] := List.drop_of_length_le (by omega)
    refine ⟨k, k, fun st => by rw [e, M_nil]; rfl, ?_⟩
    refine call_exc (d := ⟨2, 8, B_PlanReader_plan, none⟩) (sl := [.val (.amb 1), .val (.int (d : Int)), .no, .no, .no, .no, .no, .no]) rfl rfl ?_
    have hs : slots ⟨2, 8, B_PlanReader_plan, none⟩ [.amb 1, .int (d : Int)] = [.val (.amb 1), .val (.int (d : Int)), .no, .no, .no, .no, .no, .no] := rfl
    have hex : ∀ sl : Sl, sl[(0 : Nat)]? = some (.val (.amb 1)) → evS (tab prog wf m) (.rais 6 (.cons (.fld 0 1 (.v 0)) .nil)) sl (cx p ls k) = .exc 6 [.int (k : Int)] sl (cx p ls k) := fun sl h0 => by
      rw [z_rais, r_l, r_fld, r_v h0, f1, r_l1, r_l0, r_l2]
      rfl
    have b1 := begins_end (wf := wf) (m := m) (p := p) (ls := ls) (k := k) (dep := (d : Int)) (w := wC) (by omega) (by omega)
    have b2 := begins_end (wf := wf) (m := m) (p := p) (ls := ls) (k := k) (dep := (d : Int)) (w := wA) (by omega) (by omega)
    rw [hs]
    unfold B_PlanReader_plan
    rw [z_seq, z_ite, r_meth, r_v rfl, r_meth1 isc1, r_l, r_v rfl, r_l1, r_l, r_k, r_l1, r_l0, r_l2, r_l2, r_meth2]
    rw [show (tab prog wf m).call 4 (.amb 1 :: ([.int (d : Int), .str wC] ++ [])) (cx p ls k) = callN prog wf m 4 [.amb 1, .int (d : Int), .str wC] (cx p ls k) from rfl, b1, r_tr1, z_ite2, z_skip, z_seq1, z_seq, z_ite, r_no, r_meth, r_v rfl, r_meth1 isc1, r_l, r_v rfl, r_l1, r_l, r_k, r_l1, r_l0, r_l2, r_l2, r_meth2]
    rw [show (tab prog wf m).call 4 (.amb 1 :: ([.int (d : Int), .str wA] ++ [])) (cx p ls k) = callN prog wf m 4 [.amb 1, .int (d : Int), .str wA] (cx p ls k) from rfl, b2, r_no1]
    simp only [Bool.not_false]
    rw [r_tr1, z_ite1, z_seq, hex _ rfl, z_seq6, z_seq6]
  | succ n ih =>
    intro k d m h1 h2 h3 h4
    by_cases hk : ls.length - k ≤ n
    · exact ih k d m hk h2 h3 h4
    have hk' : k < ls.length := by omega
    have hdr : ls.drop k = ls[k] :: ls.drop (k + 1) := List.drop_eq_getElem_cons hk'
    have hget : ls[k]? = some ls[k] := List.getElem?_eq_getElem hk'
    have hl : FL ls[k] := hL _ (List.getElem_mem hk')
    generalize hlv : ls[k] = l at hdr hget hl
    obtain ⟨m, rfl⟩ : ∃ j, m = j + 1 := ⟨m - 1, by omega⟩
    have hs : slots ⟨2, 8, B_PlanReader_plan, none⟩ [.amb 1, .int (d : Int)] = [.val (.amb 1), .val (.int (d : Int)), .no, .no, .no, .no, .no, .no] := rfl
    have hex : ∀ sl : Sl, sl[(0 : Nat)]? = some (.val (.amb 1)) → evS (tab prog wf m) (.rais 6 (.cons (.fld 0 1 (.v 0)) .nil)) sl (cx p ls k) = .exc 6 [.int (k : Int)] sl (cx p ls k) := fun sl h0 => by
      rw [z_rais, r_l, r_fld, r_v h0, f1, r_l1, r_l0, r_l2]
      rfl
    have bC := begins_at (wf := wf) (m := m) (p := p) (dep := d) (w := wC) (by omega) (by omega) hget hl.ok wcok
    have bA := begins_at (wf := wf) (m := m) (p := p) (dep := d) (w := wA) (by omega) (by omega) hget hl.ok waok
    have hd1 : ∀ w, HeadL w d l → l.take d = dots d ∧ (l.drop d).take 1 = [w] := fun w h => by
      obtain ⟨e1, w1, e2, _⟩ := head_iff.mp h
      exact ⟨e1, by rw [e2]; rfl⟩
    have hCA : wC ≠ wA := fun e => by
      have e' : [99, 104, 111, 111, 115, 101] = [97, 115, 107] := congrArg (fun s : Str => s.cps.toList) e
      simp at e'
    by_cases hc : l.take d = dots d ∧ (l.drop d).take 1 = [wC]
    · have hb : (decide (l.take d = dots d) && decide ((l.drop d).take 1 = [wC])) = true := by rw [decide_eq_true hc.1, decide_eq_true hc.2]; rfl
      rw [hb] at bC
      have nA : ¬ HeadL wA d l := fun h => by
        have := (hd1 _ h).2
        rw [hc.2] at this
        exact hCA (List.cons.inj this).1
      obtain ⟨n1, n2⟩ := number_any (wf := wf) (m := m) (p := p) (by omega) hl hget hc
      have hpre : ∀ X, callN prog wf m 5 [.amb 1, .int (d : Int)] (cx p ls k) = X → evS (tab prog wf m) B_PlanReader_plan [.val (.amb 1), .val (.int (d : Int)), .no, .no, .no, .no, .no, .no] (cx p ls k) =
          seqO (tab prog wf m) (seqO (tab prog wf m) (kRet (kTup (kL2 (kL (tab prog wf m) X .nil [.val (.amb 1), .val (.int (d : Int)), .no, .no, .no, .no, .no, .no]) (.str wC))) [.val (.amb 1), .val (.int (d : Int)), .no, .no, .no, .no, .no, .no]) .skip) (match B_PlanReader_plan with | .seq _ b => b | _ => .skip) := fun X hX => by
        unfold B_PlanReader_plan
        rw [z_seq, z_ite, r_meth, r_v rfl, r_meth1 isc1, r_l, r_v rfl, r_l1, r_l, r_k, r_l1, r_l0, r_l2, r_l2, r_meth2]
        rw [show (tab prog wf m).call 4 (.amb 1 :: ([.int (d : Int), .str wC] ++ [])) (cx p ls k) = callN prog wf m 4 [.amb 1, .int (d : Int), .str wC] (cx p ls k) from rfl, bC, r_tr1, z_ite1, z_seq, z_ret, r_tup, r_l, r_k, r_l1, r_l, r_meth, r_v rfl, r_meth1 isc1, r_l, r_v rfl, r_l1, r_l0, r_l2, r_meth2]
        rw [show (tab prog wf m).call 5 (.amb 1 :: ([.int (d : Int)] ++ [])) (cx p ls k) = callN prog wf m 5 [.amb 1, .int (d : Int)] (cx p ls k) from rfl, hX]
      by_cases hH : HeadL wC d l
      · left
        obtain ⟨j, ej, hj⟩ := hH
        refine ⟨.ch j, k + 1, by rw [okP]; exact hj, by omega, by omega, by rw [hdr, lP, ← ej]; rfl, fun st => by rw [hdr, M_ch ⟨j, ej, hj⟩], ?_⟩
        refine call_ret (d := ⟨2, 8, B_PlanReader_plan, none⟩) rfl rfl rfl ?_
        rw [hs, hpre _ (n1 j ej hj), r_l1, r_l0, r_l2, r_l2, r_tup1, if_pos (by simp), z_ret1, z_seq2, z_seq2, dP]
      · right
        refine ⟨k, k, fun st => by rw [hdr, M_bad hH nA], ?_⟩
        refine call_exc (d := ⟨2, 8, B_PlanReader_plan, none⟩) (sl := [.val (.amb 1), .val (.int (d : Int)), .no, .no, .no, .no, .no, .no]) rfl rfl ?_
        rw [hs, hpre _ (n2 hH), e_kL, e_kL2, e_kTup, e_kRet, z_seq6, z_seq6]
    · have hb : (decide (l.take d = dots d) && decide ((l.drop d).take 1 = [wC])) = false := by
        cases q : (decide (l.take d = dots d) && decide ((l.drop d).take 1 = [wC])) with
        | false => rfl
        | true =>
          rw [Bool.and_eq_true] at q
          exact absurd ⟨of_decide_eq_true q.1, of_decide_eq_true q.2⟩ hc
      rw [hb] at bC
      have nC : ¬ HeadL wC d l := fun h => hc (hd1 _ h)
      by_cases ha : l.take d = dots d ∧ (l.drop d).take 1 = [wA]
      · have hb2 : (decide (l.take d = dots d) && decide ((l.drop d).take 1 = [wA])) = true := by rw [decide_eq_true ha.1, decide_eq_true ha.2]; rfl
        rw [hb2] at bA
        obtain ⟨n1, n2⟩ := number_any (wf := wf) (m := m) (p := p) (by omega) hl hget ha
        have hpre : ∀ X, callN prog wf m 5 [.amb 1, .int (d : Int)] (cx p ls k) = X → evS (tab prog wf m) B_PlanReader_plan [.val (.amb 1), .val (.int (d : Int)), .no, .no, .no, .no, .no, .no] (cx p ls k) =
            seqO (tab prog wf m) (kSet X 2 [.val (.amb 1), .val (.int (d : Int)), .no, .no, .no, .no, .no, .no]) (.seq (.setO 3 (.lst .nil)) (.seq (.whl C_plW B_plW) (.seq (.ret (.tup (.cons (.k (.str wA)) (.cons (.v 2) (.cons (.bi .tuple (.b 3)) .nil))))) .skip))) := fun X hX => by
          have hbb : B_PlanReader_plan = .seq (.ite (.meth 0 4 [] (.v 0) (.cons (.v 1) (.cons (.k (.str wC)) .nil))) (.seq (.ret (.tup (.cons (.k (.str wC)) (.cons (.meth 0 5 [] (.v 0) (.cons (.v 1) .nil)) .nil)))) .skip) .skip) (.seq (.ite (.no (.meth 0 4 [] (.v 0) (.cons (.v 1) (.cons (.k (.str wA)) .nil)))) (.seq (.rais 6 (.cons (.fld 0 1 (.v 0)) .nil)) .skip) .skip) (.seq (.set 2 (.meth 0 5 [] (.v 0) (.cons (.v 1) .nil))) (.seq (.setO 3 (.lst .nil)) (.seq (.whl C_plW B_plW) (.seq (.ret (.tup (.cons (.k (.str wA)) (.cons (.v 2) (.cons (.bi .tuple (.b 3)) .nil))))) .skip))))) := rfl
          rw [hbb, z_seq, z_ite, r_meth, r_v rfl, r_meth1 isc1, r_l, r_v rfl, r_l1, r_l, r_k, r_l1, r_l0, r_l2, r_l2, r_meth2]
          rw [show (tab prog wf m).call 4 (.amb 1 :: ([.int (d : Int), .str wC] ++ [])) (cx p ls k) = callN prog wf m 4 [.amb 1, .int (d : Int), .str wC] (cx p ls k) from rfl, bC, r_tr1, z_ite2, z_skip, z_seq1, z_seq, z_ite, r_no, r_meth, r_v rfl, r_meth1 isc1, r_l, r_v rfl, r_l1, r_l, r_k, r_l1, r_l0, r_l2, r_l2, r_meth2]
          rw [show (tab prog wf m).call 4 (.amb 1 :: ([.int (d : Int), .str wA] ++ [])) (cx p ls k) = callN prog wf m 4 [.amb 1, .int (d : Int), .str wA] (cx p ls k) from rfl, bA, r_no1]
          simp only [Bool.not_true]
          rw [r_tr1, z_ite2, z_skip, z_seq1, z_seq, z_set, r_meth, r_v rfl, r_meth1 isc1, r_l, r_v rfl, r_l1, r_l0, r_l2, r_meth2]
          rw [show (tab prog wf m).call 5 (.amb 1 :: ([.int (d : Int)] ++ [])) (cx p ls k) = callN prog wf m 5 [.amb 1, .int (d : Int)] (cx p ls k) from rfl, hX]
        by_cases hH : HeadL wA d l
        · obtain ⟨j, ej, hj⟩ := hH
          have hplan : ∀ k', k + 1 < k' → k' ≤ ls.length → d + 2 ≤ 64 → PlanSpec wf m p ls k' (d + 2) := fun k' g1 g2 g3 => ih k' (d + 2) m (by omega) g2 g3 (by omega)
          have hM : ∀ st, M (.plan d :: st) (ls.drop k) k = M (.parts (d + 1) [] :: st) (ls.drop (k + 1)) (k + 1) := fun st => by rw [hdr, M_ask nC ⟨j, ej, hj⟩]
          have hloop := parts_loop (wf := wf) (m := m) (p := p) (ls := ls) (k := k + 1) (d := d) (i := j) (by omega) h3 (by omega) hL hn hplan wf (k + 1) [] .no .no .no (Nat.le_refl _) (by omega) (by omega) (Nat.zero_le _) (fun _ h => nomatch h)
          have hbody : ∀ X, whlG (tab prog wf m) C_plW B_plW wf [.val (.amb 1), .val (.int (d : Int)), .val (.int (j : Int)), .own [], .no, .no, .no, .no] (cx p ls (k + 1)) = X → evS (tab prog wf m) B_PlanReader_plan [.val (.amb 1), .val (.int (d : Int)), .no, .no, .no, .no, .no, .no] (cx p ls k) =
              seqO (tab prog wf m) X (.seq (.ret (.tup (.cons (.k (.str wA)) (.cons (.v 2) (.cons (.bi .tuple (.b 3)) .nil))))) .skip) := fun X hX => by
            rw [hpre _ (n1 j ej hj), z_set1, z_seq1]
            simp only [List.set_cons_succ, List.set_cons_zero]
            rw [z_seq, z_setO, r_lst, r_l0, r_lst1, if_pos (by simp), z_setO1, z_seq1]
            simp only [List.set_cons_succ, List.set_cons_zero]
            rw [z_seq, z_whl]
            rw [show (tab prog wf m).wf = wf from rfl, hX]
          rcases hloop with ⟨ps, k', a4, a5, a6, j1, j2, j3, j4, j5, j6⟩ | ⟨e, k', j1, sl', j2⟩
          · left
            refine ⟨.ask j (toPls ps), k', by rw [okP]; exact ⟨hj, okPs_of ps j1⟩, by omega, j3, ?_, fun st => by rw [hM]; exact j5 st, ?_⟩
            · rw [hdr, lP, lPs_of, ← ej, List.cons_append, ← j4]
            · refine call_ret (d := ⟨2, 8, B_PlanReader_plan, none⟩) rfl rfl rfl ?_
              rw [hs, hbody _ j6, z_seq1, z_seq, z_ret, r_tup, r_l, r_k, r_l1, r_l, r_v rfl, r_l1, r_l, r_bi, r_bo rfl, r_bi1, b_tl, r_l1, r_l0, r_l2, r_l2, r_l2, r_tup1, if_pos (by simp), z_ret1, z_seq2, dP, dPs_of]
              rfl
          · right
            refine ⟨e, k', fun st => by rw [hM]; exact j1 st, ?_⟩
            refine call_exc (d := ⟨2, 8, B_PlanReader_plan, none⟩) (sl := sl') rfl rfl ?_
            rw [hs, hbody _ j2, z_seq6]
        · right
          refine ⟨k, k, fun st => by rw [hdr, M_bad nC hH], ?_⟩
          refine call_exc (d := ⟨2, 8, B_PlanReader_plan, none⟩) (sl := [.val (.amb 1), .val (.int (d : Int)), .no, .no, .no, .no, .no, .no]) rfl rfl ?_
          rw [hs, hpre _ (n2 hH), e_kSet, z_seq6]
      · have hb2 : (decide (l.take d = dots d) && decide ((l.drop d).take 1 = [wA])) = false := by
          cases q : (decide (l.take d = dots d) && decide ((l.drop d).take 1 = [wA])) with
          | false => rfl
          | true =>
            rw [Bool.and_eq_true] at q
            exact absurd ⟨of_decide_eq_true q.1, of_decide_eq_true q.2⟩ ha
        rw [hb2] at bA
        have nA : ¬ HeadL wA d l := fun h => ha (hd1 _ h)
        right
        refine ⟨k, k, fun st => by rw [hdr, M_bad nC nA], ?_⟩
        refine call_exc (d := ⟨2, 8, B_PlanReader_plan, none⟩) (sl := [.val (.amb 1), .val (.int (d : Int)), .no, .no, .no, .no, .no, .no]) rfl rfl ?_
        rw [hs]
        unfold B_PlanReader_plan
        rw [z_seq, z_ite, r_meth, r_v rfl, r_meth1 isc1, r_l, r_v rfl, r_l1, r_l, r_k, r_l1, r_l0, r_l2, r_l2, r_meth2]
        rw [show (tab prog wf m).call 4 (.amb 1 :: ([.int (d : Int), .str wC] ++ [])) (cx p ls k) = callN prog wf m 4 [.amb 1, .int (d : Int), .str wC] (cx p ls k) from rfl, bC, r_tr1, z_ite2, z_skip, z_seq1, z_seq, z_ite, r_no, r_meth, r_v rfl, r_meth1 isc1, r_l, r_v rfl, r_l1, r_l, r_k, r_l1, r_l0, r_l2, r_l2, r_meth2]
        rw [show (tab prog wf m).call 4 (.amb 1 :: ([.int (d : Int), .str wA] ++ [])) (cx p ls k) = callN prog wf m 4 [.amb 1, .int (d : Int), .str wA] (cx p ls k) from rfl, bA, r_no1]
        simp only [Bool.not_false]
        rw [r_tr1, z_ite1, z_seq, hex _ rfl, z_seq6, z_seq6]
end
end K81

set_option Elab.async false
set_option linter.all false
set_option maxRecDepth 100000
set_option maxHeartbeats 4000000
/-! K81W: plans that were read are written again. -/
namespace K81
open PySem L2 PD
theorem num_lt : ∀ (m k : Nat), (TL.numL k).length ≤ m → k < 10 ^ m
  | 0, k, h => by
    have := TL.numL_ne k
    exact absurd (List.eq_nil_of_length_eq_zero (by omega)) this
  | m + 1, k, h => by
    by_cases hk : k < 10
    · have : 10 ^ 1 ≤ 10 ^ (m + 1) := Nat.pow_le_pow_right (by decide) (by omega)
      omega
    · rw [TL.numL_step (by omega), List.length_append, List.length_singleton] at h
      have z := num_lt m (k / 10) (by omega)
      rw [Nat.pow_succ]
      omega
theorem num_big {k : Nat} (h : (num k).length ≤ 60) : k < 2 ^ 200 := by
  rw [TL.len_tl, TL.tl, tl_n] at h
  have z := num_lt 60 k h
  have : 10 ^ 60 < 2 ^ 200 := by decide
  omega
def toL : Sgs → List Sg
  | .nil => []
  | .cons s l => s :: toL l
theorem dL_of : ∀ l : Sgs, dL l = (toL l).map dS
  | .nil => by rw [dL, toL]; rfl
  | .cons s l => by rw [dL, toL, dL_of l, List.map_cons]
theorem wL_of : ∀ l : Sgs, wL l = ((toL l).map wS).flatten
  | .nil => by rw [wL, toL]; rfl
  | .cons s l => by rw [wL, toL, wL_of l, List.map_cons, List.flatten_cons]
theorem okL_of : ∀ l : Sgs, okL l → ∀ x ∈ toL l, okS x
  | .nil, _, x, hx => by rw [toL] at hx; exact nomatch hx
  | .cons s l, h, x, hx => by
    rw [okL] at h
    rw [toL] at hx
    rcases List.mem_cons.mp hx with rfl | hx
    · exact h.1
    · exact okL_of l h.2 x hx
mutual
theorem wS_short : ∀ s : Sg, okS s → ∀ w ∈ wS s, w.length ≤ 60
  | .n k, h, w, hw => by
    rw [okS] at h
    rw [wS] at hw
    rw [List.mem_singleton.mp hw]
    exact h
  | .b l, h, w, hw => by
    rw [okS] at h
    rw [wS] at hw
    rcases List.mem_cons.mp hw with rfl | hw
    · decide
    · rcases List.mem_append.mp hw with hw | hw
      · exact wL_short l h w hw
      · rw [List.mem_singleton.mp hw]
        decide
theorem wL_short : ∀ l : Sgs, okL l → ∀ w ∈ wL l, w.length ≤ 60
  | .nil, _, w, hw => by rw [wL] at hw; exact nomatch hw
  | .cons s l, h, w, hw => by
    rw [okL] at h
    rw [wL] at hw
    rcases List.mem_append.mp hw with hw | hw
    · exact wS_short s h.1 w hw
    · exact wL_short l h.2 w hw
end
section
variable {wf m : Nat} {om : Om}
theorem flat_mem {l done rest : List Sg} {x : Sg} (h : l = done ++ x :: rest) : ((done.map wS).flatten).length + (wS x).length ≤ ((l.map wS).flatten).length := by
  rw [h, List.map_append, List.flatten_append, List.map_cons, List.flatten_cons, List.length_append, List.length_append]
  omega
theorem sw1 : ∀ (n : Nat) (s : Sg), okS s → (wS s).length ≤ n → n ≤ 100 → ∀ m, n < m → callN prog wf m 1 [dS s] om = .ok (.lst (strL (wS s))) om := by
  intro n
  induction n with
  | zero =>
    intro s _ h
    have := wS_pos s
    omega
  | succ n ih =>
    intro s hs h h100 m hm
    obtain ⟨m, rfl⟩ : ∃ k, m = k + 1 := ⟨m - 1, by omega⟩
    cases s with
    | n k =>
      rw [okS] at hs
      have e : biD (tab prog wf m) .str (.int (k : Int)) om = .ok (.str (num k)) om := b_str (num_big hs)
      refine call_ret (d := ⟨1, 3, B_signal_words, none⟩) rfl rfl rfl ?_
      rw [dS, wS]
      simp [B_signal_words, slots, e]
    | b l =>
      rw [okS] at hs
      rw [wS, List.length_cons, List.length_append, List.length_singleton] at h
      have hol := okL_of l hs
      rw [dS, wS, dL_of, wL_of] at *
      generalize toL l = ps at h hol ⊢
      have loop := for_all (T := tab prog wf m) (i := 2) (sl := [.val (.tup (ps.map dS)), .own [.str (Str.ofString "(")], .no]) (om := om) (f := dS)
        (b := (.seq (.ext 1 (.call 1 [] (.cons (.v 2) .nil))) .skip)) ps
        (fun done sl om' => om' = om ∧ ∃ c, sl = [.val (.tup (ps.map dS)), .own (strL (lp :: (done.map wS).flatten)), c])
        ⟨rfl, .no, rfl⟩
        (by
          rintro done x rest hall sl om' ⟨rfl, c, rfl⟩
          have hx : x ∈ ps := by rw [hall]; simp
          have hfl := flat_mem hall
          have e := ih x (hol x hx) (by omega) (by omega) m (by omega)
          have hsz : (strL (lp :: (done.map wS).flatten)).length + (strL (wS x)).length ≤ 1000000 := by
            rw [List.length_map, List.length_map, List.length_cons]
            omega
          refine ⟨[.val (.tup (ps.map dS)), .own (strL (lp :: (done.map wS).flatten) ++ strL (wS x)), .val (dS x)], _, ?_, rfl, .val (dS x), ?_⟩
          · change evS (tab prog wf m) _ [.val (.tup (ps.map dS)), .own (strL (lp :: (done.map wS).flatten)), .val (dS x)] om' = _
            rw [z_seq, z_ext rfl, r_call, r_l]
            rw [show evE (tab prog wf m) (.v 2) [.val (.tup (ps.map dS)), .own (strL (lp :: (done.map wS).flatten)), .val (dS x)] om' = .ok (dS x) om' from r_v rfl, r_l1, r_l0, r_l2, r_call1]
            rw [show (tab prog wf m).call 1 ([dS x] ++ []) om' = callN prog wf m 1 [dS x] om' from rfl, e, z_ext1, if_pos hsz, z_seq1, z_skip]
            rfl
          · simp)
      obtain ⟨sl', om', ef, rfl, c, rfl⟩ := loop
      have hsz : (strL (lp :: (ps.map wS).flatten)).length + [D.str rp].length ≤ 1000000 := by
        rw [List.length_map, List.length_cons, List.length_singleton]
        omega
      refine call_ret (d := ⟨1, 3, B_signal_words, none⟩) rfl rfl rfl ?_
      have hsl : slots ⟨1, 3, B_signal_words, none⟩ [.tup (ps.map dS)] = [.val (.tup (ps.map dS)), .no, .no] := rfl
      rw [hsl]
      unfold B_signal_words
      rw [z_seq, z_ite, r_isi, r_v rfl, i_tuple_tup, r_tr1, z_ite1, z_seq, z_setO, r_lst, r_l, r_k, r_l1, r_l0, r_l2, r_lst1, if_pos (by decide), z_setO1, z_seq1]
      simp only [List.set_cons_succ, List.set_cons_zero]
      rw [z_seq, z_fo, r_itl, r_v rfl, r_itl2, z_fo1, ef, z_seq1, z_seq, z_ret, r_op, r_bo rfl, r_op1, r_lst, r_l, r_k, r_l1, r_l0, r_l2, r_lst1, if_pos (by decide), r_op2, o_addl, if_pos hsz, z_ret1, z_seq2, z_seq2]
      simp
/-! ### lines -/
def Sh (ws : List Str) : Prop := ws.length ≤ 64 ∧ ∀ w ∈ ws, w.length ≤ 60
theorem jn_sh {T : Tb} {ws : List Str} (h : Sh ws) : mbf .join (Str.ofString " ") (.lst (strL ws)) om = .ok (.str (jn ws)) om := by
  refine j_ok (s := Str.ofString " ") ?_
  have z := sum_le (l := ws) (b := 60) h.2
  have hl := h.1
  have hsp : (Str.ofString " ").length = 1 := rfl
  rw [hsp]
  omega
theorem sh_dots {k : Nat} : ∀ w ∈ dots k, w.length ≤ 60 := fun w h => by
  rw [dots_ok w h]
  decide
theorem sh_head {d k : Nat} {w : Str} (hw : w.length ≤ 60) (hk : (num k).length ≤ 60) (hl : (dots d ++ [w, num k]).length ≤ 64) : Sh (dots d ++ [w, num k]) := ⟨hl, fun x hx => by
  rcases List.mem_append.mp hx with h | h
  · exact sh_dots x h
  · rcases List.mem_cons.mp h with rfl | h
    · exact hw
    · rw [List.mem_singleton.mp h]
      exact hk⟩
theorem sh_if {d : Nat} {s : Sg} (hs : okS s) (hl : (dots (d + 1) ++ wI :: wS s).length ≤ 64) : Sh (dots (d + 1) ++ wI :: wS s) := ⟨hl, fun x hx => by
  rcases List.mem_append.mp hx with h | h
  · exact sh_dots x h
  · rcases List.mem_cons.mp h with rfl | h
    · decide
    · exact wS_short s hs x h⟩
theorem join_head {T : Tb} {dep k : Nat} {w : Str} {sl : Sl} (i j : Nat) {d : D} {ds : List D} (h : Sh (dots dep ++ [w, num k])) (hk : k < 2 ^ 200) (h1 : sl[i]? = some (.val (.lst (strL (dots dep))))) (h2 : sl[j]? = some (.val (.tup (d :: .int k :: ds)))) :
    evE T (.mb .join (.k (.str (Str.ofString " "))) (.lst (.star (.v i) (.cons (.k (.str w)) (.cons (.bi .str (.ix (.v j) (.k (.int 1)))) .nil))))) sl om = .ok (.str (jn (dots dep ++ [w, num k]))) om := by
  have hx : ixD (.tup (d :: .int (k : Int) :: ds)) (.int 1) om = .ok (.int k) om := x_t atI1
  have hl : (strL (dots dep) ++ [D.str w, D.str (num k)]).length ≤ 1000000 := by
    have := h.1
    rw [List.length_append] at this ⊢
    rw [List.length_map]
    simp at this ⊢
    omega
  have e : strL (dots dep) ++ [D.str w, D.str (num k)] = strL (dots dep ++ [w, num k]) := by simp
  rw [r_mb, r_k, r_mb1, r_lst, r_st, r_v h1, r_st1, r_l, r_k, r_l1, r_l, r_bi, r_ix, r_v h2, r_ix1, r_k, r_ix2, hx, r_bi1, b_str hk, r_l1, r_l0, r_l2, r_l2, r_st3, r_lst1, if_pos hl, r_mb2, e, jn_sh (T := T) h]
theorem join_if {T : Tb} {dep : Nat} {sl : Sl} {i j : Nat} {s : D} {ws : List Str} (h : Sh (dots (dep + 1) ++ wI :: ws)) (h1 : sl[i]? = some (.val (.lst (strL (dots dep))))) (h2 : sl[j]? = some (.val s)) (hc : T.call 1 [s] om = .ok (.lst (strL ws)) om) :
    evE T (.mb .join (.k (.str (Str.ofString " "))) (.lst (.star (.v i) (.cons (.k (.str (Str.ofString "."))) (.cons (.k (.str wI)) (.star (.call 1 [] (.cons (.v j) .nil)) .nil)))))) sl om = .ok (.str (jn (dots (dep + 1) ++ wI :: ws))) om := by
  have e : strL (dots dep) ++ (D.str (Str.ofString ".") :: D.str wI :: (strL ws ++ [])) = strL (dots (dep + 1) ++ wI :: ws) := by
    unfold dots
    rw [List.replicate_succ']
    simp
  have hl : (strL (dots (dep + 1) ++ wI :: ws)).length ≤ 1000000 := by
    have := h.1
    rw [List.length_map]
    omega
  rw [r_mb, r_k, r_mb1, r_lst, r_st, r_v h1, r_st1, r_l, r_k, r_l1, r_l, r_k, r_l1, r_st, r_call, r_l, r_v h2, r_l1, r_l0, r_l2, r_call1]
  rw [show T.call 1 ([s] ++ []) om = T.call 1 [s] om from rfl, hc, r_st1, r_l0, r_st3, r_l2, r_l2, r_st3, e, r_lst1, if_pos hl, r_mb2, jn_sh (T := T) h]
def toPl : Pls → List (Sg × Pl)
  | .nil => []
  | .cons s q ps => (s, q) :: toPl ps
theorem dPs_to : ∀ ps : Pls, dPs ps = (toPl ps).map rowD
  | .nil => by rw [dPs, toPl]; rfl
  | .cons s q ps => by rw [dPs, toPl, dPs_to ps, List.map_cons]; rfl
theorem lPs_to (d : Nat) : ∀ ps : Pls, lPs d ps = ((toPl ps).map (ptl d)).flatten
  | .nil => by rw [lPs, toPl]; rfl
  | .cons s q ps => by rw [lPs, toPl, lPs_to d ps, List.map_cons, List.flatten_cons]; rfl
theorem okPs_to : ∀ ps : Pls, okPs ps → ∀ x ∈ toPl ps, okS x.1 ∧ okP x.2
  | .nil, _, x, hx => by rw [toPl] at hx; exact nomatch hx
  | .cons s q ps, h, x, hx => by
    rw [okPs] at h
    rw [toPl] at hx
    rcases List.mem_cons.mp hx with rfl | hx
    · exact ⟨h.1, h.2.1⟩
    · exact okPs_to ps h.2.2 x hx
theorem pl_flat2 {d : Nat} {all done rest : List (Sg × Pl)} {x : Sg × Pl} (h : all = done ++ x :: rest) : ((done.map (ptl d)).flatten).length + (lP (d + 2) x.2).length + 1 ≤ ((all.map (ptl d)).flatten).length := by
  rw [h, List.map_append, List.flatten_append, List.map_cons, List.flatten_cons, List.length_append, List.length_append]
  have z : (ptl d x).length = (lP (d + 2) x.2).length + 1 := rfl
  omega
theorem lP_pos : ∀ (q : Pl) (d : Nat), ∃ l t, lP d q = l :: t ∧ d ≤ l.length
  | .ch k, d => ⟨_, _, by rw [lP], by rw [List.length_append, dlen]; omega⟩
  | .ask k ps, d => ⟨_, _, by rw [lP], by rw [List.length_append, dlen]; omega⟩
theorem pl2 : ∀ (n : Nat) (q : Pl) (d : Nat), okP q → (lP d q).length ≤ n → n ≤ 70000 → (∀ l ∈ lP d q, l.length ≤ 64) → ∀ m, 208 ≤ 2 * m + d → callN prog wf m 2 [dP q, .int (d : Int)] om = .ok (.lst (strL ((lP d q).map jn))) om := by
  intro n
  induction n with
  | zero =>
    intro q d _ h
    obtain ⟨l, t, e, _⟩ := lP_pos q d
    rw [e] at h
    exact absurd h (Nat.not_succ_le_zero _)
  | succ n ih =>
    intro q d hq h hn hl m hm
    have hd : d ≤ 64 := by
      obtain ⟨l, t, e, hdl⟩ := lP_pos q d
      have := hl l (by rw [e]; exact List.mem_cons_self)
      omega
    obtain ⟨m, rfl⟩ : ∃ k, m = k + 1 := ⟨m - 1, by omega⟩
    refine call_ret (d := ⟨2, 6, B_plan_lines, none⟩) rfl rfl rfl ?_
    cases q with
    | ch k =>
      rw [okP] at hq
      rw [lP] at h hl ⊢
      have gh := sh_head (d := d) (w := wC) (k := k) (by decide) hq (hl _ List.mem_cons_self)
      have j := join_head (T := tab prog wf m) (om := om) (sl := [.val (.tup [.str wC, .int (k : Int)]), .val (.int (d : Int)), .val (.lst (strL (dots d))), .no, .no, .no]) 2 0 gh (num_big hq) rfl rfl
      have hx : ixD (.tup [.str wC, .int (k : Int)]) (.int 0) om = .ok (.str wC) om := x_t atI0
      have hs : slots ⟨2, 6, B_plan_lines, none⟩ [dP (.ch k), .int (d : Int)] = [.val (.tup [.str wC, .int (k : Int)]), .val (.int (d : Int)), .no, .no, .no, .no] := by rw [dP]; rfl
      rw [hs]
      unfold B_plan_lines
      rw [z_seq, z_set, r_op, r_lst, r_l, r_k, r_l1, r_l0, r_l2, r_lst1, if_pos (by decide), r_op1, r_v rfl, r_op2, o_dots (by omega), z_set1, z_seq1]
      simp only [List.set_cons_succ, List.set_cons_zero]
      rw [z_seq, z_ite, r_cm, r_ix, r_v rfl, r_ix1, r_k, r_ix2, hx, r_cm1, r_k, r_cm2, o_eqs wcok wcok, beq_self_eq_true, r_bl, r_tr1, z_ite1, z_seq, z_ret, r_lst, r_l, j, r_l1, r_l0, r_l2, r_lst1, if_pos (by simp), z_ret1, z_seq2, z_seq2]
      rfl
    | ask k ps0 =>
      rw [okP] at hq
      rw [lP, lPs_to] at h hl ⊢
      have hok := okPs_to ps0 hq.2
      have hdp : dP (.ask k ps0) = .tup [.str wA, .int (k : Int), .tup ((toPl ps0).map rowD)] := by rw [dP, dPs_to]
      rw [hdp]
      generalize toPl ps0 = ps at h hl hok ⊢
      have gh := sh_head (d := d) (w := wA) (k := k) (by decide) hq.1 (hl _ List.mem_cons_self)
      have hll : ∀ x ∈ ps, (dots (d + 1) ++ wI :: wS x.1).length ≤ 64 ∧ ∀ l ∈ lP (d + 2) x.2, l.length ≤ 64 := fun x hx => by
        have hmem : ∀ l ∈ ptl d x, l.length ≤ 64 := fun l hll => hl l (List.mem_cons_of_mem _ (List.mem_flatten.mpr ⟨_, List.mem_map.mpr ⟨x, hx, rfl⟩, hll⟩))
        exact ⟨hmem _ List.mem_cons_self, fun l h => hmem l (List.mem_cons_of_mem _ h)⟩
      rw [List.length_cons] at h
      have loop := for_allT (T := tab prog wf m) (is := [4, 5]) (f := fun x : Sg × Pl => [dS x.1, dP x.2]) (fun _ => rfl)
        (sl := [.val (.tup [.str wA, .int k, .tup (ps.map rowD)]), .val (.int (d : Int)), .val (.lst (strL (dots d))), .own (strL ([dots d ++ [wA, num k]].map jn)), .no, .no]) (om := om)
        (b := (.seq (.app 3 (.mb .join (.k (.str (Str.ofString " "))) (.lst (.star (.v 2) (.cons (.k (.str (Str.ofString "."))) (.cons (.k (.str wI)) (.star (.call 1 [] (.cons (.v 4) .nil)) .nil))))))) (.seq (.ext 3 (.call 2 [] (.cons (.v 5) (.cons (.op .add (.v 1) (.k (.int 2))) .nil)))) .skip))) ps
        (fun done sl om' => om' = om ∧ ∃ c4 c5, sl = [.val (.tup [.str wA, .int k, .tup (ps.map rowD)]), .val (.int (d : Int)), .val (.lst (strL (dots d))), .own (strL (((dots d ++ [wA, num k]) :: (done.map (ptl d)).flatten).map jn)), c4, c5])
        ⟨rfl, .no, .no, rfl⟩
        (by
          rintro done x rest hall sl om' ⟨rfl, c4, c5, rfl⟩
          have hx : x ∈ ps := by rw [hall]; simp
          obtain ⟨hx1, hx2⟩ := hll x hx
          have hwl : (wS x.1).length ≤ 64 := by
            rw [List.length_append, List.length_cons] at hx1
            omega
          have e1 := sw1 (wf := wf) (om := om') 64 x.1 (hok x hx).1 hwl (by decide) m (by omega)
          have hz := pl_flat2 (d := d) hall
          have e2 := ih x.2 (d + 2) (hok x hx).2 (by omega) (by omega) hx2 m (by omega)
          have ed : ((d + 2 : Nat) : Int) = (d : Int) + 2 := by omega
          rw [ed] at e2
          refine ⟨[.val (.tup [.str wA, .int k, .tup (ps.map rowD)]), .val (.int (d : Int)), .val (.lst (strL (dots d))), .own ((strL (((dots d ++ [wA, num k]) :: (done.map (ptl d)).flatten).map jn) ++ [.str (jn (dots (d + 1) ++ wI :: wS x.1))]) ++ strL ((lP (d + 2) x.2).map jn)), .val (dS x.1), .val (dP x.2)], _, ?_, rfl, .val (dS x.1), .val (dP x.2), ?_⟩
          · change evS (tab prog wf m) _ [.val (.tup [.str wA, .int k, .tup (ps.map rowD)]), .val (.int (d : Int)), .val (.lst (strL (dots d))), .own (strL (((dots d ++ [wA, num k]) :: (done.map (ptl d)).flatten).map jn)), .val (dS x.1), .val (dP x.2)] om' = _
            rw [z_seq, z_app rfl, join_if (sh_if (hok x hx).1 hx1) rfl rfl e1, z_app1, if_pos (by rw [strL_len, List.length_map, List.length_cons]; omega), z_seq1]
            simp only [List.set_cons_succ, List.set_cons_zero]
            rw [z_seq, z_ext rfl, r_call, r_l, r_v rfl, r_l1, r_l, r_op, r_v rfl, r_op1, r_k, r_op2, o_addi, r_l1, r_l0, r_l2, r_l2, r_call1]
            rw [show (tab prog wf m).call 2 ([dP x.2, .int ((d : Int) + 2)] ++ []) om' = callN prog wf m 2 [dP x.2, .int ((d : Int) + 2)] om' from rfl, e2, z_ext1, if_pos (by rw [List.length_append, strL_len, strL_len, List.length_map, List.length_map, List.length_cons, List.length_singleton]; omega), z_seq1, z_skip]
            rfl
          · rw [List.map_append, List.flatten_append, List.map_singleton, List.flatten_singleton]
            unfold ptl
            simp)
      obtain ⟨sl', om', ef, rfl, c4, c5, rfl⟩ := loop
      have hs : slots ⟨2, 6, B_plan_lines, none⟩ [.tup [.str wA, .int k, .tup (ps.map rowD)], .int (d : Int)] = [.val (.tup [.str wA, .int k, .tup (ps.map rowD)]), .val (.int (d : Int)), .no, .no, .no, .no] := rfl
      rw [hs]
      have hx0 : ixD (.tup [.str wA, .int (k : Int), .tup (ps.map rowD)]) (.int 0) om' = .ok (.str wA) om' := x_t atI0
      have hx2 : ixD (.tup [.str wA, .int (k : Int), .tup (ps.map rowD)]) (.int 2) om' = .ok (.tup (ps.map rowD)) om' := x_t atI2
      have j := join_head (T := tab prog wf m) (om := om') (sl := [.val (.tup [.str wA, .int k, .tup (ps.map rowD)]), .val (.int (d : Int)), .val (.lst (strL (dots d))), .no, .no, .no]) 2 0 gh (num_big hq.1) rfl rfl
      unfold B_plan_lines
      rw [z_seq, z_set, r_op, r_lst, r_l, r_k, r_l1, r_l0, r_l2, r_lst1, if_pos (by decide), r_op1, r_v rfl, r_op2, o_dots (by omega), z_set1, z_seq1]
      simp only [List.set_cons_succ, List.set_cons_zero]
      rw [z_seq, z_ite, r_cm, r_ix, r_v rfl, r_ix1, r_k, r_ix2, hx0, r_cm1, r_k, r_cm2, o_eqs waok wcok, ne_ask, r_bl, r_tr1, z_ite2, z_skip, z_seq1, z_seq, z_setO, r_lst, r_l, j, r_l1, r_l0, r_l2, r_lst1, if_pos (by simp), z_setO1, z_seq1]
      simp only [List.set_cons_succ, List.set_cons_zero]
      rw [z_seq, z_fo, r_itl, r_ix, r_v rfl, r_ix1, r_k, r_ix2, hx2, r_itl2, z_fo1]
      rw [show List.map (fun x : Sg × Pl => D.tup [dS x.1, dP x.2]) ps = ps.map rowD from rfl] at ef
      rw [show strL ([dots d ++ [wA, num k]].map jn) = [D.str (jn (dots d ++ [wA, num k]))] from rfl] at ef
      rw [ef, z_seq1, z_seq, z_fz rfl, z_seq1, z_seq, z_ret, r_v rfl, z_ret1, z_seq2]
/-! ### the reader as a whole -/
theorem init_ok {p : Ob} {L : List (List Str)} (hm : 0 < m) (hl : L.length ≤ 70000) (hg : ∀ ws ∈ L, FL ws) : callN prog wf m 3 [.amb 1, .lst (strL (L.map jn))] [p, .ob 0 []] = .ok .non (cx p L 0) := by
  obtain ⟨m, rfl⟩ : ∃ j, m = j + 1 := ⟨m - 1, by omega⟩
  have hs : slots ⟨2, 3, B_PlanReader_init, none⟩ [.amb 1, .lst (strL (L.map jn))] = [.val (.amb 1), .val (.lst (strL (L.map jn))), .no] := rfl
  have hcm := comp_map (T := tab prog wf m) (om := [p, .ob 0 []]) (i := 2) (sl := [.val (.amb 1), .val (.lst (strL (L.map jn))), .no]) (cond := .k (.bl true)) (elt := .mb .split (.v 2) (.k (.str (Str.ofString " ")))) (f := fun ws => .str (jn ws)) (g := fun ws => .lst (strL ws)) L (fun ws hws => by
    refine ⟨by simp, ?_⟩
    simp only [List.set_cons_succ, List.set_cons_zero]
    rw [r_mb, r_v rfl, r_mb1, r_k, r_mb2, (hg ws hws).split])
  have hit : kIt (.ok (.lst (strL (L.map jn))) ([p, .ob 0 []] : Om)) = .ok (L.map fun ws => D.str (jn ws)) [p, .ob 0 []] := by
    show Rs.ok ((L.map jn).map D.str) _ = _
    rw [List.map_map]
    rfl
  refine call_next (d := ⟨2, 3, B_PlanReader_init, none⟩) (sl := [.val (.amb 1), .val (.lst (strL (L.map jn))), .no]) rfl rfl rfl ?_
  rw [hs]
  unfold B_PlanReader_init
  rw [z_seq, z_stF rfl, r_comp, r_itl, r_v rfl, hit, r_comp1, if_pos (by rw [List.length_map]; omega), wi_1]
  simp only [List.set_cons_succ, List.set_cons_zero]
  rw [hcm, r_comp2]
  rfl
theorem read_any {p : Ob} {L : List (List Str)} (hm : 105 ≤ m) (hwf : 100000 ≤ wf) (hl : L.length ≤ 70000) (hg : ∀ ws ∈ L, FL ws) :
    (∃ q, okP q ∧ L = lP 0 q ∧ M [.plan 0] L 0 = none ∧ ∃ k', callN prog wf m 8 [.lst (strL (L.map jn))] [p] = .ok (dP q) (cx p L k')) ∨
    (∃ e k' : Nat, M [.plan 0] L 0 = some e ∧ callN prog wf m 8 [.lst (strL (L.map jn))] [p] = .exc 6 [.int (e : Int)] (cx p L k')) := by
  obtain ⟨m, rfl⟩ : ∃ j, m = j + 1 := ⟨m - 1, by omega⟩
  have hi := init_ok (wf := wf) (m := m) (p := p) (L := L) (by omega) hl hg
  have hspec := plan_any (wf := wf) (p := p) (ls := L) hwf hg hl L.length 0 0 m (by omega) (Nat.zero_le _) (by decide) (by omega)
  have hlen : ∀ om : Om, biD (tab prog wf m) .len (.lst (strL (L.map jn))) om = .ok (.int (L.length : Int)) om := fun om => by
    rw [b_lenl, strL_len, List.length_map]
  have hs : slots ⟨1, 3, B_read_plan, none⟩ [.lst (strL (L.map jn))] = [.val (.lst (strL (L.map jn))), .no, .no] := rfl
  have hpre : ∀ X, callN prog wf m 7 [.amb 1, .int ((0 : Nat) : Int)] (cx p L 0) = X → evS (tab prog wf m) B_read_plan [.val (.lst (strL (L.map jn))), .no, .no] [p] =
      seqO (tab prog wf m) (kSet X 2 [.val (.lst (strL (L.map jn))), .val (.amb 1), .no]) (.seq (.ite (.cm .lt (.fld 0 1 (.v 1)) (.bi .len (.v 0))) (.seq (.rais 6 (.cons (.fld 0 1 (.v 1)) .nil)) .skip) .skip) (.seq (.ret (.v 2)) .skip)) := fun X hX => by
    unfold B_read_plan
    rw [z_seq, z_set, r_mka, r_l, r_v rfl, r_l1, r_l0, r_l2, r_mka1]
    rw [show (tab prog wf m).call 3 (.amb ([p] : Om).length :: ([.lst (strL (L.map jn))] ++ [])) ([p] ++ [.ob 0 []]) = callN prog wf m 3 [.amb 1, .lst (strL (L.map jn))] [p, .ob 0 []] from rfl, hi, r_mka2, z_set1, z_seq1]
    simp only [List.set_cons_succ, List.set_cons_zero]
    rw [z_seq, z_set, r_meth, r_v rfl]
    rw [show (D.amb ([p] : Om).length) = D.amb 1 from rfl, r_meth1 isc1, r_l, r_k, r_l1, r_l0, r_l2, r_meth2]
    rw [show (tab prog wf m).call 7 (.amb 1 :: ([.int 0] ++ [])) (cx p L 0) = callN prog wf m 7 [.amb 1, .int ((0 : Nat) : Int)] (cx p L 0) from rfl, hX]
  rcases hspec with ⟨q, k', hq, g1, g2, g3, g4, g5⟩ | ⟨e, k', g1, g2⟩
  · rw [List.drop_zero] at g3 g4
    by_cases hk : k' < L.length
    · right
      refine ⟨k', k', ?_, ?_⟩
      · rw [g4, List.drop_eq_getElem_cons hk, M_emp]
      · refine call_exc (d := ⟨1, 3, B_read_plan, none⟩) (sl := [.val (.lst (strL (L.map jn))), .val (.amb 1), .val (dP q)]) rfl rfl ?_
        have hex : ∀ sl : Sl, sl[(1 : Nat)]? = some (.val (.amb 1)) → evS (tab prog wf m) (.rais 6 (.cons (.fld 0 1 (.v 1)) .nil)) sl (cx p L k') = .exc 6 [.int (k' : Int)] sl (cx p L k') := fun sl h0 => by
          rw [z_rais, r_l, r_fld, r_v h0, f1, r_l1, r_l0, r_l2]
          rfl
        rw [hs, hpre _ g5, z_set1, z_seq1]
        simp only [List.set_cons_succ, List.set_cons_zero]
        rw [z_seq, z_ite, r_cm, r_fld, r_v rfl, f1, r_cm1, r_bi, r_v rfl, r_bi1, hlen, r_cm2, o_lt, decide_eq_true (by omega), r_bl, r_tr1, z_ite1, z_seq, hex _ rfl, z_seq6, z_seq6]
    · left
      have e : L.drop k' = [] := List.drop_of_length_le (by omega)
      rw [e] at g3
      rw [List.append_nil] at g3
      refine ⟨q, hq, g3, by rw [g4, e, M_nil]; rfl, k', ?_⟩
      refine call_ret (d := ⟨1, 3, B_read_plan, none⟩) rfl rfl rfl ?_
      rw [hs, hpre _ g5, z_set1, z_seq1]
      simp only [List.set_cons_succ, List.set_cons_zero]
      rw [z_seq, z_ite, r_cm, r_fld, r_v rfl, f1, r_cm1, r_bi, r_v rfl, r_bi1, hlen, r_cm2, o_lt, decide_eq_false (by omega), r_bl, r_tr1, z_ite2, z_skip, z_seq1, z_seq, z_ret, r_v rfl, z_ret1, z_seq2]
  · right
    rw [List.drop_zero] at g1
    refine ⟨e, k', g1 [], ?_⟩
    refine call_exc (d := ⟨1, 3, B_read_plan, none⟩) (sl := [.val (.lst (strL (L.map jn))), .val (.amb 1), .no]) rfl rfl ?_
    rw [hs, hpre _ g2, e_kSet, z_seq6]
end
end K81

set_option Elab.async false
set_option linter.all false
set_option maxRecDepth 100000
set_option maxHeartbeats 4000000
/-! K81L: the law. -/
namespace K81
open PySem L2 PD
theorem joinL_mem {S : List Nat} {c : Nat} : ∀ {l : List (List Nat)}, c ∈ TL.joinL S l → c ∈ S ∨ ∃ x ∈ l, c ∈ x
  | [], h => by simp [TL.joinL] at h
  | [p], h => .inr ⟨p, by simp, h⟩
  | p :: q :: r, h => by
    rcases List.mem_append.mp (show c ∈ p ++ (S ++ TL.joinL S (q :: r)) from h) with h | h
    · exact .inr ⟨p, by simp, h⟩
    · rcases List.mem_append.mp h with h | h
      · exact .inl h
      · rcases joinL_mem h with h | ⟨x, hx, h⟩
        · exact .inl h
        · exact .inr ⟨x, List.mem_cons_of_mem _ hx, h⟩
theorem jn_chars {ws : List Str} (h : ∀ x ∈ ws, ∀ c ∈ TL.tl x, c < 0x110000 ∧ c ≠ 32) : ∀ c ∈ TL.tl (jn ws), c < 0x110000 := fun c hc => by
  have hc' : c ∈ TL.tl (Txt.join sp ws) := hc
  rw [TL.join_eq, TL.tl_join] at hc'
  rcases joinL_mem hc' with h' | ⟨x, hx, h'⟩
  · have : c ∈ [32] := h'
    rw [List.mem_singleton.mp this]
    decide
  · obtain ⟨w, hw, rfl⟩ := List.mem_map.mp hx
    exact (h w hw c h').1
/-- a text as it is read -/
def TF (t : Str) : Prop := ∃ ws, t = jn ws ∧ FL ws
theorem TF.of {t : Str} (h : TOk 3 t) : TF t := by
  obtain ⟨ws, rfl, hn, hw⟩ := h
  refine ⟨ws, rfl, hn, hw.len, fun x hx => (hw.wok x hx).up ?_, ?_, split_jn hn hw⟩
  · have := bS_le (b := 3) (by decide)
    omega
  · have := jnL (b := 3) (by decide) hw
    omega
theorem TF.ok {t : Str} (h : TF t) : PyData.strOk t = true := by
  obtain ⟨ws, rfl, hf⟩ := h
  exact sok_iff.mpr (jn_chars fun x hx c hc => (hf.w x hx).2 c hc)
theorem TF.all : ∀ {ts : List Str}, (∀ t ∈ ts, TF t) → ∃ L : List (List Str), ts = L.map jn ∧ ∀ ws ∈ L, FL ws
  | [], _ => ⟨[], rfl, fun _ h => (nomatch h)⟩
  | t :: ts, h => by
    obtain ⟨ws, e, hf⟩ := h t List.mem_cons_self
    obtain ⟨L, e2, h2⟩ := TF.all (ts := ts) fun x hx => h x (List.mem_cons_of_mem _ hx)
    refine ⟨ws :: L, by rw [List.map_cons, e, e2], fun x hx => ?_⟩
    rcases List.mem_cons.mp hx with rfl | hx
    · exact hf
    · exact h2 x hx
theorem repl_mem {a : Nat} (ha : a ≠ 32) : ∀ (l : List Nat) (c : Nat), c ∈ StrLaws.replL [32] [a] l → c = a ∨ (c ∈ l ∧ c ≠ 32)
  | [], c, h => by
    rw [StrLaws.replL_nil] at h
    exact nomatch h
  | x :: l, c, h => by
    by_cases hx : x = 32
    · subst hx
      rw [StrLaws.replL_hit (by simp) rfl] at h
      rcases List.mem_cons.mp (show c ∈ a :: StrLaws.replL [32] [a] l from h) with rfl | h
      · exact .inl rfl
      · rcases repl_mem ha l c h with h | ⟨h1, h2⟩
        · exact .inl h
        · exact .inr ⟨List.mem_cons_of_mem _ h1, h2⟩
    · rw [StrLaws.replL_miss (fun e => hx (by
        have e' : [x] = [32] := e
        exact List.singleton_inj.mp e'))] at h
      rcases List.mem_cons.mp h with rfl | h
      · exact .inr ⟨List.mem_cons_self, hx⟩
      · rcases repl_mem ha l c h with h | ⟨h1, h2⟩
        · exact .inl h
        · exact .inr ⟨List.mem_cons_of_mem _ h1, h2⟩
theorem TF.repl {t : Str} {a : Nat} (h : TOk 3 t) (ha : a ≠ 32) (ha2 : a < 128) : TF (Txt.replace t (Str.ofString " ") ⟨#[a]⟩) ∧ t.length ≤ 50000 := by
  obtain ⟨ws, rfl, hn, hw⟩ := h
  have hl := jnL (b := 3) (by decide) hw
  refine ⟨⟨[Txt.replace (jn ws) (Str.ofString " ") ⟨#[a]⟩], ?_, ?_⟩, hl⟩
  · refine TL.ext_tl ?_
    show _ = TL.tl (Txt.join sp _)
    rw [TL.join_eq, TL.tl_join]
    rfl
  have hch : ∀ c ∈ TL.tl (Txt.replace (jn ws) (Str.ofString " ") ⟨#[a]⟩), c < 0x110000 ∧ c ≠ 32 := fun c hc => by
    rw [TL.tl, StrLaws.replace_list (by decide)] at hc
    rcases repl_mem ha _ c hc with rfl | ⟨h1, h2⟩
    · exact ⟨by omega, ha⟩
    · exact ⟨jn_chars hw.w c h1, h2⟩
  have hlen : (Txt.replace (jn ws) (Str.ofString " ") ⟨#[a]⟩).length ≤ 200000 := by
    have z := TK.replace_len (jn ws) (Str.ofString " ") ⟨#[a]⟩
    have e : (⟨#[a]⟩ : Str).length = 1 := rfl
    rw [e] at z
    omega
  have hj : jn [Txt.replace (jn ws) (Str.ofString " ") ⟨#[a]⟩] = Txt.replace (jn ws) (Str.ofString " ") ⟨#[a]⟩ := by
    refine TL.ext_tl ?_
    show TL.tl (Txt.join sp _) = _
    rw [TL.join_eq, TL.tl_join]
    rfl
  refine ⟨by simp, by show 1 ≤ 64; decide, fun x hx => ?_, by rw [hj]; exact hlen, ?_⟩
  · rw [List.mem_singleton.mp hx]
    exact ⟨hlen, hch⟩
  · exact TL.split_join (s := 32) (S := []) rfl sp_ok (by simp) fun x hx hc => by
      rw [List.mem_singleton.mp hx] at hc
      exact (hch 32 hc).2 rfl
theorem tok_plan {d : D} {ls : List (List Str)} (h : PlanR 20 0 d ls) (hl : ∀ l ∈ ls, l.length ≤ 61) : ∀ t ∈ ls.map jn, TOk 0 t := fun t ht => by
  obtain ⟨ws, hws, rfl⟩ := List.mem_map.mp ht
  have hg := plan_good (by decide) h ws hws
  refine ⟨ws, rfl, hg.1, hl ws hws, ?_, fun x hx c hc => ?_⟩
  · have z := sum_le (l := ws) (b := 6) fun w hw => (hg.2.2 w hw).1
    have := hl ws hws; have := bS_ge 0
    omega
  · obtain ⟨_, h2, h3⟩ := hg.2.2 x hx
    exact ⟨sok_iff.mp h2 c hc, fun e => h3 (by rw [← e]; exact hc)⟩
theorem same_strs {n : Nat} {ts : List Str} (hl : ts.length ≤ 100000) (h : ∀ t ∈ ts, PyData.strOk t = true) : SameD (n + 1) (.lst (strL ts)) := by
  rw [SameD]
  refine .inr ⟨strL ts, .inl rfl, by rw [List.length_map]; omega, fun x hx => ?_⟩
  obtain ⟨t, ht, rfl⟩ := List.mem_map.mp hx
  cases n with
  | zero => rw [SameD]; exact .inr (.inl ⟨t, rfl, h t ht⟩)
  | succ n => rw [SameD]; exact .inl (by rw [SameD]; exact .inr (.inl ⟨t, rfl, h t ht⟩))
def restS : S := match B_law with
  | .seq _ (.seq _ (.seq _ (.seq _ (.seq _ b)))) => b
  | _ => .skip
/-- the law behind the lines -/
theorem tail {wf m : Nat} (hwf : 100000 ≤ wf) (hm : 105 ≤ m) {sc d c4 : Cell} {p : Ob} {L : List (List Str)} (hL : ∀ ws ∈ L, FL ws) (hn : L.length ≤ 70000) : ∃ om', evS (tab prog wf m) restS [sc, .val (.amb 0), d, .val (.lst (strL (L.map jn))), c4, .no, .no, .no, .no] [p] = .ret (.bl true) om' := by
  have hb := bad_ok (wf := wf) (m := m) (om := [p]) (by omega) hL hn
  have hok : ∀ t ∈ L.map jn, PyData.strOk t = true := fun t ht => by
    obtain ⟨ws, hws, rfl⟩ := List.mem_map.mp ht
    exact TF.ok ⟨ws, rfl, hL ws hws⟩
  have hr : restS = .seq (.set 5 (.call 20 [] (.cons (.v 3) .nil))) (.seq (.set 6 (.bi .list (.v 3))) (.seq (.tr (.seq (.set 7 (.call 2 [(.int 0)] (.cons (.call 8 [] (.cons (.v 6) .nil)) .nil))) .skip) cs_law_0 8 hd_law_0) (.seq (.ret (.an (.cm .is (.v 5) (.k .non)) (.an (.call 12 [] (.cons (.v 7) (.cons (.v 3) .nil))) (.cm .eq (.v 6) (.v 3))))) .skip))) := rfl
  have hpre : evS (tab prog wf m) restS [sc, .val (.amb 0), d, .val (.lst (strL (L.map jn))), c4, .no, .no, .no, .no] [p] =
      seqO (tab prog wf m) (evS (tab prog wf m) (.tr (.seq (.set 7 (.call 2 [(.int 0)] (.cons (.call 8 [] (.cons (.v 6) .nil)) .nil))) .skip) cs_law_0 8 hd_law_0) [sc, .val (.amb 0), d, .val (.lst (strL (L.map jn))), c4, .val (badD (M [.plan 0] L 0)), .val (.lst (strL (L.map jn))), .no, .no] [p])
        (.seq (.ret (.an (.cm .is (.v 5) (.k .non)) (.an (.call 12 [] (.cons (.v 7) (.cons (.v 3) .nil))) (.cm .eq (.v 6) (.v 3))))) .skip) := by
    rw [hr, z_seq, z_set, r_call, r_l, r_v rfl, r_l1, r_l0, r_l2, r_call1]
    rw [show (tab prog wf m).call 20 ([.lst (strL (L.map jn))] ++ []) [p] = callN prog wf m 20 [.lst (strL (L.map jn))] [p] from rfl, hb, z_set1, z_seq1]
    simp only [List.set_cons_succ, List.set_cons_zero]
    rw [z_seq, z_set, r_bi, r_v rfl, r_bi1, b_ll, z_set1, z_seq1]
    simp only [List.set_cons_succ, List.set_cons_zero]
    rw [z_seq]
  rw [hpre]
  rcases read_any (wf := wf) (m := m) (p := p) hm hwf hn hL with ⟨q, hq, hLq, hM, k', hc⟩ | ⟨e, k', hM, hc⟩
  · have h2 := pl2 (wf := wf) (m := m) (om := cx p L k') 70000 q 0 hq (by rw [← hLq]; exact hn) (by decide) (fun l hl => (hL l (by rw [hLq]; exact hl)).len) (by omega)
    rw [← hLq] at h2
    have hbody : evS (tab prog wf m) (.seq (.set 7 (.call 2 [(.int 0)] (.cons (.call 8 [] (.cons (.v 6) .nil)) .nil))) .skip) [sc, .val (.amb 0), d, .val (.lst (strL (L.map jn))), c4, .val (badD (M [.plan 0] L 0)), .val (.lst (strL (L.map jn))), .no, .no] [p] =
        .next [sc, .val (.amb 0), d, .val (.lst (strL (L.map jn))), c4, .val (badD (M [.plan 0] L 0)), .val (.lst (strL (L.map jn))), .val (.lst (strL (L.map jn))), .no] (cx p L k') := by
      rw [z_seq, z_set, r_call, r_l, r_call, r_l, r_v rfl, r_l1, r_l0, r_l2, r_call1]
      rw [show (tab prog wf m).call 8 ([.lst (strL (L.map jn))] ++ []) [p] = callN prog wf m 8 [.lst (strL (L.map jn))] [p] from rfl, hc, r_l1, r_l0, r_l2, r_call1]
      rw [show (tab prog wf m).call 2 ([dP q] ++ [.int 0]) (cx p L k') = callN prog wf m 2 [dP q, .int ((0 : Nat) : Int)] (cx p L k') from rfl, h2, z_set1, z_seq1, z_skip]
      rfl
    have hsame : callN prog wf m 12 [.lst (strL (L.map jn)), .lst (strL (L.map jn))] (cx p L k') = .ok (.bl true) (cx p L k') := same_ok (f := 12) rfl rfl 1 _ (same_strs (n := 0) (by rw [List.length_map]; omega) hok) m (by omega)
    refine ⟨cx p L k', ?_⟩
    rw [z_trn hbody, z_seq1, z_seq, z_ret, hM, r_an, r_cm, r_v rfl, r_cm1, r_k, r_cm2]
    rw [show badD none = D.non from rfl, o_isn, r_bl, r_an1, r_an, r_call, r_l, r_v rfl, r_l1, r_l, r_v rfl, r_l1, r_l0, r_l2, r_l2, r_call1]
    rw [show (tab prog wf m).call 12 ([.lst (strL (L.map jn)), .lst (strL (L.map jn))] ++ []) (cx p L k') = callN prog wf m 12 [.lst (strL (L.map jn)), .lst (strL (L.map jn))] (cx p L k') from rfl, hsame, r_an1, r_cm, r_v rfl, r_cm1, r_v rfl, r_cm2, o_eqls hok hok, decide_eq_true rfl, r_bl, z_ret1, z_seq2]
  · have hbody : evS (tab prog wf m) (.seq (.set 7 (.call 2 [(.int 0)] (.cons (.call 8 [] (.cons (.v 6) .nil)) .nil))) .skip) [sc, .val (.amb 0), d, .val (.lst (strL (L.map jn))), c4, .val (badD (M [.plan 0] L 0)), .val (.lst (strL (L.map jn))), .no, .no] [p] =
        .exc 6 [.int (e : Int)] [sc, .val (.amb 0), d, .val (.lst (strL (L.map jn))), c4, .val (badD (M [.plan 0] L 0)), .val (.lst (strL (L.map jn))), .no, .no] (cx p L k') := by
      rw [z_seq, z_set, r_call, r_l, r_call, r_l, r_v rfl, r_l1, r_l0, r_l2, r_call1]
      rw [show (tab prog wf m).call 8 ([.lst (strL (L.map jn))] ++ []) [p] = callN prog wf m 8 [.lst (strL (L.map jn))] [p] from rfl, hc, e_kL, e_kCall, e_kSet, z_seq6]
    refine ⟨cx p L k', ?_⟩
    rw [z_trx hbody rfl, hM]
    have hh : hd_law_0 6 [.int (e : Int)] = (.seq (.ite (.cm0 .ne (.v 6) (.v 3)) (.seq (.ret (.k (.bl false))) .skip) .skip) (.seq (.ite (.or (.xf 8 (.bl false)) (.no (.xf 8 (.bl true)))) (.seq (.ret (.k (.bl false))) .skip) .skip) (.seq (.ret (.an (.cm0 .isn (.v 5) (.k .non)) (.sam (.xf 8 (.int (e : Int))) (.v 5)))) .skip))) := rfl
    rw [hh]
    have hu : ∃ sc' d' c4', (unx [sc, .val (.amb 0), d, .val (.lst (strL (L.map jn))), c4, .val (badD (some e)), .val (.lst (strL (L.map jn))), .no, .no]).set 8 .exn = [sc', .val (.amb 0), d', .val (.lst (strL (L.map jn))), c4', .val (.int (e : Int)), .val (.lst (strL (L.map jn))), .no, .exn] := ⟨_, _, _, rfl⟩
    obtain ⟨sc', d', c4', hu⟩ := hu
    rw [hu]
    have hx : ∀ dd : D, evE (tab prog wf m) (.xf 8 dd) [sc', .val (.amb 0), d', .val (.lst (strL (L.map jn))), c4', .val (.int (e : Int)), .val (.lst (strL (L.map jn))), .no, .exn] (cx p L k') = .ok dd (cx p L k') := fun dd => r_xf rfl
    have hsam : evE (tab prog wf m) (.sam (.xf 8 (.int (e : Int))) (.v 5)) [sc', .val (.amb 0), d', .val (.lst (strL (L.map jn))), c4', .val (.int (e : Int)), .val (.lst (strL (L.map jn))), .no, .exn] (cx p L k') = .ok (.bl true) (cx p L k') := r_sam (hx _) (r_v rfl) (by show 2 ≤ m; omega) (by simp [samD])
    rw [z_seq, z_ite, r_cm0, r_v rfl, r_cm01, r_v rfl, r_cm02, o_nels hok hok, decide_eq_true rfl, Bool.not_true, r_bl, r_tr1, z_ite2, z_skip, z_seq1, z_seq, z_ite, r_or, hx, r_or2, r_no, hx, r_no1]
    simp only [Bool.not_true]
    rw [r_tr1, z_ite2, z_skip, z_seq1, z_seq, z_ret, r_an, r_cm0, r_v rfl, r_cm01, r_k, r_cm02, o_isniz, r_bl, r_an1, hsam, z_ret1, z_seq2, aft_r, z_seq2]
/-- the lines behind the last change -/
theorem blanked {wf m : Nat} (hm : 105 ≤ m) {sc d : Cell} {om : Om} {ts : List Str} (ht : ∀ t ∈ ts, TOk 3 t) (hn : ts.length ≤ 65536) (hp : PoolAt om []) : ∃ (c4 : Cell) (ts' : List Str) (om' : Om), (∀ t ∈ ts', TF t) ∧ ts'.length ≤ 70000 ∧ PoolAt om' [] ∧
    evS (tab prog wf m) (match B_law with | .seq _ (.seq _ (.seq _ (.seq _ (.seq b _)))) => b | _ => .skip) [sc, .val (.amb 0), d, .val (.lst (strL ts)), .no, .no, .no, .no, .no] om = .next [sc, .val (.amb 0), d, .val (.lst (strL ts')), c4, .no, .no, .no, .no] om' := by
  have hTF : ∀ t ∈ ts, TF t := fun t h => TF.of (ht t h)
  by_cases h0 : ts = []
  · subst h0
    exact ⟨.no, [], om, fun _ h => (nomatch h), by decide, hp, by simp [B_law]⟩
  · have hpos : 0 < ts.length := List.length_pos_iff.mpr h0
    obtain ⟨v, om1, e1, a1, p1⟩ := drawn (wf := wf) (m := m) (s := 10) (by omega) (by decide) (by decide) hp
    by_cases hv : v = 0
    · subst hv
      have e1' : callN prog wf m 10 [.amb 0, .int 10] om = .ok (.int 0) om1 := e1
      obtain ⟨i, om2, e2, a2, p2⟩ := drawn (wf := wf) (m := m) (s := (ts.length : Int)) (by omega) (by omega) (by omega) p1
      obtain ⟨u, om3, e3, a3, p3⟩ := drawn (wf := wf) (m := m) (s := 2) (by omega) (by decide) (by decide) p2
      have hi : i < ts.length := by omega
      have hc : ∃ a, a ≠ 32 ∧ a < 128 ∧ ((Str.ofString " ") == (⟨#[a]⟩ : Str)) = false ∧ ∀ om : Om, ixD (.str (Str.ofString "\n\t")) (.int (u : Int)) om = .ok (.str ⟨#[a]⟩) om := by
        have hu : u = 0 ∨ u = 1 := by omega
        rcases hu with rfl | rfl
        · exact ⟨10, by decide, by decide, by rw [show Str.ofString " " = (⟨#[32]⟩ : Str) from rfl, one_eq]; decide, fun om => rfl⟩
        · exact ⟨9, by decide, by decide, by rw [show Str.ofString " " = (⟨#[32]⟩ : Str) from rfl, one_eq]; decide, fun om => rfl⟩
      obtain ⟨a, ha1, ha2, hne, hix⟩ := hc
      obtain ⟨hr, hlen⟩ := TF.repl (ht ts[i] (List.getElem_mem hi)) ha1 ha2
      have hx : ∀ om : Om, ixD (.lst (strL ts)) (.int (i : Int)) om = .ok (.str ts[i]) om := fun om => x_l (by
        rw [PD.atI_nat, List.getElem?_map, List.getElem?_eq_getElem hi]
        rfl)
      have hcut : ∀ lo hi, cutD (strL ts) lo hi = strL (cutG ts lo hi) := cut_G ts
      have l0 := cutG_len ts none (some (i : Int))
      have l1 := cutG_len ts (some ((i : Int) + 1)) none
      have hrp : evE (tab prog wf m) (.rpl (Str.ofString " ") (.ix (.v 3) (.v 4)) (.ix (.k (.str (Str.ofString "\n\t"))) (.call 10 [] (.cons (.v 1) (.cons (.k (.int 2)) .nil))))) [sc, .val (.amb 0), d, .val (.lst (strL ts)), .val (.int (i : Int)), .no, .no, .no, .no] om2 = .ok (.str (Txt.replace ts[i] (Str.ofString " ") ⟨#[a]⟩)) om3 := by
        refine r_rpl (om' := om2) (z := ts[i]) (w := ⟨#[a]⟩) ?_ ?_ hne ?_
        · rw [r_ix, r_v rfl, r_ix1, r_v rfl, r_ix2, hx]
        · rw [r_ix, r_k, r_ix1, r_call, r_l, r_v rfl, r_l1, r_l, r_k, r_l1, r_l0, r_l2, r_l2, r_call1]
          rw [show (tab prog wf m).call 10 ([.amb 0, .int 2] ++ []) om2 = callN prog wf m 10 [.amb 0, .int 2] om2 from rfl, e3, r_ix2, hix]
        · have e : (⟨#[a]⟩ : Str).length = 1 := rfl
          rw [e]
          omega
      refine ⟨.val (.int (i : Int)), cutG ts none (some (i : Int)) ++ [Txt.replace ts[i] (Str.ofString " ") ⟨#[a]⟩] ++ cutG ts (some ((i : Int) + 1)) none, om3, fun t h => ?_, ?_, p3, ?_⟩
      · simp only [List.mem_append, List.mem_singleton] at h
        rcases h with (h | h) | h
        · exact hTF t (cutG_mem h)
        · rw [h]
          exact hr
        · exact hTF t (cutG_mem h)
      · rw [cutG_take, cutG_from1]
        simp only [List.length_append, List.length_singleton, List.length_take, List.length_drop]
        omega
      · have hz : decide ((0 : Int) < (ts.length : Int)) = true := decide_eq_true (by omega)
        have hlen1 : (strL (cutG ts none (some (i : Int)))).length + [D.str (Txt.replace ts[i] (Str.ofString " ") ⟨#[a]⟩)].length ≤ 1000000 := by
          rw [strL_len, List.length_singleton]
          omega
        have hlen2 : (strL (cutG ts none (some (i : Int))) ++ [D.str (Txt.replace ts[i] (Str.ofString " ") ⟨#[a]⟩)]).length + (strL (cutG ts (some ((i : Int) + 1)) none)).length ≤ 1000000 := by
          rw [List.length_append, strL_len, strL_len, List.length_singleton]
          omega
        have hb : (match B_law with | .seq _ (.seq _ (.seq _ (.seq _ (.seq b _)))) => b | _ => .skip) = S.ite (.an (.cm .gt (.bi .len (.v 3)) (.k (.int 0))) (.cm .eq (.call 10 [] (.cons (.v 1) (.cons (.k (.int 10)) .nil))) (.k (.int 0)))) (.seq (.set 4 (.call 10 [] (.cons (.v 1) (.cons (.bi .len (.v 3)) .nil)))) (.seq (.set 3 (.op .add (.op .add (.sl (.v 3) .nop (.cons (.v 4) .nil)) (.lst (.cons (.rpl (Str.ofString " ") (.ix (.v 3) (.v 4)) (.ix (.k (.str (Str.ofString "\n\t"))) (.call 10 [] (.cons (.v 1) (.cons (.k (.int 2)) .nil))))) .nil))) (.sl (.v 3) (.cons (.op .add (.v 4) (.k (.int 1))) .nil) .nop))) .skip)) .skip := rfl
        rw [hb, z_ite, r_an, r_cm, r_bi, r_v rfl, r_bi1, b_lenl, strL_len, r_cm1, r_k, r_cm2, o_gt, hz, r_bl, r_an1, r_cm, r_call, r_l, r_v rfl, r_l1, r_l, r_k, r_l1, r_l0, r_l2, r_l2, r_call1]
        rw [show (tab prog wf m).call 10 ([.amb 0, .int 10] ++ []) om = callN prog wf m 10 [.amb 0, .int 10] om from rfl, e1', r_cm1, r_k, r_cm2, o_eqi, decide_eq_true rfl, r_bl, r_tr1, z_ite1, z_seq, z_set, r_call, r_l, r_v rfl, r_l1, r_l, r_bi, r_v rfl, r_bi1, b_lenl, strL_len, r_l1, r_l0, r_l2, r_l2, r_call1]
        rw [show (tab prog wf m).call 10 ([.amb 0, .int (ts.length : Int)] ++ []) om1 = callN prog wf m 10 [.amb 0, .int (ts.length : Int)] om1 from rfl, e2, z_set1, z_seq1]
        simp only [List.set_cons_succ, List.set_cons_zero]
        rw [z_seq, z_set, r_op, r_op, r_sl, r_v rfl, r_sl1, r_o0, r_sl2, r_o1, r_v rfl, r_o2, r_sl3, sl_l, hcut, r_op1, r_lst, r_l, hrp, r_l1, r_l0, r_l2, r_lst1, if_pos (by simp), r_op2, o_addl, if_pos hlen1, r_op1, r_sl, r_v rfl, r_sl1, r_o1, r_op, r_v rfl, r_op1, r_k, r_op2, o_addi, r_o2, r_sl2, r_o0, r_sl3, sl_l, hcut, r_op2, o_addl, if_pos hlen2, z_set1, z_seq1, z_skip]
        simp
    · refine ⟨.no, ts, om1, hTF, by omega, p1, ?_⟩
      have hv' : ¬ (v : Int) = 0 := by omega
      simp [B_law, h0, hpos, e1, hv']
      try simp [hv]
theorem law_true (ns : List Int) (hl : ns.length ≤ 63) (hb : ∀ z ∈ ns, Builtin.Int.intBits z ≤ 1048576) : ∃ wf om', callN prog wf 112 24 [.scr (ns.map D.int)] [] = .ok (.bl true) om' := by
  suffices h : ∀ m, 105 ≤ m → ∃ om', evS (tab prog 100000 m) B_law [.val (.scr (ns.map D.int)), .no, .no, .no, .no, .no, .no, .no, .no] [] = .ret (.bl true) om' by
    obtain ⟨om', e⟩ := h 111 (by decide)
    exact ⟨100000, om', call_ret (d := ⟨1, 9, B_law, none⟩) rfl rfl rfl e⟩
  intro m hm
  have hpool : callN prog 100000 m 9 [.scr (ns.map D.int), .int 12] [] = .ok (.lst (poolD ns 0 0 1 0 12)) [] := by
    obtain ⟨m, rfl⟩ : ∃ j, m = j + 1 := ⟨m - 1, by omega⟩
    refine call_retF (d := ⟨2, 2, B_Lpool, none⟩) (xs := poolD ns 0 0 1 0 12) rfl rfl ?_
    simp [B_Lpool, slots]
  have p0 : PoolAt [.pl (poolD ns 0 0 1 0 12)] [] := ⟨ns, 0, 0, 1, 0, 12, rfl, by decide, by decide, by decide⟩
  obtain ⟨d1, ls1, om1, e1, hd1, ⟨hl1, hw1⟩, p1⟩ := tree (wf := 100000) 4 0 m _ (by omega) p0
  obtain ⟨v2, om2, e2, a2, p2⟩ := drawn (wf := 100000) (m := m) (s := 4) (by omega) (by decide) (by decide) p1
  have e1' : callN prog 100000 m 14 [.amb 0, .int 4] [.pl (poolD ns 0 0 1 0 12)] = .ok d1 om1 := e1
  have hB : B_law = .seq (.setA 1 (.call 9 [] (.cons (.v 0) (.cons (.k (.int 12)) .nil)))) (.seq (.set 2 (.call 14 [] (.cons (.v 1) (.cons (.k (.int 4)) .nil)))) (.seq (.ite (.cm .eq (.call 10 [] (.cons (.v 1) (.cons (.k (.int 4)) .nil))) (.k (.int 0))) (.seq (.set 2 (.call 15 [] (.cons (.v 1) .nil))) .skip) .skip) (.seq (.set 3 (.call 23 [] (.cons (.v 1) (.cons (.call 17 [] (.cons (.v 2) (.cons (.k (.int 0)) .nil))) .nil)))) (.seq (match B_law with | .seq _ (.seq _ (.seq _ (.seq _ (.seq b _)))) => b | _ => .skip) restS)))) := rfl
  have fin : ∀ (d : D) (ls : List (List Str)) (om3 : Om), PlanR 20 0 d ls → ls.length ≤ 1024 → (∀ l ∈ ls, l.length ≤ 61) → PoolAt om3 [] → ∃ om', evS (tab prog 100000 m) (.seq (.set 3 (.call 23 [] (.cons (.v 1) (.cons (.call 17 [] (.cons (.v 2) (.cons (.k (.int 0)) .nil))) .nil)))) (.seq (match B_law with | .seq _ (.seq _ (.seq _ (.seq _ (.seq b _)))) => b | _ => .skip) restS))
      [.val (.scr (ns.map D.int)), .val (.amb 0), .val d, .no, .no, .no, .no, .no, .no] om3 = .ret (.bl true) om' := by
    intro d ls om3 hd hls hlw p3
    have h17 : callN prog 100000 m 17 [d, .int 0] om3 = .ok (.lst (lnL ls)) om3 := ll17 20 0 d ls (by decide) (by omega) hd m (by omega)
    have hln : lnL ls = strL (ls.map jn) := by
      unfold lnL
      show _ = (ls.map jn).map D.str
      rw [List.map_map]
      rfl
    rw [hln] at h17
    obtain ⟨ts, om4, e4, ht, hn, p4⟩ := changed_ok (wf := 100000) (m := m) (ls := ls.map jn) (by omega) (by rw [List.length_map]; exact hls) (tok_plan hd hlw) p3
    obtain ⟨c4, ts', om5, ht', hn', p5, e5⟩ := blanked (wf := 100000) (m := m) hm (sc := .val (.scr (ns.map D.int))) (d := .val d) ht hn p4
    obtain ⟨L, rfl, hL⟩ := TF.all ht'
    obtain ⟨ns', a, b, c, dd, e, hom, _⟩ := p5
    obtain ⟨om', et⟩ := tail (wf := 100000) (m := m) (Nat.le_refl _) hm (sc := .val (.scr (ns.map D.int))) (d := .val d) (c4 := c4) (p := .pl (poolD ns' a b c dd e)) hL (by rw [List.length_map] at hn'; exact hn')
    refine ⟨om', ?_⟩
    rw [z_seq, z_set, r_call, r_l, r_v rfl, r_l1, r_l, r_call, r_l, r_v rfl, r_l1, r_l, r_k, r_l1, r_l0, r_l2, r_l2, r_call1]
    rw [show (tab prog 100000 m).call 17 ([d, .int 0] ++ []) om3 = callN prog 100000 m 17 [d, .int 0] om3 from rfl, h17, r_l1, r_l0, r_l2, r_l2, r_call1]
    rw [show (tab prog 100000 m).call 23 ([.amb 0, .lst (strL (ls.map jn))] ++ []) om3 = callN prog 100000 m 23 [.amb 0, .lst (strL (ls.map jn))] om3 from rfl, e4, z_set1, z_seq1]
    simp only [List.set_cons_succ, List.set_cons_zero]
    rw [z_seq, e5, z_seq1, hom]
    exact et
  rw [hB, z_seq, z_setA, r_call, r_l, r_v rfl, r_l1, r_l, r_k, r_l1, r_l0, r_l2, r_l2, r_call1]
  rw [show (tab prog 100000 m).call 9 ([.scr (ns.map D.int), .int 12] ++ []) [] = callN prog 100000 m 9 [.scr (ns.map D.int), .int 12] [] from rfl, hpool, z_setA1, z_seq1]
  simp only [List.set_cons_succ, List.set_cons_zero, List.length_nil, List.nil_append]
  rw [z_seq, z_set, r_call, r_l, r_v rfl, r_l1, r_l, r_k, r_l1, r_l0, r_l2, r_l2, r_call1]
  rw [show (tab prog 100000 m).call 14 ([.amb 0, .int 4] ++ []) [.pl (poolD ns 0 0 1 0 12)] = callN prog 100000 m 14 [.amb 0, .int 4] [.pl (poolD ns 0 0 1 0 12)] from rfl, e1', z_set1, z_seq1]
  simp only [List.set_cons_succ, List.set_cons_zero]
  rw [z_seq, z_ite, r_cm, r_call, r_l, r_v rfl, r_l1, r_l, r_k, r_l1, r_l0, r_l2, r_l2, r_call1]
  rw [show (tab prog 100000 m).call 10 ([.amb 0, .int 4] ++ []) om1 = callN prog 100000 m 10 [.amb 0, .int 4] om1 from rfl, e2, r_cm1, r_k, r_cm2, o_eqi]
  by_cases hv : (v2 : Int) = 0
  · obtain ⟨d, ls, om3, e3, hd, ⟨hl3, hw3⟩, p3⟩ := chain (wf := 100000) (m := m) (by omega) p2
    obtain ⟨om', et⟩ := fin d ls om3 hd (by omega) hw3 p3
    refine ⟨om', ?_⟩
    rw [decide_eq_true hv, r_bl, r_tr1, z_ite1, z_seq, z_set, r_call, r_l, r_v rfl, r_l1, r_l0, r_l2, r_call1]
    rw [show (tab prog 100000 m).call 15 ([.amb 0] ++ []) om2 = callN prog 100000 m 15 [.amb 0] om2 from rfl, e3, z_set1, z_seq1, z_skip, z_seq1]
    simp only [List.set_cons_succ, List.set_cons_zero]
    exact et
  · have h4 : 4 ^ (4 + 1) = 1024 := by decide
    obtain ⟨om', et⟩ := fin d1 ls1 om2 (hd1.le (by decide)) (by omega) (fun l h => by have := hw1 l h; omega) p2
    refine ⟨om', ?_⟩
    rw [decide_eq_false hv, r_bl, r_tr1, z_ite2, z_skip, z_seq1]
    exact et
end K81

set_option Elab.async false
set_option linter.all false
set_option maxRecDepth 100000
set_option maxHeartbeats 4000000
namespace K81
open PySem PySem.Spec PyProof.Rows L2 PD
section
variable {P : Program} {w : World} {K : PySem.W.Frag} {mg : Str → Option Value} {base : Heap} {ca : Nat → Addr} {fi : Nat → FI}
/-- where each def stands in the text -/
structure Deft (K : PySem.W.Frag) (fi : Nat → FI) : Prop where
  f0 : FunA K "whole" "whole" s_whole (fi 0).addr (fi 0).fd
  p0 : (fi 0).ps = (["word"] : List Str)
  f1 : FunA K "signal_words" "signal_words" s_signal_words (fi 1).addr (fi 1).fd
  p1 : (fi 1).ps = (["signal"] : List Str)
  f2 : FunA K "plan_lines" "plan_lines" s_plan_lines (fi 2).addr (fi 2).fd
  p2 : (fi 2).ps = (["plan", "depth"] : List Str)
  f3 : FunA K "__init__" "PlanReader.__init__" s_PlanReader_init (fi 3).addr (fi 3).fd
  p3 : (fi 3).ps = (["self", "lines"] : List Str)
  f4 : FunA K "begins" "PlanReader.begins" s_PlanReader_begins (fi 4).addr (fi 4).fd
  p4 : (fi 4).ps = (["self", "depth", "word"] : List Str)
  f5 : FunA K "number" "PlanReader.number" s_PlanReader_number (fi 5).addr (fi 5).fd
  p5 : (fi 5).ps = (["self", "depth"] : List Str)
  f6 : FunA K "signal" "PlanReader.signal" s_PlanReader_signal (fi 6).addr (fi 6).fd
  p6 : (fi 6).ps = (["self", "words", "place"] : List Str)
  f7 : FunA K "plan" "PlanReader.plan" s_PlanReader_plan (fi 7).addr (fi 7).fd
  p7 : (fi 7).ps = (["self", "depth"] : List Str)
  f8 : FunA K "read_plan" "read_plan" s_read_plan (fi 8).addr (fi 8).fd
  p8 : (fi 8).ps = (["lines"] : List Str)
  f9 : FunA K "_law_pool" "_law_pool" s_Lpool (fi 9).addr (fi 9).fd
  p9 : (fi 9).ps = (["_law_script", "_law_budget"] : List Str)
  f10 : FunA K "_law_draw" "_law_draw" s_Ldraw (fi 10).addr (fi 10).fd
  p10 : (fi 10).ps = (["_law_pool_here", "_law_size"] : List Str)
  f11 : FunA K "_law_spend" "_law_spend" s_Lspend (fi 11).addr (fi 11).fd
  p11 : (fi 11).ps = (["_law_pool_here"] : List Str)
  f12 : FunA K "_law_same" "_law_same" s_Lsame (fi 12).addr (fi 12).fd
  p12 : (fi 12).ps = (["_law_actual", "_law_due"] : List Str)
  f13 : FunA K "_law_signal" "_law_signal" s_Lsignal (fi 13).addr (fi 13).fd
  p13 : (fi 13).ps = (["_law_pool_here", "_law_deep"] : List Str)
  f14 : FunA K "_law_tree" "_law_tree" s_Ltree (fi 14).addr (fi 14).fd
  p14 : (fi 14).ps = (["_law_pool_here", "_law_deep"] : List Str)
  f15 : FunA K "_law_chain" "_law_chain" s_Lchain (fi 15).addr (fi 15).fd
  p15 : (fi 15).ps = (["_law_pool_here"] : List Str)
  f16 : FunA K "_law_signal_words" "_law_signal_words" s_Lsignal_words (fi 16).addr (fi 16).fd
  p16 : (fi 16).ps = (["_law_signal_here"] : List Str)
  f17 : FunA K "_law_lines" "_law_lines" s_Llines (fi 17).addr (fi 17).fd
  p17 : (fi 17).ps = (["_law_plan", "_law_depth"] : List Str)
  f18 : FunA K "_law_digits" "_law_digits" s_Ldigits (fi 18).addr (fi 18).fd
  p18 : (fi 18).ps = (["_law_word_here"] : List Str)
  f19 : FunA K "_law_signal_right" "_law_signal_right" s_Lsignal_right (fi 19).addr (fi 19).fd
  p19 : (fi 19).ps = (["_law_words"] : List Str)
  f20 : FunA K "_law_bad" "_law_bad" s_Lbad (fi 20).addr (fi 20).fd
  p20 : (fi 20).ps = (["_law_lines_here"] : List Str)
  f21 : FunA K "_law_word" "_law_word" s_Lword (fi 21).addr (fi 21).fd
  p21 : (fi 21).ps = (["_law_pool_here", "_law_words"] : List Str)
  f22 : FunA K "_law_spoilt" "_law_spoilt" s_Lspoilt (fi 22).addr (fi 22).fd
  p22 : (fi 22).ps = (["_law_pool_here", "_law_word_here"] : List Str)
  f23 : FunA K "_law_changed" "_law_changed" s_Lchanged (fi 23).addr (fi 23).fd
  p23 : (fi 23).ps = (["_law_pool_here", "_law_lines_here"] : List Str)
  f24 : FunA K "law" "law" s_law (fi 24).addr (fi 24).fd
  p24 : (fi 24).ps = (["_law_script"] : List Str)
theorem link (Tx : Txt P K mg ca fi) (Dx : Deft K fi) : ∀ n, Lnk P w K mg base (lk ca) prog fi n
  | 0 => {
      fn := fun f d _ _ => fn_zero spD_zero
      ini := fun f d c _ _ => fn_zero spI_zero
      nf := nf_ok ca
      opm := opm_ok Tx
      eqm := eqm_ok Tx
      strm := strm_ok Tx }
  | n + 1 => by
    have hL := link Tx Dx n
    exact {
      nf := nf_ok ca
      opm := opm_ok Tx
      eqm := eqm_ok Tx
      strm := strm_ok Tx
      fn := fun f d h hc => by
        match f, h with
        | 0, h => cases h; rw [Dx.p0]; exact fn_ok (N := (["word", "char"] : List Str)) Dx.f0 sc_whole rfl rfl rfl rfl (by decide) fun wf cdv A outer s H E hr => b_whole hL Tx hr
        | 1, h => cases h; rw [Dx.p1]; exact fn_ok (N := (["signal", "words", "part"] : List Str)) Dx.f1 sc_signal_words rfl rfl rfl rfl (by decide) fun wf cdv A outer s H E hr => b_signal_words hL Tx hr
        | 2, h => cases h; rw [Dx.p2]; exact fn_ok (N := (["plan", "depth", "dots", "lines", "signal", "part"] : List Str)) Dx.f2 sc_plan_lines rfl rfl rfl rfl (by decide) fun wf cdv A outer s H E hr => b_plan_lines hL Tx hr
        | 3, h => cases h; rw [Dx.p3]; exact fn_ok (N := (["self", "lines", "line"] : List Str)) Dx.f3 sc_PlanReader_init rfl rfl rfl rfl (by decide) fun wf cdv A outer s H E hr => b_PlanReader_init hL Tx hr
        | 4, h => cases h; rw [Dx.p4]; exact fn_ok (N := (["self", "depth", "word", "words"] : List Str)) Dx.f4 sc_PlanReader_begins rfl rfl rfl rfl (by decide) fun wf cdv A outer s H E hr => b_PlanReader_begins hL Tx hr
        | 5, h => cases h; rw [Dx.p5]; exact fn_ok (N := (["self", "depth", "words"] : List Str)) Dx.f5 sc_PlanReader_number rfl rfl rfl rfl (by decide) fun wf cdv A outer s H E hr => b_PlanReader_number hL Tx hr
        | 6, h => cases h; rw [Dx.p6]; exact fn_ok (N := (["self", "words", "place", "number", "parts", "part"] : List Str)) Dx.f6 sc_PlanReader_signal rfl rfl rfl rfl (by decide) fun wf cdv A outer s H E hr => b_PlanReader_signal hL Tx hr
        | 7, h => cases h; rw [Dx.p7]; exact fn_ok (N := (["self", "depth", "index", "parts", "words", "signal", "place", "row"] : List Str)) Dx.f7 sc_PlanReader_plan rfl rfl rfl rfl (by decide) fun wf cdv A outer s H E hr => b_PlanReader_plan hL Tx hr
        | 8, h => cases h; rw [Dx.p8]; exact fn_ok (N := (["lines", "reader", "plan"] : List Str)) Dx.f8 sc_read_plan rfl rfl rfl rfl (by decide) fun wf cdv A outer s H E hr => b_read_plan hL Tx hr
        | 9, h => cases h; rw [Dx.p9]; exact fn_ok (N := (["_law_script", "_law_budget"] : List Str)) Dx.f9 sc_Lpool rfl rfl rfl rfl (by decide) fun wf cdv A outer s H E hr => b_Lpool hL Tx hr
        | 10, h => cases h; rw [Dx.p10]; exact fn_ok (N := (["_law_pool_here", "_law_size", "_law_cell", "_law_value"] : List Str)) Dx.f10 sc_Ldraw rfl rfl rfl rfl (by decide) fun wf cdv A outer s H E hr => b_Ldraw hL Tx hr
        | 11, h => cases h; rw [Dx.p11]; exact fn_ok (N := (["_law_pool_here"] : List Str)) Dx.f11 sc_Lspend rfl rfl rfl rfl (by decide) fun wf cdv A outer s H E hr => b_Lspend hL Tx hr
        | 12, h => cases h; rw [Dx.p12]; exact fn_ok (N := (["_law_actual", "_law_due", "_law_k"] : List Str)) Dx.f12 sc_Lsame rfl rfl rfl rfl (by decide) fun wf cdv A outer s H E hr => b_Lsame hL Tx hr
        | 13, h => cases h; rw [Dx.p13]; exact fn_ok (N := (["_law_pool_here", "_law_deep", "_law_k"] : List Str)) Dx.f13 sc_Lsignal rfl rfl rfl rfl (by decide) fun wf cdv A outer s H E hr => b_Lsignal hL Tx hr
        | 14, h => cases h; rw [Dx.p14]; exact fn_ok (N := (["_law_pool_here", "_law_deep", "_law_parts", "_law_k", "_law_signal_here", "_law_part"] : List Str)) Dx.f14 sc_Ltree rfl rfl rfl rfl (by decide) fun wf cdv A outer s H E hr => b_Ltree hL Tx hr
        | 15, h => cases h; rw [Dx.p15]; exact fn_ok (N := (["_law_pool_here", "_law_plan", "_law_k", "_law_signal_here", "_law_turn"] : List Str)) Dx.f15 sc_Lchain rfl rfl rfl rfl (by decide) fun wf cdv A outer s H E hr => b_Lchain hL Tx hr
        | 16, h => cases h; rw [Dx.p16]; exact fn_ok (N := (["_law_signal_here", "_law_words", "_law_part"] : List Str)) Dx.f16 sc_Lsignal_words rfl rfl rfl rfl (by decide) fun wf cdv A outer s H E hr => b_Lsignal_words hL Tx hr
        | 17, h => cases h; rw [Dx.p17]; exact fn_ok (N := (["_law_plan", "_law_depth", "_law_lines_here", "_law_signal_here", "_law_part"] : List Str)) Dx.f17 sc_Llines rfl rfl rfl rfl (by decide) fun wf cdv A outer s H E hr => b_Llines hL Tx hr
        | 18, h => cases h; rw [Dx.p18]; exact fn_ok (N := (["_law_word_here", "_law_char"] : List Str)) Dx.f18 sc_Ldigits rfl rfl rfl rfl (by decide) fun wf cdv A outer s H E hr => b_Ldigits hL Tx hr
        | 19, h => cases h; rw [Dx.p19]; exact fn_ok (N := (["_law_words", "_law_depth", "_law_done", "_law_word_here"] : List Str)) Dx.f19 sc_Lsignal_right rfl rfl rfl rfl (by decide) fun wf cdv A outer s H E hr => b_Lsignal_right hL Tx hr
        | 20, h => cases h; rw [Dx.p20]; exact fn_ok (N := (["_law_lines_here", "_law_stack", "_law_at", "_law_words", "_law_found", "_law_turn", "_law_top", "_law_own", "_law_dots", "_law_part"] : List Str)) Dx.f20 sc_Lbad rfl rfl rfl rfl (by decide) fun wf cdv A outer s H E hr => b_Lbad hL Tx hr
        | 21, h => cases h; rw [Dx.p21]; exact fn_ok (N := (["_law_pool_here", "_law_words", "_law_menu"] : List Str)) Dx.f21 sc_Lword rfl rfl rfl rfl (by decide) fun wf cdv A outer s H E hr => b_Lword hL Tx hr
        | 22, h => cases h; rw [Dx.p22]; exact fn_ok (N := (["_law_pool_here", "_law_word_here", "_law_signs", "_law_at"] : List Str)) Dx.f22 sc_Lspoilt rfl rfl rfl rfl (by decide) fun wf cdv A outer s H E hr => b_Lspoilt hL Tx hr
        | 23, h => cases h; rw [Dx.p23]; exact fn_ok (N := (["_law_pool_here", "_law_lines_here", "_law_k", "_law_place", "_law_other", "_law_words", "_law_at", "_law_way"] : List Str)) Dx.f23 sc_Lchanged rfl rfl rfl rfl (by decide) fun wf cdv A outer s H E hr => b_Lchanged hL Tx hr
        | 24, h => cases h; rw [Dx.p24]; exact fn_ok (N := (["_law_script", "_law_pool_here", "_law_plan", "_law_lines_here", "_law_place", "_law_bad_here", "_law_passed", "_law_again", "e"] : List Str)) Dx.f24 sc_law rfl rfl rfl rfl (by decide) fun wf cdv A outer s H E hr => b_law hL Tx hr
        | k + 25, h => exact nomatch (show (none : Option Def) = some d from h)
      ini := fun f d c h hc => by
        match f, h with
        | 0, h => cases h; cases hc
        | 1, h => cases h; cases hc
        | 2, h => cases h; cases hc
        | 3, h => cases h; cases hc
        | 4, h => cases h; cases hc
        | 5, h => cases h; cases hc
        | 6, h => cases h; cases hc
        | 7, h => cases h; cases hc
        | 8, h => cases h; cases hc
        | 9, h => cases h; cases hc
        | 10, h => cases h; cases hc
        | 11, h => cases h; cases hc
        | 12, h => cases h; cases hc
        | 13, h => cases h; cases hc
        | 14, h => cases h; cases hc
        | 15, h => cases h; cases hc
        | 16, h => cases h; cases hc
        | 17, h => cases h; cases hc
        | 18, h => cases h; cases hc
        | 19, h => cases h; cases hc
        | 20, h => cases h; cases hc
        | 21, h => cases h; cases hc
        | 22, h => cases h; cases hc
        | 23, h => cases h; cases hc
        | 24, h => cases h; cases hc
        | k + 25, h => exact nomatch (show (none : Option Def) = some d from h) }
/-- law's: a list of at most 63 ints of at most 2^20 bits is handed in, True comes out -/
def spLaw (K : PySem.W.Frag) : Sp := fun vs H Q _ => ∃ (a : Addr) (ns : List Int), vs = [.ref a] ∧ SqL K H a (ns.map V.int) ∧ ns.length ≤ 63 ∧ (∀ z ∈ ns, Builtin.Int.intBits z ≤ 1048576) ∧ ∀ H', Q (.bl true) H'
theorem ints_rep {L : Lk} {G : Hp} {am : List Addr} : ∀ ns : List Int, RepL K L G am (ns.map D.int) (ns.map V.int)
  | [] => .nil
  | n :: ns => .cons (.int n) (ints_rep ns)
theorem law_sp {L : Lk} (vs : List V) (H : Hp) (Q : VK) (E : XK) (h : spLaw K vs H Q E) : spD K L prog 112 24 vs H Q E := by
  obtain ⟨a, ns, rfl, hS, hl, hb, k⟩ := h
  obtain ⟨wf, om', e⟩ := law_true ns hl hb
  have M : Mem K L (fun _ => none) H [] [] H := { gH := fun _ _ h => h, fH := fun _ _ h => (nomatch h), fg := fun _ _ h => (nomatch h), len := rfl, obs := fun _ _ _ h => (nomatch h), nd := List.nodup_nil, ag := fun _ h => (nomatch h), af := fun _ h => (nomatch h) }
  refine ⟨wf, fun _ => none, H, [], [], [.scr (ns.map D.int)], M, .cons (.scr hS (ints_rep ns)) .nil, ⟨_, rfl, rfl⟩, ?_⟩
  rw [if_neg (by decide), e]
  intro v H' G' am' g M r
  cases r
  exact k H'
end
theorem err_oex {K : PySem.W.Frag} {C : Addr} {o : Obj} {cd : ClassData} {bm : List Value} {a b c d e : Option Value} (h1 : K.lookup C = some o) (h2 : o.cls = .type "type") (h3 : o.data = .cls cd) (h4 : cd.mro = .ref C :: bm) (h5 : PySem.HandSPX.refsVE bm = true) (h6 : cd.hasDel = false) (h7 : cd.hasDict = true)
    (h8 : o.slots = #[a, b, c, d, some (.builtin "ValueError.__new__"), e]) (h9 : PySem.W.findIn K (.ref C) "__setattr__" = some (some (.builtin "object.__setattr__"))) (ha : PySem.W.subIn K (.ref C) (.type "BaseException") = some true) (hb : PySem.W.typeIn K (.ref C) = some (.type "type")) (hc : PySem.W.keepIn K (.ref C) = true) : OexC K C := by
  refine ⟨?_, h9, ha, hb, hc⟩
  obtain ⟨oc, od, odt, osl⟩ := o
  obtain ⟨nm, bs, mro, ns, qn, hd, sn, sub, ab, col, del⟩ := cd
  dsimp only at h2 h3 h4 h6 h7 h8
  subst h2 h3 h4 h6 h7 h8
  exact ⟨_, _, _, _, bm, _, _, _, _, _, _, _, _, _, _, h1, h5⟩
theorem obj_eta {o : Obj} {d : Data} (h : o.data = d) : o = ⟨o.cls, o.dict, d, o.slots⟩ := by
  subst h
  rfl
theorem all_mk {P : Program} {w : World} {K : PySem.W.Frag} {h : Heap} {mg : Str → Option Value} {fa C0 C6 C3 C4 C5 C2 C1 C7 f0 f1 f2 f3 f4 f5 f6 f7 f8 f9 f10 f11 f12 f13 f14 f15 f16 f17 f18 f19 f20 f21 f22 f23 f24 : Addr} (X : K.In h) (G : h.Ns mainGlobals mg) (hfa : mg "law" = some (.ref fa))
    {od0 an0 : Option Addr} {sl0 : Array (Option Value)} {oc0 kV0 dc0 pm0 cd0 ct0 : Value} {od1 an1 : Option Addr} {sl1 : Array (Option Value)} {oc1 kV1 dc1 pm1 cd1 ct1 : Value} {od2 an2 : Option Addr} {sl2 : Array (Option Value)} {oc2 kV2 dc2 pm2 cd2 ct2 : Value} {od3 an3 : Option Addr} {sl3 : Array (Option Value)} {oc3 kV3 dc3 pm3 cd3 ct3 : Value} {od4 an4 : Option Addr} {sl4 : Array (Option Value)} {oc4 kV4 dc4 pm4 cd4 ct4 : Value} {od5 an5 : Option Addr} {sl5 : Array (Option Value)} {oc5 kV5 dc5 pm5 cd5 ct5 : Value} {od6 an6 : Option Addr} {sl6 : Array (Option Value)} {oc6 kV6 dc6 pm6 cd6 ct6 : Value} {od7 an7 : Option Addr} {sl7 : Array (Option Value)} {oc7 kV7 dc7 pm7 cd7 ct7 : Value} {od8 an8 : Option Addr} {sl8 : Array (Option Value)} {oc8 kV8 dc8 pm8 cd8 ct8 : Value} {od9 an9 : Option Addr} {sl9 : Array (Option Value)} {oc9 kV9 dc9 pm9 cd9 ct9 : Value} {od10 an10 : Option Addr} {sl10 : Array (Option Value)} {oc10 kV10 dc10 pm10 cd10 ct10 : Value} {od11 an11 : Option Addr} {sl11 : Array (Option Value)} {oc11 kV11 dc11 pm11 cd11 ct11 : Value} {od12 an12 : Option Addr} {sl12 : Array (Option Value)} {oc12 kV12 dc12 pm12 cd12 ct12 : Value} {od13 an13 : Option Addr} {sl13 : Array (Option Value)} {oc13 kV13 dc13 pm13 cd13 ct13 : Value} {od14 an14 : Option Addr} {sl14 : Array (Option Value)} {oc14 kV14 dc14 pm14 cd14 ct14 : Value} {od15 an15 : Option Addr} {sl15 : Array (Option Value)} {oc15 kV15 dc15 pm15 cd15 ct15 : Value} {od16 an16 : Option Addr} {sl16 : Array (Option Value)} {oc16 kV16 dc16 pm16 cd16 ct16 : Value} {od17 an17 : Option Addr} {sl17 : Array (Option Value)} {oc17 kV17 dc17 pm17 cd17 ct17 : Value} {od18 an18 : Option Addr} {sl18 : Array (Option Value)} {oc18 kV18 dc18 pm18 cd18 ct18 : Value} {od19 an19 : Option Addr} {sl19 : Array (Option Value)} {oc19 kV19 dc19 pm19 cd19 ct19 : Value} {od20 an20 : Option Addr} {sl20 : Array (Option Value)} {oc20 kV20 dc20 pm20 cd20 ct20 : Value} {od21 an21 : Option Addr} {sl21 : Array (Option Value)} {oc21 kV21 dc21 pm21 cd21 ct21 : Value} {od22 an22 : Option Addr} {sl22 : Array (Option Value)} {oc22 kV22 dc22 pm22 cd22 ct22 : Value} {od23 an23 : Option Addr} {sl23 : Array (Option Value)} {oc23 kV23 dc23 pm23 cd23 ct23 : Value} {od24 an24 : Option Addr} {sl24 : Array (Option Value)} {oc24 kV24 dc24 pm24 cd24 ct24 : Value}  {T2 : Addr} {oT2 : Obj} {nT2 : Nat} {tk2_0 : Tok} {oX6 xoD6 xoC6 : Obj} {cX6 : ClassData} {bX6 : List Value} {kX6a kX6b kX6c kX6d kX6e : Option Value} {fX6 xcd6 xcc6 : Addr} {xoc6 xkV6 xdo6 xpm6 xct6 : Value} {xod6 xan6 : Option Addr} {xos6 : Array (Option Value)} {xvs6 : Array Value} {xfl6 : Str} {xtf6 : Tok} {t_MOST_DIGITS : Tok}
    (aC0 : PySem.W.nsIn K mainGlobals "PlanReader" = some (some (.ref C0)))
    (pg0 : PySem.W.plainGet K C0 Str.empty = true)
    (hd0 : PySem.W.hasDictIn K C0 = true)
    (po0 : PySem.W.plainOver K C0 = true)
    (sa0 : PySem.W.findIn K (.ref C0) "__setattr__" = some (some (.builtin "object.__setattr__")))
    (mk0 : PySem.W.makesIn K C0 = true)
    (kc0 : PySem.W.keepIn K (.ref C0) = true)
    (nf0_0 : PySem.W.findIn K (.ref C0) "lines" = some none)
    (nf0_1 : PySem.W.findIn K (.ref C0) "at" = some none)
    (aX6 : PySem.W.nsIn K mainGlobals "BadPaper" = some (some (.ref C6)))
    (xb6 : PySem.W.subIn K (.ref C6) (.type "BaseException") = some true)
    (xt6 : PySem.W.typeIn K (.ref C6) = some (.type "type"))
    (xd6 : PySem.W.hasDictIn K C6 = true)
    (xg6 : PySem.W.findIn K (.ref C6) "__getattribute__" = some (some (.builtin "BaseException.__getattribute__")))
    (xh6 : PySem.W.findIn K (.ref C6) "__getattr__" = some none)
    (xa6 : PySem.W.findIn K (.ref C6) "__class__" = some (some (.builtin "object.__class__")))
    (xo6 : PySem.W.mroIn K C6 (.type "object") = some true)
    (xn6 : PySem.W.findIn K (.ref C6) "at" = some none)
    (xk6 : PySem.W.keepIn K (.ref C6) = true)
    (rl6 : K.lookup C6 = some oX6)
    (rc6 : oX6.cls = .type "type")
    (rd6 : oX6.data = .cls cX6)
    (rm6 : cX6.mro = .ref C6 :: bX6)
    (rv6 : PySem.HandSPX.refsVE bX6 = true)
    (re6 : cX6.hasDel = false)
    (rh6 : cX6.hasDict = true)
    (rs6 : oX6.slots = #[kX6a, kX6b, kX6c, kX6d, some (.builtin "ValueError.__new__"), kX6e])
    (rsa6 : PySem.W.findIn K (.ref C6) "__setattr__" = some (some (.builtin "object.__setattr__")))
    (ri6 : PySem.W.findIn K (.ref C6) "__init__" = some (some (.ref fX6)))
    (rt6 : PySem.W.typeIn K (.ref fX6) = some (.type "function"))
    (rn6 : PySem.W.findIn K (.ref C6) "at" = some none)
    (ru6 : PySem.W.subIn K (.ref C6) (.type "ValueError") = some true)
    (rp6 : PySem.W.ks_superIn K C6 C6 "__init__" = some (some (.builtin "ValueError.__init__")))
    (ro6 : PySem.W.mroIn K C6 (.ref C6) = some true)
    (rf6 : K.lookup fX6 = some ⟨xoc6, xod6, .func (PySem.W.ksFn "__init__" "BadPaper.__init__" (defArgs s_BadPaper_init) (defBody s_BadPaper_init) (defScope s_BadPaper_init) .none xkV6 xdo6 xpm6 xan6 (.ref xcd6) xct6 xcc6), xos6⟩)
    (rco6 : PySem.W.codeIn K (.ref xcd6) "BadPaper.__init__" = true)
    (rcl6 : K.lookup xcd6 = some xoD6)
    (rcd6 : xoD6.data = .fields xvs6)
    (rcv6 : xvs6[2]? = some (.str xfl6 xtf6))
    (rcf6 : ((P.main.file : Str) == xfl6) = true)
    (rxl6 : K.lookup xcc6 = some xoC6)
    (rxd6 : xoC6.data = .cell (some (.ref C6)))
    (aX3 : PySem.W.nsIn K mainGlobals "BadRatio" = some (some (.ref C3)))
    (aX4 : PySem.W.nsIn K mainGlobals "BadTable" = some (some (.ref C4)))
    (aX5 : PySem.W.nsIn K mainGlobals "BadTask" = some (some (.ref C5)))
    (aX2 : PySem.W.nsIn K mainGlobals "BadText" = some (some (.ref C2)))
    (aX1 : PySem.W.nsIn K mainGlobals "SeeError" = some (some (.ref C1)))
    (xb1 : PySem.W.subIn K (.ref C1) (.type "BaseException") = some true)
    (xt1 : PySem.W.typeIn K (.ref C1) = some (.type "type"))
    (xd1 : PySem.W.hasDictIn K C1 = true)
    (aX7 : PySem.W.nsIn K mainGlobals "TooLarge" = some (some (.ref C7)))
    (n_super0 : PySem.W.nsIn K mainGlobals "super" = some none)
    (h_stat : PySem.W.nsIn K PySem.cStatics "thirdparty.any" = some none)
    (h_main : (P.main.scope.names.lookup ("super" : Str)).isSome = false)
    (xs6_1 : PySem.W.subIn K (.ref C6) (.ref C1) = some true)
    (ko6_BadPaper : PySem.W.kitOne K (.ref C6) (.ref C6) = some true)
    (ko6_BadRatio : PySem.W.kitOne K (.ref C6) (.ref C3) = some false)
    (ko6_BadTable : PySem.W.kitOne K (.ref C6) (.ref C4) = some false)
    (ko6_BadTask : PySem.W.kitOne K (.ref C6) (.ref C5) = some false)
    (ko6_BadText : PySem.W.kitOne K (.ref C6) (.ref C2) = some false)
    (ko6_TooLarge : PySem.W.kitOne K (.ref C6) (.ref C7) = some false)
    (hn : PySem.W.specialIn K (.builtin "object.__class__") "__get__" = some (some (.builtin "getset_descriptor.__get__")))
    (ht : PySem.W.takesIn K (.builtin "object.__class__") = some true)
    (a0 : PySem.W.nsIn K mainGlobals "whole" = some (some (.ref f0)))
    (l0 : K.lookup f0 = some ⟨oc0, od0, .func (PySem.W.fnOf "whole" "whole" (defArgs s_whole) (defBody s_whole) (defScope s_whole) .none kV0 dc0 pm0 an0 cd0 ct0), sl0⟩)
    (c0 : PySem.W.codeIn K cd0 "whole" = true)
    (k0 : PySem.W.keepIn K (.ref f0) = true)
    (a1 : PySem.W.nsIn K mainGlobals "signal_words" = some (some (.ref f1)))
    (l1 : K.lookup f1 = some ⟨oc1, od1, .func (PySem.W.fnOf "signal_words" "signal_words" (defArgs s_signal_words) (defBody s_signal_words) (defScope s_signal_words) .none kV1 dc1 pm1 an1 cd1 ct1), sl1⟩)
    (c1 : PySem.W.codeIn K cd1 "signal_words" = true)
    (k1 : PySem.W.keepIn K (.ref f1) = true)
    (a2 : PySem.W.nsIn K mainGlobals "plan_lines" = some (some (.ref f2)))
    (l2 : K.lookup f2 = some ⟨oc2, od2, .func (PySem.W.fnOf "plan_lines" "plan_lines" (defArgs s_plan_lines) (defBody s_plan_lines) (defScope s_plan_lines) (.ref T2) kV2 dc2 pm2 an2 cd2 ct2), sl2⟩)
    (c2 : PySem.W.codeIn K cd2 "plan_lines" = true)
    (k2 : PySem.W.keepIn K (.ref f2) = true)
    (lT2 : K.lookup T2 = some oT2)
    (dT2 : oT2.data = .seq #[.int 0 tk2_0] nT2)
    (a3 : PySem.W.findIn K (.ref C0) "__init__" = some (some (.ref f3)))
    (i3 : PySem.W.isFn K (.ref f3) = true)
    (l3 : K.lookup f3 = some ⟨oc3, od3, .func (PySem.W.fnOf "__init__" "PlanReader.__init__" (defArgs s_PlanReader_init) (defBody s_PlanReader_init) (defScope s_PlanReader_init) .none kV3 dc3 pm3 an3 cd3 ct3), sl3⟩)
    (c3 : PySem.W.codeIn K cd3 "PlanReader.__init__" = true)
    (k3 : PySem.W.keepIn K (.ref f3) = true)
    (a4 : PySem.W.findIn K (.ref C0) "begins" = some (some (.ref f4)))
    (i4 : PySem.W.isFn K (.ref f4) = true)
    (l4 : K.lookup f4 = some ⟨oc4, od4, .func (PySem.W.fnOf "begins" "PlanReader.begins" (defArgs s_PlanReader_begins) (defBody s_PlanReader_begins) (defScope s_PlanReader_begins) .none kV4 dc4 pm4 an4 cd4 ct4), sl4⟩)
    (c4 : PySem.W.codeIn K cd4 "PlanReader.begins" = true)
    (k4 : PySem.W.keepIn K (.ref f4) = true)
    (a5 : PySem.W.findIn K (.ref C0) "number" = some (some (.ref f5)))
    (i5 : PySem.W.isFn K (.ref f5) = true)
    (l5 : K.lookup f5 = some ⟨oc5, od5, .func (PySem.W.fnOf "number" "PlanReader.number" (defArgs s_PlanReader_number) (defBody s_PlanReader_number) (defScope s_PlanReader_number) .none kV5 dc5 pm5 an5 cd5 ct5), sl5⟩)
    (c5 : PySem.W.codeIn K cd5 "PlanReader.number" = true)
    (k5 : PySem.W.keepIn K (.ref f5) = true)
    (a6 : PySem.W.findIn K (.ref C0) "signal" = some (some (.ref f6)))
    (i6 : PySem.W.isFn K (.ref f6) = true)
    (l6 : K.lookup f6 = some ⟨oc6, od6, .func (PySem.W.fnOf "signal" "PlanReader.signal" (defArgs s_PlanReader_signal) (defBody s_PlanReader_signal) (defScope s_PlanReader_signal) .none kV6 dc6 pm6 an6 cd6 ct6), sl6⟩)
    (c6 : PySem.W.codeIn K cd6 "PlanReader.signal" = true)
    (k6 : PySem.W.keepIn K (.ref f6) = true)
    (a7 : PySem.W.findIn K (.ref C0) "plan" = some (some (.ref f7)))
    (i7 : PySem.W.isFn K (.ref f7) = true)
    (l7 : K.lookup f7 = some ⟨oc7, od7, .func (PySem.W.fnOf "plan" "PlanReader.plan" (defArgs s_PlanReader_plan) (defBody s_PlanReader_plan) (defScope s_PlanReader_plan) .none kV7 dc7 pm7 an7 cd7 ct7), sl7⟩)
    (c7 : PySem.W.codeIn K cd7 "PlanReader.plan" = true)
    (k7 : PySem.W.keepIn K (.ref f7) = true)
    (a8 : PySem.W.nsIn K mainGlobals "read_plan" = some (some (.ref f8)))
    (l8 : K.lookup f8 = some ⟨oc8, od8, .func (PySem.W.fnOf "read_plan" "read_plan" (defArgs s_read_plan) (defBody s_read_plan) (defScope s_read_plan) .none kV8 dc8 pm8 an8 cd8 ct8), sl8⟩)
    (c8 : PySem.W.codeIn K cd8 "read_plan" = true)
    (k8 : PySem.W.keepIn K (.ref f8) = true)
    (a9 : PySem.W.nsIn K mainGlobals "_law_pool" = some (some (.ref f9)))
    (l9 : K.lookup f9 = some ⟨oc9, od9, .func (PySem.W.fnOf "_law_pool" "_law_pool" (defArgs s_Lpool) (defBody s_Lpool) (defScope s_Lpool) .none kV9 dc9 pm9 an9 cd9 ct9), sl9⟩)
    (c9 : PySem.W.codeIn K cd9 "_law_pool" = true)
    (k9 : PySem.W.keepIn K (.ref f9) = true)
    (a10 : PySem.W.nsIn K mainGlobals "_law_draw" = some (some (.ref f10)))
    (l10 : K.lookup f10 = some ⟨oc10, od10, .func (PySem.W.fnOf "_law_draw" "_law_draw" (defArgs s_Ldraw) (defBody s_Ldraw) (defScope s_Ldraw) .none kV10 dc10 pm10 an10 cd10 ct10), sl10⟩)
    (c10 : PySem.W.codeIn K cd10 "_law_draw" = true)
    (k10 : PySem.W.keepIn K (.ref f10) = true)
    (a11 : PySem.W.nsIn K mainGlobals "_law_spend" = some (some (.ref f11)))
    (l11 : K.lookup f11 = some ⟨oc11, od11, .func (PySem.W.fnOf "_law_spend" "_law_spend" (defArgs s_Lspend) (defBody s_Lspend) (defScope s_Lspend) .none kV11 dc11 pm11 an11 cd11 ct11), sl11⟩)
    (c11 : PySem.W.codeIn K cd11 "_law_spend" = true)
    (k11 : PySem.W.keepIn K (.ref f11) = true)
    (a12 : PySem.W.nsIn K mainGlobals "_law_same" = some (some (.ref f12)))
    (l12 : K.lookup f12 = some ⟨oc12, od12, .func (PySem.W.fnOf "_law_same" "_law_same" (defArgs s_Lsame) (defBody s_Lsame) (defScope s_Lsame) .none kV12 dc12 pm12 an12 cd12 ct12), sl12⟩)
    (c12 : PySem.W.codeIn K cd12 "_law_same" = true)
    (k12 : PySem.W.keepIn K (.ref f12) = true)
    (a13 : PySem.W.nsIn K mainGlobals "_law_signal" = some (some (.ref f13)))
    (l13 : K.lookup f13 = some ⟨oc13, od13, .func (PySem.W.fnOf "_law_signal" "_law_signal" (defArgs s_Lsignal) (defBody s_Lsignal) (defScope s_Lsignal) .none kV13 dc13 pm13 an13 cd13 ct13), sl13⟩)
    (c13 : PySem.W.codeIn K cd13 "_law_signal" = true)
    (k13 : PySem.W.keepIn K (.ref f13) = true)
    (a14 : PySem.W.nsIn K mainGlobals "_law_tree" = some (some (.ref f14)))
    (l14 : K.lookup f14 = some ⟨oc14, od14, .func (PySem.W.fnOf "_law_tree" "_law_tree" (defArgs s_Ltree) (defBody s_Ltree) (defScope s_Ltree) .none kV14 dc14 pm14 an14 cd14 ct14), sl14⟩)
    (c14 : PySem.W.codeIn K cd14 "_law_tree" = true)
    (k14 : PySem.W.keepIn K (.ref f14) = true)
    (a15 : PySem.W.nsIn K mainGlobals "_law_chain" = some (some (.ref f15)))
    (l15 : K.lookup f15 = some ⟨oc15, od15, .func (PySem.W.fnOf "_law_chain" "_law_chain" (defArgs s_Lchain) (defBody s_Lchain) (defScope s_Lchain) .none kV15 dc15 pm15 an15 cd15 ct15), sl15⟩)
    (c15 : PySem.W.codeIn K cd15 "_law_chain" = true)
    (k15 : PySem.W.keepIn K (.ref f15) = true)
    (a16 : PySem.W.nsIn K mainGlobals "_law_signal_words" = some (some (.ref f16)))
    (l16 : K.lookup f16 = some ⟨oc16, od16, .func (PySem.W.fnOf "_law_signal_words" "_law_signal_words" (defArgs s_Lsignal_words) (defBody s_Lsignal_words) (defScope s_Lsignal_words) .none kV16 dc16 pm16 an16 cd16 ct16), sl16⟩)
    (c16 : PySem.W.codeIn K cd16 "_law_signal_words" = true)
    (k16 : PySem.W.keepIn K (.ref f16) = true)
    (a17 : PySem.W.nsIn K mainGlobals "_law_lines" = some (some (.ref f17)))
    (l17 : K.lookup f17 = some ⟨oc17, od17, .func (PySem.W.fnOf "_law_lines" "_law_lines" (defArgs s_Llines) (defBody s_Llines) (defScope s_Llines) .none kV17 dc17 pm17 an17 cd17 ct17), sl17⟩)
    (c17 : PySem.W.codeIn K cd17 "_law_lines" = true)
    (k17 : PySem.W.keepIn K (.ref f17) = true)
    (a18 : PySem.W.nsIn K mainGlobals "_law_digits" = some (some (.ref f18)))
    (l18 : K.lookup f18 = some ⟨oc18, od18, .func (PySem.W.fnOf "_law_digits" "_law_digits" (defArgs s_Ldigits) (defBody s_Ldigits) (defScope s_Ldigits) .none kV18 dc18 pm18 an18 cd18 ct18), sl18⟩)
    (c18 : PySem.W.codeIn K cd18 "_law_digits" = true)
    (k18 : PySem.W.keepIn K (.ref f18) = true)
    (a19 : PySem.W.nsIn K mainGlobals "_law_signal_right" = some (some (.ref f19)))
    (l19 : K.lookup f19 = some ⟨oc19, od19, .func (PySem.W.fnOf "_law_signal_right" "_law_signal_right" (defArgs s_Lsignal_right) (defBody s_Lsignal_right) (defScope s_Lsignal_right) .none kV19 dc19 pm19 an19 cd19 ct19), sl19⟩)
    (c19 : PySem.W.codeIn K cd19 "_law_signal_right" = true)
    (k19 : PySem.W.keepIn K (.ref f19) = true)
    (a20 : PySem.W.nsIn K mainGlobals "_law_bad" = some (some (.ref f20)))
    (l20 : K.lookup f20 = some ⟨oc20, od20, .func (PySem.W.fnOf "_law_bad" "_law_bad" (defArgs s_Lbad) (defBody s_Lbad) (defScope s_Lbad) .none kV20 dc20 pm20 an20 cd20 ct20), sl20⟩)
    (c20 : PySem.W.codeIn K cd20 "_law_bad" = true)
    (k20 : PySem.W.keepIn K (.ref f20) = true)
    (a21 : PySem.W.nsIn K mainGlobals "_law_word" = some (some (.ref f21)))
    (l21 : K.lookup f21 = some ⟨oc21, od21, .func (PySem.W.fnOf "_law_word" "_law_word" (defArgs s_Lword) (defBody s_Lword) (defScope s_Lword) .none kV21 dc21 pm21 an21 cd21 ct21), sl21⟩)
    (c21 : PySem.W.codeIn K cd21 "_law_word" = true)
    (k21 : PySem.W.keepIn K (.ref f21) = true)
    (a22 : PySem.W.nsIn K mainGlobals "_law_spoilt" = some (some (.ref f22)))
    (l22 : K.lookup f22 = some ⟨oc22, od22, .func (PySem.W.fnOf "_law_spoilt" "_law_spoilt" (defArgs s_Lspoilt) (defBody s_Lspoilt) (defScope s_Lspoilt) .none kV22 dc22 pm22 an22 cd22 ct22), sl22⟩)
    (c22 : PySem.W.codeIn K cd22 "_law_spoilt" = true)
    (k22 : PySem.W.keepIn K (.ref f22) = true)
    (a23 : PySem.W.nsIn K mainGlobals "_law_changed" = some (some (.ref f23)))
    (l23 : K.lookup f23 = some ⟨oc23, od23, .func (PySem.W.fnOf "_law_changed" "_law_changed" (defArgs s_Lchanged) (defBody s_Lchanged) (defScope s_Lchanged) .none kV23 dc23 pm23 an23 cd23 ct23), sl23⟩)
    (c23 : PySem.W.codeIn K cd23 "_law_changed" = true)
    (k23 : PySem.W.keepIn K (.ref f23) = true)
    (a24 : PySem.W.nsIn K mainGlobals "law" = some (some (.ref f24)))
    (l24 : K.lookup f24 = some ⟨oc24, od24, .func (PySem.W.fnOf "law" "law" (defArgs s_law) (defBody s_law) (defScope s_law) .none kV24 dc24 pm24 an24 cd24 ct24), sl24⟩)
    (c24 : PySem.W.codeIn K cd24 "law" = true)
    (k24 : PySem.W.keepIn K (.ref f24) = true)
    (n_all : PySem.W.nsIn K mainGlobals "all" = some none)
    (n_bool : PySem.W.nsIn K mainGlobals "bool" = some none)
    (n_int : PySem.W.nsIn K mainGlobals "int" = some none)
    (n_isinstance : PySem.W.nsIn K mainGlobals "isinstance" = some none)
    (n_len : PySem.W.nsIn K mainGlobals "len" = some none)
    (n_list : PySem.W.nsIn K mainGlobals "list" = some none)
    (n_range : PySem.W.nsIn K mainGlobals "range" = some none)
    (n_str : PySem.W.nsIn K mainGlobals "str" = some none)
    (n_tuple : PySem.W.nsIn K mainGlobals "tuple" = some none)
    (g_MOST_DIGITS : PySem.W.nsIn K mainGlobals "MOST_DIGITS" = some (some (.int 60 t_MOST_DIGITS))) :
    ∃ fd : FuncData, (∀ (s : Shared) (u : Value), BindsTo s fd ⟨[u], []⟩ [("_law_script", u)]) ∧ ∀ base : Heap, K.In base → base.Ns mainGlobals mg → FnOk P w K mg base (L2.CX P w) 224 fa fd ["_law_script"] (spLaw K) := by
  have e := hfa.symm.trans (PySem.W.mg_of X G a24)
  cases e
  let f24 := fa
  let fi : Nat → FI := fun i => match i with
    | 0 => ⟨f0, PySem.W.fnOf "whole" "whole" (defArgs s_whole) (defBody s_whole) (defScope s_whole) .none kV0 dc0 pm0 an0 cd0 ct0, ["word"]⟩
    | 1 => ⟨f1, PySem.W.fnOf "signal_words" "signal_words" (defArgs s_signal_words) (defBody s_signal_words) (defScope s_signal_words) .none kV1 dc1 pm1 an1 cd1 ct1, ["signal"]⟩
    | 2 => ⟨f2, PySem.W.fnOf "plan_lines" "plan_lines" (defArgs s_plan_lines) (defBody s_plan_lines) (defScope s_plan_lines) (.ref T2) kV2 dc2 pm2 an2 cd2 ct2, ["plan", "depth"]⟩
    | 3 => ⟨f3, PySem.W.fnOf "__init__" "PlanReader.__init__" (defArgs s_PlanReader_init) (defBody s_PlanReader_init) (defScope s_PlanReader_init) .none kV3 dc3 pm3 an3 cd3 ct3, ["self", "lines"]⟩
    | 4 => ⟨f4, PySem.W.fnOf "begins" "PlanReader.begins" (defArgs s_PlanReader_begins) (defBody s_PlanReader_begins) (defScope s_PlanReader_begins) .none kV4 dc4 pm4 an4 cd4 ct4, ["self", "depth", "word"]⟩
    | 5 => ⟨f5, PySem.W.fnOf "number" "PlanReader.number" (defArgs s_PlanReader_number) (defBody s_PlanReader_number) (defScope s_PlanReader_number) .none kV5 dc5 pm5 an5 cd5 ct5, ["self", "depth"]⟩
    | 6 => ⟨f6, PySem.W.fnOf "signal" "PlanReader.signal" (defArgs s_PlanReader_signal) (defBody s_PlanReader_signal) (defScope s_PlanReader_signal) .none kV6 dc6 pm6 an6 cd6 ct6, ["self", "words", "place"]⟩
    | 7 => ⟨f7, PySem.W.fnOf "plan" "PlanReader.plan" (defArgs s_PlanReader_plan) (defBody s_PlanReader_plan) (defScope s_PlanReader_plan) .none kV7 dc7 pm7 an7 cd7 ct7, ["self", "depth"]⟩
    | 8 => ⟨f8, PySem.W.fnOf "read_plan" "read_plan" (defArgs s_read_plan) (defBody s_read_plan) (defScope s_read_plan) .none kV8 dc8 pm8 an8 cd8 ct8, ["lines"]⟩
    | 9 => ⟨f9, PySem.W.fnOf "_law_pool" "_law_pool" (defArgs s_Lpool) (defBody s_Lpool) (defScope s_Lpool) .none kV9 dc9 pm9 an9 cd9 ct9, ["_law_script", "_law_budget"]⟩
    | 10 => ⟨f10, PySem.W.fnOf "_law_draw" "_law_draw" (defArgs s_Ldraw) (defBody s_Ldraw) (defScope s_Ldraw) .none kV10 dc10 pm10 an10 cd10 ct10, ["_law_pool_here", "_law_size"]⟩
    | 11 => ⟨f11, PySem.W.fnOf "_law_spend" "_law_spend" (defArgs s_Lspend) (defBody s_Lspend) (defScope s_Lspend) .none kV11 dc11 pm11 an11 cd11 ct11, ["_law_pool_here"]⟩
    | 12 => ⟨f12, PySem.W.fnOf "_law_same" "_law_same" (defArgs s_Lsame) (defBody s_Lsame) (defScope s_Lsame) .none kV12 dc12 pm12 an12 cd12 ct12, ["_law_actual", "_law_due"]⟩
    | 13 => ⟨f13, PySem.W.fnOf "_law_signal" "_law_signal" (defArgs s_Lsignal) (defBody s_Lsignal) (defScope s_Lsignal) .none kV13 dc13 pm13 an13 cd13 ct13, ["_law_pool_here", "_law_deep"]⟩
    | 14 => ⟨f14, PySem.W.fnOf "_law_tree" "_law_tree" (defArgs s_Ltree) (defBody s_Ltree) (defScope s_Ltree) .none kV14 dc14 pm14 an14 cd14 ct14, ["_law_pool_here", "_law_deep"]⟩
    | 15 => ⟨f15, PySem.W.fnOf "_law_chain" "_law_chain" (defArgs s_Lchain) (defBody s_Lchain) (defScope s_Lchain) .none kV15 dc15 pm15 an15 cd15 ct15, ["_law_pool_here"]⟩
    | 16 => ⟨f16, PySem.W.fnOf "_law_signal_words" "_law_signal_words" (defArgs s_Lsignal_words) (defBody s_Lsignal_words) (defScope s_Lsignal_words) .none kV16 dc16 pm16 an16 cd16 ct16, ["_law_signal_here"]⟩
    | 17 => ⟨f17, PySem.W.fnOf "_law_lines" "_law_lines" (defArgs s_Llines) (defBody s_Llines) (defScope s_Llines) .none kV17 dc17 pm17 an17 cd17 ct17, ["_law_plan", "_law_depth"]⟩
    | 18 => ⟨f18, PySem.W.fnOf "_law_digits" "_law_digits" (defArgs s_Ldigits) (defBody s_Ldigits) (defScope s_Ldigits) .none kV18 dc18 pm18 an18 cd18 ct18, ["_law_word_here"]⟩
    | 19 => ⟨f19, PySem.W.fnOf "_law_signal_right" "_law_signal_right" (defArgs s_Lsignal_right) (defBody s_Lsignal_right) (defScope s_Lsignal_right) .none kV19 dc19 pm19 an19 cd19 ct19, ["_law_words"]⟩
    | 20 => ⟨f20, PySem.W.fnOf "_law_bad" "_law_bad" (defArgs s_Lbad) (defBody s_Lbad) (defScope s_Lbad) .none kV20 dc20 pm20 an20 cd20 ct20, ["_law_lines_here"]⟩
    | 21 => ⟨f21, PySem.W.fnOf "_law_word" "_law_word" (defArgs s_Lword) (defBody s_Lword) (defScope s_Lword) .none kV21 dc21 pm21 an21 cd21 ct21, ["_law_pool_here", "_law_words"]⟩
    | 22 => ⟨f22, PySem.W.fnOf "_law_spoilt" "_law_spoilt" (defArgs s_Lspoilt) (defBody s_Lspoilt) (defScope s_Lspoilt) .none kV22 dc22 pm22 an22 cd22 ct22, ["_law_pool_here", "_law_word_here"]⟩
    | 23 => ⟨f23, PySem.W.fnOf "_law_changed" "_law_changed" (defArgs s_Lchanged) (defBody s_Lchanged) (defScope s_Lchanged) .none kV23 dc23 pm23 an23 cd23 ct23, ["_law_pool_here", "_law_lines_here"]⟩
    | 24 => ⟨f24, PySem.W.fnOf "law" "law" (defArgs s_law) (defBody s_law) (defScope s_law) .none kV24 dc24 pm24 an24 cd24 ct24, ["_law_script"]⟩
    | _ => ⟨f0, PySem.W.fnOf "whole" "whole" (defArgs s_whole) (defBody s_whole) (defScope s_whole) .none kV0 dc0 pm0 an0 cd0 ct0, ["word"]⟩
  let ca : Nat → Addr := fun c => match c with
    | 0 => C0
    | 6 => C6
    | 3 => C3
    | 4 => C4
    | 5 => C5
    | 2 => C2
    | 1 => C1
    | 7 => C7
    | _ => fa
  have Dx : Deft K fi := {
    f0 := ⟨⟨_, _, _, _, _, _, _, _, _, _, rfl, l0, c0⟩⟩
    p0 := rfl
    f1 := ⟨⟨_, _, _, _, _, _, _, _, _, _, rfl, l1, c1⟩⟩
    p1 := rfl
    f2 := ⟨⟨_, _, _, _, _, _, _, _, _, _, rfl, l2, c2⟩⟩
    p2 := rfl
    f3 := ⟨⟨_, _, _, _, _, _, _, _, _, _, rfl, l3, c3⟩⟩
    p3 := rfl
    f4 := ⟨⟨_, _, _, _, _, _, _, _, _, _, rfl, l4, c4⟩⟩
    p4 := rfl
    f5 := ⟨⟨_, _, _, _, _, _, _, _, _, _, rfl, l5, c5⟩⟩
    p5 := rfl
    f6 := ⟨⟨_, _, _, _, _, _, _, _, _, _, rfl, l6, c6⟩⟩
    p6 := rfl
    f7 := ⟨⟨_, _, _, _, _, _, _, _, _, _, rfl, l7, c7⟩⟩
    p7 := rfl
    f8 := ⟨⟨_, _, _, _, _, _, _, _, _, _, rfl, l8, c8⟩⟩
    p8 := rfl
    f9 := ⟨⟨_, _, _, _, _, _, _, _, _, _, rfl, l9, c9⟩⟩
    p9 := rfl
    f10 := ⟨⟨_, _, _, _, _, _, _, _, _, _, rfl, l10, c10⟩⟩
    p10 := rfl
    f11 := ⟨⟨_, _, _, _, _, _, _, _, _, _, rfl, l11, c11⟩⟩
    p11 := rfl
    f12 := ⟨⟨_, _, _, _, _, _, _, _, _, _, rfl, l12, c12⟩⟩
    p12 := rfl
    f13 := ⟨⟨_, _, _, _, _, _, _, _, _, _, rfl, l13, c13⟩⟩
    p13 := rfl
    f14 := ⟨⟨_, _, _, _, _, _, _, _, _, _, rfl, l14, c14⟩⟩
    p14 := rfl
    f15 := ⟨⟨_, _, _, _, _, _, _, _, _, _, rfl, l15, c15⟩⟩
    p15 := rfl
    f16 := ⟨⟨_, _, _, _, _, _, _, _, _, _, rfl, l16, c16⟩⟩
    p16 := rfl
    f17 := ⟨⟨_, _, _, _, _, _, _, _, _, _, rfl, l17, c17⟩⟩
    p17 := rfl
    f18 := ⟨⟨_, _, _, _, _, _, _, _, _, _, rfl, l18, c18⟩⟩
    p18 := rfl
    f19 := ⟨⟨_, _, _, _, _, _, _, _, _, _, rfl, l19, c19⟩⟩
    p19 := rfl
    f20 := ⟨⟨_, _, _, _, _, _, _, _, _, _, rfl, l20, c20⟩⟩
    p20 := rfl
    f21 := ⟨⟨_, _, _, _, _, _, _, _, _, _, rfl, l21, c21⟩⟩
    p21 := rfl
    f22 := ⟨⟨_, _, _, _, _, _, _, _, _, _, rfl, l22, c22⟩⟩
    p22 := rfl
    f23 := ⟨⟨_, _, _, _, _, _, _, _, _, _, rfl, l23, c23⟩⟩
    p23 := rfl
    f24 := ⟨⟨_, _, _, _, _, _, _, _, _, _, rfl, l24, c24⟩⟩
    p24 := rfl
  }
  have Tx : Txt P K mg ca fi := {
    m0 := PySem.W.mg_of X G a0
    k0 := k0
    b0 := Fun.binds (st := s_whole) ⟨⟨_, _, _, _, _, _, _, _, _, rfl, l0, c0⟩, k0⟩ fun _ _ _ _ _ _ us hl => match us, hl with | [_], _ => rfl
    m1 := PySem.W.mg_of X G a1
    k1 := k1
    b1 := Fun.binds (st := s_signal_words) ⟨⟨_, _, _, _, _, _, _, _, _, rfl, l1, c1⟩, k1⟩ fun _ _ _ _ _ _ us hl => match us, hl with | [_], _ => rfl
    m2 := PySem.W.mg_of X G a2
    k2 := k2
    bd2_1 := FunD.binds1 (ps := ["plan", "depth"]) (⟨⟨_, _, _, _, _, _, _, _, _, _, rfl, l2, c2, .inr ⟨by simp, _, _, [.int 0 tk2_0], _, rfl, lT2, dT2, .cons ⟨_, rfl⟩ (.nil)⟩, .inl rfl⟩, k2⟩ : FunD K "plan_lines" "plan_lines" (defArgs s_plan_lines) (defBody s_plan_lines) (defScope s_plan_lines) [.int 0] [] (fi 2).addr (fi 2).fd) 1 0 (by simp) rfl fun _ _ _ _ _ _ _ us its hl hi => match us, its, hl, hi with | [_], [_], _, _ => ⟨_, rfl, rfl⟩
    b2 := by
      obtain ⟨ds, hv, hb⟩ := FunD.binds1 (ps := ["plan", "depth"]) (⟨⟨_, _, _, _, _, _, _, _, _, _, rfl, l2, c2, .inr ⟨by simp, _, _, [.int 0 tk2_0], _, rfl, lT2, dT2, .cons ⟨_, rfl⟩ (.nil)⟩, .inl rfl⟩, k2⟩ : FunD K "plan_lines" "plan_lines" (defArgs s_plan_lines) (defBody s_plan_lines) (defScope s_plan_lines) [.int 0] [] (fi 2).addr (fi 2).fd) 2 1 (by simp) rfl fun _ _ _ _ _ _ _ us its hl hi => match us, its, hl, hi with | [_, _], [_], _, _ => ⟨_, rfl, rfl⟩
      cases hv
      exact hb
    b3 := Fun.binds (st := s_PlanReader_init) ⟨⟨_, _, _, _, _, _, _, _, _, rfl, l3, c3⟩, k3⟩ fun _ _ _ _ _ _ us hl => match us, hl with | [_, _], _ => rfl
    me4 := ⟨a4, i4, k4⟩
    b4 := Fun.binds (st := s_PlanReader_begins) ⟨⟨_, _, _, _, _, _, _, _, _, rfl, l4, c4⟩, k4⟩ fun _ _ _ _ _ _ us hl => match us, hl with | [_, _, _], _ => rfl
    me5 := ⟨a5, i5, k5⟩
    b5 := Fun.binds (st := s_PlanReader_number) ⟨⟨_, _, _, _, _, _, _, _, _, rfl, l5, c5⟩, k5⟩ fun _ _ _ _ _ _ us hl => match us, hl with | [_, _], _ => rfl
    me6 := ⟨a6, i6, k6⟩
    b6 := Fun.binds (st := s_PlanReader_signal) ⟨⟨_, _, _, _, _, _, _, _, _, rfl, l6, c6⟩, k6⟩ fun _ _ _ _ _ _ us hl => match us, hl with | [_, _, _], _ => rfl
    me7 := ⟨a7, i7, k7⟩
    b7 := Fun.binds (st := s_PlanReader_plan) ⟨⟨_, _, _, _, _, _, _, _, _, rfl, l7, c7⟩, k7⟩ fun _ _ _ _ _ _ us hl => match us, hl with | [_, _], _ => rfl
    m8 := PySem.W.mg_of X G a8
    k8 := k8
    b8 := Fun.binds (st := s_read_plan) ⟨⟨_, _, _, _, _, _, _, _, _, rfl, l8, c8⟩, k8⟩ fun _ _ _ _ _ _ us hl => match us, hl with | [_], _ => rfl
    m9 := PySem.W.mg_of X G a9
    k9 := k9
    b9 := Fun.binds (st := s_Lpool) ⟨⟨_, _, _, _, _, _, _, _, _, rfl, l9, c9⟩, k9⟩ fun _ _ _ _ _ _ us hl => match us, hl with | [_, _], _ => rfl
    m10 := PySem.W.mg_of X G a10
    k10 := k10
    b10 := Fun.binds (st := s_Ldraw) ⟨⟨_, _, _, _, _, _, _, _, _, rfl, l10, c10⟩, k10⟩ fun _ _ _ _ _ _ us hl => match us, hl with | [_, _], _ => rfl
    m11 := PySem.W.mg_of X G a11
    k11 := k11
    b11 := Fun.binds (st := s_Lspend) ⟨⟨_, _, _, _, _, _, _, _, _, rfl, l11, c11⟩, k11⟩ fun _ _ _ _ _ _ us hl => match us, hl with | [_], _ => rfl
    m12 := PySem.W.mg_of X G a12
    k12 := k12
    b12 := Fun.binds (st := s_Lsame) ⟨⟨_, _, _, _, _, _, _, _, _, rfl, l12, c12⟩, k12⟩ fun _ _ _ _ _ _ us hl => match us, hl with | [_, _], _ => rfl
    m13 := PySem.W.mg_of X G a13
    k13 := k13
    b13 := Fun.binds (st := s_Lsignal) ⟨⟨_, _, _, _, _, _, _, _, _, rfl, l13, c13⟩, k13⟩ fun _ _ _ _ _ _ us hl => match us, hl with | [_, _], _ => rfl
    m14 := PySem.W.mg_of X G a14
    k14 := k14
    b14 := Fun.binds (st := s_Ltree) ⟨⟨_, _, _, _, _, _, _, _, _, rfl, l14, c14⟩, k14⟩ fun _ _ _ _ _ _ us hl => match us, hl with | [_, _], _ => rfl
    m15 := PySem.W.mg_of X G a15
    k15 := k15
    b15 := Fun.binds (st := s_Lchain) ⟨⟨_, _, _, _, _, _, _, _, _, rfl, l15, c15⟩, k15⟩ fun _ _ _ _ _ _ us hl => match us, hl with | [_], _ => rfl
    m16 := PySem.W.mg_of X G a16
    k16 := k16
    b16 := Fun.binds (st := s_Lsignal_words) ⟨⟨_, _, _, _, _, _, _, _, _, rfl, l16, c16⟩, k16⟩ fun _ _ _ _ _ _ us hl => match us, hl with | [_], _ => rfl
    m17 := PySem.W.mg_of X G a17
    k17 := k17
    b17 := Fun.binds (st := s_Llines) ⟨⟨_, _, _, _, _, _, _, _, _, rfl, l17, c17⟩, k17⟩ fun _ _ _ _ _ _ us hl => match us, hl with | [_, _], _ => rfl
    m18 := PySem.W.mg_of X G a18
    k18 := k18
    b18 := Fun.binds (st := s_Ldigits) ⟨⟨_, _, _, _, _, _, _, _, _, rfl, l18, c18⟩, k18⟩ fun _ _ _ _ _ _ us hl => match us, hl with | [_], _ => rfl
    m19 := PySem.W.mg_of X G a19
    k19 := k19
    b19 := Fun.binds (st := s_Lsignal_right) ⟨⟨_, _, _, _, _, _, _, _, _, rfl, l19, c19⟩, k19⟩ fun _ _ _ _ _ _ us hl => match us, hl with | [_], _ => rfl
    m20 := PySem.W.mg_of X G a20
    k20 := k20
    b20 := Fun.binds (st := s_Lbad) ⟨⟨_, _, _, _, _, _, _, _, _, rfl, l20, c20⟩, k20⟩ fun _ _ _ _ _ _ us hl => match us, hl with | [_], _ => rfl
    m21 := PySem.W.mg_of X G a21
    k21 := k21
    b21 := Fun.binds (st := s_Lword) ⟨⟨_, _, _, _, _, _, _, _, _, rfl, l21, c21⟩, k21⟩ fun _ _ _ _ _ _ us hl => match us, hl with | [_, _], _ => rfl
    m22 := PySem.W.mg_of X G a22
    k22 := k22
    b22 := Fun.binds (st := s_Lspoilt) ⟨⟨_, _, _, _, _, _, _, _, _, rfl, l22, c22⟩, k22⟩ fun _ _ _ _ _ _ us hl => match us, hl with | [_, _], _ => rfl
    m23 := PySem.W.mg_of X G a23
    k23 := k23
    b23 := Fun.binds (st := s_Lchanged) ⟨⟨_, _, _, _, _, _, _, _, _, rfl, l23, c23⟩, k23⟩ fun _ _ _ _ _ _ us hl => match us, hl with | [_, _], _ => rfl
    m24 := PySem.W.mg_of X G a24
    k24 := k24
    cl0 := ⟨pg0, hd0, po0, sa0⟩
    mc0 := PySem.W.mg_of X G aC0
    mk0 := ⟨mk0, a3, i3, kc0⟩
    na0_0 := nf0_0
    na0_1 := nf0_1
    xm6 := PySem.W.mg_of X G aX6
    xr6 := by
      refine ⟨fX6, PySem.W.ksFn "__init__" "BadPaper.__init__" (defArgs s_BadPaper_init) (defBody s_BadPaper_init) (defScope s_BadPaper_init) .none xkV6 xdo6 xpm6 xan6 (.ref xcd6) xct6 xcc6, ⟨err_oex rl6 rc6 rd6 rm6 rv6 re6 rh6 rs6 rsa6 xb6 xt6 xk6, ri6, rt6, rn6, ru6, rp6, ro6, ?_, PySem.W.mg_none_of X G n_super0, h_stat, h_main⟩, ?_⟩
      · exact ⟨xoc6, xct6, .none, xkV6, xdo6, xpm6, xod6, xan6, xos6, xcd6, xcc6, xoD6.cls, xoC6.cls, xoD6.dict, xoC6.dict, xvs6, xoD6.slots, xoC6.slots, xfl6, xtf6, rfl, rf6, rco6, rcl6.trans (congrArg some (obj_eta rcd6)), rcv6, rcf6, rxl6.trans (congrArg some (obj_eta rxd6))⟩
      · exact Binds.all fun us hl => match us, hl with | [_, _], _ => rfl
    xc6 := ⟨xg6, xh6, xb6, xd6, xa6, hn, ht, xo6⟩
    xf6 := ⟨xg6, xh6, xb6, xd6⟩
    xo6 := xn6
    xm3 := PySem.W.mg_of X G aX3
    xm4 := PySem.W.mg_of X G aX4
    xm5 := PySem.W.mg_of X G aX5
    xm2 := PySem.W.mg_of X G aX2
    xm1 := PySem.W.mg_of X G aX1
    xm7 := PySem.W.mg_of X G aX7
    em6_1 := PySem.W.exm_ref xb1 xd1 xt1 xs6_1
    ko6_BadPaper := ko6_BadPaper
    ko6_BadRatio := ko6_BadRatio
    ko6_BadTable := ko6_BadTable
    ko6_BadTask := ko6_BadTask
    ko6_BadText := ko6_BadText
    ko6_TooLarge := ko6_TooLarge
    fa12 := Dx.f12
    pa12 := Dx.p12
    n_all := PySem.W.mg_none_of X G n_all
    n_bool := PySem.W.mg_none_of X G n_bool
    n_int := PySem.W.mg_none_of X G n_int
    n_isinstance := PySem.W.mg_none_of X G n_isinstance
    n_len := PySem.W.mg_none_of X G n_len
    n_list := PySem.W.mg_none_of X G n_list
    n_range := PySem.W.mg_none_of X G n_range
    n_str := PySem.W.mg_none_of X G n_str
    n_tuple := PySem.W.mg_none_of X G n_tuple
    g_MOST_DIGITS := ⟨_, PySem.W.mg_of X G g_MOST_DIGITS⟩
  }
  refine ⟨(fi 24).fd, fun s v => .of_eq rfl, fun base _ _ => ?_⟩
  have hL : Lnk P w K mg base (lk ca) prog fi 112 := link Tx Dx 112
  exact (hL.fn 24 _ rfl rfl).imp law_sp
theorem walk {l : PySem.W.OpenLaw} {qq : Program} {loose : List Str} {XP : (Str → Option Value) → Heap → Prop} {YP : World → Heap → Prop} {d : DefRec} {K : Params → PySem.W.Frag} (hn : l.most = some 63) (hdf : d.params.defaults = [])
    (hY : ∀ (w : World) (h : Heap), YP w h → (K w.params).In h)
    (F : ∀ (w : World) (mg : Str → Option Value) (fa : Addr) (h : Heap), (K w.params).In h → h.Ns mainGlobals mg → mg d.name = some (.ref fa) →
      ∃ fd : FuncData, (∀ (s : Shared) (u : Value), BindsTo s fd ⟨[u], []⟩ [("_law_script", u)]) ∧ ∀ base : Heap, (K w.params).In base → base.Ns mainGlobals mg → FnOk l.prog w (K w.params) mg base (L2.CX l.prog w) 224 fa fd ["_law_script"] (spLaw (K w.params))) :
    PySem.W.WalkO qq loose XP YP l.row.toRowW d [] (fun f vs => PySem.call f vs) :=
  L2.walk_ofB (n := 63) (k := 224) (x := "_law_script") (CX := fun w => L2.CX l.prog w) (sp := fun w => spLaw (K w.params)) hn (by decide) hdf ⟨rfl, by decide, by decide⟩ hY F (fun _ _ a ns hl hb _ hS => ⟨a, ns, rfl, hS, hl, hb, fun _ => rfl⟩) fun _ _ _ _ _ z => by
    obtain ⟨_, _, _, _, _, _, _, _, _, _, _, _, z⟩ := z
    exact z
end K81
open PySem PySem.W PyProof.Rows
set_option maxRecDepth 100000 in
set_option maxHeartbeats 0 in
theorem PySem.Challenge.cw_seesmore_k81_whole_lines_of_plans_are_re_holds : PySem.Challenge.rw_seesmore_k81_whole_lines_of_plans_are_re.Holds := by
  w_on; o_law; k_head; (case hw => w_witness2)
  k_fill
  refine K81.walk (l := PySem.Challenge.rw_seesmore_k81_whole_lines_of_plans_are_re) rfl rfl (fun w h Y => PySem.W.kIn_of Y) ?F
  case F =>
    intro w mg fa h KX G hmg
    refine' K81.all_mk KX G hmg ?aC0 ?pg0 ?hd0 ?po0 ?sa0 ?mk0 ?kc0 ?nf0_0 ?nf0_1 ?aX6 ?xb6 ?xt6 ?xd6 ?xg6 ?xh6 ?xa6 ?xo6 ?xn6 ?xk6 ?rl6 ?rc6 ?rd6 ?rm6 ?rv6 ?re6 ?rh6 ?rs6 ?rsa6 ?ri6 ?rt6 ?rn6 ?ru6 ?rp6 ?ro6 ?rf6 ?rco6 ?rcl6 ?rcd6 ?rcv6 ?rcf6 ?rxl6 ?rxd6 ?aX3 ?aX4 ?aX5 ?aX2 ?aX1 ?xb1 ?xt1 ?xd1 ?aX7 ?n_super0 ?h_stat ?h_main ?xs6_1 ?ko6_BadPaper ?ko6_BadRatio ?ko6_BadTable ?ko6_BadTask ?ko6_BadText ?ko6_TooLarge ?hn ?ht ?a0 ?l0 ?c0 ?k0 ?a1 ?l1 ?c1 ?k1 ?a2 ?l2 ?c2 ?k2 ?lT2 ?dT2 ?a3 ?i3 ?l3 ?c3 ?k3 ?a4 ?i4 ?l4 ?c4 ?k4 ?a5 ?i5 ?l5 ?c5 ?k5 ?a6 ?i6 ?l6 ?c6 ?k6 ?a7 ?i7 ?l7 ?c7 ?k7 ?a8 ?l8 ?c8 ?k8 ?a9 ?l9 ?c9 ?k9 ?a10 ?l10 ?c10 ?k10 ?a11 ?l11 ?c11 ?k11 ?a12 ?l12 ?c12 ?k12 ?a13 ?l13 ?c13 ?k13 ?a14 ?l14 ?c14 ?k14 ?a15 ?l15 ?c15 ?k15 ?a16 ?l16 ?c16 ?k16 ?a17 ?l17 ?c17 ?k17 ?a18 ?l18 ?c18 ?k18 ?a19 ?l19 ?c19 ?k19 ?a20 ?l20 ?c20 ?k20 ?a21 ?l21 ?c21 ?k21 ?a22 ?l22 ?c22 ?k22 ?a23 ?l23 ?c23 ?k23 ?a24 ?l24 ?c24 ?k24 ?n_all ?n_bool ?n_int ?n_isinstance ?n_len ?n_list ?n_range ?n_str ?n_tuple ?g_MOST_DIGITS
    (case aC0 => k_is)
    (case pg0 => k_is)
    (case hd0 => k_is)
    (case po0 => k_is)
    (case sa0 => k_is)
    (case mk0 => k_is)
    (case kc0 => k_is)
    (case nf0_0 => k_is)
    (case nf0_1 => k_is)
    (case aX6 => k_is)
    (case xb6 => k_is)
    (case xt6 => k_is)
    (case xd6 => k_is)
    (case xg6 => k_is)
    (case xh6 => k_is)
    (case xa6 => k_is)
    (case xo6 => k_is)
    (case xn6 => k_is)
    (case xk6 => k_is)
    (case rl6 => k_is)
    (case rc6 => rfl)
    (case rd6 => rfl)
    (case rm6 => rfl)
    (case rv6 => rfl)
    (case re6 => rfl)
    (case rh6 => rfl)
    (case rs6 => rfl)
    (case rsa6 => k_is)
    (case ri6 => k_is)
    (case rt6 => k_is)
    (case rn6 => k_is)
    (case ru6 => k_is)
    (case rp6 => ks_is)
    (case ro6 => k_is)
    (case rf6 => k_is)
    (case rco6 => k_is)
    (case rcl6 => k_is)
    (case rcd6 => rfl)
    (case rcv6 => rfl)
    (case rcf6 => rfl)
    (case rxl6 => k_is)
    (case rxd6 => rfl)
    (case aX3 => k_is)
    (case aX4 => k_is)
    (case aX5 => k_is)
    (case aX2 => k_is)
    (case aX1 => k_is)
    (case xb1 => k_is)
    (case xt1 => k_is)
    (case xd1 => k_is)
    (case aX7 => k_is)
    (case n_super0 => k_is)
    (case h_stat => k_is)
    (case h_main => rfl)
    (case xs6_1 => k_is)
    (case ko6_BadPaper => kit_is)
    (case ko6_BadRatio => kit_is)
    (case ko6_BadTable => kit_is)
    (case ko6_BadTask => kit_is)
    (case ko6_BadText => kit_is)
    (case ko6_TooLarge => kit_is)
    (case hn => k_is)
    (case ht => k_is)
    (case a0 => k_is)
    (case l0 => k_is)
    (case c0 => k_is)
    (case k0 => k_is)
    (case a1 => k_is)
    (case l1 => k_is)
    (case c1 => k_is)
    (case k1 => k_is)
    (case a2 => k_is)
    (case l2 => k_is)
    (case c2 => k_is)
    (case k2 => k_is)
    (case lT2 => k_is)
    (case dT2 => rfl)
    (case a3 => k_is)
    (case i3 => k_is)
    (case l3 => k_is)
    (case c3 => k_is)
    (case k3 => k_is)
    (case a4 => k_is)
    (case i4 => k_is)
    (case l4 => k_is)
    (case c4 => k_is)
    (case k4 => k_is)
    (case a5 => k_is)
    (case i5 => k_is)
    (case l5 => k_is)
    (case c5 => k_is)
    (case k5 => k_is)
    (case a6 => k_is)
    (case i6 => k_is)
    (case l6 => k_is)
    (case c6 => k_is)
    (case k6 => k_is)
    (case a7 => k_is)
    (case i7 => k_is)
    (case l7 => k_is)
    (case c7 => k_is)
    (case k7 => k_is)
    (case a8 => k_is)
    (case l8 => k_is)
    (case c8 => k_is)
    (case k8 => k_is)
    (case a9 => k_is)
    (case l9 => k_is)
    (case c9 => k_is)
    (case k9 => k_is)
    (case a10 => k_is)
    (case l10 => k_is)
    (case c10 => k_is)
    (case k10 => k_is)
    (case a11 => k_is)
    (case l11 => k_is)
    (case c11 => k_is)
    (case k11 => k_is)
    (case a12 => k_is)
    (case l12 => k_is)
    (case c12 => k_is)
    (case k12 => k_is)
    (case a13 => k_is)
    (case l13 => k_is)
    (case c13 => k_is)
    (case k13 => k_is)
    (case a14 => k_is)
    (case l14 => k_is)
    (case c14 => k_is)
    (case k14 => k_is)
    (case a15 => k_is)
    (case l15 => k_is)
    (case c15 => k_is)
    (case k15 => k_is)
    (case a16 => k_is)
    (case l16 => k_is)
    (case c16 => k_is)
    (case k16 => k_is)
    (case a17 => k_is)
    (case l17 => k_is)
    (case c17 => k_is)
    (case k17 => k_is)
    (case a18 => k_is)
    (case l18 => k_is)
    (case c18 => k_is)
    (case k18 => k_is)
    (case a19 => k_is)
    (case l19 => k_is)
    (case c19 => k_is)
    (case k19 => k_is)
    (case a20 => k_is)
    (case l20 => k_is)
    (case c20 => k_is)
    (case k20 => k_is)
    (case a21 => k_is)
    (case l21 => k_is)
    (case c21 => k_is)
    (case k21 => k_is)
    (case a22 => k_is)
    (case l22 => k_is)
    (case c22 => k_is)
    (case k22 => k_is)
    (case a23 => k_is)
    (case l23 => k_is)
    (case c23 => k_is)
    (case k23 => k_is)
    (case a24 => k_is)
    (case l24 => k_is)
    (case c24 => k_is)
    (case k24 => k_is)
    (case n_all => k_is)
    (case n_bool => k_is)
    (case n_int => k_is)
    (case n_isinstance => k_is)
    (case n_len => k_is)
    (case n_list => k_is)
    (case n_range => k_is)
    (case n_str => k_is)
    (case n_tuple => k_is)
    (case g_MOST_DIGITS => k_is)
#print axioms PySem.Challenge.cw_seesmore_k81_whole_lines_of_plans_are_re_holds

