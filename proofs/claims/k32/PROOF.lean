import PyProof.Rows.All
import Wide.All
import OpenK.AllK
import Wide.FinOn
import HandS.ForMost
import HandS.ForExc
import HandS.Defaults
import HandS.CallSlots
import HandS.IsInst
import HandS.ExcInit
import HandS.ExcIs
import HandS.ExcField
import HandS.Style
import HandS.TupAny
import HandS.List
import HandS.Conv
import KE.GoesMore
import KE.GoesEnum
import KE.GoesZip
import HandS.HeadHook4
import HandS.HeadEnd
import HandS.Head2
import HandS.Ends
import PySem.Challenge.RW_bentrealm_k32_errors_of_tables
set_option Elab.async false
set_option linter.all false
set_option maxRecDepth 100000
set_option maxHeartbeats 4000000
/-! Bx, part A: data values, the own memory, how they lie over the hand layer's heap; readings made of weakest preconditions over data. -/
namespace Bx
open PySem PySem.Spec PyProof.Rows L2

/-- a value as data: tuples by content; rl: a list that nobody changes any more, by content; wl: a list of the written part or locked; obj: what stands in the own memory; exc: an own error as a value, its class, its fields -/
inductive D where
  | non | bl (b : Bool) | int (i : Int) | str (x : Str) | tup (xs : List D) | rl (xs : List D) | wl (xs : List D) | obj (a : Addr) | exc (C : Addr) (ns : List Str) (xs : List D)

/-- what the own memory holds at an address -/
inductive O where
  | lst (xs : List D)

abbrev Mp := Addr → Option O
def put (M : Mp) (a : Addr) (o : O) : Mp := fun b => if b = a then some o else M b
theorem put_same {M : Mp} {a : Addr} {o : O} : put M a o a = some o := if_pos rfl
theorem put_ne {M : Mp} {a b : Addr} {o : O} (h : b ≠ a) : put M a o b = M b := if_neg h
theorem put_put {M : Mp} {a : Addr} {o u : O} : put (put M a o) a u = put M a u := by
  funext b; unfold put; split <;> rfl

/-- the written part, and what somebody else holds just now -/
structure KZ where
  k : PySem.W.Frag
  Z : Addr → Prop
/-- a list, a tuple of the written part -/
def WrL (K : PySem.W.Frag) (a : Addr) (xs : List V) : Prop :=
  ∃ (o : Obj) (its : Array Value) (n : Nat), K.lookup a = some o ∧ o.cls = .type "list" ∧ o.dict = none ∧ o.data = .seq its n ∧ its.size ≤ sizeLine ∧ Vals xs its.toList
def WrT (K : PySem.W.Frag) (a : Addr) (xs : List V) : Prop :=
  ∃ (o : Obj) (its : Array Value) (n : Nat), K.lookup a = some o ∧ o.cls = .type "tuple" ∧ o.data = .seq its n ∧ its.size ≤ sizeLine ∧ Vals xs its.toList

/-- what the written part says of an own error's class: its instances' fields are read, isinstance of them -/
structure XcOk (K : PySem.W.Frag) (C : Addr) (ns : List Str) : Prop where
  ex : ExcC K C
  xf : XfC K C
  no : ∀ f ∈ ns, PySem.W.findIn K (.ref C) f = some none
mutual
inductive Rv (K : KZ) (M : Mp) (H : Hp) : D → V → Prop
  | non : Rv K M H .non .non
  | bl (b : Bool) : Rv K M H (.bl b) (.bl b)
  | int (i : Int) : Rv K M H (.int i) (.int i)
  | str (x : Str) : Rv K M H (.str x) (.str x)
  | tup {ds : List D} {vs : List V} {a : Addr} : M a = none ∧ ¬ K.Z a → Rd H a (.tup vs) → Rvs K M H ds vs → Rv K M H (.tup ds) (.ref a)
  | wtup {ds : List D} {vs : List V} {a : Addr} : WrT K.k a vs → Rvs K M H ds vs → Rv K M H (.tup ds) (.ref a)
  | rl {ds : List D} {vs : List V} {a : Addr} : M a = none ∧ ¬ K.Z a → H a = some (.lst vs) → Rvs K M H ds vs → Rv K M H (.rl ds) (.ref a)
  | fl {ds : List D} {vs : List V} {a : Addr} {o : Obj} : M a = none ∧ ¬ K.Z a → H a = some (.frz o (.lst vs)) → Rvs K M H ds vs → Rv K M H (.wl ds) (.ref a)
  | wl {ds : List D} {vs : List V} {a : Addr} : WrL K.k a vs → Rvs K M H ds vs → Rv K M H (.wl ds) (.ref a)
  | obj (a : Addr) : Rv K M H (.obj a) (.ref a)
  | exc {C a d : Addr} {ns : List Str} {ds : List D} {vs : List V} : XcOk K.k C ns → M a = none ∧ ¬ K.Z a → M d = none ∧ ¬ K.Z d → H a = some (exo a C (some d)) → H d = some (exd d (ns.zip vs)) → ns.length = ds.length → Rvs K M H ds vs → Rv K M H (.exc C ns ds) (.ref a)
inductive Rvs (K : KZ) (M : Mp) (H : Hp) : List D → List V → Prop
  | nil : Rvs K M H [] []
  | cons {d : D} {v : V} {ds : List D} {vs : List V} : Rv K M H d v → Rvs K M H ds vs → Rvs K M H (d :: ds) (v :: vs)
end

def Ro (K : KZ) (M : Mp) (H : Hp) (a : Addr) : O → Prop
  | .lst ds => ∃ vs, H a = some (.lst vs) ∧ Rvs K M H ds vs
/-- the own memory is held -/
structure RM (K : KZ) (M : Mp) (H : Hp) : Prop where
  own : ∀ a o, M a = some o → Ro K M H a o
  hid : ∀ a, K.Z a → H a ≠ none ∧ M a = none

/-- from one own memory to a later one -/
structure Step (M M' : Mp) (H H' : Hp) : Prop where
  frame : ∀ a u, H a = some u → M a = none → H' a = some u
  dom : ∀ a, H a ≠ none → H' a ≠ none
  new : ∀ a, M' a ≠ none → M a ≠ none ∨ H a = none
theorem Step.refl (M : Mp) (H : Hp) : Step M M H H := ⟨fun _ _ h _ => h, fun _ h => h, fun _ h => .inl h⟩
theorem Step.keepN {M M' : Mp} {H H' : Hp} (s : Step M M' H H') {a : Addr} {u : HO} (h : H a = some u) (n : M a = none) : M' a = none := by
  cases e : M' a with
  | none => rfl
  | some o =>
    rcases s.new a (by rw [e]; exact fun z => nomatch z) with z | z
    · exact absurd n z
    · rw [h] at z; cases z
theorem Step.trans {M M1 M2 : Mp} {H H1 H2 : Hp} (s : Step M M1 H H1) (t : Step M1 M2 H1 H2) : Step M M2 H H2 where
  frame := fun a u h n => t.frame a u (s.frame a u h n) (s.keepN h n)
  dom := fun a h => t.dom a (s.dom a h)
  new := fun a h => by
    rcases t.new a h with z | z
    · exact s.new a z
    · right
      cases e : H a with
      | none => rfl
      | some u => exact absurd z (s.dom a (by rw [e]; exact fun q => nomatch q))

mutual
theorem Rv.step {K : KZ} {M M' : Mp} {H H' : Hp} (s : Step M M' H H') : ∀ {d : D} {v : V}, Rv K M H d v → Rv K M' H' d v
  | _, _, .non => .non
  | _, _, .bl b => .bl b
  | _, _, .int i => .int i
  | _, _, .str x => .str x
  | _, _, .tup n h r => .tup ⟨by rcases h with h | ⟨o, h⟩ <;> exact s.keepN h n.1, n.2⟩ (by rcases h with h | ⟨o, h⟩; exact .inl (s.frame _ _ h n.1); exact .inr ⟨o, s.frame _ _ h n.1⟩) (Rvs.step s r)
  | _, _, .wtup h r => .wtup h (Rvs.step s r)
  | _, _, .rl n h r => .rl ⟨s.keepN h n.1, n.2⟩ (s.frame _ _ h n.1) (Rvs.step s r)
  | _, _, .fl n h r => .fl ⟨s.keepN h n.1, n.2⟩ (s.frame _ _ h n.1) (Rvs.step s r)
  | _, _, .wl h r => .wl h (Rvs.step s r)
  | _, _, .obj a => .obj a
  | _, _, .exc c n m h g l r => .exc c ⟨s.keepN h n.1, n.2⟩ ⟨s.keepN g m.1, m.2⟩ (s.frame _ _ h n.1) (s.frame _ _ g m.1) l (Rvs.step s r)
theorem Rvs.step {K : KZ} {M M' : Mp} {H H' : Hp} (s : Step M M' H H') : ∀ {ds : List D} {vs : List V}, Rvs K M H ds vs → Rvs K M' H' ds vs
  | _, _, .nil => .nil
  | _, _, .cons r rs => .cons (Rv.step s r) (Rvs.step s rs)
end
/-- what somebody else comes to hold is not among these -/
abbrev Wid (Z Z' : Addr → Prop) (H : Hp) : Prop := ∀ a, Z' a → Z a ∨ H a = none
mutual
theorem Rv.stepZ {k : PySem.W.Frag} {Z Z' : Addr → Prop} {M M' : Mp} {H H' : Hp} (s : Step M M' H H') (z : Wid Z Z' H) : ∀ {d : D} {v : V}, Rv ⟨k, Z⟩ M H d v → Rv ⟨k, Z'⟩ M' H' d v
  | _, _, .non => .non
  | _, _, .bl b => .bl b
  | _, _, .int i => .int i
  | _, _, .str x => .str x
  | _, _, .tup n h r => .tup ⟨by rcases h with h | ⟨o, h⟩ <;> exact s.keepN h n.1, fun q => (z _ q).elim n.2 fun e => by rcases h with h | ⟨o, h⟩ <;> (rw [h] at e; cases e)⟩ (by rcases h with h | ⟨o, h⟩; exact .inl (s.frame _ _ h n.1); exact .inr ⟨o, s.frame _ _ h n.1⟩) (Rvs.stepZ s z r)
  | _, _, .wtup h r => .wtup h (Rvs.stepZ s z r)
  | _, _, .rl n h r => .rl ⟨s.keepN h n.1, fun q => (z _ q).elim n.2 fun e => by rw [h] at e; cases e⟩ (s.frame _ _ h n.1) (Rvs.stepZ s z r)
  | _, _, .fl n h r => .fl ⟨s.keepN h n.1, fun q => (z _ q).elim n.2 fun e => by rw [h] at e; cases e⟩ (s.frame _ _ h n.1) (Rvs.stepZ s z r)
  | _, _, .wl h r => .wl h (Rvs.stepZ s z r)
  | _, _, .obj a => .obj a
  | _, _, .exc c n m h g l r => .exc c ⟨s.keepN h n.1, fun q => (z _ q).elim n.2 fun e => by rw [h] at e; cases e⟩ ⟨s.keepN g m.1, fun q => (z _ q).elim m.2 fun e => by rw [g] at e; cases e⟩ (s.frame _ _ h n.1) (s.frame _ _ g m.1) l (Rvs.stepZ s z r)
theorem Rvs.stepZ {k : PySem.W.Frag} {Z Z' : Addr → Prop} {M M' : Mp} {H H' : Hp} (s : Step M M' H H') (z : Wid Z Z' H) : ∀ {ds : List D} {vs : List V}, Rvs ⟨k, Z⟩ M H ds vs → Rvs ⟨k, Z'⟩ M' H' ds vs
  | _, _, .nil => .nil
  | _, _, .cons r rs => .cons (Rv.stepZ s z r) (Rvs.stepZ s z rs)
end
section
variable {K : KZ} {M M' : Mp} {H H' : Hp}
theorem Rvs.length {ds : List D} {vs : List V} (r : Rvs K M H ds vs) : ds.length = vs.length := by
  induction ds generalizing vs with
  | nil => cases r; rfl
  | cons d ds ih => cases r with | cons _ r => simp [ih r]
theorem Rvs.get {ds : List D} {vs : List V} {i : Nat} {d : D} (r : Rvs K M H ds vs) (h : ds[i]? = some d) : ∃ v, vs[i]? = some v ∧ Rv K M H d v := by
  induction ds generalizing vs i with
  | nil => simp at h
  | cons e ds ih =>
    cases r with
    | cons r1 r =>
      cases i with
      | zero => simp at h; subst h; exact ⟨_, rfl, r1⟩
      | succ i => simpa using ih r (by simpa using h)
theorem Rvs.getV {ds : List D} {vs : List V} {i : Nat} {v : V} (r : Rvs K M H ds vs) (h : vs[i]? = some v) : ∃ d, ds[i]? = some d ∧ Rv K M H d v := by
  induction ds generalizing vs i with
  | nil => cases r; simp at h
  | cons e ds ih =>
    cases r with
    | cons r1 r =>
      cases i with
      | zero => simp at h; subst h; exact ⟨_, rfl, r1⟩
      | succ i => simpa using ih r (by simpa using h)
theorem Rvs.append {ds es : List D} {vs ws : List V} (r : Rvs K M H ds vs) (q : Rvs K M H es ws) : Rvs K M H (ds ++ es) (vs ++ ws) := by
  induction ds generalizing vs with
  | nil => cases r; exact q
  | cons d ds ih => cases r with | cons r1 r => exact .cons r1 (ih r)
theorem Rvs.take {ds : List D} {vs : List V} (n : Nat) (r : Rvs K M H ds vs) : Rvs K M H (ds.take n) (vs.take n) := by
  induction n generalizing ds vs with
  | zero => exact .nil
  | succ n ih =>
    cases r with
    | nil => exact .nil
    | cons r1 r => exact .cons r1 (ih r)
theorem Rvs.drop {ds : List D} {vs : List V} (n : Nat) (r : Rvs K M H ds vs) : Rvs K M H (ds.drop n) (vs.drop n) := by
  induction n generalizing ds vs with
  | zero => exact r
  | succ n ih =>
    cases r with
    | nil => exact .nil
    | cons r1 r => exact ih r
theorem Rvs.set {ds : List D} {vs : List V} {d : D} {v : V} (i : Nat) (r : Rvs K M H ds vs) (q : Rv K M H d v) : Rvs K M H (ds.set i d) (vs.set i v) := by
  induction i generalizing ds vs with
  | zero =>
    cases r with
    | nil => exact .nil
    | cons r1 r => exact .cons q r
  | succ i ih =>
    cases r with
    | nil => exact .nil
    | cons r1 r => exact .cons r1 (ih r)
theorem Rvs.one {d : D} {v : V} (r : Rv K M H d v) : Rvs K M H [d] [v] := .cons r .nil
theorem Rvs.dropLast {ds : List D} {vs : List V} (r : Rvs K M H ds vs) : Rvs K M H ds.dropLast vs.dropLast := by
  rw [List.dropLast_eq_take, List.dropLast_eq_take, r.length]
  exact r.take _
theorem Rvs.ints {is : List Int} {vs : List V} (r : Rvs K M H (is.map D.int) vs) : vs = is.map V.int := by
  induction is generalizing vs with
  | nil => cases r; rfl
  | cons i is ih =>
    cases r with
    | cons r1 r => cases r1; simp [ih r]
theorem Rvs.ofInts : ∀ is : List Int, Rvs K M H (is.map D.int) (is.map V.int)
  | [] => .nil
  | i :: is => .cons (.int i) (Rvs.ofInts is)
/-- a list value as HandS reads it -/
theorem Rv.sqL {ds : List D} {v : V} (h : Rv K M H (.rl ds) v) : ∃ a vs, v = .ref a ∧ SqL K.k H a vs ∧ Rvs K M H ds vs ∧ H a = some (.lst vs) := by
  cases h with
  | rl n h r => exact ⟨_, _, rfl, .inl (.inl h), r, h⟩
theorem Rv.sqW {ds : List D} {v : V} (h : Rv K M H (.wl ds) v) : ∃ a vs, v = .ref a ∧ SqL K.k H a vs ∧ Rvs K M H ds vs := by
  cases h with
  | fl n h r => exact ⟨_, _, rfl, .inl (.inr ⟨_, h⟩), r⟩
  | wl h r => exact ⟨_, _, rfl, .inr h, r⟩
theorem Rv.sqT {ds : List D} {v : V} (h : Rv K M H (.tup ds) v) : ∃ a vs, v = .ref a ∧ SqT K.k H a vs ∧ Rvs K M H ds vs := by
  cases h with
  | tup n h r => exact ⟨_, _, rfl, .inl h, r⟩
  | wtup h r => exact ⟨_, _, rfl, .inr h, r⟩
theorem RM.fresh (m : RM K M H) {p : Addr} (h : H p = none) : M p = none ∧ ¬ K.Z p := by
  refine ⟨?_, fun z => (m.hid p z).1 h⟩
  cases e : M p with
  | none => rfl
  | some o =>
    have := m.own p o e
    cases o with
    | lst ds =>
      obtain ⟨vs, q, _⟩ := this
      rw [h] at q; cases q
/-- a tuple, a list that nobody will change: laid at a new place -/
theorem step_val {p : Addr} {u : HO} (h : H p = none) : Step M M H (upd H p u) where
  frame := fun a v e _ => by rw [upd_ne (ne_of_none e h)]; exact e
  dom := fun a e => by
    by_cases q : a = p
    · rw [q, upd_same]; exact fun z => nomatch z
    · rw [upd_ne q]; exact e
  new := fun a e => .inl e
theorem Ro.step (s : Step M M' H H') {a : Addr} {o : O} (e : ∀ u, H a = some u → H' a = some u) (r : Ro K M H a o) : Ro K M' H' a o := by
  cases o with
  | lst ds => obtain ⟨vs, q, r⟩ := r; exact ⟨vs, e _ q, r.step s⟩
theorem RM.val (m : RM K M H) {p : Addr} {u : HO} (h : H p = none) : RM K M (upd H p u) := ⟨fun a o e =>
  (m.own a o e).step (step_val h) fun v q => by rw [upd_ne (ne_of_none q h)]; exact q, fun a z => ⟨(step_val (M := M) h).dom a (m.hid a z).1, (m.hid a z).2⟩⟩
/-- a list that is ours: laid at a new place -/
theorem step_new {p : Addr} {u : HO} {o : O} (h : H p = none) : Step M (put M p o) H (upd H p u) where
  frame := (step_val (M := M) h).frame
  dom := (step_val (M := M) h).dom
  new := fun a e => by
    by_cases q : a = p
    · right; rw [q]; exact h
    · left; rw [put_ne q] at e; exact e
theorem RM.new (m : RM K M H) {p : Addr} {ds : List D} {vs : List V} (h : H p = none) (r : Rvs K M H ds vs) : RM K (put M p (.lst ds)) (upd H p (.lst vs)) := ⟨fun a o e => by
  by_cases q : a = p
  · subst q
    rw [put_same] at e; cases e
    exact ⟨vs, upd_same, r.step (step_new h)⟩
  · rw [put_ne q] at e
    exact (m.own a o e).step (step_new h) fun v z => by rw [upd_ne (ne_of_none z h)]; exact z, fun a z => by
  have n : a ≠ p := fun q => (m.hid a z).1 (q ▸ h)
  exact ⟨by rw [upd_ne n]; exact (m.hid a z).1, by rw [put_ne n]; exact (m.hid a z).2⟩⟩
/-- a list of ours changes -/
theorem step_put {p : Addr} {u : HO} {o o' : O} (h : M p = some o') : Step M (put M p o) H (upd H p u) where
  frame := fun a v e n => by
    rw [upd_ne (fun z => by rw [z, h] at n; cases n)]; exact e
  dom := fun a e => by
    by_cases q : a = p
    · rw [q, upd_same]; exact fun z => nomatch z
    · rw [upd_ne q]; exact e
  new := fun a e => by
    by_cases q : a = p
    · left; rw [q, h]; exact fun z => nomatch z
    · left; rw [put_ne q] at e; exact e
theorem RM.put (m : RM K M H) {p : Addr} {o' : O} {ds : List D} {vs : List V} (h : M p = some o') (r : Rvs K M H ds vs) : RM K (put M p (.lst ds)) (upd H p (.lst vs)) := ⟨fun a o e => by
  by_cases q : a = p
  · subst q
    rw [put_same] at e; cases e
    exact ⟨vs, upd_same, r.step (step_put h)⟩
  · rw [put_ne q] at e
    exact (m.own a o e).step (step_put h) fun v z => by rw [upd_ne q]; exact z, fun a z => by
  have n : a ≠ p := fun q => by have := (m.hid a z).2; rw [q, h] at this; cases this
  exact ⟨by rw [upd_ne n]; exact (m.hid a z).1, by rw [put_ne n]; exact (m.hid a z).2⟩⟩
end

/-! ### what somebody else holds -/
section
variable {k : PySem.W.Frag} {Z Z' : Addr → Prop} {M M' : Mp} {H H' : Hp}
theorem Wid.refl : Wid Z Z H := fun _ z => .inl z
/-- the place D is taken by somebody -/
def hide (Z : Addr → Prop) (D : Addr) : Addr → Prop := fun a => Z a ∨ a = D
theorem wid_hide {D : Addr} (h : H D = none) : Wid Z (hide Z D) H := fun a z => z.elim .inl fun e => .inr (e ▸ h)
theorem RM.hide {D : Addr} {u : HO} (m : RM ⟨k, Z⟩ M H) (h : H D = none) : RM ⟨k, hide Z D⟩ M (upd H D u) where
  own := fun a o e => by
    have r := m.own a o e
    cases o with
    | lst ds =>
      obtain ⟨vs, q, r⟩ := r
      exact ⟨vs, by rw [upd_ne (ne_of_none q h)]; exact q, Rvs.stepZ (step_val h) (wid_hide h) r⟩
  hid := fun a z => by
    rcases z with z | rfl
    · exact ⟨(step_val (M := M) h).dom a (m.hid a z).1, (m.hid a z).2⟩
    · exact ⟨by rw [upd_same]; exact fun q => (nomatch q), (m.fresh h).1⟩
theorem RM.unhide (m : RM ⟨k, Z'⟩ M H) (s : ∀ a, Z a → Z' a) (r : ∀ {ds : List D} {vs : List V}, Rvs ⟨k, Z'⟩ M H ds vs → Rvs ⟨k, Z⟩ M H ds vs) : RM ⟨k, Z⟩ M H where
  own := fun a o e => by
    have q := m.own a o e
    cases o with
    | lst ds => obtain ⟨vs, h, q⟩ := q; exact ⟨vs, h, r q⟩
  hid := fun a z => m.hid a (s a z)
end
mutual
theorem Rv.less {k : PySem.W.Frag} {Z Z' : Addr → Prop} {M : Mp} {H : Hp} (s : ∀ a, Z a → Z' a) : ∀ {d : D} {v : V}, Rv ⟨k, Z'⟩ M H d v → Rv ⟨k, Z⟩ M H d v
  | _, _, .non => .non
  | _, _, .bl b => .bl b
  | _, _, .int i => .int i
  | _, _, .str x => .str x
  | _, _, .tup n h r => .tup ⟨n.1, fun q => n.2 (s _ q)⟩ h (Rvs.less s r)
  | _, _, .wtup h r => .wtup h (Rvs.less s r)
  | _, _, .rl n h r => .rl ⟨n.1, fun q => n.2 (s _ q)⟩ h (Rvs.less s r)
  | _, _, .fl n h r => .fl ⟨n.1, fun q => n.2 (s _ q)⟩ h (Rvs.less s r)
  | _, _, .wl h r => .wl h (Rvs.less s r)
  | _, _, .obj a => .obj a
  | _, _, .exc c n m h g l r => .exc c ⟨n.1, fun q => n.2 (s _ q)⟩ ⟨m.1, fun q => m.2 (s _ q)⟩ h g l (Rvs.less s r)
theorem Rvs.less {k : PySem.W.Frag} {Z Z' : Addr → Prop} {M : Mp} {H : Hp} (s : ∀ a, Z a → Z' a) : ∀ {ds : List D} {vs : List V}, Rvs ⟨k, Z'⟩ M H ds vs → Rvs ⟨k, Z⟩ M H ds vs
  | _, _, .nil => .nil
  | _, _, .cons r rs => .cons (Rv.less s r) (Rvs.less s rs)
end
theorem RM.less {k : PySem.W.Frag} {Z Z' : Addr → Prop} {M : Mp} {H : Hp} (m : RM ⟨k, Z'⟩ M H) (s : ∀ a, Z a → Z' a) : RM ⟨k, Z⟩ M H := m.unhide s (Rvs.less s)
mutual
/-- the hidden place changes -/
theorem Rv.over {k : PySem.W.Frag} {Z : Addr → Prop} {M : Mp} {H : Hp} {p : Addr} {u : HO} (z : Z p) : ∀ {d : D} {v : V}, Rv ⟨k, Z⟩ M H d v → Rv ⟨k, Z⟩ M (upd H p u) d v
  | _, _, .non => .non
  | _, _, .bl b => .bl b
  | _, _, .int i => .int i
  | _, _, .str x => .str x
  | _, _, .tup n h r => .tup n (by have q : ∀ a, ¬ Z a → a ≠ p := fun a h e => h (e ▸ z); unfold Rd at h ⊢; rw [upd_ne (q _ n.2)]; exact h) (Rvs.over z r)
  | _, _, .wtup h r => .wtup h (Rvs.over z r)
  | _, _, .rl n h r => .rl n (by have q : ∀ a, ¬ Z a → a ≠ p := fun a h e => h (e ▸ z); rw [upd_ne (q _ n.2)]; exact h) (Rvs.over z r)
  | _, _, .fl n h r => .fl n (by have q : ∀ a, ¬ Z a → a ≠ p := fun a h e => h (e ▸ z); rw [upd_ne (q _ n.2)]; exact h) (Rvs.over z r)
  | _, _, .wl h r => .wl h (Rvs.over z r)
  | _, _, .obj a => .obj a
  | _, _, .exc c n m h g l r => .exc c n m (by have q : ∀ a, ¬ Z a → a ≠ p := fun a h e => h (e ▸ z); rw [upd_ne (q _ n.2)]; exact h) (by have q : ∀ a, ¬ Z a → a ≠ p := fun a h e => h (e ▸ z); rw [upd_ne (q _ m.2)]; exact g) l (Rvs.over z r)
theorem Rvs.over {k : PySem.W.Frag} {Z : Addr → Prop} {M : Mp} {H : Hp} {p : Addr} {u : HO} (z : Z p) : ∀ {ds : List D} {vs : List V}, Rvs ⟨k, Z⟩ M H ds vs → Rvs ⟨k, Z⟩ M (upd H p u) ds vs
  | _, _, .nil => .nil
  | _, _, .cons r rs => .cons (Rv.over z r) (Rvs.over z rs)
end
theorem RM.over {k : PySem.W.Frag} {Z : Addr → Prop} {M : Mp} {H : Hp} {p : Addr} {u : HO} (m : RM ⟨k, Z⟩ M H) (z : Z p) : RM ⟨k, Z⟩ M (upd H p u) where
  own := fun a o e => by
    have n : a ≠ p := fun q => by have := (m.hid p z).2; rw [← q, e] at this; cases this
    have r := m.own a o e
    cases o with
    | lst ds => obtain ⟨vs, h, r⟩ := r; exact ⟨vs, by rw [upd_ne n]; exact h, r.over z⟩
  hid := fun a q => by
    by_cases n : a = p
    · rw [n, upd_same]; exact ⟨fun e => (nomatch e), (m.hid p z).2⟩
    · rw [upd_ne n]; exact m.hid a q

mutual
/-- the hidden place is taken over -/
theorem Rv.claim {k : PySem.W.Frag} {Z : Addr → Prop} {M : Mp} {H : Hp} {p : Addr} {o : O} : ∀ {d : D} {v : V}, Rv ⟨k, hide Z p⟩ M H d v → Rv ⟨k, Z⟩ (put M p o) H d v
  | _, _, .non => .non
  | _, _, .bl b => .bl b
  | _, _, .int i => .int i
  | _, _, .str x => .str x
  | _, _, .tup n h r => .tup ⟨by rw [put_ne (fun e => n.2 (.inr e))]; exact n.1, fun q => n.2 (.inl q)⟩ h (Rvs.claim r)
  | _, _, .wtup h r => .wtup h (Rvs.claim r)
  | _, _, .rl n h r => .rl ⟨by rw [put_ne (fun e => n.2 (.inr e))]; exact n.1, fun q => n.2 (.inl q)⟩ h (Rvs.claim r)
  | _, _, .fl n h r => .fl ⟨by rw [put_ne (fun e => n.2 (.inr e))]; exact n.1, fun q => n.2 (.inl q)⟩ h (Rvs.claim r)
  | _, _, .wl h r => .wl h (Rvs.claim r)
  | _, _, .obj a => .obj a
  | _, _, .exc c n m h g l r => .exc c ⟨by rw [put_ne (fun e => n.2 (.inr e))]; exact n.1, fun q => n.2 (.inl q)⟩ ⟨by rw [put_ne (fun e => m.2 (.inr e))]; exact m.1, fun q => m.2 (.inl q)⟩ h g l (Rvs.claim r)
theorem Rvs.claim {k : PySem.W.Frag} {Z : Addr → Prop} {M : Mp} {H : Hp} {p : Addr} {o : O} : ∀ {ds : List D} {vs : List V}, Rvs ⟨k, hide Z p⟩ M H ds vs → Rvs ⟨k, Z⟩ (put M p o) H ds vs
  | _, _, .nil => .nil
  | _, _, .cons r rs => .cons (Rv.claim r) (Rvs.claim rs)
end
theorem RM.claim {k : PySem.W.Frag} {Z : Addr → Prop} {M : Mp} {H : Hp} {p : Addr} {ds : List D} {vs : List V} (m : RM ⟨k, Bx.hide Z p⟩ M H) (z : ¬ Z p) (h : H p = some (.lst vs)) (r : Rvs ⟨k, Bx.hide Z p⟩ M H ds vs) : RM ⟨k, Z⟩ (Bx.put M p (.lst ds)) H where
  own := fun a o e => by
    by_cases q : a = p
    · subst q
      rw [put_same] at e; cases e
      exact ⟨vs, h, r.claim⟩
    · rw [put_ne q] at e
      have t := m.own a o e
      cases o with
      | lst es => obtain ⟨ws, h1, r1⟩ := t; exact ⟨ws, h1, r1.claim⟩
  hid := fun a q => by
    have n : a ≠ p := fun e => z (e ▸ q)
    exact ⟨(m.hid a (.inl q)).1, by rw [put_ne n]; exact (m.hid a (.inl q)).2⟩

/-! ### forgetting, freezing -/
/-- M' has no more than M -/
def Sub (M' M : Mp) : Prop := ∀ a o, M' a = some o → M a = some o
theorem Sub.refl (M : Mp) : Sub M M := fun _ _ h => h
theorem Sub.trans {M M1 M2 : Mp} (a : Sub M M1) (b : Sub M1 M2) : Sub M M2 := fun x o h => b x o (a x o h)
theorem Sub.put {M M' : Mp} {p : Addr} {o : O} (s : Sub M' M) (h : M' p = none) : Sub M' (Bx.put M p o) := fun a u e => by
  rw [put_ne (fun z => by rw [z, h] at e; cases e)]; exact s a u e
theorem Sub.none {M M' : Mp} (s : Sub M' M) {a : Addr} (h : M a = none) : M' a = none := by
  cases e : M' a with
  | none => rfl
  | some o => rw [s a o e] at h; cases h
mutual
/-- d as M has it may be told as d' where M' holds less -/
inductive Fr (M M' : Mp) : D → D → Prop
  | same (d : D) : Fr M M' d d
  | tup {xs ys : List D} : Frs M M' xs ys → Fr M M' (.tup xs) (.tup ys)
  | rl {xs ys : List D} : Frs M M' xs ys → Fr M M' (.rl xs) (.rl ys)
  | frz {a : Addr} {xs ys : List D} : M a = some (.lst xs) → M' a = none → Frs M M' xs ys → Fr M M' (.obj a) (.rl ys)
inductive Frs (M M' : Mp) : List D → List D → Prop
  | nil : Frs M M' [] []
  | cons {d e : D} {ds es : List D} : Fr M M' d e → Frs M M' ds es → Frs M M' (d :: ds) (e :: es)
end
theorem Frs.same {M M' : Mp} : ∀ ds : List D, Frs M M' ds ds
  | [] => .nil
  | d :: ds => .cons (.same d) (Frs.same ds)
section
variable {K : KZ} {M M' : Mp} {H : Hp}
theorem Sub.step (s : Sub M' M) : Step M M' H H := ⟨fun _ _ h _ => h, fun _ h => h, fun a h => .inl fun z => h (s.none z)⟩
theorem RM.sub (m : RM K M H) (s : Sub M' M) : RM K M' H := ⟨fun a o e => (m.own a o (s a o e)).step s.step fun _ z => z, fun a z => ⟨(m.hid a z).1, s.none (m.hid a z).2⟩⟩
mutual
theorem Rv.fr (m : RM K M H) (s : Sub M' M) : ∀ {d e : D} {v : V}, Rv K M H d v → Fr M M' d e → Rv K M' H e v
  | _, _, _, r, .same _ => r.step s.step
  | _, _, _, r, .tup f => by
    cases r with
    | tup n h r => exact .tup ⟨s.none n.1, n.2⟩ h (Rvs.fr m s r f)
    | wtup h r => exact .wtup h (Rvs.fr m s r f)
  | _, _, _, r, .rl f => by
    cases r with
    | rl n h r => exact .rl ⟨s.none n.1, n.2⟩ h (Rvs.fr m s r f)
  | _, _, _, r, .frz h n f => by
    cases r
    obtain ⟨vs, q, r⟩ := m.own _ _ h
    exact .rl ⟨n, fun z => by rw [(m.hid _ z).2] at h; cases h⟩ q (Rvs.fr m s r f)
theorem Rvs.fr (m : RM K M H) (s : Sub M' M) : ∀ {ds es : List D} {vs : List V}, Rvs K M H ds vs → Frs M M' ds es → Rvs K M' H es vs
  | _, _, _, r, .nil => by cases r; exact .nil
  | _, _, _, r, .cons f g => by
    cases r with
    | cons r1 r => exact .cons (Rv.fr m s r1 f) (Rvs.fr m s r g)
end
end

/-! ### slots -/
abbrev Sl := List (Option D)
structure RS (K : KZ) (M : Mp) (H : Hp) (σ : L2.St) (μ : Sl) : Prop where
  len : σ.length = μ.length
  get : ∀ (i : Nat) (d : D), μ[i]? = some (some d) → ∃ v, σ[i]? = some (some v) ∧ Rv K M H d v
section
variable {K : KZ} {M M' : Mp} {H H' : Hp} {σ : L2.St} {μ : Sl}
theorem RS.step (r : RS K M H σ μ) (s : Step M M' H H') : RS K M' H' σ μ := ⟨r.len, fun i d h => let ⟨v, e, q⟩ := r.get i d h; ⟨v, e, q.step s⟩⟩
theorem RS.stepZ {k : PySem.W.Frag} {Z Z' : Addr → Prop} (r : RS ⟨k, Z⟩ M H σ μ) (s : Step M M' H H') (z : Wid Z Z' H) : RS ⟨k, Z'⟩ M' H' σ μ := ⟨r.len, fun i d h => let ⟨v, e, q⟩ := r.get i d h; ⟨v, e, q.stepZ s z⟩⟩
theorem RS.set (r : RS K M H σ μ) {d : D} {v : V} (q : Rv K M H d v) (i : Nat) : RS K M H (σ.set i (some v)) (μ.set i (some d)) := by
  refine ⟨by simp [r.len], fun j e h => ?_⟩
  by_cases hj : i = j
  · subst hj
    by_cases hl : i < μ.length
    · rw [List.getElem?_set_self hl] at h; cases h
      exact ⟨v, List.getElem?_set_self (by rw [r.len]; exact hl), q⟩
    · rw [List.getElem?_eq_none (by simpa using hl)] at h; cases h
  · rw [List.getElem?_set_ne hj] at h
    rw [List.getElem?_set_ne hj]
    exact r.get j e h
theorem RS.unset (r : RS K M H σ μ) (i : Nat) : RS K M H (σ.set i none) (μ.set i none) := by
  refine ⟨by simp [r.len], fun j e h => ?_⟩
  by_cases hj : i = j
  · subst hj
    by_cases hl : i < μ.length
    · rw [List.getElem?_set_self hl] at h; cases h
    · rw [List.getElem?_eq_none (by simpa using hl)] at h; cases h
  · rw [List.getElem?_set_ne hj] at h
    rw [List.getElem?_set_ne hj]
    exact r.get j e h
end
def wipeD (μ : Sl) : List Nat → Sl
  | [] => μ
  | v :: vs => (wipeD μ vs).set v none
theorem RS.wipe {K : KZ} {M : Mp} {H : Hp} {σ : L2.St} {μ : Sl} (r : RS K M H σ μ) : ∀ vs : List Nat, RS K M H (wipe σ vs) (wipeD μ vs)
  | [] => r
  | v :: vs => (RS.wipe r vs).unset v

/-! ### wants -/
abbrev KE := D → Mp → Prop
/-- of an exception: its class's name, its fields -/
abbrev KX := Str → List (Str × D) → Mp → Prop
abbrev WE := Sl → Mp → KE → KX → Prop
abbrev WT := Sl → Mp → (Bool → Mp → Prop) → KX → Prop
abbrev WA := Sl → Mp → (List D → Mp → Prop) → KX → Prop
/-- what a statement is to reach -/
structure Kx where
  nx : Sl → Mp → Prop
  rt : KE
  bk : Sl → Mp → Prop
  ct : Sl → Mp → Prop
  ex : Str → List (Str × D) → Sl → Mp → Prop
abbrev WS := Sl → Mp → Kx → Prop

/-- an exception of the class that the module calls n, with these fields -/
def RX (mg : Str → Option Value) (K : KZ) (M : Mp) (H : Hp) (n : Str) (fs : List (Str × D)) (cls : Value) (d : Option Addr) : Prop :=
  ∃ (C dd : Addr) (vs : List (Str × V)), mg n = some (.ref C) ∧ cls = .ref C ∧ d = some dd ∧ M dd = none ∧ H dd = some (.xd vs) ∧ Paired (fun (p : Str × D) (q : Str × V) => p.1 = q.1 ∧ Rv K M H p.2 q.2) fs vs

section
variable (X : Cx) (W : WX)
def TE' (w : WE) : TE := fun σ H Q => ∃ Z : Addr → Prop, ∃ μ M Q0 E0, RS ⟨X.K, Z⟩ M H σ μ ∧ RM ⟨X.K, Z⟩ M H ∧ w μ M Q0 E0 ∧
  (∀ d M' H' v, Q0 d M' → Step M M' H H' → RM ⟨X.K, Z⟩ M' H' → Rv ⟨X.K, Z⟩ M' H' d v → Q v H') ∧
  ∀ n fs M' H' cls dd, E0 n fs M' → Step M M' H H' → RM ⟨X.K, Z⟩ M' H' → RX X.mg ⟨X.K, Z⟩ M' H' n fs cls dd → W cls dd σ H'
def TT' (w : WT) : TT := fun σ H Q => ∃ Z : Addr → Prop, ∃ μ M Q0 E0, RS ⟨X.K, Z⟩ M H σ μ ∧ RM ⟨X.K, Z⟩ M H ∧ w μ M Q0 E0 ∧
  (∀ b M' H', Q0 b M' → Step M M' H H' → RM ⟨X.K, Z⟩ M' H' → Q b H') ∧
  ∀ n fs M' H' cls dd, E0 n fs M' → Step M M' H H' → RM ⟨X.K, Z⟩ M' H' → RX X.mg ⟨X.K, Z⟩ M' H' n fs cls dd → W cls dd σ H'
def TA' (w : WA) : TA := fun σ H Q => ∃ Z : Addr → Prop, ∃ μ M Q0 E0, RS ⟨X.K, Z⟩ M H σ μ ∧ RM ⟨X.K, Z⟩ M H ∧ w μ M Q0 E0 ∧
  (∀ ds M' H' vs, Q0 ds M' → Step M M' H H' → RM ⟨X.K, Z⟩ M' H' → Rvs ⟨X.K, Z⟩ M' H' ds vs → Q vs H') ∧
  ∀ n fs M' H' cls dd, E0 n fs M' → Step M M' H H' → RM ⟨X.K, Z⟩ M' H' → RX X.mg ⟨X.K, Z⟩ M' H' n fs cls dd → W cls dd σ H'
def TS' (w : WS) : TS := fun D σ H => ∃ Z : Addr → Prop, ∃ μ M K0, RS ⟨X.K, Z⟩ M H σ μ ∧ RM ⟨X.K, Z⟩ M H ∧ w μ M K0 ∧
  (∀ μ' M' σ' H', K0.nx μ' M' → Step M M' H H' → RM ⟨X.K, Z⟩ M' H' → RS ⟨X.K, Z⟩ M' H' σ' μ' → D.nx σ' H') ∧
  (∀ d M' H' v, K0.rt d M' → Step M M' H H' → RM ⟨X.K, Z⟩ M' H' → Rv ⟨X.K, Z⟩ M' H' d v → D.rt v H') ∧
  (∀ μ' M' σ' H', K0.bk μ' M' → Step M M' H H' → RM ⟨X.K, Z⟩ M' H' → RS ⟨X.K, Z⟩ M' H' σ' μ' → D.bk σ' H') ∧
  (∀ μ' M' σ' H', K0.ct μ' M' → Step M M' H H' → RM ⟨X.K, Z⟩ M' H' → RS ⟨X.K, Z⟩ M' H' σ' μ' → D.ct σ' H') ∧
  ∀ n fs μ' M' σ' H' cls dd, K0.ex n fs μ' M' → Step M M' H H' → RM ⟨X.K, Z⟩ M' H' → RS ⟨X.K, Z⟩ M' H' σ' μ' → RX X.mg ⟨X.K, Z⟩ M' H' n fs cls dd → W cls dd σ' H'
end
/-- consequence -/
theorem pe_imp {X : Cx} {e : Expr} {t t' : TE} (h : PE X e t) (i : ∀ σ H Q, t' σ H Q → t σ H Q) : PE X e t' := ⟨fun pins s σ H Q I q => h.run pins s σ H Q I (i σ H Q q)⟩
theorem pt_imp {X : Cx} {e : Expr} {t t' : TT} (h : PT X e t) (i : ∀ σ H Q, t' σ H Q → t σ H Q) : PT X e t' := ⟨fun pins s σ H Q I q => h.run pins s σ H Q I (i σ H Q q)⟩
theorem pw_imp {X : Cx} {e : Expr} {t t' : TT} (h : PW X e t) (i : ∀ σ H Q, t' σ H Q → t σ H Q) : PW X e t' := ⟨fun wh pins s σ H Q I q => h.run wh pins s σ H Q I (i σ H Q q)⟩
theorem pa_imp {X : Cx} {es : List Expr} {t t' : TA} (h : PA X es t) (i : ∀ σ H Q, t' σ H Q → t σ H Q) : PA X es t' := ⟨fun pos pins s σ H Q I q => h.run pos pins s σ H Q I (i σ H Q q)⟩
theorem ps_imp {X : Cx} {e : Stmt} {t t' : TS} (h : PS X e t) (i : ∀ D σ H, t' D σ H → t D σ H) : PS X e t' := ⟨fun pins s σ H D I q => h.run pins s σ H D I (i D σ H q)⟩
theorem pss_imp {X : Cx} {e : List Stmt} {t t' : TS} (h : PSs X e t) (i : ∀ D σ H, t' D σ H → t D σ H) : PSs X e t' := ⟨fun pins s σ H D I q => h.run pins s σ H D I (i D σ H q)⟩
theorem pi_imp {X : Cx} {tg e : Expr} {t t' : TI} (h : PI X tg e t) (i : ∀ σ H R, t' σ H R → t σ H R) : PI X tg e t' := ⟨fun pins s σ H R I q => h.run pins s σ H R I (i σ H R q)⟩
theorem pg_imp {X : Cx} {e : Expr} {t t' : TG} (h : PG X e t) (i : ∀ v σ H Q, t' v σ H Q → t v σ H Q) : PG X e t' := ⟨fun pins s σ H v u Q I r q => h.run pins s σ H v u Q I r (i v σ H Q q)⟩

/-! ### the small rules -/
section
variable {X : Cx} {W : WX}
theorem c_var (i : Nat) {σ : L2.St} {H : Hp} {Q : VK} (h : TE' X W (fun μ M Q E => ∃ d, μ[i]? = some (some d) ∧ Q d M) σ H Q) : tVar i σ H Q := by
  obtain ⟨Z, μ, M, Q0, E0, rs, rm, ⟨d, e, q⟩, k, _⟩ := h
  obtain ⟨v, ev, rv⟩ := rs.get i d e
  exact ⟨v, ev, k d M H v q (.refl _ _) rm rv⟩
theorem c_con {d : D} {v : V} (r : ∀ Z M H, Rv ⟨X.K, Z⟩ M H d v) {σ : L2.St} {H : Hp} {Q : VK} (h : TE' X W (fun μ M Q E => Q d M) σ H Q) : tC v σ H Q := by
  obtain ⟨Z, μ, M, Q0, E0, rs, rm, q, k, _⟩ := h
  exact k d M H v q (.refl _ _) rm (r _ _ _)
/-- two in a row -/
theorem c_two {wa wb : WE} {R : D → D → Mp → KE → KX → Prop} {r : R2} {σ : L2.St} {H : Hp} {Q : VK}
    (h : TE' X W (fun μ M Q E => wa μ M (fun x M1 => wb μ M1 (fun y M2 => R x y M2 Q E) E) E) σ H Q)
    (hr : ∀ Z x y M H v u Q0 E0 (Q : VK), R x y M Q0 E0 → RM ⟨X.K, Z⟩ M H → Rv ⟨X.K, Z⟩ M H x v → Rv ⟨X.K, Z⟩ M H y u →
      (∀ d M' H' v, Q0 d M' → Step M M' H H' → RM ⟨X.K, Z⟩ M' H' → Rv ⟨X.K, Z⟩ M' H' d v → Q v H') → r v u H Q) : tOp r (TE' X W wa) (TE' X W wb) σ H Q := by
  obtain ⟨Z, μ, M, Q0, E0, rs, rm, w, k, kx⟩ := h
  refine ⟨Z, μ, M, _, E0, rs, rm, w, fun x M1 H1 v w1 s1 rm1 rx => ?_, fun n fs M' H' cls dd e s m x => kx n fs M' H' cls dd e s m x⟩
  refine ⟨Z, μ, M1, _, E0, rs.step s1, rm1, w1, fun y M2 H2 u w2 s2 rm2 ry => ?_, fun n fs M' H' cls dd e s m x => kx n fs M' H' cls dd e (s1.trans s) m x⟩
  exact hr Z x y M2 H2 v u Q0 E0 Q w2 rm2 (rx.step s2) ry fun d M' H' v' q s m r => k d M' H' v' q ((s1.trans s2).trans s) m r
theorem c_one {wa : WE} {R : D → Mp → KE → KX → Prop} {r : V → Hp → VK → Prop} {σ : L2.St} {H : Hp} {Q : VK}
    (h : TE' X W (fun μ M Q E => wa μ M (fun x M1 => R x M1 Q E) E) σ H Q)
    (hr : ∀ Z x M H v Q0 E0 (Q : VK), R x M Q0 E0 → RM ⟨X.K, Z⟩ M H → Rv ⟨X.K, Z⟩ M H x v →
      (∀ d M' H' v, Q0 d M' → Step M M' H H' → RM ⟨X.K, Z⟩ M' H' → Rv ⟨X.K, Z⟩ M' H' d v → Q v H') → r v H Q) : TE' X W wa σ H fun v H1 => r v H1 Q := by
  obtain ⟨Z, μ, M, Q0, E0, rs, rm, w, k, kx⟩ := h
  refine ⟨Z, μ, M, _, E0, rs, rm, w, fun x M1 H1 v w1 s1 rm1 rx => ?_, fun n fs M' H' cls dd e s m x => kx n fs M' H' cls dd e s m x⟩
  exact hr Z x M1 H1 v Q0 E0 Q w1 rm1 rx fun d M' H' v' q s m r => k d M' H' v' q (s1.trans s) m r
/-- arguments -/
theorem c_anil {σ : L2.St} {H : Hp} {Q : List V → Hp → Prop} (h : TA' X W (fun μ M Q E => Q [] M) σ H Q) : tNil σ H Q := by
  obtain ⟨Z, μ, M, Q0, E0, rs, rm, q, k, _⟩ := h
  exact k [] M H [] q (.refl _ _) rm .nil
theorem c_acons {wa : WE} {wr : WA} {σ : L2.St} {H : Hp} {Q : List V → Hp → Prop}
    (h : TA' X W (fun μ M Q E => wa μ M (fun x M1 => wr μ M1 (fun ys M2 => Q (x :: ys) M2) E) E) σ H Q) : tCons (TE' X W wa) (TA' X W wr) σ H Q := by
  obtain ⟨Z, μ, M, Q0, E0, rs, rm, w, k, kx⟩ := h
  refine ⟨Z, μ, M, _, E0, rs, rm, w, fun x M1 H1 v w1 s1 rm1 rx => ?_, fun n fs M' H' cls dd e s m x => kx n fs M' H' cls dd e s m x⟩
  refine ⟨Z, μ, M1, _, E0, rs.step s1, rm1, w1, fun ys M2 H2 us w2 s2 rm2 ry => ?_, fun n fs M' H' cls dd e s m x => kx n fs M' H' cls dd e (s1.trans s) m x⟩
  exact k _ M2 H2 _ w2 (s1.trans s2) rm2 (.cons (rx.step s2) ry)
/-- what is done with arguments -/
theorem c_args {wa : WA} {R : List D → Mp → KE → KX → Prop} {r : List V → Hp → VK → Prop} {σ : L2.St} {H : Hp} {Q : VK}
    (h : TE' X W (fun μ M Q E => wa μ M (fun x M1 => R x M1 Q E) E) σ H Q)
    (hr : ∀ Z xs M H vs Q0 E0 (Q : VK), R xs M Q0 E0 → RM ⟨X.K, Z⟩ M H → Rvs ⟨X.K, Z⟩ M H xs vs →
      (∀ d M' H' v, Q0 d M' → Step M M' H H' → RM ⟨X.K, Z⟩ M' H' → Rv ⟨X.K, Z⟩ M' H' d v → Q v H') → r vs H Q) : tCB r (TA' X W wa) σ H Q := by
  obtain ⟨Z, μ, M, Q0, E0, rs, rm, w, k, kx⟩ := h
  refine ⟨Z, μ, M, _, E0, rs, rm, w, fun x M1 H1 v w1 s1 rm1 rx => ?_, fun n fs M' H' cls dd e s m x => kx n fs M' H' cls dd e s m x⟩
  exact hr Z x M1 H1 v Q0 E0 Q w1 rm1 rx fun d M' H' v' q s m r => k d M' H' v' q (s1.trans s) m r
end
end Bx

set_option Elab.async false
set_option linter.all false
set_option maxRecDepth 100000
set_option maxHeartbeats 4000000
/-! Bx, part X0: an own error class over ValueError is called, keywords allowed; the error stays as a value. -/
namespace BxX
open PySem PySem.Spec PySem.Calls PyProof.Rows PySem.HandSPX

section
variable {M : Model} {A : Around} {E : Value → Shared → Prop} {h : Heap} {g : Array GenState} {d : Drawn} {t : Nat} {os : OsState}
variable {nm q : Str} {C N : Addr} {bs bm bmB : List Value} {hdct : Bool} {sn : List Str} {sub : List Value} {ab : Bool} {col : Option Bool} {dd : Option Addr} {k0 k1 k2 k3 k5 : Option Value} {B nw ini : String} {kw : List (Str × Value)}
theorem xcheck (F : ExcBaseFacts B nw ini bmB) (hT : ∀ Y : String, bm.contains (.type Y) = bmB.contains (.type Y)) {us : List Value} {Q : Unit → Shared → Prop}
    (hC : h.get? C = some (excClassObj nm q C N bs bm hdct sn sub ab col dd k0 k1 k2 k3 k5 nw)) (hq : Q () ⟨h, g, d, t, os⟩) : wpAny M A (checkBuiltinCall nw ⟨.ref C :: us, kw⟩) Q E ⟨h, g, d, t, os⟩ := by
  have c1 : (Value.ref C :: bm).contains (.type B) = true := by
    rw [List.contains_cons, hT, F.hasB, Bool.or_true]
  have st := F.noStar
  simp only [checkBuiltinCall, F.newKind, F.newSplit, F.newRow]
  repeat (first
    | refine wpAny_loadPart_at hC ?_
    | (refine wpAny_isSubtype_exc hC ?_; rw [c1])
    | refine wpAny_staticBase_exc hC ?_
    | refine wpAny_madeBy_exc hC ?_
    | simp only [bne_self_eq_false, Bool.false_eq_true, if_false]
    | wp_step)
  exact hq
end
section
variable {prog : Program} {w : World} {A : Around} {E : Value → Shared → Prop} {R : Result → Shared → Prop} {h : Heap} {g : Array GenState} {d : Drawn} {t : Nat} {os : OsState}
variable {nm q : Str} {C N : Addr} {bs bm bmB : List Value} {hdct : Bool} {sn : List Str} {sub : List Value} {ab : Bool} {col : Option Bool} {dd : Option Addr} {k0 k1 k2 k3 k5 : Option Value} {B nw ini : String} {kw : List (Str × Value)}
theorem xnew (F : ExcBaseFacts B nw ini bmB) (hT : ∀ Y : String, bm.contains (.type Y) = bmB.contains (.type Y)) {us : List Value}
    (hC : h.get? C = some (excClassObj nm q C N bs bm hdct sn sub ab col dd k0 k1 k2 k3 k5 nw))
    (hq : R (.ok (.ret (.ref (h.objs.size + 1)))) ⟨(h.push (W.kdv_tup us)).push (excO C h.objs.size), g, d, t, os⟩) (hl : us.length ≤ sizeLine) :
    codeAny (model prog w) A (.builtin nw ⟨.ref C :: us, kw⟩) R ⟨h, g, d, t, os⟩ := by
  have en := F.ends
  have c1 : (Value.ref C :: bm).contains (.type B) = true := by
    rw [List.contains_cons, hT, F.hasB, Bool.or_true]
  have c2 : (Value.ref C :: bm).contains (.type "AttributeError") = false := by
    rw [List.contains_cons, hT, F.noAttr]; rfl
  have c3 : (Value.ref C :: bm).contains (.type "NameError") = false := by
    rw [List.contains_cons, hT, F.noName]; rfl
  refine codeAny_builtinAt F.entry ?_
  unfold Builtin.«BaseException.__new__»
  refine PySem.wpAt_bind ?_
  show PySem.wpAt _ _ _ (stack >>= _) _ _ _
  refine PySem.wpAt_bind (PySem.wpAt_stack fun p below => PySem.wpAt_of_wpAny ?_)
  wp_walk
  refine PySem.wpAt_of_wpAny ?_
  rw [F.owner]
  repeat (first
    | with_reducible refine wpAny_madeHere_exc F.canon hC ?_
    | with_reducible refine wpAny_loadPart_at hC ?_
    | (with_reducible refine wpAny_isSubtype_exc hC ?_
       first | rw [c1] | rw [c2] | rw [c3])
    | wp_step)
  show R _ _
  rw [Heap.size_push]
  exact hq
theorem xtype (F : ExcBaseFacts B nw ini bmB) (hT : ∀ Y : String, bm.contains (.type Y) = bmB.contains (.type Y)) {us : List Value} {fI : Addr} {Q : Fin → Shared → Prop}
    (hC : h.get? C = some (excClassObj nm q C N bs bm hdct sn sub ab col dd k0 k1 k2 k3 k5 nw))
    (hi : W.Looks (model prog w) h (typeLookup (.ref C) "__init__") (some (.ref fI))) (hb : ∀ self, W.Looks (model prog w) h (bindSpecial (.ref fI) self) (.ref fI, [self])) (hl : us.length ≤ sizeLine)
    (hq : codeAny (model prog w) A (.call (.ref fI) ⟨.ref (h.objs.size + 1) :: us, kw⟩)
      (fun r s' => match r with | .ok (.ret v) => v = .none ∧ Q (.done (.ret (.ref (h.objs.size + 1)))) s' | .ok _ => False | .error e => E e s')
      ⟨(h.push (W.kdv_tup us)).push (excO C h.objs.size), g, d, t, os⟩) :
    wpAny (model prog w) A (Builtin.«type.__call__» ⟨.ref C :: us, kw⟩) Q E ⟨h, g, d, t, os⟩ := by
  repeat (first
    | with_reducible refine wpAny_loadPart_at hC ?_
    | with_reducible refine wpAny_madeBy_exc hC ?_
    | wp_step)
  refine codeAny_call_builtin_code (Code.quiet_builtin _ F.quiet) (xcheck F hT hC ?_)
  refine xnew F hT hC ?_ hl
  show wpAny _ _ _ _ _ _
  have k : ∀ b o, h.get? b = some o → ((h.push (W.kdv_tup us)).push (excO C h.objs.size)).get? b = some o := fun b o e =>
    Heap.get?_push_of_some _ (Heap.get?_push_of_some _ e)
  have hC1 := k _ _ hC
  have hg1 : ((h.push (W.kdv_tup us)).push (excO C h.objs.size)).get? (h.objs.size + 1) = some (excO C h.objs.size) := by
    heap_get
  have hcC : (Value.ref C :: bm).contains (.ref C) = true := by simp
  have i1 := hi.keeps k
  have b1 := (hb (.ref (h.objs.size + 1))).keeps k
  unfold isInstance
  repeat (first
    | with_reducible refine wpAny_loadPart_at hg1 ?_
    | (with_reducible refine wpAny_isSubtype_exc hC1 ?_
       rw [hcC])
    | wp_step)
  show wpAny _ _ (typeLookup (.ref C) _) _ _ _
  refine i1.at ?_
  refine wpAny_holding (wpAny_bind (b1.at ?_))
  refine wpAny_bind (wpAny_call (codeAny_mono hq fun r s' z => ?_))
  rcases r with e | (v | _ | _ | _) <;> first | exact z | exact z.elim | skip
  obtain ⟨rfl, z⟩ := z
  first
    | exact wpAny_pure (wpAny_pure z)
    | (wp_walk; exact z)
theorem xcall (F : ExcBaseFacts B nw ini bmB) (hT : ∀ Y : String, bm.contains (.type Y) = bmB.contains (.type Y)) {us : List Value} {fI : Addr}
    (hC : h.get? C = some (excClassObj nm q C N bs bm hdct sn sub ab col dd k0 k1 k2 k3 k5 nw))
    (hi : W.Looks (model prog w) h (typeLookup (.ref C) "__init__") (some (.ref fI))) (hb : ∀ self, W.Looks (model prog w) h (bindSpecial (.ref fI) self) (.ref fI, [self])) (hl : us.length ≤ sizeLine)
    (hck : ∀ {Q : Unit → Shared → Prop} {E : Value → Shared → Prop}, Q () ⟨h, g, d, t, os⟩ → wpAny (model prog w) A.in1 (checkBuiltinCall "type.__call__" ⟨.ref C :: us, kw⟩) Q E ⟨h, g, d, t, os⟩)
    (hq : codeAny (model prog w) (A.under (.builtin "type.__call__" ⟨.ref C :: us, kw⟩)) (.call (.ref fI) ⟨.ref (h.objs.size + 1) :: us, kw⟩) (W.InitBack (h.objs.size + 1) R)
      ⟨(h.push (W.kdv_tup us)).push (excO C h.objs.size), g, d, t, os⟩) :
    codeAny (model prog w) A (.call (.ref C) ⟨us, kw⟩) R ⟨h, g, d, t, os⟩ := by
  have f1 := tc_lookup
  have f2 := tc_bind (.ref C)
  have hTy : (⟨h, g, d, t, os⟩ : Shared).TypeIs (.ref C) "type" := ⟨_, hC, rfl⟩
  refine codeAny_of_tree ?_
  show wpAny _ _ (callAny (.ref C) _) _ _ _
  repeat (any_goals (first | assumption | with_reducible refine wpAny_loadPart_at hC ?_ | wp_step))
  refine ⟨rfl, ?_⟩
  refine codeAny_call_builtin_at (Code.quiet_builtin _ (by decide +kernel)) entry_typeCall (hck (xtype F hT hC hi hb hl ?_))
  refine codeAny_mono hq fun r s' z => ?_
  rcases r with e | (v | _ | _ | _) <;> exact z
end
section
variable {M : Model} {A : Around} {E : Value → Shared → Prop} {h : Heap} {g : Array GenState} {d : Drawn} {t : Nat} {os : OsState}
variable {nm q : Str} {C N : Addr} {bs bm bmB : List Value} {hdct : Bool} {sn : List Str} {sub : List Value} {ab : Bool} {col : Option Bool} {dd : Option Addr} {k0 k1 k2 k3 k5 : Option Value} {nw : String} {kw : List (Str × Value)}
theorem xck {us : List Value} {Q : Unit → Shared → Prop} (hC : h.get? C = some (excClassObj nm q C N bs bm hdct sn sub ab col dd k0 k1 k2 k3 k5 nw)) (hq : Q () ⟨h, g, d, t, os⟩) :
    wpAny M A (checkBuiltinCall "type.__call__" ⟨.ref C :: us, kw⟩) Q E ⟨h, g, d, t, os⟩ := by
  have f3 := tc_sub
  have hT : (⟨h, g, d, t, os⟩ : Shared).TypeIs (.ref C) "type" := ⟨_, hC, rfl⟩
  simp only [checkBuiltinCall, tc_kind, tc_split]
  repeat (any_goals (first
    | assumption
    | with_reducible refine wpAny_loadPart_at hC ?_
    | with_reducible refine wpAny_onRaise ?_
    | with_reducible refine wpAny_map ?_
    | wp_step))
end
end BxX

set_option Elab.async false
set_option linter.all false
set_option maxRecDepth 100000
set_option maxHeartbeats 4000000
/-! Bx, part X1: an own error that is held as a value: its fields, isinstance of it; it is made and held. -/
namespace BxX
open PySem PySem.Spec PySem.Calls PyProof.Rows L2

/-! ### the error's class is asked -/
section
open PySem.W
variable {prog : Program} {w : World} {A : Around} {E : Value → Shared → Prop} {s : Shared} {K : Frag} {x D : Addr} {ox : Obj} {od : Option Obj}
theorem fcls {C : Addr} {f : Str} {a g : Value} (hc : (clsIn K C).isSome = true) (ha : findIn K (.ref C) f = some (some a)) (hg : specialIn K a "__get__" = some (some g)) (ht : takesIn K a = some true) : findObj K C od f = some (.bind g a) := by
  obtain ⟨cd, hc⟩ := Option.isSome_iff_exists.mp hc
  unfold findObj
  rw [hc, Option.bind_some, ha, Option.bind_some]
  simp [hg, ht]
theorem xclass {Q : Option Value → Shared → Prop} (T : L2.ExcC K D) (X : K.In s.heap) (I : InstAt s.heap x ox D od) (h : Q (some (.ref D)) { s with toks := s.toks + 1 }) :
    wpAny (model prog w) A (getAttr? (.ref x) "__class__") Q E s := by
  obtain ⟨hga, hgt, hsub, hdct, ha, hn, htk, hm⟩ := T
  have hf : findObj K D od "__class__" = some (.bind (.builtin "getset_descriptor.__get__") (.builtin "object.__class__")) :=
    fcls (by obtain ⟨cd, hc, _⟩ := any_some hdct; rw [hc]; rfl) ha hn htk
  obtain ⟨hp, g, d, t, os⟩ := s
  have l0 := I.type (M := model prog w)
  have l1 := looks_findIn (M := model prog w) X hga
  have l2 := looks_findIn (M := model prog w) X hgt
  have l3 := looks_find (M := model prog w) X I hf
  have sub : Looks (model prog w) hp (isInstance (.ref x) (.type "BaseException")) true := l0.andThen (looks_subIn X hsub)
  have x0 : (false && onTheHeap (Value.builtin "BaseException.__getattribute__")) = false := rfl
  have x2 : (Value.builtin "BaseException.__getattribute__" == Value.builtin "object.__getattribute__") = false := by
    decide +kernel
  have x1 : (onTheHeap (Value.ref D) && Value.builtin "BaseException.__getattribute__" == Value.builtin "object.__getattribute__") = false := by
    rw [x2]; rfl
  unfold getAttr? getAttrBy? getAttrBy
  refine wpAny_bind (wpAny_mkText (wpAny_bind (wpAny_attempt (wpAny_holding (wpAny_bind (l0.at (wpAny_bind (l1.at ?_))))))))
  show wpAny _ _ (if (onTheHeap (Value.ref D) && Value.builtin "BaseException.__getattribute__" == Value.builtin "object.__getattribute__") = true
    then _ else _) _ _ _
  rw [x1, if_neg Bool.false_ne_true]
  unfold getAttrByItsOwn hookBefore
  refine wpAny_bind ?_
  rw [if_pos (show onTheHeap (Value.ref D) = true from rfl)]
  refine l2.at ?_
  refine wpAny_bind (wpAny_attempt (wpAny_holding ?_))
  unfold callGetattribute
  rw [x0, if_neg Bool.false_ne_true]
  unfold boundAndCalled
  rw [PySem.F.excAttr_ValueError.ga.bind (.ref x)]
  refine wpAny_bind (wpAny_pure ?_)
  show wpAny _ _ (call (.builtin "BaseException.__getattribute__") [.ref x, .str "__class__" t]) _ _ _
  refine wpAny_call (codeAny_call_builtin PySem.F.excAttr_ValueError.ga.plain PySem.F.entry_bexc_ga ?_)
  refine @check_slot (model prog w) _ _ ⟨hp, g, d, t + 1, os⟩ "BaseException.__getattribute__" "BaseException" "__getattribute__" (.ref x)
    [.str "__class__" t] [] _ (by decide +kernel) (by decide +kernel) sub (PySem.F.args_bexc_ga (.ref x) (.str "__class__" t)) ?_
  unfold Builtin.«object.__getattribute__»
  refine wpAny_bind (wpAny_of_eq (a := ((Value.ref x : Value), [Value.str "__class__" t])) (by
    first | rfl | (simp only [slotArgs]; rfl)) ?_)
  refine wpAny_bind (wpAny_pure (wpAny_bind (l0.at (wpAny_bind (l3.at ?_)))))
  show wpAny _ _ (holding [Value.builtin "object.__class__"] (call (.builtin "getset_descriptor.__get__")
    [.builtin "object.__class__", .ref x, .ref D]) >>= ret) _ _ _
  refine wpAny_bind (wpAny_holding (wpAny_call (class_get (s := ⟨hp, g, d, t + 1, os⟩) (ox := ox) (od := od) X I hm ?_)))
  refine wpAny_pure ?_
  show wpAny _ _ (handedOut (.ref D)) _ _ _
  rw [handedOut_of (v := .ref D) rfl]
  first
    | exact wpAny_pure (wpAny_pure h)
    | exact wpAny_pure h
    | exact wpAny_pure (wpAny_bind (wpAny_pure (wpAny_pure h)))
theorem kitx_x (T : L2.ExcC K D) : KitX K (.ref x) (.ref D) (fun h => InstAt h x ox D od) where
  ty := fun _ _ _ I => I.type
  it := fun _ _ X _ => by
    obtain ⟨cdD, hcD, _⟩ := any_some T.hd
    unfold clsIn at hcD
    split at hcD
    · rename_i c' d' cd' sl' ho
      intro A' Q' E' s' k q
      unfold isType loadHead
      exact wpAny_bind (wpAny_loadPart (k _ _ (X _ _ ho)) (wpAny_pure q))
    · cases hcD
  ne := fun h tp dd its n sl X htp => by
    obtain ⟨cdD, hcD, _⟩ := any_some T.hd
    refine Bool.eq_false_iff.mpr fun q => ?_
    have e : D = tp := Value.ref.inj (beq_iff_eq.mp q)
    subst e
    unfold clsIn at hcD
    split at hcD
    · rename_i c' d' cd' sl' ho
      have z := (X _ _ ho).symm.trans htp
      cases z
    · cases hcD
  ca := fun X I k => xclass T X I k
end

/-! ### rules -/
theorem exo_inst {P : Program} {w : World} {H : Hp} {h : Heap} {a C d : Addr} {fs : List (Str × V)} (hok : HOk P w H h) (ea : H a = some (exo a C (some d))) (ed : H d = some (exd d fs)) :
    ∃ (ox od : Obj) (mA : Str → Option Value), PySem.W.InstAt h a ox C (some od) ∧ (∀ f, PySem.W.lookIn f od = some (mA f)) ∧ ∀ f, RelO (fs.lookup f) (mA f) := by
  obtain ⟨t1, ha⟩ := exo_at hok ea
  obtain ⟨mA, hn, r⟩ := exd_at hok ed
  obtain ⟨od, ho, hl⟩ := lookIn_ns hn
  exact ⟨_, od, mA, ⟨ha, rfl, rfl, ho⟩, hl, r⟩
/-- e.f, e such an error -/
def tXv (K : PySem.W.Frag) (f : Str) (te : TE) : TE := fun σ H Q => te σ H fun x H1 => ∃ (a C d : Addr) (fs : List (Str × V)) (v : V), x = .ref a ∧ XfC K C ∧ PySem.W.findIn K (.ref C) f = some none ∧ H1 a = some (exo a C (some d)) ∧ H1 d = some (exd d fs) ∧ fs.lookup f = some v ∧ Q v H1
theorem pe_xv {X : Cx} {e : Expr} {te : TE} {pos : Pos} {f : Str} (he : PE X e te) (hb : attributeBase e f X.env (eval e X.env) = eval e X.env) : PE X (.Attribute e f pos) (tXv X.K f te) := by
  refine ⟨fun pins s σ H Q I h => ?_⟩
  refine attr_of hb (thn (he.run pins s σ H _ I h) fun u s1 hh => ?_)
  obtain ⟨x, H1, I1, rx, a, C, d, fs, v, ex, T, hno, ea, ed, l, q⟩ := hh
  subst ex
  obtain rfl : u = Value.ref a := rx
  obtain ⟨ox, od, mA, J, hl, hr⟩ := exo_inst I1.hok ea ed
  obtain ⟨u, hu, ru⟩ := RelO.some_of (v := v) (o := mA f) (by rw [← l]; exact hr f)
  exact HandSPX.exc_get I1.kIn J T.ga T.gg T.exC (PySem.W.findObj_own T.hdC hno rfl (by rw [hl, hu])) (handed_of ru) ⟨v, H1, I1.tok _, ru, q⟩
/-- isinstance(e, c) -/
def rIsX (K : PySem.W.Frag) : List V → Hp → VK → Prop := fun xs H Q => ∃ (a C d : Addr) (fs : List (Str × V)) (c : V) (u : Value) (b : Bool), xs = [.ref a, c] ∧ ClsV c u ∧ ExcC K C ∧ H a = some (exo a C (some d)) ∧ H d = some (exd d fs) ∧ PySem.W.kitOne K (.ref C) u = some b ∧ Q (.bl b) H
theorem call_isX {X : Cx} : CallR X (.builtin "isinstance") (rIsX X.K) := by
  intro pins s σ H xs us Q I r h
  obtain ⟨a, C, d, fs, c, u, b, rfl, k, T, ea, ed, e, q⟩ := h
  obtain ⟨u1, u2, rfl, r1, r2⟩ := vals2 r
  have e2 := k.eq r2
  subst e2
  obtain rfl : u1 = Value.ref a := r1
  obtain ⟨ox, od, mA, J, hl, hr⟩ := exo_inst I.hok ea ed
  exact PySem.W.kia_one (kitx_x T) I.kIn J e (fun z => nomatch z) fun tk => ⟨.bl b, H, I.tok tk, rfl, q⟩

/-! ### C(..): made and held -/
section
variable {X : Cx} {CX : CXT} {k n : Nat} {C fI : Addr} {fd : FuncData} {ps ks : List Str} {sp : Sp} {ds : List Value} {dvs : List V} {x : Str} {p pos : Pos} {e : Expr} {es : List Expr} {kws : List Keyword} {t tk : TA} {g : List Value → List Value → List Value} {gV : List V → List V → List V}
theorem run_mkx {pins : List (Addr × Obj)} {σ : L2.St} {H : Hp} {s : Shared} {Q : VK} {us ws : List Value} {vs zs : List V} (T : OexC X.K C) (iC : PySem.W.findIn X.K (.ref C) "__init__" = some (some (.ref fI))) (tI : PySem.W.typeIn X.K (.ref fI) = some (.type "function"))
    (F1 : FnOk X.prog X.w X.K X.mg X.base CX k fI fd ps sp) (hr : Room (k + 1) X.A) (hb : KBn X.K fd ps (n + 1) ks g gV) (hx : Passes CX X (fun _ _ _ => False)) (I : Inv X pins σ H s) (r : Vals vs us) (rz : Vals zs ws) (l1 : vs.length = n) (l2 : zs.length = ks.length) (hz : n ≤ 1000)
    (h : ∀ a, H a = none → sp (gV (.ref a :: vs) zs) (upd H a (exo a C none)) (fun v H2 => v = .non ∧ Q (.ref a) H2) (fun _ _ _ => False)) :
    wpAny (model X.prog X.w) X.A (call (.ref C) us (ks.zip ws)) (EP X pins σ Q) X.xe s := by
  obtain ⟨nm, q, N, bs, bm, sn, sub, ab, col, dd, k0, k1, k2, k3, k5, hC, hbm⟩ := T.cls
  obtain ⟨hp, gg, dr, tok, os⟩ := s
  have hsz : hp.objs.size ≤ hp.objs.size + 1 := Nat.le_succ _
  have hn : H (hp.objs.size + 1) = none := I.hok.fresh hsz
  have hq := h (hp.objs.size + 1) hn
  have kk : ∀ b o, hp.get? b = some o → ((hp.push (PySem.W.kdv_tup us)).push (PySem.HandSPX.excO C hp.objs.size)).get? b = some o := fun b o e =>
    Heap.get?_push_of_some _ (Heap.get?_push_of_some _ e)
  have hget : ((hp.push (PySem.W.kdv_tup us)).push (PySem.HandSPX.excO C hp.objs.size)).get? (hp.objs.size + 1) = some (PySem.HandSPX.excO C hp.objs.size) := by
    heap_get
  have I2 : Inv X pins σ (upd H (hp.objs.size + 1) (exo (hp.objs.size + 1) C none)) ⟨(hp.push (PySem.W.kdv_tup us)).push (PySem.HandSPX.excO C hp.objs.size), gg, dr, tok, os⟩ :=
    I.laid (t' := tok) (a := hp.objs.size + 1) (o := exo (hp.objs.size + 1) C none) kk hsz (exo_ok hget)
  have r1 : Vals (V.ref (hp.objs.size + 1) :: vs) (Value.ref (hp.objs.size + 1) :: us) := .cons rfl r
  have r2 := hb.rel r1 rz
  have e1 : (Value.ref (hp.objs.size + 1) :: us).length = n + 1 := r1.length.symm.trans (congrArg Nat.succ l1)
  have e2 : ws.length = ks.length := rz.length.symm.trans l2
  have hus : us.length ≤ sizeLine := by
    rw [← r.length, l1, sizeLine_eq]
    omega
  refine wpAny_call (xcall F.excBase_ValueError (fun Y => PySem.HandSPX.refsVE_contains Y bm hbm) (I.kIn _ _ hC) (PySem.W.looks_findIn I.kIn iC) (fun self => PySem.W.bind_fn I.kIn self tI) hus (fun {Q E} z => xck (I.kIn _ _ hC) z)
    (codeAny_mono (F1.run _ X.stack _ _ ⟨Value.ref (hp.objs.size + 1) :: us, ks.zip ws⟩ (g (Value.ref (hp.objs.size + 1) :: us) ws) _ _ (fun _ _ _ => False) (hr.make C us (ks.zip ws)) (I2.env0.make C us (ks.zip ws)) (hb.to _ (Value.ref (hp.objs.size + 1) :: us) ws I2.kIn e1 e2) r2 hq) fun r s' hq' => ?_))
  cases r with
  | error er => exact hx pins σ _ _ er s' I2 hq'
  | ok fl =>
    cases fl with
    | ret u =>
      obtain ⟨v, H', I3, rv, ev, q3⟩ := I2.after hq'
      subst ev
      exact ⟨rv, ⟨V.ref (hp.objs.size + 1), H', I3, rfl, q3⟩⟩
    | next => exact False.elim hq'
    | brk => exact False.elim hq'
    | cont => exact False.elim hq'
def tMkx (C : Addr) (n m : Nat) (sp : Sp) (gV : List V → List V → List V) (t tk : TA) : TE := fun σ H Q => t σ H fun vs H1 => tk σ H1 fun zs H2 => vs.length = n ∧ zs.length = m ∧
  ∀ a, H2 a = none → sp (gV (.ref a :: vs) zs) (upd H2 a (exo a C none)) (fun v H3 => v = .non ∧ Q (.ref a) H3) (fun _ _ _ => False)
def tMkx0 (C : Addr) (n m : Nat) (sp : Sp) (gV : List V → List V → List V) (tk : TA) : TE := fun σ H Q => tk σ H fun zs H2 => ([] : List V).length = n ∧ zs.length = m ∧
  ∀ a, H2 a = none → sp (gV [.ref a] zs) (upd H2 a (exo a C none)) (fun v H3 => v = .non ∧ Q (.ref a) H3) (fun _ _ _ => False)
theorem pe_mkx (T : OexC X.K C) (iC : PySem.W.findIn X.K (.ref C) "__init__" = some (some (.ref fI))) (tI : PySem.W.typeIn X.K (.ref fI) = some (.type "function"))
    (F1 : FnOk X.prog X.w X.K X.mg X.base CX k fI fd ps sp) (hr : Room (k + 1) X.A) (hb : KBn X.K fd ps (n + 1) [] g gV) (hx : Passes CX X (fun _ _ _ => False)) (hg : Gl X x) (hm : X.mg x = some (.ref C)) (hz : n ≤ 1000) (ha : PA X (e :: es) t)
    (hdb : (x == ("__debug__" : Str)) = false) (he : starEach (e :: es) X.env = (false, eval e X.env) :: starEach es X.env) (hpl : (backTo pos (starEach es X.env)).any (·.1) = false) :
    PE X (.Call (.Name x p) (e :: es) [] pos) (fun σ H Q => t σ H fun vs H1 => vs.length = n ∧ ∀ a, H1 a = none → sp (gV (.ref a :: vs) []) (upd H1 a (exo a C none)) (fun v H3 => v = .non ∧ Q (.ref a) H3) (fun _ _ _ => False)) := by
  refine ⟨fun pins s σ H Q I h => ?_⟩
  refine wpAny_Call_Name_kw (ld_glob I hg hm ?_ hdb)
  refine PySem.W.callWith_K (h₀ := X.base) I.ok.mod.kin T.kC (thn (ha.run pos pins s σ H _ I h) fun us s1 ⟨vs, H1, I1, r1, l1, q1⟩ => ⟨I1.kIn, ?_⟩) he hpl
  exact run_mkx (ks := []) (ws := []) (zs := []) T iC tI F1 hr hb hx I1 r1 .nil l1 rfl hz q1
theorem pe_mkx0 (T : OexC X.K C) (iC : PySem.W.findIn X.K (.ref C) "__init__" = some (some (.ref fI))) (tI : PySem.W.typeIn X.K (.ref fI) = some (.type "function"))
    (F1 : FnOk X.prog X.w X.K X.mg X.base CX k fI fd ps sp) (hr : Room (k + 1) X.A) (hb : KBn X.K fd ps (n + 1) ks g gV) (hx : Passes CX X (fun _ _ _ => False)) (hg : Gl X x) (hm : X.mg x = some (.ref C)) (hz : n ≤ 1000) (hkw : PK X kws tk)
    (hall : (backToKw pos (keywordEach kws X.env)).all (·.1.isSome) = true) (hks : (backToKw pos (keywordEach kws X.env)).filterMap (·.1) = ks)
    (hdb : (x == ("__debug__" : Str)) = false) (hpl : ((backTo pos (starEach [] X.env)).any (·.1) || (backToKw pos (keywordEach kws X.env)).any (·.1.isNone)) = false) :
    PE X (.Call (.Name x p) [] kws pos) (tMkx0 C n ks.length sp gV tk) := by
  refine ⟨fun pins s σ H Q I h => ?_⟩
  refine wpAny_Call_Name_kw (ld_glob I hg hm ?_ hdb)
  refine PySem.W.callWith_KW0 (h₀ := X.base) I.ok.mod.kin T.kC hall ?_ hpl
  refine thn (hkw.run pos pins s σ H _ I h) fun ws s2 ⟨zs, H2, I2, rz, l1, l2, q2⟩ => ⟨I2.kIn, ?_⟩
  rw [hks]
  exact run_mkx (us := []) (vs := []) T iC tI F1 hr hb hx I2 .nil rz l1 l2 hz q2
theorem pe_mkxN (T : OexC X.K C) (iC : PySem.W.findIn X.K (.ref C) "__init__" = some (some (.ref fI))) (tI : PySem.W.typeIn X.K (.ref fI) = some (.type "function"))
    (F1 : FnOk X.prog X.w X.K X.mg X.base CX k fI fd ps sp) (hr : Room (k + 1) X.A) (hb : KBn X.K fd ps (n + 1) ks g gV) (hx : Passes CX X (fun _ _ _ => False)) (hg : Gl X x) (hm : X.mg x = some (.ref C)) (hz : n ≤ 1000) (ha : PA X (e :: es) t) (hkw : PK X kws tk)
    (hall : (backToKw pos (keywordEach kws X.env)).all (·.1.isSome) = true) (hks : (backToKw pos (keywordEach kws X.env)).filterMap (·.1) = ks)
    (hdb : (x == ("__debug__" : Str)) = false) (he : starEach (e :: es) X.env = (false, eval e X.env) :: starEach es X.env)
    (hpl : ((backTo pos (starEach (e :: es) X.env)).any (·.1) || (backToKw pos (keywordEach kws X.env)).any (·.1.isNone)) = false) :
    PE X (.Call (.Name x p) (e :: es) kws pos) (tMkx C n ks.length sp gV t tk) := by
  refine ⟨fun pins s σ H Q I h => ?_⟩
  refine wpAny_Call_Name_kw (ld_glob I hg hm ?_ hdb)
  refine PySem.W.callWith_KW (h₀ := X.base) I.ok.mod.kin T.kC hall (thn (ha.run pos pins s σ H _ I h) fun us s1 ⟨vs, H1, I1, r, q⟩ => ?_) hpl he
  refine thn (hkw.run pos pins s1 σ H1 _ I1 q) fun ws s2 ⟨zs, H2, I2, rz, l1, l2, q2⟩ => ⟨I2.kIn, ?_⟩
  rw [hks]
  exact run_mkx T iC tI F1 hr hb hx I2 r rz l1 l2 hz q2
end
end BxX

set_option Elab.async false
set_option linter.all false
set_option maxRecDepth 100000
set_option maxHeartbeats 4000000
/-! Bx, part X2: t[::-1] of a tuple; x is y of none and of bools. -/
namespace BxX
open PySem PySem.Spec PySem.Calls PyProof.Rows L2 HT
theorem rev_adj (n : Nat) : Builtin.Slice.sliceAdjust none none (-1) (n : Int) = ((n : Int) - 1, -1) := by
  first | rfl | simp [Builtin.Slice.sliceAdjust]
theorem rev_places (n : Nat) : Builtin.Slice.slicePlaces ((n : Int) - 1) (-1) (-1) = n := by
  unfold Builtin.Slice.slicePlaces
  rw [if_neg (by decide)]
  by_cases h : (n : Int) - 1 > -1
  · rw [if_pos h, show (- -1 : Int) = 1 by decide, Int.ediv_one]; omega
  · rw [if_neg h]; omega
theorem rev_pick (xs : Array Value) : ((List.range xs.size).filterMap fun (k : Nat) => xs[((xs.size : Int) - 1 + (k : Int) * (-1)).toNat]?).toArray = xs.toList.reverse.toArray := by
  have e1 : ((List.range xs.size).filterMap fun (k : Nat) => xs[((xs.size : Int) - 1 + (k : Int) * (-1)).toNat]?) = ((List.range xs.size).map fun k => xs.size - 1 - k).filterMap (xs[·]?) := by
    rw [List.filterMap_map]
    congr 1
    funext k
    have : ((xs.size : Int) - 1 + (k : Int) * (-1)).toNat = xs.size - 1 - k := by omega
    rw [this]
    rfl
  rw [e1, PySem.W.krv_range, List.filterMap_reverse, PySem.W.krv_all]
section
variable {prog : Program} {w : World} {A : Around} {E : Value → Shared → Prop} {s : Shared}
theorem rev_sl {sl : Addr} {n : Nat} {u : Tok} {Q : Int × Int × Nat → Shared → Prop} (hs : s.heap.IsSliceOf sl .none .none (.int (-1) u)) (h : Q ((n : Int) - 1, -1, n) s) :
    wpAny (model prog w) A (Builtin.Slice.sliceApplied (.ref sl) (pure (n : Int))) Q E s := by
  obtain ⟨os, h1, h2, h3⟩ := id hs
  unfold Builtin.Slice.sliceApplied Builtin.Slice.sliceFields
  refine wpAny_bind (wpAny_bind (wpAny_field h1 h3 (x := .none) rfl (wpAny_bind (wpAny_field h1 h3 (x := .none) rfl (wpAny_bind (wpAny_field h1 h3 (x := .int (-1) u) rfl (wpAny_pure ?_)))))))
  refine wpAny_bind (slicePart_int ?_)
  show wpAny _ _ (if ((-1 : Int) == 0) = true then _ else _) _ _ s
  rw [if_neg (by decide)]
  refine wpAny_bind (slicePart_none (wpAny_bind (slicePart_none (wpAny_bind (wpAny_pure ?_)))))
  show wpAny _ _ (match Builtin.Slice.sliceAdjust none none (-1) (n : Int) with | (lo, hi) => pure (lo, (-1 : Int), Builtin.Slice.slicePlaces lo hi (-1))) _ _ s
  rw [rev_adj n]
  show wpAny _ _ (pure ((n : Int) - 1, (-1 : Int), Builtin.Slice.slicePlaces ((n : Int) - 1) (-1) (-1))) _ _ s
  rw [rev_places]
  exact wpAny_pure h
theorem rev_get {t sl : Addr} {items : Array Value} {u : Tok} {Q : Value → Shared → Prop} (ht : IsTup s.heap t items) (hs : s.heap.IsSliceOf sl .none .none (.int (-1) u))
    (h : Q (.ref s.heap.objs.size) { s with heap := s.heap.push { cls := .type "tuple", data := .seq items.toList.reverse.toArray } })
    (hz : items.size ≤ sizeLine) : wpAny (model prog w) A (getItem (.ref t) (.ref sl)) Q E s := by
  have hk : sizeOk (.seq items.toList.reverse.toArray) := by
    show items.toList.reverse.toArray.size ≤ sizeLine
    rw [List.size_toArray, List.length_reverse, Array.length_toList]
    exact hz
  obtain ⟨os, h1, h2, h3⟩ := id hs
  have hT : s.TypeIs (.ref sl) "slice" := ⟨os, h1, h2⟩
  unfold getItem
  try with_reducible refine wpAny_holding ?_
  first
    | refine wpAny_bind (wpAny_pure ?_)
    | skip
  refine wpAny_bind (wpAny_sequenceKey ht.typeIs (by decide) ?_)
  refine wpAny_bind (wpAny_callSpecial?_slot (name := Str.ofString "__getitem__") ht.typeIs PyProof.Rows.slot_tuple_getitem (wpAny_call_entry PyProof.Rows.slot_tuple_getitem ht.typeIs entry_tuple_getitem ?_ (args_tuple_getitem _ _)))
  show wpAny _ _ (Builtin.Tuple.tupleItemsOf (.ref t) >>= _) _ _ s
  refine wpAny_bind (tupleItemsOf_ ht (wpAny_bind (wpAny_typeOf hT ?_)))
  rw [if_pos (by decide)]
  refine wpAny_bind (rev_sl hs ?_)
  have no : ¬ ((((items.size : Int) - 1) == 0 && (-1 : Int) == 1 && items.size == items.size) = true) := by
    intro q
    rw [Bool.and_eq_true, Bool.and_eq_true] at q
    exact absurd q.1.2 (by decide)
  show wpAny _ _ (if (((items.size : Int) - 1) == 0 && (-1 : Int) == 1 && items.size == items.size) = true then _ else _) _ _ s
  rw [if_neg no, rev_pick]
  first
    | exact wpAny_bind (m := Builtin.Tuple.tupleExact _) (wpAny_newObj_type (wpAny_pure ⟨_, rfl, wpAny_pure h⟩) hk)
    | exact wpAny_bind (m := Builtin.Tuple.tupleExact _) (wpAny_newObj_type (wpAny_bind (wpAny_pure (wpAny_pure ⟨_, rfl, wpAny_pure h⟩))) hk)
    | exact wpAny_bind (wpAny_bind (m := Builtin.Tuple.tupleExact _) (wpAny_newObj_type (wpAny_pure (wpAny_pure ⟨_, rfl, wpAny_pure h⟩)) hk))
    | exact wpAny_bind (wpAny_bind (m := Builtin.Tuple.tupleExact _) (wpAny_newObj_type (wpAny_pure ⟨_, rfl, wpAny_pure h⟩) hk))
end
def tRevT (K : PySem.W.Frag) (te : TE) : TE := fun σ H Q => te σ H fun x H1 => ∃ a xs, x = .ref a ∧ ((SqL K H1 a xs ∧ ∀ p, H1 p = none → Q (.ref p) (upd H1 p (.lst xs.reverse))) ∨ (SqT K H1 a xs ∧ ∀ p, H1 p = none → Q (.ref p) (upd H1 p (.tup xs.reverse))))
theorem pe_revA {X : Cx} {e : Expr} {te : TE} {k : Nat} {p1 p2 p3 pos : Pos} (he : PE X e te) : PE X (.Subscript e (.Slice none none (some (.UnaryOp .USub (.Constant (.int 1) k p1) p2)) p3) pos) (tRevT X.K te) := by
  refine ⟨fun pins s σ H Q I h => ?_⟩
  refine Subscript_ (thn (he.run pins s σ H _ I h) fun v s1 ⟨x, H1, I1, r1, q1⟩ => ?_)
  obtain ⟨a, xs, ex, q⟩ := q1
  subst ex
  cases r1
  have hst : PO X (some (.UnaryOp .USub (.Constant (.int 1) k p1) p2)) (tPart (tUn (rU fun i => .int (-i)) (tC (.int 1)))) := po_some (pe_un un_neg pe_int)
  refine wpAny_Slice (thn (po_none.run pins s1 σ H1 (fun o H2 => o = none ∧ H2 = H1) I1 ⟨rfl, rfl⟩) fun vl s2 ⟨l, H2, I2, pl, el, e2⟩ => ?_)
  subst el e2
  refine thn (po_none.run pins s2 σ H2 (fun o H3 => o = none ∧ H3 = H2) I2 ⟨rfl, rfl⟩) fun vu s3 ⟨u, H3, I3, pu, eu, e3⟩ => ?_
  subst eu e3
  refine thn (hst.run pins s3 σ H3 (fun o H4 => o = some (-1) ∧ H4 = H3) I3 ⟨1, rfl, -1, rfl, rfl, rfl⟩) fun vs s4 ⟨o, H4, I4, ps, eo, e4⟩ => ?_
  subst eo e4
  have I5 : Inv X pins σ H4 { s4 with heap := s4.heap.push { cls := .type "slice", data := .fields #[vl, vu, vs] } } := I4.kept (t' := s4.toks) fun b ob q => Heap.get?_push_of_some _ q
  show wpAny (model X.prog X.w) X.A (subscriptTail e (.Slice none none (some (.UnaryOp .USub (.Constant (.int 1) k p1) p2)) p3) (.ref a) (.ref s4.heap.objs.size)) (EP X pins σ Q) X.xe { s4 with heap := s4.heap.push { cls := .type "slice", data := .fields #[vl, vu, vs] } }
  rcases q with ⟨hx, q⟩ | ⟨hx, q⟩
  · obtain ⟨its, r, ht, hz⟩ := I5.list hx
    have hlen := r.length
    refine tail_any (ops := [.ref a, .ref s4.heap.objs.size]) ht.isList.typeIs (PySem.slot_list_getitem.lookup) ?_ (by with_unfolding_all rfl)
    refine wpAny_getItem_list_slice ht.isList (Heap.IsSliceOf.new _ vl vu vs) pl pu ps (by decide) ?_ (by rw [List.size_toArray]; omega)
    rw [PySem.W.krv_pick]
    refine ⟨.ref _, _, I5.laid (t' := s4.toks) (o := .lst xs.reverse) (fun b ob q => Heap.get?_push_of_some _ q) (Nat.le_refl _) ?_, rfl, q _ (I5.hok.fresh (Nat.le_refl _))⟩
    exact ⟨by rw [List.length_reverse]; exact hz, _, 0, r.reverse, Heap.get?_push_size _ rfl⟩
  · obtain ⟨its, r, ht, hz⟩ := I5.tuple hx
    have hlen := r.length
    cases pl
    cases pu
    cases ps with
    | int i t =>
      refine tail_any (ops := [.ref a, .ref s4.heap.objs.size]) ht.typeIs (PyProof.Rows.slot_tuple_getitem.lookup) ?_ (by with_unfolding_all rfl)
      refine rev_get ht (Heap.IsSliceOf.new _ _ _ _) ?_ (by rw [List.size_toArray]; omega)
      refine ⟨.ref _, _, I5.laid (t' := s4.toks) (o := .tup xs.reverse) (fun b ob q => Heap.get?_push_of_some _ q) (Nat.le_refl _) ?_, rfl, q _ (I5.hok.fresh (Nat.le_refl _))⟩
      exact ⟨by rw [List.length_reverse]; exact hz, its.reverse, r.reverse, _, Heap.get?_push_size _ rfl, rfl, _, rfl⟩
/-- is -/
def rIsNB (f : Bool → Bool) : R2 := fun x y H Q => (y = .non ∧ Q (.bl (f (decide (x = .non)))) H) ∨ ∃ a b, x = .bl a ∧ y = .bl b ∧ Q (.bl (f (a == b))) H
theorem op_isNB {X : Cx} : OpR X (compareOp .Is) (rIsNB id) := by
  intro pins s σ H x y v u Q I rx ry h
  rcases h with h | ⟨a, b, rfl, rfl, q⟩
  · exact op_isN pins s σ H x y v u Q I rx ry h
  · cases rx
    cases ry
    exact PyProof.Rows.is_bool (fin_bl I q rfl)
theorem op_notNB {X : Cx} : OpR X (compareOp .IsNot) (rIsNB fun b => !b) := by
  intro pins s σ H x y v u Q I rx ry h
  rcases h with h | ⟨a, b, rfl, rfl, q⟩
  · exact op_notN pins s σ H x y v u Q I rx ry h
  · cases rx
    cases ry
    exact PyProof.Rows.isnot_bool (fin_bl I q rfl)
end BxX

set_option Elab.async false
set_option linter.all false
set_option maxRecDepth 100000
set_option maxHeartbeats 4000000
/-! Bx, part B: a small language of expressions and statements; what each is to show (weakest preconditions). -/
namespace Bx
open PySem PySem.Spec L2

abbrev Spec := List D → Mp → KE → KX → Prop

inductive Tg where
  | nm (i : Nat)
  | tp (is : List Nat)

mutual
inductive Ex where
  | var (i : Nat) | ci (i : Int) | cb (b : Bool) | cn | cs (x : Str)
  | bin (fz : Bool) (op : Operator) (a b : Ex)
  | un (op : UnaryOp) (a : Ex)
  | no (a : Ex)
  | an (es : Exs) | or (es : Exs)
  | cmp (op : CmpOp) (a b : Ex)
  | ch (o1 o2 : CmpOp) (a b c : Ex)
  | ife (c a b : Ex)
  | tup (es : Exs) | lst (fz : Bool) (es : Exs)
  | ix (a i : Ex)
  | sl (fz : Bool) (a lo hi : Ex)
  | rev (fz : Bool) (a : Ex)
  | call (g : Nat) (es : Exs)
  | callk (g : Nat) (es : Exs) (ks : List Str) (kes : Exs)
  | blt (fz : Bool) (f : Str) (es : Exs)
  | mth (m : Str) (o : Ex) (es : Exs)
  | lc (fz : Bool) (own : List Nat) (tg : Tg) (it : Itx) (cs : Exs) (elt : Ex)
  | ixc (g : Nat) (e : Ex)
  | inc (neg : Bool) (g : Nat) (e : Ex)
  | isi (e : Ex) (cs : List String)
  | lrg (fz : Bool) (a b : Ex)
  | fld (e : Ex) (f : Str)
  | isx (e : Ex) (g : Nat)
inductive Exs where
  | nil | cons (e : Ex) (es : Exs)
inductive Itx where
  | r1 (a : Ex) | r2 (a b : Ex) | ov (e : Ex) | en (e : Ex) | zp (a b : Ex)
end

mutual
inductive Sx where
  | skip
  | set (i : Nat) (e : Ex)
  | unp (tg : Tg) (e : Ex)
  | par (i j : Nat) (a b : Ex)
  | aug (i : Nat) (op : Operator) (e : Ex)
  | sto (o i e : Ex)
  | stg (op : Operator) (o i e : Ex)
  | ex (e : Ex) | ret (e : Ex) | retn
  | ite (c : Ex) (a b : Sxs)
  | for (tg : Tg) (it : Itx) (b : Sxs)
  | whl (c : Ex) (b : Sxs)
  | brk | cnt
  | rais (g : Nat) (es : Exs)
  | nev
  | thru (b : Sxs)
inductive Sxs where
  | nil | cons (s : Sx) (r : Sxs)
end

/-! ### data -/
def big : Nat := 16777216
def O.xs : O → List D
  | .lst xs => xs
def itemsOf (M : Mp) : D → Option (List D)
  | .tup xs => some xs
  | .rl xs => some xs
  | .wl xs => some xs
  | .obj a => (M a).map O.xs
  | _ => none
/-- lists that the hand layer tracks as such -/
def lstOf (M : Mp) : D → Option (List D)
  | .rl xs => some xs
  | .obj a => (M a).map O.xs
  | _ => none
def newL (fz : Bool) (xs : List D) (M : Mp) (Q : KE) : Prop :=
  xs.length ≤ big ∧ match fz with
    | true => Q (.rl xs) M
    | false => ∀ p, M p = none → Q (.obj p) (put M p (.lst xs))
def D.isNon : D → Bool
  | .non => true
  | _ => false
def tyName (M : Mp) : D → Option String
  | .non => some "NoneType"
  | .bl _ => some "bool"
  | .int _ => some "int"
  | .str _ => some "str"
  | .tup _ => some "tuple"
  | .rl _ => some "list"
  | .wl _ => some "list"
  | .exc _ _ _ => none
  | .obj a => match M a with
    | some (.lst _) => some "list"
    | none => none
/-- isinstance for built-in classes -/
def isTy (t c : String) : Option Bool := if t = c then some true else kitB t c
def isAny (t : String) : List String → Option Bool
  | [] => some false
  | c :: cs => match kitB t c with
    | some true => some true
    | some false => isAny t cs
    | none => none
inductive Py (M : Mp) : D → PyData → Prop
  | non : Py M .non .none
  | bl (b : Bool) : Py M (.bl b) (.bool b)
  | int (i : Int) : Py M (.int i) (.int i)
  | str (x : Str) : Py M (.str x) (.str x)
  | tup {xs : List D} {ds : List PyData} : Paired (Py M) xs ds → Py M (.tup xs) (.tuple ds)
  | rl {xs : List D} {ds : List PyData} : Paired (Py M) xs ds → Py M (.rl xs) (.list ds)
  | wl {xs : List D} {ds : List PyData} : Paired (Py M) xs ds → Py M (.wl xs) (.list ds)
  | obj {a : Addr} {xs : List D} {ds : List PyData} : M a = some (.lst xs) → Paired (Py M) xs ds → Py M (.obj a) (.list ds)
def D.flat : D → Bool
  | .non | .bl _ | .int _ | .str _ => true
  | _ => false
def D.eqf : D → D → Bool
  | .non, .non => true
  | .bl a, .bl b => a == b
  | .bl a, .int b => (if a then 1 else 0) == b
  | .int a, .bl b => a == (if b then 1 else 0)
  | .int a, .int b => a == b
  | .str a, .str b => a == b
  | _, _ => false

def truth (M : Mp) : D → Option Bool
  | .non => some false
  | .bl b => some b
  | .int i => some (i != 0)
  | .str _ => none
  | d => (itemsOf M d).map fun xs => !xs.isEmpty

/-! ### operators -/
def addW (fz : Bool) (x y : D) (M : Mp) (Q : KE) : Prop := match x, y with
  | .int i, .int j => Q (.int (i + j)) M
  | .tup xs, .tup ys => xs.length + ys.length ≤ big ∧ Q (.tup (xs ++ ys)) M
  | .str i, .str j => i.length + j.length ≤ big ∧ Q (.str (i ++ j)) M
  | x, y => ∃ xs ys, lstOf M x = some xs ∧ lstOf M y = some ys ∧ newL fz (xs ++ ys) M Q
def mulW (fz : Bool) (x y : D) (M : Mp) (Q : KE) : Prop := match x, y with
  | .int i, .int j => CMul i j ∧ Q (.int (i * j)) M
  | x, .int k => ∃ xs, lstOf M x = some xs ∧ -(2 ^ 63) ≤ k ∧ k < 2 ^ 63 ∧ newL fz (List.replicate k.toNat xs).flatten M Q
  | _, _ => False
def intW (C : Int → Int → Prop) (g : Int → Int → Int) (x y : D) (M : Mp) (Q : KE) : Prop := match x, y with
  | .int i, .int j => C i j ∧ Q (.int (g i j)) M
  | _, _ => False
def CNo (_ _ : Int) : Prop := True
def CPos (_ j : Int) : Prop := 0 < j
def CNN (_ j : Int) : Prop := 0 ≤ j
def binW (fz : Bool) (op : Operator) (x y : D) (M : Mp) (Q : KE) : Prop := match op with
  | .Add => addW fz x y M Q
  | .Mult => mulW fz x y M Q
  | .Sub => intW CNo (fun i j => i - j) x y M Q
  | .FloorDiv => intW CDiv (fun i j => i / j) x y M Q
  | .Mod => intW CPos (fun i j => i % j) x y M Q
  | .LShift => intW CPow (fun i j => i * 2 ^ j.toNat) x y M Q
  | .RShift => intW CNN (fun i j => i / 2 ^ j.toNat) x y M Q
  | .BitAnd => intW CNo (fun i j => Builtin.bitAnd i j) x y M Q
  | .BitOr => intW CNo (fun i j => Builtin.bitOr i j) x y M Q
  | .BitXor => intW CNo (fun i j => Builtin.bitXor i j) x y M Q
  | .Pow => intW CPow (fun i j => i ^ j.toNat) x y M Q
  | _ => False
def unW (op : UnaryOp) (x : D) (M : Mp) (Q : KE) : Prop := match op, x with
  | .USub, .int i => Q (.int (-i)) M
  | .Invert, .int i => Q (.int (Builtin.bitNot i)) M
  | _, _ => False
def eqW (x y : D) (M : Mp) (R : Bool → Prop) : Prop := match x, y with
  | .int i, .int j => R (decide (i = j))
  | x, y => ∃ d e, Py M x d ∧ Py M y e ∧ SeqAt.shaped d = true ∧ SeqAt.shaped e = true ∧ R (PyData.eqv d e)
def inW (x y : D) (M : Mp) (R : Bool → Prop) : Prop := ∃ xs, itemsOf M y = some xs ∧ x.flat = true ∧ xs.all D.flat = true ∧ R (xs.any fun z => D.eqf z x)
def ordW (p : Int → Int → Bool) (x y : D) (R : Bool → Prop) : Prop := match x, y with
  | .int i, .int j => R (p i j)
  | _, _ => False
def isW (x y : D) (R : Bool → Prop) : Prop := match y with
  | .non => R x.isNon
  | .bl b => (match x with
    | .bl c => R (c == b)
    | _ => False)
  | _ => False
def cmpW (op : CmpOp) (x y : D) (M : Mp) (R : Bool → Prop) : Prop := match op with
  | .Eq => eqW x y M R
  | .NotEq => eqW x y M fun b => R (!b)
  | .Lt => ordW (fun i j => decide (i < j)) x y R
  | .LtE => ordW (fun i j => decide (i ≤ j)) x y R
  | .Gt => ordW (fun i j => decide (j < i)) x y R
  | .GtE => ordW (fun i j => decide (j ≤ i)) x y R
  | .Is => isW x y R
  | .IsNot => isW x y fun b => R (!b)
  | .In => inW x y M R
  | .NotIn => inW x y M fun b => R (!b)
def ixW (x y : D) (M : Mp) (Q : KE) : Prop := match y with
  | .int i => ∃ xs d, itemsOf M x = some xs ∧ atI xs i = some d ∧ Q d M
  | _ => False
def cutD (xs : List D) (lo hi : Option Int) : List D := (xs.drop (HT.sIx xs.length 0 lo)).take (HT.sIx xs.length xs.length hi - HT.sIx xs.length 0 lo)
def slW (fz : Bool) (x : D) (lo hi : Option Int) (M : Mp) (Q : KE) : Prop := match x with
  | .tup xs => Q (.tup (cutD xs lo hi)) M
  | x => ∃ xs, itemsOf M x = some xs ∧ newL fz (cutD xs lo hi) M Q
def revW (fz : Bool) (x : D) (M : Mp) (Q : KE) : Prop := match x with
  | .tup xs => Q (.tup xs.reverse) M
  | x => ∃ xs, itemsOf M x = some xs ∧ newL fz xs.reverse M Q

def lenW (ds : List D) (M : Mp) (Q : KE) : Prop := match ds with
  | [x] => ∃ xs, itemsOf M x = some xs ∧ Q (.int xs.length) M
  | _ => False
def int1W (ds : List D) (M : Mp) (Q : KE) : Prop := match ds with
  | [.int i] => Q (.int i) M
  | [.bl b] => Q (.int (if b then 1 else 0)) M
  | _ => False
def absW (ds : List D) (M : Mp) (Q : KE) : Prop := match ds with
  | [.int i] => Q (.int (if i < 0 then -i else i)) M
  | _ => False
def minW (ds : List D) (M : Mp) (Q : KE) : Prop := match ds with
  | [.int i, .int j] => Q (.int (if j < i then j else i)) M
  | [x] => ∃ ns : List Int, (itemsOf M x = some (ns.map D.int) ∧ ∀ xs, x ≠ .tup xs) ∧ 0 < ns.length ∧ ∀ m, m ∈ ns → (∀ y, y ∈ ns → m ≤ y) → Q (.int m) M
  | _ => False
def maxW (ds : List D) (M : Mp) (Q : KE) : Prop := match ds with
  | [.int i, .int j] => Q (.int (if j > i then j else i)) M
  | [x] => ∃ ns : List Int, (itemsOf M x = some (ns.map D.int) ∧ ∀ xs, x ≠ .tup xs) ∧ 0 < ns.length ∧ ∀ m, m ∈ ns → (∀ y, y ∈ ns → y ≤ m) → Q (.int m) M
  | _ => False
def sumW (ds : List D) (M : Mp) (Q : KE) : Prop := match ds with
  | [x] => ∃ ns : List Int, (itemsOf M x = some (ns.map D.int) ∧ ∀ xs, x ≠ .tup xs) ∧ Q (.int ns.sum) M
  | _ => False
def tupleW (ds : List D) (M : Mp) (Q : KE) : Prop := match ds with
  | [x] => ∃ xs, itemsOf M x = some xs ∧ Q (.tup xs) M
  | _ => False
def listW (fz : Bool) (ds : List D) (M : Mp) (Q : KE) : Prop := match ds with
  | [x] => ∃ xs, itemsOf M x = some xs ∧ newL fz xs M Q
  | _ => False
/-- built-in functions and types by name -/
def bltW (fz : Bool) (f : Str) (ds : List D) (M : Mp) (Q : KE) : Prop :=
  if f = "len" then lenW ds M Q
  else if f = "int" then int1W ds M Q
  else if f = "abs" then absW ds M Q
  else if f = "min" then minW ds M Q
  else if f = "max" then maxW ds M Q
  else if f = "sum" then sumW ds M Q
  else if f = "tuple" then tupleW ds M Q
  else if f = "list" then listW fz ds M Q
  else False
/-- x op= y of ints -/
def augW (op : Operator) (x y : D) (M : Mp) (Q : KE) : Prop := match x, y with
  | .int i, .int j => (match op with
    | .Add => Q (.int (i + j)) M
    | .Sub => Q (.int (i - j)) M
    | .Mult => CMul i j ∧ Q (.int (i * j)) M
    | .FloorDiv => CDiv i j ∧ Q (.int (i / j)) M
    | .Mod => 0 < j ∧ Q (.int (i % j)) M
    | .LShift => CPow i j ∧ Q (.int (i * 2 ^ j.toNat)) M
    | .RShift => 0 ≤ j ∧ Q (.int (i / 2 ^ j.toNat)) M
    | .BitAnd => Q (.int (Builtin.bitAnd i j)) M
    | .BitOr => Q (.int (Builtin.bitOr i j)) M
    | .BitXor => Q (.int (Builtin.bitXor i j)) M
    | _ => False)
  | _, _ => False
/-- methods of lists of ours -/
def mthW (m : Str) (x : D) (ds : List D) (M : Mp) (Q : KE) : Prop := match x with
  | .obj a => ∃ xs, M a = some (.lst xs) ∧
    (if m = "append" then (match ds with
      | [d] => xs.length < big ∧ Q .non (put M a (.lst (xs ++ [d])))
      | _ => False)
    else if m = "pop" then (match ds with
      | [] => ∃ d, xs[xs.length - 1]? = some d ∧ Q d (put M a (.lst xs.dropLast))
      | _ => False)
    else False)
  | _ => False
def ownL (M : Mp) (x : D) : Prop := match x with
  | .obj a => ∃ xs, M a = some (.lst xs)
  | _ => False
def stoW (x y d : D) (M : Mp) (R : Mp → Prop) : Prop := match x, y with
  | .obj a, .int i => ∃ xs j, M a = some (.lst xs) ∧ ixN xs.length i = some j ∧ R (put M a (.lst (xs.set j d)))
  | _, _ => False
/-- o[i], o a list of ours, the index from 0 on -/
def getW (x y : D) (M : Mp) (Q : KE) : Prop := match x, y with
  | .obj a, .int i => ∃ xs d, M a = some (.lst xs) ∧ 0 ≤ i ∧ xs[i.toNat]? = some d ∧ Q d M
  | _, _ => False
/-- targets -/
def setAll (μ : Sl) : List Nat → List D → Option Sl
  | [], [] => some μ
  | i :: is, d :: ds => setAll (μ.set i (some d)) is ds
  | _, _ => none
def tgW (tg : Tg) (d : D) (μ : Sl) (R : Sl → Prop) : Prop := match tg with
  | .nm i => R (μ.set i (some d))
  | .tp is => match d with
    | .tup ds => ∃ μ', setAll μ is ds = some μ' ∧ R μ'
    | _ => False

def lrgW (fz : Bool) (x y : D) (M : Mp) (Q : KE) : Prop := match x, y with
  | .int i, .int j => -1000000 ≤ i ∧ i ≤ 1000000 ∧ j ≤ 1000000 ∧ -1000000 ≤ j ∧ newL fz ((List.range (j - i).toNat).map fun k => D.int (i + (k : Nat))) M Q
  | _, _ => False
/-- a field of an own error -/
def fldW (f : Str) (x : D) (M : Mp) (Q : KE) : Prop := match x with
  | .exc _ ns xs => ∃ d, (ns.zip xs).lookup f = some d ∧ Q d M
  | _ => False
def isxW (s : Addr → Nat → Option Bool) (g : Nat) (x : D) (R : Bool → Prop) : Prop := match x with
  | .exc C _ _ => ∃ b, s C g = some b ∧ R b
  | _ => False
/-- a module constant as data; a table of the module: keys, values; whether instances of the class at C are such of class number g -/
structure Gm where
  call : Nat → Spec
  tab : Nat → List (Int × D)
  sub : Addr → Nat → Option Bool := fun _ _ => none

def isCn : Ex → Bool
  | .cn => true
  | _ => false
/-- a part of a slice -/
def partW (e : Ex) (w : Sl → Mp → KE → KX → Prop) (μ : Sl) (M : Mp) (Q : Option Int → Mp → Prop) (E : KX) : Prop := match isCn e with
  | true => Q none M
  | false => w μ M (fun x M1 => match x with
      | .int i => Q (some i) M1
      | _ => False) E
section
variable (Γ : Gm)
mutual
def wpE : Ex → Sl → Mp → KE → KX → Prop
  | .var i, μ, M, Q, _ => ∃ d, μ[i]? = some (some d) ∧ Q d M
  | .ci i, _, M, Q, _ => Q (.int i) M
  | .cb b, _, M, Q, _ => Q (.bl b) M
  | .cn, _, M, Q, _ => Q .non M
  | .cs x, _, M, Q, _ => Q (.str x) M
  | .bin fz op a b, μ, M, Q, E => wpE a μ M (fun x M1 => wpE b μ M1 (fun y M2 => binW fz op x y M2 Q) E) E
  | .un op a, μ, M, Q, E => wpE a μ M (fun x M1 => unW op x M1 Q) E
  | .no a, μ, M, Q, E => wpE a μ M (fun x M1 => match x with
      | .bl b => Q (.bl (!b)) M1
      | _ => False) E
  | .an es, μ, M, Q, E => wpAnE es μ M Q E
  | .or es, μ, M, Q, E => wpOrE es μ M Q E
  | .cmp op a b, μ, M, Q, E => wpE a μ M (fun x M1 => wpE b μ M1 (fun y M2 => cmpW op x y M2 fun r => Q (.bl r) M2) E) E
  | .ch o1 o2 a b c, μ, M, Q, E => wpE a μ M (fun x M1 => wpE b μ M1 (fun y M2 => cmpW o1 x y M2 fun r =>
      match r with
      | true => wpE c μ M2 (fun z M3 => cmpW o2 y z M3 fun r => Q (.bl r) M3) E
      | false => Q (.bl false) M2) E) E
  | .ife c a b, μ, M, Q, E => wpT c μ M (fun r M1 => match r with
      | true => wpE a μ M1 Q E
      | false => wpE b μ M1 Q E) E
  | .tup es, μ, M, Q, E => wpA es μ M (fun ds M1 => ds.length ≤ big ∧ Q (.tup ds) M1) E
  | .lst fz es, μ, M, Q, E => wpA es μ M (fun ds M1 => newL fz ds M1 Q) E
  | .ix a i, μ, M, Q, E => wpE a μ M (fun x M1 => wpE i μ M1 (fun y M2 => ixW x y M2 Q) E) E
  | .sl fz a lo hi, μ, M, Q, E => wpE a μ M (fun x M1 => partW lo (wpE lo) μ M1 (fun l M2 => partW hi (wpE hi) μ M2 (fun h M3 => slW fz x l h M3 Q) E) E) E
  | .rev fz a, μ, M, Q, E => wpE a μ M (fun x M1 => revW fz x M1 Q) E
  | .call g es, μ, M, Q, E => wpA es μ M (fun ds M1 => Γ.call g ds M1 Q E) E
  | .callk g es ks kes, μ, M, Q, E => wpA es μ M (fun ds M1 => wpA kes μ M1 (fun zs M2 => zs.length = ks.length ∧ Γ.call g (ds ++ zs) M2 Q E) E) E
  | .blt fz f es, μ, M, Q, E => wpA es μ M (fun ds M1 => bltW fz f ds M1 Q) E
  | .mth m o es, μ, M, Q, E => wpE o μ M (fun x M1 => ownL M1 x ∧ wpA es μ M1 (fun ds M2 => mthW m x ds M2 Q) E) E
  | .lc fz own tg it cs elt, μ, M, Q, E => wpI it μ M (fun ds gd M1 =>
      ∃ I : Nat → List D → Mp → Prop, I 0 [] M1 ∧ ∀ i acc M2, i ≤ ds.length → I i acc M2 → gd M2 ∧ match ds[i]? with
        | some d => tgW tg d (wipeD μ own) fun μ' => wpC cs μ' M2 (fun r M3 => match r with
            | true => wpE elt μ' M3 (fun y M4 => acc.length < big ∧ I (i + 1) (acc ++ [y]) M4) (fun _ _ _ => False)
            | false => I (i + 1) acc M3) (fun _ _ _ => False)
        | none => newL fz acc M2 Q) E
  | .ixc g e, μ, M, Q, E => wpE e μ M (fun x M1 => match x with
      | .int i => ∃ d, (Γ.tab g).lookup i = some d ∧ Q d M1
      | _ => False) E
  | .inc neg g e, μ, M, Q, E => wpE e μ M (fun x M1 => match x with
      | .int i => Q (.bl (neg != ((Γ.tab g).lookup i).isSome)) M1
      | _ => False) E
  | .isi e cs, μ, M, Q, E => wpE e μ M (fun x M1 => ∃ t b, tyName M1 x = some t ∧ isAny t cs = some b ∧ Q (.bl b) M1) E
  | .lrg fz a b, μ, M, Q, E => wpE a μ M (fun x M1 => wpE b μ M1 (fun y M2 => lrgW fz x y M2 Q) E) E
  | .fld e f, μ, M, Q, E => wpE e μ M (fun x M1 => fldW f x M1 Q) E
  | .isx e g, μ, M, Q, E => wpE e μ M (fun x M1 => isxW Γ.sub g x fun b => Q (.bl b) M1) E
termination_by structural x => x
/-- an expression as a test -/
def wpT : Ex → Sl → Mp → (Bool → Mp → Prop) → KX → Prop
  | .no a, μ, M, Q, E => wpT a μ M (fun b M1 => Q (!b) M1) E
  | .an es, μ, M, Q, E => wpAnT es μ M Q E
  | .or es, μ, M, Q, E => wpOrT es μ M Q E
  | .var i, μ, M, Q, _ => ∃ d b, μ[i]? = some (some d) ∧ truth M d = some b ∧ Q b M
  | .cmp op a b, μ, M, Q, E => wpE a μ M (fun x M1 => wpE b μ M1 (fun y M2 => cmpW op x y M2 fun r => Q r M2) E) E
  | .ch o1 o2 a b c, μ, M, Q, E => wpE a μ M (fun x M1 => wpE b μ M1 (fun y M2 => cmpW o1 x y M2 fun r =>
      match r with
      | true => wpE c μ M2 (fun z M3 => cmpW o2 y z M3 fun r => Q r M3) E
      | false => Q false M2) E) E
  | .call g es, μ, M, Q, E => wpA es μ M (fun ds M1 => Γ.call g ds M1 (fun d M2 => ∃ b, truth M2 d = some b ∧ Q b M2) E) E
  | .callk g es ks kes, μ, M, Q, E => wpA es μ M (fun ds M1 => wpA kes μ M1 (fun zs M2 => zs.length = ks.length ∧ Γ.call g (ds ++ zs) M2 (fun d M3 => ∃ b, truth M3 d = some b ∧ Q b M3) E) E) E
  | .blt fz f es, μ, M, Q, E => wpA es μ M (fun ds M1 => bltW fz f ds M1 (fun d M2 => ∃ b, truth M2 d = some b ∧ Q b M2)) E
  | .ix a i, μ, M, Q, E => wpE a μ M (fun x M1 => wpE i μ M1 (fun y M2 => ixW x y M2 (fun d M2 => ∃ b, truth M2 d = some b ∧ Q b M2)) E) E
  | .inc neg g e, μ, M, Q, E => wpE e μ M (fun x M1 => match x with
      | .int i => Q (neg != ((Γ.tab g).lookup i).isSome) M1
      | _ => False) E
  | .isi e cs, μ, M, Q, E => wpE e μ M (fun x M1 => ∃ t b, tyName M1 x = some t ∧ isAny t cs = some b ∧ Q b M1) E
  | .isx e g, μ, M, Q, E => wpE e μ M (fun x M1 => isxW Γ.sub g x fun b => Q b M1) E
  | _, _, _, _, _ => False
termination_by structural x => x
def wpA : Exs → Sl → Mp → (List D → Mp → Prop) → KX → Prop
  | .nil, _, M, Q, _ => Q [] M
  | .cons e es, μ, M, Q, E => wpE e μ M (fun x M1 => wpA es μ M1 (fun ys M2 => Q (x :: ys) M2) E) E
/-- and: all but the last are bools -/
def wpAnE : Exs → Sl → Mp → KE → KX → Prop
  | .nil, _, _, _, _ => False
  | .cons e .nil, μ, M, Q, E => wpE e μ M Q E
  | .cons e es, μ, M, Q, E => wpE e μ M (fun x M1 => match x with
      | .bl true => wpAnE es μ M1 Q E
      | .bl false => Q (.bl false) M1
      | _ => False) E
def wpOrE : Exs → Sl → Mp → KE → KX → Prop
  | .nil, _, _, _, _ => False
  | .cons e .nil, μ, M, Q, E => wpE e μ M Q E
  | .cons e es, μ, M, Q, E => wpE e μ M (fun x M1 => match x with
      | .bl false => wpOrE es μ M1 Q E
      | .bl true => Q (.bl true) M1
      | _ => False) E
def wpAnT : Exs → Sl → Mp → (Bool → Mp → Prop) → KX → Prop
  | .nil, _, _, _, _ => False
  | .cons e .nil, μ, M, Q, E => wpT e μ M Q E
  | .cons e es, μ, M, Q, E => wpT e μ M (fun x M1 => match x with
      | true => wpAnT es μ M1 Q E
      | false => Q false M1) E
def wpOrT : Exs → Sl → Mp → (Bool → Mp → Prop) → KX → Prop
  | .nil, _, _, _, _ => False
  | .cons e .nil, μ, M, Q, E => wpT e μ M Q E
  | .cons e es, μ, M, Q, E => wpT e μ M (fun x M1 => match x with
      | true => Q true M1
      | false => wpOrT es μ M1 Q E) E
/-- a comprehension's tests: none or one -/
def wpC : Exs → Sl → Mp → (Bool → Mp → Prop) → KX → Prop
  | .nil, _, M, Q, _ => Q true M
  | .cons e .nil, μ, M, Q, E => wpT e μ M Q E
  | .cons _ _, _, _, _, _ => False
/-- what is walked: the items, and what must stay so -/
def wpI : Itx → Sl → Mp → (List D → (Mp → Prop) → Mp → Prop) → KX → Prop
  | .r1 a, μ, M, Q, E => wpE a μ M (fun x M1 => match x with
      | .int j => -(2 ^ 62) ≤ j ∧ j < 2 ^ 62 ∧ Q ((List.range j.toNat).map fun k => D.int (k : Nat)) (fun _ => True) M1
      | _ => False) E
  | .r2 a b, μ, M, Q, E => wpE a μ M (fun x M1 => wpE b μ M1 (fun y M2 => match x, y with
      | .int i, .int j => (-(2 ^ 62) ≤ i ∧ i < 2 ^ 62 ∧ -(2 ^ 62) ≤ j ∧ j < 2 ^ 62) ∧ Q ((List.range (j - i).toNat).map fun k => D.int (i + (k : Nat))) (fun _ => True) M2
      | _, _ => False) E) E
  | .ov e, μ, M, Q, E => wpE e μ M (fun x M1 => ∃ xs, itemsOf M1 x = some xs ∧ Q xs (fun M2 => itemsOf M2 x = some xs) M1) E
  | .en e, μ, M, Q, E => wpE e μ M (fun x M1 => ∃ xs, itemsOf M1 x = some xs ∧ Q ((List.range xs.length).zip xs |>.map fun p => D.tup [.int (p.1 : Nat), p.2]) (fun M2 => itemsOf M2 x = some xs) M1) E
  | .zp a b, μ, M, Q, E => wpE a μ M (fun x M1 => wpE b μ M1 (fun y M2 => ∃ xs ys, itemsOf M2 x = some xs ∧ itemsOf M2 y = some ys ∧
      Q (xs.zip ys |>.map fun p => D.tup [p.1, p.2]) (fun M3 => itemsOf M3 x = some xs ∧ itemsOf M3 y = some ys) M2) E) E
end

/-- a loop's turns: an invariant over the turn's number; what the body makes may be forgotten between the turns -/
def loopW (body : Sl → Mp → Kx → Prop) (tg : Tg) (ds : List D) (gd : Mp → Prop) (μ : Sl) (M : Mp) (K : Kx) : Prop :=
  ∃ I : Nat → Sl → Mp → Prop, I 0 μ M ∧ ∀ i μ M, i ≤ ds.length → I i μ M → gd M ∧ match ds[i]? with
    | some d => tgW tg d μ fun μ' => body μ' M { K with nx := fun μ2 M2 => ∃ M3, Sub M3 M2 ∧ I (i + 1) μ2 M3, ct := fun μ2 M2 => ∃ M3, Sub M3 M2 ∧ I (i + 1) μ2 M3, bk := K.nx }
    | none => K.nx μ M
mutual
def wpS : Sx → Sl → Mp → Kx → Prop
  | .skip, μ, M, K => K.nx μ M
  | .set i e, μ, M, K => wpE Γ e μ M (fun d M1 => K.nx (μ.set i (some d)) M1) (fun n fs M' => K.ex n fs μ M')
  | .unp tg e, μ, M, K => wpE Γ e μ M (fun d M1 => tgW tg d μ fun μ' => K.nx μ' M1) (fun n fs M' => K.ex n fs μ M')
  | .par i j a b, μ, M, K => wpE Γ a μ M (fun x M1 => wpE Γ b μ M1 (fun y M2 => K.nx ((μ.set i (some x)).set j (some y)) M2) (fun n fs M' => K.ex n fs μ M')) (fun n fs M' => K.ex n fs μ M')
  | .aug i op e, μ, M, K => ∃ x, μ[i]? = some (some x) ∧ wpE Γ e μ M (fun y M1 => augW op x y M1 fun z M2 => K.nx (μ.set i (some z)) M2) (fun n fs M' => K.ex n fs μ M')
  | .sto o i e, μ, M, K => wpE Γ e μ M (fun d M1 => wpE Γ o μ M1 (fun x M2 => wpE Γ i μ M2 (fun y M3 => stoW x y d M3 fun M4 => K.nx μ M4) (fun n fs M' => K.ex n fs μ M')) (fun n fs M' => K.ex n fs μ M')) (fun n fs M' => K.ex n fs μ M')
  | .stg op o i e, μ, M, K => wpE Γ o μ M (fun x M1 => wpE Γ i μ M1 (fun y M2 => getW x y M2 fun z M3 => wpE Γ e μ M3 (fun d M4 => augW op z d M4 fun z' M5 => stoW x y z' M5 fun M6 => K.nx μ M6) (fun n fs M' => K.ex n fs μ M')) (fun n fs M' => K.ex n fs μ M')) (fun n fs M' => K.ex n fs μ M')
  | .ex e, μ, M, K => wpE Γ e μ M (fun _ M1 => K.nx μ M1) (fun n fs M' => K.ex n fs μ M')
  | .ret e, μ, M, K => wpE Γ e μ M K.rt (fun n fs M' => K.ex n fs μ M')
  | .retn, _, M, K => K.rt .non M
  | .ite c a b, μ, M, K => wpT Γ c μ M (fun r M1 => match r with
      | true => wpB a μ M1 K
      | false => wpB b μ M1 K) (fun n fs M' => K.ex n fs μ M')
  | .for tg it b, μ, M, K => wpI Γ it μ M (fun ds gd M1 => loopW (wpB b) tg ds gd μ M1 K) (fun n fs M' => K.ex n fs μ M')
  | .whl c b, μ, M, K => ∃ I : Nat → Sl → Mp → Prop, (∃ m, I m μ M) ∧ ∀ m μ M, I m μ M → wpT Γ c μ M (fun r M1 => match r with
      | true => wpB b μ M1 { K with nx := fun μ2 M2 => ∃ m' M3, m' < m ∧ Sub M3 M2 ∧ I m' μ2 M3, ct := fun μ2 M2 => ∃ m' M3, m' < m ∧ Sub M3 M2 ∧ I m' μ2 M3, bk := K.nx }
      | false => K.nx μ M1) (fun n fs M' => K.ex n fs μ M')
  | .brk, μ, M, K => K.bk μ M
  | .cnt, μ, M, K => K.ct μ M
  | .rais _ _, _, _, _ => False
  | .nev, _, _, _ => False
  | .thru b, μ, M, K => wpB b μ M { K with ex := fun _ _ _ _ => False }
termination_by structural x => x
def wpB : Sxs → Sl → Mp → Kx → Prop
  | .nil, μ, M, K => K.nx μ M
  | .cons s r, μ, M, K => wpS s μ M { K with nx := fun μ' M' => wpB r μ' M' K }
end
end
end Bx

set_option Elab.async false
set_option linter.all false
set_option maxRecDepth 100000
set_option maxHeartbeats 4000000
/-! Bx, part C: the operators. -/
namespace Bx
open PySem PySem.Spec PyProof.Rows L2

section
variable {X : Cx}
/-- what is handed on -/
abbrev Cl (K : KZ) (M : Mp) (H : Hp) (Q0 : KE) (Q : VK) : Prop := ∀ d M' H' v, Q0 d M' → Bx.Step M M' H H' → RM K M' H' → Rv K M' H' d v → Q v H'
theorem newL_ok {K : KZ} {fz : Bool} {ds : List D} {vs : List V} {M : Mp} {H : Hp} {Q0 : KE} {Q : VK} (h : newL fz ds M Q0) (m : RM K M H) (r : Rvs K M H ds vs) (k : Cl K M H Q0 Q) :
    ds.length ≤ sizeLine ∧ ∀ p, H p = none → Q (.ref p) (upd H p (.lst vs)) := by
  refine ⟨h.1, fun p hp => ?_⟩
  have h2 := h.2
  cases fz with
  | true => exact k (.rl ds) M _ _ h2 (step_val hp) (m.val hp) (.rl (m.fresh hp) upd_same (r.step (step_val hp)))
  | false => exact k (.obj p) (put M p (.lst ds)) _ _ (h2 p (m.fresh hp).1) (step_new hp) (m.new hp r) (.obj p)
theorem newT_ok {K : KZ} {ds : List D} {vs : List V} {M : Mp} {H : Hp} {Q0 : KE} {Q : VK} (h : Q0 (.tup ds) M) (m : RM K M H) (r : Rvs K M H ds vs) (k : Cl K M H Q0 Q) :
    ∀ p, H p = none → Q (.ref p) (upd H p (.tup vs)) := fun p hp =>
  k (.tup ds) M _ _ h (step_val hp) (m.val hp) (.tup (m.fresh hp) (.inl upd_same) (r.step (step_val hp)))
theorem Cl.here {K : KZ} {M : Mp} {H : Hp} {Q0 : KE} {Q : VK} {d : D} {v : V} (k : Cl K M H Q0 Q) (h : Q0 d M) (m : RM K M H) (r : Rv K M H d v) : Q v H := k d M H v h (.refl _ _) m r
/-- a list that the hand layer tracks -/
theorem lst_ok {K : KZ} {M : Mp} {H : Hp} {x : D} {v : V} {xs : List D} (e : lstOf M x = some xs) (m : RM K M H) (r : Rv K M H x v) : ∃ a vs, v = .ref a ∧ H a = some (.lst vs) ∧ Rvs K M H xs vs := by
  cases x with
  | rl ys =>
    cases e
    obtain ⟨a, vs, ev, _, rs, h⟩ := r.sqL
    exact ⟨a, vs, ev, h, rs⟩
  | obj a =>
    cases r
    have e : (M a).map O.xs = some xs := e
    cases q : M a with
    | none => rw [q] at e; cases e
    | some o =>
      rw [q] at e
      cases o with
      | lst ds =>
        have e' : ds = xs := Option.some.inj e
        subst e'
        obtain ⟨vs, h, rs⟩ := m.own a _ q
        exact ⟨a, vs, rfl, h, rs⟩
  | _ => cases e
/-- what can be walked and indexed -/
theorem items_ok {K : KZ} {M : Mp} {H : Hp} {x : D} {v : V} {xs : List D} (e : itemsOf M x = some xs) (m : RM K M H) (r : Rv K M H x v) :
    ∃ a vs, v = .ref a ∧ ((SqL K.k H a vs ∧ ∀ ys, x ≠ .tup ys) ∨ (SqT K.k H a vs ∧ x = .tup xs)) ∧ Rvs K M H xs vs := by
  cases x with
  | tup ys =>
    cases e
    obtain ⟨a, vs, ev, h, rs⟩ := r.sqT
    exact ⟨a, vs, ev, .inr ⟨h, rfl⟩, rs⟩
  | rl ys =>
    cases e
    obtain ⟨a, vs, ev, h, rs, _⟩ := r.sqL
    exact ⟨a, vs, ev, .inl ⟨h, fun _ z => nomatch z⟩, rs⟩
  | wl ys =>
    cases e
    obtain ⟨a, vs, ev, h, rs⟩ := r.sqW
    exact ⟨a, vs, ev, .inl ⟨h, fun _ z => nomatch z⟩, rs⟩
  | obj a =>
    obtain ⟨a', vs, ev, h, rs⟩ := lst_ok (x := .obj a) e m r
    exact ⟨a', vs, ev, .inl ⟨.of h, fun _ z => nomatch z⟩, rs⟩
  | _ => cases e
theorem atI_rv {K : KZ} {M : Mp} {H : Hp} {ds : List D} {vs : List V} {i : Int} {d : D} (r : Rvs K M H ds vs) (h : atI ds i = some d) : ∃ v, atI vs i = some v ∧ Rv K M H d v := by
  unfold atI at h ⊢
  rw [← r.length]
  cases q : ixN ds.length i with
  | none => rw [q] at h; cases h
  | some j => rw [q] at h; exact r.get h
theorem flat_rv {K : KZ} {M : Mp} {H : Hp} {d : D} {v : V} (r : Rv K M H d v) (f : d.flat = true) : flatV v = true := by
  cases r <;> first | rfl | cases f
theorem eqf_rv {K : KZ} {M : Mp} {H : Hp} {d e : D} {v u : V} (r : Rv K M H d v) (f : d.flat = true) (q : Rv K M H e u) (g : e.flat = true) : eqV v u = D.eqf d e := by
  cases r <;> cases q <;> first | rfl | cases f | cases g
theorem flats_rv {K : KZ} {M : Mp} {H : Hp} {ds : List D} {vs : List V} (r : Rvs K M H ds vs) (f : ds.all D.flat = true) : vs.all flatV = true := by
  induction ds generalizing vs with
  | nil => cases r; rfl
  | cons d ds ih =>
    cases r with
    | cons r1 r =>
      have f' : (d.flat && ds.all D.flat) = true := f
      obtain ⟨f1, f2⟩ := Bool.and_eq_true_iff.mp f'
      show (flatV _ && _) = true
      rw [flat_rv r1 f1, ih r f2]; rfl
theorem inV_rv {K : KZ} {M : Mp} {H : Hp} {x : D} {v : V} {ds : List D} {vs : List V} (rx : Rv K M H x v) (fx : x.flat = true) (r : Rvs K M H ds vs) (f : ds.all D.flat = true) : inV v vs = ds.any fun z => D.eqf z x := by
  induction ds generalizing vs with
  | nil => cases r; rfl
  | cons d ds ih =>
    cases r with
    | cons r1 r =>
      have f' : (d.flat && ds.all D.flat) = true := f
      obtain ⟨f1, f2⟩ := Bool.and_eq_true_iff.mp f'
      have e1 := eqf_rv r1 f1 rx fx
      have e2 := ih r f2
      unfold inV at e2 ⊢
      rw [List.any_cons, List.any_cons, e1, e2]
mutual
theorem py_rv {K : KZ} {M : Mp} {H : Hp} (m : RM K M H) : ∀ {x : D} {p : PyData} {v : V}, Py M x p → Rv K M H x v → Dp K.k H v p
  | _, _, _, .non, .non => .non
  | _, _, _, .bl b, .bl _ => .bl b
  | _, _, _, .int i, .int _ => .int i
  | _, _, _, .str x, .str _ => .str x
  | _, _, _, .tup ps, r => by
    obtain ⟨a, vs, rfl, h, rs⟩ := r.sqT
    exact .tup h (pys_rv m ps rs)
  | _, _, _, .rl ps, r => by
    obtain ⟨a, vs, rfl, h, rs, _⟩ := r.sqL
    exact .lst h (pys_rv m ps rs)
  | _, _, _, .wl ps, r => by
    obtain ⟨a, vs, rfl, h, rs⟩ := r.sqW
    exact .lst h (pys_rv m ps rs)
  | _, _, _, .obj e ps, r => by
    cases r
    obtain ⟨vs, h, rs⟩ := m.own _ _ e
    exact .lst (.of h) (pys_rv m ps rs)
theorem pys_rv {K : KZ} {M : Mp} {H : Hp} (m : RM K M H) : ∀ {xs : List D} {ps : List PyData} {vs : List V}, Paired (Py M) xs ps → Rvs K M H xs vs → DpAll K.k H vs ps
  | _, _, _, .nil, .nil => .nil
  | _, _, _, .cons p ps, .cons r rs => .cons (py_rv m p r) (pys_rv m ps rs)
end
theorem Rvs.flatten {K : KZ} {M : Mp} {H : Hp} {ds : List D} {vs : List V} (r : Rvs K M H ds vs) : ∀ n : Nat, Rvs K M H (List.replicate n ds).flatten (List.replicate n vs).flatten
  | 0 => .nil
  | n + 1 => by
    rw [List.replicate_succ, List.flatten_cons, List.replicate_succ, List.flatten_cons]
    exact r.append (Rvs.flatten r n)
theorem Rvs.rev {K : KZ} {M : Mp} {H : Hp} {ds : List D} {vs : List V} (r : Rvs K M H ds vs) : Rvs K M H ds.reverse vs.reverse := by
  induction ds generalizing vs with
  | nil => cases r; exact .nil
  | cons d ds ih =>
    cases r with
    | cons r1 r =>
      rw [List.reverse_cons, List.reverse_cons]
      exact (ih r).append (.one r1)
theorem Rvs.cut {K : KZ} {M : Mp} {H : Hp} {ds : List D} {vs : List V} (r : Rvs K M H ds vs) (lo hi : Option Int) : Rvs K M H (cutD ds lo hi) (cutV vs lo hi) := by
  unfold cutD cutV
  rw [r.length]
  exact (r.drop _).take _

/-- an operator's rule in these words -/
structure OpB (X : Cx) (f : Value → Value → Sem Value) (w : D → D → Mp → KE → Prop) : Prop where
  ex : ∃ r : R2, OpR X f r ∧ ∀ Z x y M H v u (Q0 : KE) (Q : VK), w x y M Q0 → RM ⟨X.K, Z⟩ M H → Rv ⟨X.K, Z⟩ M H x v → Rv ⟨X.K, Z⟩ M H y u → Cl ⟨X.K, Z⟩ M H Q0 Q → r v u H Q
theorem OpB.none {f : Value → Value → Sem Value} {w : D → D → Mp → KE → Prop} (h : ∀ x y M Q, ¬ w x y M Q) : OpB X f w :=
  ⟨fun _ _ _ _ => False, fun _ _ _ _ _ _ _ _ _ _ _ _ h => h.elim, fun _ x y M _ _ _ Q0 _ q => (h x y M Q0 q).elim⟩
theorem opB_int {f : Value → Value → Sem Value} {C : Int → Int → Prop} {g : Int → Int → Int} {r : R2} (o : OpR X f r) (hr : ∀ i j H (Q : VK), C i j → Q (.int (g i j)) H → r (.int i) (.int j) H Q) : OpB X f (intW C g) := by
  refine ⟨r, o, fun Z x y M H v u Q0 Q w m rx ry k => ?_⟩
  cases x with
  | int i =>
    cases y with
    | int j =>
      obtain ⟨c, q⟩ := w
      cases rx; cases ry
      exact hr i j H Q c (k.here q m (.int _))
    | _ => cases w
  | _ => cases w
theorem opB_add {fz : Bool} : OpB X (binaryOp .Add) (addW fz) := by
  refine ⟨_, (OpR.or op_add (OpR.or (op_catA) (OpR.or op_add_str op_cat))), fun Z x y M H v u Q0 Q w m rx ry k => ?_⟩
  have lists : (∃ xs ys, lstOf M x = some xs ∧ lstOf M y = some ys ∧ newL fz (xs ++ ys) M Q0) → rCat v u H Q := by
    rintro ⟨xs, ys, e1, e2, n⟩
    obtain ⟨a, vs, rfl, h1, r1⟩ := lst_ok e1 m rx
    obtain ⟨b, us, rfl, h2, r2⟩ := lst_ok e2 m ry
    obtain ⟨sz, q⟩ := newL_ok n m (r1.append r2) k
    exact ⟨a, b, vs, us, rfl, rfl, h1, h2, by rw [← r1.length, ← r2.length, ← List.length_append]; exact sz, q⟩
  cases x with
  | int i =>
    cases y with
    | int j => cases rx; cases ry; exact .inl ⟨i, j, rfl, rfl, k.here w m (.int _)⟩
    | _ => obtain ⟨_, _, e, _⟩ := w; cases e
  | str i =>
    cases y with
    | str j =>
      cases rx; cases ry
      exact .inr (.inr (.inl ⟨i, j, rfl, rfl, w.1, k.here w.2 m (.str _)⟩))
    | _ => obtain ⟨_, _, e, _⟩ := w; cases e
  | tup xs =>
    cases y with
    | tup ys =>
      obtain ⟨sz, q⟩ := w
      obtain ⟨a, vs, rfl, h1, r1⟩ := rx.sqT
      obtain ⟨b, us, rfl, h2, r2⟩ := ry.sqT
      refine .inr (.inl ⟨a, b, vs, us, rfl, rfl, h1, h2, by rw [← r1.length, ← r2.length]; exact sz, ?_, ?_, ?_⟩)
      · intro e
        subst e
        cases r1
        exact k.here q m ry
      · intro e1 e2
        subst e2
        cases r2
        exact k.here (by rw [List.append_nil] at q; exact q) m rx
      · intro e1 e2
        exact newT_ok q m (r1.append r2) k
    | _ => obtain ⟨_, _, e, _⟩ := w; cases e
  | rl xs => exact .inr (.inr (.inr (lists w)))
  | obj a => exact .inr (.inr (.inr (lists w)))
  | _ => obtain ⟨_, _, e, _⟩ := w; cases e
theorem opB_mul {fz : Bool} : OpB X (binaryOp .Mult) (mulW fz) := by
  refine ⟨_, (OpR.or op_mul op_rep), fun Z x y M H v u Q0 Q w m rx ry k => ?_⟩
  cases y with
  | int n =>
    cases ry
    have lists : (∃ xs, lstOf M x = some xs ∧ -(2 ^ 63) ≤ n ∧ n < 2 ^ 63 ∧ newL fz (List.replicate n.toNat xs).flatten M Q0) → rRep v (.int n) H Q := by
      rintro ⟨xs, e1, b1, b2, nl⟩
      obtain ⟨a, vs, rfl, h1, r1⟩ := lst_ok e1 m rx
      obtain ⟨sz, q⟩ := newL_ok nl m (r1.flatten n.toNat) k
      refine ⟨a, n, vs, rfl, rfl, h1, b1, b2, ?_, q⟩
      have e : (List.replicate n.toNat xs).flatten.length = n.toNat * xs.length := by simp [List.length_flatten]
      rw [← r1.length, Nat.mul_comm, ← e]
      exact sz
    cases x with
    | int i => cases rx; exact .inl ⟨i, n, rfl, rfl, w.1, k.here w.2 m (.int _)⟩
    | rl xs => exact .inr (lists w)
    | obj a => exact .inr (lists w)
    | _ => obtain ⟨_, e, _⟩ := w; cases e
  | _ => cases x <;> cases w
theorem opB_bin {fz : Bool} : ∀ op : Operator, OpB X (binaryOp op) (binW fz op)
  | .Add => opB_add
  | .Mult => opB_mul
  | .Sub => opB_int op_sub fun i j H Q _ q => ⟨i, j, rfl, rfl, q⟩
  | .FloorDiv => opB_int op_fdiv fun i j H Q c q => ⟨i, j, rfl, rfl, c, q⟩
  | .Mod => opB_int op_mod fun i j H Q c q => ⟨i, j, rfl, rfl, c, q⟩
  | .LShift => opB_int op_shl fun i j H Q c q => ⟨i, j, rfl, rfl, c, q⟩
  | .RShift => opB_int op_shr fun i j H Q c q => ⟨i, j, rfl, rfl, c, q⟩
  | .BitAnd => opB_int op_and fun i j H Q _ q => ⟨i, j, rfl, rfl, q⟩
  | .BitOr => opB_int op_or fun i j H Q _ q => ⟨i, j, rfl, rfl, q⟩
  | .BitXor => opB_int op_xor fun i j H Q _ q => ⟨i, j, rfl, rfl, q⟩
  | .Pow => opB_int op_pow fun i j H Q c q => ⟨i, j, rfl, rfl, c, q⟩
  | .Div => .none fun _ _ _ _ h => h
  | .MatMult => .none fun _ _ _ _ h => h
/-- comparisons -/
structure CmB (X : Cx) (op : CmpOp) (w : D → D → Mp → (Bool → Prop) → Prop) : Prop where
  ex : ∃ r : R2, OpR X (compareOp op) r ∧ ∀ Z x y M H v u (R : Bool → Prop) (Q : VK), w x y M R → RM ⟨X.K, Z⟩ M H → Rv ⟨X.K, Z⟩ M H x v → Rv ⟨X.K, Z⟩ M H y u → (∀ b, R b → Q (.bl b) H) → r v u H Q
theorem cmB_ord {op : CmpOp} {p : Int → Int → Bool} {r : R2} (o : OpR X (compareOp op) r) (hr : ∀ i j H (Q : VK), Q (.bl (p i j)) H → r (.int i) (.int j) H Q) : CmB X op (fun x y _ R => ordW p x y R) := by
  refine ⟨r, o, fun Z x y M H v u R Q w m rx ry k => ?_⟩
  cases x with
  | int i =>
    cases y with
    | int j => cases rx; cases ry; exact hr i j H Q (k _ w)
    | _ => cases w
  | _ => cases w
theorem eq_int_eqv (i j : Int) : PyData.eqv (.int i) (.int j) = decide (i = j) := by
  rw [PyData.eqv]; exact Bool.beq_eq_decide_eq i j
theorem shaped_int (i : Int) : SeqAt.shaped (.int i) = true := rfl
theorem eqW_py {x y : D} {M : Mp} {R : Bool → Prop} (w : eqW x y M R) : ∃ d e, Py M x d ∧ Py M y e ∧ SeqAt.shaped d = true ∧ SeqAt.shaped e = true ∧ R (PyData.eqv d e) := by
  cases x with
  | int i =>
    cases y with
    | int j => exact ⟨_, _, .int i, .int j, shaped_int i, shaped_int j, by rw [eq_int_eqv]; exact w⟩
    | _ => exact w
  | _ => exact w
theorem is_rv {f : Bool → Bool} {Z : Addr → Prop} {x y : D} {M : Mp} {H : Hp} {v u : V} {R : Bool → Prop} {Q : VK} (w : isW x y fun b => R (f b)) (m : RM ⟨X.K, Z⟩ M H) (rx : Rv ⟨X.K, Z⟩ M H x v) (ry : Rv ⟨X.K, Z⟩ M H y u) (k : ∀ b, R b → Q (.bl b) H) : BxX.rIsNB f v u H Q := by
  cases y with
  | non =>
    cases ry
    refine .inl ⟨rfl, k _ ?_⟩
    have e : decide (v = V.non) = x.isNon := by cases rx <;> rfl
    rw [e]; exact w
  | bl b =>
    cases x with
    | bl c =>
      cases ry
      cases rx
      exact .inr ⟨c, b, rfl, rfl, k _ w⟩
    | _ => cases w
  | _ => cases w
theorem cmB_cmp {lv : Nat} (hr : Room lv X.A) : ∀ op : CmpOp, CmB X op (cmpW op)
  | .Eq => ⟨_, op_eqD hr.units, fun Z x y M H v u R Q w m rx ry k => by
      obtain ⟨d, e, p1, p2, s1, s2, q⟩ := eqW_py w
      exact ⟨d, e, py_rv m p1 rx, py_rv m p2 ry, s1, s2, k _ q⟩⟩
  | .NotEq => ⟨_, op_neD hr.units, fun Z x y M H v u R Q w m rx ry k => by
      obtain ⟨d, e, p1, p2, s1, s2, q⟩ := eqW_py (show eqW x y M (fun b => R (!b)) from w)
      exact ⟨d, e, py_rv m p1 rx, py_rv m p2 ry, s1, s2, k _ q⟩⟩
  | .Lt => cmB_ord op_lt fun i j H Q q => ⟨i, j, rfl, rfl, q⟩
  | .LtE => cmB_ord op_le fun i j H Q q => ⟨i, j, rfl, rfl, q⟩
  | .Gt => cmB_ord op_gt fun i j H Q q => ⟨i, j, rfl, rfl, q⟩
  | .GtE => cmB_ord op_ge fun i j H Q q => ⟨i, j, rfl, rfl, q⟩
  | .Is => ⟨_, BxX.op_isNB, fun Z x y M H v u R Q w m rx ry k => is_rv (f := id) w m rx ry k⟩
  | .IsNot => ⟨_, BxX.op_notNB, fun Z x y M H v u R Q w m rx ry k => is_rv (f := fun b => !b) w m rx ry k⟩
  | .In => ⟨_, op_in_seq, fun Z x y M H v u R Q w m rx ry k => by
      obtain ⟨xs, e, f1, f2, q⟩ := w
      obtain ⟨a, vs, rfl, h, rs⟩ := items_ok e m ry
      exact ⟨a, vs, rfl, h.elim (fun z => .inl z.1) (fun z => .inr z.1), flat_rv rx f1, flats_rv rs f2, by
        rw [if_neg (by decide), inV_rv rx f1 rs f2]; exact k _ q⟩⟩
  | .NotIn => ⟨_, op_notIn_seq, fun Z x y M H v u R Q w m rx ry k => by
      obtain ⟨xs, e, f1, f2, q⟩ := w
      obtain ⟨a, vs, rfl, h, rs⟩ := items_ok e m ry
      exact ⟨a, vs, rfl, h.elim (fun z => .inl z.1) (fun z => .inr z.1), flat_rv rx f1, flats_rv rs f2, by
        rw [if_pos rfl, inV_rv rx f1 rs f2]; exact k _ q⟩⟩
theorem marks {op : CmpOp} {b : Expr} (h : ∀ es k p, b ≠ .Set es k p) : behindInMarks op b = false := by
  cases b <;> first | rfl | exact absurd rfl (h _ _ _)
theorem rel_rv {K : KZ} {M : Mp} {H : Hp} {x : D} {v : V} {b : Bool} (m : RM K M H) (r : Rv K M H x v) (t : truth M x = some b) : TruV K.k v H b := by
  have seq : ∀ xs, itemsOf M x = some xs → (some (!xs.isEmpty) = some b) → TruV K.k v H b := fun xs e q => by
    obtain ⟨a, vs, rfl, h, rs⟩ := items_ok e m r
    have z : (!vs.isEmpty) = b := by
      have e2 : xs.isEmpty = vs.isEmpty := by cases rs <;> rfl
      rw [← e2]; exact Option.some.inj q
    rcases h with ⟨h, _⟩ | ⟨h, _⟩
    · exact .inl ⟨vs, h, z.symm⟩
    · exact .inr (.inl ⟨vs, h, z.symm⟩)
  cases x with
  | non => cases r; exact (Option.some.inj t).symm
  | bl _ => cases r; exact (Option.some.inj t).symm
  | int _ => cases r; exact (Option.some.inj t).symm
  | str _ => cases t
  | tup xs => exact seq xs rfl t
  | rl xs => exact seq xs rfl t
  | wl xs => exact seq xs rfl t
  | exc _ _ _ => cases t
  | obj a =>
    have t' : (itemsOf M (.obj a)).map (fun xs => !xs.isEmpty) = some b := t
    cases q : itemsOf M (.obj a) with
    | none => rw [q] at t'; cases t'
    | some xs => rw [q] at t'; exact seq xs q t'
end
end Bx

set_option Elab.async false
set_option linter.all false
set_option maxRecDepth 100000
set_option maxHeartbeats 4000000
/-! Bx, part D: which expressions of the program the small language's expressions stand for (a check), and that the wants are enough. -/
namespace Bx
open PySem PySem.Spec PyProof.Rows L2

/-! ### what a def may call and name -/
/-- a def's promise in these words -/
def SpOf (mg : Str → Option Value) (K : PySem.W.Frag) (n : Nat) (S : Spec) : Sp := fun vs H Q E => ∃ Z : Addr → Prop, ∃ ds M Q0 E0, vs.length = n ∧ Rvs ⟨K, Z⟩ M H ds vs ∧ RM ⟨K, Z⟩ M H ∧ S ds M Q0 E0 ∧ Cl ⟨K, Z⟩ M H Q0 Q ∧
  ∀ nm fs M' H' cls dd, E0 nm fs M' → Bx.Step M M' H H' → RM ⟨K, Z⟩ M' H' → RX mg ⟨K, Z⟩ M' H' nm fs cls dd → E cls dd H'
/-- x is a def that keeps S: called by position, the defaults behind -/
def CallF (P : Program) (w : World) (K : PySem.W.Frag) (mg : Str → Option Value) (base : Heap) (lv : Nat) (x : Str) (ks : List Str) (S : Spec) : Prop :=
  ∃ (f : Addr) (fd : FuncData) (ps : List Str) (k : Nat) (S0 : Spec), mg x = some (.ref f) ∧ PySem.W.keepIn K (.ref f) = true ∧ k ≤ lv ∧ FnOk P w K mg base (L2.CX P w) k f fd ps (SpOf mg K ps.length S0) ∧
    (x == ("__debug__" : Str)) = false ∧ (∀ as M Q E, S0 as M Q E → as.length = ps.length) ∧
    (ks = [] → ∃ (dvs : List V) (dds : List D) (dus : List Value), Binds K fd ps dus ∧ Vals dvs dus ∧ (∀ Z M H, Rvs ⟨K, Z⟩ M H dds dvs) ∧ ∀ as M Q E, S as M Q E → S0 (as ++ dds) M Q E) ∧
    (ks ≠ [] → ∃ (n : Nat) (g : List Value → List Value → List Value) (gV : List V → List V → List V) (gD : List D → List D → List D), KBn K fd ps n ks g gV ∧ (∀ κ M H as bs vs zs, Rvs κ M H as vs → Rvs κ M H bs zs → Rvs κ M H (gD as bs) (gV vs zs)) ∧
      ∀ as bs M Q E, bs.length = ks.length → S (as ++ bs) M Q E → as.length = n ∧ S0 (gD as bs) M Q E)
/-- the promise of an own error's __init__ that keeps its arguments under these names -/
def spI (C : Addr) (ns : List Str) : Sp := fun vs H Q _ => ∃ (a : Addr) (rest : List V), vs = .ref a :: rest ∧ rest.length = ns.length ∧ H a = some (exo a C none) ∧
  ∀ d, H d = none → d ≠ a → Q .non (upd (upd H d (exd d (ns.reverse.zip rest.reverse))) a (exo a C (some d)))
/-- x is an own error's class -/
def CallC (P : Program) (w : World) (K : PySem.W.Frag) (mg : Str → Option Value) (base : Heap) (lv : Nat) (x : Str) (ks : List Str) (S : Spec) : Prop :=
  ∃ (C fI : Addr) (fd : FuncData) (ps ns : List Str) (k n : Nat) (g : List Value → List Value → List Value) (gV : List V → List V → List V) (gD : List D → List D → List D), mg x = some (.ref C) ∧ OexC K C ∧ PySem.W.findIn K (.ref C) "__init__" = some (some (.ref fI)) ∧
    PySem.W.typeIn K (.ref fI) = some (.type "function") ∧ k + 1 ≤ lv ∧ n ≤ 1000 ∧ (x == ("__debug__" : Str)) = false ∧ XcOk K C ns.reverse ∧ FnOk P w K mg base (L2.CX P w) k fI fd ps (spI C ns) ∧ KBn K fd ps (n + 1) ks g gV ∧
    (∀ κ M H as bs vs zs, Rvs κ M H as vs → Rvs κ M H bs zs → Rvs κ M H (gD as bs) (gV vs zs)) ∧
    ∀ as bs M Q E, bs.length = ks.length → S (as ++ bs) M Q E → as.length = n ∧ ∃ ds, (∀ a, gD (.obj a :: as) bs = .obj a :: ds) ∧ ds.length = ns.length ∧ Q (.exc C ns.reverse ds.reverse) M
structure CallOk (P : Program) (w : World) (K : PySem.W.Frag) (mg : Str → Option Value) (base : Heap) (lv : Nat) (x : Str) (ks : List Str) (S : Spec) : Prop where
  ex : CallF P w K mg base lv x ks S ∨ CallC P w K mg base lv x ks S
def WrD (P : Program) (w : World) (K : PySem.W.Frag) (a : Addr) (tab : List (Int × D)) : Prop :=
  (a == sysModules) = false ∧ ∀ h, K.In h → ∃ f : Int → Option Value, h.MapOf (intKind P w) a f ∧ ∀ i, match tab.lookup i with
    | some d => ∃ u v, f i = some u ∧ RelV v u ∧ ∀ Z M H, Rv ⟨K, Z⟩ M H d v
    | none => f i = none
structure TabOk (P : Program) (w : World) (K : PySem.W.Frag) (mg : Str → Option Value) (x : Str) (tab : List (Int × D)) : Prop where
  ex : ∃ a, mg x = some (.ref a) ∧ WrD P w K a tab ∧ (x == ("__debug__" : Str)) = false
def bltNames : List Str := ["len", "int", "abs", "min", "max", "sum", "tuple", "list", "range", "enumerate", "zip", "isinstance", "bool", "str"]
def bltFns : List Str := ["len", "int", "abs", "min", "max", "sum", "tuple", "list"]
/-- x is a class; s tells of own errors' classes whether they are below it -/
structure ClsOk (K : PySem.W.Frag) (mg : Str → Option Value) (x : Str) (s : Addr → Option Bool) : Prop where
  ex : ∃ (v : V) (u : Value), RelV v u ∧ ClsV v u ∧ (x == ("__debug__" : Str)) = false ∧ (mg x = some u ∨ (mg x = none ∧ bootBuiltins x = some u ∧ x ≠ "__name__")) ∧ ∀ C b, s C = some b → PySem.W.kitOne K (.ref C) u = some b
/-- a number of a table or a class -/
def NumOk (P : Program) (w : World) (K : PySem.W.Frag) (mg : Str → Option Value) (Γ : Gm) (g : Nat) (x : Str) : Prop := (g < 1000 → TabOk P w K mg x (Γ.tab g)) ∧ (1000 ≤ g → ClsOk K mg x fun C => Γ.sub C g)
/-- what stands around a def's code -/
structure Env' (X : Cx) (W : WX) (lv : Nat) (N : List Str) (sc : Scope) (fn : List (Nat × Str × List Str)) (tb : List (Nat × Str)) (Γ : Gm) : Prop where
  hN : X.N = N
  nd : N.Nodup
  lk : ∀ x k, sc.names.lookup x = some k → X.env.scope.names.lookup x = some k ∨ (k = .free ∧ X.env.scope.names.lookup x = some .cell)
  fnc : ∀ x, sc.names.lookup x = some .cell → X.fn x = true
  calm : X.calm = true
  room : Room lv X.A
  tk : Takes X W
  po : PassesOwn (model X.prog X.w) X.A X.env X.xe
  blt : ∀ x ∈ bltNames, X.mg x = none
  fns : ∀ g x ks, fn.lookup g = some (x, ks) → CallOk X.prog X.w X.K X.mg X.base lv x ks (Γ.call g)
  kd : X.env.scope.kind = .function
  tabs : ∀ g x, tb.lookup g = some x → NumOk X.prog X.w X.K X.mg Γ g x

/-! ### the check -/
def isStar : Expr → Bool
  | .Starred _ _ => true
  | _ => false
def isSet : Expr → Bool
  | .Set _ _ _ => true
  | _ => false
def isSlice : Expr → Bool
  | .Slice _ _ _ _ => true
  | _ => false
/-- a test that is taken by truth -/
def byTruth : Expr → Bool
  | .Name _ _ => true
  | .Call _ _ _ _ => true
  | .Subscript _ _ _ => true
  | .Attribute _ _ _ => true
  | .BinOp _ _ _ _ => true
  | _ => false
def visB (sc : Scope) (x : Str) : Bool := match sc.names.lookup x with
  | some .local => true
  | some .cell => true
  | some .free => true
  | _ => false
def locB (sc : Scope) (x : Str) : Bool := match sc.names.lookup x with
  | some .local => true
  | some .cell => true
  | _ => false
def glB (sc : Scope) (x : Str) : Bool := match sc.names.lookup x with
  | some .globalImplicit => true
  | _ => false
def tgB (N : List Str) (sc : Scope) : List Nat → List Expr → Bool
  | [], [] => true
  | i :: is, .Name x _ :: es => decide (N[i]? = some x) && locB sc x && tgB N sc is es
  | _, _ => false
def chkTg (N : List Str) (sc : Scope) : Tg → Expr → Bool
  | .nm i, .Name x _ => decide (N[i]? = some x) && locB sc x
  | .tp is, .Tuple es _ _ => tgB N sc is es
  | _, _ => false
def ownB (N : List Str) (own : List Nat) : List (Str × Nat) := own.filterMap fun i => (N[i]?).map fun x => (x, i)
def tgIn (own : List Nat) : Tg → Bool
  | .nm i => own.contains i
  | .tp is => is.all fun i => own.contains i
def isTupE : Expr → Bool
  | .Tuple _ _ _ => true
  | _ => false
/-- what may stand ahead of a field -/
def atB : Expr → Bool
  | .Name _ _ => true
  | .Subscript _ _ _ => true
  | _ => false
def nameIs (e : Expr) (x : Str) : Bool := match e with
  | .Name y _ => decide (y = x)
  | _ => false
def simpO : Expr → Bool
  | .Name _ _ => true
  | _ => false
def tyNames (sc : Scope) : List String → List Expr → Bool
  | [], [] => true
  | c :: cs, .Name y _ :: es => decide (y = Str.ofString c) && (["int", "bool", "str", "list", "tuple"].contains c && (glB sc y && tyNames sc cs es))
  | _, _ => false

def mthAr (m : Str) : List Expr → Bool
  | [] => decide (m = "pop")
  | [_] => decide (m = "append")
  | _ => false
def prtB (lo : Ex) (c : Expr → Bool) : Option Expr → Bool
  | none => isCn lo
  | some l => c l && !isCn lo
def isCi0 : Ex → Bool
  | .ci i => decide (i = 0)
  | _ => false
/-- isinstance's second argument: a class, or a tuple of classes -/
def tyArg (sc : Scope) (cs : List String) : Expr → Bool
  | .Name y p => tyNames sc cs [.Name y p]
  | .Tuple es _ _ => decide (es.length ≤ 5) && tyNames sc cs es
  | _ => false
def Exs.isNil : Exs → Bool
  | .nil => true
  | _ => false
mutual
/-- forms that serve as tests -/
def okT : Ex → Bool
  | .var _ => true
  | .no a => okT a
  | .an es => okTs es
  | .or es => okTs es
  | .cmp _ _ _ => true
  | .ch _ _ _ _ _ => true
  | .call _ _ => true
  | .callk _ _ _ _ => true
  | .blt _ _ _ => true
  | .ix _ _ => true
  | .inc _ _ _ => true
  | .isi _ _ => true
  | .isx _ _ => true
  | _ => false
def okTs : Exs → Bool
  | .nil => false
  | .cons a .nil => okT a
  | .cons a es => okT a && okTs es
end
def okC : Exs → Bool
  | .nil => true
  | .cons a .nil => okT a
  | _ => false
section
variable (N : List Str) (fn : List (Nat × Str × List Str)) (tb : List (Nat × Str))
mutual
def chkE : Scope → Ex → Expr → Bool
  | sc, .var i, .Name x _ => decide (N[i]? = some x) && visB sc x && !(x == ("__debug__" : Str)) && !(x == ("__classdict__" : Str))
  | _, .ci i, .Constant (.int j) _ _ => decide (i = j)
  | _, .cb b, .Constant (.bool c) _ _ => b == c
  | _, .cn, .Constant .none _ _ => true
  | _, .cs x, .Constant (.str y) _ _ => decide (x = y)
  | sc, .bin _ op a b, .BinOp e o f _ => decide (op = o) && chkE sc a e && chkE sc b f
  | sc, .un op a, .UnaryOp o e _ => decide (op = o) && chkE sc a e
  | sc, .no a, .UnaryOp .Not e _ => chkE sc a e
  | sc, .an es, .BoolOp .And fs _ => chkL sc es fs && !es.isNil
  | sc, .or es, .BoolOp .Or fs _ => chkL sc es fs && !es.isNil
  | sc, .cmp op a b, .Compare e [o] [f] _ => decide (op = o) && chkE sc a e && chkE sc b f && !isSet f
  | sc, .ch o1 o2 a b c, .Compare e [p1, p2] [f, g] _ => decide (o1 = p1) && decide (o2 = p2) && chkE sc a e && chkE sc b f && chkE sc c g && !isSet g
  | sc, .ife c a b, .IfExp t e f _ => chkE sc c t && chkE sc a e && chkE sc b f && okT c
  | sc, .tup es, .Tuple fs _ _ => chkL sc es fs
  | sc, .lst _ es, .List fs _ => chkL sc es fs
  | sc, .ix a i, .Subscript e f _ => chkE sc a e && chkE sc i f && !isSlice f
  | sc, .sl _ a lo hi, .Subscript e (.Slice l h none _) _ => chkE sc a e && prtB lo (chkE sc lo) l && prtB hi (chkE sc hi) h
  | sc, .rev _ a, .Subscript e (.Slice none none (some (.UnaryOp .USub (.Constant (.int j) _ _) _)) _) _ => decide (j = 1) && chkE sc a e
  | sc, .call g as, .Call (.Name x _) (e :: es) [] _ => decide (fn.lookup g = some (x, [])) && glB sc x && chkL sc as (e :: es)
  | sc, .callk g as ks kas, .Call (.Name x _) es kws _ => decide (fn.lookup g = some (x, ks)) && glB sc x && chkL sc as es && chkK sc kas kws && decide (kws.map (·.arg) = ks.map some) && !ks.isEmpty
  | sc, .blt _ f as, .Call (.Name x _) (e :: es) [] _ => decide (f = x) && bltNames.contains x && bltFns.contains x && glB sc x && chkL sc as (e :: es)
  | sc, .mth m o as, .Call (.Attribute e x ap) fs [] cp => decide (m = x) && mthAr m fs && chkE sc o e && simpO e && (ap.endLine == cp.line) && chkL sc as fs
  | sc, .lc _ own tg it cs elt, .ListComp e [⟨t, i, ifs, 0⟩] scope _ => chkI sc it t i && blkC N sc scope (ownB N own) && decide ((ownB N own).map (·.2) = own) && tgIn own tg && chkTg N scope tg t && chkL scope cs ifs && chkE scope elt e && !isSet i && okC cs
  | sc, .ixc g a, .Subscript (.Name x _) f _ => decide (tb.lookup g = some x) && glB sc x && chkE sc a f && !isSlice f && decide (g < 1000)
  | sc, .inc neg g a, .Compare e [o] [.Name x _] _ => decide (o = if neg then CmpOp.NotIn else CmpOp.In) && decide (tb.lookup g = some x) && glB sc x && chkE sc a e && decide (g < 1000)
  | sc, .isi a cs, .Call (.Name x _) [e, f] [] _ => decide (x = "isinstance") && glB sc x && !isStar e && chkE sc a e && tyArg sc cs f
  | sc, .lrg _ a b, .Call (.Name x _) [.Call (.Name y _) fs [] _] [] _ => decide (x = "list") && decide (y = "range") && glB sc x && glB sc y && (match fs with
    | [f] => isCi0 a && !isStar f && chkE sc b f
    | [e, f] => !isStar e && !isStar f && chkE sc a e && chkE sc b f
    | _ => false)
  | sc, .fld a f, .Attribute e x _ => decide (f = x) && chkE sc a e && atB e
  | sc, .isx a g, .Call (.Name x _) [e, .Name y _] [] _ => decide (x = "isinstance") && glB sc x && !isStar e && chkE sc a e && decide (tb.lookup g = some y) && decide (1000 ≤ g) && glB sc y
  | _, _, _ => false
termination_by structural _ x _ => x
def chkL : Scope → Exs → List Expr → Bool
  | _, .nil, [] => true
  | sc, .cons a as, e :: es => !isStar e && chkE sc a e && chkL sc as es
  | _, _, _ => false
termination_by structural _ x _ => x
def chkK : Scope → Exs → List Keyword → Bool
  | _, .nil, [] => true
  | sc, .cons a as, ⟨some _, e, _⟩ :: es => chkE sc a e && chkK sc as es
  | _, _, _ => false
termination_by structural _ x _ => x
def chkI : Scope → Itx → Expr → Expr → Bool
  | sc, .r1 a, _, .Call (.Name x _) [e] [] _ => decide (x = "range") && glB sc x && !isStar e && chkE sc a e
  | sc, .r2 a b, _, .Call (.Name x _) [e, f] [] _ => decide (x = "range") && glB sc x && !isStar e && !isStar f && chkE sc a e && chkE sc b f
  | sc, .ov a, _, e => chkE sc a e
  | sc, .en a, t, .Call (.Name x _) [e] [] _ => decide (x = "enumerate") && glB sc x && isTupE t && !isStar e && chkE sc a e
  | sc, .zp a b, t, .Call (.Name x _) [e, f] [] _ => decide (x = "zip") && glB sc x && isTupE t && !isStar e && !isStar f && chkE sc a e && chkE sc b f
  | _, _, _, _ => false
termination_by structural _ x _ _ => x
end
end

def isComp : Expr → Bool
  | .ListComp .. => true
  | .SetComp .. => true
  | .DictComp .. => true
  | _ => false
def locL (sc : Scope) (x : Str) : Bool := match sc.names.lookup x with
  | some .local => true
  | _ => false
def par2 : List Expr → Option (Str × Pos × Str × Pos × Nat × Pos)
  | [.Tuple [.Name x px, .Name y py] kt pt] => some (x, px, y, py, kt, pt)
  | _ => none
def tup2 : Expr → Option (Expr × Expr × Nat × Pos)
  | .Tuple [e, f] k p => some (e, f, k, p)
  | _ => none
theorem par2_eq {ts : List Expr} {x y : Str} {px py pt : Pos} {kt : Nat} (h : par2 ts = some (x, px, y, py, kt, pt)) : ts = [.Tuple [.Name x px, .Name y py] kt pt] := by
  unfold par2 at h
  split at h
  · simp only [Option.some.injEq, Prod.mk.injEq] at h
    obtain ⟨rfl, rfl, rfl, rfl, rfl, rfl⟩ := h
    rfl
  · cases h
theorem tup2_eq {v e f : Expr} {k : Nat} {p : Pos} (h : tup2 v = some (e, f, k, p)) : v = .Tuple [e, f] k p := by
  unfold tup2 at h
  split at h
  · simp only [Option.some.injEq, Prod.mk.injEq] at h
    obtain ⟨rfl, rfl, rfl, rfl⟩ := h
    rfl
  · cases h
section
variable (N : List Str) (fn : List (Nat × Str × List Str)) (tb : List (Nat × Str)) (sc : Scope)
mutual
def chkS : Sx → Stmt → Bool
  | .skip, .Pass _ => true
  | .skip, .Expr (.Constant (.str _) _ _) _ => true
  | .set i e, .Assign [.Name x _] v _ => decide (N[i]? = some x) && locB sc x && chkE N fn tb sc e v
  | .unp tg e, .Assign [t] v _ => isTupE t && !isTupE v && chkTg N sc tg t && chkE N fn tb sc e v
  | .par i j a b, .Assign ts v _ => (match par2 ts, tup2 v with
    | some (x, px, y, py, _, _), some (e, f, _, _) => decide (N[i]? = some x) && decide (N[j]? = some y) && !decide (i = j) && !decide (x = y) && locL sc x && locL sc y && (px.line == py.line) &&
      !isStar e && !isStar f && !(foldedForSure 8 e && foldedForSure 8 f) && !(constantsAlone 8 e && constantsAlone 8 f) && chkE N fn tb sc a e && chkE N fn tb sc b f
    | _, _ => false)
  | .aug i op e, .AugAssign (.Name x _) o v _ => decide (N[i]? = some x) && locB sc x && decide (op = o) && chkE N fn tb sc e v
  | .sto o i e, .Assign [.Subscript f g _] v _ => chkE N fn tb sc o f && chkE N fn tb sc i g && chkE N fn tb sc e v && !isSlice g
  | .stg op o i e, .AugAssign (.Subscript f g _) p v _ => decide (op = p) && chkE N fn tb sc o f && chkE N fn tb sc i g && chkE N fn tb sc e v && !isSlice g
  | .ex e, .Expr v _ => chkE N fn tb sc e v && !isComp v
  | .ret e, .Return (some v) _ => chkE N fn tb sc e v
  | .retn, .Return none _ => true
  | .ite c a b, .If t p q _ => chkE N fn tb sc c t && okT c && chkB a p && chkB b q
  | .for tg it b, .For t i p [] _ => chkI N fn tb sc it t i && chkTg N sc tg t && chkB b p && !isSet i
  | .whl c b, .While t p [] _ => chkE N fn tb sc c t && okT c && chkB b p
  | .brk, .Break _ => true
  | .cnt, .Continue _ => true
  | .thru b, .Try p (_ :: _) [] [] _ => chkB b p
  | .nev, _ => true
  | _, _ => false
termination_by structural x => x
def chkB : Sxs → List Stmt → Bool
  | .nil, [] => true
  | .cons s r, st :: rest => chkS s st && chkB r rest
  | _, _ => false
termination_by structural x => x
end
end
end Bx

set_option Elab.async false
set_option linter.all false
set_option maxRecDepth 100000
set_option maxHeartbeats 8000000
/-! Bx, part E: an expression that passes the check does what its want says. -/
namespace Bx
open PySem PySem.Spec PyProof.Rows L2

/-! ### small facts of the text -/
theorem star_cons {e : Expr} (h : isStar e = false) (es : List Expr) (env : PySem.Env) : starEach (e :: es) env = (false, eval e env) :: starEach es env := by
  cases e <;> first | rfl | cases h
theorem noSet {f : Expr} (h : isSet f = false) : ∀ es k p, f ≠ .Set es k p := fun es k p z => by rw [z] at h; cases h
theorem fold_plain {i : Expr} (h : isSet i = false) (env : PySem.Env) (x : Value) : foldedSetIterable i env x = pure x := by
  cases i <;> first | rfl | cases h
theorem plainIx {b : Expr} (h : isSlice b = false) : PlainIx b := fun o i => by
  cases b <;> first | rfl | cases h
theorem truth_road {e : Expr} (h : byTruth e = true) (env : PySem.Env) (wh : Sem Value) : isTrue e env wh = (do let v ← wh; standAt e.pos; holding [v] (truthy v)) := by
  cases e <;> first | rfl | cases h
section
variable {X : Cx} {W : WX} {lv : Nat} {N : List Str} {sc : Scope} {fn : List (Nat × Str × List Str)} {tb : List (Nat × Str)} {Γ : Gm}
theorem Env'.vis (E : Env' X W lv N sc fn tb Γ) {x : Str} (h : visB sc x = true) : Vis X.env.scope x := by
  unfold visB at h
  cases q : sc.names.lookup x with
  | none => rw [q] at h; cases h
  | some k =>
    rw [q] at h
    rcases E.lk x k q with z | ⟨rfl, z⟩
    · cases k <;> first | exact .inl z | exact .inr (.inl z) | exact .inr (.inr z) | cases h
    · exact .inr (.inl z)
theorem Env'.loc (E : Env' X W lv N sc fn tb Γ) {x : Str} (h : locB sc x = true) : Loc X.env.scope x ∧ (X.fn x = true ∨ X.env.scope.names.lookup x = some .local) := by
  unfold locB at h
  cases q : sc.names.lookup x with
  | none => rw [q] at h; cases h
  | some k =>
    rw [q] at h
    rcases E.lk x k q with z | ⟨rfl, z⟩
    · cases k with
      | «local» => exact ⟨.inl z, .inr z⟩
      | cell => exact ⟨.inr z, .inl (E.fnc x q)⟩
      | _ => cases h
    · cases h
theorem Env'.gl (E : Env' X W lv N sc fn tb Γ) {x : Str} (h : glB sc x = true) : Gl X x := by
  unfold glB at h
  cases q : sc.names.lookup x with
  | none => rw [q] at h; cases h
  | some k =>
    rw [q] at h
    rcases E.lk x k q with z | ⟨rfl, z⟩
    · cases k <;> first | exact z | cases h
    · cases h
theorem Env'.bl (E : Env' X W lv N sc fn tb Γ) (x : Str) (h : bltNames.contains x = true := by decide +kernel) : X.mg x = none := E.blt x (List.contains_iff_mem.mp h)
theorem plains : ∀ {as : Exs} {es : List Expr} {sc : Scope} (pos : Pos) (env : PySem.Env), chkL N fn tb sc as es = true → (backTo pos (starEach es env)).any (·.1) = false
  | .nil, [], _, _, _, _ => rfl
  | .nil, _ :: _, _, _, _, h => by unfold chkL at h; cases h
  | .cons _ _, [], _, _, _, h => by unfold chkL at h; cases h
  | .cons a as, e :: es, sc, pos, env, h => by
    unfold chkL at h
    obtain ⟨h1, h2⟩ := Bool.and_eq_true_iff.mp h
    obtain ⟨h3, _⟩ := Bool.and_eq_true_iff.mp h1
    have h3' : isStar e = false := by simpa using h3
    rw [star_cons h3' es env]
    have ih := plains pos env h2
    unfold backTo at ih ⊢
    rw [List.map_cons, List.any_cons]
    simpa using ih
end

/-! ### a built-in's call -/
theorem blt_len {fz : Bool} {ds : List D} {M : Mp} {Q : KE} : bltW fz "len" ds M Q = lenW ds M Q := by unfold bltW; rw [if_pos rfl]
theorem blt_int {fz : Bool} {ds : List D} {M : Mp} {Q : KE} : bltW fz "int" ds M Q = int1W ds M Q := by unfold bltW; rw [if_neg (by decide +kernel), if_pos rfl]
theorem blt_abs {fz : Bool} {ds : List D} {M : Mp} {Q : KE} : bltW fz "abs" ds M Q = absW ds M Q := by unfold bltW; rw [if_neg (by decide +kernel), if_neg (by decide +kernel), if_pos rfl]
theorem blt_min {fz : Bool} {ds : List D} {M : Mp} {Q : KE} : bltW fz "min" ds M Q = minW ds M Q := by unfold bltW; rw [if_neg (by decide +kernel), if_neg (by decide +kernel), if_neg (by decide +kernel), if_pos rfl]
theorem blt_max {fz : Bool} {ds : List D} {M : Mp} {Q : KE} : bltW fz "max" ds M Q = maxW ds M Q := by unfold bltW; rw [if_neg (by decide +kernel), if_neg (by decide +kernel), if_neg (by decide +kernel), if_neg (by decide +kernel), if_pos rfl]
theorem blt_sum {fz : Bool} {ds : List D} {M : Mp} {Q : KE} : bltW fz "sum" ds M Q = sumW ds M Q := by unfold bltW; rw [if_neg (by decide +kernel), if_neg (by decide +kernel), if_neg (by decide +kernel), if_neg (by decide +kernel), if_neg (by decide +kernel), if_pos rfl]
theorem blt_tuple {fz : Bool} {ds : List D} {M : Mp} {Q : KE} : bltW fz "tuple" ds M Q = tupleW ds M Q := by unfold bltW; rw [if_neg (by decide +kernel), if_neg (by decide +kernel), if_neg (by decide +kernel), if_neg (by decide +kernel), if_neg (by decide +kernel), if_neg (by decide +kernel), if_pos rfl]
theorem blt_list {fz : Bool} {ds : List D} {M : Mp} {Q : KE} : bltW fz "list" ds M Q = listW fz ds M Q := by unfold bltW; rw [if_neg (by decide +kernel), if_neg (by decide +kernel), if_neg (by decide +kernel), if_neg (by decide +kernel), if_neg (by decide +kernel), if_neg (by decide +kernel), if_neg (by decide +kernel), if_pos rfl]

theorem CallR.or {X : Cx} {f : Value} {r r' : List V → Hp → VK → Prop} (h : CallR X f r) (h' : CallR X f r') : CallR X f (fun xs H Q => r xs H Q ∨ r' xs H Q) := by
  intro pins s σ H xs us Q I rv q
  rcases q with q | q
  · exact h pins s σ H xs us Q I rv q
  · exact h' pins s σ H xs us Q I rv q
section
variable {X : Cx}
/-- a built-in by its name: how it boots, its rule, and that the want gives what the rule asks -/
structure BlB (X : Cx) (f : Str) (u : Value) : Prop where
  boot : bootBuiltins f = some u
  nn : f ≠ "__name__"
  nd : (f == ("__debug__" : Str)) = false
  ex : ∃ r : List V → Hp → VK → Prop, CallR X u r ∧ ∀ Z fz ds M H vs (Q0 : KE) (Q : VK), bltW fz f ds M Q0 → RM ⟨X.K, Z⟩ M H → Rvs ⟨X.K, Z⟩ M H ds vs → Cl ⟨X.K, Z⟩ M H Q0 Q → r vs H Q
theorem seq_ints {K : KZ} {M : Mp} {H : Hp} {x : D} {v : V} {ns : List Int} (e : itemsOf M x = some (ns.map D.int)) (n : ∀ xs, x ≠ .tup xs) (m : RM K M H) (r : Rv K M H x v) : ∃ a, v = .ref a ∧ SqL K.k H a (ns.map V.int) := by
  obtain ⟨a, vs, rfl, h, rs⟩ := items_ok e m r
  rcases h with ⟨h, _⟩ | ⟨_, z⟩
  · exact ⟨a, rfl, by rw [← rs.ints]; exact h⟩
  · exact absurd z (n _)
theorem bl_len : BlB X "len" (.builtin "len") := by
  refine ⟨boot_len, by decide +kernel, by decide +kernel, _, call_len_seq, fun Z fz ds M H vs Q0 Q w m r k => ?_⟩
  rw [blt_len] at w
  cases r with
  | nil => exact w.elim
  | cons r1 r =>
    cases r with
    | cons _ _ => exact w.elim
    | nil =>
      obtain ⟨xs, e, q⟩ := w
      obtain ⟨a, vs, rfl, h, rs⟩ := items_ok e m r1
      refine ⟨a, vs, rfl, h.elim (fun z => .inl z.1) (fun z => .inr z.1), ?_⟩
      rw [← rs.length]
      exact k.here q m (.int _)
theorem bl_int : BlB X "int" (.type "int") := by
  refine ⟨boot_int, by decide +kernel, by decide +kernel, _, call_int1, fun Z fz ds M H vs Q0 Q w m r k => ?_⟩
  rw [blt_int] at w
  cases r with
  | nil => exact w.elim
  | cons r1 r =>
    cases r with
    | cons _ _ => cases r1 <;> exact w.elim
    | nil =>
      cases r1 with
      | int i => exact .inl ⟨i, rfl, k.here w m (.int _)⟩
      | bl b => exact .inr ⟨b, rfl, k.here w m (.int _)⟩
      | _ => exact w.elim
theorem bl_abs : BlB X "abs" (.builtin "abs") := by
  refine ⟨by decide +kernel, by decide +kernel, by decide +kernel, _, call_abs, fun Z fz ds M H vs Q0 Q w m r k => ?_⟩
  rw [blt_abs] at w
  cases r with
  | nil => exact w.elim
  | cons r1 r =>
    cases r with
    | cons _ _ => cases r1 <;> exact w.elim
    | nil =>
      cases r1 with
      | int i => exact ⟨i, rfl, k.here w m (.int _)⟩
      | _ => exact w.elim
theorem one_list {w : D → Prop} {two : Int → Int → Prop} {ds : List D} (h : match ds with
    | [.int i, .int j] => two i j
    | [x] => w x
    | _ => False) : (∃ i j, ds = [.int i, .int j] ∧ two i j) ∨ ∃ x, ds = [x] ∧ w x := by
  match ds, h with
  | [], h => exact h.elim
  | [x], h => exact .inr ⟨x, rfl, by cases x <;> exact h⟩
  | [.int i, .int j], h => exact .inl ⟨i, j, rfl, h⟩
  | x :: y :: z :: r, h => cases x <;> cases y <;> exact h.elim
  | [.non, _], h => exact h.elim
  | [.bl _, _], h => exact h.elim
  | [.str _, _], h => exact h.elim
  | [.tup _, _], h => exact h.elim
  | [.rl _, _], h => exact h.elim
  | [.wl _, _], h => exact h.elim
  | [.obj _, _], h => exact h.elim
  | [.int _, .non], h => exact h.elim
  | [.int _, .bl _], h => exact h.elim
  | [.int _, .str _], h => exact h.elim
  | [.int _, .tup _], h => exact h.elim
  | [.int _, .rl _], h => exact h.elim
  | [.int _, .wl _], h => exact h.elim
  | [.int _, .obj _], h => exact h.elim
theorem bl_min (hc : X.calm = true) : BlB X "min" (.builtin "min") := by
  refine ⟨by decide +kernel, by decide +kernel, by decide +kernel, _, CallR.or (call_min2 hc) (cr_min hc), fun Z fz ds M H vs Q0 Q w m r k => ?_⟩
  rw [blt_min] at w
  rcases one_list w with ⟨i, j, rfl, q⟩ | ⟨x, rfl, ns, ⟨e, n⟩, h0, q⟩
  · cases r with
    | cons r1 r =>
      cases r with
      | cons r2 r => cases r; cases r1; cases r2; exact .inl ⟨i, j, rfl, k.here q m (.int _)⟩
  · cases r with
    | cons r1 r =>
      cases r
      obtain ⟨a, rfl, h⟩ := seq_ints e n m r1
      exact .inr ⟨a, ns, rfl, h, h0, fun y h1 h2 => k.here (q y h1 h2) m (.int _)⟩
theorem bl_max (hc : X.calm = true) : BlB X "max" (.builtin "max") := by
  refine ⟨by decide +kernel, by decide +kernel, by decide +kernel, _, CallR.or (call_max2 hc) (cr_max hc), fun Z fz ds M H vs Q0 Q w m r k => ?_⟩
  rw [blt_max] at w
  rcases one_list w with ⟨i, j, rfl, q⟩ | ⟨x, rfl, ns, ⟨e, n⟩, h0, q⟩
  · cases r with
    | cons r1 r =>
      cases r with
      | cons r2 r => cases r; cases r1; cases r2; exact .inl ⟨i, j, rfl, k.here q m (.int _)⟩
  · cases r with
    | cons r1 r =>
      cases r
      obtain ⟨a, rfl, h⟩ := seq_ints e n m r1
      exact .inr ⟨a, ns, rfl, h, h0, fun y h1 h2 => k.here (q y h1 h2) m (.int _)⟩
theorem bl_sum (hc : X.calm = true) : BlB X "sum" (.builtin "sum") := by
  refine ⟨by decide +kernel, by decide +kernel, by decide +kernel, _, cr_sum hc, fun Z fz ds M H vs Q0 Q w m r k => ?_⟩
  rw [blt_sum] at w
  cases r with
  | nil => exact w.elim
  | cons r1 r =>
    cases r with
    | cons _ _ => exact w.elim
    | nil =>
      obtain ⟨ns, ⟨e, n⟩, q⟩ := w
      obtain ⟨a, rfl, h⟩ := seq_ints e n m r1
      exact ⟨a, ns, rfl, h, k.here q m (.int _)⟩
theorem bl_tuple : BlB X "tuple" (.type "tuple") := by
  refine ⟨by decide +kernel, by decide +kernel, by decide +kernel, _, call_tuple_of, fun Z fz ds M H vs Q0 Q w m r k => ?_⟩
  rw [blt_tuple] at w
  cases r with
  | nil => exact w.elim
  | cons r1 r =>
    cases r with
    | cons _ _ => exact w.elim
    | nil =>
      obtain ⟨xs, e, q⟩ := w
      obtain ⟨a, vs, rfl, h, rs⟩ := items_ok e m r1
      refine ⟨a, vs, rfl, ?_⟩
      rcases h with ⟨h, _⟩ | ⟨h, z⟩
      · exact .inl ⟨h, newT_ok q m rs k⟩
      · subst z; exact .inr ⟨h, k.here q m r1⟩
theorem bl_list : BlB X "list" (.type "list") := by
  refine ⟨by decide +kernel, by decide +kernel, by decide +kernel, _, call_list_of, fun Z fz ds M H vs Q0 Q w m r k => ?_⟩
  rw [blt_list] at w
  cases r with
  | nil => exact w.elim
  | cons r1 r =>
    cases r with
    | cons _ _ => exact w.elim
    | nil =>
      obtain ⟨xs, e, q⟩ := w
      obtain ⟨a, vs, rfl, h, rs⟩ := items_ok e m r1
      exact ⟨a, vs, rfl, h.elim (fun z => .inl z.1) (fun z => .inr z.1), (newL_ok q m rs k).2⟩
/-- any built-in of the want: a function or a type -/
theorem bl_any (hc : X.calm = true) (f : Str) (h : bltFns.contains f = true) : (∃ id, BlB X f (.builtin id)) ∨ (∃ T, BlB X f (.type T)) := by
  by_cases h1 : f = "len"; · subst h1; exact .inl ⟨_, bl_len⟩
  by_cases h2 : f = "int"; · subst h2; exact .inr ⟨_, bl_int⟩
  by_cases h3 : f = "abs"; · subst h3; exact .inl ⟨_, bl_abs⟩
  by_cases h4 : f = "min"; · subst h4; exact .inl ⟨_, bl_min hc⟩
  by_cases h5 : f = "max"; · subst h5; exact .inl ⟨_, bl_max hc⟩
  by_cases h6 : f = "sum"; · subst h6; exact .inl ⟨_, bl_sum hc⟩
  by_cases h7 : f = "tuple"; · subst h7; exact .inr ⟨_, bl_tuple⟩
  by_cases h8 : f = "list"; · subst h8; exact .inr ⟨_, bl_list⟩
  have hm := List.contains_iff_mem.mp h
  unfold bltFns at hm
  simp only [List.mem_cons, List.not_mem_nil, or_false] at hm
  rcases hm with z | z | z | z | z | z | z | z
  · exact absurd z h1
  · exact absurd z h2
  · exact absurd z h3
  · exact absurd z h4
  · exact absurd z h5
  · exact absurd z h6
  · exact absurd z h7
  · exact absurd z h8
end
end Bx

set_option Elab.async false
set_option linter.all false
set_option maxRecDepth 100000
set_option maxHeartbeats 8000000
/-! Bx, part I: what is walked: a list or a tuple; enumerate of either. -/
namespace Bx
open PySem PySem.Spec PyProof.Rows L2
section
variable {X : Cx} {tg : Expr}
def iSeq (K : PySem.W.Frag) (tl : TE) : TI := fun σ H R => tl σ H fun x H1 => ∃ a, x = .ref a ∧ ((∃ xs, SqL K H1 a xs) ∧ R (Itl K a) H1 ∨ (∃ xs, SqT K H1 a xs) ∧ R (Itt K a) H1)
theorem pi_seq {l : Expr} {tl : TE} (hl : PE X l tl) : PI X tg l (iSeq X.K tl) := by
  refine ⟨fun pins s σ H R I h => ?_⟩
  refine thn (hl.run pins s σ H _ I h) fun v s1 ⟨x, H1, I1, r1, q1⟩ => ?_
  obtain ⟨a, e, q⟩ := q1
  subst e
  cases r1
  have fin : ∀ b ∈ [s1.heap.objs.size], FpOk X pins H1 b := fun b hb => by
    have e : b = s1.heap.objs.size := by simpa using hb
    subst e
    exact I1.fpOk (Nat.le_refl _) (I1.hok.fresh (Nat.le_refl _))
  rcases q with ⟨⟨xs, hq⟩, q⟩ | ⟨⟨xs, hq⟩, q⟩
  · obtain ⟨its, rv, p, hz⟩ := I1.list hq
    refine wpAny_pyIter_list p.isList ?_
    exact ⟨s1.heap.objs.size, [s1.heap.objs.size], _, _, H1, rfl, I1.kept (t' := s1.toks) fun b o e => Heap.get?_push_of_some _ e, turn_list a _, ⟨_, Heap.get?_push_size _ rfl, rfl, rfl⟩, fin, q⟩
  · obtain ⟨its, rv, p, hz⟩ := I1.tuple hq
    refine wpAny_pyIter_tuple (show s1.heap.IsTuple a its.toArray from p) ?_
    exact ⟨s1.heap.objs.size, [s1.heap.objs.size], _, _, H1, rfl, I1.kept (t' := s1.toks) fun b o e => Heap.get?_push_of_some _ e, turn_tuple a _, ⟨_, Heap.get?_push_size _ rfl, rfl, rfl⟩, fin, q⟩

/-- the tuple at a, each item in a new pair -/
def IteT (K : PySem.W.Frag) (a : Addr) : It :=
  ⟨fun i H => ∃ (xs : List V) (x : V), SqT K H a xs ∧ xs[i]? = some x, fun i H v H' => ∃ T x, v = .ref T ∧ H T = none ∧ H' = upd H T (.tup [.int (i : Nat), x]) ∧ ∀ xs, SqT K H a xs → xs[i]? = some x, fun i H => ∃ xs : List V, SqT K H a xs ∧ xs.length = i⟩
theorem turn_enumT {P : Program} {w : World} {K : PySem.W.Frag} {elts : List Expr} {kk : Nat} {tpos : Pos} (a e it : Addr) :
    Turn P w K (.Tuple elts kk tpos) (IteT K a) [e, it] e (fun i h => (∃ old, IsEnum h e it ((i : Nat) : Int) old) ∧ h.IsTupleIter it a i ∧ e ≠ it ∧ a ≠ it ∧ e ≠ a) where
  mem := by simp
  obj := fun i h st b hb => by
    obtain ⟨⟨old, he⟩, ⟨o, ho, hc, hd⟩, _⟩ := st
    have e' : b = e ∨ b = it := by simpa using hb
    rcases e' with z | z
    · rw [z]; exact ⟨_, he, fun v q => nomatch q⟩
    · rw [z]; exact ⟨o, ho, fun v q => by rw [hd] at q; cases q⟩
  keep := fun i h h' st k => let ⟨⟨old, he⟩, hi, hne⟩ := st; ⟨⟨old, k e (by simp) _ he⟩, hi.at fun o q => k it (by simp) o q, hne⟩
  item := by
    intro X hP hw hK hc i pins s σ H E I hf st hg
    subst hP hw hK
    obtain ⟨⟨old, he⟩, hit, hne, hai, hea⟩ := st
    obtain ⟨xs, x, hq, hx⟩ := hg
    obtain ⟨its, rv, p, hz⟩ := I.tuple hq
    obtain ⟨u, hu, ru⟩ := rv.get hx
    have hel : e < s.heap.objs.size := Heap.lt_size he
    have hil : it < s.heap.objs.size := by obtain ⟨_, q, _⟩ := hit; exact Heap.lt_size q
    have hlt : i < its.toArray.size := by
      have := (List.getElem?_eq_some_iff.mp hu).1
      simpa using this
    refine wpAny_pyNext_enum_itemD (Draws.tuple (prog := X.prog) (w := X.w) (A := X.A.in1) (I.ok.hd hc) it a hai its.toArray) he ⟨hit, (show s.heap.IsTuple a its.toArray from p)⟩ hlt hne (by simp [hne, hea]) fun u' h' tk hu' ho hit' hT hsz hk => ?_
    obtain rfl : u' = u := by
      have e1 : its.toArray[i]? = some u := by simpa using hu
      rw [e1] at hu'
      exact (Option.some.inj hu').symm
    obtain ⟨hit', _⟩ := hit'
    refine ⟨_, rfl, wpAny_letOwnedTupleGo_enum (s := { s with heap := h', toks := tk + 1 }) ho fun h'' he' sb => ?_⟩
    have hT2 : h''.get? s.heap.objs.size = some { cls := .type "tuple", data := .seq #[.int i tk, u'] } := (sb.2 _ (Nat.ne_of_gt hel)).trans hT
    have new : ObjOk X.prog X.w (upd H s.heap.objs.size (.tup [.int (i : Nat), x])) h'' s.heap.objs.size (.tup [.int (i : Nat), x]) :=
      ⟨by show 2 ≤ sizeLine; decide, [.int i tk, u'], .cons ⟨_, rfl⟩ (.cons ru .nil), ⟨_, hT2, rfl, _, rfl⟩⟩
    have I1 : Inv X pins σ (upd H s.heap.objs.size (.tup [.int (i : Nat), x])) { s with heap := h'', toks := tk + 1 } :=
      I.turnedNew (ch := [e, it]) (fun b ob hb q => (sb.2 b (fun z => hb (by simp [z]))).trans (hk b ob (fun z => hb (by simp [z])) (fun z => hb (by simp [z])) q)) hf (Nat.le_refl _) new
    refine ⟨.ref s.heap.objs.size, _, I1, rfl, ⟨_, x, rfl, I.hok.fresh (Nat.le_refl _), rfl, fun ys hy => by rw [I.tuple_inj hy hq]; exact hx⟩, ⟨⟨u', ?_⟩, hit'.at fun o q => (sb.2 it (Ne.symm hne)).trans q, hne, hai, hea⟩, fun b hb => ?_⟩
    · have e1 : ((i + 1 : Nat) : Int) = (i : Int) + 1 := by omega
      rw [e1]; exact he'
    · have hb' : b < s.heap.objs.size := by
        have e' : b = e ∨ b = it := by simpa using hb
        rcases e' with z | z
        · rw [z]; exact hel
        · rw [z]; exact hil
      rw [upd_ne (Nat.ne_of_lt hb')]
      exact (hf b hb).1
  done := by
    intro X hP hw hK hc i pins s σ H E I hf st hg
    subst hP hw hK
    obtain ⟨⟨old, he⟩, hit, hne, hai, hea⟩ := st
    obtain ⟨xs, hq, hx⟩ := hg
    obtain ⟨its, rv, p, hz⟩ := I.tuple hq
    obtain ⟨f0, f1, f2, f3, f4, f5⟩ := hf it (by simp)
    have hl := rv.length
    have ei : its.toArray.size = i := by simp; omega
    refine wpAny_pyNext_enum_endD (Draws.tuple (prog := X.prog) (w := X.w) (A := X.A.in1) (I.ok.hd hc) it a hai its.toArray) he (by rw [ei]; exact ⟨hit, (show s.heap.IsTuple a its.toArray from p)⟩) fun h' eb => ⟨rfl, I.turned (t' := s.toks) (fun b o hb q => eb b o hb q) f0 f1 f3 f4 f5⟩
  self := fun A i s Q E st h => let ⟨⟨_, he⟩, _⟩ := st; wpAny_pyIter_enum he h
end
set_option maxHeartbeats 1000000 in
theorem meets_enumerate_new1 {v : Value} {o : Obj} {H : Heap → Prop} (B : Begins v o H) :
    Meets (Builtin.«enumerate.__new__» ⟨[.type "enumerate", v], []⟩) (fun _ R s => H s.heap ∧
      R (.ok (.ret (.ref (s.heap.push o).objs.size))) { s with heap := (s.heap.push o).push { cls := .type "enumerate", data := .fields #[.none, .bool false, .ref s.heap.objs.size, rawInt 0, .none, .none] } }) :=
  .of_wp fun prog w A R s h => by
    obtain ⟨hp, g, d, tk, os⟩ := s; obtain ⟨h1, h⟩ := h
    have hsub := sub_enumerate
    have q1 : ∀ {A' : Around} {E : Value → Shared → Prop} {Q : Value → Shared → Prop}, Q (.ref hp.objs.size) ⟨hp.push o, g, d, tk, os⟩ → wpAny (model prog w) A' (pyIter v) Q E ⟨hp, g, d, tk, os⟩ :=
      fun q => B.iter prog w _ _ ⟨hp, g, d, tk, os⟩ _ h1 q
    wp_walk using q1
    refine wpAny_stack_any fun st => wpAny_pure ?_
    split
    · rename_i c _ _ _ _ _
      cases (c == Value.type "enumerate")
      · wp_walk using q1
        exact ⟨_, rfl, h⟩
      · wp_walk using q1
        exact ⟨_, rfl, h⟩
    · wp_walk using q1
      exact ⟨_, rfl, h⟩
section
variable {X : Cx} {tg : Expr}
theorem call_enumerate_tuple {prog : Program} {w : World} {A : Around} {E : Value → Shared → Prop} {s : Shared} {l : Addr} {items : Array Value} {Q : Value → Shared → Prop} (hL : s.heap.IsTuple l items)
    (h : ∀ h', IsEnum h' (s.heap.objs.size + 1) s.heap.objs.size 0 .none → h'.IsTupleIter s.heap.objs.size l 0 → h'.objs.size = s.heap.objs.size + 2 →
      (∀ b o, s.heap.get? b = some o → h'.get? b = some o) → Q (.ref (s.heap.objs.size + 1)) { s with heap := h' }) :
    wpAny (model prog w) A (call (.type "enumerate") [.ref l]) Q E s := by
  have B := begins_tuple l items
  refine callType_new F.called_enumerate (by decide) (F.typeCall_enumerate_1 _) (F.newCall_enumerate_1 _) (fun obj => F.args_object_init_2 obj _) F.entry_enumerate_new
    (meets_enumerate_new1 B) ⟨hL, ?_⟩
  generalize ho : ({ cls := .type "tuple_iterator", data := .fields #[.ref l, .int 0 0] } : Obj) = o at B ⊢
  have hz : (s.heap.push o).objs.size = s.heap.objs.size + 1 := Heap.size_push ..
  show _ ∧ _
  rw [hz]
  have he : IsEnum ((s.heap.push o).push { cls := .type "enumerate", data := .fields #[.none, .bool false, .ref s.heap.objs.size, rawInt 0, .none, .none] }) (s.heap.objs.size + 1) s.heap.objs.size 0 .none := by
    have := Heap.get?_push_size (s.heap.push o) (o := { cls := .type "enumerate", data := .fields #[.none, .bool false, .ref s.heap.objs.size, rawInt 0, .none, .none] }) rfl
    rw [hz] at this; exact this
  have hit := Heap.get?_push_of_some { cls := .type "enumerate", data := .fields #[.none, .bool false, .ref s.heap.objs.size, rawInt 0, .none, .none] } (Heap.get?_push_size s.heap B.free)
  subst ho
  exact ⟨⟨_, he, rfl⟩, h _ he ⟨_, hit, rfl, rfl⟩ (by rw [Heap.size_push, hz]) fun b o x => Heap.get?_push_of_some _ (Heap.get?_push_of_some _ x)⟩
def iEn (K : PySem.W.Frag) (ta : TA) : TI := fun σ H R => ta σ H fun vs H1 => ∃ a xs, vs = [.ref a] ∧ ((SqL K H1 a xs ∧ R (Ite K a) H1) ∨ (SqT K H1 a xs ∧ R (IteT K a) H1))
theorem pi_en {e : Expr} {ta : TA} {p pos tpos : Pos} {elts : List Expr} {kk : Nat} (hg : Gl X "enumerate") (hm : X.mg "enumerate" = none) (ha : PA X [e] ta) (hs : starEach [e] X.env = [(false, eval e X.env)]) :
    PI X (.Tuple elts kk tpos) (.Call (.Name "enumerate" p) [e] [] pos) (iEn X.K ta) := by
  refine ⟨fun pins s σ H R I h => ?_⟩
  refine Call_ (ld_blt I hg hm boot_enumerate (PyProof.Rows.callWith_type1 (thn (ha.run pos pins s σ H _ I h) fun us s1 ⟨vs, H1, I1, r1, q1⟩ => ?_) hs rfl))
  obtain ⟨a, xs, ex, q⟩ := q1
  subst ex
  cases r1 with
  | cons r rr =>
    cases rr
    cases r
    have fin : ∀ b ∈ [s1.heap.objs.size + 1, s1.heap.objs.size], FpOk X pins H1 b := fun b hb => by
      have e' : b = s1.heap.objs.size + 1 ∨ b = s1.heap.objs.size := by simpa using hb
      have hle : s1.heap.objs.size ≤ b := by
        rcases e' with z | z
        · rw [z]; exact Nat.le_add_right _ _
        · rw [z]; exact Nat.le_refl _
      exact I1.fpOk hle (I1.hok.fresh hle)
    rcases q with ⟨hq, q⟩ | ⟨hq, q⟩
    · obtain ⟨its, rv, p', hz⟩ := I1.list hq
      refine call_enumerate_list p'.isList fun h' he hit hsz hk => wpAny_pyIter_enum he ?_
      have I2 : Inv X pins σ H1 { s1 with heap := h' } := I1.kept (t' := s1.toks) hk
      exact ⟨s1.heap.objs.size + 1, [s1.heap.objs.size + 1, s1.heap.objs.size], _, _, H1, rfl, I2, turn_enum a (s1.heap.objs.size + 1) s1.heap.objs.size, ⟨⟨.none, he⟩, hit, Nat.succ_ne_self _⟩, fin, q⟩
    · obtain ⟨its, rv, p', hz⟩ := I1.tuple hq
      have hlt : a < s1.heap.objs.size := p'.lt
      refine call_enumerate_tuple (show s1.heap.IsTuple a its.toArray from p') fun h' he hit hsz hk => wpAny_pyIter_enum he ?_
      have I2 : Inv X pins σ H1 { s1 with heap := h' } := I1.kept (t' := s1.toks) hk
      exact ⟨s1.heap.objs.size + 1, [s1.heap.objs.size + 1, s1.heap.objs.size], _, _, H1, rfl, I2, turn_enumT a (s1.heap.objs.size + 1) s1.heap.objs.size, ⟨⟨.none, he⟩, hit, Nat.succ_ne_self _, Nat.ne_of_lt hlt, Nat.ne_of_gt (Nat.lt_succ_of_lt hlt)⟩, fin, q⟩
end
end Bx

set_option Elab.async false
set_option linter.all false
set_option maxRecDepth 100000
set_option maxHeartbeats 8000000
/-! Bx, part I2: zip of two, each a list or a tuple. -/
namespace Bx
open PySem PySem.Spec PyProof.Rows L2
/-- a tuple (true), a list (false) -/
def SqB : Bool → PySem.W.Frag → Hp → Addr → List V → Prop
  | true => SqT
  | false => SqL
def ItB : Bool → Heap → Addr → Addr → Nat → Prop
  | true => fun h i a n => h.IsTupleIter i a n
  | false => fun h i a n => h.IsListIter i a n
def IsB : Bool → Heap → Addr → Array Value → Prop
  | true => fun h a its => h.IsTuple a its
  | false => fun h a its => h.IsList a its
def iterO : Bool → Addr → Obj
  | true => fun a => { cls := .type "tuple_iterator", data := .fields #[.ref a, .int 0 0] }
  | false => fun a => { cls := .type "list_iterator", data := .fields #[.ref a, .int 0 0] }
theorem draws_b {prog : Program} {w : World} {A : Around} (hh : A.handled = none) (b : Bool) (it l : Addr) (hne : l ≠ it) (items : Array Value) :
    Draws prog w A it [it, l] items.size (fun i v => items[i]? = some v) (fun i h => ItB b h it l i ∧ IsB b h l items) := by
  cases b with
  | true => exact Draws.tuple hh it l hne items
  | false => exact Draws.list hh it l hne items
theorem begins_b (b : Bool) (l : Addr) (items : Array Value) : Begins (.ref l) (iterO b l) fun h => IsB b h l items := by
  cases b with
  | true => exact begins_tuple l items
  | false => exact begins_list l items
theorem itB_at {b : Bool} {h h' : Heap} {i a : Addr} {n : Nat} (x : ItB b h i a n) (k : ∀ o, h.get? i = some o → h'.get? i = some o) : ItB b h' i a n := by
  cases b with
  | true => exact Heap.IsTupleIter.at x k
  | false => exact Heap.IsListIter.at x k
theorem itB_obj {b : Bool} {h : Heap} {i a : Addr} {n : Nat} (x : ItB b h i a n) : ∃ o, h.get? i = some o ∧ ∀ v, o.data ≠ .cell v := by
  cases b with
  | true => obtain ⟨o, e, _, d⟩ := x; exact ⟨o, e, fun v q => by rw [d] at q; cases q⟩
  | false => obtain ⟨o, e, _, d⟩ := x; exact ⟨o, e, fun v q => by rw [d] at q; cases q⟩
section
variable {X : Cx} {pins : List (Addr × Obj)} {σ : L2.St} {H : Hp} {s : Shared}
theorem inv_seqB {b : Bool} {a : Addr} {xs : List V} (I : Inv X pins σ H s) (h : SqB b X.K H a xs) : ∃ its : List Value, Vals xs its ∧ IsB b s.heap a its.toArray := by
  cases b with
  | true => obtain ⟨its, rv, p, _⟩ := I.tuple h; exact ⟨its, rv, p⟩
  | false => obtain ⟨its, rv, p, _⟩ := I.list h; exact ⟨its, rv, p.isList⟩
end
section
variable {prog : Program} {w : World} {A : Around} {E : Value → Shared → Prop} {s : Shared} {z TI TO i1 i2 : Addr} {fp1 fp2 : List Addr} {n1 n2 i : Nat} {P1 P2 : Nat → Value → Prop} {St1 St2 : Nat → Heap → Prop} {a1 a2 : Value}
theorem pyNext_zipD_item {Q : Option Value → Shared → Prop} (S : ZipSep2 z TI TO i1 i2 fp1 fp2) (D1 : Draws prog w A.in1 i1 fp1 n1 P1 St1) (D2 : Draws prog w A.in1 i2 fp2 n2 P2 St2)
    (hz : IsZip s.heap z TI TO .none) (hTI : IsTupOf2 s.heap TI (.ref i1) (.ref i2)) (hTO : IsTupOf2 s.heap TO a1 a2) (st1 : St1 i s.heap) (st2 : St2 i s.heap) (hlt1 : i < n1) (hlt2 : i < n2)
    (hQ : ∀ x1 x2 h' tk, P1 i x1 → P2 i x2 → IsZip h' z TI TO (rawInt s.heap.objs.size) → IsTupOf2 h' TO x1 x2 → St1 (i + 1) h' → St2 (i + 1) h' → IsTupOf2 h' s.heap.objs.size x1 x2 → h'.objs.size = s.heap.objs.size + 1 →
      (∀ c o, c ≠ z → c ≠ TO → c ≠ i1 → c ≠ i2 → s.heap.get? c = some o → h'.get? c = some o) → Q (some (.ref s.heap.objs.size)) { s with heap := h', toks := tk }) : wpAny (model prog w) A (pyNext (.ref z)) Q E s := by
  have hT : s.TypeIs (.ref z) "zip" := ⟨_, hz, rfl⟩
  unfold pyNext
  exact wpAny_bind (wpAny_attempt (wpAny_callSpecial?_slot (name := Str.ofString "__next__") hT F.slot_zip_next
    (wpAny_call_entry F.slot_zip_next hT F.entry_zip_next
      (zipD2_next_item S D1 D2 hz hTI hTO st1 st2 hlt1 hlt2 fun x1 x2 h' tk b1 b2 c1 c2 c3 c4 c5 c6 c7 => wpAny_pure (hQ x1 x2 h' tk b1 b2 c1 c2 c3 c4 c5 c6 c7)) (F.args_zip_next_1 _))))
theorem pyNext_zipD_end {Q : Option Value → Shared → Prop} (S : ZipSep2 z TI TO i1 i2 fp1 fp2) (D1 : Draws prog w A.in1 i1 fp1 n1 P1 St1) (D2 : Draws prog w A.in1 i2 fp2 n2 P2 St2)
    (hz : IsZip s.heap z TI TO .none) (hTI : IsTupOf2 s.heap TI (.ref i1) (.ref i2)) (hTO : IsTupOf2 s.heap TO a1 a2) (st1 : St1 i s.heap) (st2 : St2 i s.heap) (hle1 : i ≤ n1) (hle2 : i ≤ n2) (hend : i = n1 ∨ i = n2)
    (hQ : ∀ h' tk, (∀ c o, c ≠ z → c ≠ TO → c ≠ i1 → c ≠ i2 → s.heap.get? c = some o → h'.get? c = some o) → Q none { s with heap := h', toks := tk }) : wpAny (model prog w) A (pyNext (.ref z)) Q E s := by
  have hT : s.TypeIs (.ref z) "zip" := ⟨_, hz, rfl⟩
  unfold pyNext
  refine wpAny_bind (wpAny_attempt (wpAny_callSpecial?_slot (name := Str.ofString "__next__") hT F.slot_zip_next
    (wpAny_call_entry F.slot_zip_next hT F.entry_zip_next (zipD2_next_end S D1 D2 hz hTI hTO st1 st2 hle1 hle2 hend fun h' tk e hk he => ?_) (F.args_zip_next_1 _))))
  obtain ⟨o, ho, hc⟩ := he
  refine wpAny_bind (wpAny_isInstance (T := "StopIteration") (b := true) ⟨o, ho, hc⟩ isSubtype_stop ?_)
  exact wpAny_pure (hQ _ _ hk)
end
theorem seqB_inj {X : Cx} {pins : List (Addr × Obj)} {σ : L2.St} {H : Hp} {s : Shared} {b : Bool} {a : Addr} {xs ys : List V} (I : Inv X pins σ H s) (h : SqB b X.K H a xs) (h' : SqB b X.K H a ys) : xs = ys := by
  cases b with
  | true => exact I.tuple_inj h h'
  | false => exact I.list_inj h h'
/-- the items of both in new pairs -/
def ItzB (b c : Bool) (K : PySem.W.Frag) (a e : Addr) : It :=
  ⟨fun i H => ∃ (xs ys : List V) (x y : V), SqB b K H a xs ∧ SqB c K H e ys ∧ xs[i]? = some x ∧ ys[i]? = some y,
    fun i H v H' => ∃ T x y, v = .ref T ∧ H T = none ∧ H' = upd H T (.tup [x, y]) ∧ (∀ xs, SqB b K H a xs → xs[i]? = some x) ∧ ∀ ys, SqB c K H e ys → ys[i]? = some y,
    fun i H => ∃ xs ys : List V, SqB b K H a xs ∧ SqB c K H e ys ∧ i ≤ xs.length ∧ i ≤ ys.length ∧ (xs.length = i ∨ ys.length = i)⟩
theorem turn_zipB {P : Program} {w : World} {K : PySem.W.Frag} {elts : List Expr} {kk : Nat} {tpos : Pos} {b c : Bool} {a e z TI TO i1 i2 : Addr} (D : ZipSep2 z TI TO i1 i2 [i1, a] [i2, e]) (ha : a ≠ i1) (he : e ≠ i2) :
    Turn P w K (.Tuple elts kk tpos) (ItzB b c K a e) [z, TI, TO, i1, i2] z (fun i h => IsZip h z TI TO .none ∧ IsTupOf2 h TI (.ref i1) (.ref i2) ∧ (∃ x y, IsTupOf2 h TO x y) ∧ ItB b h i1 a i ∧ ItB c h i2 e i) where
  mem := by simp
  obj := fun i h st d hd => by
    obtain ⟨hz, hTI, ⟨x, y, hTO⟩, h1, h2⟩ := st
    have e' : d = z ∨ d = TI ∨ d = TO ∨ d = i1 ∨ d = i2 := by simpa using hd
    rcases e' with q | q | q | q | q
    · rw [q]; exact ⟨_, hz, fun v q => nomatch q⟩
    · rw [q]; exact ⟨_, hTI, fun v q => nomatch q⟩
    · rw [q]; exact ⟨_, hTO, fun v q => nomatch q⟩
    · rw [q]; exact itB_obj h1
    · rw [q]; exact itB_obj h2
  keep := fun i h h' st k => by
    obtain ⟨hz, hTI, ⟨x, y, hTO⟩, h1, h2⟩ := st
    exact ⟨k z (by simp) _ hz, k TI (by simp) _ hTI, ⟨x, y, k TO (by simp) _ hTO⟩, itB_at h1 fun o q => k i1 (by simp) o q, itB_at h2 fun o q => k i2 (by simp) o q⟩
  item := by
    intro X hP hw hK hc i pins s σ H E I hf st hg
    subst hP hw hK
    obtain ⟨hz, hTI, ⟨x0, y0, hTO⟩, h1, h2⟩ := st
    obtain ⟨xs, ys, x, y, hqx, hqy, hx, hy⟩ := hg
    obtain ⟨its, rv, p⟩ := inv_seqB I hqx
    obtain ⟨its2, rv2, p2⟩ := inv_seqB I hqy
    obtain ⟨u, hu, ru⟩ := rv.get hx
    obtain ⟨u2, hu2, ru2⟩ := rv2.get hy
    have hzl : z < s.heap.objs.size := Heap.lt_size hz
    have hlt : i < its.toArray.size := by simpa using (List.getElem?_eq_some_iff.mp hu).1
    have hlt2 : i < its2.toArray.size := by simpa using (List.getElem?_eq_some_iff.mp hu2).1
    refine pyNext_zipD_item D (draws_b (prog := X.prog) (w := X.w) (A := X.A.in1) (I.ok.hd hc) b i1 a ha its.toArray) (draws_b (prog := X.prog) (w := X.w) (A := X.A.in1) (I.ok.hd hc) c i2 e he its2.toArray) hz hTI hTO ⟨h1, p⟩ ⟨h2, p2⟩ hlt hlt2 fun v1 v2 h' tk q1 q2 z' TO' h1' h2' hT hsz hk => ?_
    obtain rfl : v1 = u := by
      have e1 : its.toArray[i]? = some u := by simpa using hu
      rw [e1] at q1; exact (Option.some.inj q1).symm
    obtain rfl : v2 = u2 := by
      have e1 : its2.toArray[i]? = some u2 := by simpa using hu2
      rw [e1] at q2; exact (Option.some.inj q2).symm
    refine ⟨_, rfl, wpAny_letOwnedTupleGo_zip (s := { s with heap := h', toks := tk }) z' fun h'' z'' sb => ?_⟩
    have hT2 : h''.get? s.heap.objs.size = some { cls := .type "tuple", data := .seq #[v1, v2] } := (sb.2 _ (Nat.ne_of_gt hzl)).trans hT
    have new : ObjOk X.prog X.w (upd H s.heap.objs.size (.tup [x, y])) h'' s.heap.objs.size (.tup [x, y]) :=
      ⟨by show 2 ≤ sizeLine; decide, [v1, v2], .cons ru (.cons ru2 .nil), ⟨_, hT2, rfl, _, rfl⟩⟩
    have I1 : Inv X pins σ (upd H s.heap.objs.size (.tup [x, y])) { s with heap := h'', toks := tk } :=
      I.turnedNew (t' := tk) (ch := [z, TI, TO, i1, i2]) (fun d o hb q => (sb.2 d (fun q' => hb (by simp [q']))).trans (hk d o (fun q' => hb (by simp [q'])) (fun q' => hb (by simp [q'])) (fun q' => hb (by simp [q'])) (fun q' => hb (by simp [q'])) q)) hf (Nat.le_refl _) new
    refine ⟨.ref s.heap.objs.size, _, I1, rfl, ⟨_, x, y, rfl, I.hok.fresh (Nat.le_refl _), rfl, fun l hl => by rw [seqB_inj I hl hqx]; exact hx, fun l hl => by rw [seqB_inj I hl hqy]; exact hy⟩, ⟨z'', ?_, ⟨v1, v2, ?_⟩, ?_, ?_⟩, fun d hcm => ?_⟩
    · exact (sb.2 _ D.TIz).trans (hk _ _ D.TIz D.TITO D.TIi1 D.TIi2 hTI)
    · exact (sb.2 _ D.TOz).trans TO'
    · exact itB_at h1'.1 fun o q => (sb.2 _ (Ne.symm D.zi1)).trans q
    · exact itB_at h2'.1 fun o q => (sb.2 _ (Ne.symm D.zi2)).trans q
    · have hlt : d < s.heap.objs.size := by
        have e' : d = z ∨ d = TI ∨ d = TO ∨ d = i1 ∨ d = i2 := by simpa using hcm
        rcases e' with q | q | q | q | q
        · rw [q]; exact hzl
        · rw [q]; exact Heap.lt_size hTI
        · rw [q]; exact Heap.lt_size hTO
        · rw [q]; obtain ⟨_, e1, _⟩ := itB_obj h1; exact Heap.lt_size e1
        · rw [q]; obtain ⟨_, e2, _⟩ := itB_obj h2; exact Heap.lt_size e2
      rw [upd_ne (Nat.ne_of_lt hlt)]
      exact (hf d hcm).1
  done := by
    intro X hP hw hK hc i pins s σ H E I hf st hg
    subst hP hw hK
    obtain ⟨hz, hTI, ⟨x0, y0, hTO⟩, h1, h2⟩ := st
    obtain ⟨xs, ys, hqx, hqy, hle1, hle2, hend⟩ := hg
    obtain ⟨its, rv, p⟩ := inv_seqB I hqx
    obtain ⟨its2, rv2, p2⟩ := inv_seqB I hqy
    have l1 := rv.length
    have l2 := rv2.length
    exact pyNext_zipD_end D (draws_b (prog := X.prog) (w := X.w) (A := X.A.in1) (I.ok.hd hc) b i1 a ha its.toArray) (draws_b (prog := X.prog) (w := X.w) (A := X.A.in1) (I.ok.hd hc) c i2 e he its2.toArray) hz hTI hTO ⟨h1, p⟩ ⟨h2, p2⟩ (by simp; omega) (by simp; omega)
      (by rcases hend with q | q; exact .inl (by simp; omega); exact .inr (by simp; omega)) fun h' tk hk => ⟨rfl, I.turnedL (t' := tk) (ch := [z, TI, TO, i1, i2]) (fun d o hb q =>
        hk d o (fun q' => hb (by simp [q'])) (fun q' => hb (by simp [q'])) (fun q' => hb (by simp [q'])) (fun q' => hb (by simp [q'])) q) hf⟩
  self := fun A i s Q E st h => wpAny_pyIter_zip st.1 h
def iZipB (K : PySem.W.Frag) (ta : TA) : TI := fun σ H R => ta σ H fun vs H1 => ∃ a e xs ys b c, vs = [.ref a, .ref e] ∧ SqB b K H1 a xs ∧ SqB c K H1 e ys ∧ R (ItzB b c K a e) H1
theorem isB_lt {b : Bool} {h : Heap} {a : Addr} {its : Array Value} (x : IsB b h a its) : a < h.objs.size := by
  cases b with
  | true => obtain ⟨o, e, _⟩ := (show h.IsTuple a its from x); exact Heap.lt_size e
  | false => obtain ⟨o, e, _⟩ := (show h.IsList a its from x); exact Heap.lt_size e
theorem iterO_it {b : Bool} {h : Heap} {i a : Addr} (e : h.get? i = some (iterO b a)) : ItB b h i a 0 := by
  cases b with
  | true => exact ⟨_, e, rfl, rfl⟩
  | false => exact ⟨_, e, rfl, rfl⟩
theorem pi_zipB {X : Cx} {e e2 : Expr} {ta : TA} {p pos tpos : Pos} {elts : List Expr} {kk : Nat} (hg : Gl X "zip") (hm : X.mg "zip" = none) (ha : PA X [e, e2] ta)
    (hs : starEach [e, e2] X.env = (false, eval e X.env) :: starEach [e2] X.env) (hpl : (backTo pos (starEach [e2] X.env)).any (·.1) = false) :
    PI X (.Tuple elts kk tpos) (.Call (.Name "zip" p) [e, e2] [] pos) (iZipB X.K ta) := by
  refine ⟨fun pins s σ H R I h => ?_⟩
  refine Call_ (ld_blt I hg hm PyProof.Rows.boot_zip (PyProof.Rows.callWith_type1 (thn (ha.run pos pins s σ H _ I h) fun us s1 ⟨vs, H1, I1, r1, q1⟩ => ?_) hs hpl))
  obtain ⟨a, e', xs, ys, b, c, ex, hqx, hqy, q⟩ := q1
  subst ex
  cases r1 with
  | cons r rr =>
    cases rr with
    | cons r' rr =>
      cases rr
      cases r
      cases r'
      have fresh5 : ∀ d, d ∈ [s1.heap.objs.size + 4, s1.heap.objs.size + 2, s1.heap.objs.size + 3, s1.heap.objs.size, s1.heap.objs.size + 1] → FpOk X pins H1 d := fun d hcm => by
        have e' : d = s1.heap.objs.size + 4 ∨ d = s1.heap.objs.size + 2 ∨ d = s1.heap.objs.size + 3 ∨ d = s1.heap.objs.size ∨ d = s1.heap.objs.size + 1 := by simpa using hcm
        have hle : s1.heap.objs.size ≤ d := by
          rcases e' with z | z | z | z | z
          · rw [z]; exact Nat.le_add_right _ _
          · rw [z]; exact Nat.le_add_right _ _
          · rw [z]; exact Nat.le_add_right _ _
          · rw [z]; exact Nat.le_refl _
          · rw [z]; exact Nat.le_add_right _ _
        exact I1.fpOk hle (I1.hok.fresh hle)
      obtain ⟨its, rv, p1⟩ := inv_seqB I1 hqx
      obtain ⟨its2, rv2, p2⟩ := inv_seqB I1 hqy
      have l1 := isB_lt p1
      have l2 := isB_lt p2
      refine zip_begins2 (begins_b b a its.toArray) (begins_b c e' its2.toArray) p1 p2 fun h' hz hTI hTO h1 h2 hsz hk => wpAny_pyIter_zip hz ?_
      have I2 : Inv X pins σ H1 { s1 with heap := h' } := I1.kept (t' := s1.toks) hk
      exact ⟨s1.heap.objs.size + 4, [s1.heap.objs.size + 4, s1.heap.objs.size + 2, s1.heap.objs.size + 3, s1.heap.objs.size, s1.heap.objs.size + 1], _, _, H1, rfl, I2,
        turn_zipB (zip_sep2 (N := s1.heap.objs.size) (fp1 := [a]) (fp2 := [e']) (fun x hx => by simp at hx; rw [hx]; exact l1) (fun x hx => by simp at hx; rw [hx]; exact l2)) (Nat.ne_of_lt l1) (Nat.ne_of_lt (Nat.lt_succ_of_lt l2)),
        ⟨hz, hTI, ⟨_, _, hTO⟩, iterO_it h1, iterO_it h2⟩, fresh5, q⟩
end Bx

set_option Elab.async false
set_option linter.all false
set_option maxRecDepth 100000
set_option maxHeartbeats 8000000
/-! Bx, part F: an expression that passes the check does what its want says. -/
namespace Bx
open PySem PySem.Spec PyProof.Rows L2

/-! ### walked things in these words -/
structure Itok (K : KZ) (J : It) (M1 : Mp) (H1 : Hp) (ds : List D) (gd : Mp → Prop) : Prop where
  go : ∀ i M H Z, i < ds.length → Bx.Step M1 M H1 H → RM ⟨K.k, Z⟩ M H → Wid K.Z Z H1 → gd M → J.go i H
  yld : ∀ i M H Z x H' d, Bx.Step M1 M H1 H → RM ⟨K.k, Z⟩ M H → Wid K.Z Z H1 → gd M → ds[i]? = some d → J.yld i H x H' → Bx.Step M M H H' ∧ RM ⟨K.k, Z⟩ M H' ∧ Rv ⟨K.k, Z⟩ M H' d x
  stop : ∀ i M H Z, ds.length = i → Bx.Step M1 M H1 H → RM ⟨K.k, Z⟩ M H → Wid K.Z Z H1 → gd M → J.stop i H
def TI' (X : Cx) (W : WX) (w : Sl → Mp → (List D → (Mp → Prop) → Mp → Prop) → KX → Prop) : TI := fun σ H R => ∃ Z : Addr → Prop, ∃ μ M Q0 E0, RS ⟨X.K, Z⟩ M H σ μ ∧ RM ⟨X.K, Z⟩ M H ∧ w μ M Q0 E0 ∧
  (∀ ds gd M1 H1 J, Q0 ds gd M1 → Bx.Step M M1 H H1 → RM ⟨X.K, Z⟩ M1 H1 → Itok ⟨X.K, Z⟩ J M1 H1 ds gd → R J H1) ∧
  ∀ n fs M' H' cls dd, E0 n fs M' → Bx.Step M M' H H' → RM ⟨X.K, Z⟩ M' H' → RX X.mg ⟨X.K, Z⟩ M' H' n fs cls dd → W cls dd σ H'
theorem itok_range {K : KZ} (lo : Int) (n : Nat) (M1 : Mp) (H1 : Hp) : Itok K (Itr lo n) M1 H1 ((List.range n).map fun k => D.int (lo + (k : Nat))) fun _ => True where
  go := fun i M H Z hi _ _ _ _ => by
    have h2 : i < n := by simpa using hi
    exact h2
  yld := fun i M H Z x H' d s m _ _ e y => by
    obtain ⟨rfl, rfl⟩ := y
    rw [List.getElem?_map] at e
    cases q : (List.range n)[i]? with
    | none => rw [q] at e; cases e
    | some j =>
      rw [q] at e
      have hj : j = i := by
        have := List.getElem?_eq_some_iff.mp q
        obtain ⟨hl, hv⟩ := this
        simp at hv; exact hv.symm
      subst hj
      cases e
      exact ⟨.refl _ _, m, .int _⟩
  stop := fun i M H Z hi _ _ _ _ => by
    have : n = i := by simpa using hi
    show n ≤ i
    omega
theorem itok_list {K : KZ} {a : Addr} {M1 : Mp} {H1 : Hp} {x : D} {xs : List D} {v : V} (e : itemsOf M1 x = some xs) (nt : ∀ ys, x ≠ .tup ys) (r : Rv K M1 H1 x v) (hv : v = .ref a) :
    Itok K (Itl K.k a) M1 H1 xs fun M => itemsOf M x = some xs := by
  have at_ : ∀ {M H Z}, Bx.Step M1 M H1 H → RM ⟨K.k, Z⟩ M H → Wid K.Z Z H1 → itemsOf M x = some xs → ∃ vs, SqL K.k H a vs ∧ Rvs ⟨K.k, Z⟩ M H xs vs := fun {M H Z} s m wd g => by
    obtain ⟨a', vs, e1, h, rs⟩ := items_ok g m (Rv.stepZ (Z := K.Z) s wd r)
    rw [hv] at e1; cases e1
    rcases h with ⟨h, _⟩ | ⟨_, z⟩
    · exact ⟨vs, h, rs⟩
    · exact absurd z (nt _)
  refine ⟨fun i M H Z hi s m wd g => ?_, fun i M H Z y H' d s m wd g ed q => ?_, fun i M H Z hi s m wd g => ?_⟩
  · obtain ⟨vs, h, rs⟩ := at_ s m wd g
    have hl : i < vs.length := by rw [← rs.length]; exact hi
    exact ⟨vs, vs[i], h, by simp [hl]⟩
  · obtain ⟨vs, h, rs⟩ := at_ s m wd g
    obtain ⟨rfl, q⟩ := q
    obtain ⟨u, hu, ru⟩ := rs.get ed
    have e1 := q vs h
    rw [hu] at e1; cases e1
    exact ⟨.refl _ _, m, ru⟩
  · obtain ⟨vs, h, rs⟩ := at_ s m wd g
    exact ⟨vs, h, by rw [← rs.length, hi]; exact Nat.le_refl _⟩
theorem itok_tup {K : KZ} {a : Addr} {M1 : Mp} {H1 : Hp} {xs : List D} {v : V} (r : Rv K M1 H1 (.tup xs) v) (hv : v = .ref a) (gd : Mp → Prop) :
    Itok K (Itt K.k a) M1 H1 xs gd := by
  have at_ : ∀ {M H Z}, Bx.Step M1 M H1 H → Wid K.Z Z H1 → ∃ vs, SqT K.k H a vs ∧ Rvs ⟨K.k, Z⟩ M H xs vs := fun {M H Z} s wd => by
    obtain ⟨a', vs, e1, h, rs⟩ := (Rv.stepZ (Z := K.Z) s wd r).sqT
    rw [hv] at e1; cases e1
    exact ⟨vs, h, rs⟩
  refine ⟨fun i M H Z hi s m wd g => ?_, fun i M H Z y H' d s m wd g ed q => ?_, fun i M H Z hi s m wd g => ?_⟩
  · obtain ⟨vs, h, rs⟩ := at_ s wd
    have hl : i < vs.length := by rw [← rs.length]; exact hi
    exact ⟨vs, vs[i], h, by simp [hl]⟩
  · obtain ⟨vs, h, rs⟩ := at_ s wd
    obtain ⟨rfl, q⟩ := q
    obtain ⟨u, hu, ru⟩ := rs.get ed
    have e1 := q vs h
    rw [hu] at e1; cases e1
    exact ⟨.refl _ _, m, ru⟩
  · obtain ⟨vs, h, rs⟩ := at_ s wd
    exact ⟨vs, h, by rw [← rs.length, hi]; exact Nat.le_refl _⟩
theorem enum_get {xs : List D} {i : Nat} {d : D} (h : ((List.range xs.length).zip xs |>.map fun p => D.tup [.int (p.1 : Nat), p.2])[i]? = some d) : ∃ x, xs[i]? = some x ∧ d = .tup [.int (i : Nat), x] := by
  rw [List.getElem?_map] at h
  cases q : ((List.range xs.length).zip xs)[i]? with
  | none => rw [q] at h; cases h
  | some p =>
    rw [q] at h
    rw [List.getElem?_zip_eq_some] at q
    obtain ⟨q1, q2⟩ := q
    obtain ⟨hl, hv⟩ := List.getElem?_eq_some_iff.mp q1
    refine ⟨p.2, q2, ?_⟩
    have e : p.1 = i := by simp at hv; exact hv.symm
    have := (Option.some.inj h).symm
    rw [this]
    show D.tup [.int (p.1 : Nat), p.2] = _
    rw [e]
theorem enum_len (xs : List D) : ((List.range xs.length).zip xs |>.map fun p => D.tup [.int (p.1 : Nat), p.2]).length = xs.length := by simp
theorem pair_new {K : KZ} {M : Mp} {H : Hp} {T : Addr} {i : Int} {x : V} {d : D} (m : RM K M H) (hT : H T = none) (r : Rv K M H d x) :
    Bx.Step M M H (upd H T (.tup [.int i, x])) ∧ RM K M (upd H T (.tup [.int i, x])) ∧ Rv K M (upd H T (.tup [.int i, x])) (.tup [.int i, d]) (.ref T) :=
  ⟨step_val hT, m.val hT, .tup (m.fresh hT) (.inl upd_same) (.cons (.int i) (.cons (r.step (step_val hT)) .nil))⟩
theorem itok_enumL {K : KZ} {a : Addr} {M1 : Mp} {H1 : Hp} {x : D} {xs : List D} {v : V} (e : itemsOf M1 x = some xs) (nt : ∀ ys, x ≠ .tup ys) (r : Rv K M1 H1 x v) (hv : v = .ref a) :
    Itok K (Ite K.k a) M1 H1 ((List.range xs.length).zip xs |>.map fun p => D.tup [.int (p.1 : Nat), p.2]) fun M => itemsOf M x = some xs := by
  have at_ : ∀ {M H Z}, Bx.Step M1 M H1 H → RM ⟨K.k, Z⟩ M H → Wid K.Z Z H1 → itemsOf M x = some xs → ∃ vs, SqL K.k H a vs ∧ Rvs ⟨K.k, Z⟩ M H xs vs := fun {M H Z} s m wd g => by
    obtain ⟨a', vs, e1, h, rs⟩ := items_ok g m (Rv.stepZ (Z := K.Z) s wd r)
    rw [hv] at e1; cases e1
    rcases h with ⟨h, _⟩ | ⟨_, z⟩
    · exact ⟨vs, h, rs⟩
    · exact absurd z (nt _)
  refine ⟨fun i M H Z hi s m wd g => ?_, fun i M H Z y H' d s m wd g ed q => ?_, fun i M H Z hi s m wd g => ?_⟩
  · obtain ⟨vs, h, rs⟩ := at_ s m wd g
    have hl : i < vs.length := by rw [← rs.length]; rwa [enum_len] at hi
    exact ⟨vs, vs[i], h, by simp [hl]⟩
  · obtain ⟨vs, h, rs⟩ := at_ s m wd g
    obtain ⟨T, z, rfl, hT, rfl, q⟩ := q
    obtain ⟨d', hd', rfl⟩ := enum_get ed
    obtain ⟨u, hu, ru⟩ := rs.get hd'
    have e1 := q vs h
    rw [hu] at e1; cases e1
    exact pair_new m hT ru
  · obtain ⟨vs, h, rs⟩ := at_ s m wd g
    rw [enum_len] at hi
    exact ⟨vs, h, by rw [← rs.length, hi]; exact Nat.le_refl _⟩
theorem itok_enumT {K : KZ} {a : Addr} {M1 : Mp} {H1 : Hp} {xs : List D} {v : V} (r : Rv K M1 H1 (.tup xs) v) (hv : v = .ref a) (gd : Mp → Prop) :
    Itok K (IteT K.k a) M1 H1 ((List.range xs.length).zip xs |>.map fun p => D.tup [.int (p.1 : Nat), p.2]) gd := by
  have at_ : ∀ {M H Z}, Bx.Step M1 M H1 H → Wid K.Z Z H1 → ∃ vs, SqT K.k H a vs ∧ Rvs ⟨K.k, Z⟩ M H xs vs := fun {M H Z} s wd => by
    obtain ⟨a', vs, e1, h, rs⟩ := (Rv.stepZ (Z := K.Z) s wd r).sqT
    rw [hv] at e1; cases e1
    exact ⟨vs, h, rs⟩
  refine ⟨fun i M H Z hi s m wd g => ?_, fun i M H Z y H' d s m wd g ed q => ?_, fun i M H Z hi s m wd g => ?_⟩
  · obtain ⟨vs, h, rs⟩ := at_ s wd
    have hl : i < vs.length := by rw [← rs.length]; rwa [enum_len] at hi
    exact ⟨vs, vs[i], h, by simp [hl]⟩
  · obtain ⟨vs, h, rs⟩ := at_ s wd
    obtain ⟨T, z, rfl, hT, rfl, q⟩ := q
    obtain ⟨d', hd', rfl⟩ := enum_get ed
    obtain ⟨u, hu, ru⟩ := rs.get hd'
    have e1 := q vs h
    rw [hu] at e1; cases e1
    exact pair_new m hT ru
  · obtain ⟨vs, h, rs⟩ := at_ s wd
    rw [enum_len] at hi
    exact ⟨vs, h, by rw [← rs.length, hi]⟩

/-- items of a list or a tuple, as they stand -/
theorem items_sq {K : KZ} {a : Addr} {M1 M : Mp} {H1 H : Hp} {Z : Addr → Prop} {x : D} {xs : List D} {v : V} (g1 : itemsOf M1 x = some xs) (m1 : RM K M1 H1) (r : Rv K M1 H1 x v) (hv : v = .ref a) :
    ∃ b, (∃ vs, SqB b K.k H1 a vs ∧ Rvs K M1 H1 xs vs) ∧ ∀ M H Z, Bx.Step M1 M H1 H → RM ⟨K.k, Z⟩ M H → Wid K.Z Z H1 → itemsOf M x = some xs → ∃ vs, SqB b K.k H a vs ∧ Rvs ⟨K.k, Z⟩ M H xs vs := by
  by_cases nt : ∃ ys, x = .tup ys
  · obtain ⟨ys, rfl⟩ := nt
    have e0 : ys = xs := Option.some.inj g1
    subst e0
    refine ⟨true, ?_, fun M H Z s m wd g => ?_⟩
    · obtain ⟨a', vs, e1, h, rs⟩ := r.sqT
      rw [hv] at e1; cases e1
      exact ⟨vs, h, rs⟩
    · obtain ⟨a', vs, e1, h, rs⟩ := (Rv.stepZ (Z := K.Z) s wd r).sqT
      rw [hv] at e1; cases e1
      exact ⟨vs, h, rs⟩
  · have nt' : ∀ ys, x ≠ .tup ys := fun ys e => nt ⟨ys, e⟩
    refine ⟨false, ?_, fun M H Z s m wd g => ?_⟩
    · obtain ⟨a', vs, e1, h, rs⟩ := items_ok g1 m1 r
      rw [hv] at e1; cases e1
      rcases h with ⟨h, _⟩ | ⟨_, z⟩
      · exact ⟨vs, h, rs⟩
      · exact absurd z (nt' _)
    · obtain ⟨a', vs, e1, h, rs⟩ := items_ok g m (Rv.stepZ (Z := K.Z) s wd r)
      rw [hv] at e1; cases e1
      rcases h with ⟨h, _⟩ | ⟨_, z⟩
      · exact ⟨vs, h, rs⟩
      · exact absurd z (nt' _)
theorem pair_new2 {K : KZ} {M : Mp} {H : Hp} {T : Addr} {x y : V} {d e : D} (m : RM K M H) (hT : H T = none) (r : Rv K M H d x) (r2 : Rv K M H e y) :
    Bx.Step M M H (upd H T (.tup [x, y])) ∧ RM K M (upd H T (.tup [x, y])) ∧ Rv K M (upd H T (.tup [x, y])) (.tup [d, e]) (.ref T) :=
  ⟨step_val hT, m.val hT, .tup (m.fresh hT) (.inl upd_same) (.cons (r.step (step_val hT)) (.cons (r2.step (step_val hT)) .nil))⟩
theorem itok_zipB {K : KZ} {b c : Bool} {a e : Addr} {M1 : Mp} {H1 : Hp} {x y : D} {xs ys : List D}
    (hx : ∀ M H Z, Bx.Step M1 M H1 H → RM ⟨K.k, Z⟩ M H → Wid K.Z Z H1 → itemsOf M x = some xs → ∃ vs, SqB b K.k H a vs ∧ Rvs ⟨K.k, Z⟩ M H xs vs)
    (hy : ∀ M H Z, Bx.Step M1 M H1 H → RM ⟨K.k, Z⟩ M H → Wid K.Z Z H1 → itemsOf M y = some ys → ∃ vs, SqB c K.k H e vs ∧ Rvs ⟨K.k, Z⟩ M H ys vs) :
    Itok K (ItzB b c K.k a e) M1 H1 (xs.zip ys |>.map fun p => D.tup [p.1, p.2]) fun M => itemsOf M x = some xs ∧ itemsOf M y = some ys := by
  have zl : (xs.zip ys |>.map fun p => D.tup [p.1, p.2]).length = min xs.length ys.length := by simp
  refine ⟨fun i M H Z hi s m wd g => ?_, fun i M H Z v H' d s m wd g ed q => ?_, fun i M H Z hi s m wd g => ?_⟩
  · obtain ⟨vs, h, rs⟩ := hx M H Z s m wd g.1
    obtain ⟨us, h2, rs2⟩ := hy M H Z s m wd g.2
    rw [zl] at hi
    have hl : i < vs.length := by rw [← rs.length]; omega
    have hl2 : i < us.length := by rw [← rs2.length]; omega
    exact ⟨vs, us, vs[i], us[i], h, h2, by simp [hl], by simp [hl2]⟩
  · obtain ⟨vs, h, rs⟩ := hx M H Z s m wd g.1
    obtain ⟨us, h2, rs2⟩ := hy M H Z s m wd g.2
    obtain ⟨T, z1, z2, rfl, hT, rfl, q1, q2⟩ := q
    rw [List.getElem?_map] at ed
    cases ez : (xs.zip ys)[i]? with
    | none => rw [ez] at ed; cases ed
    | some pr =>
      rw [ez] at ed
      obtain ⟨d1, d2⟩ := pr
      obtain ⟨g1, g2⟩ := List.getElem?_zip_eq_some.mp ez
      cases ed
      obtain ⟨u, hu, ru⟩ := rs.get g1
      obtain ⟨u2, hu2, ru2⟩ := rs2.get g2
      have f1 := q1 vs h
      have f2 := q2 us h2
      rw [hu] at f1; cases f1
      rw [hu2] at f2; cases f2
      exact pair_new2 m hT ru ru2
  · obtain ⟨vs, h, rs⟩ := hx M H Z s m wd g.1
    obtain ⟨us, h2, rs2⟩ := hy M H Z s m wd g.2
    rw [zl] at hi
    have l1 := rs.length
    have l2 := rs2.length
    exact ⟨vs, us, h, h2, by omega, by omega, by omega⟩
/-! ### targets -/
theorem setAll_rv {K : KZ} {M : Mp} {H : Hp} : ∀ (is : List Nat) (ds : List D) (vs : List V) (σ : L2.St) (μ μ' : Sl), setAll μ is ds = some μ' → Rvs K M H ds vs → RS K M H σ μ →
    RS K M H ((is.zip vs).foldl (fun s p => s.set p.1 (some p.2)) σ) μ'
  | [], [], _, σ, μ, μ', e, r, rs => by
    cases r
    cases e
    exact rs
  | i :: is, d :: ds, _, σ, μ, μ', e, r, rs => by
    cases r with
    | cons r1 r =>
      rw [List.zip_cons_cons, List.foldl_cons]
      have e' : setAll (μ.set i (some d)) is ds = some μ' := e
      exact setAll_rv is ds _ _ _ μ' e' r (rs.set r1 i)
  | [], _ :: _, _, _, _, _, e, _, _ => by cases e
  | _ :: _, [], _, _, _, _, e, _, _ => by cases e
/-- the targets' reading for plain names -/
def gAll : List Nat → TGs
  | [] => gNil
  | i :: is => gCons (gName i) (gAll is)
theorem gAll_ok : ∀ {is : List Nat} {vs : List V} {σ : L2.St} {H : Hp} {Q : L2.St → Hp → Prop}, vs.length = is.length → Q ((is.zip vs).foldl (fun s p => s.set p.1 (some p.2)) σ) H → gAll is vs σ H Q
  | [], [], _, _, _, _, q => ⟨rfl, q⟩
  | i :: is, v :: vs, σ, H, Q, hl, q => ⟨v, vs, rfl, gAll_ok (is := is) (by simpa using hl) q⟩
  | [], _ :: _, _, _, _, hl, _ => by simp at hl
  | _ :: _, [], _, _, _, hl, _ => by simp at hl
def gTg (K : PySem.W.Frag) : Tg → TG
  | .nm i => gName i
  | .tp is => gTup K is.length (gAll is)
section
variable {X : Cx} {W : WX} {lv : Nat} {N : List Str} {sc : Scope} {fn : List (Nat × Str × List Str)} {tb : List (Nat × Str)} {Γ : Gm}
theorem setAll_len : ∀ {is : List Nat} {ds : List D} {μ μ' : Sl}, setAll μ is ds = some μ' → ds.length = is.length
  | [], [], _, _, _ => rfl
  | i :: is, d :: ds, μ, μ', e => by
    have : setAll (μ.set i (some d)) is ds = some μ' := e
    simp [setAll_len this]
  | [], _ :: _, _, _, e => by cases e
  | _ :: _, [], _, _, e => by cases e
theorem gTg_ok {Z : Addr → Prop} {tg : Tg} {d : D} {v : V} {M : Mp} {H : Hp} {σ : L2.St} {μ : Sl} {R : Sl → Prop} {Q : L2.St → Hp → Prop} (w : tgW tg d μ R) (rv : Rv ⟨X.K, Z⟩ M H d v) (rs : RS ⟨X.K, Z⟩ M H σ μ)
    (k : ∀ μ' σ', R μ' → RS ⟨X.K, Z⟩ M H σ' μ' → Q σ' H) : gTg X.K tg v σ H Q := by
  cases tg with
  | nm i => exact k _ _ w (rs.set rv i)
  | tp is =>
    cases d with
    | tup ds =>
      obtain ⟨μ', e, w⟩ := w
      obtain ⟨a, vs, rfl, h, r⟩ := rv.sqT
      have hl : vs.length = is.length := by rw [← r.length]; exact setAll_len e
      exact ⟨a, vs, rfl, h, hl, gAll_ok hl (k μ' _ w (setAll_rv is ds vs σ μ μ' e r rs))⟩
    | _ => cases w
theorem assign_star {es : List Expr} {is : List Nat} {env : PySem.Env} (h : tgB N sc is es = true) : (assignEach es env).length = is.length ∧ (assignEach es env).findIdx? (·.1) = none := by
  induction is generalizing es with
  | nil =>
    cases es with
    | nil => exact ⟨rfl, rfl⟩
    | cons e es => cases h
  | cons i is ih =>
    cases es with
    | nil => cases h
    | cons e es =>
      cases e with
      | Name x p =>
        have h' : (decide (N[i]? = some x) && locB sc x && tgB N sc is es) = true := h
        obtain ⟨_, h2⟩ := Bool.and_eq_true_iff.mp h'
        obtain ⟨l1, l2⟩ := ih h2
        have e0 : assignEach (.Name x p :: es) env = (false, assign (.Name x p) env) :: assignEach es env := rfl
        rw [e0]
        refine ⟨by simp [l1], ?_⟩
        rw [List.findIdx?_cons, if_neg (show ¬ (false = true) from Bool.false_ne_true), l2]; rfl
      | _ => cases h
theorem pgs_names (E : Env' X W lv N sc fn tb Γ) : ∀ {is : List Nat} {es : List Expr}, tgB N sc is es = true → PGs X es (gAll is)
  | [], [], _ => pgs_nil
  | i :: is, .Name x p :: es, h => by
    have h' : (decide (N[i]? = some x) && locB sc x && tgB N sc is es) = true := h
    obtain ⟨h1, h2⟩ := Bool.and_eq_true_iff.mp h'
    obtain ⟨h3, h4⟩ := Bool.and_eq_true_iff.mp h1
    obtain ⟨l1, l2⟩ := E.loc h4
    exact pgs_cons (pg_name (by rw [E.hN]; exact E.nd) (by rw [E.hN]; exact of_decide_eq_true h3) l1 l2) (pgs_names E h2) rfl
  | [], _ :: _, h => by cases h
  | _ :: _, [], h => by cases h
  | _ :: _, .BoolOp .. :: _, h => by cases h
  | _ :: _, .NamedExpr .. :: _, h => by cases h
  | _ :: _, .BinOp .. :: _, h => by cases h
  | _ :: _, .UnaryOp .. :: _, h => by cases h
  | _ :: _, .Lambda .. :: _, h => by cases h
  | _ :: _, .IfExp .. :: _, h => by cases h
  | _ :: _, .Dict .. :: _, h => by cases h
  | _ :: _, .Set .. :: _, h => by cases h
  | _ :: _, .ListComp .. :: _, h => by cases h
  | _ :: _, .SetComp .. :: _, h => by cases h
  | _ :: _, .DictComp .. :: _, h => by cases h
  | _ :: _, .GeneratorExp .. :: _, h => by cases h
  | _ :: _, .Await .. :: _, h => by cases h
  | _ :: _, .Yield .. :: _, h => by cases h
  | _ :: _, .YieldFrom .. :: _, h => by cases h
  | _ :: _, .Compare .. :: _, h => by cases h
  | _ :: _, .Call .. :: _, h => by cases h
  | _ :: _, .FormattedValue .. :: _, h => by cases h
  | _ :: _, .JoinedStr .. :: _, h => by cases h
  | _ :: _, .Constant .. :: _, h => by cases h
  | _ :: _, .Attribute .. :: _, h => by cases h
  | _ :: _, .Subscript .. :: _, h => by cases h
  | _ :: _, .Starred .. :: _, h => by cases h
  | _ :: _, .List .. :: _, h => by cases h
  | _ :: _, .Tuple .. :: _, h => by cases h
  | _ :: _, .Slice .. :: _, h => by cases h
theorem pg_tg (E : Env' X W lv N sc fn tb Γ) {tg : Tg} {t : Expr} (h : chkTg N sc tg t = true) : PG X t (gTg X.K tg) := by
  cases tg with
  | nm i =>
    cases t with
    | Name x p =>
      have h' : (decide (N[i]? = some x) && locB sc x) = true := h
      obtain ⟨h3, h4⟩ := Bool.and_eq_true_iff.mp h'
      obtain ⟨l1, l2⟩ := E.loc h4
      exact pg_name (by rw [E.hN]; exact E.nd) (by rw [E.hN]; exact of_decide_eq_true h3) l1 l2
    | _ => cases h
  | tp is =>
    cases t with
    | Tuple es k p =>
      obtain ⟨l1, l2⟩ := assign_star (env := X.env) h
      exact pg_tup E.calm (pgs_names E h) l1 l2
    | _ => cases h
end
end Bx

set_option Elab.async false
set_option linter.all false
set_option maxRecDepth 100000
set_option maxHeartbeats 16000000
/-! Bx, part G: the soundness of expressions. -/
namespace Bx
open PySem PySem.Spec PyProof.Rows L2
section
variable {X : Cx} {W : WX} {lv : Nat} {N : List Str} {sc : Scope} {fn : List (Nat × Str × List Str)} {tb : List (Nat × Str)} {Γ : Gm}

theorem ba {a b : Bool} (h : (a && b) = true) : a = true ∧ b = true := Bool.and_eq_true_iff.mp h
theorem bn {a : Bool} (h : (!a) = true) : a = false := by simpa using h

theorem g_un {op : UnaryOp} {a : Expr} {wa : WE} {pos : Pos} (ha : PE X a (TE' X W wa)) : PE X (.UnaryOp op a pos) (TE' X W fun μ M Q E => wa μ M (fun x M1 => unW op x M1 Q) E) := by
  have no : (∀ x M Q, ¬ unW op x M Q) → PE X (.UnaryOp op a pos) (TE' X W fun μ M Q E => wa μ M (fun x M1 => unW op x M1 Q) E) := fun hn =>
    pe_imp (pe_un (r := fun _ _ _ => False) (fun _ _ _ _ _ _ _ _ _ h => h.elim) ha) fun σ H Q h => c_one h fun Z x M H v Q0 E0 Q w m r k => hn _ _ _ w
  cases op with
  | USub =>
    refine pe_imp (pe_un un_neg ha) fun σ H Q h => c_one h fun Z x M H v Q0 E0 Q w m r k => ?_
    cases x with
    | int i => cases r; exact ⟨i, rfl, Cl.here k w m (.int _)⟩
    | _ => cases w
  | Invert =>
    refine pe_imp (pe_un un_inv ha) fun σ H Q h => c_one h fun Z x M H v Q0 E0 Q w m r k => ?_
    cases x with
    | int i => cases r; exact ⟨i, rfl, Cl.here k w m (.int _)⟩
    | _ => cases w
  | Not => exact no fun x M Q w => by cases x <;> cases w
  | UAdd => exact no fun x M Q w => by cases x <;> cases w
theorem g_bin {fz : Bool} {op : Operator} {a b : Expr} {wa wb : WE} {pos : Pos} (ha : PE X a (TE' X W wa)) (hb : PE X b (TE' X W wb)) :
    PE X (.BinOp a op b pos) (TE' X W fun μ M Q E => wa μ M (fun x M1 => wb μ M1 (fun y M2 => binW fz op x y M2 Q) E) E) := by
  obtain ⟨r, o, i⟩ := (opB_bin (X := X) (fz := fz) op).ex
  exact pe_imp (pe_op o ha hb) fun σ H Q h => c_two h fun Z x y M H v u Q0 E0 Q w m rx ry k => i Z x y M H v u Q0 Q w m rx ry k
theorem g_cmp {op : CmpOp} {a b : Expr} {wa wb : WE} {pos : Pos} (hr : Room lv X.A) (ha : PE X a (TE' X W wa)) (hb : PE X b (TE' X W wb)) (hs : isSet b = false) :
    PE X (.Compare a [op] [b] pos) (TE' X W fun μ M Q E => wa μ M (fun x M1 => wb μ M1 (fun y M2 => cmpW op x y M2 fun r => Q (.bl r) M2) E) E) := by
  obtain ⟨r, o, i⟩ := (cmB_cmp hr op).ex
  exact pe_imp (pe_cmpR o ha hb (marks (noSet hs))) fun σ H Q h => c_two h fun Z x y M H v u Q0 E0 Q w m rx ry k => i Z x y M H v u _ Q w m rx ry fun b hb => Cl.here k hb m (.bl b)
/-- a test by its reading -/
theorem c_test {wa : WE} {R : D → Mp → (Bool → Mp → Prop) → KX → Prop} {r : V → Hp → (Bool → Hp → Prop) → Prop} {σ : L2.St} {H : Hp} {Q : Bool → Hp → Prop}
    (h : TT' X W (fun μ M Q E => wa μ M (fun x M1 => R x M1 Q E) E) σ H Q)
    (hr : ∀ Z x M H v (Q0 : Bool → Mp → Prop) E0 (Q : Bool → Hp → Prop), R x M Q0 E0 → RM ⟨X.K, Z⟩ M H → Rv ⟨X.K, Z⟩ M H x v →
      (∀ b M' H', Q0 b M' → Bx.Step M M' H H' → RM ⟨X.K, Z⟩ M' H' → Q b H') → r v H Q) : TE' X W wa σ H fun v H1 => r v H1 Q := by
  obtain ⟨Z, μ, M, Q0, E0, rs, rm, w, k, kx⟩ := h
  refine ⟨Z, μ, M, _, E0, rs, rm, w, fun x M1 H1 v w1 s1 rm1 rx => ?_, fun n fs M' H' cls dd e s m x => kx n fs M' H' cls dd e s m x⟩
  exact hr Z x M1 H1 v Q0 E0 Q w1 rm1 rx fun b M' H' q s m => k b M' H' q (s1.trans s) m
theorem c_two_t {wa wb : WE} {R : D → D → Mp → (Bool → Mp → Prop) → KX → Prop} {r : R2} {σ : L2.St} {H : Hp} {Q : Bool → Hp → Prop} {kq : (Bool → Hp → Prop) → VK}
    (h : TT' X W (fun μ M Q E => wa μ M (fun x M1 => wb μ M1 (fun y M2 => R x y M2 Q E) E) E) σ H Q)
    (hr : ∀ Z x y M H v u (Q0 : Bool → Mp → Prop) E0 (Q : Bool → Hp → Prop), R x y M Q0 E0 → RM ⟨X.K, Z⟩ M H → Rv ⟨X.K, Z⟩ M H x v → Rv ⟨X.K, Z⟩ M H y u →
      (∀ b M' H', Q0 b M' → Bx.Step M M' H H' → RM ⟨X.K, Z⟩ M' H' → Q b H') → r v u H (kq Q)) : tOp r (TE' X W wa) (TE' X W wb) σ H (kq Q) := by
  obtain ⟨Z, μ, M, Q0, E0, rs, rm, w, k, kx⟩ := h
  refine ⟨Z, μ, M, _, E0, rs, rm, w, fun x M1 H1 v w1 s1 rm1 rx => ?_, fun n fs M' H' cls dd e s m x => kx n fs M' H' cls dd e s m x⟩
  refine ⟨Z, μ, M1, _, E0, rs.step s1, rm1, w1, fun y M2 H2 u w2 s2 rm2 ry => ?_, fun n fs M' H' cls dd e s m x => kx n fs M' H' cls dd e (s1.trans s) m x⟩
  exact hr Z x y M2 H2 v u Q0 E0 Q w2 rm2 (rx.step s2) ry fun b M' H' q s m => k b M' H' q ((s1.trans s2).trans s) m
theorem g_cmpT {op : CmpOp} {a b : Expr} {wa wb : WE} {pos : Pos} (hr : Room lv X.A) (ha : PE X a (TE' X W wa)) (hb : PE X b (TE' X W wb)) (hs : isSet b = false) :
    PT X (.Compare a [op] [b] pos) (TT' X W fun μ M Q E => wa μ M (fun x M1 => wb μ M1 (fun y M2 => cmpW op x y M2 fun r => Q r M2) E) E) := by
  obtain ⟨r, o, i⟩ := (cmB_cmp hr op).ex
  exact pt_imp (pt_cmpR o ha hb (marks (noSet hs))) fun σ H Q h => c_two_t (kq := fun Q x H' => ∃ k, x = .bl k ∧ Q k H') h fun Z x y M H v u Q0 E0 Q w m rx ry k =>
    i Z x y M H v u _ _ w m rx ry fun b hb => ⟨b, rfl, k b M H hb (.refl _ _) m⟩
/-- a chain -/
theorem c_chain {r r' : R2} {o1 o2 : CmpOp} {wa wb wc : WE} {Qb : Bool → VK} {σ : L2.St} {H : Hp} {Q : VK} {μ : Sl} {Z : Addr → Prop} {M : Mp} {E0 : KX} {Q0 : Bool → Mp → Prop}
    (i1 : ∀ Z x y M H v u (R : Bool → Prop) (Q : VK), cmpW o1 x y M R → RM ⟨X.K, Z⟩ M H → Rv ⟨X.K, Z⟩ M H x v → Rv ⟨X.K, Z⟩ M H y u → (∀ b, R b → Q (.bl b) H) → r v u H Q)
    (i2 : ∀ Z x y M H v u (R : Bool → Prop) (Q : VK), cmpW o2 x y M R → RM ⟨X.K, Z⟩ M H → Rv ⟨X.K, Z⟩ M H x v → Rv ⟨X.K, Z⟩ M H y u → (∀ b, R b → Q (.bl b) H) → r' v u H Q)
    (rs : RS ⟨X.K, Z⟩ M H σ μ) (rm : RM ⟨X.K, Z⟩ M H)
    (w : wa μ M (fun x M1 => wb μ M1 (fun y M2 => cmpW o1 x y M2 fun r =>
      match r with
      | true => wc μ M2 (fun z M3 => cmpW o2 y z M3 fun r => Q0 r M3) E0
      | false => Q0 false M2) E0) E0)
    (k : ∀ b M' H', Q0 b M' → Bx.Step M M' H H' → RM ⟨X.K, Z⟩ M' H' → Q (.bl b) H')
    (kx : ∀ n fs M' H' cls dd, E0 n fs M' → Bx.Step M M' H H' → RM ⟨X.K, Z⟩ M' H' → RX X.mg ⟨X.K, Z⟩ M' H' n fs cls dd → W cls dd σ H') : tChain r r' (TE' X W wa) (TE' X W wb) (TE' X W wc) σ H Q := by
  refine ⟨Z, μ, M, _, E0, rs, rm, w, fun x M1 H1 v w1 s1 rm1 rx => ?_, fun n fs M' H' cls dd e s m x => kx n fs M' H' cls dd e s m x⟩
  refine ⟨Z, μ, M1, _, E0, rs.step s1, rm1, w1, fun y M2 H2 u w2 s2 rm2 ry => ?_, fun n fs M' H' cls dd e s m x => kx n fs M' H' cls dd e (s1.trans s) m x⟩
  refine i1 Z x y M2 H2 v u _ _ w2 rm2 (rx.step s2) ry fun b hb => ⟨b, rfl, ?_⟩
  cases b with
  | false => rw [if_neg Bool.false_ne_true]; exact k false M2 H2 hb (s1.trans s2) rm2
  | true =>
    rw [if_pos rfl]
    refine ⟨Z, μ, M2, _, E0, rs.step (s1.trans s2), rm2, hb, fun z M3 H3 u' w3 s3 rm3 rz => ?_, fun n fs M' H' cls dd e s m x => kx n fs M' H' cls dd e ((s1.trans s2).trans s) m x⟩
    exact i2 Z y z M3 H3 u u' _ _ w3 rm3 (ry.step s3) rz fun b hb => k b M3 H3 hb ((s1.trans s2).trans s3) rm3
theorem g_ch {o1 o2 : CmpOp} {a b c : Expr} {wa wb wc : WE} {pos : Pos} (hr : Room lv X.A) (ha : PE X a (TE' X W wa)) (hb : PE X b (TE' X W wb)) (hc : PE X c (TE' X W wc)) (hs : isSet c = false) :
    PE X (.Compare a [o1, o2] [b, c] pos) (TE' X W fun μ M Q E => wa μ M (fun x M1 => wb μ M1 (fun y M2 => cmpW o1 x y M2 fun r =>
      match r with
      | true => wc μ M2 (fun z M3 => cmpW o2 y z M3 fun r => Q (.bl r) M3) E
      | false => Q (.bl false) M2) E) E) := by
  obtain ⟨r, o, i⟩ := (cmB_cmp hr o1).ex
  obtain ⟨r', o', i'⟩ := (cmB_cmp hr o2).ex
  refine pe_imp (pe_chain o o' ha hb hc (show lastMarks [o1, o2] [b, c] = false from marks (noSet hs))) fun σ H Q h => ?_
  obtain ⟨Z, μ, M, Q0, E0, rs, rm, w, k, kx⟩ := h
  exact c_chain (Qb := fun _ _ _ => True) (Q0 := fun b M => Q0 (.bl b) M) i i' rs rm w (fun b M' H' q s m => k (.bl b) M' H' (.bl b) q s m (.bl b)) kx
theorem g_chT {o1 o2 : CmpOp} {a b c : Expr} {wa wb wc : WE} {pos : Pos} (hr : Room lv X.A) (ha : PE X a (TE' X W wa)) (hb : PE X b (TE' X W wb)) (hc : PE X c (TE' X W wc)) (hs : isSet c = false) :
    PT X (.Compare a [o1, o2] [b, c] pos) (TT' X W fun μ M Q E => wa μ M (fun x M1 => wb μ M1 (fun y M2 => cmpW o1 x y M2 fun r =>
      match r with
      | true => wc μ M2 (fun z M3 => cmpW o2 y z M3 fun r => Q r M3) E
      | false => Q false M2) E) E) := by
  obtain ⟨r, o, i⟩ := (cmB_cmp hr o1).ex
  obtain ⟨r', o', i'⟩ := (cmB_cmp hr o2).ex
  refine pt_imp (pt_chain o o' ha hb hc (show lastMarks [o1, o2] [b, c] = false from marks (noSet hs))) fun σ H Q h => ?_
  obtain ⟨Z, μ, M, Q0, E0, rs, rm, w, k, kx⟩ := h
  exact c_chain (Qb := fun _ _ _ => True) (Q0 := Q0) (Q := fun x H' => ∃ k, x = .bl k ∧ Q k H') i i' rs rm w (fun b M' H' q s m => ⟨b, rfl, k b M' H' q s m⟩) kx
/-- truth -/
theorem g_truth {a : Expr} {wa : WE} (ha : PE X a (TE' X W wa)) (h : byTruth a = true) : PT X a (TT' X W fun μ M Q E => wa μ M (fun d M1 => ∃ b, truth M1 d = some b ∧ Q b M1) E) :=
  pt_imp (pt_truth ha (truth_road h _)) fun σ H Q h => c_test (r := fun x H' Q => ∃ k, TruV X.K x H' k ∧ Q k H') h fun Z x M H v Q0 E0 Q w m r k => by
    obtain ⟨b, t, q⟩ := w
    exact ⟨b, rel_rv m r t, k b M H q (.refl _ _) m⟩
theorem g_noT {a : Expr} {wa : WT} {pos : Pos} (ha : PT X a (TT' X W wa)) : PT X (.UnaryOp .Not a pos) (TT' X W fun μ M Q E => wa μ M (fun b M1 => Q (!b) M1) E) :=
  pt_imp (pt_not ha) fun σ H Q h => by
    obtain ⟨Z, μ, M, Q0, E0, rs, rm, w, k, kx⟩ := h
    exact ⟨Z, μ, M, _, E0, rs, rm, w, fun b M' H' q s m => k (!b) M' H' q s m, kx⟩
theorem g_ife {c a b : Expr} {wc : WT} {wa wb : WE} {pos : Pos} (hc : PT X c (TT' X W wc)) (ha : PE X a (TE' X W wa)) (hb : PE X b (TE' X W wb)) :
    PE X (.IfExp c a b pos) (TE' X W fun μ M Q E => wc μ M (fun r M1 => match r with
      | true => wa μ M1 Q E
      | false => wb μ M1 Q E) E) :=
  pe_imp (pe_ifExp hc ha hb) fun σ H Q h => by
    obtain ⟨Z, μ, M, Q0, E0, rs, rm, w, k, kx⟩ := h
    refine ⟨Z, μ, M, _, E0, rs, rm, w, fun b M1 H1 q s m => ?_, kx⟩
    cases b with
    | true => rw [if_pos rfl]; exact ⟨Z, μ, M1, Q0, E0, rs.step s, m, q, fun d M' H' v q s' m' r => k d M' H' v q (s.trans s') m' r, fun n fs M' H' cls dd e s' m' x => kx n fs M' H' cls dd e (s.trans s') m' x⟩
    | false => rw [if_neg Bool.false_ne_true]; exact ⟨Z, μ, M1, Q0, E0, rs.step s, m, q, fun d M' H' v q s' m' r => k d M' H' v q (s.trans s') m' r, fun n fs M' H' cls dd e s' m' x => kx n fs M' H' cls dd e (s.trans s') m' x⟩
theorem g_tup {es : List Expr} {wa : WA} {k : Nat} {pos : Pos} (ha : PA X es (TA' X W wa)) : PE X (.Tuple es k pos) (TE' X W fun μ M Q E => wa μ M (fun ds M1 => ds.length ≤ big ∧ Q (.tup ds) M1) E) :=
  pe_imp (pe_tup ha) fun σ H Q h => c_args (r := fun vs H1 Q => vs.length ≤ sizeLine ∧ ∀ p, H1 p = none → Q (.ref p) (upd H1 p (.tup vs))) h fun Z xs M H vs Q0 E0 Q w m r k =>
    ⟨by rw [← r.length]; exact w.1, newT_ok w.2 m r k⟩
theorem g_lst {fz : Bool} {es : List Expr} {wa : WA} {pos : Pos} (ha : PA X es (TA' X W wa)) : PE X (.List es pos) (TE' X W fun μ M Q E => wa μ M (fun ds M1 => newL fz ds M1 Q) E) :=
  pe_imp (pe_lst ha) fun σ H Q h => c_args (r := fun vs H1 Q => vs.length ≤ sizeLine ∧ ∀ p, H1 p = none → Q (.ref p) (upd H1 p (.lst vs))) h fun Z xs M H vs Q0 E0 Q w m r k => by
    have := newL_ok w m r k
    exact ⟨by rw [← r.length]; exact this.1, this.2⟩
theorem g_ix {a b : Expr} {wa wb : WE} {pos : Pos} (ha : PE X a (TE' X W wa)) (hb : PE X b (TE' X W wb)) (hs : isSlice b = false) :
    PE X (.Subscript a b pos) (TE' X W fun μ M Q E => wa μ M (fun x M1 => wb μ M1 (fun y M2 => ixW x y M2 Q) E) E) :=
  pe_imp (pe_ix ix_seq ha hb (plainIx hs)) fun σ H Q h => c_two h fun Z x y M H v u Q0 E0 Q w m rx ry k => by
    cases y with
    | int i =>
      cases ry
      obtain ⟨xs, d, e, ed, q⟩ := w
      obtain ⟨a, vs, rfl, h, rs⟩ := items_ok e m rx
      obtain ⟨v', ev, rv⟩ := atI_rv rs ed
      rcases h with ⟨h, _⟩ | ⟨h, _⟩
      · exact .inl ⟨a, vs, i, v', rfl, rfl, h, ev, Cl.here k q m rv⟩
      · exact .inr (.inl ⟨a, vs, i, v', rfl, rfl, h, ev, Cl.here k q m rv⟩)
    | _ => cases w
theorem SlR.or {r r' : V → Option Int → Option Int → Hp → VK → Prop} (h : L2.SlR X r) (h' : L2.SlR X r') : L2.SlR X (fun x lo hi H Q => r x lo hi H Q ∨ r' x lo hi H Q) := by
  intro pins s σ H x v vl vu lo hi sl Q I rx hs pl pu q
  rcases q with q | q
  · exact h pins s σ H x v vl vu lo hi sl Q I rx hs pl pu q
  · exact h' pins s σ H x v vl vu lo hi sl Q I rx hs pl pu q
/-- a part of a slice -/
def TO' (X : Cx) (W : WX) (w : Sl → Mp → (Option Int → Mp → Prop) → KX → Prop) : TO := fun σ H Q => ∃ Z : Addr → Prop, ∃ μ M Q0 E0, RS ⟨X.K, Z⟩ M H σ μ ∧ RM ⟨X.K, Z⟩ M H ∧ w μ M Q0 E0 ∧
  (∀ o M' H', Q0 o M' → Bx.Step M M' H H' → RM ⟨X.K, Z⟩ M' H' → Q o H') ∧
  ∀ n fs M' H' cls dd, E0 n fs M' → Bx.Step M M' H H' → RM ⟨X.K, Z⟩ M' H' → RX X.mg ⟨X.K, Z⟩ M' H' n fs cls dd → W cls dd σ H'
theorem po_imp {e : Option Expr} {t t' : TO} (h : PO X e t) (i : ∀ σ H Q, t' σ H Q → t σ H Q) : PO X e t' := ⟨fun pins s σ H Q I q => h.run pins s σ H Q I (i σ H Q q)⟩
theorem g_po {e : Expr} {wa : WE} (ha : PE X e (TE' X W wa)) : PO X (some e) (TO' X W fun μ M Q E => wa μ M (fun x M1 => match x with
      | .int i => Q (some i) M1
      | _ => False) E) :=
  po_imp (po_some ha) fun σ H Q h => by
    obtain ⟨Z, μ, M, Q0, E0, rs, rm, w, k, kx⟩ := h
    refine ⟨Z, μ, M, _, E0, rs, rm, w, fun d M' H' v q s m r => ?_, kx⟩
    cases d with
    | int i => cases r; exact ⟨i, rfl, k (some i) M' H' q s m⟩
    | _ => cases q
theorem g_po0 : PO X none (TO' X W fun μ M Q E => Q none M) := po_imp po_none fun σ H Q h => by
  obtain ⟨Z, μ, M, Q0, E0, rs, rm, w, k, kx⟩ := h
  exact k none M H w (.refl _ _) rm
theorem g_sl {fz : Bool} {e : Expr} {lo hi : Option Expr} {wa : WE} {wl wh : Sl → Mp → (Option Int → Mp → Prop) → KX → Prop} {p2 pos : Pos} (ha : PE X e (TE' X W wa)) (hl : PO X lo (TO' X W wl)) (hh : PO X hi (TO' X W wh)) :
    PE X (.Subscript e (.Slice lo hi none p2) pos) (TE' X W fun μ M Q E => wa μ M (fun x M1 => wl μ M1 (fun l M2 => wh μ M2 (fun h M3 => slW fz x l h M3 Q) E) E) E) :=
  pe_imp (pe_slice (SlR.or (sl_tupA) sl_list) ha hl hh) fun σ H Q h => by
    obtain ⟨Z, μ, M, Q0, E0, rs, rm, w, k, kx⟩ := h
    refine ⟨Z, μ, M, _, E0, rs, rm, w, fun x M1 H1 v w1 s1 m1 rx => ?_, kx⟩
    refine ⟨Z, μ, M1, _, E0, rs.step s1, m1, w1, fun l M2 H2 w2 s2 m2 => ?_, fun n fs M' H' cls dd e s' m' x => kx n fs M' H' cls dd e (s1.trans s') m' x⟩
    refine ⟨Z, μ, M2, _, E0, rs.step (s1.trans s2), m2, w2, fun h M3 H3 w3 s3 m3 => ?_, fun n fs M' H' cls dd e s' m' x => kx n fs M' H' cls dd e ((s1.trans s2).trans s') m' x⟩
    have rx3 := rx.step (s2.trans s3)
    have kk : Cl ⟨X.K, Z⟩ M3 H3 Q0 Q := fun d M' H' v q s m r => k d M' H' v q (((s1.trans s2).trans s3).trans s) m r
    have lists : (∃ xs, itemsOf M3 x = some xs ∧ newL fz (cutD xs l h) M3 Q0) → (∀ ys, x ≠ .tup ys) → rSlL X.K v l h H3 Q := by
      rintro ⟨xs, e, n⟩ nt
      obtain ⟨a, vs, rfl, hq, r⟩ := items_ok e m3 rx3
      rcases hq with ⟨hq, _⟩ | ⟨_, z⟩
      · exact ⟨a, vs, rfl, hq, (newL_ok n m3 (r.cut l h) kk).2⟩
      · exact absurd z (nt _)
    cases x with
    | tup xs =>
      have w3 : Q0 (.tup (cutD xs l h)) M3 := w3
      obtain ⟨a, vs, rfl, hq, r⟩ := rx3.sqT
      refine .inl ⟨a, vs, rfl, hq, fun hw => ?_, fun _ => newT_ok w3 m3 (r.cut l h) kk⟩
      have e : cutD xs l h = xs := by
        unfold cutD
        rw [r.length, hw.1, hw.2, List.drop_zero, ← r.length]
        simp
      rw [e] at w3
      exact kk.here w3 m3 rx3
    | rl xs => exact .inr (lists w3 fun _ z => nomatch z)
    | wl xs => exact .inr (lists w3 fun _ z => nomatch z)
    | obj a => exact .inr (lists w3 fun _ z => nomatch z)
    | _ => obtain ⟨_, e, _⟩ := w3; cases e
theorem Rvs.reverse {κ : KZ} {M : Mp} {H : Hp} : ∀ {ds : List D} {vs : List V}, Rvs κ M H ds vs → Rvs κ M H ds.reverse vs.reverse
  | _, _, .nil => .nil
  | _, _, .cons h r => by
    rw [List.reverse_cons, List.reverse_cons]
    exact (Rvs.reverse r).append (.cons h .nil)
theorem g_rev {fz : Bool} {e : Expr} {wa : WE} {k : Nat} {p1 p2 p3 pos : Pos} (ha : PE X e (TE' X W wa)) :
    PE X (.Subscript e (.Slice none none (some (.UnaryOp .USub (.Constant (.int 1) k p1) p2)) p3) pos) (TE' X W fun μ M Q E => wa μ M (fun x M1 => revW fz x M1 Q) E) :=
  pe_imp (BxX.pe_revA ha) fun σ H Q h => by
    obtain ⟨Z, μ, M, Q0, E0, rs, rm, w, k, kx⟩ := h
    refine ⟨Z, μ, M, _, E0, rs, rm, w, fun x M1 H1 v w1 s1 m1 rx => ?_, kx⟩
    have kk : Cl ⟨X.K, Z⟩ M1 H1 Q0 Q := fun d M' H' v q s m r => k d M' H' v q (s1.trans s) m r
    have lists : (∃ xs, itemsOf M1 x = some xs ∧ newL fz xs.reverse M1 Q0) → (∀ ys, x ≠ .tup ys) → ∃ a xs, v = .ref a ∧ ((SqL X.K H1 a xs ∧ ∀ p, H1 p = none → Q (.ref p) (upd H1 p (.lst xs.reverse))) ∨ (SqT X.K H1 a xs ∧ ∀ p, H1 p = none → Q (.ref p) (upd H1 p (.tup xs.reverse)))) := by
      rintro ⟨xs, e, n⟩ nt
      obtain ⟨a, vs, rfl, hq, r⟩ := items_ok e m1 rx
      rcases hq with ⟨hq, _⟩ | ⟨_, z⟩
      · exact ⟨a, vs, rfl, .inl ⟨hq, (newL_ok n m1 r.reverse kk).2⟩⟩
      · exact absurd z (nt _)
    cases x with
    | tup xs =>
      have w1 : Q0 (.tup xs.reverse) M1 := w1
      obtain ⟨a, vs, rfl, hq, r⟩ := rx.sqT
      exact ⟨a, vs, rfl, .inr ⟨hq, newT_ok w1 m1 r.reverse kk⟩⟩
    | rl xs => exact lists w1 fun _ z => nomatch z
    | wl xs => exact lists w1 fun _ z => nomatch z
    | obj a => exact lists w1 fun _ z => nomatch z
    | _ => obtain ⟨_, e, _⟩ := w1; cases e
theorem upd3 {H : Hp} {a d : Addr} {x y z : HO} : upd (upd (upd H a x) d y) a z = upd (upd H d y) a z := by
  funext b
  by_cases h : b = a
  · rw [h, upd_same, upd_same]
  · rw [upd_ne h, upd_ne h]
    by_cases h2 : b = d
    · rw [h2, upd_same, upd_same]
    · rw [upd_ne h2, upd_ne h2, upd_ne h]
/-- an own error is made -/
theorem mkx_ok {K : PySem.W.Frag} {Z : Addr → Prop} {C : Addr} {ns : List Str} {as bs ds : List D} {vs zs : List V} {gV : List V → List V → List V} {gD : List D → List D → List D} {M : Mp} {H : Hp} {Q0 : KE} {Q : VK} (hC : XcOk K C ns.reverse)
    (hv : ∀ κ M H as bs vs zs, Rvs κ M H as vs → Rvs κ M H bs zs → Rvs κ M H (gD as bs) (gV vs zs)) (r1 : Rvs ⟨K, Z⟩ M H as vs) (r2 : Rvs ⟨K, Z⟩ M H bs zs) (m : RM ⟨K, Z⟩ M H) (hds : ∀ a, gD (.obj a :: as) bs = .obj a :: ds) (hl : ds.length = ns.length)
    (q : Q0 (.exc C ns.reverse ds.reverse) M) (kq : Cl ⟨K, Z⟩ M H Q0 Q) (a : Addr) (ha : H a = none) : spI C ns (gV (.ref a :: vs) zs) (upd H a (exo a C none)) (fun v H3 => v = .non ∧ Q (.ref a) H3) (fun _ _ _ => False) := by
  have r3 := hv ⟨K, Z⟩ M H _ _ _ _ (.cons (.obj a) r1) r2
  rw [hds a] at r3
  generalize gV (.ref a :: vs) zs = us at r3
  cases r3 with
  | @cons _ _ _ rest ra rr =>
    cases ra
    refine ⟨a, rest, rfl, by rw [← rr.length]; exact hl, upd_same, fun d hd hda => ⟨rfl, ?_⟩⟩
    rw [upd3]
    have hd0 : H d = none := by rw [upd_ne hda] at hd; exact hd
    have s1 : Bx.Step M M H (upd H d (exd d (ns.reverse.zip rest.reverse))) := step_val hd0
    have m1 := m.val (u := exd d (ns.reverse.zip rest.reverse)) hd0
    have ha1 : (upd H d (exd d (ns.reverse.zip rest.reverse))) a = none := by rw [upd_ne (Ne.symm hda)]; exact ha
    have s2 := s1.trans (step_val (M := M) (u := exo a C (some d)) ha1)
    have m2 := m1.val (u := exo a C (some d)) ha1
    refine kq _ M _ _ q s2 m2 ?_
    exact .exc hC (m.fresh ha) (m.fresh hd0) upd_same (by rw [upd_ne hda, upd_same]) (by rw [List.length_reverse, List.length_reverse, hl]) (rr.step s2).reverse
/-- a def is called by its name -/
theorem g_call {x : Str} {ks : List Str} {S : Spec} {e : Expr} {es : List Expr} {wa : WA} {p pos : Pos} (C : CallOk X.prog X.w X.K X.mg X.base lv x [] S) (hr : Room lv X.A) (tk : Takes X W) (hg : Gl X x) (ha : PA X (e :: es) (TA' X W wa))
    (he : starEach (e :: es) X.env = (false, eval e X.env) :: starEach es X.env) (hpl : (backTo pos (starEach es X.env)).any (·.1) = false) :
    PE X (.Call (.Name x p) (e :: es) [] pos) (TE' X W fun μ M Q E => wa μ M (fun ds M1 => S ds M1 Q E) E) := by
  rcases C.ex with C | C
  · obtain ⟨f, fd, ps, k, S0, hm, hk, hl, F, hdb, hlen, hpos⟩ := C
    obtain ⟨dvs, dds, dus, hb, hd, hv, hS⟩ := hpos.1 rfl
    refine pe_imp (pe_callSD (E := fun σ => L2.WE W σ) F (hr.mono hl) hg hm hk hb hd (fun σ => passAt tk σ) ha hdb he hpl) fun σ H Q h => ?_
    obtain ⟨Z, μ, M, Q0, E0, rs, rm, w, kq, kx⟩ := h
    refine ⟨Z, μ, M, _, E0, rs, rm, w, fun ds M1 H1 vs w1 s1 m1 r => ?_, kx⟩
    have r2 : Rvs ⟨X.K, Z⟩ M1 H1 (ds ++ dds) (vs ++ dvs) := r.append (hv Z M1 H1)
    have w2 := hS ds M1 Q0 E0 w1
    exact ⟨Z, ds ++ dds, M1, Q0, E0, by rw [← r2.length]; exact hlen _ _ _ _ w2, r2, m1, w2, fun d M' H' v q s m r => kq d M' H' v q (s1.trans s) m r, fun n fs M' H' cls dd e s m x => kx n fs M' H' cls dd e (s1.trans s) m x⟩
  · obtain ⟨C, fI, fd, ps, ns, k, n, g, gV, gD, hm, T, iC, tI, hl, hz, hdb, hC, F, hb, hv, hS⟩ := C
    refine pe_imp (BxX.pe_mkx T iC tI F (hr.mono hl) hb passL hg hm hz ha hdb he hpl) fun σ H Q h => ?_
    obtain ⟨Z, μ, M, Q0, E0, rs, rm, w, kq, kx⟩ := h
    refine ⟨Z, μ, M, _, E0, rs, rm, w, fun ds M1 H1 vs w1 s1 m1 r => ?_, kx⟩
    obtain ⟨e1, ds', hds, hl', q⟩ := hS ds [] M1 Q0 E0 rfl (by rw [List.append_nil]; exact w1)
    exact ⟨by rw [← r.length]; exact e1, fun a ha => mkx_ok hC hv r .nil m1 hds hl' q (fun d M' H' v q s m r => kq d M' H' v q (s1.trans s) m r) a ha⟩
end

/-! ### keywords in the call -/
section
variable {X : Cx} {CX : CXT} {k n : Nat} {f : Addr} {fd : FuncData} {ps ks : List Str} {sp : Sp} {E : L2.St → XK} {x : Str} {p pos : Pos} {e : Expr} {es : List Expr} {kws : List Keyword} {t tk : TA} {g : List Value → List Value → List Value} {gV : List V → List V → List V}
def tCallKD (n m : Nat) (sp : Sp) (gV : List V → List V → List V) (E : L2.St → XK) (t tk : TA) : TE := fun σ H Q => t σ H fun vs H1 => tk σ H1 fun zs H2 => vs.length = n ∧ zs.length = m ∧ sp (gV vs zs) H2 Q (E σ)
def tCallK0 (n m : Nat) (sp : Sp) (gV : List V → List V → List V) (E : L2.St → XK) (tk : TA) : TE := fun σ H Q => tk σ H fun zs H2 => ([] : List V).length = n ∧ zs.length = m ∧ sp (gV [] zs) H2 Q (E σ)
theorem run_fnKD {pins : List (Addr × Obj)} {σ : L2.St} {H : Hp} {s : Shared} {Q : VK} {us ws : List Value} {vs zs : List V} (F : FnOk X.prog X.w X.K X.mg X.base CX k f fd ps sp) (hr : Room k X.A) (hb : KBn X.K fd ps n ks g gV) (hx : PassesAt CX X σ (E σ))
    (I : Inv X pins σ H s) (r : Vals vs us) (rz : Vals zs ws) (l1 : vs.length = n) (l2 : zs.length = ks.length) (h : sp (gV vs zs) H Q (E σ)) : wpAny (model X.prog X.w) X.A (call (.ref f) us (ks.zip ws)) (EP X pins σ Q) X.xe s := by
  have r2 := hb.rel r rz
  refine wpAny_call (codeAny_mono (F.run X.A X.stack s H ⟨us, ks.zip ws⟩ (g us ws) (gV vs zs) Q (E σ) hr I.env0 (hb.to s us ws I.kIn (r.length.symm.trans l1) (rz.length.symm.trans l2)) r2 h) fun r s' hq => ?_)
  cases r with
  | error e => exact hx pins H s e s' I hq
  | ok fl =>
    cases fl with
    | ret u => exact I.after hq
    | next => exact False.elim hq
    | brk => exact False.elim hq
    | cont => exact False.elim hq
theorem pe_callKD (F : FnOk X.prog X.w X.K X.mg X.base CX k f fd ps sp) (hr : Room k X.A) (hg : Gl X x) (hm : X.mg x = some (.ref f)) (hk : PySem.W.keepIn X.K (.ref f) = true) (hb : KBn X.K fd ps n ks g gV) (hx : ∀ σ, PassesAt CX X σ (E σ))
    (ha : PA X (e :: es) t) (hkw : PK X kws tk) (hall : (backToKw pos (keywordEach kws X.env)).all (·.1.isSome) = true) (hks : (backToKw pos (keywordEach kws X.env)).filterMap (·.1) = ks)
    (hdb : (x == ("__debug__" : Str)) = false) (he : starEach (e :: es) X.env = (false, eval e X.env) :: starEach es X.env)
    (hpl : ((backTo pos (starEach (e :: es) X.env)).any (·.1) || (backToKw pos (keywordEach kws X.env)).any (·.1.isNone)) = false) :
    PE X (.Call (.Name x p) (e :: es) kws pos) (tCallKD n ks.length sp gV E t tk) := by
  refine ⟨fun pins s σ H Q I h => ?_⟩
  refine wpAny_Call_Name_kw (ld_glob I hg hm ?_ hdb)
  refine PySem.W.callWith_KW (h₀ := X.base) I.ok.mod.kin hk hall (thn (ha.run pos pins s σ H _ I h) fun us s1 ⟨vs, H1, I1, r, q⟩ => ?_) hpl he
  refine thn (hkw.run pos pins s1 σ H1 _ I1 q) fun ws s2 ⟨zs, H2, I2, rz, l1, l2, q2⟩ => ⟨I2.kIn, ?_⟩
  rw [hks]
  exact run_fnKD F hr hb (hx σ) I2 r rz l1 l2 q2
theorem pe_callK0 (F : FnOk X.prog X.w X.K X.mg X.base CX k f fd ps sp) (hr : Room k X.A) (hg : Gl X x) (hm : X.mg x = some (.ref f)) (hk : PySem.W.keepIn X.K (.ref f) = true) (hb : KBn X.K fd ps n ks g gV) (hx : ∀ σ, PassesAt CX X σ (E σ))
    (hkw : PK X kws tk) (hall : (backToKw pos (keywordEach kws X.env)).all (·.1.isSome) = true) (hks : (backToKw pos (keywordEach kws X.env)).filterMap (·.1) = ks)
    (hdb : (x == ("__debug__" : Str)) = false) (hpl : ((backTo pos (starEach [] X.env)).any (·.1) || (backToKw pos (keywordEach kws X.env)).any (·.1.isNone)) = false) :
    PE X (.Call (.Name x p) [] kws pos) (tCallK0 n ks.length sp gV E tk) := by
  refine ⟨fun pins s σ H Q I h => ?_⟩
  refine wpAny_Call_Name_kw (ld_glob I hg hm ?_ hdb)
  refine PySem.W.callWith_KW0 (h₀ := X.base) I.ok.mod.kin hk hall ?_ hpl
  refine thn (hkw.run pos pins s σ H _ I h) fun ws s2 ⟨zs, H2, I2, rz, l1, l2, q2⟩ => ⟨I2.kIn, ?_⟩
  rw [hks]
  exact run_fnKD F hr hb (hx σ) I2 .nil rz l1 l2 q2
end
theorem kw_all {kws : List Keyword} {ks : List Str} {pos : Pos} {env : Env} (h : kws.map (·.arg) = ks.map some) : (backToKw pos (keywordEach kws env)).all (·.1.isSome) = true ∧ (backToKw pos (keywordEach kws env)).filterMap (·.1) = ks ∧ (backToKw pos (keywordEach kws env)).any (·.1.isNone) = false := by
  induction kws generalizing ks with
  | nil => cases ks with
    | nil => exact ⟨rfl, rfl, rfl⟩
    | cons a b => cases h
  | cons kw r ih => cases ks with
    | nil => cases h
    | cons a b =>
      obtain ⟨nm, e, kp⟩ := kw
      simp only [List.map_cons, List.cons.injEq] at h
      obtain ⟨h1, h2⟩ := h
      obtain ⟨i1, i2, i3⟩ := ih h2
      subst h1
      simp only [keywordEach, backToKw, List.map_cons, List.all_cons, List.filterMap_cons, List.any_cons] at i1 i2 i3 ⊢
      exact ⟨by rw [i1]; rfl, by rw [i2], by rw [i3]; rfl⟩
section
variable {X : Cx} {W : WX} {lv : Nat}
theorem pk_imp {X : Cx} {kws : List Keyword} {t t' : TA} (h : PK X kws t) (i : ∀ σ H Q, t' σ H Q → t σ H Q) : PK X kws t' := ⟨fun pos pins s σ H Q I q => h.run pos pins s σ H Q I (i _ _ _ q)⟩
theorem kw_fin {ks : List Str} {S : Spec} {P : Program} {w : World} {K : PySem.W.Frag} {mg : Str → Option Value} {ps : List Str} {S0 : Spec} {n : Nat} {gV : List V → List V → List V} {gD : List D → List D → List D} (hlen : ∀ as M Q E, S0 as M Q E → as.length = ps.length)
    (hv : ∀ κ M H as bs vs zs, Rvs κ M H as vs → Rvs κ M H bs zs → Rvs κ M H (gD as bs) (gV vs zs)) (hS : ∀ as bs M Q E, bs.length = ks.length → S (as ++ bs) M Q E → as.length = n ∧ S0 (gD as bs) M Q E)
    {Z : Addr → Prop} {as bs : List D} {vs zs : List V} {M : Mp} {H : Hp} {Q0 : KE} {E0 : KX} {Q : VK} {E : XK} (r1 : Rvs ⟨K, Z⟩ M H as vs) (r2 : Rvs ⟨K, Z⟩ M H bs zs) (m : RM ⟨K, Z⟩ M H) (hl2 : bs.length = ks.length) (w1 : S (as ++ bs) M Q0 E0) (kq : Cl ⟨K, Z⟩ M H Q0 Q)
    (kx : ∀ nm fs M' H' cls dd, E0 nm fs M' → Bx.Step M M' H H' → RM ⟨K, Z⟩ M' H' → RX mg ⟨K, Z⟩ M' H' nm fs cls dd → E cls dd H') : vs.length = n ∧ zs.length = ks.length ∧ SpOf mg K ps.length S0 (gV vs zs) H Q E := by
  obtain ⟨e1, w2⟩ := hS _ _ _ _ _ hl2 w1
  have r3 := hv _ _ _ _ _ _ _ r1 r2
  exact ⟨by rw [← r1.length]; exact e1, by rw [← r2.length]; exact hl2, Z, gD as bs, M, Q0, E0, by rw [← r3.length]; exact hlen _ _ _ _ w2, r3, m, w2, kq, kx⟩
/-- a def is called by its name, keywords among the arguments -/
theorem g_callk {x : Str} {ks : List Str} {S : Spec} {e : Expr} {es : List Expr} {kws : List Keyword} {wa wk : WA} {p pos : Pos} (C : CallOk X.prog X.w X.K X.mg X.base lv x ks S) (hn : ks ≠ []) (hr : Room lv X.A) (tk : Takes X W) (hg : Gl X x) (ha : PA X (e :: es) (TA' X W wa)) (hkw : PK X kws (TA' X W wk))
    (hk' : kws.map (·.arg) = ks.map some) (he : starEach (e :: es) X.env = (false, eval e X.env) :: starEach es X.env) (hpl : (backTo pos (starEach (e :: es) X.env)).any (·.1) = false) :
    PE X (.Call (.Name x p) (e :: es) kws pos) (TE' X W fun μ M Q E => wa μ M (fun ds M1 => wk μ M1 (fun zs M2 => zs.length = ks.length ∧ S (ds ++ zs) M2 Q E) E) E) := by
  obtain ⟨k1, k2, k3⟩ := kw_all (pos := pos) (env := X.env) hk'
  rcases C.ex with C | C
  rotate_left
  · obtain ⟨C, fI, fd, ps, ns, k, n, g, gV, gD, hm, T, iC, tI, hl, hz, hdb, hC, F, hb, hv, hS⟩ := C
    refine pe_imp (BxX.pe_mkxN T iC tI F (hr.mono hl) hb passL hg hm hz ha hkw k1 k2 hdb he (by rw [hpl, k3]; rfl)) fun σ H Q h => ?_
    obtain ⟨Z, μ, M, Q0, E0, rs, rm, w, kq, kx⟩ := h
    refine ⟨Z, μ, M, _, E0, rs, rm, w, fun ds M1 H1 vs w1 s1 m1 r1 => ?_, kx⟩
    refine ⟨Z, μ, M1, _, E0, rs.step s1, m1, w1, fun zs M2 H2 us w2 s2 m2 r2 => ?_, fun n fs M' H' cls dd e s' m' x => kx n fs M' H' cls dd e (s1.trans s') m' x⟩
    obtain ⟨e1, ds', hds, hl', q⟩ := hS ds zs M2 Q0 E0 w2.1 w2.2
    exact ⟨by rw [← r1.length]; exact e1, by rw [← r2.length]; exact w2.1, fun a ha => mkx_ok hC hv (r1.step s2) r2 m2 hds hl' q (fun d M' H' v q s m r => kq d M' H' v q ((s1.trans s2).trans s) m r) a ha⟩
  obtain ⟨f, fd, ps, k, S0, hm, hk, hl, F, hdb, hlen, hpos⟩ := C
  obtain ⟨n, g, gV, gD, hb, hv, hS⟩ := hpos.2 hn
  refine pe_imp (pe_callKD (E := fun σ => L2.WE W σ) F (hr.mono hl) hg hm hk hb (fun σ => passAt tk σ) ha hkw k1 k2 hdb he (by rw [hpl, k3]; rfl)) fun σ H Q h => ?_
  obtain ⟨Z, μ, M, Q0, E0, rs, rm, w, kq, kx⟩ := h
  refine ⟨Z, μ, M, _, E0, rs, rm, w, fun ds M1 H1 vs w1 s1 m1 r1 => ?_, kx⟩
  refine ⟨Z, μ, M1, _, E0, rs.step s1, m1, w1, fun zs M2 H2 us w2 s2 m2 r2 => ?_, fun n fs M' H' cls dd e s' m' x => kx n fs M' H' cls dd e (s1.trans s') m' x⟩
  exact kw_fin (P := X.prog) (w := X.w) hlen hv hS (r1.step s2) r2 m2 w2.1 w2.2 (fun d M' H' v q s m r => kq d M' H' v q ((s1.trans s2).trans s) m r) (fun n fs M' H' cls dd e s m x => kx n fs M' H' cls dd e ((s1.trans s2).trans s) m x)
theorem g_callk0 {x : Str} {ks : List Str} {S : Spec} {kws : List Keyword} {wk : WA} {p pos : Pos} (C : CallOk X.prog X.w X.K X.mg X.base lv x ks S) (hn : ks ≠ []) (hr : Room lv X.A) (tk : Takes X W) (hg : Gl X x) (hkw : PK X kws (TA' X W wk))
    (hk' : kws.map (·.arg) = ks.map some) :
    PE X (.Call (.Name x p) [] kws pos) (TE' X W fun μ M Q E => wk μ M (fun zs M2 => zs.length = ks.length ∧ S ([] ++ zs) M2 Q E) E) := by
  obtain ⟨k1, k2, k3⟩ := kw_all (pos := pos) (env := X.env) hk'
  rcases C.ex with C | C
  rotate_left
  · obtain ⟨C, fI, fd, ps, ns, k, n, g, gV, gD, hm, T, iC, tI, hl, hz, hdb, hC, F, hb, hv, hS⟩ := C
    refine pe_imp (BxX.pe_mkx0 T iC tI F (hr.mono hl) hb passL hg hm hz hkw k1 k2 hdb (by rw [k3]; rfl)) fun σ H Q h => ?_
    obtain ⟨Z, μ, M, Q0, E0, rs, rm, w, kq, kx⟩ := h
    refine ⟨Z, μ, M, _, E0, rs, rm, w, fun zs M2 H2 us w2 s2 m2 r2 => ?_, kx⟩
    obtain ⟨e1, ds', hds, hl', q⟩ := hS [] zs M2 Q0 E0 w2.1 w2.2
    exact ⟨e1, by rw [← r2.length]; exact w2.1, fun a ha => mkx_ok hC hv (as := []) (vs := []) .nil r2 m2 hds hl' q (fun d M' H' v q s m r => kq d M' H' v q (s2.trans s) m r) a ha⟩
  obtain ⟨f, fd, ps, k, S0, hm, hk, hl, F, hdb, hlen, hpos⟩ := C
  obtain ⟨n, g, gV, gD, hb, hv, hS⟩ := hpos.2 hn
  refine pe_imp (pe_callK0 (E := fun σ => L2.WE W σ) F (hr.mono hl) hg hm hk hb (fun σ => passAt tk σ) hkw k1 k2 hdb (by rw [k3]; rfl)) fun σ H Q h => ?_
  obtain ⟨Z, μ, M, Q0, E0, rs, rm, w, kq, kx⟩ := h
  refine ⟨Z, μ, M, _, E0, rs, rm, w, fun zs M2 H2 us w2 s2 m2 r2 => ?_, kx⟩
  exact kw_fin (P := X.prog) (w := X.w) hlen hv hS (as := []) (vs := []) .nil r2 m2 w2.1 w2.2 (fun d M' H' v q s m r => kq d M' H' v q (s2.trans s) m r) (fun n fs M' H' cls dd e s m x => kx n fs M' H' cls dd e (s2.trans s) m x)
end
end Bx

set_option Elab.async false
set_option linter.all false
set_option maxRecDepth 100000
set_option maxHeartbeats 16000000
/-! Bx, part H: methods, tables of the module, isinstance, list(range), comprehensions. -/
namespace Bx
open PySem PySem.Spec PyProof.Rows L2
section
variable {X : Cx} {W : WX} {lv : Nat} {N : List Str} {sc : Scope} {fn : List (Nat × Str × List Str)} {tb : List (Nat × Str)} {Γ : Gm}

theorem base_name {x : Str} {p : Pos} (f : Str) (env : PySem.Env) : attributeBase (.Name x p) f env (eval (.Name x p) env) = eval (.Name x p) env := rfl
/-- methods of a list of ours -/
theorem own_ty {Z : Addr → Prop} {M : Mp} {H : Hp} {x : D} {v : V} (m : RM ⟨X.K, Z⟩ M H) (r : Rv ⟨X.K, Z⟩ M H x v) (h : ownL M x) : tyV X.K "list" v H := by
  cases x with
  | obj a =>
    cases r
    obtain ⟨xs, e⟩ := h
    obtain ⟨vs, hq, _⟩ := m.own a _ e
    exact .inl ⟨rfl, _, .of hq⟩
  | _ => cases h
theorem g_pop {o : Expr} {wo : WE} {ap cp : Pos} (ho : PE X o (TE' X W wo)) (so : simpO o = true) (hl : (ap.endLine == cp.line) = true) :
    PE X (.Call (.Attribute o "pop" ap) [] [] cp) (TE' X W fun μ M Q E => wo μ M (fun x M1 => ownL M1 x ∧ mthW "pop" x [] M1 Q) E) := by
  have hb : attributeBase o "pop" X.env (eval o X.env) = eval o X.env := by cases o <;> first | rfl | cases so
  refine pe_imp (pe_bm0 PySem.F.plainAttrs_list PySem.F.slot_list_pop PySem.F.type_list_pop mt_pop ho hb hl) fun σ H Q h => c_one (r := fun x H1 Q => tyV X.K "list" x H1 ∧ rPop x [] H1 Q) h fun Z x M H v Q0 E0 Q w mm r k => ?_
  obtain ⟨ow, w⟩ := w
  refine ⟨own_ty mm r ow, ?_⟩
  cases x with
  | obj a =>
    cases r
    obtain ⟨xs, e, w⟩ := w
    rw [if_neg (by decide +kernel), if_pos rfl] at w
    obtain ⟨d, ed, q⟩ := w
    obtain ⟨vs, hq, rs⟩ := mm.own a _ e
    have w2 : Q0 d (Bx.put M a (.lst xs.dropLast)) := q
    obtain ⟨v, ev, rv⟩ := rs.get ed
    refine ⟨a, vs, v, rfl, rfl, hq, by rw [← rs.length]; exact ev, ?_⟩
    exact k d _ _ v w2 (step_put e) (mm.put e rs.dropLast) (rv.step (step_put e))
  | _ => cases w
theorem g_append {o e : Expr} {wo : WE} {wa : WA} {ap cp : Pos} (ho : PE X o (TE' X W wo)) (ha : PA X [e] (TA' X W wa)) (so : simpO o = true) (hl : (ap.endLine == cp.line) = true) (hs : isStar e = false) :
    PE X (.Call (.Attribute o "append" ap) [e] [] cp) (TE' X W fun μ M Q E => wo μ M (fun x M1 => ownL M1 x ∧ wa μ M1 (fun ds M2 => mthW "append" x ds M2 Q) E) E) := by
  have hb : attributeBase o "append" X.env (eval o X.env) = eval o X.env := by cases o <;> first | rfl | cases so
  have h1 := star_cons hs [] X.env
  have hfew : ((backTo cp (starEach [e] X.env)).all (fun x => !x.1) && (backToKw cp (keywordEach [] X.env)).all (fun x => x.1.isSome)
      && decide (([e] : List Expr).length + ([] : List Keyword).length + (if ([] : List Keyword).isEmpty then 0 else 1) < 30)) = true := by
    rw [h1]; rfl
  refine pe_imp (pe_bm PySem.F.plainAttrs_list PySem.F.slot_list_append PySem.F.type_list_append mt_append ho ha hb hfew hl h1 rfl) fun σ H Q h => ?_
  obtain ⟨Z, μ, M, Q0, E0, rs, rm, w, k, kx⟩ := h
  refine ⟨Z, μ, M, _, E0, rs, rm, w, fun x M1 H1 v w1 s1 m1 rx => ⟨own_ty m1 rx w1.1, ?_⟩, kx⟩
  refine ⟨Z, μ, M1, _, E0, rs.step s1, m1, w1.2, fun ds M2 H2 us w2 s2 m2 rd => ?_, fun n fs M' H' cls dd e s' m' x => kx n fs M' H' cls dd e (s1.trans s') m' x⟩
  have rx2 := rx.step s2
  cases x with
  | obj a =>
    cases rx2
    obtain ⟨xs, e, w2⟩ := w2
    rw [if_pos rfl] at w2
    cases rd with
    | nil => cases w2
    | cons rd1 rd =>
      cases rd with
      | cons _ _ => cases w2
      | nil =>
        obtain ⟨sz, q⟩ := w2
        obtain ⟨vs, hq, r⟩ := m2.own a _ e
        exact ⟨a, vs, _, rfl, rfl, hq, by rw [← r.length]; exact sz, k .non _ _ .non q ((s1.trans s2).trans (step_put e)) (m2.put e (r.append (.one rd1))) .non⟩
  | _ => cases w2
/-! ### a table of the module -/
theorem ix_tab {a : Addr} {tab : List (Int × D)} (T : WrD X.prog X.w X.K a tab) : IxR X (fun x y H Q => ∃ i d, x = .ref a ∧ y = .int i ∧ tab.lookup i = some d ∧ ∀ v, (∀ Z M H, Rv ⟨X.K, Z⟩ M H d v) → Q v H) := by
  intro value slice pins s σ H x y v u Q I rx ry h hs
  obtain ⟨i, d, rfl, rfl, e, q⟩ := h
  cases rx
  obtain ⟨t, rfl⟩ := ry
  obtain ⟨f, mo, hf⟩ := T.2 s.heap I.kIn
  have hfi := hf i
  rw [e] at hfi
  obtain ⟨u', v', e1, r1, r2⟩ := hfi
  exact tail_any mo.typeIs slot_dict_getitem.lookup (wpAny_getItem_of (intKind_is X.prog X.w i t) mo e1 ⟨v', H, I.tok _, r1, q v' r2⟩) hs
theorem in_tab {neg : Bool} {a : Addr} {tab : List (Int × D)} (T : WrD X.prog X.w X.K a tab) : OpR X (compareOp (if neg then .NotIn else .In)) (fun x y H Q => ∃ i, x = .int i ∧ y = .ref a ∧ Q (.bl (neg != (tab.lookup i).isSome)) H) := by
  intro pins s σ H x y v u Q I rx ry h
  obtain ⟨i, rfl, rfl, q⟩ := h
  cases ry
  obtain ⟨t, rfl⟩ := rx
  obtain ⟨f, mo, hf⟩ := T.2 s.heap I.kIn
  have hfi := hf i
  have e : (f i).isSome = (tab.lookup i).isSome := by
    cases h : tab.lookup i with
    | none =>
      rw [h] at hfi
      have z : f i = none := hfi
      rw [z] <;> rfl
    | some d => rw [h] at hfi; obtain ⟨_, _, e1, _⟩ := hfi; rw [e1]; rfl
  cases neg with
  | true =>
    rw [if_pos rfl]
    refine wpAny_notIn_of (intKind_is X.prog X.w i t) T.1 mo ?_
    rw [e]
    refine ⟨.bl (!(tab.lookup i).isSome), H, I.tok _, rfl, ?_⟩
    have e2 : ∀ b : Bool, (true != b) = !b := by intro b; cases b <;> rfl
    rw [e2] at q; exact q
  | false =>
    rw [if_neg Bool.false_ne_true]
    refine wpAny_in_of (intKind_is X.prog X.w i t) T.1 mo ?_
    rw [e]
    refine ⟨.bl (tab.lookup i).isSome, H, I.tok _, rfl, ?_⟩
    have e2 : ∀ b : Bool, (false != b) = b := by intro b; cases b <;> rfl
    rw [e2] at q; exact q
theorem g_ixc {x : Str} {tab : List (Int × D)} {f : Expr} {wa : WE} {p pos : Pos} (T : TabOk X.prog X.w X.K X.mg x tab) (hg : Gl X x) (ha : PE X f (TE' X W wa)) (hs : isSlice f = false) :
    PE X (.Subscript (.Name x p) f pos) (TE' X W fun μ M Q E => wa μ M (fun x M1 => match x with
      | .int i => ∃ d, tab.lookup i = some d ∧ Q d M1
      | _ => False) E) := by
  obtain ⟨a, hm, D, hd⟩ := T.ex
  refine pe_imp (pe_ix (ix_tab D) (pe_glob (v := .ref a) hg hm rfl hd) ha (plainIx hs)) fun σ H Q h => c_one (r := fun y H1 Q => ∃ i d, V.ref a = .ref a ∧ y = .int i ∧ tab.lookup i = some d ∧ ∀ v, (∀ Z M H, Rv ⟨X.K, Z⟩ M H d v) → Q v H1) h fun Z x M H v Q0 E0 Q w m r k => ?_
  cases x with
  | int i =>
    cases r
    obtain ⟨d, e, q⟩ := w
    exact ⟨i, d, rfl, rfl, e, fun v rv => Cl.here k q m (rv _ _ _)⟩
  | _ => cases w
theorem neg_marks {neg : Bool} {x : Str} {p : Pos} : behindInMarks (if neg then .NotIn else .In) (.Name x p) = false := by cases neg <;> rfl
theorem g_inc {neg : Bool} {x : Str} {tab : List (Int × D)} {f : Expr} {wa : WE} {p pos : Pos} (T : TabOk X.prog X.w X.K X.mg x tab) (hg : Gl X x) (ha : PE X f (TE' X W wa)) :
    PE X (.Compare f [if neg then .NotIn else .In] [.Name x p] pos) (TE' X W fun μ M Q E => wa μ M (fun x M1 => match x with
      | .int i => Q (.bl (neg != (tab.lookup i).isSome)) M1
      | _ => False) E) := by
  obtain ⟨a, hm, D, hd⟩ := T.ex
  refine pe_imp (pe_cmpR (in_tab D) ha (pe_glob (v := .ref a) hg hm rfl hd) neg_marks) fun σ H Q h => c_one (r := fun y H1 Q => ∃ i, y = .int i ∧ V.ref a = .ref a ∧ Q (.bl (neg != (tab.lookup i).isSome)) H1) h fun Z x M H v Q0 E0 Q w m r k => ?_
  cases x with
  | int i => cases r; exact ⟨i, rfl, rfl, Cl.here k w m (.bl _)⟩
  | _ => cases w
theorem g_incT {neg : Bool} {x : Str} {tab : List (Int × D)} {f : Expr} {wa : WE} {p pos : Pos} (T : TabOk X.prog X.w X.K X.mg x tab) (hg : Gl X x) (ha : PE X f (TE' X W wa)) :
    PT X (.Compare f [if neg then .NotIn else .In] [.Name x p] pos) (TT' X W fun μ M Q E => wa μ M (fun x M1 => match x with
      | .int i => Q (neg != (tab.lookup i).isSome) M1
      | _ => False) E) := by
  obtain ⟨a, hm, D, hd⟩ := T.ex
  refine pt_imp (pt_cmpR (in_tab D) ha (pe_glob (v := .ref a) hg hm rfl hd) neg_marks) fun σ H Q h => c_test (r := fun y H1 Q => ∃ i, y = .int i ∧ V.ref a = .ref a ∧ ∃ k, V.bl (neg != (tab.lookup i).isSome) = .bl k ∧ Q k H1) h fun Z x M H v Q0 E0 Q w m r k => ?_
  cases x with
  | int i => cases r; exact ⟨i, rfl, rfl, _, rfl, k _ M H w (.refl _ _) m⟩
  | _ => cases w

/-! ### isinstance -/
theorem ty_rv {K : KZ} {M : Mp} {H : Hp} {d : D} {v : V} {t : String} (m : RM K M H) (r : Rv K M H d v) (h : tyName M d = some t) : TyX K.k H v (.type t) := by
  cases r with
  | non => cases h; exact .base .non
  | bl b => cases h; exact .base (.bl b)
  | int i => cases h; exact .base (.int i)
  | str x => cases h; exact .base (.str x)
  | tup n q r =>
    cases h
    rcases q with q | ⟨o, q⟩
    · exact .base (.tup q)
    · exact .fTuple q
  | wtup q r =>
    cases h
    obtain ⟨o, its, n, e, c, _⟩ := q
    exact .kTuple e c
  | rl n q r => cases h; exact .base (.lst q)
  | fl n q r => cases h; exact .base (.frz q)
  | wl q r =>
    cases h
    obtain ⟨o, its, n, e, c, _⟩ := q
    exact .kList e c
  | exc _ _ _ => cases h
  | obj a =>
    have h : (match M a with
      | some (.lst _) => some "list"
      | none => none) = some t := h
    cases e : M a with
    | none => rw [e] at h; cases h
    | some o =>
      rw [e] at h
      cases o with
      | lst ds =>
        have h' : some "list" = some t := h
        cases h'
        obtain ⟨vs, q, _⟩ := m.own a _ e
        exact .base (.lst q)
theorem any_kit {K : PySem.W.Frag} {t : String} : ∀ {cs : List String} {b : Bool}, isAny t cs = some b → PySem.W.kitAny K (.type t) (cs.map Value.type) = some b
  | [], b, h => by cases h; rfl
  | c :: cs, b, h => by
    unfold isAny at h
    cases e : kitB t c with
    | none => rw [e] at h; cases h
    | some r =>
      rw [e] at h
      cases r with
      | true =>
        have h' : some true = some b := h
        cases h'
        exact kitAny_cons (kit_ty e) (fun z => by cases z) fun _ => rfl
      | false => exact kitAny_cons (kit_ty e) (fun _ => any_kit h) fun z => by cases z
def tyStrs (cs : List String) : List Str := cs.map Str.ofString
theorem boot_ty {c : String} (h : ["int", "bool", "str", "list", "tuple"].contains c = true) : bootBuiltins (Str.ofString c) = some (.type c) ∧ Str.ofString c ≠ "__name__" ∧ (Str.ofString c == ("__debug__" : Str)) = false := by
  have h' : c = "int" ∨ c = "bool" ∨ c = "str" ∨ c = "list" ∨ c = "tuple" := by simpa using h
  rcases h' with rfl | rfl | rfl | rfl | rfl <;> exact ⟨by decide +kernel, by decide +kernel, by decide +kernel⟩
theorem tyNames_star {cs : List String} {es : List Expr} (h : tyNames sc cs es = true) (env : PySem.Env) : ∀ e es', es = e :: es' → starEach es env = (false, eval e env) :: starEach es' env := by
  intro e es' he
  subst he
  cases cs with
  | nil => cases h
  | cons c cs => cases e <;> first | rfl | cases h
theorem pa_types (E : Env' X W lv N sc fn tb Γ) : ∀ {cs : List String} {es : List Expr}, tyNames sc cs es = true → PA X es (fun _ H Q => Q (cs.map V.ty) H)
  | [], [], _ => pa_nil
  | c :: cs, e :: es, h => by
    cases e with
    | Name y p =>
      have h' : (decide (y = Str.ofString c) && (["int", "bool", "str", "list", "tuple"].contains c && (glB sc y && tyNames sc cs es))) = true := h
      obtain ⟨h1, h2⟩ := ba h'
      obtain ⟨h3, h4⟩ := ba h2
      obtain ⟨h5, h6⟩ := ba h4
      obtain ⟨b1, b2, b3⟩ := boot_ty h3
      have ey := of_decide_eq_true h1
      have hm : X.mg y = none := by
        have h7 : c = "int" ∨ c = "bool" ∨ c = "str" ∨ c = "list" ∨ c = "tuple" := by simpa using h3
        rw [ey]
        rcases h7 with rfl | rfl | rfl | rfl | rfl <;> exact E.bl _
      exact pa_imp (pa_cons (pe_bltn (v := .ty c) (E.gl h5) hm (by rw [ey]; exact b1) rfl (by rw [ey]; exact b2) (by rw [ey]; exact b3)) (pa_types E h6) rfl) fun σ H Q q => q
    | _ => cases h
  | [], _ :: _, h => by cases h
  | _ :: _, [], h => by cases h
theorem tyNames_len : ∀ {cs : List String} {es : List Expr}, tyNames sc cs es = true → cs.length = es.length
  | [], [], _ => rfl
  | c :: cs, e :: es, h => by
    cases e with
    | Name y p =>
      have h' : (decide (y = Str.ofString c) && (["int", "bool", "str", "list", "tuple"].contains c && (glB sc y && tyNames sc cs es))) = true := h
      simp [tyNames_len (ba (ba (ba h').2).2).2]
    | _ => cases h
  | [], _ :: _, h => by cases h
  | _ :: _, [], h => by cases h
theorem clsV_all : ∀ cs : List String, Paired ClsV (cs.map V.ty) (cs.map Value.type)
  | [] => .nil
  | c :: cs => .cons (.ty c) (clsV_all cs)
theorem isAny_one {t c : String} {b : Bool} (h : isAny t [c] = some b) : kitB t c = some b := by
  unfold isAny at h
  cases e : kitB t c with
  | none => rw [e] at h; cases h
  | some r =>
    rw [e] at h
    cases r <;> exact h
theorem g_isi (E : Env' X W lv N sc fn tb Γ) {e f : Expr} {wa : WE} {cs : List String} {p pos : Pos} (hg : Gl X "isinstance") (ha : PE X e (TE' X W wa)) (hs : isStar e = false) (h : tyArg sc cs f = true) :
    PE X (.Call (.Name "isinstance" p) [e, f] [] pos) (TE' X W fun μ M Q E => wa μ M (fun x M1 => ∃ t b, tyName M1 x = some t ∧ isAny t cs = some b ∧ Q (.bl b) M1) E) := by
  have hm : X.mg "isinstance" = none := E.bl _
  cases f with
  | Name y q =>
    have h2 : tyNames sc cs [.Name y q] = true := h
    have hl := tyNames_len h2
    match cs, hl with
    | [c], _ =>
      refine pe_imp (pe_callB call_isi hg hm (by decide +kernel) (pa_cons ha (pa_types E h2) (star_cons hs _ _)) (by decide +kernel) (by decide +kernel) (star_cons hs _ _) rfl) fun σ H Q h => ?_
      refine c_one (r := fun x H1 Q => rIsi X.K [x, .ty c] H1 Q) h fun Z x M H v Q0 E0 Q w m r k => ?_
      obtain ⟨t, b, ht, hb, q⟩ := w
      exact ⟨v, .ty c, .type t, .type c, b, rfl, .ty c, ty_rv m r ht, kit_ty (isAny_one hb), Cl.here k q m (.bl b)⟩
  | Tuple es kk q =>
    have h1 : (decide (es.length ≤ 5) && tyNames sc cs es) = true := h
    obtain ⟨hl5, h2⟩ := ba h1
    have hl := tyNames_len h2
    have pt := pe_tup (x1 := kk) (pos := q) (pa_types E h2)
    refine pe_imp (pe_callB call_isiT hg hm (by decide +kernel) (pa_cons ha (pa_cons pt pa_nil rfl) (star_cons hs _ _)) (by decide +kernel) (by decide +kernel) (star_cons hs _ _) rfl) fun σ H Q h => ?_
    refine c_one (r := fun x H1 Q => (cs.map V.ty).length ≤ sizeLine ∧ ∀ tp, H1 tp = none → rIsiT X.K [x, .ref tp] (upd H1 tp (.tup (cs.map V.ty))) Q) h fun Z x M H v Q0 E0 Q w m r k => ?_
    obtain ⟨t, b, ht, hb, q⟩ := w
    refine ⟨?_, fun tp htp => ?_⟩
    · rw [List.length_map, hl]
      exact Nat.le_trans (of_decide_eq_true hl5) (by decide)
    · exact ⟨v, tp, cs.map V.ty, .type t, cs.map Value.type, b, rfl, upd_same, clsV_all cs, ty_rv (m.val htp) (r.step (step_val htp)) ht, any_kit hb, k (.bl b) M _ _ q (step_val htp) (m.val htp) (.bl b)⟩
  | _ => cases h
/-! ### own errors -/
theorem zip_rv {κ : KZ} {M : Mp} {H : Hp} {f : Str} {d : D} : ∀ {ns : List Str} {ds : List D} {vs : List V}, Rvs κ M H ds vs → (ns.zip ds).lookup f = some d → ∃ v, (ns.zip vs).lookup f = some v ∧ Rv κ M H d v ∧ f ∈ ns
  | [], _, _, _, e => by simp at e
  | n :: ns, _, _, .nil, e => by simp at e
  | n :: ns, _, _, .cons (d := y) (v := u) h r, e => by
    rw [List.zip_cons_cons, List.lookup_cons] at e
    rw [List.zip_cons_cons, List.lookup_cons]
    by_cases c : f = n
    · subst c
      rw [show (f == f) = true by simp] at e ⊢
      cases e
      exact ⟨_, rfl, h, List.mem_cons_self ..⟩
    · rw [show (f == n) = false by simp [c]] at e ⊢
      obtain ⟨v, h1, h2, h3⟩ := zip_rv r e
      exact ⟨v, h1, h2, List.mem_cons_of_mem _ h3⟩
theorem at_base {e : Expr} {f : Str} {env : PySem.Env} (h : atB e = true) : attributeBase e f env (eval e env) = eval e env := by
  cases e <;> first | rfl | cases h
theorem g_fld {e : Expr} {wa : WE} {f : Str} {pos : Pos} (ha : PE X e (TE' X W wa)) (hb : atB e = true) : PE X (.Attribute e f pos) (TE' X W fun μ M Q E => wa μ M (fun x M1 => fldW f x M1 Q) E) := by
  refine pe_imp (BxX.pe_xv ha (at_base hb)) fun σ H Q h => ?_
  refine c_one (r := fun x H1 Q => ∃ (a C d : Addr) (fs : List (Str × V)) (v : V), x = .ref a ∧ XfC X.K C ∧ PySem.W.findIn X.K (.ref C) f = some none ∧ H1 a = some (exo a C (some d)) ∧ H1 d = some (exd d fs) ∧ fs.lookup f = some v ∧ Q v H1) h fun Z x M H v Q0 E0 Q w m r k => ?_
  cases x with
  | exc C ns ds =>
    obtain ⟨y, e, q⟩ := w
    cases r with
    | exc c n n' h1 h2 l rr =>
      obtain ⟨v, e2, rv, hm⟩ := zip_rv rr e
      exact ⟨_, _, _, _, v, rfl, c.xf, c.no f hm, h1, h2, e2, Cl.here k q m rv⟩
  | _ => cases w
theorem g_isx (E : Env' X W lv N sc fn tb Γ) {e : Expr} {wa : WE} {g : Nat} {y : Str} {p q pos : Pos} (C : ClsOk X.K X.mg y fun C => Γ.sub C g) (hg : Gl X "isinstance") (hy : Gl X y) (ha : PE X e (TE' X W wa)) (hs : isStar e = false) :
    PE X (.Call (.Name "isinstance" p) [e, .Name y q] [] pos) (TE' X W fun μ M Q E => wa μ M (fun x M1 => isxW Γ.sub g x fun b => Q (.bl b) M1) E) := by
  have hm : X.mg "isinstance" = none := E.bl _
  obtain ⟨v, u, rv, cv, hd, hn, hk⟩ := C.ex
  have hc : PE X (.Name y q) (tC v) := by
    rcases hn with hn | ⟨h1, h2, h3⟩
    · exact pe_glob hy hn rv hd
    · exact pe_bltn hy h1 h2 rv h3 hd
  refine pe_imp (pe_callB BxX.call_isX hg hm (by decide +kernel) (pa_cons ha (pa_cons hc pa_nil rfl) (star_cons hs _ _)) (by decide +kernel) (by decide +kernel) (star_cons hs _ _) rfl) fun σ H Q h => ?_
  refine c_one (r := fun x H1 Q => BxX.rIsX X.K [x, v] H1 Q) h fun Z x M H z Q0 E0 Q w m r k => ?_
  cases x with
  | exc C ns ds =>
    obtain ⟨b, e, q⟩ := w
    cases r with
    | exc c n n' h1 h2 l rr => exact ⟨_, _, _, _, v, u, b, rfl, cv, c.ex, h1, h2, hk C b e, Cl.here k q m (.bl b)⟩
  | _ => cases w
theorem rgD {K : KZ} {M : Mp} {H : Hp} (i j : Int) : Rvs K M H ((List.range (j - i).toNat).map fun k => D.int (i + (k : Nat))) (rgV i j) := by
  have e1 : ((List.range (j - i).toNat).map fun k => D.int (i + (k : Nat))) = ((List.range (j - i).toNat).map fun k => i + ((k : Nat) : Int)).map D.int := by rw [List.map_map]; rfl
  have e2 : rgV i j = ((List.range (j - i).toNat).map fun k => i + ((k : Nat) : Int)).map V.int := by unfold rgV; rw [List.map_map]; rfl
  rw [e1, e2]
  exact .ofInts _
theorem g_lrg1 (E : Env' X W lv N sc fn tb Γ) {fz : Bool} {f : Expr} {wb : WE} {p p2 pos pos2 : Pos} (hg : Gl X "list") (hg2 : Gl X "range") (hb : PE X f (TE' X W wb)) (hs : isStar f = false) :
    PE X (.Call (.Name "list" p) [.Call (.Name "range" p2) [f] [] pos2] [] pos) (TE' X W fun μ M Q E => wb μ M (fun y M2 => lrgW fz (.int 0) y M2 Q) E) := by
  refine pe_imp (pe_listRg E.calm hg (E.bl _) (prg_1 hg2 (E.bl _) hb (star_cons hs _ _)) rfl) fun σ H Q h => ?_
  refine c_one (r := fun x H1 Q => ∃ n, x = .int n ∧ RgOk 0 n ∧ ∀ q, H1 q = none → Q (.ref q) (upd H1 q (.lst (rgV 0 n)))) h fun Z x M H v Q0 E0 Q w m r k => ?_
  cases x with
  | int j =>
    cases r
    obtain ⟨_, _, b1, b2, n⟩ := w
    exact ⟨j, rfl, ⟨by omega, by omega, by omega, by omega, by omega⟩, (newL_ok n m (rgD 0 j) k).2⟩
  | _ => cases w
theorem g_lrg2 (E : Env' X W lv N sc fn tb Γ) {fz : Bool} {e f : Expr} {wa wb : WE} {p p2 pos pos2 : Pos} (hg : Gl X "list") (hg2 : Gl X "range") (ha : PE X e (TE' X W wa)) (hb : PE X f (TE' X W wb)) (hs : isStar e = false) (hs2 : isStar f = false) :
    PE X (.Call (.Name "list" p) [.Call (.Name "range" p2) [e, f] [] pos2] [] pos) (TE' X W fun μ M Q E => wa μ M (fun x M1 => wb μ M1 (fun y M2 => lrgW fz x y M2 Q) E) E) := by
  have s2 := star_cons hs2 [] X.env
  refine pe_imp (pe_listRg E.calm hg (E.bl _) (prg_2 hg2 (E.bl _) ha hb (star_cons hs _ _) s2 (by rw [s2]; rfl)) rfl) fun σ H Q h => ?_
  refine c_two (r := fun x y H1 Q => ∃ i j, x = .int i ∧ y = .int j ∧ RgOk i j ∧ ∀ q, H1 q = none → Q (.ref q) (upd H1 q (.lst (rgV i j)))) h fun Z x y M H v u Q0 E0 Q w m rx ry k => ?_
  cases x with
  | int i =>
    cases y with
    | int j =>
      cases rx; cases ry
      obtain ⟨b0, b1, b2, b3, n⟩ := w
      exact ⟨i, j, rfl, rfl, ⟨by omega, by omega, by omega, by omega, by omega⟩, (newL_ok n m (rgD i j) k).2⟩
    | _ => cases w
  | _ => cases w
end
end Bx

set_option Elab.async false
set_option linter.all false
set_option maxRecDepth 100000
set_option maxHeartbeats 16000000
/-! Bx, part J: what is walked, and list comprehensions. -/
namespace Bx
open PySem PySem.Spec PyProof.Rows L2
section
variable {X : Cx} {W : WX} {lv : Nat} {N : List Str} {sc : Scope} {fn : List (Nat × Str × List Str)} {tb : List (Nat × Str)} {Γ : Gm}

/-! ### iterables -/
theorem g_r1 (E : Env' X W lv N sc fn tb Γ) {tg e : Expr} {wa : WE} {p pos : Pos} (hg : Gl X "range") (ha : PE X e (TE' X W wa)) (hs : isStar e = false) :
    PI X tg (.Call (.Name "range" p) [e] [] pos) (TI' X W fun μ M Q E => wa μ M (fun x M1 => match x with
      | .int j => -(2 ^ 62) ≤ j ∧ j < 2 ^ 62 ∧ Q ((List.range j.toNat).map fun k => D.int (k : Nat)) (fun _ => True) M1
      | _ => False) E) := by
  refine pi_imp (pi_range1 hg (E.bl _) (pa_cons ha pa_nil (star_cons hs _ _)) (star_cons hs _ _)) fun σ H R h => ?_
  obtain ⟨Z, μ, M, Q0, E0, rs, rm, w, k, kx⟩ := h
  refine ⟨Z, μ, M, _, E0, rs, rm, w, fun x M1 H1 v w1 s1 m1 rx => ?_, kx⟩
  cases x with
  | int j =>
    cases rx
    obtain ⟨b1, b2, q⟩ := w1
    refine ⟨j, rfl, b1, b2, k _ _ M1 H1 _ q s1 m1 ?_⟩
    have e : ((List.range j.toNat).map fun k => D.int (k : Nat)) = (List.range j.toNat).map fun k => D.int (0 + ((k : Nat) : Int)) := by simp
    rw [e]
    exact itok_range 0 j.toNat M1 H1
  | _ => cases w1
theorem g_r2 (E : Env' X W lv N sc fn tb Γ) {tg e f : Expr} {wa wb : WE} {p pos : Pos} (hg : Gl X "range") (ha : PE X e (TE' X W wa)) (hb : PE X f (TE' X W wb)) (hs : isStar e = false) (hs2 : isStar f = false) :
    PI X tg (.Call (.Name "range" p) [e, f] [] pos) (TI' X W fun μ M Q E => wa μ M (fun x M1 => wb μ M1 (fun y M2 => match x, y with
      | .int i, .int j => (-(2 ^ 62) ≤ i ∧ i < 2 ^ 62 ∧ -(2 ^ 62) ≤ j ∧ j < 2 ^ 62) ∧ Q ((List.range (j - i).toNat).map fun k => D.int (i + (k : Nat))) (fun _ => True) M2
      | _, _ => False) E) E) := by
  have z2 := star_cons hs2 [] X.env
  refine pi_imp (pi_range2 hg (E.bl _) (pa_cons ha (pa_cons hb pa_nil z2) (star_cons hs _ _)) (by rw [star_cons hs _ _, z2]; rfl) z2) fun σ H R h => ?_
  obtain ⟨Z, μ, M, Q0, E0, rs, rm, w, k, kx⟩ := h
  refine ⟨Z, μ, M, _, E0, rs, rm, w, fun x M1 H1 v w1 s1 m1 rx => ?_, kx⟩
  refine ⟨Z, μ, M1, _, E0, rs.step s1, m1, w1, fun y M2 H2 u w2 s2 m2 ry => ?_, fun n fs M' H' cls dd e s' m' x => kx n fs M' H' cls dd e (s1.trans s') m' x⟩
  cases x with
  | int i =>
    cases y with
    | int j =>
      cases rx; cases ry
      obtain ⟨b, q⟩ := w2
      exact ⟨i, j, rfl, b, k _ _ M2 H2 _ q (s1.trans s2) m2 (itok_range i _ M2 H2)⟩
    | _ => cases w2
  | _ => cases w2
theorem g_ov {tg e : Expr} {wa : WE} (ha : PE X e (TE' X W wa)) :
    PI X tg e (TI' X W fun μ M Q E => wa μ M (fun x M1 => ∃ xs, itemsOf M1 x = some xs ∧ Q xs (fun M2 => itemsOf M2 x = some xs) M1) E) := by
  refine pi_imp (pi_seq ha) fun σ H R h => ?_
  obtain ⟨Z, μ, M, Q0, E0, rs, rm, w, k, kx⟩ := h
  refine ⟨Z, μ, M, _, E0, rs, rm, w, fun x M1 H1 v w1 s1 m1 rx => ?_, kx⟩
  obtain ⟨xs, e, q⟩ := w1
  obtain ⟨a, vs, rfl, h, r⟩ := items_ok e m1 rx
  refine ⟨a, rfl, ?_⟩
  rcases h with ⟨h, nt⟩ | ⟨h, z⟩
  · exact .inl ⟨⟨vs, h⟩, k _ _ M1 H1 _ q s1 m1 (itok_list (K := ⟨X.K, Z⟩) e nt rx rfl)⟩
  · subst z
    exact .inr ⟨⟨vs, h⟩, k _ _ M1 H1 _ q s1 m1 (itok_tup (K := ⟨X.K, Z⟩) rx rfl _)⟩
theorem g_en (E : Env' X W lv N sc fn tb Γ) {tg e : Expr} {wa : WE} {p pos : Pos} (ht : isTupE tg = true) (hg : Gl X "enumerate") (ha : PE X e (TE' X W wa)) (hs : isStar e = false) :
    PI X tg (.Call (.Name "enumerate" p) [e] [] pos) (TI' X W fun μ M Q E => wa μ M (fun x M1 => ∃ xs, itemsOf M1 x = some xs ∧
      Q ((List.range xs.length).zip xs |>.map fun p => D.tup [.int (p.1 : Nat), p.2]) (fun M2 => itemsOf M2 x = some xs) M1) E) := by
  cases tg with
  | Tuple elts kk tp =>
    refine pi_imp (pi_en hg (E.bl _) (pa_cons ha pa_nil (star_cons hs _ _)) (star_cons hs _ _)) fun σ H R h => ?_
    obtain ⟨Z, μ, M, Q0, E0, rs, rm, w, k, kx⟩ := h
    refine ⟨Z, μ, M, _, E0, rs, rm, w, fun x M1 H1 v w1 s1 m1 rx => ?_, kx⟩
    obtain ⟨xs, e, q⟩ := w1
    obtain ⟨a, vs, rfl, h, r⟩ := items_ok e m1 rx
    refine ⟨a, vs, rfl, ?_⟩
    rcases h with ⟨h, nt⟩ | ⟨h, z⟩
    · exact .inl ⟨h, k _ _ M1 H1 _ q s1 m1 (itok_enumL (K := ⟨X.K, Z⟩) e nt rx rfl)⟩
    · subst z
      exact .inr ⟨h, k _ _ M1 H1 _ q s1 m1 (itok_enumT (K := ⟨X.K, Z⟩) rx rfl _)⟩
  | _ => cases ht

theorem g_zp (E : Env' X W lv N sc fn tb Γ) {tg e f : Expr} {wa wb : WE} {p pos : Pos} (ht : isTupE tg = true) (hg : Gl X "zip") (ha : PE X e (TE' X W wa)) (hb : PE X f (TE' X W wb)) (hs : isStar e = false) (hs2 : isStar f = false) :
    PI X tg (.Call (.Name "zip" p) [e, f] [] pos) (TI' X W fun μ M Q E => wa μ M (fun x M1 => wb μ M1 (fun y M2 => ∃ xs ys, itemsOf M2 x = some xs ∧ itemsOf M2 y = some ys ∧
      Q (xs.zip ys |>.map fun p => D.tup [p.1, p.2]) (fun M3 => itemsOf M3 x = some xs ∧ itemsOf M3 y = some ys) M2) E) E) := by
  cases tg with
  | Tuple elts kk tp =>
    have z2 := star_cons hs2 [] X.env
    refine pi_imp (pi_zipB hg (E.bl _) (pa_cons ha (pa_cons hb pa_nil z2) (star_cons hs _ _)) (star_cons hs _ _) (by rw [z2]; rfl)) fun σ H R h => ?_
    obtain ⟨Z, μ, M, Q0, E0, rs, rm, w, k, kx⟩ := h
    refine ⟨Z, μ, M, _, E0, rs, rm, w, fun x M1 H1 v w1 s1 m1 rx => ?_, kx⟩
    refine ⟨Z, μ, M1, _, E0, rs.step s1, m1, w1, fun y M2 H2 u w2 s2 m2 ry => ?_, fun n fs M' H' cls dd e s' m' x => kx n fs M' H' cls dd e (s1.trans s') m' x⟩
    obtain ⟨xs, ys, e1, e2, q⟩ := w2
    have rx2 := rx.step s2
    obtain ⟨a, vs0, rfl, _, _⟩ := items_ok e1 m2 rx2
    obtain ⟨b, us0, rfl, _, _⟩ := items_ok e2 m2 ry
    obtain ⟨k1, ⟨vs, h1, _⟩, st1⟩ := items_sq (K := ⟨X.K, Z⟩) (H := H2) (M := M2) (Z := Z) e1 m2 rx2 rfl
    obtain ⟨k2, ⟨us, h2, _⟩, st2⟩ := items_sq (K := ⟨X.K, Z⟩) (H := H2) (M := M2) (Z := Z) e2 m2 ry rfl
    exact ⟨a, b, vs, us, k1, k2, rfl, h1, h2, k _ _ M2 H2 _ q (s1.trans s2) m2 (itok_zipB (K := ⟨X.K, Z⟩) st1 st2)⟩
  | _ => cases ht
/-! ### the block of a comprehension -/
theorem relabel_look {env : PySem.Env} : ∀ (names : List (Str × NameKind)) (x : Str) (k : NameKind), names.lookup x = some k →
    (names.map fun (n, k) => if (k == NameKind.free && env.scope.kind == .function && env.kindOf n == some .cell) then (n, NameKind.cell) else (n, k)).lookup x = some k ∨
    (k = .free ∧ (names.map fun (n, k) => if (k == NameKind.free && env.scope.kind == .function && env.kindOf n == some .cell) then (n, NameKind.cell) else (n, k)).lookup x = some .cell)
  | [], _, _, h => by simp at h
  | (n, k0) :: r, x, k, h => by
    have ih := relabel_look (env := env) r x k
    show List.lookup x ((if (k0 == NameKind.free && env.scope.kind == .function && env.kindOf n == some .cell) = true then (n, NameKind.cell) else (n, k0)) :: _) = _ ∨ _ ∧ List.lookup x ((if (k0 == NameKind.free && env.scope.kind == .function && env.kindOf n == some .cell) = true then (n, NameKind.cell) else (n, k0)) :: _) = _
    cases hx : x == n with
    | true =>
      simp only [List.lookup_cons, hx] at h
      cases h
      by_cases hc : (k0 == NameKind.free && env.scope.kind == .function && env.kindOf n == some .cell) = true
      · right
        refine ⟨?_, by rw [if_pos hc]; simp [List.lookup_cons, hx]⟩
        have h1 := (ba (ba hc).1).1
        exact eq_of_beq h1
      · left; rw [if_neg hc]; simp [List.lookup_cons, hx]
    | false =>
      simp only [List.lookup_cons, hx] at h
      by_cases hc : (k0 == NameKind.free && env.scope.kind == .function && env.kindOf n == some .cell) = true
      · rw [if_pos hc]; simp only [List.lookup_cons, hx]; exact ih h
      · rw [if_neg hc]; simp only [List.lookup_cons, hx]; exact ih h
theorem env_blk (E : Env' X W lv N sc fn tb Γ) (scope : Scope) (s : Shared) (H : Hp) (C : Addr) (cl : List (Str × Addr)) (fp : List Addr) (kd : scope.kind = .function) :
    Env' (X.blk s H scope (compEnvC scope cl C X.env) fp) (fun _ _ _ _ => False) lv N scope fn tb Γ where
  hN := E.hN
  nd := E.nd
  lk := fun x k h => relabel_look (env := X.env) scope.names x k h
  fnc := fun x h => by
    show (scope.names.lookup x == some .cell) = true
    rw [h]; rfl
  calm := E.calm
  room := E.room
  tk := takes0
  po := PassesOwn.never
  blt := E.blt
  fns := E.fns
  tabs := E.tabs
  kd := kd
theorem blk_ok (E : Env' X W lv N sc fn tb Γ) {scope : Scope} {own : List (Str × Nat)} (h : blkC N sc scope own = true) : BlkOk X.N X.env.scope scope own := by
  have b := blkOk_by h
  rw [E.hN]
  refine ⟨b.kind, b.uniq, b.ix, fun y hy e => ?_, b.own⟩
  rcases b.free y hy e with z | z
  · rcases E.lk _ _ z with q | ⟨q, _⟩
    · exact .inl q
    · cases q
  · rcases E.lk _ _ z with q | ⟨_, q⟩
    · exact .inr q
    · exact .inl q
theorem wipe_get (σ : L2.St) : ∀ (vs : List Nat) (j : Nat), (wipe σ vs)[j]? = if j ∈ vs ∧ j < σ.length then some none else σ[j]?
  | [], j => by simp [wipe]
  | v :: vs, j => by
    unfold wipe
    by_cases hj : v = j
    · subst hj
      by_cases hl : v < σ.length
      · rw [List.getElem?_set_self (by rw [wipe_length]; exact hl), if_pos ⟨List.mem_cons_self, hl⟩]
      · rw [List.getElem?_eq_none (by rw [List.length_set, wipe_length]; omega), if_neg (fun z => hl z.2), List.getElem?_eq_none (by omega)]
    · rw [List.getElem?_set_ne hj, wipe_get σ vs j]
      have e : (j ∈ v :: vs) ↔ (j ∈ vs) := by
        rw [List.mem_cons]
        exact ⟨fun z => z.elim (fun q => absurd q.symm hj) id, .inr⟩
      by_cases hz : j ∈ vs
      · by_cases hl : j < σ.length
        · rw [if_pos ⟨hz, hl⟩, if_pos ⟨e.mpr hz, hl⟩]
        · rw [if_neg (fun q => hl q.2), if_neg (fun q => hl q.2)]
      · rw [if_neg (fun q => hz q.1), if_neg (fun q => hz (e.mp q.1))]
/-- slots that differ at own places alone -/
theorem wipe_same {σ σ2 : L2.St} {vs : List Nat} (hl : σ2.length = σ.length) (h : ∀ j, j ∉ vs → σ2[j]? = (wipe σ vs)[j]?) : wipe σ2 vs = wipe σ vs := by
  refine List.ext_getElem? fun j => ?_
  rw [wipe_get, wipe_get, hl]
  by_cases hj : j ∈ vs
  · by_cases hz : j < σ.length
    · rw [if_pos ⟨hj, hz⟩, if_pos ⟨hj, hz⟩]
    · rw [if_neg (fun z => hz z.2), if_neg (fun z => hz z.2), List.getElem?_eq_none (by omega), List.getElem?_eq_none (by omega)]
  · rw [if_neg (fun z => hj z.1), if_neg (fun z => hj z.1), h j hj, wipe_get, if_neg (fun z => hj z.1)]
theorem fold_keep : ∀ (l : List (Nat × V)) (σ : L2.St) (vs : List Nat), (∀ p ∈ l, p.1 ∈ vs) → ((l.foldl (fun s p => s.set p.1 (some p.2)) σ).length = σ.length) ∧ ∀ j, j ∉ vs → (l.foldl (fun s p => s.set p.1 (some p.2)) σ)[j]? = σ[j]?
  | [], σ, vs, _ => ⟨rfl, fun _ _ => rfl⟩
  | p :: l, σ, vs, h => by
    obtain ⟨a, b⟩ := fold_keep l (σ.set p.1 (some p.2)) vs fun q hq => h q (List.mem_cons_of_mem _ hq)
    refine ⟨by rw [List.foldl_cons, a, List.length_set], fun j hj => ?_⟩
    rw [List.foldl_cons, b j hj, List.getElem?_set_ne]
    intro e
    exact hj (e ▸ h p List.mem_cons_self)
/-- a target of own names, with what it leaves -/
theorem gTg_own {Z : Addr → Prop} {tg : Tg} {own : List Nat} {d : D} {v : V} {M : Mp} {H : Hp} {σ : L2.St} {μ : Sl} {R : Sl → Prop} {Q : L2.St → Hp → Prop} (ho : tgIn own tg = true) (w : tgW tg d μ R) (rv : Rv ⟨X.K, Z⟩ M H d v) (rs : RS ⟨X.K, Z⟩ M H (wipe σ own) μ)
    (k : ∀ μ' σ', R μ' → RS ⟨X.K, Z⟩ M H σ' μ' → wipe σ' own = wipe σ own → Q σ' H) : gTg X.K tg v (wipe σ own) H Q := by
  cases tg with
  | nm i =>
    refine k _ _ w (rs.set rv i) (wipe_same (by rw [List.length_set, wipe_length]) fun j hj => ?_)
    rw [List.getElem?_set_ne]
    intro e
    have : own.contains i = true := ho
    exact hj (e ▸ List.contains_iff_mem.mp this)
  | tp is =>
    cases d with
    | tup ds =>
      obtain ⟨μ', e, w⟩ := w
      obtain ⟨a, vs, rfl, h, r⟩ := rv.sqT
      have hl : vs.length = is.length := by rw [← r.length]; exact setAll_len e
      have hin : ∀ p ∈ is.zip vs, p.1 ∈ own := fun p hp => by
        have h1 : (is.all fun i => own.contains i) = true := ho
        exact List.contains_iff_mem.mp (List.all_eq_true.mp h1 _ (List.of_mem_zip hp).1)
      obtain ⟨f1, f2⟩ := fold_keep (is.zip vs) (wipe σ own) own hin
      exact ⟨a, vs, rfl, h, hl, gAll_ok hl (k μ' _ w (setAll_rv is ds vs _ μ μ' e r rs) (wipe_same (by rw [f1, wipe_length]) f2))⟩
    | _ => cases w

/-- the want of a comprehension -/
def lcW (wi : Sl → Mp → (List D → (Mp → Prop) → Mp → Prop) → KX → Prop) (fz : Bool) (own : List Nat) (tg : Tg) (wc : WT) (we : WE) : WE := fun μ M Q E => wi μ M (fun ds gd M1 =>
      ∃ I : Nat → List D → Mp → Prop, I 0 [] M1 ∧ ∀ i acc M2, i ≤ ds.length → I i acc M2 → gd M2 ∧ match ds[i]? with
        | some d => tgW tg d (wipeD μ own) fun μ' => wc μ' M2 (fun r M3 => match r with
            | true => we μ' M3 (fun y M4 => acc.length < big ∧ I (i + 1) (acc ++ [y]) M4) (fun _ _ _ => False)
            | false => I (i + 1) acc M3) (fun _ _ _ => False)
        | none => newL fz acc M2 Q) E
theorem c_lc {wi : Sl → Mp → (List D → (Mp → Prop) → Mp → Prop) → KX → Prop} {fz : Bool} {own : List Nat} {tg : Tg} {wc : WT} {we : WE} (ho : tgIn own tg = true) {σ : L2.St} {H : Hp} {Q : VK} (h : TE' X W (lcW wi fz own tg wc we) σ H Q) :
    tLc (TI' X W wi) (gTg X.K tg) (TT' X (fun _ _ _ _ => False) wc) (TE' X (fun _ _ _ _ => False) we) own σ H Q := by
  obtain ⟨Z, μ, M, Q0, E0, rs, rm, w, k, kx⟩ := h
  refine ⟨Z, μ, M, _, E0, rs, rm, w, fun ds gd M1 H1 J hI s1 m1 it D hD => ?_, kx⟩
  obtain ⟨I, i0, turn⟩ := hI
  have rs1 := rs.step s1
  refine ⟨fun i m Hc => m = ds.length - i ∧ i ≤ ds.length ∧ ∃ acc accV Mc, I i acc Mc ∧ Hc D = some (.lst accV) ∧ Rvs ⟨X.K, hide Z D⟩ Mc Hc acc accV ∧ RM ⟨X.K, hide Z D⟩ Mc Hc ∧ Bx.Step M1 Mc H1 Hc,
    ⟨ds.length, by simp, Nat.zero_le _, [], [], M1, i0, upd_same, .nil, m1.hide hD, step_val hD⟩, ?_⟩
  rintro i m Hc ⟨rfl, hi, acc, accV, Mc, iv, hDc, ra, mc, sc⟩
  obtain ⟨g, t⟩ := turn i acc Mc hi iv
  have wd : Wid Z (hide Z D) H1 := wid_hide hD
  by_cases hlt : i < ds.length
  · right
    refine ⟨it.go i Mc Hc (hide Z D) hlt sc mc wd g, fun H' => i + 1 ≤ ds.length ∧ ∃ acc accV Mc, I (i + 1) acc Mc ∧ H' D = some (.lst accV) ∧ Rvs ⟨X.K, hide Z D⟩ Mc H' acc accV ∧ RM ⟨X.K, hide Z D⟩ Mc H' ∧ Bx.Step M1 Mc H1 H',
      fun H' ⟨a, b⟩ => ⟨ds.length - (i + 1), by omega, rfl, a, b⟩, fun x H' y => ?_⟩
    have ed : ds[i]? = some ds[i] := by simp [hlt]
    rw [ed] at t
    obtain ⟨s2, m2, rx⟩ := it.yld i Mc Hc (hide Z D) x H' ds[i] sc mc wd g ed y
    have hD2 : H' D = some (.lst accV) := s2.frame _ _ hDc (mc.hid D (.inr rfl)).2
    refine gTg_own (Z := hide Z D) ho t rx ((rs1.stepZ (sc.trans s2) wd).wipe own) fun μ' σ' w' rs' hw => ⟨hw, ?_⟩
    refine ⟨hide Z D, μ', Mc, _, _, rs', m2, w', fun b M3 H3 q s3 m3 => ?_, fun _ _ _ _ _ _ z => z.elim⟩
    have hD3 : H3 D = some (.lst accV) := s3.frame _ _ hD2 (m2.hid D (.inr rfl)).2
    have ra3 : Rvs ⟨X.K, hide Z D⟩ M3 H3 acc accV := (ra.step s2).step s3
    cases b with
    | false =>
      refine ite_ff ?_
      exact ⟨hlt, acc, accV, M3, q, hD3, ra3, m3, (sc.trans s2).trans s3⟩
    | true =>
      refine ite_tt ?_
      refine ⟨hide Z D, μ', M3, _, _, rs'.step s3, m3, q, fun d M4 H4 v q4 s4 m4 r4 => ?_, fun _ _ _ _ _ _ z => z.elim⟩
      obtain ⟨sz, i4⟩ := q4
      have hD4 : H4 D = some (.lst accV) := s4.frame _ _ hD3 (m3.hid D (.inr rfl)).2
      have ra4 := ra3.step s4
      have zD : hide Z D D := .inr rfl
      refine ⟨accV, hD4, by rw [← ra.length]; exact sz, hlt, acc ++ [d], accV ++ [v], M4, i4, upd_same, (ra4.append (.one r4)).over zD, m4.over zD, ?_⟩
      have s14 := ((sc.trans s2).trans s3).trans s4
      refine ⟨fun a u h n => ?_, fun a h => ?_, s14.new⟩
      · rw [upd_ne (ne_of_none h hD)]; exact s14.frame a u h n
      · by_cases e : a = D
        · rw [e, upd_same]; exact fun z => nomatch z
        · rw [upd_ne e]; exact s14.dom a h
  · left
    have e : i = ds.length := by omega
    subst e
    rw [List.getElem?_eq_none (Nat.le_refl _)] at t
    refine ⟨it.stop _ Mc Hc (hide Z D) rfl sc mc wd g, ?_⟩
    have nt : newL fz acc Mc Q0 := t
    obtain ⟨sz, nt⟩ := nt
    have zl : ∀ a, Z a → hide Z D a := fun a z => .inl z
    have mL := mc.less zl
    have rL := ra.less zl
    have nD : Mc D = none ∧ ¬ Z D := ⟨(mc.hid D (.inr rfl)).2, fun z => (m1.hid D z).1 hD⟩
    cases fz with
    | true => exact k (.rl acc) Mc Hc _ nt (s1.trans sc) mL (.rl nD hDc rL)
    | false =>
      have nt : Q0 (.obj D) (Bx.put Mc D (.lst acc)) := nt D nD.1
      have sp : Bx.Step M1 (Bx.put Mc D (.lst acc)) H1 Hc := ⟨sc.frame, sc.dom, fun a h => by
        by_cases e : a = D
        · right; rw [e]; exact hD
        · rw [put_ne e] at h; exact sc.new a h⟩
      exact k (.obj D) _ Hc _ nt (s1.trans sp) (mc.claim nD.2 hDc ra) (.obj D)
end
end Bx

set_option Elab.async false
set_option linter.all false
set_option maxRecDepth 100000
set_option maxHeartbeats 16000000
/-! Bx, part K: every expression that passes the check does what its want says. -/
namespace Bx
open PySem PySem.Spec PyProof.Rows L2
section
variable {lv : Nat} {N : List Str} {fn : List (Nat × Str × List Str)} {tb : List (Nat × Str)} {Γ : Gm}
theorem g_var {X : Cx} {W : WX} {sc : Scope} (E : Env' X W lv N sc fn tb Γ) {i : Nat} {x : Str} {p : Pos} (h : (decide (N[i]? = some x) && visB sc x && !(x == ("__debug__" : Str)) && !(x == ("__classdict__" : Str))) = true) :
    PE X (.Name x p) (TE' X W fun μ M Q E => ∃ d, μ[i]? = some (some d) ∧ Q d M) := by
  obtain ⟨h1, h4⟩ := ba h
  obtain ⟨h1, h3⟩ := ba h1
  obtain ⟨h1, h2⟩ := ba h1
  exact pe_imp (pe_var (by rw [E.hN]; exact of_decide_eq_true h1) (E.vis h2) (bn h3) (bn h4)) fun σ H Q h => c_var i h
theorem g_varT {X : Cx} {W : WX} {sc : Scope} (E : Env' X W lv N sc fn tb Γ) {i : Nat} {x : Str} {p : Pos} (h : (decide (N[i]? = some x) && visB sc x && !(x == ("__debug__" : Str)) && !(x == ("__classdict__" : Str))) = true) :
    PT X (.Name x p) (TT' X W fun μ M Q E => ∃ d b, μ[i]? = some (some d) ∧ truth M d = some b ∧ Q b M) := by
  have q := g_truth (g_var (p := p) E h) rfl
  have e : (fun (μ : Sl) (M : Mp) (Q : Bool → Mp → Prop) (E : KX) => ∃ d b, μ[i]? = some (some d) ∧ truth M d = some b ∧ Q b M) = fun (μ : Sl) (M : Mp) (Q : Bool → Mp → Prop) (E : KX) => ∃ d, μ[i]? = some (some d) ∧ ∃ b, truth M d = some b ∧ Q b M := by
    funext μ M Q E
    exact propext ⟨fun ⟨d, b, h1, h2⟩ => ⟨d, h1, b, h2⟩, fun ⟨d, h1, b, h2⟩ => ⟨d, b, h1, h2⟩⟩
  rw [e]
  exact q
theorem g_con {X : Cx} {W : WX} {e : Expr} {d : D} {v : V} (r : ∀ Z M H, Rv ⟨X.K, Z⟩ M H d v) (h : PE X e (tC v)) : PE X e (TE' X W fun _ M Q _ => Q d M) := pe_imp h fun σ H Q h => c_con r h
theorem g_isiT {X : Cx} {W : WX} {sc : Scope} (E : Env' X W lv N sc fn tb Γ) {e f : Expr} {wa : WE} {cs : List String} {p pos : Pos} (hg : Gl X "isinstance") (ha : PE X e (TE' X W wa)) (hs : isStar e = false) (h : tyArg sc cs f = true) :
    PT X (.Call (.Name "isinstance" p) [e, f] [] pos) (TT' X W fun μ M Q E => wa μ M (fun x M1 => ∃ t b, tyName M1 x = some t ∧ isAny t cs = some b ∧ Q b M1) E) := by
  have q := g_truth (g_isi E hg ha hs h (p := p) (pos := pos)) rfl
  have e : (fun (μ : Sl) (M : Mp) (Q : Bool → Mp → Prop) (E : KX) => wa μ M (fun x M1 => ∃ t b, tyName M1 x = some t ∧ isAny t cs = some b ∧ Q b M1) E) = fun (μ : Sl) (M : Mp) (Q : Bool → Mp → Prop) (E : KX) => wa μ M (fun x M1 => ∃ t b, tyName M1 x = some t ∧ isAny t cs = some b ∧ ∃ b', truth M1 (.bl b) = some b' ∧ Q b' M1) E := by
    funext μ M Q E
    congr 1
    funext x M1
    exact propext ⟨fun ⟨t, b, h1, h2, h3⟩ => ⟨t, b, h1, h2, b, rfl, h3⟩, fun ⟨t, b, h1, h2, b', h3, h4⟩ => ⟨t, b, h1, h2, by cases h3; exact h4⟩⟩
  rw [e]
  exact q
theorem g_isxT {X : Cx} {W : WX} {sc : Scope} (E : Env' X W lv N sc fn tb Γ) {e : Expr} {wa : WE} {g : Nat} {y : Str} {p q pos : Pos} (C : ClsOk X.K X.mg y fun C => Γ.sub C g) (hg : Gl X "isinstance") (hy : Gl X y) (ha : PE X e (TE' X W wa)) (hs : isStar e = false) :
    PT X (.Call (.Name "isinstance" p) [e, .Name y q] [] pos) (TT' X W fun μ M Q E => wa μ M (fun x M1 => isxW Γ.sub g x fun b => Q b M1) E) := by
  have z := g_truth (g_isx E C hg hy ha hs (p := p) (q := q) (pos := pos)) rfl
  have e : (fun (μ : Sl) (M : Mp) (Q : Bool → Mp → Prop) (E : KX) => wa μ M (fun x M1 => isxW Γ.sub g x fun b => Q b M1) E) = fun (μ : Sl) (M : Mp) (Q : Bool → Mp → Prop) (E : KX) => wa μ M (fun x M1 => isxW Γ.sub g x fun b => ∃ b', truth M1 (.bl b) = some b' ∧ Q b' M1) E := by
    funext μ M Q E
    congr 1
    funext x M1
    cases x with
    | exc C ns xs => exact propext ⟨fun ⟨b, h1, h2⟩ => ⟨b, h1, b, rfl, h2⟩, fun ⟨b, h1, b', h2, h3⟩ => ⟨b, h1, by cases h2; exact h3⟩⟩
    | _ => rfl
  rw [e]
  exact z
theorem g_and2 {X : Cx} {W : WX} {a b : Expr} {rest : List Expr} {wa wb : WE} {pos : Pos} (ha : PE X a (TE' X W wa)) (hb : PE X (.BoolOp .And (b :: rest) pos) (TE' X W wb)) :
    PE X (.BoolOp .And (a :: b :: rest) pos) (TE' X W fun μ M Q E => wa μ M (fun x M1 => match x with
      | .bl true => wb μ M1 Q E
      | .bl false => Q (.bl false) M1
      | _ => False) E) := pe_imp (pe_and ha hb) fun σ H Q h => by
  obtain ⟨Z, μ, M, Q0, E0, rs, rm, w, k, kx⟩ := h
  refine ⟨Z, μ, M, _, E0, rs, rm, w, fun x M1 H1 v q s m r => ?_, kx⟩
  cases x with
  | bl c =>
    cases r
    refine ⟨c, rfl, ?_⟩
    cases c with
    | true => exact ite_tt ⟨Z, μ, M1, Q0, E0, rs.step s, m, q, fun d M' H' v q s' m' r => k d M' H' v q (s.trans s') m' r, fun n fs M' H' cls dd e s' m' x => kx n fs M' H' cls dd e (s.trans s') m' x⟩
    | false => exact ite_ff (k (.bl false) M1 H1 _ q s m (.bl false))
  | _ => cases q
theorem g_or2 {X : Cx} {W : WX} {a b : Expr} {rest : List Expr} {wa wb : WE} {pos : Pos} (ha : PE X a (TE' X W wa)) (hb : PE X (.BoolOp .Or (b :: rest) pos) (TE' X W wb)) :
    PE X (.BoolOp .Or (a :: b :: rest) pos) (TE' X W fun μ M Q E => wa μ M (fun x M1 => match x with
      | .bl false => wb μ M1 Q E
      | .bl true => Q (.bl true) M1
      | _ => False) E) := pe_imp (pe_or ha hb) fun σ H Q h => by
  obtain ⟨Z, μ, M, Q0, E0, rs, rm, w, k, kx⟩ := h
  refine ⟨Z, μ, M, _, E0, rs, rm, w, fun x M1 H1 v q s m r => ?_, kx⟩
  cases x with
  | bl c =>
    cases r
    refine ⟨c, rfl, ?_⟩
    cases c with
    | false => exact ite_ff ⟨Z, μ, M1, Q0, E0, rs.step s, m, q, fun d M' H' v q s' m' r => k d M' H' v q (s.trans s') m' r, fun n fs M' H' cls dd e s' m' x => kx n fs M' H' cls dd e (s.trans s') m' x⟩
    | true => exact ite_tt (k (.bl true) M1 H1 _ q s m (.bl true))
  | _ => cases q
theorem c_bool {X : Cx} {W : WX} {wa wb : WT} {σ : L2.St} {H : Hp} {Q : Bool → Hp → Prop} {c0 : Bool}
    (h : TT' X W (fun μ M Q E => wa μ M (fun x M1 => match x == c0 with
      | true => wb μ M1 Q E
      | false => Q (!c0) M1) E) σ H Q) : TT' X W wa σ H fun c H1 => if c = c0 then TT' X W wb σ H1 Q else Q (!c0) H1 := by
  obtain ⟨Z, μ, M, Q0, E0, rs, rm, w, k, kx⟩ := h
  refine ⟨Z, μ, M, _, E0, rs, rm, w, fun c M1 H1 q s m => ?_, kx⟩
  by_cases e : c = c0
  · show (if c = c0 then TT' X W wb σ H1 Q else Q (!c0) H1)
    rw [if_pos e]
    have q : wb μ M1 Q0 E0 := by
      have e2 : (c == c0) = true := beq_iff_eq.mpr e
      rw [e2] at q; exact q
    exact ⟨Z, μ, M1, Q0, E0, rs.step s, m, q, fun d M' H' q s' m' => k d M' H' q (s.trans s') m', fun n fs M' H' cls dd e s' m' x => kx n fs M' H' cls dd e (s.trans s') m' x⟩
  · show (if c = c0 then TT' X W wb σ H1 Q else Q (!c0) H1)
    rw [if_neg e]
    have q : Q0 (!c0) M1 := by
      have e2 : (c == c0) = false := by simpa using e
      rw [e2] at q; exact q
    exact k _ M1 H1 q s m
theorem g_and2T {X : Cx} {W : WX} {a b : Expr} {rest : List Expr} {wa wb : WT} {pos : Pos} (ha : PT X a (TT' X W wa)) (hb : PW X (.BoolOp .And (b :: rest) pos) (TT' X W wb)) :
    PW X (.BoolOp .And (a :: b :: rest) pos) (TT' X W fun μ M Q E => wa μ M (fun x M1 => match x with
      | true => wb μ M1 Q E
      | false => Q false M1) E) := pw_imp (pw_and ha hb) fun σ H Q h => by
  refine c_bool (c0 := true) (wb := wb) ?_
  have e : (fun (μ : Sl) (M : Mp) (Q : Bool → Mp → Prop) (E : KX) => wa μ M (fun x M1 => match x == true with
      | true => wb μ M1 Q E
      | false => Q (!true) M1) E) = fun (μ : Sl) (M : Mp) (Q : Bool → Mp → Prop) (E : KX) => wa μ M (fun x M1 => match x with
      | true => wb μ M1 Q E
      | false => Q false M1) E := by
    funext μ M Q E
    congr 1
    funext x M1
    cases x <;> rfl
  rw [e]; exact h
theorem g_or2T {X : Cx} {W : WX} {a b : Expr} {rest : List Expr} {wa wb : WT} {pos : Pos} (ha : PT X a (TT' X W wa)) (hb : PW X (.BoolOp .Or (b :: rest) pos) (TT' X W wb)) :
    PW X (.BoolOp .Or (a :: b :: rest) pos) (TT' X W fun μ M Q E => wa μ M (fun x M1 => match x with
      | true => Q true M1
      | false => wb μ M1 Q E) E) := pw_imp (pw_or ha hb) fun σ H Q h => by
  have e : (fun (μ : Sl) (M : Mp) (Q : Bool → Mp → Prop) (E : KX) => wa μ M (fun x M1 => match x == false with
      | true => wb μ M1 Q E
      | false => Q (!false) M1) E) = fun (μ : Sl) (M : Mp) (Q : Bool → Mp → Prop) (E : KX) => wa μ M (fun x M1 => match x with
      | true => Q true M1
      | false => wb μ M1 Q E) E := by
    funext μ M Q E
    congr 1
    funext x M1
    cases x <;> rfl
  rw [← e] at h
  have h2 := c_bool (c0 := false) (wb := wb) h
  have e3 : (fun (c : Bool) H1 => if c = false then TT' X W wb σ H1 Q else Q (!false) H1) = fun (c : Bool) H1 => if c = true then Q true H1 else TT' X W wb σ H1 Q := by
    funext c H1
    cases c <;> simp
  rw [e3] at h2
  exact h2

theorem heads {sc : Scope} {as : Exs} {e : Expr} {es : List Expr} (h : chkL N fn tb sc as (e :: es) = true) : isStar e = false ∧ ∀ pos env, (backTo pos (starEach es env)).any (·.1) = false := by
  cases as with
  | nil => exact nomatch (show false = true from h)
  | cons a as =>
    have h4 : (!isStar e && chkE N fn tb sc a e && chkL N fn tb sc as es) = true := h
    obtain ⟨h4, h6⟩ := ba h4
    exact ⟨bn (ba h4).1, fun pos env => plains pos env h6⟩
theorem g_blt {X : Cx} {W : WX} {fz : Bool} {f : Str} {e : Expr} {es : List Expr} {wa : WA} {p pos : Pos} (hc : X.calm = true) (hg : Gl X f) (hm : X.mg f = none) (h7 : bltFns.contains f = true) (ha : PA X (e :: es) (TA' X W wa))
    (st : starEach (e :: es) X.env = (false, eval e X.env) :: starEach es X.env) (pl : (backTo pos (starEach es X.env)).any (·.1) = false) :
    PE X (.Call (.Name f p) (e :: es) [] pos) (TE' X W fun μ M Q E => wa μ M (fun ds M1 => bltW fz f ds M1 Q) E) := by
  rcases bl_any hc f h7 with ⟨id, B⟩ | ⟨T, B⟩
  · obtain ⟨r, c, i⟩ := B.ex
    exact pe_imp (pe_callB c hg hm B.boot ha B.nn B.nd st pl) fun σ H Q h => c_args h fun Z xs M H vs Q0 E0 Q w m r k => i Z fz xs M H vs Q0 Q w m r k
  · obtain ⟨r, c, i⟩ := B.ex
    exact pe_imp (pe_callTy c hg hm B.boot ha B.nn B.nd st pl) fun σ H Q h => c_args h fun Z xs M H vs Q0 E0 Q w m r k => i Z fz xs M H vs Q0 Q w m r k
theorem g_part0 {X : Cx} {W : WX} {a : Ex} {wa : WE} (h : isCn a = true) : PO X none (TO' X W (partW a wa)) := by
  have e : partW a wa = fun μ M Q E => Q none M := by
    funext μ M Q E
    unfold partW
    rw [h]
  rw [e]; exact g_po0
theorem g_part {X : Cx} {W : WX} {a : Ex} {e : Expr} {wa : WE} (he : PE X e (TE' X W wa)) (h : isCn a = false) : PO X (some e) (TO' X W (partW a wa)) := by
  have e : partW a wa = fun μ M Q E => wa μ M (fun x M1 => match x with
      | .int i => Q (some i) M1
      | _ => False) E := by
    funext μ M Q E
    unfold partW
    rw [h] <;> rfl
  rw [e]; exact g_po he
mutual
theorem sE : ∀ (x : Ex) {X : Cx} {W : WX} {sc : Scope} {e : Expr}, Env' X W lv N sc fn tb Γ → chkE N fn tb sc x e = true → PE X e (TE' X W (wpE Γ x))
  | .var i, X, W, sc, e, E, h => by
    cases e with
    | Name x p => exact g_var E h
    | _ => exact nomatch (show false = true from h)
  | .ci i, X, W, sc, e, E, h => by
    cases e with
    | Constant c k p =>
      cases c with
      | int j =>
        have h' : decide (i = j) = true := h
        obtain rfl := of_decide_eq_true h'
        exact g_con (fun _ _ _ => .int i) pe_int
      | _ => exact nomatch (show false = true from h)
    | _ => exact nomatch (show false = true from h)
  | .cb b, X, W, sc, e, E, h => by
    cases e with
    | Constant c k p =>
      cases c with
      | bool j =>
        have h' : (b == j) = true := h
        obtain rfl := eq_of_beq h'
        exact g_con (fun _ _ _ => .bl b) pe_bl
      | _ => exact nomatch (show false = true from h)
    | _ => exact nomatch (show false = true from h)
  | .cn, X, W, sc, e, E, h => by
    cases e with
    | Constant c k p =>
      cases c with
      | none => exact g_con (fun _ _ _ => .non) pe_non
      | _ => exact nomatch (show false = true from h)
    | _ => exact nomatch (show false = true from h)
  | .cs x, X, W, sc, e, E, h => by
    cases e with
    | Constant c k p =>
      cases c with
      | str j =>
        have h' : decide (x = j) = true := h
        obtain rfl := of_decide_eq_true h'
        exact g_con (fun _ _ _ => .str x) pe_str
      | _ => exact nomatch (show false = true from h)
    | _ => exact nomatch (show false = true from h)
  | .bin fz op a b, X, W, sc, e, E, h => by
    cases e with
    | BinOp e o f p =>
      have h' : (decide (op = o) && chkE N fn tb sc a e && chkE N fn tb sc b f) = true := h
      obtain ⟨h1, h3⟩ := ba h'
      obtain ⟨h1, h2⟩ := ba h1
      obtain rfl := of_decide_eq_true h1
      exact g_bin (sE a E h2) (sE b E h3)
    | _ => exact nomatch (show false = true from h)
  | .un op a, X, W, sc, e, E, h => by
    cases e with
    | UnaryOp o e p =>
      have h' : (decide (op = o) && chkE N fn tb sc a e) = true := h
      obtain ⟨h1, h2⟩ := ba h'
      obtain rfl := of_decide_eq_true h1
      exact g_un (sE a E h2)
    | _ => exact nomatch (show false = true from h)
  | .no a, X, W, sc, e, E, h => by
    cases e with
    | UnaryOp o e p =>
      cases o with
      | Not =>
        refine pe_imp (pe_not (sE a E h)) fun σ H Q h => c_one (r := fun x H1 Q => ∃ c, x = .bl c ∧ Q (.bl (!c)) H1) h fun Z x M H v Q0 E0 Q w m r k => ?_
        cases x with
        | bl c => cases r; exact ⟨c, rfl, Cl.here k w m (.bl _)⟩
        | _ => cases w
      | _ => exact nomatch (show false = true from h)
    | _ => exact nomatch (show false = true from h)
  | .an es, X, W, sc, e, E, h => by
    cases e with
    | BoolOp o fs p =>
      cases o with
      | And => exact sAnE es E (ba h).1 (bn (ba h).2)
      | _ => exact nomatch (show false = true from h)
    | _ => exact nomatch (show false = true from h)
  | .or es, X, W, sc, e, E, h => by
    cases e with
    | BoolOp o fs p =>
      cases o with
      | Or => exact sOrE es E (ba h).1 (bn (ba h).2)
      | _ => exact nomatch (show false = true from h)
    | _ => exact nomatch (show false = true from h)
  | .cmp op a b, X, W, sc, e, E, h => by
    cases e with
    | Compare e os fs p =>
      match os, fs, h with
      | [o], [f], h =>
        have h' : (decide (op = o) && chkE N fn tb sc a e && chkE N fn tb sc b f && !isSet f) = true := h
        obtain ⟨h1, h4⟩ := ba h'
        obtain ⟨h1, h3⟩ := ba h1
        obtain ⟨h1, h2⟩ := ba h1
        obtain rfl := of_decide_eq_true h1
        exact g_cmp E.room (sE a E h2) (sE b E h3) (bn h4)
      | [], _, h => exact nomatch (show false = true from h)
      | [_], [], h => exact nomatch (show false = true from h)
      | [_], _ :: _ :: _, h => exact nomatch (show false = true from h)
      | _ :: _ :: _, _, h => exact nomatch (show false = true from h)
    | _ => exact nomatch (show false = true from h)
  | .ch o1 o2 a b c, X, W, sc, e, E, h => by
    cases e with
    | Compare e os fs p =>
      match os, fs, h with
      | [p1, p2], [f, g], h =>
        have h' : (decide (o1 = p1) && decide (o2 = p2) && chkE N fn tb sc a e && chkE N fn tb sc b f && chkE N fn tb sc c g && !isSet g) = true := h
        obtain ⟨h1, h6⟩ := ba h'
        obtain ⟨h1, h5⟩ := ba h1
        obtain ⟨h1, h4⟩ := ba h1
        obtain ⟨h1, h3⟩ := ba h1
        obtain ⟨h1, h2⟩ := ba h1
        obtain rfl := of_decide_eq_true h1
        obtain rfl := of_decide_eq_true h2
        exact g_ch E.room (sE a E h3) (sE b E h4) (sE c E h5) (bn h6)
      | [], _, h => exact nomatch (show false = true from h)
      | [_], _, h => exact nomatch (show false = true from h)
      | [_, _], [], h => exact nomatch (show false = true from h)
      | [_, _], [_], h => exact nomatch (show false = true from h)
      | [_, _], _ :: _ :: _ :: _, h => exact nomatch (show false = true from h)
      | _ :: _ :: _ :: _, _, h => exact nomatch (show false = true from h)
    | _ => exact nomatch (show false = true from h)
  | .ife c a b, X, W, sc, e, E, h => by
    cases e with
    | IfExp t e f p =>
      have h' : (chkE N fn tb sc c t && chkE N fn tb sc a e && chkE N fn tb sc b f && okT c) = true := h
      obtain ⟨h1, h4⟩ := ba h'
      obtain ⟨h1, h3⟩ := ba h1
      obtain ⟨h1, h2⟩ := ba h1
      exact g_ife (sT c E h1 h4) (sE a E h2) (sE b E h3)
    | _ => exact nomatch (show false = true from h)
  | .tup es, X, W, sc, e, E, h => by
    cases e with
    | Tuple fs k p => exact g_tup (sL es E h)
    | _ => exact nomatch (show false = true from h)
  | .lst fz es, X, W, sc, e, E, h => by
    cases e with
    | List fs p => exact g_lst (sL es E h)
    | _ => exact nomatch (show false = true from h)
  | .ix a i, X, W, sc, e, E, h => by
    cases e with
    | Subscript e f p =>
      have h' : (chkE N fn tb sc a e && chkE N fn tb sc i f && !isSlice f) = true := h
      obtain ⟨h1, h3⟩ := ba h'
      obtain ⟨h1, h2⟩ := ba h1
      exact g_ix (sE a E h1) (sE i E h2) (bn h3)
    | _ => exact nomatch (show false = true from h)
  | .sl fz a lo hi, X, W, sc, e, E, h => by
    cases e with
    | Subscript e f p =>
      cases f with
      | Slice l hh st p2 =>
        cases st with
        | none =>
          have h' : (chkE N fn tb sc a e && prtB lo (chkE N fn tb sc lo) l && prtB hi (chkE N fn tb sc hi) hh) = true := h
          obtain ⟨h1, h3⟩ := ba h'
          obtain ⟨h1, h2⟩ := ba h1
          refine g_sl (sE a E h1) ?_ ?_
          · cases l with
            | none => exact g_part0 h2
            | some l =>
              have h2 : (chkE N fn tb sc lo l && !isCn lo) = true := h2
              exact g_part (sE lo E (ba h2).1) (bn (ba h2).2)
          · cases hh with
            | none => exact g_part0 h3
            | some l =>
              have h3 : (chkE N fn tb sc hi l && !isCn hi) = true := h3
              exact g_part (sE hi E (ba h3).1) (bn (ba h3).2)
        | some _ => exact nomatch (show false = true from h)
      | _ => exact nomatch (show false = true from h)
    | _ => exact nomatch (show false = true from h)
  | .rev fz a, X, W, sc, e, E, h => by
    match e, h with
    | .Subscript e (.Slice none none (some (.UnaryOp .USub (.Constant (.int j) _ _) _)) _) _, h =>
      have h' : (decide (j = 1) && chkE N fn tb sc a e) = true := h
      obtain ⟨h1, h2⟩ := ba h'
      obtain rfl := of_decide_eq_true h1
      exact g_rev (sE a E h2)
  | .call g as, X, W, sc, e, E, h => by
    cases e with
    | Call f fs ks p =>
      cases f with
      | Name x q =>
        match fs, ks, h with
        | e :: es, [], h =>
          have h' : (decide (fn.lookup g = some (x, [])) && glB sc x && chkL N fn tb sc as (e :: es)) = true := h
          obtain ⟨h1, h3⟩ := ba h'
          obtain ⟨h1, h2⟩ := ba h1
          have C := E.fns g x [] (of_decide_eq_true h1)
          obtain ⟨s1, s2⟩ := heads h3
          exact g_call (ks := []) C E.room E.tk (E.gl h2) (sL as E h3) (star_cons s1 _ _) (s2 p X.env)
        | [], _, h => exact nomatch (show false = true from h)
        | _ :: _, _ :: _, h => exact nomatch (show false = true from h)
      | _ => exact nomatch (show false = true from h)
    | _ => exact nomatch (show false = true from h)
  | .callk g as ks kas, X, W, sc, e, E, h => by
    cases e with
    | Call f fs kws p =>
      cases f with
      | Name x q =>
        have h' : (decide (fn.lookup g = some (x, ks)) && glB sc x && chkL N fn tb sc as fs && chkK N fn tb sc kas kws && decide (kws.map (·.arg) = ks.map some) && !ks.isEmpty) = true := h
        obtain ⟨h1, h6⟩ := ba h'
        obtain ⟨h1, h5⟩ := ba h1
        obtain ⟨h1, h4⟩ := ba h1
        obtain ⟨h1, h3⟩ := ba h1
        obtain ⟨h1, h2⟩ := ba h1
        have C := E.fns g x ks (of_decide_eq_true h1)
        have hn : ks ≠ [] := fun z => by subst z; cases h6
        match fs, as, h3 with
        | [], .nil, _ => exact g_callk0 C hn E.room E.tk (E.gl h2) (sK kas E h4) (of_decide_eq_true h5)
        | e :: es, as, h3 =>
          obtain ⟨s1, s2⟩ := heads h3
          exact g_callk C hn E.room E.tk (E.gl h2) (sL as E h3) (sK kas E h4) (of_decide_eq_true h5) (star_cons s1 _ _) (plains p X.env h3)
        | [], .cons _ _, h3 => exact nomatch (show false = true from h3)
      | _ => exact nomatch (show false = true from h)
    | _ => exact nomatch (show false = true from h)
  | .blt fz f as, X, W, sc, e, E, h => by
    cases e with
    | Call ff fs ks p =>
      cases ff with
      | Name x q =>
        match fs, ks, h with
        | e :: es, [], h =>
          have h' : (decide (f = x) && bltNames.contains x && bltFns.contains x && glB sc x && chkL N fn tb sc as (e :: es)) = true := h
          obtain ⟨h1, h4⟩ := ba h'
          obtain ⟨h1, h3⟩ := ba h1
          obtain ⟨h1, h7⟩ := ba h1
          obtain ⟨h1, h2⟩ := ba h1
          obtain rfl := of_decide_eq_true h1
          obtain ⟨s1, s2⟩ := heads h4
          exact g_blt E.calm (E.gl h3) (E.bl _ h2) h7 (sL as E h4) (star_cons s1 _ _) (s2 p X.env)
        | [], _, h => exact nomatch (show false = true from h)
        | _ :: _, _ :: _, h => exact nomatch (show false = true from h)
      | _ => exact nomatch (show false = true from h)
    | _ => exact nomatch (show false = true from h)
  | .mth m o as, X, W, sc, e, E, h => by
    cases e with
    | Call f fs ks cp =>
      cases f with
      | Attribute e x ap =>
        match ks, h with
        | [], h =>
          have h' : (decide (m = x) && mthAr m fs && chkE N fn tb sc o e && simpO e && (ap.endLine == cp.line) && chkL N fn tb sc as fs) = true := h
          obtain ⟨h1, h6⟩ := ba h'
          obtain ⟨h1, h5⟩ := ba h1
          obtain ⟨h1, h4⟩ := ba h1
          obtain ⟨h1, h3⟩ := ba h1
          obtain ⟨h1, h2⟩ := ba h1
          obtain rfl := of_decide_eq_true h1
          have ho := sE o (W := W) E h3
          have ha := sL as (W := W) E h6
          match fs, h2, h6, ha with
          | [], h2, h6, ha =>
            have h2 : decide (m = "pop") = true := h2
            obtain rfl := of_decide_eq_true h2
            cases as with
            | nil => exact g_pop ho h4 h5
            | cons _ _ => exact nomatch (show false = true from h6)
          | [f], h2, h6, ha =>
            have h2 : decide (m = "append") = true := h2
            obtain rfl := of_decide_eq_true h2
            exact g_append ho ha h4 h5 (heads h6).1
          | _ :: _ :: _, h2, _, _ => exact nomatch (show false = true from h2)
        | _ :: _, h => exact nomatch (show false = true from h)
      | _ => exact nomatch (show false = true from h)
    | _ => exact nomatch (show false = true from h)
  | .lc fz own tg it cs elt, X, W, sc, e, E, h => by
    cases e with
    | ListComp e gs scope p =>
      match gs, h with
      | [⟨t, i, ifs, as⟩], h =>
        obtain rfl : as = 0 := by
          cases as with
          | ofNat n => cases n with
            | zero => rfl
            | succ n => exact nomatch (show false = true from h)
          | negSucc n => exact nomatch (show false = true from h)
        have h' : (chkI N fn tb sc it t i && blkC N sc scope (ownB N own) && decide ((ownB N own).map (·.2) = own) && tgIn own tg && chkTg N scope tg t && chkL N fn tb scope cs ifs && chkE N fn tb scope elt e && !isSet i && okC cs) = true := h
        obtain ⟨h1, h9⟩ := ba h'
        obtain ⟨h1, h8⟩ := ba h1
        obtain ⟨h1, h7⟩ := ba h1
        obtain ⟨h1, h6⟩ := ba h1
        obtain ⟨h1, h5⟩ := ba h1
        obtain ⟨h1, h4⟩ := ba h1
        obtain ⟨h1, h3⟩ := ba h1
        obtain ⟨h1, h2⟩ := ba h1
        have ho := of_decide_eq_true h3
        refine pe_imp (pe_lc (own := ownB N own) (g := gTg X.K tg) (tt := TT' X (fun _ _ _ _ => False) (wpC Γ cs)) (te := TE' X (fun _ _ _ _ => False) (wpE Γ elt)) E.calm (by rw [E.hN]; exact E.nd) (sI it E h1) (blk_ok E h2)
          (fun s H C cl fp => pg_tg (env_blk E scope s H C cl fp (blk_ok E h2).kind) h5) (fun s H C cl fp => sC cs (env_blk E scope s H C cl fp (blk_ok E h2).kind) h6 h9) (fun s H C cl fp => sE elt (env_blk E scope s H C cl fp (blk_ok E h2).kind) h7) (fold_plain (bn h8) _)) fun σ H Q h => ?_
        rw [ho]
        exact c_lc h4 h
      | [], h => exact nomatch (show false = true from h)
      | _ :: _ :: _, h => simp [chkE] at h
    | _ => exact nomatch (show false = true from h)
  | .ixc g a, X, W, sc, e, E, h => by
    cases e with
    | Subscript e f p =>
      cases e with
      | Name x q =>
        have h' : (decide (tb.lookup g = some x) && glB sc x && chkE N fn tb sc a f && !isSlice f && decide (g < 1000)) = true := h
        obtain ⟨h1, h5⟩ := ba h'
        obtain ⟨h1, h4⟩ := ba h1
        obtain ⟨h1, h3⟩ := ba h1
        obtain ⟨h1, h2⟩ := ba h1
        exact g_ixc ((E.tabs g x (of_decide_eq_true h1)).1 (of_decide_eq_true h5)) (E.gl h2) (sE a E h3) (bn h4)
      | _ => exact nomatch (show false = true from h)
    | _ => exact nomatch (show false = true from h)
  | .inc neg g a, X, W, sc, e, E, h => by
    cases e with
    | Compare e os fs p =>
      match os, fs, h with
      | [o], [.Name x q], h =>
        have h' : (decide (o = if neg then CmpOp.NotIn else CmpOp.In) && decide (tb.lookup g = some x) && glB sc x && chkE N fn tb sc a e && decide (g < 1000)) = true := h
        obtain ⟨h1, h5⟩ := ba h'
        obtain ⟨h1, h4⟩ := ba h1
        obtain ⟨h1, h3⟩ := ba h1
        obtain ⟨h1, h2⟩ := ba h1
        obtain rfl := of_decide_eq_true h1
        exact g_inc ((E.tabs g x (of_decide_eq_true h2)).1 (of_decide_eq_true h5)) (E.gl h3) (sE a E h4)
      | [], _, h => exact nomatch (show false = true from h)
      | [_], [], h => exact nomatch (show false = true from h)
      | [_], [.BoolOp ..], h => exact nomatch (show false = true from h)
      | [_], _ :: _ :: _, h => simp [chkE] at h
      | _ :: _ :: _, _, h => simp [chkE] at h
    | _ => exact nomatch (show false = true from h)
  | .isi a cs, X, W, sc, e, E, h => by
    cases e with
    | Call ff fs ks p =>
      cases ff with
      | Name x q =>
        match fs, ks, h with
        | [e, f], [], h =>
          have h' : (decide (x = "isinstance") && glB sc x && !isStar e && chkE N fn tb sc a e && tyArg sc cs f) = true := h
          obtain ⟨h1, h5⟩ := ba h'
          obtain ⟨h1, h4⟩ := ba h1
          obtain ⟨h1, h3⟩ := ba h1
          obtain ⟨h1, h2⟩ := ba h1
          obtain rfl := of_decide_eq_true h1
          exact g_isi E (E.gl h2) (sE a E h4) (bn h3) h5
        | [], _, h => exact nomatch (show false = true from h)
        | [_], _, h => exact nomatch (show false = true from h)
        | _ :: _ :: _ :: _, _, h => exact nomatch (show false = true from h)
        | [_, _], _ :: _, h => exact nomatch (show false = true from h)
      | _ => exact nomatch (show false = true from h)
    | _ => exact nomatch (show false = true from h)
  | .fld a f, X, W, sc, e, E, h => by
    cases e with
    | Attribute e x p =>
      have h' : (decide (f = x) && chkE N fn tb sc a e && atB e) = true := h
      obtain ⟨h1, h3⟩ := ba h'
      obtain ⟨h1, h2⟩ := ba h1
      obtain rfl := of_decide_eq_true h1
      exact g_fld (sE a E h2) h3
    | _ => exact nomatch (show false = true from h)
  | .isx a g, X, W, sc, e, E, h => by
    cases e with
    | Call ff fs ks p =>
      cases ff with
      | Name x q =>
        match fs, ks, h with
        | [e, f], [], h =>
          cases f with
          | Name y q2 =>
            have h' : (decide (x = "isinstance") && glB sc x && !isStar e && chkE N fn tb sc a e && decide (tb.lookup g = some y) && decide (1000 ≤ g) && glB sc y) = true := h
            obtain ⟨h1, h7⟩ := ba h'
            obtain ⟨h1, h6⟩ := ba h1
            obtain ⟨h1, h5⟩ := ba h1
            obtain ⟨h1, h4⟩ := ba h1
            obtain ⟨h1, h3⟩ := ba h1
            obtain ⟨h1, h2⟩ := ba h1
            obtain rfl := of_decide_eq_true h1
            exact g_isx E ((E.tabs g y (of_decide_eq_true h5)).2 (of_decide_eq_true h6)) (E.gl h2) (E.gl h7) (sE a E h4) (bn h3)
          | _ => first | exact nomatch (show false = true from h) | simp [chkE] at h
        | [], _, h => simp [chkE] at h
        | [_], _, h => simp [chkE] at h
        | _ :: _ :: _ :: _, _, h => simp [chkE] at h
        | [_, f], _ :: _, h => simp [chkE] at h
      | _ => exact nomatch (show false = true from h)
    | _ => exact nomatch (show false = true from h)
  | .lrg fz a b, X, W, sc, e, E, h => by
    cases e with
    | Call ff fs ks p =>
      cases ff with
      | Name x q =>
        match fs, ks, h with
        | [g], [], h =>
          cases g with
          | Call gf gs gk gp =>
            cases gf with
            | Name y q2 =>
              match gs, gk, h with
              | [f], [], h =>
                have h' : (decide (x = "list") && decide (y = "range") && glB sc x && glB sc y && (isCi0 a && !isStar f && chkE N fn tb sc b f)) = true := h
                obtain ⟨h1, h5⟩ := ba h'
                obtain ⟨h1, h4⟩ := ba h1
                obtain ⟨h1, h3⟩ := ba h1
                obtain ⟨h1, h2⟩ := ba h1
                obtain rfl := of_decide_eq_true h1
                obtain rfl := of_decide_eq_true h2
                obtain ⟨h5, h7⟩ := ba h5
                obtain ⟨h5, h6⟩ := ba h5
                cases a with
                | ci i =>
                  have h8 : decide (i = 0) = true := h5
                  obtain rfl := of_decide_eq_true h8
                  exact g_lrg1 E (E.gl h3) (E.gl h4) (sE b E h7) (bn h6)
                | _ => exact nomatch (show false = true from h5)
              | [e, f], [], h =>
                have h' : (decide (x = "list") && decide (y = "range") && glB sc x && glB sc y && (!isStar e && !isStar f && chkE N fn tb sc a e && chkE N fn tb sc b f)) = true := h
                obtain ⟨h1, h5⟩ := ba h'
                obtain ⟨h1, h4⟩ := ba h1
                obtain ⟨h1, h3⟩ := ba h1
                obtain ⟨h1, h2⟩ := ba h1
                obtain rfl := of_decide_eq_true h1
                obtain rfl := of_decide_eq_true h2
                obtain ⟨h5, h8⟩ := ba h5
                obtain ⟨h5, h7⟩ := ba h5
                obtain ⟨h5, h6⟩ := ba h5
                exact g_lrg2 E (E.gl h3) (E.gl h4) (sE a E h7) (sE b E h8) (bn h5) (bn h6)
              | [], [], h => simp [chkE] at h
              | _ :: _ :: _ :: _, [], h => simp [chkE] at h
              | _, _ :: _, h => simp [chkE] at h
            | _ => simp [chkE] at h
          | _ => simp [chkE] at h
        | [], _, h => simp [chkE] at h
        | _ :: _ :: _, _, h => simp [chkE] at h
        | [_], _ :: _, h => simp [chkE] at h
      | _ => simp [chkE] at h
    | _ => simp [chkE] at h
theorem sT : ∀ (x : Ex) {X : Cx} {W : WX} {sc : Scope} {e : Expr}, Env' X W lv N sc fn tb Γ → chkE N fn tb sc x e = true → okT x = true → PT X e (TT' X W (wpT Γ x))
  | .var i, X, W, sc, e, E, h, _ => by
    cases e with
    | Name x p => exact g_varT E h
    | _ => exact nomatch (show false = true from h)
  | .no a, X, W, sc, e, E, h, t => by
    cases e with
    | UnaryOp o e p =>
      cases o with
      | Not => exact g_noT (sT a E h t)
      | _ => exact nomatch (show false = true from h)
    | _ => exact nomatch (show false = true from h)
  | .an es, X, W, sc, e, E, h, t => by
    cases e with
    | BoolOp o fs p =>
      cases o with
      | And => exact (sAnT es E (ba h).1 t).pt
      | _ => exact nomatch (show false = true from h)
    | _ => exact nomatch (show false = true from h)
  | .or es, X, W, sc, e, E, h, t => by
    cases e with
    | BoolOp o fs p =>
      cases o with
      | Or => exact (sOrT es E (ba h).1 t).pt
      | _ => exact nomatch (show false = true from h)
    | _ => exact nomatch (show false = true from h)
  | .cmp op a b, X, W, sc, e, E, h, _ => by
    cases e with
    | Compare e os fs p =>
      match os, fs, h with
      | [o], [f], h =>
        have h' : (decide (op = o) && chkE N fn tb sc a e && chkE N fn tb sc b f && !isSet f) = true := h
        obtain ⟨h1, h4⟩ := ba h'
        obtain ⟨h1, h3⟩ := ba h1
        obtain ⟨h1, h2⟩ := ba h1
        obtain rfl := of_decide_eq_true h1
        exact g_cmpT E.room (sE a E h2) (sE b E h3) (bn h4)
      | [], _, h => simp [chkE] at h
      | [_], [], h => simp [chkE] at h
      | [_], _ :: _ :: _, h => simp [chkE] at h
      | _ :: _ :: _, _, h => simp [chkE] at h
    | _ => exact nomatch (show false = true from h)
  | .ch o1 o2 a b c, X, W, sc, e, E, h, _ => by
    cases e with
    | Compare e os fs p =>
      match os, fs, h with
      | [p1, p2], [f, g], h =>
        have h' : (decide (o1 = p1) && decide (o2 = p2) && chkE N fn tb sc a e && chkE N fn tb sc b f && chkE N fn tb sc c g && !isSet g) = true := h
        obtain ⟨h1, h6⟩ := ba h'
        obtain ⟨h1, h5⟩ := ba h1
        obtain ⟨h1, h4⟩ := ba h1
        obtain ⟨h1, h3⟩ := ba h1
        obtain ⟨h1, h2⟩ := ba h1
        obtain rfl := of_decide_eq_true h1
        obtain rfl := of_decide_eq_true h2
        exact g_chT E.room (sE a E h3) (sE b E h4) (sE c E h5) (bn h6)
      | [], _, h => simp [chkE] at h
      | [_], _, h => simp [chkE] at h
      | [_, _], [], h => simp [chkE] at h
      | [_, _], [_], h => simp [chkE] at h
      | [_, _], _ :: _ :: _ :: _, h => simp [chkE] at h
      | _ :: _ :: _ :: _, _, h => simp [chkE] at h
    | _ => exact nomatch (show false = true from h)
  | .call g as, X, W, sc, e, E, h, _ => by
    cases e with
    | Call f fs ks p =>
      cases f with
      | Name x q =>
        match fs, ks, h with
        | e :: es, [], h =>
          have h' : (decide (fn.lookup g = some (x, [])) && glB sc x && chkL N fn tb sc as (e :: es)) = true := h
          obtain ⟨h1, h3⟩ := ba h'
          obtain ⟨h1, h2⟩ := ba h1
          have C := E.fns g x [] (of_decide_eq_true h1)
          obtain ⟨s1, s2⟩ := heads h3
          exact g_truth (g_call (ks := []) C E.room E.tk (E.gl h2) (sL as E h3) (star_cons s1 _ _) (s2 p X.env)) rfl
        | [], _, h => simp [chkE] at h
        | _ :: _, _ :: _, h => simp [chkE] at h
      | _ => exact nomatch (show false = true from h)
    | _ => exact nomatch (show false = true from h)
  | .callk g as ks kas, X, W, sc, e, E, h, _ => by
    cases e with
    | Call f fs kws p =>
      cases f with
      | Name x q =>
        have h' : (decide (fn.lookup g = some (x, ks)) && glB sc x && chkL N fn tb sc as fs && chkK N fn tb sc kas kws && decide (kws.map (·.arg) = ks.map some) && !ks.isEmpty) = true := h
        obtain ⟨h1, h6⟩ := ba h'
        obtain ⟨h1, h5⟩ := ba h1
        obtain ⟨h1, h4⟩ := ba h1
        obtain ⟨h1, h3⟩ := ba h1
        obtain ⟨h1, h2⟩ := ba h1
        have C := E.fns g x ks (of_decide_eq_true h1)
        have hn : ks ≠ [] := fun z => by subst z; cases h6
        match fs, as, h3 with
        | [], .nil, _ => exact g_truth (g_callk0 C hn E.room E.tk (E.gl h2) (sK kas E h4) (of_decide_eq_true h5)) rfl
        | e :: es, as, h3 =>
          obtain ⟨s1, s2⟩ := heads h3
          exact g_truth (g_callk C hn E.room E.tk (E.gl h2) (sL as E h3) (sK kas E h4) (of_decide_eq_true h5) (star_cons s1 _ _) (plains p X.env h3)) rfl
        | [], .cons _ _, h3 => exact nomatch (show false = true from h3)
      | _ => exact nomatch (show false = true from h)
    | _ => exact nomatch (show false = true from h)
  | .blt fz f as, X, W, sc, e, E, h, _ => by
    cases e with
    | Call ff fs ks p =>
      cases ff with
      | Name x q =>
        match fs, ks, h with
        | e :: es, [], h =>
          have h' : (decide (f = x) && bltNames.contains x && bltFns.contains x && glB sc x && chkL N fn tb sc as (e :: es)) = true := h
          obtain ⟨h1, h4⟩ := ba h'
          obtain ⟨h1, h3⟩ := ba h1
          obtain ⟨h1, h7⟩ := ba h1
          obtain ⟨h1, h2⟩ := ba h1
          obtain rfl := of_decide_eq_true h1
          obtain ⟨s1, s2⟩ := heads h4
          exact g_truth (g_blt E.calm (E.gl h3) (E.bl _ h2) h7 (sL as E h4) (star_cons s1 _ _) (s2 p X.env)) rfl
        | [], _, h => simp [chkE] at h
        | _ :: _, _ :: _, h => simp [chkE] at h
      | _ => exact nomatch (show false = true from h)
    | _ => exact nomatch (show false = true from h)
  | .ix a i, X, W, sc, e, E, h, _ => by
    cases e with
    | Subscript e f p =>
      have h' : (chkE N fn tb sc a e && chkE N fn tb sc i f && !isSlice f) = true := h
      obtain ⟨h1, h3⟩ := ba h'
      obtain ⟨h1, h2⟩ := ba h1
      exact g_truth (g_ix (sE a E h1) (sE i E h2) (bn h3)) rfl
    | _ => exact nomatch (show false = true from h)
  | .inc neg g a, X, W, sc, e, E, h, _ => by
    cases e with
    | Compare e os fs p =>
      match os, fs, h with
      | [o], [.Name x q], h =>
        have h' : (decide (o = if neg then CmpOp.NotIn else CmpOp.In) && decide (tb.lookup g = some x) && glB sc x && chkE N fn tb sc a e && decide (g < 1000)) = true := h
        obtain ⟨h1, h5⟩ := ba h'
        obtain ⟨h1, h4⟩ := ba h1
        obtain ⟨h1, h3⟩ := ba h1
        obtain ⟨h1, h2⟩ := ba h1
        obtain rfl := of_decide_eq_true h1
        exact g_incT ((E.tabs g x (of_decide_eq_true h2)).1 (of_decide_eq_true h5)) (E.gl h3) (sE a E h4)
      | [], _, h => simp [chkE] at h
      | [_], [], h => simp [chkE] at h
      | [_], [.BoolOp ..], h => simp [chkE] at h
      | [_], _ :: _ :: _, h => simp [chkE] at h
      | _ :: _ :: _, _, h => simp [chkE] at h
    | _ => exact nomatch (show false = true from h)
  | .isi a cs, X, W, sc, e, E, h, _ => by
    cases e with
    | Call ff fs ks p =>
      cases ff with
      | Name x q =>
        match fs, ks, h with
        | [e, f], [], h =>
          have h' : (decide (x = "isinstance") && glB sc x && !isStar e && chkE N fn tb sc a e && tyArg sc cs f) = true := h
          obtain ⟨h1, h5⟩ := ba h'
          obtain ⟨h1, h4⟩ := ba h1
          obtain ⟨h1, h3⟩ := ba h1
          obtain ⟨h1, h2⟩ := ba h1
          obtain rfl := of_decide_eq_true h1
          exact g_isiT E (E.gl h2) (sE a E h4) (bn h3) h5
        | [], _, h => simp [chkE] at h
        | [_], _, h => simp [chkE] at h
        | _ :: _ :: _ :: _, _, h => simp [chkE] at h
        | [_, _], _ :: _, h => simp [chkE] at h
      | _ => exact nomatch (show false = true from h)
    | _ => exact nomatch (show false = true from h)
  | .isx a g, X, W, sc, e, E, h, _ => by
    cases e with
    | Call ff fs ks p =>
      cases ff with
      | Name x q =>
        match fs, ks, h with
        | [e, f], [], h =>
          cases f with
          | Name y q2 =>
            have h' : (decide (x = "isinstance") && glB sc x && !isStar e && chkE N fn tb sc a e && decide (tb.lookup g = some y) && decide (1000 ≤ g) && glB sc y) = true := h
            obtain ⟨h1, h7⟩ := ba h'
            obtain ⟨h1, h6⟩ := ba h1
            obtain ⟨h1, h5⟩ := ba h1
            obtain ⟨h1, h4⟩ := ba h1
            obtain ⟨h1, h3⟩ := ba h1
            obtain ⟨h1, h2⟩ := ba h1
            obtain rfl := of_decide_eq_true h1
            exact g_isxT E ((E.tabs g y (of_decide_eq_true h5)).2 (of_decide_eq_true h6)) (E.gl h2) (E.gl h7) (sE a E h4) (bn h3)
          | _ => first | exact nomatch (show false = true from h) | simp [chkE] at h
        | [], _, h => simp [chkE] at h
        | [_], _, h => simp [chkE] at h
        | _ :: _ :: _ :: _, _, h => simp [chkE] at h
        | [_, f], _ :: _, h => simp [chkE] at h
      | _ => exact nomatch (show false = true from h)
    | _ => exact nomatch (show false = true from h)
  | .fld _ _, _, _, _, _, _, _, t => nomatch (show false = true from t)
  | .ci _, _, _, _, _, _, _, t => nomatch (show false = true from t)
  | .cb _, _, _, _, _, _, _, t => nomatch (show false = true from t)
  | .cn, _, _, _, _, _, _, t => nomatch (show false = true from t)
  | .cs _, _, _, _, _, _, _, t => nomatch (show false = true from t)
  | .bin _ _ _ _, _, _, _, _, _, _, t => nomatch (show false = true from t)
  | .un _ _, _, _, _, _, _, _, t => nomatch (show false = true from t)
  | .ife _ _ _, _, _, _, _, _, _, t => nomatch (show false = true from t)
  | .tup _, _, _, _, _, _, _, t => nomatch (show false = true from t)
  | .lst _ _, _, _, _, _, _, _, t => nomatch (show false = true from t)
  | .sl _ _ _ _, _, _, _, _, _, _, t => nomatch (show false = true from t)
  | .rev _ _, _, _, _, _, _, _, t => nomatch (show false = true from t)
  | .mth _ _ _, _, _, _, _, _, _, t => nomatch (show false = true from t)
  | .lc _ _ _ _ _ _, _, _, _, _, _, _, t => nomatch (show false = true from t)
  | .ixc _ _, _, _, _, _, _, _, t => nomatch (show false = true from t)
  | .lrg _ _ _, _, _, _, _, _, _, t => nomatch (show false = true from t)
theorem sK : ∀ (x : Exs) {X : Cx} {W : WX} {sc : Scope} {kws : List Keyword}, Env' X W lv N sc fn tb Γ → chkK N fn tb sc x kws = true → PK X kws (TA' X W (wpA Γ x))
  | .nil, X, W, sc, kws, E, h => by
    cases kws with
    | nil => exact pk_imp pk_nil fun σ H Q h => c_anil h
    | cons _ _ => exact nomatch (show false = true from h)
  | .cons a as, X, W, sc, kws, E, h => by
    match kws, h with
    | ⟨some _, e, _⟩ :: es, h =>
      have h' : (chkE N fn tb sc a e && chkK N fn tb sc as es) = true := h
      obtain ⟨h2, h3⟩ := ba h'
      exact pk_imp (pk_cons (sE a E h2) (sK as E h3)) fun σ H Q h => c_acons h
    | [], h => exact nomatch (show false = true from h)
    | ⟨none, e, _⟩ :: es, h => exact nomatch (show false = true from h)
theorem sL : ∀ (x : Exs) {X : Cx} {W : WX} {sc : Scope} {es : List Expr}, Env' X W lv N sc fn tb Γ → chkL N fn tb sc x es = true → PA X es (TA' X W (wpA Γ x))
  | .nil, X, W, sc, es, E, h => by
    cases es with
    | nil => exact pa_imp pa_nil fun σ H Q h => c_anil h
    | cons e es => exact nomatch (show false = true from h)
  | .cons a as, X, W, sc, es, E, h => by
    cases es with
    | nil => exact nomatch (show false = true from h)
    | cons e es =>
      have h' : (!isStar e && chkE N fn tb sc a e && chkL N fn tb sc as es) = true := h
      obtain ⟨h1, h3⟩ := ba h'
      obtain ⟨h1, h2⟩ := ba h1
      exact pa_imp (pa_cons (sE a E h2) (sL as E h3) (star_cons (bn h1) _ _)) fun σ H Q h => c_acons h
theorem sAnE : ∀ (x : Exs) {X : Cx} {W : WX} {sc : Scope} {es : List Expr} {pos : Pos}, Env' X W lv N sc fn tb Γ → chkL N fn tb sc x es = true → x.isNil = false → PE X (.BoolOp .And es pos) (TE' X W (wpAnE Γ x))
  | .nil, X, W, sc, es, pos, E, h, n => nomatch (show true = false from n)
  | .cons a .nil, X, W, sc, es, pos, E, h, _ => by
    match es, h with
    | [], h => exact nomatch (show false = true from h)
    | [e], h => exact pe_one (sE a E (ba (ba h).1).2)
    | _ :: _ :: _, h => exact nomatch (show false = true from (ba h).2)
  | .cons a (.cons b bs), X, W, sc, es, pos, E, h, _ => by
    match es, h with
    | [], h => exact nomatch (show false = true from h)
    | [_], h => exact nomatch (show false = true from (ba h).2)
    | e :: e2 :: r, h => exact g_and2 (sE a E (ba (ba h).1).2) (sAnE (.cons b bs) E (ba h).2 rfl)
theorem sOrE : ∀ (x : Exs) {X : Cx} {W : WX} {sc : Scope} {es : List Expr} {pos : Pos}, Env' X W lv N sc fn tb Γ → chkL N fn tb sc x es = true → x.isNil = false → PE X (.BoolOp .Or es pos) (TE' X W (wpOrE Γ x))
  | .nil, X, W, sc, es, pos, E, h, n => nomatch (show true = false from n)
  | .cons a .nil, X, W, sc, es, pos, E, h, _ => by
    match es, h with
    | [], h => exact nomatch (show false = true from h)
    | [e], h => exact pe_one (sE a E (ba (ba h).1).2)
    | _ :: _ :: _, h => exact nomatch (show false = true from (ba h).2)
  | .cons a (.cons b bs), X, W, sc, es, pos, E, h, _ => by
    match es, h with
    | [], h => exact nomatch (show false = true from h)
    | [_], h => exact nomatch (show false = true from (ba h).2)
    | e :: e2 :: r, h => exact g_or2 (sE a E (ba (ba h).1).2) (sOrE (.cons b bs) E (ba h).2 rfl)
theorem sAnT : ∀ (x : Exs) {X : Cx} {W : WX} {sc : Scope} {es : List Expr} {pos : Pos}, Env' X W lv N sc fn tb Γ → chkL N fn tb sc x es = true → okTs x = true → PW X (.BoolOp .And es pos) (TT' X W (wpAnT Γ x))
  | .nil, X, W, sc, es, pos, E, h, n => nomatch (show false = true from n)
  | .cons a .nil, X, W, sc, es, pos, E, h, t => by
    match es, h with
    | [], h => exact nomatch (show false = true from h)
    | [e], h => exact pw_and1 (sT a E (ba (ba h).1).2 t)
    | _ :: _ :: _, h => exact nomatch (show false = true from (ba h).2)
  | .cons a (.cons b bs), X, W, sc, es, pos, E, h, t => by
    match es, h with
    | [], h => exact nomatch (show false = true from h)
    | [_], h => exact nomatch (show false = true from (ba h).2)
    | e :: e2 :: r, h => exact g_and2T (sT a E (ba (ba h).1).2 (ba t).1) (sAnT (.cons b bs) E (ba h).2 (ba t).2)
theorem sOrT : ∀ (x : Exs) {X : Cx} {W : WX} {sc : Scope} {es : List Expr} {pos : Pos}, Env' X W lv N sc fn tb Γ → chkL N fn tb sc x es = true → okTs x = true → PW X (.BoolOp .Or es pos) (TT' X W (wpOrT Γ x))
  | .nil, X, W, sc, es, pos, E, h, n => nomatch (show false = true from n)
  | .cons a .nil, X, W, sc, es, pos, E, h, t => by
    match es, h with
    | [], h => exact nomatch (show false = true from h)
    | [e], h => exact pw_or1 (sT a E (ba (ba h).1).2 t)
    | _ :: _ :: _, h => exact nomatch (show false = true from (ba h).2)
  | .cons a (.cons b bs), X, W, sc, es, pos, E, h, t => by
    match es, h with
    | [], h => exact nomatch (show false = true from h)
    | [_], h => exact nomatch (show false = true from (ba h).2)
    | e :: e2 :: r, h => exact g_or2T (sT a E (ba (ba h).1).2 (ba t).1) (sOrT (.cons b bs) E (ba h).2 (ba t).2)
theorem sC : ∀ (x : Exs) {X : Cx} {W : WX} {sc : Scope} {es : List Expr}, Env' X W lv N sc fn tb Γ → chkL N fn tb sc x es = true → okC x = true → PTs X es (TT' X W (wpC Γ x))
  | .nil, X, W, sc, es, E, h, _ => by
    cases es with
    | nil => exact ⟨fun pins s σ H Q I h => pts_nil.run pins s σ H Q I (by
        obtain ⟨Z, μ, M, Q0, E0, rs, rm, w, k, kx⟩ := h
        exact k true M H w (.refl _ _) rm)⟩
    | cons e es => exact nomatch (show false = true from h)
  | .cons a .nil, X, W, sc, es, E, h, t => by
    match es, h with
    | [], h => exact nomatch (show false = true from h)
    | [e], h => exact pts_one (sT a E (ba (ba h).1).2 t)
    | _ :: _ :: _, h => exact nomatch (show false = true from (ba h).2)
  | .cons a (.cons b bs), X, W, sc, es, E, h, t => nomatch (show false = true from t)
theorem sI : ∀ (x : Itx) {X : Cx} {W : WX} {sc : Scope} {tg e : Expr}, Env' X W lv N sc fn tb Γ → chkI N fn tb sc x tg e = true → PI X tg e (TI' X W (wpI Γ x))
  | .r1 a, X, W, sc, tg, e, E, h => by
    cases e with
    | Call ff fs ks p =>
      cases ff with
      | Name x q =>
        match fs, ks, h with
        | [e], [], h =>
          have h' : (decide (x = "range") && glB sc x && !isStar e && chkE N fn tb sc a e) = true := h
          obtain ⟨h1, h4⟩ := ba h'
          obtain ⟨h1, h3⟩ := ba h1
          obtain ⟨h1, h2⟩ := ba h1
          obtain rfl := of_decide_eq_true h1
          exact g_r1 E (E.gl h2) (sE a E h4) (bn h3)
        | [], _, h => simp [chkI] at h
        | _ :: _ :: _, _, h => simp [chkI] at h
        | [_], _ :: _, h => simp [chkI] at h
      | _ => exact nomatch (show false = true from h)
    | _ => exact nomatch (show false = true from h)
  | .r2 a b, X, W, sc, tg, e, E, h => by
    cases e with
    | Call ff fs ks p =>
      cases ff with
      | Name x q =>
        match fs, ks, h with
        | [e, f], [], h =>
          have h' : (decide (x = "range") && glB sc x && !isStar e && !isStar f && chkE N fn tb sc a e && chkE N fn tb sc b f) = true := h
          obtain ⟨h1, h6⟩ := ba h'
          obtain ⟨h1, h5⟩ := ba h1
          obtain ⟨h1, h4⟩ := ba h1
          obtain ⟨h1, h3⟩ := ba h1
          obtain ⟨h1, h2⟩ := ba h1
          obtain rfl := of_decide_eq_true h1
          exact g_r2 E (E.gl h2) (sE a E h5) (sE b E h6) (bn h3) (bn h4)
        | [], _, h => simp [chkI] at h
        | [_], _, h => simp [chkI] at h
        | _ :: _ :: _ :: _, _, h => simp [chkI] at h
        | [_, _], _ :: _, h => simp [chkI] at h
      | _ => exact nomatch (show false = true from h)
    | _ => exact nomatch (show false = true from h)
  | .ov a, X, W, sc, tg, e, E, h => g_ov (sE a E h)
  | .en a, X, W, sc, tg, e, E, h => by
    cases e with
    | Call ff fs ks p =>
      cases ff with
      | Name x q =>
        match fs, ks, h with
        | [e], [], h =>
          have h' : (decide (x = "enumerate") && glB sc x && isTupE tg && !isStar e && chkE N fn tb sc a e) = true := h
          obtain ⟨h1, h5⟩ := ba h'
          obtain ⟨h1, h4⟩ := ba h1
          obtain ⟨h1, h3⟩ := ba h1
          obtain ⟨h1, h2⟩ := ba h1
          obtain rfl := of_decide_eq_true h1
          exact g_en E h3 (E.gl h2) (sE a E h5) (bn h4)
        | [], _, h => simp [chkI] at h
        | _ :: _ :: _, _, h => simp [chkI] at h
        | [_], _ :: _, h => simp [chkI] at h
      | _ => exact nomatch (show false = true from h)
    | _ => exact nomatch (show false = true from h)
  | .zp a b, X, W, sc, tg, e, E, h => by
    match e, h with
    | .Call (.Name x _) [e, f] [] _, h =>
      have h' : (decide (x = "zip") && glB sc x && isTupE tg && !isStar e && !isStar f && chkE N fn tb sc a e && chkE N fn tb sc b f) = true := h
      obtain ⟨h1, h7⟩ := ba h'
      obtain ⟨h1, h6⟩ := ba h1
      obtain ⟨h1, h5⟩ := ba h1
      obtain ⟨h1, h4⟩ := ba h1
      obtain ⟨h1, h3⟩ := ba h1
      obtain ⟨h1, h2⟩ := ba h1
      obtain rfl := of_decide_eq_true h1
      exact g_zp E h3 (E.gl h2) (sE a E h6) (sE b E h7) (bn h4) (bn h5)
end
end
end Bx

set_option Elab.async false
set_option linter.all false
set_option maxRecDepth 100000
set_option maxHeartbeats 16000000
/-! Bx, part L: statements. -/
namespace Bx
open PySem PySem.Spec PyProof.Rows L2
section
variable {lv : Nat} {N : List Str} {fn : List (Nat × Str × List Str)} {tb : List (Nat × Str)} {Γ : Gm} {X : Cx} {W : WX} {sc : Scope}
/-- the ends of TS', handed on -/
structure Ke (X : Cx) (W : WX) (Z : Addr → Prop) (M : Mp) (H : Hp) (K0 : Kx) (D : Ends) : Prop where
  nx : ∀ μ' M' σ' H', K0.nx μ' M' → Bx.Step M M' H H' → RM ⟨X.K, Z⟩ M' H' → RS ⟨X.K, Z⟩ M' H' σ' μ' → D.nx σ' H'
  rt : ∀ d M' H' v, K0.rt d M' → Bx.Step M M' H H' → RM ⟨X.K, Z⟩ M' H' → Rv ⟨X.K, Z⟩ M' H' d v → D.rt v H'
  bk : ∀ μ' M' σ' H', K0.bk μ' M' → Bx.Step M M' H H' → RM ⟨X.K, Z⟩ M' H' → RS ⟨X.K, Z⟩ M' H' σ' μ' → D.bk σ' H'
  ct : ∀ μ' M' σ' H', K0.ct μ' M' → Bx.Step M M' H H' → RM ⟨X.K, Z⟩ M' H' → RS ⟨X.K, Z⟩ M' H' σ' μ' → D.ct σ' H'
  ex : ∀ n fs μ' M' σ' H' cls dd, K0.ex n fs μ' M' → Bx.Step M M' H H' → RM ⟨X.K, Z⟩ M' H' → RS ⟨X.K, Z⟩ M' H' σ' μ' → RX X.mg ⟨X.K, Z⟩ M' H' n fs cls dd → W cls dd σ' H'
theorem ts_of {w : WS} {D : Ends} {σ : L2.St} {H : Hp} (h : TS' X W w D σ H) : ∃ Z μ M K0, RS ⟨X.K, Z⟩ M H σ μ ∧ RM ⟨X.K, Z⟩ M H ∧ w μ M K0 ∧ Ke X W Z M H K0 D := by
  obtain ⟨Z, μ, M, K0, rs, rm, w, a, b, c, d, e⟩ := h
  exact ⟨Z, μ, M, K0, rs, rm, w, ⟨a, b, c, d, e⟩⟩
theorem of_ts {w : WS} {D : Ends} {σ : L2.St} {H : Hp} {Z : Addr → Prop} {μ : Sl} {M : Mp} {K0 : Kx} (rs : RS ⟨X.K, Z⟩ M H σ μ) (rm : RM ⟨X.K, Z⟩ M H) (h : w μ M K0) (k : Ke X W Z M H K0 D) : TS' X W w D σ H :=
  ⟨Z, μ, M, K0, rs, rm, h, k.nx, k.rt, k.bk, k.ct, k.ex⟩
theorem Ke.step {Z : Addr → Prop} {M M1 : Mp} {H H1 : Hp} {K0 : Kx} {D : Ends} (k : Ke X W Z M H K0 D) (s : Bx.Step M M1 H H1) : Ke X W Z M1 H1 K0 D :=
  ⟨fun μ' M' σ' H' q t => k.nx μ' M' σ' H' q (s.trans t), fun d M' H' v q t => k.rt d M' H' v q (s.trans t), fun μ' M' σ' H' q t => k.bk μ' M' σ' H' q (s.trans t), fun μ' M' σ' H' q t => k.ct μ' M' σ' H' q (s.trans t),
    fun n fs μ' M' σ' H' cls dd q t => k.ex n fs μ' M' σ' H' cls dd q (s.trans t)⟩
/-- an expression within a statement: its reading, exceptions as the statement's -/
theorem c_ex {wa : WE} {Z : Addr → Prop} {μ : Sl} {M : Mp} {H : Hp} {K0 : Kx} {D : Ends} {σ : L2.St} {Q0 : KE} {R : V → Hp → Prop} (rs : RS ⟨X.K, Z⟩ M H σ μ) (rm : RM ⟨X.K, Z⟩ M H) (k : Ke X W Z M H K0 D)
    (h : wa μ M Q0 (fun n fs M' => K0.ex n fs μ M')) (hk : ∀ d M' H' v, Q0 d M' → Bx.Step M M' H H' → RM ⟨X.K, Z⟩ M' H' → Rv ⟨X.K, Z⟩ M' H' d v → R v H') : TE' X W wa σ H R :=
  ⟨Z, μ, M, Q0, _, rs, rm, h, hk, fun n fs M' H' cls dd q s m x => k.ex n fs μ M' σ H' cls dd q s m (rs.step s) x⟩
theorem c_exT {wa : WT} {Z : Addr → Prop} {μ : Sl} {M : Mp} {H : Hp} {K0 : Kx} {D : Ends} {σ : L2.St} {Q0 : Bool → Mp → Prop} {R : Bool → Hp → Prop} (rs : RS ⟨X.K, Z⟩ M H σ μ) (rm : RM ⟨X.K, Z⟩ M H) (k : Ke X W Z M H K0 D)
    (h : wa μ M Q0 (fun n fs M' => K0.ex n fs μ M')) (hk : ∀ b M' H', Q0 b M' → Bx.Step M M' H H' → RM ⟨X.K, Z⟩ M' H' → R b H') : TT' X W wa σ H R :=
  ⟨Z, μ, M, Q0, _, rs, rm, h, hk, fun n fs M' H' cls dd q s m x => k.ex n fs μ M' σ H' cls dd q s m (rs.step s) x⟩

theorem no_sw {v : Expr} (h : isComp v = false) (t : Option Expr) (l : Nat) (env : PySem.Env) : swapsWith v t l env = pure false := by
  cases v <;> first | rfl | cases h
theorem no_swSole {v t : Expr} (h : ∀ x p, t ≠ .Name x p) (l : Nat) (env : PySem.Env) : swapsWithSole [t] v l env = pure false := by
  cases v <;> first | rfl | (cases t <;> first | rfl | exact absurd rfl (h _ _))
theorem no_swst {v : Expr} {es : List Expr} {k : Nat} {p : Pos} (h : isTupE v = false) (env : PySem.Env) : swappedStores [.Tuple es k p] v env = pure none := by
  cases v <;> first | rfl | cases h
theorem no_swst2 {v t : Expr} (h : ∀ es k p, t ≠ .Tuple es k p) (h2 : ∀ es p, t ≠ .List es p) (env : PySem.Env) : swappedStores [t] v env = pure none := by
  cases t <;> first | rfl | exact absurd rfl (h _ _ _) | exact absurd rfl (h2 _ _)
/-- name = e, whatever e is -/
theorem g_set (E : Env' X W lv N sc fn tb Γ) {x : Str} {p' pos : Pos} {i : Nat} {v : Expr} {a : Ex} (h1 : N[i]? = some x) (h2 : locB sc x = true) (h3 : chkE N fn tb sc a v = true) :
    PS X (.Assign [.Name x p'] v pos) (TS' X W fun μ M K => wpE Γ a μ M (fun d M1 => K.nx (μ.set i (some d)) M1) (fun n fs M' => K.ex n fs μ M')) := by
  obtain ⟨l1, l2⟩ := E.loc h2
  have hi : X.N[i]? = some x := by rw [E.hN]; exact h1
  have nd : X.N.Nodup := by rw [E.hN]; exact E.nd
  have fin : ∀ {te : TE}, (∀ σ H Q, TE' X W (wpE Γ a) σ H Q → te σ H Q) → ∀ D σ H, TS' X W (fun μ M K => wpE Γ a μ M (fun d M1 => K.nx (μ.set i (some d)) M1) (fun n fs M' => K.ex n fs μ M')) D σ H → tAsg te (gName i) D σ H := fun {te} imp D σ H h => by
    obtain ⟨Z, μ, M, K0, rs, rm, w, k⟩ := ts_of h
    exact imp σ H _ (c_ex rs rm k w fun d M' H' v q s m r => k.nx _ M' _ H' q s m ((rs.step s).set r i))
  have plain : swapsWith v (some (.Name x p')) pos.line X.env = pure false → PS X (.Assign [.Name x p'] v pos) (TS' X W fun μ M K => wpE Γ a μ M (fun d M1 => K.nx (μ.set i (some d)) M1) (fun n fs M' => K.ex n fs μ M')) := fun hs =>
    ps_imp (ps_set nd hi l1 (sE a E h3) hs l2) (fin fun _ _ _ q => q)
  by_cases hc : isComp v = true
  · cases v with
    | ListComp e gs scope p =>
      cases a with
      | lc fz own tg it cs elt =>
        match gs, h3 with
        | [⟨t, i', ifs, as⟩], h =>
          obtain rfl : as = 0 := by
            cases as with
            | ofNat n => cases n with
              | zero => rfl
              | succ n => exact nomatch (show false = true from h)
            | negSucc n => exact nomatch (show false = true from h)
          have h' : (chkI N fn tb sc it t i' && blkC N sc scope (ownB N own) && decide ((ownB N own).map (·.2) = own) && tgIn own tg && chkTg N scope tg t && chkL N fn tb scope cs ifs && chkE N fn tb scope elt e && !isSet i' && okC cs) = true := h
          obtain ⟨c1, c9⟩ := ba h'
          obtain ⟨c1, c8⟩ := ba c1
          obtain ⟨c1, c7⟩ := ba c1
          obtain ⟨c1, c6⟩ := ba c1
          obtain ⟨c1, c5⟩ := ba c1
          obtain ⟨c1, c4⟩ := ba c1
          obtain ⟨c1, c3⟩ := ba c1
          obtain ⟨c1, c2⟩ := ba c1
          have ho := of_decide_eq_true c3
          have kd := (blk_ok E c2).kind
          let B : Bool := (X.env.blockKind == .function && X.env.kindOf x == some .local && p'.line == p.line && !(scope.names.any fun (n, k) => n == x && (k == .local || k == .cell)))
          have hB : swapsWith (.ListComp e [⟨t, i', ifs, 0⟩] scope p) (some (.Name x p')) pos.line X.env = pure B := rfl
          cases hb : B with
          | false => exact plain (by rw [hB, hb])
          | true =>
            have hb' : (X.env.blockKind == .function && X.env.kindOf x == some .local && p'.line == p.line && !(scope.names.any fun (n, k) => n == x && (k == .local || k == .cell))) = true := hb
            have hl : X.env.scope.names.lookup x = some .local := eq_of_beq (ba (ba (ba hb').1).1).2
            refine ps_imp (ps_setLc (own := ownB N own) (g := gTg X.K tg) (tt := TT' X (fun _ _ _ _ => False) (wpC Γ cs)) (te := TE' X (fun _ _ _ _ => False) (wpE Γ elt)) E.calm nd hi hl (by rw [hB, hb]) (sI it E c1) (blk_ok E c2)
              (fun s H C cl fp => pg_tg (env_blk E scope s H C cl fp kd) c5) (fun s H C cl fp => sC cs (env_blk E scope s H C cl fp kd) c6 c9) (fun s H C cl fp => sE elt (env_blk E scope s H C cl fp kd) c7) (fold_plain (bn c8) _)) (fin fun σ H Q q => ?_)
            rw [ho]
            exact c_lc c4 q
        | [], h => exact nomatch (show false = true from h)
        | _ :: _ :: _, h => simp [chkE] at h
      | _ => exact nomatch (show false = true from h3)
    | SetComp => cases a <;> exact nomatch (show false = true from h3)
    | DictComp => cases a <;> exact nomatch (show false = true from h3)
    | _ => cases hc
  · exact plain (no_sw (by simpa using hc) _ _ _)

/-! ### two stores at once -/
theorem names_par {x y : Str} {px py : Pos} {e f : Expr} {kt k2 : Nat} {pt pt2 : Pos} {env : PySem.Env} (hk : env.scope.kind = .function) (hx : env.scope.names.lookup x = some .local) (hy : env.scope.names.lookup y = some .local) (hxy : ¬ x = y) (hl : (px.line == py.line) = true)
    (s1 : isStar e = false) (s2 : isStar f = false) (hf : (foldedForSure 8 e && foldedForSure 8 f) = false) (hc : (constantsAlone 8 e && constantsAlone 8 f) = false) :
    swappedStores [.Tuple [.Name x px, .Name y py] kt pt] (.Tuple [e, f] k2 pt2) env = pure (some [x, y]) := by
  have hb : env.blockKind = .function := by unfold Env.blockKind; rw [hk]; rfl
  have h1 : ([e, f].any fun | .Starred .. => true | _ => false) = false := by
    have q : ([e, f].any fun | .Starred .. => true | _ => false) = [e, f].any isStar := by
      congr 1
    rw [q]
    simp [s1, s2]
  have e1 : env.kindOf x = some .local := hx
  have e2 : env.kindOf y = some .local := hy
  have e3 : py.line = px.line := (eq_of_beq hl).symm
  have hf' : [e, f].all (foldedForSure 8) = false := by simpa using hf
  have hc' : [e, f].all (constantsAlone 8) = false := by simpa using hc
  have hyx : ¬ y = x := fun q => hxy q.symm
  unfold swappedStores
  simp only [List.length_cons, List.length_nil, hb, h1, hf', hc']
  simp [Expr.pos, e1, e2, e3, List.eraseDups_cons, hyx]
  intro hh
  exfalso
  rcases hh with hh | hh
  · cases e <;> first | (exact nomatch (show false = true from hh)) | (exact nomatch (show true = false from s1))
  · cases f <;> first | (exact nomatch (show false = true from hh)) | (exact nomatch (show true = false from s2))
theorem g_par (E : Env' X W lv N sc fn tb Γ) {x y : Str} {px py pos : Pos} {e f : Expr} {kt k2 : Nat} {pt pt2 : Pos} {i j : Nat} {wa wb : WE} (hi : N[i]? = some x) (hj : N[j]? = some y) (hij : i ≠ j) (hxy : ¬ x = y) (hx : locL sc x = true) (hy : locL sc y = true) (hl : (px.line == py.line) = true)
    (s1 : isStar e = false) (s2 : isStar f = false) (hf : (foldedForSure 8 e && foldedForSure 8 f) = false) (hc : (constantsAlone 8 e && constantsAlone 8 f) = false) (ha : PE X e (TE' X W wa)) (hb : PE X f (TE' X W wb)) :
    PS X (.Assign [.Tuple [.Name x px, .Name y py] kt pt] (.Tuple [e, f] k2 pt2) pos) (TS' X W fun μ M K => wa μ M (fun x M1 => wb μ M1 (fun y M2 => K.nx ((μ.set i (some x)).set j (some y)) M2) (fun n fs M' => K.ex n fs μ M')) (fun n fs M' => K.ex n fs μ M')) := by
  have look : ∀ {z : Str}, locL sc z = true → X.env.scope.names.lookup z = some .local := fun {z} h => by
    unfold locL at h
    cases q : sc.names.lookup z with
    | none => rw [q] at h; cases h
    | some k =>
      rw [q] at h
      cases k with
      | «local» =>
        rcases E.lk z _ q with r | ⟨r, _⟩
        · exact r
        · cases r
      | _ => cases h
  have z2 := star_cons s2 [] X.env
  refine ps_imp (ps_par E.calm (by rw [E.hN]; exact E.nd) (by rw [E.hN]; exact hi) (by rw [E.hN]; exact hj) hij (look hx) (look hy) (pa_cons ha (pa_cons hb pa_nil z2) (star_cons s1 _ _)) (names_par E.kd (look hx) (look hy) hxy hl s1 s2 hf hc) rfl) fun D σ H h => ?_
  obtain ⟨Z, μ, M, K0, rs, rm, w, k⟩ := ts_of h
  refine c_ex rs rm k w fun d1 M1 H1 v1 q1 t1 m1 r1 => ?_
  refine c_ex (rs.step t1) m1 (k.step t1) q1 fun d2 M2 H2 v2 q2 t2 m2 r2 => ?_
  exact ⟨v1, v2, rfl, k.nx _ M2 _ H2 q2 (t1.trans t2) m2 ((((rs.step t1).step t2).set (r1.step t2) i).set r2 j)⟩
/-- x op= y -/
theorem ip_aug (op : Operator) : ∃ r : TIp, PIp X op r ∧ ∀ Z x y M H v u (Q0 : KE) (Q : VK), augW op x y M Q0 → RM ⟨X.K, Z⟩ M H → Rv ⟨X.K, Z⟩ M H x v → Rv ⟨X.K, Z⟩ M H y u → Cl ⟨X.K, Z⟩ M H Q0 Q → r v u H Q := by
  have two : ∀ {r : R2} {op : Operator}, OpR X (inplaceOp op) r → (∀ i j M H (Q0 : KE) (Q : VK), augW op (.int i) (.int j) M Q0 → (∀ n : Int, Q0 (.int n) M → Q (.int n) H) → r (.int i) (.int j) H Q) →
      ∃ r : TIp, PIp X op r ∧ ∀ Z x y M H v u (Q0 : KE) (Q : VK), augW op x y M Q0 → RM ⟨X.K, Z⟩ M H → Rv ⟨X.K, Z⟩ M H x v → Rv ⟨X.K, Z⟩ M H y u → Cl ⟨X.K, Z⟩ M H Q0 Q → r v u H Q := fun {r op} o h =>
    ⟨r, o, fun Z x y M H v u Q0 Q w m rx ry k => by
      cases x with
      | int i =>
        cases y with
        | int j => cases rx; cases ry; exact h i j M H Q0 Q w fun n q => k.here q m (.int n)
        | _ => cases w
      | _ => cases w⟩
  have none : (∀ x y M Q, ¬ augW op x y M Q) → ∃ r : TIp, PIp X op r ∧ ∀ Z x y M H v u (Q0 : KE) (Q : VK), augW op x y M Q0 → RM ⟨X.K, Z⟩ M H → Rv ⟨X.K, Z⟩ M H x v → Rv ⟨X.K, Z⟩ M H y u → Cl ⟨X.K, Z⟩ M H Q0 Q → r v u H Q := fun h =>
    ⟨fun _ _ _ _ => False, fun _ _ _ _ _ _ _ _ _ _ _ _ q => q.elim, fun Z x y M H v u Q0 Q w _ _ _ _ => (h _ _ _ _ w).elim⟩
  cases op with
  | Add => exact two iop_add fun i j M H Q0 Q w k => ⟨i, j, rfl, rfl, k _ w⟩
  | Sub => exact two iop_sub fun i j M H Q0 Q w k => ⟨i, j, rfl, rfl, k _ w⟩
  | Mult => exact two iop_mul fun i j M H Q0 Q w k => ⟨i, j, rfl, rfl, w.1, k _ w.2⟩
  | FloorDiv => exact two iop_fdiv fun i j M H Q0 Q w k => ⟨i, j, rfl, rfl, w.1, k _ w.2⟩
  | Mod => exact two iop_mod fun i j M H Q0 Q w k => ⟨i, j, rfl, rfl, w.1, k _ w.2⟩
  | LShift => exact two iop_shl fun i j M H Q0 Q w k => ⟨i, j, rfl, rfl, w.1, k _ w.2⟩
  | RShift => exact two iop_shr fun i j M H Q0 Q w k => ⟨i, j, rfl, rfl, w.1, k _ w.2⟩
  | BitAnd => exact two iop_and fun i j M H Q0 Q w k => ⟨i, j, rfl, rfl, k _ w⟩
  | BitOr => exact two iop_or fun i j M H Q0 Q w k => ⟨i, j, rfl, rfl, k _ w⟩
  | BitXor => exact two iop_xor fun i j M H Q0 Q w k => ⟨i, j, rfl, rfl, k _ w⟩
  | Pow => exact none fun x y M Q w => by cases x <;> first | cases w | (cases y <;> cases w)
  | Div => exact none fun x y M Q w => by cases x <;> first | cases w | (cases y <;> cases w)
  | MatMult => exact none fun x y M Q w => by cases x <;> first | cases w | (cases y <;> cases w)
theorem g_aug (E : Env' X W lv N sc fn tb Γ) {x : Str} {p' pos : Pos} {i : Nat} {op : Operator} {v : Expr} {wa : WE} (h1 : N[i]? = some x) (h2 : locB sc x = true) (ha : PE X v (TE' X W wa)) :
    PS X (.AugAssign (.Name x p') op v pos) (TS' X W fun μ M K => ∃ x, μ[i]? = some (some x) ∧ wa μ M (fun y M1 => augW op x y M1 fun z M2 => K.nx (μ.set i (some z)) M2) (fun n fs M' => K.ex n fs μ M')) := by
  obtain ⟨l1, l2⟩ := E.loc h2
  obtain ⟨r, o, imp⟩ := ip_aug (X := X) op
  refine ps_imp (ps_aug (by rw [E.hN]; exact E.nd) (by rw [E.hN]; exact h1) l1 ha o l2) fun D σ H h => ?_
  obtain ⟨Z, μ, M, K0, rs, rm, w, k⟩ := ts_of h
  obtain ⟨d0, e0, w⟩ := w
  obtain ⟨v0, ev, r0⟩ := rs.get i d0 e0
  refine ⟨v0, ev, c_ex rs rm k w fun d1 M1 H1 v1 q1 t1 m1 r1 => ?_⟩
  refine imp Z d0 d1 M1 H1 v0 v1 _ _ q1 m1 (r0.step t1) r1 fun d M' H' v q s m r => ?_
  exact k.nx _ M' _ H' q (t1.trans s) m ((rs.step (t1.trans s)).set r i)
/-- o[i] = e -/
theorem sto_ok {Z : Addr → Prop} {x y d : D} {M : Mp} {H : Hp} {o i v : V} {R : Mp → Prop} {Q : Hp → Prop} (w : stoW x y d M R) (m : RM ⟨X.K, Z⟩ M H) (rx : Rv ⟨X.K, Z⟩ M H x o) (ry : Rv ⟨X.K, Z⟩ M H y i) (rd : Rv ⟨X.K, Z⟩ M H d v)
    (k : ∀ M' H', R M' → Bx.Step M M' H H' → RM ⟨X.K, Z⟩ M' H' → Q H') : rSetL o i v H Q := by
  cases x with
  | obj a =>
    cases y with
    | int n =>
      cases rx; cases ry
      obtain ⟨xs, j, e, ej, q⟩ := w
      obtain ⟨vs, hq, rs⟩ := m.own a _ e
      exact ⟨a, vs, n, j, rfl, rfl, hq, by rw [← rs.length]; exact ej, k _ _ q (step_put e) (m.put e (rs.set j rd))⟩
    | _ => cases w
  | _ => cases w
theorem assign_sub {o i : Expr} {p : Pos} (h : isSlice i = false) (env : PySem.Env) : ∀ v, assign (.Subscript o i p) env v = (do
      let ov ← holding [v] (eval o env)
      let iv ← holding [v, ov] (eval i env)
      standAt p
      holding [v, ov, iv] (setItem ov iv v)
      release [v, ov, iv] []) := by
  intro v
  cases i <;> first | rfl | cases h
theorem g_sto {f g v : Expr} {p pos : Pos} {wo wi wa : WE} (hs : isSlice g = false) (ho : PE X f (TE' X W wo)) (hi : PE X g (TE' X W wi)) (ha : PE X v (TE' X W wa)) :
    PS X (.Assign [.Subscript f g p] v pos) (TS' X W fun μ M K => wa μ M (fun d M1 => wo μ M1 (fun x M2 => wi μ M2 (fun y M3 => stoW x y d M3 fun M4 => K.nx μ M4) (fun n fs M' => K.ex n fs μ M')) (fun n fs M' => K.ex n fs μ M')) (fun n fs M' => K.ex n fs μ M')) := by
  refine ps_imp (ps_asg ha (pg_sub ho hi set_list (assign_sub hs _)) (no_swSole (fun _ _ => by intro z; cases z) _ _) (no_swst2 (fun _ _ _ => by intro z; cases z) (fun _ _ => by intro z; cases z) _) rfl) fun D σ H h => ?_
  obtain ⟨Z, μ, M, K0, rs, rm, w, k⟩ := ts_of h
  refine c_ex rs rm k w fun d1 M1 H1 v1 q1 t1 m1 r1 => ?_
  refine c_ex (rs.step t1) m1 (k.step t1) q1 fun d2 M2 H2 v2 q2 t2 m2 r2 => ?_
  refine c_ex ((rs.step t1).step t2) m2 ((k.step t1).step t2) q2 fun d3 M3 H3 v3 q3 t3 m3 r3 => ?_
  exact sto_ok q3 m3 (r2.step t3) r3 ((r1.step t2).step t3) fun M' H' q s m => k.nx _ M' _ H' q (((t1.trans t2).trans t3).trans s) m (rs.step (((t1.trans t2).trans t3).trans s))
/-- o[i] op= e -/
theorem get_list : PGet X (fun o i H Q => ∃ (a : Addr) (xs : List V) (n : Int) (x : V), o = .ref a ∧ i = .int n ∧ SqL X.K H a xs ∧ 0 ≤ n ∧ xs[n.toNat]? = some x ∧ Q x H) := by
  intro pins s σ H o i ov iv Q I r1 r2 h
  obtain ⟨a, xs, n, x, rfl, rfl, hq, h0, hx, q⟩ := h
  cases r1
  obtain ⟨t, rfl⟩ := r2
  obtain ⟨its, rv, p, hz⟩ := I.list hq
  obtain ⟨u, hu, ru⟩ := rv.get hx
  have hl : n.toNat < xs.length := (List.getElem?_eq_some_iff.mp hx).1
  have h63 := line63
  exact wpAny_getItem_list p.isList h0 (by omega) (by simpa using hu) ⟨x, H, I, ru, q⟩
theorem g_stg {f g v : Expr} {p pos : Pos} {op : Operator} {wo wi wa : WE} (hs : isSlice g = false) (ho : PE X f (TE' X W wo)) (hi : PE X g (TE' X W wi)) (ha : PE X v (TE' X W wa)) :
    PS X (.AugAssign (.Subscript f g p) op v pos) (TS' X W fun μ M K => wo μ M (fun x M1 => wi μ M1 (fun y M2 => getW x y M2 fun z M3 => wa μ M3 (fun d M4 => augW op z d M4 fun z' M5 => stoW x y z' M5 fun M6 => K.nx μ M6) (fun n fs M' => K.ex n fs μ M')) (fun n fs M' => K.ex n fs μ M')) (fun n fs M' => K.ex n fs μ M')) := by
  obtain ⟨r, o, imp⟩ := ip_aug (X := X) op
  have hst : ∀ ov iv new, augStore g ov iv new = (do holding [new, ov, iv] (setItem ov iv new); release [new, ov, iv] []; pure .next) := by
    intro ov iv new
    cases g <;> first | rfl | cases hs
  refine ps_imp (ps_augS ho hi get_list ha o set_list hst) fun D σ H h => ?_
  obtain ⟨Z, μ, M, K0, rs, rm, w, k⟩ := ts_of h
  refine c_ex rs rm k w fun d1 M1 H1 v1 q1 t1 m1 r1 => ?_
  refine c_ex (rs.step t1) m1 (k.step t1) q1 fun d2 M2 H2 v2 q2 t2 m2 r2 => ?_
  cases d1 with
  | obj a =>
    cases d2 with
    | int n =>
      have r1' := r1.step t2
      have r2' := r2
      cases r1'; cases r2'
      obtain ⟨xs, d, e, h0, ed, q2⟩ := q2
      obtain ⟨vs, hq, rvs⟩ := m2.own a _ e
      obtain ⟨u, eu, ru⟩ := rvs.get ed
      refine ⟨a, vs, n, u, rfl, rfl, .of hq, h0, eu, ?_⟩
      refine c_ex ((rs.step t1).step t2) m2 ((k.step t1).step t2) q2 fun d3 M3 H3 v3 q3 t3 m3 r3 => ?_
      refine imp Z d d3 M3 H3 u v3 _ _ q3 m3 (ru.step t3) r3 fun d4 M4 H4 v4 q4 t4 m4 r4 => ?_
      have tt := ((t1.trans t2).trans t3).trans t4
      exact sto_ok q4 m4 (r1.step (t2.trans (t3.trans t4))) (r2.step (t3.trans t4)) r4 fun M' H' q s m => k.nx _ M' _ H' q (tt.trans s) m (rs.step (tt.trans s))
    | _ => cases q2
  | _ => cases d2 <;> cases q2
end
end Bx

set_option Elab.async false
set_option linter.all false
set_option maxRecDepth 100000
set_option maxHeartbeats 16000000
/-! Bx, part M: loops, blocks, defs. -/
namespace Bx
open PySem PySem.Spec PyProof.Rows L2
section
variable {lv : Nat} {N : List Str} {fn : List (Nat × Str × List Str)} {tb : List (Nat × Str)} {Γ : Gm}
theorem c_for {X : Cx} {W : WX} {wi : Sl → Mp → (List D → (Mp → Prop) → Mp → Prop) → KX → Prop} {wb : WS} {tg : Tg} {D : Ends} {σ : L2.St} {H : Hp}
    (h : TS' X W (fun μ M K => wi μ M (fun ds gd M1 => loopW wb tg ds gd μ M1 K) (fun n fs M' => K.ex n fs μ M')) D σ H) :
    tFor (TI' X W wi) (gTg X.K tg) (TS' X W wb) D σ H := by
  obtain ⟨Z, μ, M, K0, rs, rm, w, k⟩ := ts_of h
  refine ⟨Z, μ, M, _, _, rs, rm, w, fun ds gd M1 H1 J hI s1 m1 it => ?_, fun n fs M' H' cls dd q s m x => k.ex n fs μ M' σ H' cls dd q s m (rs.step s) x⟩
  obtain ⟨I, i0, turn⟩ := hI
  refine ⟨fun i m σ' H' => m = ds.length - i ∧ i ≤ ds.length ∧ ∃ μ' M', I i μ' M' ∧ RS ⟨X.K, Z⟩ M' H' σ' μ' ∧ RM ⟨X.K, Z⟩ M' H' ∧ Bx.Step M1 M' H1 H',
    ⟨ds.length, by simp, Nat.zero_le _, μ, M1, i0, rs.step s1, m1, .refl _ _⟩, ?_⟩
  rintro i m σ' H' ⟨rfl, hi, μ', M', iv, rs', m', s'⟩
  obtain ⟨g, t⟩ := turn i μ' M' hi iv
  by_cases hlt : i < ds.length
  · right
    refine ⟨it.go i M' H' Z hlt s' m' .refl g, fun σ2 H2 => i + 1 ≤ ds.length ∧ ∃ μ2 M2, I (i + 1) μ2 M2 ∧ RS ⟨X.K, Z⟩ M2 H2 σ2 μ2 ∧ RM ⟨X.K, Z⟩ M2 H2 ∧ Bx.Step M1 M2 H1 H2,
      fun σ2 H2 ⟨a, b⟩ => ⟨ds.length - (i + 1), by omega, rfl, a, b⟩, fun x H2 y => ?_⟩
    have ed : ds[i]? = some ds[i] := by simp [hlt]
    rw [ed] at t
    obtain ⟨s2, m2, rx⟩ := it.yld i M' H' Z x H2 ds[i] s' m' .refl g ed y
    refine gTg_ok t rx (rs'.step s2) fun μ2 σ2 w2 rs2 => ?_
    have s12 := s1.trans (s'.trans s2)
    have again : ∀ {μ3 M3 σ3 H3}, (∃ M4, Sub M4 M3 ∧ I (i + 1) μ3 M4) → Bx.Step M' M3 H2 H3 → RM ⟨X.K, Z⟩ M3 H3 → RS ⟨X.K, Z⟩ M3 H3 σ3 μ3 →
        (i + 1 ≤ ds.length ∧ ∃ μ2 M2, I (i + 1) μ2 M2 ∧ RS ⟨X.K, Z⟩ M2 H3 σ3 μ2 ∧ RM ⟨X.K, Z⟩ M2 H3 ∧ Bx.Step M1 M2 H1 H3) := fun {μ3 M3 σ3 H3} ⟨M4, sb, iv⟩ s3 m3 rs3 =>
      ⟨hlt, μ3, M4, iv, rs3.step sb.step, m3.sub sb, ((s'.trans s2).trans s3).trans sb.step⟩
    exact of_ts rs2 m2 w2 ⟨fun μ3 M3 σ3 H3 q s3 m3 rs3 => again q s3 m3 rs3, fun d M3 H3 v q s3 m3 r3 => k.rt d M3 H3 v q (s12.trans s3) m3 r3, fun μ3 M3 σ3 H3 q s3 m3 rs3 => k.nx μ3 M3 σ3 H3 q (s12.trans s3) m3 rs3,
      fun μ3 M3 σ3 H3 q s3 m3 rs3 => again q s3 m3 rs3, fun n fs μ3 M3 σ3 H3 cls dd q s3 m3 rs3 x => k.ex n fs μ3 M3 σ3 H3 cls dd q (s12.trans s3) m3 rs3 x⟩
  · left
    have e : i = ds.length := by omega
    subst e
    rw [List.getElem?_eq_none (Nat.le_refl _)] at t
    exact ⟨it.stop _ M' H' Z rfl s' m' .refl g, k.nx μ' M' σ' H' t (s1.trans s') m' rs'⟩
theorem c_whl {X : Cx} {W : WX} {wc : WT} {wb : WS} {D : Ends} {σ : L2.St} {H : Hp}
    (h : TS' X W (fun μ M K => ∃ I : Nat → Sl → Mp → Prop, (∃ m, I m μ M) ∧ ∀ m μ M, I m μ M → wc μ M (fun r M1 => match r with
      | true => wb μ M1 { K with nx := fun μ2 M2 => ∃ m' M3, m' < m ∧ Sub M3 M2 ∧ I m' μ2 M3, ct := fun μ2 M2 => ∃ m' M3, m' < m ∧ Sub M3 M2 ∧ I m' μ2 M3, bk := K.nx }
      | false => K.nx μ M1) (fun n fs M' => K.ex n fs μ M')) D σ H) :
    tWhile (TT' X W wc) (TS' X W wb) D σ H := by
  obtain ⟨Z, μ, M, K0, rs, rm, w, k⟩ := ts_of h
  obtain ⟨I, ⟨m0, i0⟩, turn⟩ := w
  refine ⟨fun m σ' H' => ∃ μ' M', I m μ' M' ∧ RS ⟨X.K, Z⟩ M' H' σ' μ' ∧ RM ⟨X.K, Z⟩ M' H' ∧ Bx.Step M M' H H', ⟨m0, μ, M, i0, rs, rm, .refl _ _⟩, ?_⟩
  rintro m σ' H' ⟨μ', M', iv, rs', m', s'⟩
  refine c_exT rs' m' (k.step s') (turn m μ' M' iv) fun b M1 H1 q s1 m1 => ?_
  cases b with
  | false => exact ite_ff (k.nx μ' M1 σ' H1 q (s'.trans s1) m1 (rs'.step s1))
  | true =>
    refine ite_tt ?_
    have s01 := s'.trans s1
    have again : ∀ {μ3 M3 σ3 H3}, (∃ m' M4, m' < m ∧ Sub M4 M3 ∧ I m' μ3 M4) → Bx.Step M1 M3 H1 H3 → RM ⟨X.K, Z⟩ M3 H3 → RS ⟨X.K, Z⟩ M3 H3 σ3 μ3 →
        (∃ m', m' < m ∧ ∃ μ2 M2, I m' μ2 M2 ∧ RS ⟨X.K, Z⟩ M2 H3 σ3 μ2 ∧ RM ⟨X.K, Z⟩ M2 H3 ∧ Bx.Step M M2 H H3) := fun {μ3 M3 σ3 H3} ⟨m2, M4, lt, sb, iv⟩ s3 m3 rs3 =>
      ⟨m2, lt, μ3, M4, iv, rs3.step sb.step, m3.sub sb, (s01.trans s3).trans sb.step⟩
    refine ⟨_, fun σ2 H2 q => q, of_ts (rs'.step s1) m1 q ⟨fun μ3 M3 σ3 H3 q s3 m3 rs3 => again q s3 m3 rs3, fun d M3 H3 v q s3 m3 r3 => k.rt d M3 H3 v q (s01.trans s3) m3 r3, fun μ3 M3 σ3 H3 q s3 m3 rs3 => k.nx μ3 M3 σ3 H3 q (s01.trans s3) m3 rs3,
      fun μ3 M3 σ3 H3 q s3 m3 rs3 => again q s3 m3 rs3, fun n fs μ3 M3 σ3 H3 cls dd q s3 m3 rs3 x => k.ex n fs μ3 M3 σ3 H3 cls dd q (s01.trans s3) m3 rs3 x⟩⟩
theorem c_ite {X : Cx} {W : WX} {wc : WT} {wa wb : WS} {D : Ends} {σ : L2.St} {H : Hp}
    (h : TS' X W (fun μ M K => wc μ M (fun r M1 => match r with
      | true => wa μ M1 K
      | false => wb μ M1 K) (fun n fs M' => K.ex n fs μ M')) D σ H) : tIfS (TT' X W wc) (TS' X W wa) (TS' X W wb) D σ H := by
  obtain ⟨Z, μ, M, K0, rs, rm, w, k⟩ := ts_of h
  refine c_exT rs rm k w fun b M1 H1 q s1 m1 => ?_
  cases b with
  | true => exact ite_tt (of_ts (rs.step s1) m1 q (k.step s1))
  | false => exact ite_ff (of_ts (rs.step s1) m1 q (k.step s1))
theorem c_seq {X : Cx} {W : WX} {ws wr : WS} {D : Ends} {σ : L2.St} {H : Hp}
    (h : TS' X W (fun μ M K => ws μ M { K with nx := fun μ' M' => wr μ' M' K }) D σ H) : tSeq (TS' X W ws) (TS' X W wr) D σ H := by
  obtain ⟨Z, μ, M, K0, rs, rm, w, k⟩ := ts_of h
  exact of_ts rs rm w ⟨fun μ' M' σ' H' q s m r => of_ts r m q (k.step s), k.rt, k.bk, k.ct, k.ex⟩
theorem env_nox {X : Cx} {W : WX} {sc : Scope} (E : Env' X W lv N sc fn tb Γ) : Env' X.nox (fun _ _ _ _ => False) lv N sc fn tb Γ where
  hN := E.hN
  nd := E.nd
  lk := E.lk
  fnc := E.fnc
  calm := E.calm
  room := E.room
  tk := takes0
  po := PassesOwn.never
  blt := E.blt
  fns := E.fns
  tabs := E.tabs
  kd := E.kd
mutual
theorem sS : ∀ (x : Sx) {X : Cx} {W : WX} {sc : Scope} {s : Stmt}, Env' X W lv N sc fn tb Γ → chkS N fn tb sc x s = true → PS X s (TS' X W (wpS Γ x))
  | .nev, X, W, sc, s, E, h => ps_imp ps_never fun D σ H h => by
    obtain ⟨Z, μ, M, K, rs, rm, w, _⟩ := h
    exact w
  | .skip, X, W, sc, s, E, h => by
    cases s with
    | Pass p =>
      refine ps_imp ps_pass fun D σ H h => ?_
      obtain ⟨Z, μ, M, K0, rs, rm, w, k⟩ := ts_of h
      exact k.nx μ M σ H w (.refl _ _) rm rs
    | Expr v p =>
      cases v with
      | Constant c kk q =>
        cases c with
        | str z =>
          refine ps_imp ps_doc fun D σ H h => ?_
          obtain ⟨Z, μ, M, K0, rs, rm, w, k⟩ := ts_of h
          exact k.nx μ M σ H w (.refl _ _) rm rs
        | _ => exact nomatch (show false = true from h)
      | _ => exact nomatch (show false = true from h)
    | _ => exact nomatch (show false = true from h)
  | .set i e, X, W, sc, s, E, h => by
    cases s with
    | Assign ts v p =>
      match ts, h with
      | [t], h =>
        cases t with
        | Name x p' =>
          have h' : (decide (N[i]? = some x) && locB sc x && chkE N fn tb sc e v) = true := h
          obtain ⟨h1, h3⟩ := ba h'
          obtain ⟨h1, h2⟩ := ba h1
          exact g_set E (of_decide_eq_true h1) h2 h3
        | _ => exact nomatch (show false = true from h)
      | [], h => exact nomatch (show false = true from h)
      | t :: _ :: _, h => cases t <;> exact nomatch (show false = true from h)
    | _ => exact nomatch (show false = true from h)
  | .unp tg e, X, W, sc, s, E, h => by
    cases s with
    | Assign ts v p =>
      match ts, h with
      | [t], h =>
        have h' : (isTupE t && !isTupE v && chkTg N sc tg t && chkE N fn tb sc e v) = true := h
        obtain ⟨h1, h4⟩ := ba h'
        obtain ⟨h1, h3⟩ := ba h1
        obtain ⟨h1, h2⟩ := ba h1
        cases t with
        | Tuple es kk q =>
          refine ps_imp (ps_asg (sE e E h4) (pg_tg E h3) (no_swSole (fun _ _ => by intro z; cases z) _ _) (no_swst (bn h2) _) rfl) fun D σ H h => ?_
          obtain ⟨Z, μ, M, K0, rs, rm, w, k⟩ := ts_of h
          refine c_ex rs rm k w fun d1 M1 H1 v1 q1 t1 m1 r1 => ?_
          exact gTg_ok q1 r1 (rs.step t1) fun μ' σ' q rs' => k.nx μ' M1 σ' H1 q t1 m1 rs'
        | _ => exact nomatch (show false = true from h1)
      | [], h => exact nomatch (show false = true from h)
      | t :: _ :: _, h => cases t <;> exact nomatch (show false = true from h)
    | _ => exact nomatch (show false = true from h)
  | .par i j a b, X, W, sc, s, E, h => by
    cases s with
    | Assign ts v p =>
      have h0 : (match par2 ts, tup2 v with
        | some (x, px, y, py, _, _), some (e, f, _, _) => decide (N[i]? = some x) && decide (N[j]? = some y) && !decide (i = j) && !decide (x = y) && locL sc x && locL sc y && (px.line == py.line) &&
          !isStar e && !isStar f && !(foldedForSure 8 e && foldedForSure 8 f) && !(constantsAlone 8 e && constantsAlone 8 f) && chkE N fn tb sc a e && chkE N fn tb sc b f
        | _, _ => false) = true := h
      cases q1 : par2 ts with
      | none => rw [q1] at h0; exact nomatch (show false = true from h0)
      | some z =>
        obtain ⟨x, px, y, py, kt, pt⟩ := z
        cases q2 : tup2 v with
        | none => rw [q1, q2] at h0; exact nomatch (show false = true from h0)
        | some z2 =>
          obtain ⟨e, f, k2, pt2⟩ := z2
          rw [q1, q2] at h0
          have h' : (decide (N[i]? = some x) && decide (N[j]? = some y) && !decide (i = j) && !decide (x = y) && locL sc x && locL sc y && (px.line == py.line) &&
            !isStar e && !isStar f && !(foldedForSure 8 e && foldedForSure 8 f) && !(constantsAlone 8 e && constantsAlone 8 f) && chkE N fn tb sc a e && chkE N fn tb sc b f) = true := h0
          obtain ⟨h1, h13⟩ := ba h'
          obtain ⟨h1, h12⟩ := ba h1
          obtain ⟨h1, h11⟩ := ba h1
          obtain ⟨h1, h10⟩ := ba h1
          obtain ⟨h1, h9⟩ := ba h1
          obtain ⟨h1, h8⟩ := ba h1
          obtain ⟨h1, h7⟩ := ba h1
          obtain ⟨h1, h6⟩ := ba h1
          obtain ⟨h1, h5⟩ := ba h1
          obtain ⟨h1, h4⟩ := ba h1
          obtain ⟨h1, h3⟩ := ba h1
          obtain ⟨h1, h2⟩ := ba h1
          rw [par2_eq q1, tup2_eq q2]
          exact g_par E (of_decide_eq_true h1) (of_decide_eq_true h2) (of_decide_eq_false (bn h3)) (of_decide_eq_false (bn h4)) h5 h6 h7 (bn h8) (bn h9) (bn h10) (bn h11) (sE a E h12) (sE b E h13)
    | _ => exact nomatch (show false = true from h)
  | .aug i op e, X, W, sc, s, E, h => by
    cases s with
    | AugAssign t o v p =>
      cases t with
      | Name x q =>
        have h' : (decide (N[i]? = some x) && locB sc x && decide (op = o) && chkE N fn tb sc e v) = true := h
        obtain ⟨ha, h4⟩ := ba h'
        obtain ⟨hb, h3⟩ := ba ha
        obtain ⟨h1, h2⟩ := ba hb
        have e3 := of_decide_eq_true h3
        rw [← e3]
        exact g_aug E (of_decide_eq_true h1) h2 (sE e E h4)
      | _ => exact nomatch (show false = true from h)
    | _ => exact nomatch (show false = true from h)
  | .sto o i e, X, W, sc, s, E, h => by
    cases s with
    | Assign ts v p =>
      match ts, h with
      | [t], h =>
        cases t with
        | Subscript f g q =>
          have h' : (chkE N fn tb sc o f && chkE N fn tb sc i g && chkE N fn tb sc e v && !isSlice g) = true := h
          obtain ⟨h1, h4⟩ := ba h'
          obtain ⟨h1, h3⟩ := ba h1
          obtain ⟨h1, h2⟩ := ba h1
          exact g_sto (bn h4) (sE o E h1) (sE i E h2) (sE e E h3)
        | _ => exact nomatch (show false = true from h)
      | [], h => exact nomatch (show false = true from h)
      | t :: _ :: _, h => cases t <;> exact nomatch (show false = true from h)
    | _ => exact nomatch (show false = true from h)
  | .stg op o i e, X, W, sc, s, E, h => by
    cases s with
    | AugAssign t oo v p =>
      cases t with
      | Subscript f g q =>
        have h' : (decide (op = oo) && chkE N fn tb sc o f && chkE N fn tb sc i g && chkE N fn tb sc e v && !isSlice g) = true := h
        obtain ⟨h1, h5⟩ := ba h'
        obtain ⟨h1, h4⟩ := ba h1
        obtain ⟨h1, h3⟩ := ba h1
        obtain ⟨h1, h2⟩ := ba h1
        obtain rfl := of_decide_eq_true h1
        exact g_stg (bn h5) (sE o E h2) (sE i E h3) (sE e E h4)
      | _ => exact nomatch (show false = true from h)
    | _ => exact nomatch (show false = true from h)
  | .ex e, X, W, sc, s, E, h => by
    cases s with
    | Expr v p =>
      have h' : (chkE N fn tb sc e v && !isComp v) = true := h
      obtain ⟨h1, h2⟩ := ba h'
      refine ps_imp (ps_expr (sE e E h1) (no_sw (bn h2) _ _ _)) fun D σ H h => ?_
      obtain ⟨Z, μ, M, K0, rs, rm, w, k⟩ := ts_of h
      exact c_ex rs rm k w fun d1 M1 H1 v1 q1 t1 m1 r1 => k.nx μ M1 σ H1 q1 t1 m1 (rs.step t1)
    | _ => exact nomatch (show false = true from h)
  | .ret e, X, W, sc, s, E, h => by
    cases s with
    | Return v p =>
      cases v with
      | some v =>
        refine ps_imp (ps_ret (sE e E h)) fun D σ H h => ?_
        obtain ⟨Z, μ, M, K0, rs, rm, w, k⟩ := ts_of h
        exact c_ex rs rm k w fun d1 M1 H1 v1 q1 t1 m1 r1 => k.rt d1 M1 H1 v1 q1 t1 m1 r1
      | none => exact nomatch (show false = true from h)
    | _ => exact nomatch (show false = true from h)
  | .retn, X, W, sc, s, E, h => by
    cases s with
    | Return v p =>
      cases v with
      | none =>
        refine ps_imp ps_retN fun D σ H h => ?_
        obtain ⟨Z, μ, M, K0, rs, rm, w, k⟩ := ts_of h
        exact k.rt .non M H .non w (.refl _ _) rm .non
      | some v => exact nomatch (show false = true from h)
    | _ => exact nomatch (show false = true from h)
  | .ite c a b, X, W, sc, s, E, h => by
    cases s with
    | If t p q pos =>
      have h' : (chkE N fn tb sc c t && okT c && chkB N fn tb sc a p && chkB N fn tb sc b q) = true := h
      obtain ⟨h1, h4⟩ := ba h'
      obtain ⟨h1, h3⟩ := ba h1
      obtain ⟨h1, h2⟩ := ba h1
      exact ps_imp (ps_if (sT c E h1 h2) (sB a E h3) (sB b E h4)) fun D σ H h => c_ite h
    | _ => exact nomatch (show false = true from h)
  | .for tg it b, X, W, sc, s, E, h => by
    cases s with
    | For t i p q pos =>
      cases q with
      | nil =>
        have h' : (chkI N fn tb sc it t i && chkTg N sc tg t && chkB N fn tb sc b p && !isSet i) = true := h
        obtain ⟨h1, h4⟩ := ba h'
        obtain ⟨h1, h3⟩ := ba h1
        obtain ⟨h1, h2⟩ := ba h1
        exact ps_imp (ps_for E.po E.calm (sI it E h1) (pg_tg E h2) (sB b E h3) (fold_plain (bn h4) _)) fun D σ H h => c_for h
      | cons _ _ => exact nomatch (show false = true from h)
    | _ => exact nomatch (show false = true from h)
  | .whl c b, X, W, sc, s, E, h => by
    cases s with
    | While t p q pos =>
      cases q with
      | nil =>
        have h' : (chkE N fn tb sc c t && okT c && chkB N fn tb sc b p) = true := h
        obtain ⟨h1, h3⟩ := ba h'
        obtain ⟨h1, h2⟩ := ba h1
        exact ps_imp (ps_while E.po (sT c E h1 h2) (sB b E h3)) fun D σ H h => c_whl h
      | cons _ _ => exact nomatch (show false = true from h)
    | _ => exact nomatch (show false = true from h)
  | .brk, X, W, sc, s, E, h => by
    cases s with
    | Break p =>
      refine ps_imp ps_break fun D σ H h => ?_
      obtain ⟨Z, μ, M, K0, rs, rm, w, k⟩ := ts_of h
      exact k.bk μ M σ H w (.refl _ _) rm rs
    | _ => exact nomatch (show false = true from h)
  | .cnt, X, W, sc, s, E, h => by
    cases s with
    | Continue p =>
      refine ps_imp ps_continue fun D σ H h => ?_
      obtain ⟨Z, μ, M, K0, rs, rm, w, k⟩ := ts_of h
      exact k.ct μ M σ H w (.refl _ _) rm rs
    | _ => exact nomatch (show false = true from h)
  | .rais g es, X, W, sc, s, E, h => by cases s <;> exact nomatch (show false = true from h)
  | .thru b, X, W, sc, s, E, h => by
    cases s with
    | Try p hs q r pos =>
      match hs, q, r, h with
      | h0 :: hs, [], [], h =>
        refine ps_imp (ps_try_thru0 (sB b (env_nox E) h)) fun D σ H h => ?_
        obtain ⟨Z, μ, M, K0, rs, rm, w, k⟩ := ts_of h
        exact of_ts (X := X.nox) rs rm w ⟨k.nx, k.rt, k.bk, k.ct, fun _ _ _ _ _ _ _ _ z => z.elim⟩
      | [], _, _, h => exact nomatch (show false = true from h)
      | _ :: _, _ :: _, _, h => exact nomatch (show false = true from h)
      | _ :: _, [], _ :: _, h => exact nomatch (show false = true from h)
    | _ => exact nomatch (show false = true from h)
theorem sB : ∀ (x : Sxs) {X : Cx} {W : WX} {sc : Scope} {b : List Stmt}, Env' X W lv N sc fn tb Γ → chkB N fn tb sc x b = true → PSs X b (TS' X W (wpB Γ x))
  | .nil, X, W, sc, b, E, h => by
    cases b with
    | nil =>
      refine pss_imp pss_nil fun D σ H h => ?_
      obtain ⟨Z, μ, M, K0, rs, rm, w, k⟩ := ts_of h
      exact k.nx μ M σ H w (.refl _ _) rm rs
    | cons _ _ => exact nomatch (show false = true from h)
  | .cons s r, X, W, sc, b, E, h => by
    cases b with
    | nil => exact nomatch (show false = true from h)
    | cons st rest =>
      have h' : (chkS N fn tb sc s st && chkB N fn tb sc r rest) = true := h
      obtain ⟨h1, h2⟩ := ba h'
      exact pss_imp (pss_cons (sS s E h1) (sB r E h2)) fun D σ H h => c_seq h
end
end
end Bx

set_option Elab.async false
set_option linter.all false
set_option maxRecDepth 100000
set_option maxHeartbeats 16000000
/-! Bx, part N: a def keeps its promise. -/
namespace Bx
open PySem PySem.Spec PyProof.Rows L2
/-- what a def hands back: it may be told with less of the memory, lists that are done by content -/
def Ret (Q : KE) (d : D) (M : Mp) : Prop := ∃ d' M', Sub M' M ∧ Fr M M' d d' ∧ Q d' M'
def Kret (Q : KE) (E : KX) : Kx where
  nx := fun _ M => Ret Q .non M
  rt := fun d M => Ret Q d M
  bk := fun _ _ => False
  ct := fun _ _ => False
  ex := fun n fs _ M => E n fs M
def startD (N : List Str) (ds : List D) : Sl := ds.map some ++ List.replicate (N.length - ds.length) none
theorem start_rs {K : KZ} {M : Mp} {H : Hp} {N : List Str} {ds : List D} {vs : List V} (r : Rvs K M H ds vs) : RS K M H (L2.start N vs) (startD N ds) := by
  have hl := r.length
  refine ⟨by unfold L2.start startD; simp [hl], fun i d h => ?_⟩
  unfold startD at h
  unfold L2.start
  by_cases hi : i < ds.length
  · rw [List.getElem?_append_left (by simpa using hi)] at h
    rw [List.getElem?_append_left (by simpa [← hl] using hi)]
    rw [List.getElem?_map] at h ⊢
    cases e : ds[i]? with
    | none => rw [e] at h; cases h
    | some d' =>
      rw [e] at h
      have hd : d' = d := Option.some.inj (Option.some.inj h)
      subst hd
      obtain ⟨v, ev, rv⟩ := r.get e
      exact ⟨v, by rw [ev]; rfl, rv⟩
  · rw [List.getElem?_append_right (by simpa using hi)] at h
    rw [List.getElem?_replicate] at h
    split at h <;> cases h
section
variable {P : Program} {w : World} {K : PySem.W.Frag} {mg : Str → Option Value} {base : Heap}
theorem fn_ok {x qual : Str} {params : Arguments} {body : List Stmt} {scope : Scope} {f : Addr} {fd : FuncData} {N ps : List Str} {fn : List (Nat × Str × List Str)} {tb : List (Nat × Str)} {Γ : Gm} {lv : Nat} {b : Sxs} {Sp0 : Spec} {dvs : List V}
    (F : FunD K x qual params body scope dvs [] f fd) (S : FnScope N ps scope) (hblt : ∀ x ∈ bltNames, mg x = none) (hfns : ∀ g x ks, fn.lookup g = some (x, ks) → CallOk P w K mg base lv x ks (Γ.call g)) (htabs : ∀ g x, tb.lookup g = some x → NumOk P w K mg Γ g x)
    (hchk : chkB N fn tb scope b body = true) (hlen : ∀ ds M Q E, Sp0 ds M Q E → ds.length = ps.length)
    (hw : ∀ ds M Q E, Sp0 ds M Q E → wpB Γ b (startD N ds) M (Kret Q E)) : FnOk P w K mg base (L2.CX P w) (lv + 1) f fd ps (SpOf mg K ps.length Sp0) := by
  refine F.ok S (fun vs H Q E h => ?_) (fun cdv A outer s H vs Q E hr h => ?_)
  · obtain ⟨_, _, _, _, _, hl, _⟩ := h
    exact hl
  · obtain ⟨Z, ds, M, Q0, E0, hl, r, m, sp, k, kx⟩ := h
    have env : Env' (cxOf (L2.CX P w) P w K mg base N qual scope f cdv A outer s H E) (fun cls d _ H => E cls d H) lv N scope fn tb Γ :=
      ⟨rfl, S.nd, fun x k h => .inl h, fun _ _ => rfl, rfl, hr, takes_of rfl rfl rfl rfl, passes_of rfl, hblt, hfns, S.kind, htabs⟩
    refine ⟨_, sB b env hchk, Z, startD N ds, M, Kret Q0 E0, start_rs r, m, hw ds M Q0 E0 sp, fun μ' M' σ' H' q s m' _ => ?_, fun d M' H' v q s m' r' => ?_, fun _ _ _ _ q => q.elim, fun _ _ _ _ q => q.elim, fun n fs μ' M' σ' H' cls dd q s m' _ x => kx n fs M' H' cls dd q s m' x⟩
    · obtain ⟨d', M2, sb, fr, q⟩ := q
      exact k d' M2 H' .non q (s.trans sb.step) (m'.sub sb) (Rv.fr m' sb .non fr)
    · obtain ⟨d', M2, sb, fr, q⟩ := q
      exact k d' M2 H' v q (s.trans sb.step) (m'.sub sb) (Rv.fr m' sb r' fr)
/-- a def that keeps its promise may be called -/
theorem call_ok {x : Str} {f : Addr} {fd : FuncData} {ps : List Str} {k lv : Nat} {S : Spec} (hm : mg x = some (.ref f)) (hk : PySem.W.keepIn K (.ref f) = true) (hl : k ≤ lv) (F : FnOk P w K mg base (L2.CX P w) k f fd ps (SpOf mg K ps.length S))
    (hd : (x == ("__debug__" : Str)) = false) (hlen : ∀ ds M Q E, S ds M Q E → ds.length = ps.length) (hb : Binds K fd ps []) : CallOk P w K mg base lv x [] S :=
  ⟨.inl ⟨f, fd, ps, k, S, hm, hk, hl, F, hd, hlen, fun _ => ⟨[], [], [], hb, .nil, fun _ _ _ => .nil, fun as M Q E h => by rw [List.append_nil]; exact h⟩, fun z => absurd rfl z⟩⟩
theorem CallOk.mono {x : Str} {ks : List Str} {lv lv' : Nat} {S : Spec} (c : CallOk P w K mg base lv x ks S) (h : lv ≤ lv') : CallOk P w K mg base lv' x ks S := by
  rcases c.ex with c | c
  · obtain ⟨f, fd, ps, k, S0, a, b, d, r⟩ := c
    exact ⟨.inl ⟨f, fd, ps, k, S0, a, b, Nat.le_trans d h, r⟩⟩
  · obtain ⟨C, fI, fd, ps, ns, k, n, g, gV, gD, h1, h2, h3, h4, h5, r⟩ := c
    exact ⟨.inr ⟨C, fI, fd, ps, ns, k, n, g, gV, gD, h1, h2, h3, h4, Nat.le_trans h5 h, r⟩⟩
end
end Bx

set_option Elab.async false
set_option linter.all false
set_option maxRecDepth 100000
set_option maxHeartbeats 4000000
/-! Bx, part P: helpers for proofs of weakest preconditions. -/
namespace Bx
open PySem PySem.Spec L2
theorem get_lt {α : Type} {l : List α} {i : Nat} {a : α} (h : l[i]? = some a) : i < l.length := (List.getElem?_eq_some_iff.mp h).1
/-- a slot is read -/
def look (μ : Sl) (i : Nat) (P : D → Prop) : Prop := ∃ d, μ[i]? = some (some d) ∧ P d
theorem look_0 {d : D} {μ : Sl} {P : D → Prop} : look (some d :: μ) 0 P = P d := by
  unfold look; simp
theorem look_s {d : Option D} {μ : Sl} {i : Nat} {P : D → Prop} : look (d :: μ) (i + 1) P = look μ i P := by
  unfold look; simp
section
variable {Γ : Gm} {μ : Sl} {M : Mp} {Q : KE} {E : KX}
theorem E_var {i : Nat} : wpE Γ (.var i) μ M Q E = look μ i (fun d => Q d M) := rfl
theorem E_ci {i : Int} : wpE Γ (.ci i) μ M Q E = (Q (.int i) M) := rfl
theorem E_cb {b : Bool} : wpE Γ (.cb b) μ M Q E = (Q (.bl b) M) := rfl
theorem E_cn  : wpE Γ (.cn) μ M Q E = (Q .non M) := rfl
theorem E_cs {x : Str} : wpE Γ (.cs x) μ M Q E = (Q (.str x) M) := rfl
theorem E_bin {fz : Bool} {op : Operator} {a b : Ex} : wpE Γ (.bin fz op a b) μ M Q E = (wpE Γ a μ M (fun x M1 => wpE Γ b μ M1 (fun y M2 => binW fz op x y M2 Q) E) E) := rfl
theorem E_un {op : UnaryOp} {a : Ex} : wpE Γ (.un op a) μ M Q E = (wpE Γ a μ M (fun x M1 => unW op x M1 Q) E) := rfl
theorem E_no {a : Ex} : wpE Γ (.no a) μ M Q E = (wpE Γ a μ M (fun x M1 => match x with
      | .bl b => Q (.bl (!b)) M1
      | _ => False) E) := rfl
theorem E_an {es : Exs} : wpE Γ (.an es) μ M Q E = (wpAnE Γ es μ M Q E) := rfl
theorem E_or {es : Exs} : wpE Γ (.or es) μ M Q E = (wpOrE Γ es μ M Q E) := rfl
theorem E_cmp {op : CmpOp} {a b : Ex} : wpE Γ (.cmp op a b) μ M Q E = (wpE Γ a μ M (fun x M1 => wpE Γ b μ M1 (fun y M2 => cmpW op x y M2 fun r => Q (.bl r) M2) E) E) := rfl
theorem E_ch {o1 o2 : CmpOp} {a b c : Ex} : wpE Γ (.ch o1 o2 a b c) μ M Q E = (wpE Γ a μ M (fun x M1 => wpE Γ b μ M1 (fun y M2 => cmpW o1 x y M2 fun r =>
      match r with
      | true => wpE Γ c μ M2 (fun z M3 => cmpW o2 y z M3 fun r => Q (.bl r) M3) E
      | false => Q (.bl false) M2) E) E) := rfl
theorem E_ife {c a b : Ex} : wpE Γ (.ife c a b) μ M Q E = (wpT Γ c μ M (fun r M1 => match r with
      | true => wpE Γ a μ M1 Q E
      | false => wpE Γ b μ M1 Q E) E) := rfl
theorem E_tup {es : Exs} : wpE Γ (.tup es) μ M Q E = (wpA Γ es μ M (fun ds M1 => ds.length ≤ big ∧ Q (.tup ds) M1) E) := rfl
theorem E_lst {fz : Bool} {es : Exs} : wpE Γ (.lst fz es) μ M Q E = (wpA Γ es μ M (fun ds M1 => newL fz ds M1 Q) E) := rfl
theorem E_ix {a i : Ex} : wpE Γ (.ix a i) μ M Q E = (wpE Γ a μ M (fun x M1 => wpE Γ i μ M1 (fun y M2 => ixW x y M2 Q) E) E) := rfl
theorem E_sl {fz : Bool} {a lo hi : Ex} : wpE Γ (.sl fz a lo hi) μ M Q E = (wpE Γ a μ M (fun x M1 => partW lo (wpE Γ lo) μ M1 (fun l M2 => partW hi (wpE Γ hi) μ M2 (fun h M3 => slW fz x l h M3 Q) E) E) E) := rfl
theorem E_rev {fz : Bool} {a : Ex} : wpE Γ (.rev fz a) μ M Q E = (wpE Γ a μ M (fun x M1 => revW fz x M1 Q) E) := rfl
theorem E_call {g : Nat} {es : Exs} : wpE Γ (.call g es) μ M Q E = (wpA Γ es μ M (fun ds M1 => Γ.call g ds M1 Q E) E) := rfl
theorem E_callk {g : Nat} {es : Exs} {ks : List Str} {kes : Exs} : wpE Γ (.callk g es ks kes) μ M Q E = (wpA Γ es μ M (fun ds M1 => wpA Γ kes μ M1 (fun zs M2 => zs.length = ks.length ∧ Γ.call g (ds ++ zs) M2 Q E) E) E) := rfl
theorem E_blt {fz : Bool} {f : Str} {es : Exs} : wpE Γ (.blt fz f es) μ M Q E = (wpA Γ es μ M (fun ds M1 => bltW fz f ds M1 Q) E) := rfl
theorem E_mth {m : Str} {o : Ex} {es : Exs} : wpE Γ (.mth m o es) μ M Q E = (wpE Γ o μ M (fun x M1 => ownL M1 x ∧ wpA Γ es μ M1 (fun ds M2 => mthW m x ds M2 Q) E) E) := rfl
theorem E_ixc {g : Nat} {e : Ex} : wpE Γ (.ixc g e) μ M Q E = (wpE Γ e μ M (fun x M1 => match x with
      | .int i => ∃ d, (Γ.tab g).lookup i = some d ∧ Q d M1
      | _ => False) E) := rfl
theorem E_inc {neg : Bool} {g : Nat} {e : Ex} : wpE Γ (.inc neg g e) μ M Q E = (wpE Γ e μ M (fun x M1 => match x with
      | .int i => Q (.bl (neg != ((Γ.tab g).lookup i).isSome)) M1
      | _ => False) E) := rfl
theorem E_isi {e : Ex} {cs : List String} : wpE Γ (.isi e cs) μ M Q E = (wpE Γ e μ M (fun x M1 => ∃ t b, tyName M1 x = some t ∧ isAny t cs = some b ∧ Q (.bl b) M1) E) := rfl
theorem E_lrg {fz : Bool} {a b : Ex} : wpE Γ (.lrg fz a b) μ M Q E = (wpE Γ a μ M (fun x M1 => wpE Γ b μ M1 (fun y M2 => lrgW fz x y M2 Q) E) E) := rfl
theorem E_fld {e : Ex} {f : Str} : wpE Γ (.fld e f) μ M Q E = (wpE Γ e μ M (fun x M1 => fldW f x M1 Q) E) := rfl
theorem E_isx {e : Ex} {g : Nat} : wpE Γ (.isx e g) μ M Q E = (wpE Γ e μ M (fun x M1 => isxW Γ.sub g x fun b => Q (.bl b) M1) E) := rfl
end
/-- a comprehension over the items ds -/
def cmW (Γ : Gm) (fz : Bool) (own : List Nat) (tg : Tg) (cs : Exs) (elt : Ex) (μ : Sl) (ds : List D) (gd : Mp → Prop) (M1 : Mp) (Q : KE) : Prop :=
  ∃ I : Nat → List D → Mp → Prop, I 0 [] M1 ∧ ∀ i acc M2, i ≤ ds.length → I i acc M2 → gd M2 ∧ match ds[i]? with
    | some d => tgW tg d (wipeD μ own) fun μ' => wpC Γ cs μ' M2 (fun r M3 => match r with
        | true => wpE Γ elt μ' M3 (fun y M4 => acc.length < big ∧ I (i + 1) (acc ++ [y]) M4) (fun _ _ _ => False)
        | false => I (i + 1) acc M3) (fun _ _ _ => False)
    | none => newL fz acc M2 Q
theorem E_lc {Γ : Gm} {fz : Bool} {own : List Nat} {tg : Tg} {it : Itx} {cs : Exs} {elt : Ex} {μ : Sl} {M : Mp} {Q : KE} {E : KX} :
    wpE Γ (.lc fz own tg it cs elt) μ M Q E = wpI Γ it μ M (fun ds gd M1 => cmW Γ fz own tg cs elt μ ds gd M1 Q) E := rfl
section
variable {Γ : Gm} {μ : Sl} {M : Mp} {K : Kx}
theorem S_skip  : wpS Γ (.skip) μ M K = (K.nx μ M) := rfl
theorem S_set {i : Nat} {e : Ex} : wpS Γ (.set i e) μ M K = (wpE Γ e μ M (fun d M1 => K.nx (μ.set i (some d)) M1) (fun n fs M' => K.ex n fs μ M')) := rfl
theorem S_unp {tg : Tg} {e : Ex} : wpS Γ (.unp tg e) μ M K = (wpE Γ e μ M (fun d M1 => tgW tg d μ fun μ' => K.nx μ' M1) (fun n fs M' => K.ex n fs μ M')) := rfl
theorem S_par {i j : Nat} {a b : Ex} : wpS Γ (.par i j a b) μ M K = (wpE Γ a μ M (fun x M1 => wpE Γ b μ M1 (fun y M2 => K.nx ((μ.set i (some x)).set j (some y)) M2) (fun n fs M' => K.ex n fs μ M')) (fun n fs M' => K.ex n fs μ M')) := rfl
theorem S_aug {i : Nat} {op : Operator} {e : Ex} : wpS Γ (.aug i op e) μ M K = (look μ i fun x => wpE Γ e μ M (fun y M1 => augW op x y M1 fun z M2 => K.nx (μ.set i (some z)) M2) (fun n fs M' => K.ex n fs μ M')) := rfl
theorem S_sto {o i e : Ex} : wpS Γ (.sto o i e) μ M K = (wpE Γ e μ M (fun d M1 => wpE Γ o μ M1 (fun x M2 => wpE Γ i μ M2 (fun y M3 => stoW x y d M3 fun M4 => K.nx μ M4) (fun n fs M' => K.ex n fs μ M')) (fun n fs M' => K.ex n fs μ M')) (fun n fs M' => K.ex n fs μ M')) := rfl
theorem S_stg {op : Operator} {o i e : Ex} : wpS Γ (.stg op o i e) μ M K = (wpE Γ o μ M (fun x M1 => wpE Γ i μ M1 (fun y M2 => getW x y M2 fun z M3 => wpE Γ e μ M3 (fun d M4 => augW op z d M4 fun z' M5 => stoW x y z' M5 fun M6 => K.nx μ M6) (fun n fs M' => K.ex n fs μ M')) (fun n fs M' => K.ex n fs μ M')) (fun n fs M' => K.ex n fs μ M')) := rfl
theorem S_ex {e : Ex} : wpS Γ (.ex e) μ M K = (wpE Γ e μ M (fun _ M1 => K.nx μ M1) (fun n fs M' => K.ex n fs μ M')) := rfl
theorem S_ret {e : Ex} : wpS Γ (.ret e) μ M K = (wpE Γ e μ M K.rt (fun n fs M' => K.ex n fs μ M')) := rfl
theorem S_retn  : wpS Γ (.retn) μ M K = (K.rt .non M) := rfl
theorem S_ite {c : Ex} {a b : Sxs} : wpS Γ (.ite c a b) μ M K = (wpT Γ c μ M (fun r M1 => match r with
      | true => wpB Γ a μ M1 K
      | false => wpB Γ b μ M1 K) (fun n fs M' => K.ex n fs μ M')) := rfl
theorem S_for {tg : Tg} {it : Itx} {b : Sxs} : wpS Γ (.for tg it b) μ M K = (wpI Γ it μ M (fun ds gd M1 => loopW (wpB Γ b) tg ds gd μ M1 K) (fun n fs M' => K.ex n fs μ M')) := rfl
theorem S_whl {c : Ex} {b : Sxs} : wpS Γ (.whl c b) μ M K = (∃ I : Nat → Sl → Mp → Prop, (∃ m, I m μ M) ∧ ∀ m μ M, I m μ M → wpT Γ c μ M (fun r M1 => match r with
      | true => wpB Γ b μ M1 { K with nx := fun μ2 M2 => ∃ m' M3, m' < m ∧ Sub M3 M2 ∧ I m' μ2 M3, ct := fun μ2 M2 => ∃ m' M3, m' < m ∧ Sub M3 M2 ∧ I m' μ2 M3, bk := K.nx }
      | false => K.nx μ M1) (fun n fs M' => K.ex n fs μ M')) := rfl
theorem S_brk  : wpS Γ (.brk) μ M K = (K.bk μ M) := rfl
theorem S_cnt  : wpS Γ (.cnt) μ M K = (K.ct μ M) := rfl
theorem S_rais {g : Nat} {es : Exs} : wpS Γ (.rais g es) μ M K = (False) := rfl
theorem S_thru {b : Sxs} : wpS Γ (.thru b) μ M K = (wpB Γ b μ M { K with ex := fun _ _ _ _ => False }) := rfl
theorem B_nil : wpB Γ .nil μ M K = K.nx μ M := rfl
/-- what is left to do -/
def seqK (Γ : Gm) (r : Sxs) (K : Kx) : Kx := { K with nx := fun μ' M' => wpB Γ r μ' M' K }
theorem B_one {s : Sx} : wpB Γ (.cons s .nil) μ M K = wpS Γ s μ M K := rfl
theorem B_cons {s t : Sx} {r : Sxs} : wpB Γ (.cons s (.cons t r)) μ M K = wpS Γ s μ M (seqK Γ (.cons t r) K) := rfl
theorem seq_rt {r : Sxs} : (seqK Γ r K).rt = K.rt := rfl
theorem seq_bk {r : Sxs} : (seqK Γ r K).bk = K.bk := rfl
theorem seq_ct {r : Sxs} : (seqK Γ r K).ct = K.ct := rfl
theorem seq_ex {r : Sxs} : (seqK Γ r K).ex = K.ex := rfl
theorem nx_of {r : Sxs} (h : wpB Γ r μ M K) : (seqK Γ r K).nx μ M := h
def loopK (I : Nat → Sl → Mp → Prop) (i : Nat) (K : Kx) : Kx := { K with nx := fun μ2 M2 => ∃ M3, Sub M3 M2 ∧ I (i + 1) μ2 M3, ct := fun μ2 M2 => ∃ M3, Sub M3 M2 ∧ I (i + 1) μ2 M3, bk := K.nx }
theorem loop_rt {I : Nat → Sl → Mp → Prop} {i : Nat} : (loopK I i K).rt = K.rt := rfl
theorem loop_bk {I : Nat → Sl → Mp → Prop} {i : Nat} : (loopK I i K).bk = K.nx := rfl
theorem loop_ex {I : Nat → Sl → Mp → Prop} {i : Nat} : (loopK I i K).ex = K.ex := rfl
theorem ret_nx {Q : KE} {E : KX} : (Kret Q E).nx μ M = Ret Q .non M := rfl
theorem ret_rt {Q : KE} {E : KX} {d : D} : (Kret Q E).rt d M = Ret Q d M := rfl
theorem ret_rt' {Q : KE} {E : KX} : (Kret Q E).rt = fun d M => Ret Q d M := rfl
theorem Ret.here {Q : KE} {d : D} {M : Mp} (h : Q d M) : Ret Q d M := ⟨d, M, .refl _, .same d, h⟩
end
section
variable {fz : Bool} {ds : List D} {M : Mp} {Q : KE} {x : D}
theorem B_len : bltW fz "len" ds M Q = lenW ds M Q := rfl
theorem B_int : bltW fz "int" ds M Q = int1W ds M Q := rfl
theorem B_abs : bltW fz "abs" ds M Q = absW ds M Q := rfl
theorem B_min : bltW fz "min" ds M Q = minW ds M Q := rfl
theorem B_max : bltW fz "max" ds M Q = maxW ds M Q := rfl
theorem B_sum : bltW fz "sum" ds M Q = sumW ds M Q := rfl
theorem B_tuple : bltW fz "tuple" ds M Q = tupleW ds M Q := rfl
theorem B_list : bltW fz "list" ds M Q = listW fz ds M Q := rfl
theorem M_append {x : D} : mthW "append" x ds M Q = (match x with
  | .obj a => ∃ xs, M a = some (.lst xs) ∧ (match ds with
      | [d] => xs.length < big ∧ Q .non (put M a (.lst (xs ++ [d])))
      | _ => False)
  | _ => False) := by cases x <;> rfl
theorem M_pop {x : D} : mthW "pop" x ds M Q = (match x with
  | .obj a => ∃ xs, M a = some (.lst xs) ∧ (match ds with
      | [] => ∃ d, xs[xs.length - 1]? = some d ∧ Q d (put M a (.lst xs.dropLast))
      | _ => False)
  | _ => False) := by cases x <;> rfl
end
theorem N_non : D.isNon .non = true := rfl
theorem N_bl {b : Bool} : D.isNon (.bl b) = false := rfl
theorem N_int {b : Int} : D.isNon (.int b) = false := rfl
theorem N_str {b : Str} : D.isNon (.str b) = false := rfl
theorem N_tup {b : List D} : D.isNon (.tup b) = false := rfl
theorem N_rl {b : List D} : D.isNon (.rl b) = false := rfl
theorem N_wl {b : List D} : D.isNon (.wl b) = false := rfl
theorem N_obj {b : Addr} : D.isNon (.obj b) = false := rfl
theorem N_exc {C : Addr} {ns : List Str} {b : List D} : D.isNon (.exc C ns b) = false := rfl
section
variable {M : Mp} {xs : List D} {a : Addr}
theorem I_tup : itemsOf M (.tup xs) = some xs := rfl
theorem I_rl : itemsOf M (.rl xs) = some xs := rfl
theorem I_wl : itemsOf M (.wl xs) = some xs := rfl
theorem I_obj : itemsOf M (.obj a) = (M a).map O.xs := rfl
theorem LL_rl : lstOf M (.rl xs) = some xs := rfl
theorem LL_obj : lstOf M (.obj a) = (M a).map O.xs := rfl
end
theorem kit_NoneType_tuple : kitB "NoneType" "tuple" = some false := by decide +kernel
theorem kit_NoneType_bool : kitB "NoneType" "bool" = some false := by decide +kernel
theorem kit_NoneType_int : kitB "NoneType" "int" = some false := by decide +kernel
theorem kit_NoneType_str : kitB "NoneType" "str" = some false := by decide +kernel
theorem kit_NoneType_list : kitB "NoneType" "list" = some false := by decide +kernel
theorem kit_bool_tuple : kitB "bool" "tuple" = some false := by decide +kernel
theorem kit_bool_bool : kitB "bool" "bool" = some true := by decide +kernel
theorem kit_bool_int : kitB "bool" "int" = some true := by decide +kernel
theorem kit_bool_str : kitB "bool" "str" = some false := by decide +kernel
theorem kit_bool_list : kitB "bool" "list" = some false := by decide +kernel
theorem kit_int_tuple : kitB "int" "tuple" = some false := by decide +kernel
theorem kit_int_bool : kitB "int" "bool" = some false := by decide +kernel
theorem kit_int_int : kitB "int" "int" = some true := by decide +kernel
theorem kit_int_str : kitB "int" "str" = some false := by decide +kernel
theorem kit_int_list : kitB "int" "list" = some false := by decide +kernel
theorem kit_str_tuple : kitB "str" "tuple" = some false := by decide +kernel
theorem kit_str_bool : kitB "str" "bool" = some false := by decide +kernel
theorem kit_str_int : kitB "str" "int" = some false := by decide +kernel
theorem kit_str_str : kitB "str" "str" = some true := by decide +kernel
theorem kit_str_list : kitB "str" "list" = some false := by decide +kernel
theorem kit_tuple_tuple : kitB "tuple" "tuple" = some true := by decide +kernel
theorem kit_tuple_bool : kitB "tuple" "bool" = some false := by decide +kernel
theorem kit_tuple_int : kitB "tuple" "int" = some false := by decide +kernel
theorem kit_tuple_str : kitB "tuple" "str" = some false := by decide +kernel
theorem kit_tuple_list : kitB "tuple" "list" = some false := by decide +kernel
theorem kit_list_tuple : kitB "list" "tuple" = some false := by decide +kernel
theorem kit_list_bool : kitB "list" "bool" = some false := by decide +kernel
theorem kit_list_int : kitB "list" "int" = some false := by decide +kernel
theorem kit_list_str : kitB "list" "str" = some false := by decide +kernel
theorem kit_list_list : kitB "list" "list" = some true := by decide +kernel
/-! ### bits -/
theorem band_nat (a b : Nat) : Builtin.bitAnd (a : Int) (b : Int) = ((a &&& b : Nat) : Int) := by
  unfold Builtin.bitAnd
  simp
theorem bor_nat (a b : Nat) : Builtin.bitOr (a : Int) (b : Int) = ((a ||| b : Nat) : Int) := by
  unfold Builtin.bitOr Builtin.bitAnd
  have n (x : Nat) : decide (0 ≤ Builtin.bitNot (x : Int)) = false := decide_eq_false (by unfold Builtin.bitNot; omega)
  have m (x : Nat) : (Builtin.bitNot (Builtin.bitNot (x : Int))).toNat = x := by unfold Builtin.bitNot; omega
  simp only [n, m]
  unfold Builtin.bitNot
  omega
theorem band_one (a : Nat) : Builtin.bitAnd (a : Int) 1 = ((a % 2 : Nat) : Int) := by
  have := band_nat a 1
  rw [Nat.and_one_is_mod] at this
  exact this
theorem shl_one (k : Nat) : (1 : Int) * 2 ^ k = ((2 ^ k : Nat) : Int) := by rw [Int.one_mul]; norm_cast
/-! ### loops -/
variable {Γ : Gm}
theorem loop_of {body : Sl → Mp → Kx → Prop} {tg : Tg} {ds : List D} {gd : Mp → Prop} {μ : Sl} {M : Mp} {K : Kx} (I : Nat → Sl → Mp → Prop) (h0 : I 0 μ M) (hg : ∀ i μ M, I i μ M → gd M)
    (hs : ∀ i d μ M, ds[i]? = some d → I i μ M → tgW tg d μ fun μ' => body μ' M (loopK I i K))
    (hd : ∀ μ M, I ds.length μ M → K.nx μ M) : loopW body tg ds gd μ M K := by
  refine ⟨I, h0, fun i μ M hi h => ⟨hg i μ M h, ?_⟩⟩
  cases e : ds[i]? with
  | none =>
    have : ds.length ≤ i := List.getElem?_eq_none_iff.mp e
    have : i = ds.length := by omega
    subst this
    exact hd μ M h
  | some d => exact hs i d μ M e h
/-- a loop over a range; the whole memory stays -/
theorem loop_range {body : Sl → Mp → Kx → Prop} {i : Nat} {lo n : Nat} {μ : Sl} {M : Mp} {K : Kx} (I : Nat → Sl → Mp → Prop) (h0 : I 0 μ M)
    (hs : ∀ k μ M, k < n → I k μ M → body (μ.set i (some (.int ((lo + k : Nat) : Int)))) M (loopK I k K))
    (hd : ∀ μ M, I n μ M → K.nx μ M) : loopW body (.nm i) ((List.range n).map fun k => D.int (((lo + k : Nat) : Int))) (fun _ => True) μ M K := by
  refine ⟨I, h0, fun k μ M hi h => ⟨trivial, ?_⟩⟩
  rw [List.length_map, List.length_range] at hi
  by_cases hk : k < n
  · rw [List.getElem?_map, List.getElem?_range hk]
    exact hs k μ M hk h
  · have : k = n := by omega
    subst this
    rw [List.getElem?_eq_none (by simp)]
    exact hd μ M h
/-! ### comprehensions -/
theorem cmW_range {fz : Bool} {own : List Nat} {v : Nat} {elt : Ex} {μ : Sl} {n : Nat} {gd : Mp → Prop} {M : Mp} {Q : KE} (f : Nat → D) (hn : n ≤ big) (hg : gd M)
    (h : ∀ k, k < n → ∀ R : KE, R (f k) M → wpE Γ elt ((wipeD μ own).set v (some (.int (k : Nat)))) M R (fun _ _ _ => False)) (hq : newL fz ((List.range n).map f) M Q) :
    cmW Γ fz own (.nm v) .nil elt μ ((List.range n).map fun k => D.int (k : Nat)) gd M Q := by
  refine ⟨fun i acc M2 => acc = (List.range i).map f ∧ M2 = M, ⟨rfl, rfl⟩, fun i acc M2 hi ⟨e1, e2⟩ => ?_⟩
  subst e1 e2
  rw [List.length_map, List.length_range] at hi
  refine ⟨hg, ?_⟩
  by_cases hk : i < n
  · rw [List.getElem?_map, List.getElem?_range hk]
    refine h i hk _ ⟨by simp; omega, ?_, rfl⟩
    rw [List.range_succ, List.map_append]
    rfl
  · have : i = n := by omega
    subst this
    rw [List.getElem?_eq_none (by simp)]
    exact hq
theorem cmW_map {fz : Bool} {own : List Nat} {v : Nat} {elt : Ex} {μ : Sl} {ds : List D} {gd : Mp → Prop} {M : Mp} {Q : KE} (f : D → D) (hn : ds.length ≤ big) (hg : gd M)
    (h : ∀ d, d ∈ ds → ∀ R : KE, R (f d) M → wpE Γ elt ((wipeD μ own).set v (some d)) M R (fun _ _ _ => False)) (hq : newL fz (ds.map f) M Q) :
    cmW Γ fz own (.nm v) .nil elt μ ds gd M Q := by
  refine ⟨fun i acc M2 => acc = (ds.take i).map f ∧ M2 = M, ⟨rfl, rfl⟩, fun i acc M2 hi ⟨e1, e2⟩ => ?_⟩
  subst e1 e2
  refine ⟨hg, ?_⟩
  cases e : ds[i]? with
  | some d =>
    refine h d (List.mem_of_getElem? e) _ ⟨by have := get_lt e; simp; omega, ?_, rfl⟩
    rw [List.take_succ, e]
    simp
  | none =>
    have : ds.length ≤ i := List.getElem?_eq_none_iff.mp e
    rw [List.take_of_length_le this]
    exact hq
/-! ### tables of nums -/
def nums (ts : List Int) : List D := ts.map D.int
/-- the i-th -/
def T (ts : List Int) (i : Nat) : Int := ts.getD i 0
theorem at_nums {ts : List Int} {i : Nat} (h : i < ts.length) : atI (nums ts) (i : Int) = some (.int (T ts i)) := by
  refine atI_nat ?_
  unfold nums T
  rw [List.getElem?_map, List.getElem?_eq_getElem h, List.getD_eq_getElem?_getD, List.getElem?_eq_getElem h]
  rfl
theorem len_nums (ts : List Int) : (nums ts).length = ts.length := List.length_map ..
/-- an index that may count from behind -/
theorem at_nums' {ts : List Int} {i : Int} (h : -(ts.length : Int) ≤ i) (h2 : i < ts.length) : ∃ t : Int, atI (nums ts) i = some (.int t) := by
  unfold atI ixN
  rw [len_nums]
  have g : ∀ j : Nat, j < ts.length → ∃ t : Int, (nums ts)[j]? = some (.int t) := fun j hj => ⟨_, by unfold nums; rw [List.getElem?_map, List.getElem?_eq_getElem hj]; rfl⟩
  by_cases h0 : 0 ≤ i
  · rw [if_pos h0, if_pos h2]; exact g _ (by omega)
  · rw [if_neg h0, if_pos h]; exact g _ (by omega)
end Bx

set_option Elab.async false
set_option linter.all false
set_option maxRecDepth 100000
set_option maxHeartbeats 4000000
/-! Bx, part Q: the head: tables of the top with int keys, the law's end. -/
namespace Bx
open PySem PySem.Spec PyProof.Rows L2
def entB : List DictEntry → List (Int × Int) → Bool
  | [], [] => true
  | e :: es, q :: qs => (match e.key, e.val with
    | .int k _, .int v _ => decide (k = q.1) && (decide (v = q.2) && decide (e.hash = hashInt q.1))
    | _, _ => false) && entB es qs
  | _, _ => false
/-- the module's name x is a dict of these ints -/
def idicB (K : PySem.W.Frag) (x : Str) (kvs : List (Int × Int)) : Bool := match K.lookup (He.ga K x) with
  | some ⟨.type c, none, .dict es _, sl⟩ => decide (c = "dict") && (sl.isEmpty && (!(He.ga K x == sysModules) && entB es.toList kvs))
  | _ => false
def tabD (kvs : List (Int × Int)) : List (Int × D) := kvs.map fun q => (q.1, D.int q.2)
theorem ent_keys : ∀ {es : List DictEntry} {kvs : List (Int × Int)}, entB es kvs = true → ∀ e ∈ es, ∃ k, Value.isInt k e.key = true ∧ e.hash = hashInt k
  | [], _, _, e, he => by cases he
  | e :: es, [], h, _, _ => by cases h
  | e :: es, q :: qs, h, e', he => by
    obtain ⟨h1, h2⟩ := He.ba (show ((match e.key, e.val with
      | .int k _, .int v _ => decide (k = q.1) && (decide (v = q.2) && decide (e.hash = hashInt q.1))
      | _, _ => false) && entB es qs) = true from h)
    rcases List.mem_cons.mp he with rfl | he
    · split at h1
      · rename_i k t v t' e1 e2
        obtain ⟨h3, h4⟩ := He.ba h1
        obtain ⟨h5, h6⟩ := He.ba h4
        refine ⟨q.1, ?_, of_decide_eq_true h6⟩
        rw [e1, of_decide_eq_true h3]
        simp [Value.isInt]
      · cases h1
    · exact ent_keys h2 e' he
theorem ent_find : ∀ {es : List DictEntry} {kvs : List (Int × Int)}, entB es kvs = true → ∀ i, match (tabD kvs).lookup i with
    | some d => ∃ n t, (es.find? fun e => Value.isInt i e.key).map (·.val) = some (.int n t) ∧ d = .int n
    | none => (es.find? fun e => Value.isInt i e.key).map (·.val) = none
  | [], [], _, i => rfl
  | [], _ :: _, h, _ => by cases h
  | _ :: _, [], h, _ => by cases h
  | e :: es, q :: qs, h, i => by
    obtain ⟨h1, h2⟩ := He.ba (show ((match e.key, e.val with
      | .int k _, .int v _ => decide (k = q.1) && (decide (v = q.2) && decide (e.hash = hashInt q.1))
      | _, _ => false) && entB es qs) = true from h)
    split at h1
    · rename_i k t v t' e1 e2
      obtain ⟨h3, h4⟩ := He.ba h1
      obtain ⟨h5, h6⟩ := He.ba h4
      have hk := of_decide_eq_true h3
      have hv := of_decide_eq_true h5
      have ih := ent_find h2 i
      show match ((q.1, D.int q.2) :: tabD qs).lookup i with
        | some d => ∃ n t, ((e :: es).find? fun e => Value.isInt i e.key).map (·.val) = some (.int n t) ∧ d = .int n
        | none => ((e :: es).find? fun e => Value.isInt i e.key).map (·.val) = none
      rw [List.lookup_cons, List.find?_cons]
      by_cases c : i = q.1
      · have b1 : (i == q.1) = true := by simp [c]
        have b2 : Value.isInt i e.key = true := by rw [e1, hk, c]; simp [Value.isInt]
        rw [b1, b2]
        exact ⟨v, t', by rw [Option.map_some, e2], by rw [hv]⟩
      · have b1 : (i == q.1) = false := by simp [c]
        have b2 : Value.isInt i e.key = false := by
          cases z : Value.isInt i e.key with
          | false => rfl
          | true =>
            obtain ⟨u, hu⟩ := Value.isInt_shape z
            rw [e1] at hu
            injection hu with hu
            exact absurd (hu.symm.trans hk) c
        rw [b1, b2]
        exact ih
    · cases h1
theorem idic_ok {P : Program} {w : World} {K : PySem.W.Frag} {mg : Str → Option Value} {x : Str} {kvs : List (Int × Int)} (h : idicB K x kvs = true) (hm : mg x = some (.ref (He.ga K x))) (hd : (x == ("__debug__" : Str)) = false) : TabOk P w K mg x (tabD kvs) := by
  unfold idicB at h
  cases q : K.lookup (He.ga K x) with
  | none => rw [q] at h; cases h
  | some o =>
    obtain ⟨oc, od, dt, osl⟩ := o
    rw [q] at h
    cases oc with
    | type c =>
      cases od with
      | none =>
        cases dt with
        | dict es n =>
          obtain ⟨h1, h2⟩ := He.ba (show (decide (c = "dict") && (osl.isEmpty && (!(He.ga K x == sysModules) && entB es.toList kvs))) = true from h)
          obtain ⟨h3, h4⟩ := He.ba h2
          obtain ⟨h5, h6⟩ := He.ba h4
          have e1 : c = "dict" := of_decide_eq_true h1
          have e2 : osl = #[] := Array.isEmpty_iff.mp h3
          have e3 : (He.ga K x == sysModules) = false := by
            cases y : He.ga K x == sysModules with
            | false => rfl
            | true => rw [y] at h5; cases h5
          subst e1 e2
          refine ⟨He.ga K x, hm, ⟨e3, fun hh X => ⟨fun i => findBy Value.isInt es i, ⟨_, es, n, X _ _ q, ⟨rfl, rfl, rfl⟩, rfl, fun e he => ent_keys h6 e (Array.mem_toList_iff.mpr he), fun _ => rfl⟩, fun i => ?_⟩⟩, hd⟩
          have ef := ent_find h6 i
          have ec : findBy Value.isInt es i = (es.toList.find? fun e => Value.isInt i e.key).map (·.val) := by
            unfold findBy
            obtain ⟨l⟩ := es
            rw [List.find?_toArray]
          dsimp only
          rw [ec]
          cases z : (tabD kvs).lookup i with
          | none => rw [z] at ef; exact ef
          | some d =>
            rw [z] at ef
            obtain ⟨m, t, f1, rfl⟩ := ef
            exact ⟨_, .int m, f1, ⟨t, rfl⟩, fun _ _ _ => .int m⟩
        | _ => cases h
      | some a => cases dt <;> cases h
    | _ => cases od <;> cases dt <;> cases h
/-- the law's own promise, from the written script -/
theorem law_sp {mg : Str → Option Value} {K : PySem.W.Frag} {S : Spec} {H : Hp} {a : Addr} {ns : List Int} (hH : Only H) (hS : SqL K H a (ns.map V.int)) (h : ∀ (M : Mp) (Q : KE) (E : KX), (∀ M', Q (.bl true) M') → S [.wl (nums ns)] M Q E) :
    SpOf mg K 1 S [.ref a] H (fun v _ => v = .bl true) fun _ _ _ => False := by
  have rs : ∀ {κ : KZ} {M : Mp}, Rvs κ M H (nums ns) (ns.map V.int) := by
    intro κ M
    unfold nums
    induction ns with
    | nil => exact .nil
    | cons i r ih => exact .cons (.int i) (by
        clear ih hS h
        induction r with
        | nil => exact .nil
        | cons j r ih => exact .cons (.int j) ih)
  refine ⟨fun _ => False, [.wl (nums ns)], fun _ => none, fun d _ => d = .bl true, fun _ _ _ => False, rfl, .cons ?_ .nil, ⟨fun _ _ z => (nomatch z), fun _ z => (False.elim z)⟩, h _ _ _ fun _ => rfl, fun d M' H' v q s m r => ?_, fun _ _ _ _ _ _ z => z.elim⟩
  · rcases hS with (hS | ⟨o, hS⟩) | ⟨o, its, n, h1, h2, h3, h4, h5, h6⟩
    · rcases hH a with z | ⟨o, xs, z⟩
      · rw [hS] at z; cases z
      · rw [hS] at z; cases z
    · exact .fl ⟨rfl, fun z => z⟩ hS rs
    · exact .wl ⟨o, its, n, h1, h2, h3, h4, h5, h6⟩ rs
  · subst q
    cases r
    rfl
/-! ### the tables of names -/
section
variable {P : Program} {w : World} {K : PySem.W.Frag} {mg : Str → Option Value} {base : Heap} {lv : Nat} {Γ : Gm}
theorem fns_nil : ∀ g x ks, ([] : List (Nat × Str × List Str)).lookup g = some (x, ks) → CallOk P w K mg base lv x ks (Γ.call g) := fun _ _ _ h => by cases h
theorem fns_cons {a : Nat} {x0 : Str} {ks0 : List Str} {l : List (Nat × Str × List Str)} (h : CallOk P w K mg base lv x0 ks0 (Γ.call a)) (r : ∀ g x ks, l.lookup g = some (x, ks) → CallOk P w K mg base lv x ks (Γ.call g)) :
    ∀ g x ks, ((a, x0, ks0) :: l).lookup g = some (x, ks) → CallOk P w K mg base lv x ks (Γ.call g) := fun g x ks e => by
  rw [List.lookup_cons] at e
  by_cases c : g = a
  · subst c
    rw [show (g == g) = true by simp] at e
    cases e
    exact h
  · rw [show (g == a) = false by simp [c]] at e
    exact r g x ks e
theorem tabs_nil : ∀ g x, ([] : List (Nat × Str)).lookup g = some x → NumOk P w K mg Γ g x := fun _ _ h => by cases h
theorem num_tab {a : Nat} {x : Str} (h : TabOk P w K mg x (Γ.tab a)) (ha : a < 1000 := by decide) : NumOk P w K mg Γ a x := ⟨fun _ => h, fun z => absurd z (Nat.not_le.mpr ha)⟩
theorem num_cls {a : Nat} {x : Str} (h : ClsOk K mg x fun C => Γ.sub C a) (ha : 1000 ≤ a := by decide) : NumOk P w K mg Γ a x := ⟨fun z => absurd ha (Nat.not_le.mpr z), fun _ => h⟩
theorem tabs_consN {a : Nat} {x0 : Str} {l : List (Nat × Str)} (h : NumOk P w K mg Γ a x0) (r : ∀ g x, l.lookup g = some x → NumOk P w K mg Γ g x) : ∀ g x, ((a, x0) :: l).lookup g = some x → NumOk P w K mg Γ g x := fun g x e => by
  rw [List.lookup_cons] at e
  by_cases c : g = a
  · subst c
    rw [show (g == g) = true by simp] at e
    cases e
    exact h
  · rw [show (g == a) = false by simp [c]] at e
    exact r g x e
theorem tabs_cons {a : Nat} {x0 : Str} {l : List (Nat × Str)} (h : TabOk P w K mg x0 (Γ.tab a)) (r : ∀ g x, l.lookup g = some x → NumOk P w K mg Γ g x) (ha : a < 1000 := by decide) : ∀ g x, ((a, x0) :: l).lookup g = some x → NumOk P w K mg Γ g x := tabs_consN (num_tab h ha) r
/-- keywords in the parameters' order, none before them -/
theorem callk_ok {x qual : Str} {params : Arguments} {body : List Stmt} {scope : Scope} {f : Addr} {fd : FuncData} {ps ks : List Str} {k : Nat} {S : Spec} (Fd : FunD K x qual params body scope [] [] f fd) (hm : mg x = some (.ref f)) (hl : k ≤ lv) (F : FnOk P w K mg base (L2.CX P w) k f fd ps (SpOf mg K ps.length S))
    (hd : (x == ("__debug__" : Str)) = false) (hlen : ∀ ds M Q E, S ds M Q E → ds.length = ps.length) (hks : ks ≠ []) (hn : ks.length = ps.length)
    (hb : ∀ (kV doc pm : Value) (an : Option Addr) (cdv ct : Value) (ws : List Value), ws.length = ps.length → bindArgs (PySem.W.fnOf x qual params body scope .none kV doc pm an cdv ct) ⟨[], ks.zip ws⟩ = pure (ps.zip ws)) : CallOk P w K mg base lv x ks S := by
  refine ⟨.inl ⟨f, fd, ps, k, S, hm, Fd.kp, hl, F, hd, hlen, fun z => absurd z hks, fun _ => ⟨0, fun us ws => us ++ ws, fun vs zs => vs ++ zs, fun as bs => as ++ bs, ⟨fun s us ws X h1 h2 => ?_, fun r1 r2 => r1.append r2⟩, fun κ M H as bs vs zs r1 r2 => r1.append r2, fun as bs M Q E hbs h => ?_⟩⟩⟩
  · have hu : us = [] := List.length_eq_zero_iff.mp h1
    subst hu
    obtain ⟨oc, od, dV, kV, doc, pm, an, cdv, ct, osl, rfl, lk, hcd, hD, hK⟩ := Fd.ex
    rcases hD with ⟨_, rfl⟩ | ⟨e, _⟩
    · exact BindsTo.of_eq (hb kV doc pm an cdv ct ws (by omega))
    · exact absurd rfl e
  · refine ⟨?_, h⟩
    have := hlen _ _ _ _ h
    rw [List.length_append] at this
    omega
end
/-- exceptions of any world -/
def CXA (P : Program) : CXT := fun o H s E u s' => ∃ w, L2.CX P w o H s E u s'
theorem fn_any {P : Program} {w : World} {K : PySem.W.Frag} {mg : Str → Option Value} {base : Heap} {k : Nat} {f : Addr} {fd : FuncData} {ps : List Str} {sp : Sp} (F : FnOk P w K mg base (L2.CX P w) k f fd ps sp) : FnOk P w K mg base (CXA P) k f fd ps sp :=
  ⟨F.len, fun A outer s H args us vs Q E hr he hb hv h => codeAny_mono (F.run A outer s H args us vs Q E hr he hb hv h) fun r s' q => by
    cases r with
    | error e => exact ⟨w, q⟩
    | ok fl => cases fl <;> exact q⟩
theorem cxa_no {P : Program} (H : Hp) (s : Shared) (e : Value) (s' : Shared) (h : CXA P [] H s (fun _ _ _ => False) e s') : False := by
  obtain ⟨w, _, _, _, _, _, _, _, _, _, _, _, _, z⟩ := h
  exact z
/-- a def that is never asked -/
theorem fn_none {P : Program} {w : World} {K : PySem.W.Frag} {mg : Str → Option Value} {base : Heap} {k : Nat} {f : Addr} {fd : FuncData} {ps : List Str} {CX : CXT} : FnOk P w K mg base CX k f fd ps (SpOf mg K ps.length fun _ _ _ _ => False) :=
  ⟨fun _ _ _ _ h => by obtain ⟨_, _, _, _, _, _, _, _, z, _⟩ := h; exact z.elim, fun _ _ _ _ _ _ _ _ _ _ _ _ _ h => by obtain ⟨_, _, _, _, _, _, _, _, z, _⟩ := h; exact z.elim⟩
end Bx

set_option Elab.async false
set_option linter.all false
set_option maxRecDepth 100000
set_option maxHeartbeats 4000000
/-! Bx, part R: the classes of own errors, as the head's run leaves them. -/
namespace Bx
open PySem PySem.Spec PyProof.Rows L2
/-- the class object itself -/
def excObjB (C : Addr) : Obj → Bool
  | ⟨.type c, _, .cls cd, sl⟩ => decide (c = "type") && (match cd.mro, sl.toList with
    | .ref C' :: bm, [_, _, _, _, some (.builtin nw), _] => decide (C' = C) && (decide (nw = "ValueError.__new__") && (PySem.HandSPX.refsVE bm && (cd.hasDict && !cd.hasDel)))
    | _, _ => false)
  | _ => false
/-- x is the class of an own error over ValueError; its instances keep these names, which the class does not have -/
def excB (K : PySem.W.Frag) (x : Str) (ns : List Str) : Bool :=
  (match K.lookup (He.ga K x) with
    | some o => excObjB (He.ga K x) o
    | none => false) &&
  (He.eqO (PySem.W.findIn K (.ref (He.ga K x)) "__setattr__") (some (some (.builtin "object.__setattr__"))) &&
  (decide (PySem.W.subIn K (.ref (He.ga K x)) (.type "BaseException") = some true) &&
  (decide (PySem.W.typeIn K (.ref (He.ga K x)) = some (.type "type")) &&
  (PySem.W.keepIn K (.ref (He.ga K x)) &&
  (xfB K (He.ga K x) &&
  (He.eqO (PySem.W.findIn K (.ref (He.ga K x)) "__class__") (some (some (.builtin "object.__class__"))) &&
  (decide (PySem.W.specialIn K (.builtin "object.__class__") "__get__" = some (some (.builtin "getset_descriptor.__get__"))) &&
  (decide (PySem.W.takesIn K (.builtin "object.__class__") = some true) &&
  (decide (PySem.W.mroIn K (He.ga K x) (.type "object") = some true) &&
  ((ns.all fun f => He.eqO (PySem.W.findIn K (.ref (He.ga K x)) f) (some none)) &&
  (He.eqO (PySem.W.findIn K (.ref (He.ga K x)) "__init__") (some (some (.ref (He.ma K (He.ga K x) "__init__")))) &&
  decide (PySem.W.typeIn K (.ref (He.ma K (He.ga K x) "__init__")) = some (.type "function")))))))))))))
structure ExcFacts (K : PySem.W.Frag) (x : Str) (ns : List Str) : Prop where
  oex : OexC K (He.ga K x)
  xc : XcOk K (He.ga K x) ns
  init : PySem.W.findIn K (.ref (He.ga K x)) "__init__" = some (some (.ref (He.ma K (He.ga K x) "__init__")))
  ty : PySem.W.typeIn K (.ref (He.ma K (He.ga K x) "__init__")) = some (.type "function")
theorem excObj_ok {C : Addr} {o : Obj} (h : excObjB C o = true) : ∃ nm q N bs bm sn sub ab col dd k0 k1 k2 k3 k5, o = excClassObj nm q C N bs bm true sn sub ab col dd k0 k1 k2 k3 k5 "ValueError.__new__" ∧ PySem.HandSPX.refsVE bm = true := by
  unfold excObjB at h
  split at h
  · rename_i c dd cd sl
    obtain ⟨h1, h⟩ := ba h
    have hc := of_decide_eq_true h1
    split at h
    · rename_i C' bm k0 k1 k2 k3 nw k5 e1 e2
      obtain ⟨h2, h⟩ := ba h
      obtain ⟨h3, h⟩ := ba h
      obtain ⟨h4, h⟩ := ba h
      obtain ⟨h5, h6⟩ := ba h
      have e3 := of_decide_eq_true h2
      have e4 := of_decide_eq_true h3
      obtain ⟨nm, bs, mro, ns, qn, hd, sn, sb, ab, col, del⟩ := cd
      dsimp only at e1 h5 h6
      subst e3 e4 hc e1 h5
      have e5 : del = false := by
        cases del with
        | false => rfl
        | true => cases h6
      subst e5
      obtain ⟨l⟩ := sl
      dsimp only at e2
      subst e2
      exact ⟨nm, qn, ns, bs, bm, sn, sb, ab, col, dd, k0, k1, k2, k3, k5, rfl, h4⟩
    · cases h
  · cases h
theorem exc_ok {K : PySem.W.Frag} {x : Str} {ns : List Str} (h : excB K x ns = true) : ExcFacts K x ns := by
  unfold excB at h
  obtain ⟨h1, h⟩ := ba h
  obtain ⟨h2, h⟩ := ba h
  obtain ⟨h3, h⟩ := ba h
  obtain ⟨h4, h⟩ := ba h
  obtain ⟨h5, h⟩ := ba h
  obtain ⟨h6, h⟩ := ba h
  obtain ⟨h7, h⟩ := ba h
  obtain ⟨h8, h⟩ := ba h
  obtain ⟨h9, h⟩ := ba h
  obtain ⟨h10, h⟩ := ba h
  obtain ⟨h11, h⟩ := ba h
  obtain ⟨h12, h13⟩ := ba h
  have xf := xfB_ok h6
  cases q : K.lookup (He.ga K x) with
  | none => rw [q] at h1; cases h1
  | some o =>
    rw [q] at h1
    obtain ⟨nm, qn, N, bs, bm, sn, sub, ab, col, dd, k0, k1, k2, k3, k5, rfl, hb⟩ := excObj_ok (show excObjB (He.ga K x) o = true from h1)
    exact ⟨⟨⟨nm, qn, N, bs, bm, sn, sub, ab, col, dd, k0, k1, k2, k3, k5, q, hb⟩, He.eqO_ok h2, of_decide_eq_true h3, of_decide_eq_true h4, h5⟩,
      ⟨⟨xf.ga, xf.gg, xf.exC, xf.hdC, He.eqO_ok h7, of_decide_eq_true h8, of_decide_eq_true h9, of_decide_eq_true h10⟩, xf, fun f hf => He.eqO_ok (List.all_eq_true.mp h11 f hf)⟩,
      He.eqO_ok h12, of_decide_eq_true h13⟩
/-! ### __init__ that keeps its arguments -/
section
variable {P : Program} {w : World} {K : PySem.W.Frag} {mg : Str → Option Value} {base : Heap}
theorem init1 {x qual fld p : Str} {params : Arguments} {scope : Scope} {f C : Addr} {fd : FuncData} {a b c d : Pos} (F : FunD K x qual params [.Assign [.Attribute (.Name "self" a) fld b] (.Name p c) d] scope [] [] f fd) (S : FnScope ["self", p] ["self", p] scope) (hblt : ∀ x ∈ bltNames, mg x = none)
    (v1 : visB scope "self" = true) (v2 : visB scope p = true) (d2 : (p == ("__debug__" : Str)) = false) (d3 : (p == ("__classdict__" : Str)) = false) (T : OexC K C) (hno : PySem.W.findIn K (.ref C) fld = some none) :
    FnOk P w K mg base (L2.CX P w) 1 f fd ["self", p] (spI C [fld]) := by
  refine F.ok S (fun vs H Q E h => ?_) (fun cdv A outer s H vs Q E hr h => ?_)
  · obtain ⟨a, rest, rfl, hl, _⟩ := h
    simp [hl]
  · have env : Env' (cxOf (L2.CX P w) P w K mg base ["self", p] qual scope f cdv A outer s H E) (fun cls d _ H => E cls d H) 0 ["self", p] scope [] [] ⟨fun _ _ _ _ _ => False, fun _ => [], fun _ _ => none⟩ :=
      ⟨rfl, S.nd, fun x k h => .inl h, fun _ _ => rfl, rfl, hr, takes_of rfl rfl rfl rfl, passes_of rfl, hblt, (fun _ _ _ h => by cases h), S.kind, (fun _ _ h => by cases h)⟩
    refine ⟨_, pss_cons (ps_ost (pe_var (i := 0) rfl (env.vis v1)) (pe_var (i := 1) rfl (env.vis v2) d2 d3)) pss_nil, ?_⟩
    obtain ⟨a0, rest, rfl, hl, ha, hq⟩ := h
    match rest, hl with
    | [y], _ =>
      exact ⟨y, rfl, .ref a0, rfl, a0, C, rfl, T, hno, .inl ⟨ha, fun dx hd hda => hq dx hd hda⟩⟩
theorem upd_dup {H : Hp} {a d : Addr} {x y z : HO} (h : d ≠ a) : upd (upd (upd H d x) a y) d z = upd (upd H d z) a y := by
  funext b
  by_cases h1 : b = d
  · subst h1
    rw [upd_same, upd_ne h, upd_same]
  · rw [upd_ne h1]
    by_cases h2 : b = a
    · subst h2
      rw [upd_same, upd_same]
    · rw [upd_ne h2, upd_ne h2, upd_ne h1, upd_ne h1]
theorem init2 {x qual fld fld2 p p2 : Str} {params : Arguments} {scope : Scope} {f C : Addr} {fd : FuncData} {a b c d a' b' c' d' : Pos} (F : FunD K x qual params [.Assign [.Attribute (.Name "self" a) fld b] (.Name p c) d, .Assign [.Attribute (.Name "self" a') fld2 b'] (.Name p2 c') d'] scope [] [] f fd) (S : FnScope ["self", p, p2] ["self", p, p2] scope) (hblt : ∀ x ∈ bltNames, mg x = none)
    (v1 : visB scope "self" = true) (v2 : visB scope p = true) (d2 : (p == ("__debug__" : Str)) = false) (d3 : (p == ("__classdict__" : Str)) = false) (v3 : visB scope p2 = true) (e2 : (p2 == ("__debug__" : Str)) = false) (e3 : (p2 == ("__classdict__" : Str)) = false) (T : OexC K C) (hno : PySem.W.findIn K (.ref C) fld = some none) (hno2 : PySem.W.findIn K (.ref C) fld2 = some none) :
    FnOk P w K mg base (L2.CX P w) 1 f fd ["self", p, p2] (spI C [fld, fld2]) := by
  refine F.ok S (fun vs H Q E h => ?_) (fun cdv A outer s H vs Q E hr h => ?_)
  · obtain ⟨a, rest, rfl, hl, _⟩ := h
    simp [hl]
  · have env : Env' (cxOf (L2.CX P w) P w K mg base ["self", p, p2] qual scope f cdv A outer s H E) (fun cls d _ H => E cls d H) 0 ["self", p, p2] scope [] [] ⟨fun _ _ _ _ _ => False, fun _ => [], fun _ _ => none⟩ :=
      ⟨rfl, S.nd, fun x k h => .inl h, fun _ _ => rfl, rfl, hr, takes_of rfl rfl rfl rfl, passes_of rfl, hblt, (fun _ _ _ h => by cases h), S.kind, (fun _ _ h => by cases h)⟩
    refine ⟨_, pss_cons (ps_ost (pe_var (i := 0) rfl (env.vis v1)) (pe_var (i := 1) rfl (env.vis v2) d2 d3)) (pss_cons (ps_ost (pe_var (i := 0) rfl (env.vis v1)) (pe_var (i := 2) rfl (env.vis v3) e2 e3)) pss_nil), ?_⟩
    obtain ⟨a0, rest, rfl, hl, ha, hq⟩ := h
    match rest, hl with
    | [y, z], _ =>
      refine ⟨y, rfl, .ref a0, rfl, a0, C, rfl, T, hno, .inl ⟨ha, fun dx hd hda => ?_⟩⟩
      refine ⟨z, rfl, .ref a0, rfl, a0, C, rfl, T, hno2, .inr ⟨dx, [(fld, y)], upd_same, by rw [upd_ne hda, upd_same], by simp, ?_⟩⟩
      show Q .non _
      rw [upd_dup hda]
      exact hq dx hd hda
/-- the class may be called -/
theorem cls_ok {x qual : Str} {ns ps ks : List Str} {params : Arguments} {body : List Stmt} {scope : Scope} {fd : FuncData} {n lv : Nat} {S : Spec} (X : ExcFacts K x ns.reverse) (hm : mg x = some (.ref (He.ga K x))) (hd : (x == ("__debug__" : Str)) = false) (Fd : FunD K "__init__" qual params body scope [] [] (He.ma K (He.ga K x) "__init__") fd)
    (k : FnOk P w K mg base (L2.CX P w) 1 (He.ma K (He.ga K x) "__init__") fd ps (spI (He.ga K x) ns)) (hl : 2 ≤ lv) (hn : n ≤ 1000)
    (hb : ∀ (kV doc pm : Value) (an : Option Addr) (cdv ct : Value) (us ws : List Value), us.length = n + 1 → ws.length = ks.length → bindArgs (PySem.W.fnOf "__init__" qual params body scope .none kV doc pm an cdv ct) ⟨us, ks.zip ws⟩ = pure (ps.zip (us ++ ws.reverse)))
    (hS : ∀ as bs M Q E, bs.length = ks.length → S (as ++ bs) M Q E → as.length = n ∧ (as ++ bs.reverse).length = ns.length ∧ Q (.exc (He.ga K x) ns.reverse (as ++ bs.reverse).reverse) M) : CallOk P w K mg base lv x ks S := by
  refine ⟨.inr ⟨He.ga K x, He.ma K (He.ga K x) "__init__", fd, ps, ns, 1, n, fun us ws => us ++ ws.reverse, fun vs zs => vs ++ zs.reverse, fun as bs => as ++ bs.reverse, hm, X.oex, X.init, X.ty, hl, hn, hd, X.xc, k, ⟨fun s us ws KI h1 h2 => ?_, fun r1 r2 => r1.append r2.reverse⟩, fun κ M H as bs vs zs r1 r2 => r1.append r2.reverse, fun as bs M Q E hbs h => ?_⟩⟩
  · obtain ⟨oc, od, dV, kV, doc, pm, an, cdv, ct, osl, rfl, lk, hcd, hD, hK⟩ := Fd.ex
    rcases hD with ⟨_, rfl⟩ | ⟨e, _⟩
    · exact BindsTo.of_eq (hb kV doc pm an cdv ct us ws h1 h2)
    · exact absurd rfl e
  · obtain ⟨h1, h2, h3⟩ := hS as bs M Q E hbs h
    exact ⟨h1, as ++ bs.reverse, fun a => rfl, h2, h3⟩
end
end Bx

set_option Elab.async false
set_option linter.all false
set_option maxRecDepth 100000
set_option maxHeartbeats 4000000
/-! what many laws share: the bag, the next number, alike. -/
namespace Bx
open PySem PySem.Spec L2
abbrev g_law_bag : Nat := 12
abbrev g_law_next : Nat := 192
abbrev g_law_like : Nat := 162
def n_law_bag : List Str := ["script", "bag", "trail", "place", "cell", "left", "turn", "step"]
def f_law_bag : List (Nat × Str × List Str) := []
def tb_law_bag : List (Nat × Str) := []
def b_law_bag : Sxs :=
  (.cons (.set 1 (.lst false .nil))
  (.cons (.set 2 (.bin true .Add (.ci 1) (.bin true .Mod (.blt true "len" (.cons (.var 0) .nil)) (.ci 997))))
  (.cons (.for (.nm 3) (.r1 (.blt true "min" (.cons (.ci 63) (.cons (.blt true "len" (.cons (.var 0) .nil)) .nil))))
    (.cons (.set 4 (.blt true "int" (.cons (.ix (.var 0) (.var 3)) .nil)))
    (.cons (.set 2 (.bin true .Mod (.blt true "int" (.cons (.bin true .Add (.bin true .Add (.bin true .Mult (.var 2) (.ci 1009)) (.var 4)) (.bin true .Mult (.ci 3) (.var 3))) .nil)) (.ci 2147483563)))
    (.cons (.set 5 (.blt true "abs" (.cons (.var 4) .nil)))
    (.cons (.ite (.cmp .Lt (.var 5) (.bin true .Pow (.ci 10) (.ci 18)))
      (.cons (.for (.nm 6) (.r1 (.ci 5))
        (.cons (.set 7 (.bin true .Mod (.blt true "int" (.cons (.bin true .Add (.bin true .Add (.bin true .Mult (.var 2) (.ci 16807)) (.bin true .Mult (.var 5) (.bin true .Add (.var 6) (.ci 1)))) (.bin true .Mult (.ci 977) (.var 6))) .nil)) (.ci 2147483629)))
        (.cons (.ex (.mth "append" (.var 1) (.cons (.bin true .Mod (.blt true "int" (.cons (.bin true .Add (.bin true .Mult (.var 7) (.var 7)) (.bin true .Mult (.ci 31) (.var 6))) .nil)) (.ci 1000003)) .nil))) .nil))) .nil)
      (.cons (.for (.nm 6) (.r1 (.ci 60))
        (.cons (.ite (.cmp .Gt (.var 5) (.ci 0))
          (.cons (.ex (.mth "append" (.var 1) (.cons (.bin true .Mod (.blt true "int" (.cons (.var 5) .nil)) (.ci 1000000)) .nil)))
          (.cons (.set 5 (.bin true .FloorDiv (.var 5) (.ci 1000000))) .nil)) .nil) .nil)) .nil)) .nil)))))
  (.cons (.for (.nm 6) (.r2 (.blt true "len" (.cons (.var 1) .nil)) (.ci 300))
    (.cons (.set 2 (.bin true .Mod (.blt true "int" (.cons (.bin true .Add (.bin true .Add (.bin true .Mult (.var 2) (.ci 48271)) (.bin true .Mult (.ci 11) (.var 6))) (.ci 5)) .nil)) (.ci 2147483563)))
    (.cons (.ex (.mth "append" (.var 1) (.cons (.bin true .Mod (.blt true "int" (.cons (.bin true .Add (.bin true .FloorDiv (.bin true .Mult (.var 2) (.var 2)) (.ci 64)) (.var 6)) .nil)) (.ci 1000003)) .nil))) .nil)))
  (.cons (.ret (.rev false (.var 1))) .nil)))))
def n_law_next : List Str := ["bag", "limit"]
def f_law_next : List (Nat × Str × List Str) := []
def tb_law_next : List (Nat × Str) := []
def b_law_next : Sxs :=
  (.cons (.ite (.cmp .Eq (.blt true "len" (.cons (.var 0) .nil)) (.ci 0))
    (.cons (.ret (.ci 0)) .nil) .nil)
  (.cons (.ret (.bin true .Mod (.blt true "int" (.cons (.mth "pop" (.var 0) .nil) .nil)) (.var 1))) .nil))
def n_law_like : List Str := ["told", "due", "at"]
def f_law_like : List (Nat × Str × List Str) := [(g_law_like, "_law_like", [])]
def tb_law_like : List (Nat × Str) := []
def b_law_like : Sxs :=
  (.cons (.ite (.isi (.var 1) ["tuple"])
    (.cons (.ite (.or (.cons (.no (.isi (.var 0) ["tuple"])) (.cons (.cmp .NotEq (.blt true "len" (.cons (.var 0) .nil)) (.blt true "len" (.cons (.var 1) .nil))) .nil)))
      (.cons (.ret (.cb false)) .nil) .nil)
    (.cons (.for (.nm 2) (.r1 (.blt true "len" (.cons (.var 1) .nil)))
      (.cons (.ite (.no (.call g_law_like (.cons (.ix (.var 0) (.var 2)) (.cons (.ix (.var 1) (.var 2)) .nil))))
        (.cons (.ret (.cb false)) .nil) .nil) .nil))
    (.cons (.ret (.cb true)) .nil))) .nil)
  (.cons (.ite (.or (.cons (.isi (.var 1) ["bool"]) (.cons (.isi (.var 0) ["bool"]) .nil)))
    (.cons (.ret (.an (.cons (.isi (.var 1) ["bool"]) (.cons (.isi (.var 0) ["bool"]) (.cons (.cmp .Eq (.var 0) (.var 1)) .nil))))) .nil) .nil)
  (.cons (.ite (.isi (.var 1) ["int"])
    (.cons (.ret (.an (.cons (.isi (.var 0) ["int"]) (.cons (.cmp .Eq (.var 0) (.var 1)) .nil)))) .nil) .nil)
  (.cons (.ite (.isi (.var 1) ["str"])
    (.cons (.ret (.an (.cons (.isi (.var 0) ["str"]) (.cons (.cmp .Eq (.var 0) (.var 1)) .nil)))) .nil) .nil)
  (.cons (.ret (.an (.cons (.cmp .Is (.var 1) .cn) (.cons (.cmp .Is (.var 0) .cn) .nil)))) .nil)))))
variable {Γ : Gm}
theorem nums_snoc (bs : List Int) (x : Int) : nums bs ++ [.int x] = nums (bs ++ [x]) := by unfold nums; rw [List.map_append]; rfl
theorem nums_rev (bs : List Int) : (nums bs).reverse = nums bs.reverse := by unfold nums; rw [List.map_reverse]
theorem put_none {M : Mp} {a b : Addr} {o : O} (h : put M a o b = none) : b ≠ a ∧ M b = none := by
  unfold put at h
  split at h
  · cases h
  · exact ⟨by assumption, h⟩
theorem cmul_l {i j : Int} (h0 : 0 ≤ i) (h : i < 2 ^ 64) : CMul i j := .inl ⟨by omega, h⟩
theorem cmul_r {i j : Int} (h0 : 0 ≤ j) (h : j < 2 ^ 64) : CMul i j := .inr ⟨by omega, h⟩
theorem rng0 (n : Nat) : ((List.range n).map fun k : Nat => D.int (k : Nat)) = (List.range n).map fun k : Nat => D.int ((0 + k : Nat) : Int) := by
  congr 1; funext k; congr 2; omega
def sp_law_bag : Spec := fun ds M Q _ => ∃ ns : List Int, ds = [.wl (nums ns)] ∧ ns.length ≤ 63 ∧ ∀ p bs, M p = none → Q (.obj p) (put M p (.lst (nums bs)))
def BagI (M : Mp) (p : Addr) (k : Nat) (M' : Mp) : Prop := ∃ bs : List Int, bs.length ≤ k ∧ M' = put M p (.lst (nums bs))
theorem w_law_bag {ds M Q E} (h : sp_law_bag ds M Q E) : wpB Γ b_law_bag (startD n_law_bag ds) M (Kret Q E) := by
  obtain ⟨ns, rfl, hl, hq⟩ := h
  show wpB Γ b_law_bag [some (.wl (nums ns)), none, none, none, none, none, none, none] M (Kret Q E)
  unfold b_law_bag
  ((try with_reducible refine nx_of ?_); simp only [↓B_one, ↓B_cons, ↓B_nil, ↓S_skip, ↓S_set, ↓S_unp, ↓S_par, ↓S_aug, ↓S_sto, ↓S_stg, ↓S_ex, ↓S_ret, ↓S_retn, ↓S_ite, ↓S_for, ↓S_whl, ↓S_brk, ↓S_cnt, ↓S_rais, ↓S_thru, ↓E_var, ↓look_0, ↓look_s, ↓E_ci, ↓E_cb, ↓E_cn, ↓E_cs, ↓E_bin, ↓E_un, ↓E_no, ↓E_an, ↓E_or, ↓E_cmp, ↓E_ch, ↓E_ife, ↓E_tup, ↓E_lst, ↓E_ix, ↓E_sl, ↓E_rev, ↓E_call, ↓E_callk, ↓E_blt, ↓E_mth, ↓E_ixc, ↓E_inc, ↓E_isi, ↓E_lrg, ↓E_lc, ↓E_fld, ↓E_isx, isW, fldW, isxW, N_exc, seq_rt, seq_bk, seq_ct, seq_ex, loop_rt, loop_bk, loop_ex, ret_nx, ret_rt', wpA, wpT, wpAnE, wpOrE, wpAnT, wpOrT, wpC, wpI, binW, addW, mulW, intW, CNo, CPos, CNN, unW, cmpW, eqW, ordW, ixW, B_len, B_int, B_abs, B_min, B_max, B_sum, B_tuple, B_list, lenW, int1W, absW, minW, maxW, sumW, tupleW, listW, augW, M_append, M_pop, ownL, stoW, getW, tgW, setAll, lrgW, partW, isCn, slW, revW, inW, truth, isAny, tyName, kit_NoneType_tuple, kit_NoneType_bool, kit_NoneType_int, kit_NoneType_str, kit_NoneType_list, kit_bool_tuple, kit_bool_bool, kit_bool_int, kit_bool_str, kit_bool_list, kit_int_tuple, kit_int_bool, kit_int_int, kit_int_str, kit_int_list, kit_str_tuple, kit_str_bool, kit_str_int, kit_str_str, kit_str_list, kit_tuple_tuple, kit_tuple_bool, kit_tuple_int, kit_tuple_str, kit_tuple_list, kit_list_tuple, kit_list_bool, kit_list_int, kit_list_str, kit_list_list, N_non, N_bl, N_int, N_str, N_tup, N_rl, N_wl, N_obj, I_tup, I_rl, I_wl, I_obj, LL_rl, LL_obj, O.xs, newL, wipeD, List.getElem?_cons_zero, List.getElem?_cons_succ, List.getElem?_nil, List.set_cons_zero, List.set_cons_succ, Option.some.injEq, exists_and_left, exists_eq', exists_eq, exists_eq_left', exists_eq_left, true_and, and_true, Bool.not_true, Bool.not_false, reduceCtorEq, ite_true, ite_false, if_true, if_false, String.reduceEq, D.int.injEq, D.bl.injEq, D.tup.injEq, D.rl.injEq, D.wl.injEq, D.obj.injEq, D.str.injEq, forall_const, Option.map_some, List.cons_append, List.nil_append, List.length_cons, List.length_nil, len_nums]; repeat (with_reducible refine nx_of ?_; simp only [↓B_one, ↓B_cons, ↓B_nil, ↓S_skip, ↓S_set, ↓S_unp, ↓S_par, ↓S_aug, ↓S_sto, ↓S_stg, ↓S_ex, ↓S_ret, ↓S_retn, ↓S_ite, ↓S_for, ↓S_whl, ↓S_brk, ↓S_cnt, ↓S_rais, ↓S_thru, ↓E_var, ↓look_0, ↓look_s, ↓E_ci, ↓E_cb, ↓E_cn, ↓E_cs, ↓E_bin, ↓E_un, ↓E_no, ↓E_an, ↓E_or, ↓E_cmp, ↓E_ch, ↓E_ife, ↓E_tup, ↓E_lst, ↓E_ix, ↓E_sl, ↓E_rev, ↓E_call, ↓E_callk, ↓E_blt, ↓E_mth, ↓E_ixc, ↓E_inc, ↓E_isi, ↓E_lrg, ↓E_lc, ↓E_fld, ↓E_isx, isW, fldW, isxW, N_exc, seq_rt, seq_bk, seq_ct, seq_ex, loop_rt, loop_bk, loop_ex, ret_nx, ret_rt', wpA, wpT, wpAnE, wpOrE, wpAnT, wpOrT, wpC, wpI, binW, addW, mulW, intW, CNo, CPos, CNN, unW, cmpW, eqW, ordW, ixW, B_len, B_int, B_abs, B_min, B_max, B_sum, B_tuple, B_list, lenW, int1W, absW, minW, maxW, sumW, tupleW, listW, augW, M_append, M_pop, ownL, stoW, getW, tgW, setAll, lrgW, partW, isCn, slW, revW, inW, truth, isAny, tyName, kit_NoneType_tuple, kit_NoneType_bool, kit_NoneType_int, kit_NoneType_str, kit_NoneType_list, kit_bool_tuple, kit_bool_bool, kit_bool_int, kit_bool_str, kit_bool_list, kit_int_tuple, kit_int_bool, kit_int_int, kit_int_str, kit_int_list, kit_str_tuple, kit_str_bool, kit_str_int, kit_str_str, kit_str_list, kit_tuple_tuple, kit_tuple_bool, kit_tuple_int, kit_tuple_str, kit_tuple_list, kit_list_tuple, kit_list_bool, kit_list_int, kit_list_str, kit_list_list, N_non, N_bl, N_int, N_str, N_tup, N_rl, N_wl, N_obj, I_tup, I_rl, I_wl, I_obj, LL_rl, LL_obj, O.xs, newL, wipeD, List.getElem?_cons_zero, List.getElem?_cons_succ, List.getElem?_nil, List.set_cons_zero, List.set_cons_succ, Option.some.injEq, exists_and_left, exists_eq', exists_eq, exists_eq_left', exists_eq_left, true_and, and_true, Bool.not_true, Bool.not_false, reduceCtorEq, ite_true, ite_false, if_true, if_false, String.reduceEq, D.int.injEq, D.bl.injEq, D.tup.injEq, D.rl.injEq, D.wl.injEq, D.obj.injEq, D.str.injEq, forall_const, Option.map_some, List.cons_append, List.nil_append, List.length_cons, List.length_nil, len_nums]))
  refine ⟨by unfold big; omega, fun p hp => ?_⟩
  have hm : min 63 (ns.length : Int) = ((ns.length : Nat) : Int) := by omega
  have e0 : (if ((ns.length : Nat) : Int) < 63 then ((ns.length : Nat) : Int) else 63) = ((ns.length : Nat) : Int) := by split <;> omega
  ((try with_reducible refine nx_of ?_); simp only [↓B_one, ↓B_cons, ↓B_nil, ↓S_skip, ↓S_set, ↓S_unp, ↓S_par, ↓S_aug, ↓S_sto, ↓S_stg, ↓S_ex, ↓S_ret, ↓S_retn, ↓S_ite, ↓S_for, ↓S_whl, ↓S_brk, ↓S_cnt, ↓S_rais, ↓S_thru, ↓E_var, ↓look_0, ↓look_s, ↓E_ci, ↓E_cb, ↓E_cn, ↓E_cs, ↓E_bin, ↓E_un, ↓E_no, ↓E_an, ↓E_or, ↓E_cmp, ↓E_ch, ↓E_ife, ↓E_tup, ↓E_lst, ↓E_ix, ↓E_sl, ↓E_rev, ↓E_call, ↓E_callk, ↓E_blt, ↓E_mth, ↓E_ixc, ↓E_inc, ↓E_isi, ↓E_lrg, ↓E_lc, ↓E_fld, ↓E_isx, isW, fldW, isxW, N_exc, seq_rt, seq_bk, seq_ct, seq_ex, loop_rt, loop_bk, loop_ex, ret_nx, ret_rt', wpA, wpT, wpAnE, wpOrE, wpAnT, wpOrT, wpC, wpI, binW, addW, mulW, intW, CNo, CPos, CNN, unW, cmpW, eqW, ordW, ixW, B_len, B_int, B_abs, B_min, B_max, B_sum, B_tuple, B_list, lenW, int1W, absW, minW, maxW, sumW, tupleW, listW, augW, M_append, M_pop, ownL, stoW, getW, tgW, setAll, lrgW, partW, isCn, slW, revW, inW, truth, isAny, tyName, kit_NoneType_tuple, kit_NoneType_bool, kit_NoneType_int, kit_NoneType_str, kit_NoneType_list, kit_bool_tuple, kit_bool_bool, kit_bool_int, kit_bool_str, kit_bool_list, kit_int_tuple, kit_int_bool, kit_int_int, kit_int_str, kit_int_list, kit_str_tuple, kit_str_bool, kit_str_int, kit_str_str, kit_str_list, kit_tuple_tuple, kit_tuple_bool, kit_tuple_int, kit_tuple_str, kit_tuple_list, kit_list_tuple, kit_list_bool, kit_list_int, kit_list_str, kit_list_list, N_non, N_bl, N_int, N_str, N_tup, N_rl, N_wl, N_obj, I_tup, I_rl, I_wl, I_obj, LL_rl, LL_obj, O.xs, newL, wipeD, List.getElem?_cons_zero, List.getElem?_cons_succ, List.getElem?_nil, List.set_cons_zero, List.set_cons_succ, Option.some.injEq, exists_and_left, exists_eq', exists_eq, exists_eq_left', exists_eq_left, true_and, and_true, Bool.not_true, Bool.not_false, reduceCtorEq, ite_true, ite_false, if_true, if_false, String.reduceEq, D.int.injEq, D.bl.injEq, D.tup.injEq, D.rl.injEq, D.wl.injEq, D.obj.injEq, D.str.injEq, forall_const, Option.map_some, List.cons_append, List.nil_append, List.length_cons, List.length_nil, len_nums, Int.toNat_natCast]; repeat (with_reducible refine nx_of ?_; simp only [↓B_one, ↓B_cons, ↓B_nil, ↓S_skip, ↓S_set, ↓S_unp, ↓S_par, ↓S_aug, ↓S_sto, ↓S_stg, ↓S_ex, ↓S_ret, ↓S_retn, ↓S_ite, ↓S_for, ↓S_whl, ↓S_brk, ↓S_cnt, ↓S_rais, ↓S_thru, ↓E_var, ↓look_0, ↓look_s, ↓E_ci, ↓E_cb, ↓E_cn, ↓E_cs, ↓E_bin, ↓E_un, ↓E_no, ↓E_an, ↓E_or, ↓E_cmp, ↓E_ch, ↓E_ife, ↓E_tup, ↓E_lst, ↓E_ix, ↓E_sl, ↓E_rev, ↓E_call, ↓E_callk, ↓E_blt, ↓E_mth, ↓E_ixc, ↓E_inc, ↓E_isi, ↓E_lrg, ↓E_lc, ↓E_fld, ↓E_isx, isW, fldW, isxW, N_exc, seq_rt, seq_bk, seq_ct, seq_ex, loop_rt, loop_bk, loop_ex, ret_nx, ret_rt', wpA, wpT, wpAnE, wpOrE, wpAnT, wpOrT, wpC, wpI, binW, addW, mulW, intW, CNo, CPos, CNN, unW, cmpW, eqW, ordW, ixW, B_len, B_int, B_abs, B_min, B_max, B_sum, B_tuple, B_list, lenW, int1W, absW, minW, maxW, sumW, tupleW, listW, augW, M_append, M_pop, ownL, stoW, getW, tgW, setAll, lrgW, partW, isCn, slW, revW, inW, truth, isAny, tyName, kit_NoneType_tuple, kit_NoneType_bool, kit_NoneType_int, kit_NoneType_str, kit_NoneType_list, kit_bool_tuple, kit_bool_bool, kit_bool_int, kit_bool_str, kit_bool_list, kit_int_tuple, kit_int_bool, kit_int_int, kit_int_str, kit_int_list, kit_str_tuple, kit_str_bool, kit_str_int, kit_str_str, kit_str_list, kit_tuple_tuple, kit_tuple_bool, kit_tuple_int, kit_tuple_str, kit_tuple_list, kit_list_tuple, kit_list_bool, kit_list_int, kit_list_str, kit_list_list, N_non, N_bl, N_int, N_str, N_tup, N_rl, N_wl, N_obj, I_tup, I_rl, I_wl, I_obj, LL_rl, LL_obj, O.xs, newL, wipeD, List.getElem?_cons_zero, List.getElem?_cons_succ, List.getElem?_nil, List.set_cons_zero, List.set_cons_succ, Option.some.injEq, exists_and_left, exists_eq', exists_eq, exists_eq_left', exists_eq_left, true_and, and_true, Bool.not_true, Bool.not_false, reduceCtorEq, ite_true, ite_false, if_true, if_false, String.reduceEq, D.int.injEq, D.bl.injEq, D.tup.injEq, D.rl.injEq, D.wl.injEq, D.obj.injEq, D.str.injEq, forall_const, Option.map_some, List.cons_append, List.nil_append, List.length_cons, List.length_nil, len_nums, Int.toNat_natCast]))
  refine ⟨by decide, ?_⟩
  ((try with_reducible refine nx_of ?_); simp only [↓B_one, ↓B_cons, ↓B_nil, ↓S_skip, ↓S_set, ↓S_unp, ↓S_par, ↓S_aug, ↓S_sto, ↓S_stg, ↓S_ex, ↓S_ret, ↓S_retn, ↓S_ite, ↓S_for, ↓S_whl, ↓S_brk, ↓S_cnt, ↓S_rais, ↓S_thru, ↓E_var, ↓look_0, ↓look_s, ↓E_ci, ↓E_cb, ↓E_cn, ↓E_cs, ↓E_bin, ↓E_un, ↓E_no, ↓E_an, ↓E_or, ↓E_cmp, ↓E_ch, ↓E_ife, ↓E_tup, ↓E_lst, ↓E_ix, ↓E_sl, ↓E_rev, ↓E_call, ↓E_callk, ↓E_blt, ↓E_mth, ↓E_ixc, ↓E_inc, ↓E_isi, ↓E_lrg, ↓E_lc, ↓E_fld, ↓E_isx, isW, fldW, isxW, N_exc, seq_rt, seq_bk, seq_ct, seq_ex, loop_rt, loop_bk, loop_ex, ret_nx, ret_rt', wpA, wpT, wpAnE, wpOrE, wpAnT, wpOrT, wpC, wpI, binW, addW, mulW, intW, CNo, CPos, CNN, unW, cmpW, eqW, ordW, ixW, B_len, B_int, B_abs, B_min, B_max, B_sum, B_tuple, B_list, lenW, int1W, absW, minW, maxW, sumW, tupleW, listW, augW, M_append, M_pop, ownL, stoW, getW, tgW, setAll, lrgW, partW, isCn, slW, revW, inW, truth, isAny, tyName, kit_NoneType_tuple, kit_NoneType_bool, kit_NoneType_int, kit_NoneType_str, kit_NoneType_list, kit_bool_tuple, kit_bool_bool, kit_bool_int, kit_bool_str, kit_bool_list, kit_int_tuple, kit_int_bool, kit_int_int, kit_int_str, kit_int_list, kit_str_tuple, kit_str_bool, kit_str_int, kit_str_str, kit_str_list, kit_tuple_tuple, kit_tuple_bool, kit_tuple_int, kit_tuple_str, kit_tuple_list, kit_list_tuple, kit_list_bool, kit_list_int, kit_list_str, kit_list_list, N_non, N_bl, N_int, N_str, N_tup, N_rl, N_wl, N_obj, I_tup, I_rl, I_wl, I_obj, LL_rl, LL_obj, O.xs, newL, wipeD, List.getElem?_cons_zero, List.getElem?_cons_succ, List.getElem?_nil, List.set_cons_zero, List.set_cons_succ, Option.some.injEq, exists_and_left, exists_eq', exists_eq, exists_eq_left', exists_eq_left, true_and, and_true, Bool.not_true, Bool.not_false, reduceCtorEq, ite_true, ite_false, if_true, if_false, String.reduceEq, D.int.injEq, D.bl.injEq, D.tup.injEq, D.rl.injEq, D.wl.injEq, D.obj.injEq, D.str.injEq, forall_const, Option.map_some, List.cons_append, List.nil_append, List.length_cons, List.length_nil, len_nums, e0, Int.toNat_natCast]; repeat (with_reducible refine nx_of ?_; simp only [↓B_one, ↓B_cons, ↓B_nil, ↓S_skip, ↓S_set, ↓S_unp, ↓S_par, ↓S_aug, ↓S_sto, ↓S_stg, ↓S_ex, ↓S_ret, ↓S_retn, ↓S_ite, ↓S_for, ↓S_whl, ↓S_brk, ↓S_cnt, ↓S_rais, ↓S_thru, ↓E_var, ↓look_0, ↓look_s, ↓E_ci, ↓E_cb, ↓E_cn, ↓E_cs, ↓E_bin, ↓E_un, ↓E_no, ↓E_an, ↓E_or, ↓E_cmp, ↓E_ch, ↓E_ife, ↓E_tup, ↓E_lst, ↓E_ix, ↓E_sl, ↓E_rev, ↓E_call, ↓E_callk, ↓E_blt, ↓E_mth, ↓E_ixc, ↓E_inc, ↓E_isi, ↓E_lrg, ↓E_lc, ↓E_fld, ↓E_isx, isW, fldW, isxW, N_exc, seq_rt, seq_bk, seq_ct, seq_ex, loop_rt, loop_bk, loop_ex, ret_nx, ret_rt', wpA, wpT, wpAnE, wpOrE, wpAnT, wpOrT, wpC, wpI, binW, addW, mulW, intW, CNo, CPos, CNN, unW, cmpW, eqW, ordW, ixW, B_len, B_int, B_abs, B_min, B_max, B_sum, B_tuple, B_list, lenW, int1W, absW, minW, maxW, sumW, tupleW, listW, augW, M_append, M_pop, ownL, stoW, getW, tgW, setAll, lrgW, partW, isCn, slW, revW, inW, truth, isAny, tyName, kit_NoneType_tuple, kit_NoneType_bool, kit_NoneType_int, kit_NoneType_str, kit_NoneType_list, kit_bool_tuple, kit_bool_bool, kit_bool_int, kit_bool_str, kit_bool_list, kit_int_tuple, kit_int_bool, kit_int_int, kit_int_str, kit_int_list, kit_str_tuple, kit_str_bool, kit_str_int, kit_str_str, kit_str_list, kit_tuple_tuple, kit_tuple_bool, kit_tuple_int, kit_tuple_str, kit_tuple_list, kit_list_tuple, kit_list_bool, kit_list_int, kit_list_str, kit_list_list, N_non, N_bl, N_int, N_str, N_tup, N_rl, N_wl, N_obj, I_tup, I_rl, I_wl, I_obj, LL_rl, LL_obj, O.xs, newL, wipeD, List.getElem?_cons_zero, List.getElem?_cons_succ, List.getElem?_nil, List.set_cons_zero, List.set_cons_succ, Option.some.injEq, exists_and_left, exists_eq', exists_eq, exists_eq_left', exists_eq_left, true_and, and_true, Bool.not_true, Bool.not_false, reduceCtorEq, ite_true, ite_false, if_true, if_false, String.reduceEq, D.int.injEq, D.bl.injEq, D.tup.injEq, D.rl.injEq, D.wl.injEq, D.obj.injEq, D.str.injEq, forall_const, Option.map_some, List.cons_append, List.nil_append, List.length_cons, List.length_nil, len_nums, e0, Int.toNat_natCast]))
  refine ⟨by omega, by omega, ?_⟩
  rw [rng0]
  refine loop_range (fun i μ M' => BagI M p (60 * i) M' ∧ ∃ tr : Int, 0 ≤ tr ∧ tr < 2147483648 ∧ ∃ a b c d e, μ = [some (.wl (nums ns)), some (.obj p), some (.int tr), a, b, c, d, e])
    ⟨⟨[], by simp, rfl⟩, _, by omega, by omega, _, _, _, _, _, rfl⟩ ?_ ?_
  · rintro i μ M' hi ⟨⟨bs, hb, rfl⟩, tr, h0, h1, a, b, c, d, e, rfl⟩
    rw [Nat.zero_add]
    ((try with_reducible refine nx_of ?_); simp only [↓B_one, ↓B_cons, ↓B_nil, ↓S_skip, ↓S_set, ↓S_unp, ↓S_par, ↓S_aug, ↓S_sto, ↓S_stg, ↓S_ex, ↓S_ret, ↓S_retn, ↓S_ite, ↓S_for, ↓S_whl, ↓S_brk, ↓S_cnt, ↓S_rais, ↓S_thru, ↓E_var, ↓look_0, ↓look_s, ↓E_ci, ↓E_cb, ↓E_cn, ↓E_cs, ↓E_bin, ↓E_un, ↓E_no, ↓E_an, ↓E_or, ↓E_cmp, ↓E_ch, ↓E_ife, ↓E_tup, ↓E_lst, ↓E_ix, ↓E_sl, ↓E_rev, ↓E_call, ↓E_callk, ↓E_blt, ↓E_mth, ↓E_ixc, ↓E_inc, ↓E_isi, ↓E_lrg, ↓E_lc, ↓E_fld, ↓E_isx, isW, fldW, isxW, N_exc, seq_rt, seq_bk, seq_ct, seq_ex, loop_rt, loop_bk, loop_ex, ret_nx, ret_rt', wpA, wpT, wpAnE, wpOrE, wpAnT, wpOrT, wpC, wpI, binW, addW, mulW, intW, CNo, CPos, CNN, unW, cmpW, eqW, ordW, ixW, B_len, B_int, B_abs, B_min, B_max, B_sum, B_tuple, B_list, lenW, int1W, absW, minW, maxW, sumW, tupleW, listW, augW, M_append, M_pop, ownL, stoW, getW, tgW, setAll, lrgW, partW, isCn, slW, revW, inW, truth, isAny, tyName, kit_NoneType_tuple, kit_NoneType_bool, kit_NoneType_int, kit_NoneType_str, kit_NoneType_list, kit_bool_tuple, kit_bool_bool, kit_bool_int, kit_bool_str, kit_bool_list, kit_int_tuple, kit_int_bool, kit_int_int, kit_int_str, kit_int_list, kit_str_tuple, kit_str_bool, kit_str_int, kit_str_str, kit_str_list, kit_tuple_tuple, kit_tuple_bool, kit_tuple_int, kit_tuple_str, kit_tuple_list, kit_list_tuple, kit_list_bool, kit_list_int, kit_list_str, kit_list_list, N_non, N_bl, N_int, N_str, N_tup, N_rl, N_wl, N_obj, I_tup, I_rl, I_wl, I_obj, LL_rl, LL_obj, O.xs, newL, wipeD, List.getElem?_cons_zero, List.getElem?_cons_succ, List.getElem?_nil, List.set_cons_zero, List.set_cons_succ, Option.some.injEq, exists_and_left, exists_eq', exists_eq, exists_eq_left', exists_eq_left, true_and, and_true, Bool.not_true, Bool.not_false, reduceCtorEq, ite_true, ite_false, if_true, if_false, String.reduceEq, D.int.injEq, D.bl.injEq, D.tup.injEq, D.rl.injEq, D.wl.injEq, D.obj.injEq, D.str.injEq, forall_const, Option.map_some, List.cons_append, List.nil_append, List.length_cons, List.length_nil, at_nums hi]; repeat (with_reducible refine nx_of ?_; simp only [↓B_one, ↓B_cons, ↓B_nil, ↓S_skip, ↓S_set, ↓S_unp, ↓S_par, ↓S_aug, ↓S_sto, ↓S_stg, ↓S_ex, ↓S_ret, ↓S_retn, ↓S_ite, ↓S_for, ↓S_whl, ↓S_brk, ↓S_cnt, ↓S_rais, ↓S_thru, ↓E_var, ↓look_0, ↓look_s, ↓E_ci, ↓E_cb, ↓E_cn, ↓E_cs, ↓E_bin, ↓E_un, ↓E_no, ↓E_an, ↓E_or, ↓E_cmp, ↓E_ch, ↓E_ife, ↓E_tup, ↓E_lst, ↓E_ix, ↓E_sl, ↓E_rev, ↓E_call, ↓E_callk, ↓E_blt, ↓E_mth, ↓E_ixc, ↓E_inc, ↓E_isi, ↓E_lrg, ↓E_lc, ↓E_fld, ↓E_isx, isW, fldW, isxW, N_exc, seq_rt, seq_bk, seq_ct, seq_ex, loop_rt, loop_bk, loop_ex, ret_nx, ret_rt', wpA, wpT, wpAnE, wpOrE, wpAnT, wpOrT, wpC, wpI, binW, addW, mulW, intW, CNo, CPos, CNN, unW, cmpW, eqW, ordW, ixW, B_len, B_int, B_abs, B_min, B_max, B_sum, B_tuple, B_list, lenW, int1W, absW, minW, maxW, sumW, tupleW, listW, augW, M_append, M_pop, ownL, stoW, getW, tgW, setAll, lrgW, partW, isCn, slW, revW, inW, truth, isAny, tyName, kit_NoneType_tuple, kit_NoneType_bool, kit_NoneType_int, kit_NoneType_str, kit_NoneType_list, kit_bool_tuple, kit_bool_bool, kit_bool_int, kit_bool_str, kit_bool_list, kit_int_tuple, kit_int_bool, kit_int_int, kit_int_str, kit_int_list, kit_str_tuple, kit_str_bool, kit_str_int, kit_str_str, kit_str_list, kit_tuple_tuple, kit_tuple_bool, kit_tuple_int, kit_tuple_str, kit_tuple_list, kit_list_tuple, kit_list_bool, kit_list_int, kit_list_str, kit_list_list, N_non, N_bl, N_int, N_str, N_tup, N_rl, N_wl, N_obj, I_tup, I_rl, I_wl, I_obj, LL_rl, LL_obj, O.xs, newL, wipeD, List.getElem?_cons_zero, List.getElem?_cons_succ, List.getElem?_nil, List.set_cons_zero, List.set_cons_succ, Option.some.injEq, exists_and_left, exists_eq', exists_eq, exists_eq_left', exists_eq_left, true_and, and_true, Bool.not_true, Bool.not_false, reduceCtorEq, ite_true, ite_false, if_true, if_false, String.reduceEq, D.int.injEq, D.bl.injEq, D.tup.injEq, D.rl.injEq, D.wl.injEq, D.obj.injEq, D.str.injEq, forall_const, Option.map_some, List.cons_append, List.nil_append, List.length_cons, List.length_nil, at_nums hi]))
    refine ⟨cmul_r (by omega) (by omega), cmul_l (by omega) (by omega), by omega, ?_⟩
    generalize hT : (tr * 1009 + T ns i + 3 * (i : Int)) % 2147483563 = tr2
    have h2 : 0 ≤ tr2 ∧ tr2 < 2147483648 := by omega
    ((try with_reducible refine nx_of ?_); simp only [↓B_one, ↓B_cons, ↓B_nil, ↓S_skip, ↓S_set, ↓S_unp, ↓S_par, ↓S_aug, ↓S_sto, ↓S_stg, ↓S_ex, ↓S_ret, ↓S_retn, ↓S_ite, ↓S_for, ↓S_whl, ↓S_brk, ↓S_cnt, ↓S_rais, ↓S_thru, ↓E_var, ↓look_0, ↓look_s, ↓E_ci, ↓E_cb, ↓E_cn, ↓E_cs, ↓E_bin, ↓E_un, ↓E_no, ↓E_an, ↓E_or, ↓E_cmp, ↓E_ch, ↓E_ife, ↓E_tup, ↓E_lst, ↓E_ix, ↓E_sl, ↓E_rev, ↓E_call, ↓E_callk, ↓E_blt, ↓E_mth, ↓E_ixc, ↓E_inc, ↓E_isi, ↓E_lrg, ↓E_lc, ↓E_fld, ↓E_isx, isW, fldW, isxW, N_exc, seq_rt, seq_bk, seq_ct, seq_ex, loop_rt, loop_bk, loop_ex, ret_nx, ret_rt', wpA, wpT, wpAnE, wpOrE, wpAnT, wpOrT, wpC, wpI, binW, addW, mulW, intW, CNo, CPos, CNN, unW, cmpW, eqW, ordW, ixW, B_len, B_int, B_abs, B_min, B_max, B_sum, B_tuple, B_list, lenW, int1W, absW, minW, maxW, sumW, tupleW, listW, augW, M_append, M_pop, ownL, stoW, getW, tgW, setAll, lrgW, partW, isCn, slW, revW, inW, truth, isAny, tyName, kit_NoneType_tuple, kit_NoneType_bool, kit_NoneType_int, kit_NoneType_str, kit_NoneType_list, kit_bool_tuple, kit_bool_bool, kit_bool_int, kit_bool_str, kit_bool_list, kit_int_tuple, kit_int_bool, kit_int_int, kit_int_str, kit_int_list, kit_str_tuple, kit_str_bool, kit_str_int, kit_str_str, kit_str_list, kit_tuple_tuple, kit_tuple_bool, kit_tuple_int, kit_tuple_str, kit_tuple_list, kit_list_tuple, kit_list_bool, kit_list_int, kit_list_str, kit_list_list, N_non, N_bl, N_int, N_str, N_tup, N_rl, N_wl, N_obj, I_tup, I_rl, I_wl, I_obj, LL_rl, LL_obj, O.xs, newL, wipeD, List.getElem?_cons_zero, List.getElem?_cons_succ, List.getElem?_nil, List.set_cons_zero, List.set_cons_succ, Option.some.injEq, exists_and_left, exists_eq', exists_eq, exists_eq_left', exists_eq_left, true_and, and_true, Bool.not_true, Bool.not_false, reduceCtorEq, ite_true, ite_false, if_true, if_false, String.reduceEq, D.int.injEq, D.bl.injEq, D.tup.injEq, D.rl.injEq, D.wl.injEq, D.obj.injEq, D.str.injEq, forall_const, Option.map_some, List.cons_append, List.nil_append, List.length_cons, List.length_nil]; repeat (with_reducible refine nx_of ?_; simp only [↓B_one, ↓B_cons, ↓B_nil, ↓S_skip, ↓S_set, ↓S_unp, ↓S_par, ↓S_aug, ↓S_sto, ↓S_stg, ↓S_ex, ↓S_ret, ↓S_retn, ↓S_ite, ↓S_for, ↓S_whl, ↓S_brk, ↓S_cnt, ↓S_rais, ↓S_thru, ↓E_var, ↓look_0, ↓look_s, ↓E_ci, ↓E_cb, ↓E_cn, ↓E_cs, ↓E_bin, ↓E_un, ↓E_no, ↓E_an, ↓E_or, ↓E_cmp, ↓E_ch, ↓E_ife, ↓E_tup, ↓E_lst, ↓E_ix, ↓E_sl, ↓E_rev, ↓E_call, ↓E_callk, ↓E_blt, ↓E_mth, ↓E_ixc, ↓E_inc, ↓E_isi, ↓E_lrg, ↓E_lc, ↓E_fld, ↓E_isx, isW, fldW, isxW, N_exc, seq_rt, seq_bk, seq_ct, seq_ex, loop_rt, loop_bk, loop_ex, ret_nx, ret_rt', wpA, wpT, wpAnE, wpOrE, wpAnT, wpOrT, wpC, wpI, binW, addW, mulW, intW, CNo, CPos, CNN, unW, cmpW, eqW, ordW, ixW, B_len, B_int, B_abs, B_min, B_max, B_sum, B_tuple, B_list, lenW, int1W, absW, minW, maxW, sumW, tupleW, listW, augW, M_append, M_pop, ownL, stoW, getW, tgW, setAll, lrgW, partW, isCn, slW, revW, inW, truth, isAny, tyName, kit_NoneType_tuple, kit_NoneType_bool, kit_NoneType_int, kit_NoneType_str, kit_NoneType_list, kit_bool_tuple, kit_bool_bool, kit_bool_int, kit_bool_str, kit_bool_list, kit_int_tuple, kit_int_bool, kit_int_int, kit_int_str, kit_int_list, kit_str_tuple, kit_str_bool, kit_str_int, kit_str_str, kit_str_list, kit_tuple_tuple, kit_tuple_bool, kit_tuple_int, kit_tuple_str, kit_tuple_list, kit_list_tuple, kit_list_bool, kit_list_int, kit_list_str, kit_list_list, N_non, N_bl, N_int, N_str, N_tup, N_rl, N_wl, N_obj, I_tup, I_rl, I_wl, I_obj, LL_rl, LL_obj, O.xs, newL, wipeD, List.getElem?_cons_zero, List.getElem?_cons_succ, List.getElem?_nil, List.set_cons_zero, List.set_cons_succ, Option.some.injEq, exists_and_left, exists_eq', exists_eq, exists_eq_left', exists_eq_left, true_and, and_true, Bool.not_true, Bool.not_false, reduceCtorEq, ite_true, ite_false, if_true, if_false, String.reduceEq, D.int.injEq, D.bl.injEq, D.tup.injEq, D.rl.injEq, D.wl.injEq, D.obj.injEq, D.str.injEq, forall_const, Option.map_some, List.cons_append, List.nil_append, List.length_cons, List.length_nil]))
    generalize (if T ns i < 0 then -T ns i else T ns i) = left
    refine ⟨⟨by decide, by decide, by decide⟩, ?_⟩
    by_cases c : left < 10 ^ (18 : Int).toNat
    · simp only [c, decide_true]
      refine ⟨by decide, by decide, ?_⟩
      have q0 := rng0
      rw [rng0]
      refine loop_range (fun j μ M' => BagI M p (60 * i + j) M' ∧ ∃ d e, μ = [some (.wl (nums ns)), some (.obj p), some (.int tr2), some (.int (i : Nat)), some (.int (T ns i)), some (.int left), d, e]) ⟨⟨bs, by omega, rfl⟩, _, _, rfl⟩ ?_ ?_
      · rintro j μ M' hj ⟨⟨bs, hb, rfl⟩, d, e, rfl⟩
        have hj : j < 5 := hj
        rw [Nat.zero_add]
        ((try with_reducible refine nx_of ?_); simp only [↓B_one, ↓B_cons, ↓B_nil, ↓S_skip, ↓S_set, ↓S_unp, ↓S_par, ↓S_aug, ↓S_sto, ↓S_stg, ↓S_ex, ↓S_ret, ↓S_retn, ↓S_ite, ↓S_for, ↓S_whl, ↓S_brk, ↓S_cnt, ↓S_rais, ↓S_thru, ↓E_var, ↓look_0, ↓look_s, ↓E_ci, ↓E_cb, ↓E_cn, ↓E_cs, ↓E_bin, ↓E_un, ↓E_no, ↓E_an, ↓E_or, ↓E_cmp, ↓E_ch, ↓E_ife, ↓E_tup, ↓E_lst, ↓E_ix, ↓E_sl, ↓E_rev, ↓E_call, ↓E_callk, ↓E_blt, ↓E_mth, ↓E_ixc, ↓E_inc, ↓E_isi, ↓E_lrg, ↓E_lc, ↓E_fld, ↓E_isx, isW, fldW, isxW, N_exc, seq_rt, seq_bk, seq_ct, seq_ex, loop_rt, loop_bk, loop_ex, ret_nx, ret_rt', wpA, wpT, wpAnE, wpOrE, wpAnT, wpOrT, wpC, wpI, binW, addW, mulW, intW, CNo, CPos, CNN, unW, cmpW, eqW, ordW, ixW, B_len, B_int, B_abs, B_min, B_max, B_sum, B_tuple, B_list, lenW, int1W, absW, minW, maxW, sumW, tupleW, listW, augW, M_append, M_pop, ownL, stoW, getW, tgW, setAll, lrgW, partW, isCn, slW, revW, inW, truth, isAny, tyName, kit_NoneType_tuple, kit_NoneType_bool, kit_NoneType_int, kit_NoneType_str, kit_NoneType_list, kit_bool_tuple, kit_bool_bool, kit_bool_int, kit_bool_str, kit_bool_list, kit_int_tuple, kit_int_bool, kit_int_int, kit_int_str, kit_int_list, kit_str_tuple, kit_str_bool, kit_str_int, kit_str_str, kit_str_list, kit_tuple_tuple, kit_tuple_bool, kit_tuple_int, kit_tuple_str, kit_tuple_list, kit_list_tuple, kit_list_bool, kit_list_int, kit_list_str, kit_list_list, N_non, N_bl, N_int, N_str, N_tup, N_rl, N_wl, N_obj, I_tup, I_rl, I_wl, I_obj, LL_rl, LL_obj, O.xs, newL, wipeD, List.getElem?_cons_zero, List.getElem?_cons_succ, List.getElem?_nil, List.set_cons_zero, List.set_cons_succ, Option.some.injEq, exists_and_left, exists_eq', exists_eq, exists_eq_left', exists_eq_left, true_and, and_true, Bool.not_true, Bool.not_false, reduceCtorEq, ite_true, ite_false, if_true, if_false, String.reduceEq, D.int.injEq, D.bl.injEq, D.tup.injEq, D.rl.injEq, D.wl.injEq, D.obj.injEq, D.str.injEq, forall_const, Option.map_some, List.cons_append, List.nil_append, List.length_cons, List.length_nil]; repeat (with_reducible refine nx_of ?_; simp only [↓B_one, ↓B_cons, ↓B_nil, ↓S_skip, ↓S_set, ↓S_unp, ↓S_par, ↓S_aug, ↓S_sto, ↓S_stg, ↓S_ex, ↓S_ret, ↓S_retn, ↓S_ite, ↓S_for, ↓S_whl, ↓S_brk, ↓S_cnt, ↓S_rais, ↓S_thru, ↓E_var, ↓look_0, ↓look_s, ↓E_ci, ↓E_cb, ↓E_cn, ↓E_cs, ↓E_bin, ↓E_un, ↓E_no, ↓E_an, ↓E_or, ↓E_cmp, ↓E_ch, ↓E_ife, ↓E_tup, ↓E_lst, ↓E_ix, ↓E_sl, ↓E_rev, ↓E_call, ↓E_callk, ↓E_blt, ↓E_mth, ↓E_ixc, ↓E_inc, ↓E_isi, ↓E_lrg, ↓E_lc, ↓E_fld, ↓E_isx, isW, fldW, isxW, N_exc, seq_rt, seq_bk, seq_ct, seq_ex, loop_rt, loop_bk, loop_ex, ret_nx, ret_rt', wpA, wpT, wpAnE, wpOrE, wpAnT, wpOrT, wpC, wpI, binW, addW, mulW, intW, CNo, CPos, CNN, unW, cmpW, eqW, ordW, ixW, B_len, B_int, B_abs, B_min, B_max, B_sum, B_tuple, B_list, lenW, int1W, absW, minW, maxW, sumW, tupleW, listW, augW, M_append, M_pop, ownL, stoW, getW, tgW, setAll, lrgW, partW, isCn, slW, revW, inW, truth, isAny, tyName, kit_NoneType_tuple, kit_NoneType_bool, kit_NoneType_int, kit_NoneType_str, kit_NoneType_list, kit_bool_tuple, kit_bool_bool, kit_bool_int, kit_bool_str, kit_bool_list, kit_int_tuple, kit_int_bool, kit_int_int, kit_int_str, kit_int_list, kit_str_tuple, kit_str_bool, kit_str_int, kit_str_str, kit_str_list, kit_tuple_tuple, kit_tuple_bool, kit_tuple_int, kit_tuple_str, kit_tuple_list, kit_list_tuple, kit_list_bool, kit_list_int, kit_list_str, kit_list_list, N_non, N_bl, N_int, N_str, N_tup, N_rl, N_wl, N_obj, I_tup, I_rl, I_wl, I_obj, LL_rl, LL_obj, O.xs, newL, wipeD, List.getElem?_cons_zero, List.getElem?_cons_succ, List.getElem?_nil, List.set_cons_zero, List.set_cons_succ, Option.some.injEq, exists_and_left, exists_eq', exists_eq, exists_eq_left', exists_eq_left, true_and, and_true, Bool.not_true, Bool.not_false, reduceCtorEq, ite_true, ite_false, if_true, if_false, String.reduceEq, D.int.injEq, D.bl.injEq, D.tup.injEq, D.rl.injEq, D.wl.injEq, D.obj.injEq, D.str.injEq, forall_const, Option.map_some, List.cons_append, List.nil_append, List.length_cons, List.length_nil]))
        refine ⟨cmul_l (by omega) (by omega), cmul_r (by omega) (by omega), cmul_l (by omega) (by omega), by omega, ?_⟩
        generalize hS : (tr2 * 16807 + left * ((j : Int) + 1) + 977 * (j : Int)) % 2147483629 = st
        have h3 : 0 ≤ st ∧ st < 2147483648 := by omega
        ((try with_reducible refine nx_of ?_); simp only [↓B_one, ↓B_cons, ↓B_nil, ↓S_skip, ↓S_set, ↓S_unp, ↓S_par, ↓S_aug, ↓S_sto, ↓S_stg, ↓S_ex, ↓S_ret, ↓S_retn, ↓S_ite, ↓S_for, ↓S_whl, ↓S_brk, ↓S_cnt, ↓S_rais, ↓S_thru, ↓E_var, ↓look_0, ↓look_s, ↓E_ci, ↓E_cb, ↓E_cn, ↓E_cs, ↓E_bin, ↓E_un, ↓E_no, ↓E_an, ↓E_or, ↓E_cmp, ↓E_ch, ↓E_ife, ↓E_tup, ↓E_lst, ↓E_ix, ↓E_sl, ↓E_rev, ↓E_call, ↓E_callk, ↓E_blt, ↓E_mth, ↓E_ixc, ↓E_inc, ↓E_isi, ↓E_lrg, ↓E_lc, ↓E_fld, ↓E_isx, isW, fldW, isxW, N_exc, seq_rt, seq_bk, seq_ct, seq_ex, loop_rt, loop_bk, loop_ex, ret_nx, ret_rt', wpA, wpT, wpAnE, wpOrE, wpAnT, wpOrT, wpC, wpI, binW, addW, mulW, intW, CNo, CPos, CNN, unW, cmpW, eqW, ordW, ixW, B_len, B_int, B_abs, B_min, B_max, B_sum, B_tuple, B_list, lenW, int1W, absW, minW, maxW, sumW, tupleW, listW, augW, M_append, M_pop, ownL, stoW, getW, tgW, setAll, lrgW, partW, isCn, slW, revW, inW, truth, isAny, tyName, kit_NoneType_tuple, kit_NoneType_bool, kit_NoneType_int, kit_NoneType_str, kit_NoneType_list, kit_bool_tuple, kit_bool_bool, kit_bool_int, kit_bool_str, kit_bool_list, kit_int_tuple, kit_int_bool, kit_int_int, kit_int_str, kit_int_list, kit_str_tuple, kit_str_bool, kit_str_int, kit_str_str, kit_str_list, kit_tuple_tuple, kit_tuple_bool, kit_tuple_int, kit_tuple_str, kit_tuple_list, kit_list_tuple, kit_list_bool, kit_list_int, kit_list_str, kit_list_list, N_non, N_bl, N_int, N_str, N_tup, N_rl, N_wl, N_obj, I_tup, I_rl, I_wl, I_obj, LL_rl, LL_obj, O.xs, newL, wipeD, List.getElem?_cons_zero, List.getElem?_cons_succ, List.getElem?_nil, List.set_cons_zero, List.set_cons_succ, Option.some.injEq, exists_and_left, exists_eq', exists_eq, exists_eq_left', exists_eq_left, true_and, and_true, Bool.not_true, Bool.not_false, reduceCtorEq, ite_true, ite_false, if_true, if_false, String.reduceEq, D.int.injEq, D.bl.injEq, D.tup.injEq, D.rl.injEq, D.wl.injEq, D.obj.injEq, D.str.injEq, forall_const, Option.map_some, List.cons_append, List.nil_append, List.length_cons, List.length_nil, put_same, O.lst.injEq, put_put, len_nums, nums_snoc]; repeat (with_reducible refine nx_of ?_; simp only [↓B_one, ↓B_cons, ↓B_nil, ↓S_skip, ↓S_set, ↓S_unp, ↓S_par, ↓S_aug, ↓S_sto, ↓S_stg, ↓S_ex, ↓S_ret, ↓S_retn, ↓S_ite, ↓S_for, ↓S_whl, ↓S_brk, ↓S_cnt, ↓S_rais, ↓S_thru, ↓E_var, ↓look_0, ↓look_s, ↓E_ci, ↓E_cb, ↓E_cn, ↓E_cs, ↓E_bin, ↓E_un, ↓E_no, ↓E_an, ↓E_or, ↓E_cmp, ↓E_ch, ↓E_ife, ↓E_tup, ↓E_lst, ↓E_ix, ↓E_sl, ↓E_rev, ↓E_call, ↓E_callk, ↓E_blt, ↓E_mth, ↓E_ixc, ↓E_inc, ↓E_isi, ↓E_lrg, ↓E_lc, ↓E_fld, ↓E_isx, isW, fldW, isxW, N_exc, seq_rt, seq_bk, seq_ct, seq_ex, loop_rt, loop_bk, loop_ex, ret_nx, ret_rt', wpA, wpT, wpAnE, wpOrE, wpAnT, wpOrT, wpC, wpI, binW, addW, mulW, intW, CNo, CPos, CNN, unW, cmpW, eqW, ordW, ixW, B_len, B_int, B_abs, B_min, B_max, B_sum, B_tuple, B_list, lenW, int1W, absW, minW, maxW, sumW, tupleW, listW, augW, M_append, M_pop, ownL, stoW, getW, tgW, setAll, lrgW, partW, isCn, slW, revW, inW, truth, isAny, tyName, kit_NoneType_tuple, kit_NoneType_bool, kit_NoneType_int, kit_NoneType_str, kit_NoneType_list, kit_bool_tuple, kit_bool_bool, kit_bool_int, kit_bool_str, kit_bool_list, kit_int_tuple, kit_int_bool, kit_int_int, kit_int_str, kit_int_list, kit_str_tuple, kit_str_bool, kit_str_int, kit_str_str, kit_str_list, kit_tuple_tuple, kit_tuple_bool, kit_tuple_int, kit_tuple_str, kit_tuple_list, kit_list_tuple, kit_list_bool, kit_list_int, kit_list_str, kit_list_list, N_non, N_bl, N_int, N_str, N_tup, N_rl, N_wl, N_obj, I_tup, I_rl, I_wl, I_obj, LL_rl, LL_obj, O.xs, newL, wipeD, List.getElem?_cons_zero, List.getElem?_cons_succ, List.getElem?_nil, List.set_cons_zero, List.set_cons_succ, Option.some.injEq, exists_and_left, exists_eq', exists_eq, exists_eq_left', exists_eq_left, true_and, and_true, Bool.not_true, Bool.not_false, reduceCtorEq, ite_true, ite_false, if_true, if_false, String.reduceEq, D.int.injEq, D.bl.injEq, D.tup.injEq, D.rl.injEq, D.wl.injEq, D.obj.injEq, D.str.injEq, forall_const, Option.map_some, List.cons_append, List.nil_append, List.length_cons, List.length_nil, put_same, O.lst.injEq, put_put, len_nums, nums_snoc]))
        refine ⟨cmul_l (by omega) (by omega), cmul_l (by omega) (by omega), by omega, by unfold big; omega, ?_⟩
        exact ⟨_, .refl _, ⟨_, by simp; omega, rfl⟩, _, _, rfl⟩
      · rintro μ M' ⟨⟨bs, hb, rfl⟩, d, e, rfl⟩
        exact ⟨_, .refl _, ⟨bs, by have : Int.toNat 5 = 5 := rfl; omega, rfl⟩, tr2, h2.1, h2.2, _, _, _, _, _, rfl⟩
    · simp only [c, decide_false]
      refine ⟨by decide, by decide, ?_⟩
      have q0 := rng0
      rw [rng0]
      refine loop_range (fun j μ M' => BagI M p (60 * i + j) M' ∧ ∃ l d e, μ = [some (.wl (nums ns)), some (.obj p), some (.int tr2), some (.int (i : Nat)), some (.int (T ns i)), some (.int l), d, e]) ⟨⟨bs, by omega, rfl⟩, _, _, _, rfl⟩ ?_ ?_
      · rintro j μ M' hj ⟨⟨bs, hb, rfl⟩, l, d, e, rfl⟩
        have hj : j < 60 := hj
        rw [Nat.zero_add]
        ((try with_reducible refine nx_of ?_); simp only [↓B_one, ↓B_cons, ↓B_nil, ↓S_skip, ↓S_set, ↓S_unp, ↓S_par, ↓S_aug, ↓S_sto, ↓S_stg, ↓S_ex, ↓S_ret, ↓S_retn, ↓S_ite, ↓S_for, ↓S_whl, ↓S_brk, ↓S_cnt, ↓S_rais, ↓S_thru, ↓E_var, ↓look_0, ↓look_s, ↓E_ci, ↓E_cb, ↓E_cn, ↓E_cs, ↓E_bin, ↓E_un, ↓E_no, ↓E_an, ↓E_or, ↓E_cmp, ↓E_ch, ↓E_ife, ↓E_tup, ↓E_lst, ↓E_ix, ↓E_sl, ↓E_rev, ↓E_call, ↓E_callk, ↓E_blt, ↓E_mth, ↓E_ixc, ↓E_inc, ↓E_isi, ↓E_lrg, ↓E_lc, ↓E_fld, ↓E_isx, isW, fldW, isxW, N_exc, seq_rt, seq_bk, seq_ct, seq_ex, loop_rt, loop_bk, loop_ex, ret_nx, ret_rt', wpA, wpT, wpAnE, wpOrE, wpAnT, wpOrT, wpC, wpI, binW, addW, mulW, intW, CNo, CPos, CNN, unW, cmpW, eqW, ordW, ixW, B_len, B_int, B_abs, B_min, B_max, B_sum, B_tuple, B_list, lenW, int1W, absW, minW, maxW, sumW, tupleW, listW, augW, M_append, M_pop, ownL, stoW, getW, tgW, setAll, lrgW, partW, isCn, slW, revW, inW, truth, isAny, tyName, kit_NoneType_tuple, kit_NoneType_bool, kit_NoneType_int, kit_NoneType_str, kit_NoneType_list, kit_bool_tuple, kit_bool_bool, kit_bool_int, kit_bool_str, kit_bool_list, kit_int_tuple, kit_int_bool, kit_int_int, kit_int_str, kit_int_list, kit_str_tuple, kit_str_bool, kit_str_int, kit_str_str, kit_str_list, kit_tuple_tuple, kit_tuple_bool, kit_tuple_int, kit_tuple_str, kit_tuple_list, kit_list_tuple, kit_list_bool, kit_list_int, kit_list_str, kit_list_list, N_non, N_bl, N_int, N_str, N_tup, N_rl, N_wl, N_obj, I_tup, I_rl, I_wl, I_obj, LL_rl, LL_obj, O.xs, newL, wipeD, List.getElem?_cons_zero, List.getElem?_cons_succ, List.getElem?_nil, List.set_cons_zero, List.set_cons_succ, Option.some.injEq, exists_and_left, exists_eq', exists_eq, exists_eq_left', exists_eq_left, true_and, and_true, Bool.not_true, Bool.not_false, reduceCtorEq, ite_true, ite_false, if_true, if_false, String.reduceEq, D.int.injEq, D.bl.injEq, D.tup.injEq, D.rl.injEq, D.wl.injEq, D.obj.injEq, D.str.injEq, forall_const, Option.map_some, List.cons_append, List.nil_append, List.length_cons, List.length_nil]; repeat (with_reducible refine nx_of ?_; simp only [↓B_one, ↓B_cons, ↓B_nil, ↓S_skip, ↓S_set, ↓S_unp, ↓S_par, ↓S_aug, ↓S_sto, ↓S_stg, ↓S_ex, ↓S_ret, ↓S_retn, ↓S_ite, ↓S_for, ↓S_whl, ↓S_brk, ↓S_cnt, ↓S_rais, ↓S_thru, ↓E_var, ↓look_0, ↓look_s, ↓E_ci, ↓E_cb, ↓E_cn, ↓E_cs, ↓E_bin, ↓E_un, ↓E_no, ↓E_an, ↓E_or, ↓E_cmp, ↓E_ch, ↓E_ife, ↓E_tup, ↓E_lst, ↓E_ix, ↓E_sl, ↓E_rev, ↓E_call, ↓E_callk, ↓E_blt, ↓E_mth, ↓E_ixc, ↓E_inc, ↓E_isi, ↓E_lrg, ↓E_lc, ↓E_fld, ↓E_isx, isW, fldW, isxW, N_exc, seq_rt, seq_bk, seq_ct, seq_ex, loop_rt, loop_bk, loop_ex, ret_nx, ret_rt', wpA, wpT, wpAnE, wpOrE, wpAnT, wpOrT, wpC, wpI, binW, addW, mulW, intW, CNo, CPos, CNN, unW, cmpW, eqW, ordW, ixW, B_len, B_int, B_abs, B_min, B_max, B_sum, B_tuple, B_list, lenW, int1W, absW, minW, maxW, sumW, tupleW, listW, augW, M_append, M_pop, ownL, stoW, getW, tgW, setAll, lrgW, partW, isCn, slW, revW, inW, truth, isAny, tyName, kit_NoneType_tuple, kit_NoneType_bool, kit_NoneType_int, kit_NoneType_str, kit_NoneType_list, kit_bool_tuple, kit_bool_bool, kit_bool_int, kit_bool_str, kit_bool_list, kit_int_tuple, kit_int_bool, kit_int_int, kit_int_str, kit_int_list, kit_str_tuple, kit_str_bool, kit_str_int, kit_str_str, kit_str_list, kit_tuple_tuple, kit_tuple_bool, kit_tuple_int, kit_tuple_str, kit_tuple_list, kit_list_tuple, kit_list_bool, kit_list_int, kit_list_str, kit_list_list, N_non, N_bl, N_int, N_str, N_tup, N_rl, N_wl, N_obj, I_tup, I_rl, I_wl, I_obj, LL_rl, LL_obj, O.xs, newL, wipeD, List.getElem?_cons_zero, List.getElem?_cons_succ, List.getElem?_nil, List.set_cons_zero, List.set_cons_succ, Option.some.injEq, exists_and_left, exists_eq', exists_eq, exists_eq_left', exists_eq_left, true_and, and_true, Bool.not_true, Bool.not_false, reduceCtorEq, ite_true, ite_false, if_true, if_false, String.reduceEq, D.int.injEq, D.bl.injEq, D.tup.injEq, D.rl.injEq, D.wl.injEq, D.obj.injEq, D.str.injEq, forall_const, Option.map_some, List.cons_append, List.nil_append, List.length_cons, List.length_nil]))
        by_cases c : 0 < l
        · simp only [c, decide_true]
          ((try with_reducible refine nx_of ?_); simp only [↓B_one, ↓B_cons, ↓B_nil, ↓S_skip, ↓S_set, ↓S_unp, ↓S_par, ↓S_aug, ↓S_sto, ↓S_stg, ↓S_ex, ↓S_ret, ↓S_retn, ↓S_ite, ↓S_for, ↓S_whl, ↓S_brk, ↓S_cnt, ↓S_rais, ↓S_thru, ↓E_var, ↓look_0, ↓look_s, ↓E_ci, ↓E_cb, ↓E_cn, ↓E_cs, ↓E_bin, ↓E_un, ↓E_no, ↓E_an, ↓E_or, ↓E_cmp, ↓E_ch, ↓E_ife, ↓E_tup, ↓E_lst, ↓E_ix, ↓E_sl, ↓E_rev, ↓E_call, ↓E_callk, ↓E_blt, ↓E_mth, ↓E_ixc, ↓E_inc, ↓E_isi, ↓E_lrg, ↓E_lc, ↓E_fld, ↓E_isx, isW, fldW, isxW, N_exc, seq_rt, seq_bk, seq_ct, seq_ex, loop_rt, loop_bk, loop_ex, ret_nx, ret_rt', wpA, wpT, wpAnE, wpOrE, wpAnT, wpOrT, wpC, wpI, binW, addW, mulW, intW, CNo, CPos, CNN, unW, cmpW, eqW, ordW, ixW, B_len, B_int, B_abs, B_min, B_max, B_sum, B_tuple, B_list, lenW, int1W, absW, minW, maxW, sumW, tupleW, listW, augW, M_append, M_pop, ownL, stoW, getW, tgW, setAll, lrgW, partW, isCn, slW, revW, inW, truth, isAny, tyName, kit_NoneType_tuple, kit_NoneType_bool, kit_NoneType_int, kit_NoneType_str, kit_NoneType_list, kit_bool_tuple, kit_bool_bool, kit_bool_int, kit_bool_str, kit_bool_list, kit_int_tuple, kit_int_bool, kit_int_int, kit_int_str, kit_int_list, kit_str_tuple, kit_str_bool, kit_str_int, kit_str_str, kit_str_list, kit_tuple_tuple, kit_tuple_bool, kit_tuple_int, kit_tuple_str, kit_tuple_list, kit_list_tuple, kit_list_bool, kit_list_int, kit_list_str, kit_list_list, N_non, N_bl, N_int, N_str, N_tup, N_rl, N_wl, N_obj, I_tup, I_rl, I_wl, I_obj, LL_rl, LL_obj, O.xs, newL, wipeD, List.getElem?_cons_zero, List.getElem?_cons_succ, List.getElem?_nil, List.set_cons_zero, List.set_cons_succ, Option.some.injEq, exists_and_left, exists_eq', exists_eq, exists_eq_left', exists_eq_left, true_and, and_true, Bool.not_true, Bool.not_false, reduceCtorEq, ite_true, ite_false, if_true, if_false, String.reduceEq, D.int.injEq, D.bl.injEq, D.tup.injEq, D.rl.injEq, D.wl.injEq, D.obj.injEq, D.str.injEq, forall_const, Option.map_some, List.cons_append, List.nil_append, List.length_cons, List.length_nil, put_same, O.lst.injEq, put_put, len_nums, nums_snoc]; repeat (with_reducible refine nx_of ?_; simp only [↓B_one, ↓B_cons, ↓B_nil, ↓S_skip, ↓S_set, ↓S_unp, ↓S_par, ↓S_aug, ↓S_sto, ↓S_stg, ↓S_ex, ↓S_ret, ↓S_retn, ↓S_ite, ↓S_for, ↓S_whl, ↓S_brk, ↓S_cnt, ↓S_rais, ↓S_thru, ↓E_var, ↓look_0, ↓look_s, ↓E_ci, ↓E_cb, ↓E_cn, ↓E_cs, ↓E_bin, ↓E_un, ↓E_no, ↓E_an, ↓E_or, ↓E_cmp, ↓E_ch, ↓E_ife, ↓E_tup, ↓E_lst, ↓E_ix, ↓E_sl, ↓E_rev, ↓E_call, ↓E_callk, ↓E_blt, ↓E_mth, ↓E_ixc, ↓E_inc, ↓E_isi, ↓E_lrg, ↓E_lc, ↓E_fld, ↓E_isx, isW, fldW, isxW, N_exc, seq_rt, seq_bk, seq_ct, seq_ex, loop_rt, loop_bk, loop_ex, ret_nx, ret_rt', wpA, wpT, wpAnE, wpOrE, wpAnT, wpOrT, wpC, wpI, binW, addW, mulW, intW, CNo, CPos, CNN, unW, cmpW, eqW, ordW, ixW, B_len, B_int, B_abs, B_min, B_max, B_sum, B_tuple, B_list, lenW, int1W, absW, minW, maxW, sumW, tupleW, listW, augW, M_append, M_pop, ownL, stoW, getW, tgW, setAll, lrgW, partW, isCn, slW, revW, inW, truth, isAny, tyName, kit_NoneType_tuple, kit_NoneType_bool, kit_NoneType_int, kit_NoneType_str, kit_NoneType_list, kit_bool_tuple, kit_bool_bool, kit_bool_int, kit_bool_str, kit_bool_list, kit_int_tuple, kit_int_bool, kit_int_int, kit_int_str, kit_int_list, kit_str_tuple, kit_str_bool, kit_str_int, kit_str_str, kit_str_list, kit_tuple_tuple, kit_tuple_bool, kit_tuple_int, kit_tuple_str, kit_tuple_list, kit_list_tuple, kit_list_bool, kit_list_int, kit_list_str, kit_list_list, N_non, N_bl, N_int, N_str, N_tup, N_rl, N_wl, N_obj, I_tup, I_rl, I_wl, I_obj, LL_rl, LL_obj, O.xs, newL, wipeD, List.getElem?_cons_zero, List.getElem?_cons_succ, List.getElem?_nil, List.set_cons_zero, List.set_cons_succ, Option.some.injEq, exists_and_left, exists_eq', exists_eq, exists_eq_left', exists_eq_left, true_and, and_true, Bool.not_true, Bool.not_false, reduceCtorEq, ite_true, ite_false, if_true, if_false, String.reduceEq, D.int.injEq, D.bl.injEq, D.tup.injEq, D.rl.injEq, D.wl.injEq, D.obj.injEq, D.str.injEq, forall_const, Option.map_some, List.cons_append, List.nil_append, List.length_cons, List.length_nil, put_same, O.lst.injEq, put_put, len_nums, nums_snoc]))
          refine ⟨by omega, by unfold big; omega, ?_⟩
          ((try with_reducible refine nx_of ?_); simp only [↓B_one, ↓B_cons, ↓B_nil, ↓S_skip, ↓S_set, ↓S_unp, ↓S_par, ↓S_aug, ↓S_sto, ↓S_stg, ↓S_ex, ↓S_ret, ↓S_retn, ↓S_ite, ↓S_for, ↓S_whl, ↓S_brk, ↓S_cnt, ↓S_rais, ↓S_thru, ↓E_var, ↓look_0, ↓look_s, ↓E_ci, ↓E_cb, ↓E_cn, ↓E_cs, ↓E_bin, ↓E_un, ↓E_no, ↓E_an, ↓E_or, ↓E_cmp, ↓E_ch, ↓E_ife, ↓E_tup, ↓E_lst, ↓E_ix, ↓E_sl, ↓E_rev, ↓E_call, ↓E_callk, ↓E_blt, ↓E_mth, ↓E_ixc, ↓E_inc, ↓E_isi, ↓E_lrg, ↓E_lc, ↓E_fld, ↓E_isx, isW, fldW, isxW, N_exc, seq_rt, seq_bk, seq_ct, seq_ex, loop_rt, loop_bk, loop_ex, ret_nx, ret_rt', wpA, wpT, wpAnE, wpOrE, wpAnT, wpOrT, wpC, wpI, binW, addW, mulW, intW, CNo, CPos, CNN, unW, cmpW, eqW, ordW, ixW, B_len, B_int, B_abs, B_min, B_max, B_sum, B_tuple, B_list, lenW, int1W, absW, minW, maxW, sumW, tupleW, listW, augW, M_append, M_pop, ownL, stoW, getW, tgW, setAll, lrgW, partW, isCn, slW, revW, inW, truth, isAny, tyName, kit_NoneType_tuple, kit_NoneType_bool, kit_NoneType_int, kit_NoneType_str, kit_NoneType_list, kit_bool_tuple, kit_bool_bool, kit_bool_int, kit_bool_str, kit_bool_list, kit_int_tuple, kit_int_bool, kit_int_int, kit_int_str, kit_int_list, kit_str_tuple, kit_str_bool, kit_str_int, kit_str_str, kit_str_list, kit_tuple_tuple, kit_tuple_bool, kit_tuple_int, kit_tuple_str, kit_tuple_list, kit_list_tuple, kit_list_bool, kit_list_int, kit_list_str, kit_list_list, N_non, N_bl, N_int, N_str, N_tup, N_rl, N_wl, N_obj, I_tup, I_rl, I_wl, I_obj, LL_rl, LL_obj, O.xs, newL, wipeD, List.getElem?_cons_zero, List.getElem?_cons_succ, List.getElem?_nil, List.set_cons_zero, List.set_cons_succ, Option.some.injEq, exists_and_left, exists_eq', exists_eq, exists_eq_left', exists_eq_left, true_and, and_true, Bool.not_true, Bool.not_false, reduceCtorEq, ite_true, ite_false, if_true, if_false, String.reduceEq, D.int.injEq, D.bl.injEq, D.tup.injEq, D.rl.injEq, D.wl.injEq, D.obj.injEq, D.str.injEq, forall_const, Option.map_some, List.cons_append, List.nil_append, List.length_cons, List.length_nil]; repeat (with_reducible refine nx_of ?_; simp only [↓B_one, ↓B_cons, ↓B_nil, ↓S_skip, ↓S_set, ↓S_unp, ↓S_par, ↓S_aug, ↓S_sto, ↓S_stg, ↓S_ex, ↓S_ret, ↓S_retn, ↓S_ite, ↓S_for, ↓S_whl, ↓S_brk, ↓S_cnt, ↓S_rais, ↓S_thru, ↓E_var, ↓look_0, ↓look_s, ↓E_ci, ↓E_cb, ↓E_cn, ↓E_cs, ↓E_bin, ↓E_un, ↓E_no, ↓E_an, ↓E_or, ↓E_cmp, ↓E_ch, ↓E_ife, ↓E_tup, ↓E_lst, ↓E_ix, ↓E_sl, ↓E_rev, ↓E_call, ↓E_callk, ↓E_blt, ↓E_mth, ↓E_ixc, ↓E_inc, ↓E_isi, ↓E_lrg, ↓E_lc, ↓E_fld, ↓E_isx, isW, fldW, isxW, N_exc, seq_rt, seq_bk, seq_ct, seq_ex, loop_rt, loop_bk, loop_ex, ret_nx, ret_rt', wpA, wpT, wpAnE, wpOrE, wpAnT, wpOrT, wpC, wpI, binW, addW, mulW, intW, CNo, CPos, CNN, unW, cmpW, eqW, ordW, ixW, B_len, B_int, B_abs, B_min, B_max, B_sum, B_tuple, B_list, lenW, int1W, absW, minW, maxW, sumW, tupleW, listW, augW, M_append, M_pop, ownL, stoW, getW, tgW, setAll, lrgW, partW, isCn, slW, revW, inW, truth, isAny, tyName, kit_NoneType_tuple, kit_NoneType_bool, kit_NoneType_int, kit_NoneType_str, kit_NoneType_list, kit_bool_tuple, kit_bool_bool, kit_bool_int, kit_bool_str, kit_bool_list, kit_int_tuple, kit_int_bool, kit_int_int, kit_int_str, kit_int_list, kit_str_tuple, kit_str_bool, kit_str_int, kit_str_str, kit_str_list, kit_tuple_tuple, kit_tuple_bool, kit_tuple_int, kit_tuple_str, kit_tuple_list, kit_list_tuple, kit_list_bool, kit_list_int, kit_list_str, kit_list_list, N_non, N_bl, N_int, N_str, N_tup, N_rl, N_wl, N_obj, I_tup, I_rl, I_wl, I_obj, LL_rl, LL_obj, O.xs, newL, wipeD, List.getElem?_cons_zero, List.getElem?_cons_succ, List.getElem?_nil, List.set_cons_zero, List.set_cons_succ, Option.some.injEq, exists_and_left, exists_eq', exists_eq, exists_eq_left', exists_eq_left, true_and, and_true, Bool.not_true, Bool.not_false, reduceCtorEq, ite_true, ite_false, if_true, if_false, String.reduceEq, D.int.injEq, D.bl.injEq, D.tup.injEq, D.rl.injEq, D.wl.injEq, D.obj.injEq, D.str.injEq, forall_const, Option.map_some, List.cons_append, List.nil_append, List.length_cons, List.length_nil]))
          refine ⟨⟨by omega, by omega⟩, ?_⟩
          exact ⟨_, .refl _, ⟨_, by simp; omega, rfl⟩, _, _, _, rfl⟩
        · simp only [c, decide_false]
          exact ⟨_, .refl _, ⟨bs, by omega, rfl⟩, _, _, _, rfl⟩
      · rintro μ M' ⟨⟨bs, hb, rfl⟩, l, d, e, rfl⟩
        exact ⟨_, .refl _, ⟨bs, by have : Int.toNat 60 = 60 := rfl; omega, rfl⟩, tr2, h2.1, h2.2, _, _, _, _, _, rfl⟩
  · rintro μ M' ⟨⟨bs, hb, rfl⟩, tr, h0, h1, a, b, c, d, e, rfl⟩
    ((try with_reducible refine nx_of ?_); simp only [↓B_one, ↓B_cons, ↓B_nil, ↓S_skip, ↓S_set, ↓S_unp, ↓S_par, ↓S_aug, ↓S_sto, ↓S_stg, ↓S_ex, ↓S_ret, ↓S_retn, ↓S_ite, ↓S_for, ↓S_whl, ↓S_brk, ↓S_cnt, ↓S_rais, ↓S_thru, ↓E_var, ↓look_0, ↓look_s, ↓E_ci, ↓E_cb, ↓E_cn, ↓E_cs, ↓E_bin, ↓E_un, ↓E_no, ↓E_an, ↓E_or, ↓E_cmp, ↓E_ch, ↓E_ife, ↓E_tup, ↓E_lst, ↓E_ix, ↓E_sl, ↓E_rev, ↓E_call, ↓E_callk, ↓E_blt, ↓E_mth, ↓E_ixc, ↓E_inc, ↓E_isi, ↓E_lrg, ↓E_lc, ↓E_fld, ↓E_isx, isW, fldW, isxW, N_exc, seq_rt, seq_bk, seq_ct, seq_ex, loop_rt, loop_bk, loop_ex, ret_nx, ret_rt', wpA, wpT, wpAnE, wpOrE, wpAnT, wpOrT, wpC, wpI, binW, addW, mulW, intW, CNo, CPos, CNN, unW, cmpW, eqW, ordW, ixW, B_len, B_int, B_abs, B_min, B_max, B_sum, B_tuple, B_list, lenW, int1W, absW, minW, maxW, sumW, tupleW, listW, augW, M_append, M_pop, ownL, stoW, getW, tgW, setAll, lrgW, partW, isCn, slW, revW, inW, truth, isAny, tyName, kit_NoneType_tuple, kit_NoneType_bool, kit_NoneType_int, kit_NoneType_str, kit_NoneType_list, kit_bool_tuple, kit_bool_bool, kit_bool_int, kit_bool_str, kit_bool_list, kit_int_tuple, kit_int_bool, kit_int_int, kit_int_str, kit_int_list, kit_str_tuple, kit_str_bool, kit_str_int, kit_str_str, kit_str_list, kit_tuple_tuple, kit_tuple_bool, kit_tuple_int, kit_tuple_str, kit_tuple_list, kit_list_tuple, kit_list_bool, kit_list_int, kit_list_str, kit_list_list, N_non, N_bl, N_int, N_str, N_tup, N_rl, N_wl, N_obj, I_tup, I_rl, I_wl, I_obj, LL_rl, LL_obj, O.xs, newL, wipeD, List.getElem?_cons_zero, List.getElem?_cons_succ, List.getElem?_nil, List.set_cons_zero, List.set_cons_succ, Option.some.injEq, exists_and_left, exists_eq', exists_eq, exists_eq_left', exists_eq_left, true_and, and_true, Bool.not_true, Bool.not_false, reduceCtorEq, ite_true, ite_false, if_true, if_false, String.reduceEq, D.int.injEq, D.bl.injEq, D.tup.injEq, D.rl.injEq, D.wl.injEq, D.obj.injEq, D.str.injEq, forall_const, Option.map_some, List.cons_append, List.nil_append, List.length_cons, List.length_nil, put_same, len_nums]; repeat (with_reducible refine nx_of ?_; simp only [↓B_one, ↓B_cons, ↓B_nil, ↓S_skip, ↓S_set, ↓S_unp, ↓S_par, ↓S_aug, ↓S_sto, ↓S_stg, ↓S_ex, ↓S_ret, ↓S_retn, ↓S_ite, ↓S_for, ↓S_whl, ↓S_brk, ↓S_cnt, ↓S_rais, ↓S_thru, ↓E_var, ↓look_0, ↓look_s, ↓E_ci, ↓E_cb, ↓E_cn, ↓E_cs, ↓E_bin, ↓E_un, ↓E_no, ↓E_an, ↓E_or, ↓E_cmp, ↓E_ch, ↓E_ife, ↓E_tup, ↓E_lst, ↓E_ix, ↓E_sl, ↓E_rev, ↓E_call, ↓E_callk, ↓E_blt, ↓E_mth, ↓E_ixc, ↓E_inc, ↓E_isi, ↓E_lrg, ↓E_lc, ↓E_fld, ↓E_isx, isW, fldW, isxW, N_exc, seq_rt, seq_bk, seq_ct, seq_ex, loop_rt, loop_bk, loop_ex, ret_nx, ret_rt', wpA, wpT, wpAnE, wpOrE, wpAnT, wpOrT, wpC, wpI, binW, addW, mulW, intW, CNo, CPos, CNN, unW, cmpW, eqW, ordW, ixW, B_len, B_int, B_abs, B_min, B_max, B_sum, B_tuple, B_list, lenW, int1W, absW, minW, maxW, sumW, tupleW, listW, augW, M_append, M_pop, ownL, stoW, getW, tgW, setAll, lrgW, partW, isCn, slW, revW, inW, truth, isAny, tyName, kit_NoneType_tuple, kit_NoneType_bool, kit_NoneType_int, kit_NoneType_str, kit_NoneType_list, kit_bool_tuple, kit_bool_bool, kit_bool_int, kit_bool_str, kit_bool_list, kit_int_tuple, kit_int_bool, kit_int_int, kit_int_str, kit_int_list, kit_str_tuple, kit_str_bool, kit_str_int, kit_str_str, kit_str_list, kit_tuple_tuple, kit_tuple_bool, kit_tuple_int, kit_tuple_str, kit_tuple_list, kit_list_tuple, kit_list_bool, kit_list_int, kit_list_str, kit_list_list, N_non, N_bl, N_int, N_str, N_tup, N_rl, N_wl, N_obj, I_tup, I_rl, I_wl, I_obj, LL_rl, LL_obj, O.xs, newL, wipeD, List.getElem?_cons_zero, List.getElem?_cons_succ, List.getElem?_nil, List.set_cons_zero, List.set_cons_succ, Option.some.injEq, exists_and_left, exists_eq', exists_eq, exists_eq_left', exists_eq_left, true_and, and_true, Bool.not_true, Bool.not_false, reduceCtorEq, ite_true, ite_false, if_true, if_false, String.reduceEq, D.int.injEq, D.bl.injEq, D.tup.injEq, D.rl.injEq, D.wl.injEq, D.obj.injEq, D.str.injEq, forall_const, Option.map_some, List.cons_append, List.nil_append, List.length_cons, List.length_nil, put_same, len_nums]))
    refine ⟨by omega, ?_⟩
    have e2 : (fun k : Nat => D.int (((bs.length : Nat) : Int) + (k : Nat))) = fun k : Nat => D.int ((bs.length + k : Nat) : Int) := by funext k; congr 1
    rw [e2]
    refine loop_range (fun j μ M' => BagI M p (4000 + j) M' ∧ ∃ tr : Int, 0 ≤ tr ∧ tr < 2147483648 ∧ ∃ a b c d e, μ = [some (.wl (nums ns)), some (.obj p), some (.int tr), a, b, c, d, e])
      ⟨⟨bs, by omega, rfl⟩, _, h0, h1, _, _, _, _, _, rfl⟩ ?_ ?_
    · rintro j μ M' hj ⟨⟨bs2, hb2, rfl⟩, tr, h0, h1, a, b, c, d, e, rfl⟩
      ((try with_reducible refine nx_of ?_); simp only [↓B_one, ↓B_cons, ↓B_nil, ↓S_skip, ↓S_set, ↓S_unp, ↓S_par, ↓S_aug, ↓S_sto, ↓S_stg, ↓S_ex, ↓S_ret, ↓S_retn, ↓S_ite, ↓S_for, ↓S_whl, ↓S_brk, ↓S_cnt, ↓S_rais, ↓S_thru, ↓E_var, ↓look_0, ↓look_s, ↓E_ci, ↓E_cb, ↓E_cn, ↓E_cs, ↓E_bin, ↓E_un, ↓E_no, ↓E_an, ↓E_or, ↓E_cmp, ↓E_ch, ↓E_ife, ↓E_tup, ↓E_lst, ↓E_ix, ↓E_sl, ↓E_rev, ↓E_call, ↓E_callk, ↓E_blt, ↓E_mth, ↓E_ixc, ↓E_inc, ↓E_isi, ↓E_lrg, ↓E_lc, ↓E_fld, ↓E_isx, isW, fldW, isxW, N_exc, seq_rt, seq_bk, seq_ct, seq_ex, loop_rt, loop_bk, loop_ex, ret_nx, ret_rt', wpA, wpT, wpAnE, wpOrE, wpAnT, wpOrT, wpC, wpI, binW, addW, mulW, intW, CNo, CPos, CNN, unW, cmpW, eqW, ordW, ixW, B_len, B_int, B_abs, B_min, B_max, B_sum, B_tuple, B_list, lenW, int1W, absW, minW, maxW, sumW, tupleW, listW, augW, M_append, M_pop, ownL, stoW, getW, tgW, setAll, lrgW, partW, isCn, slW, revW, inW, truth, isAny, tyName, kit_NoneType_tuple, kit_NoneType_bool, kit_NoneType_int, kit_NoneType_str, kit_NoneType_list, kit_bool_tuple, kit_bool_bool, kit_bool_int, kit_bool_str, kit_bool_list, kit_int_tuple, kit_int_bool, kit_int_int, kit_int_str, kit_int_list, kit_str_tuple, kit_str_bool, kit_str_int, kit_str_str, kit_str_list, kit_tuple_tuple, kit_tuple_bool, kit_tuple_int, kit_tuple_str, kit_tuple_list, kit_list_tuple, kit_list_bool, kit_list_int, kit_list_str, kit_list_list, N_non, N_bl, N_int, N_str, N_tup, N_rl, N_wl, N_obj, I_tup, I_rl, I_wl, I_obj, LL_rl, LL_obj, O.xs, newL, wipeD, List.getElem?_cons_zero, List.getElem?_cons_succ, List.getElem?_nil, List.set_cons_zero, List.set_cons_succ, Option.some.injEq, exists_and_left, exists_eq', exists_eq, exists_eq_left', exists_eq_left, true_and, and_true, Bool.not_true, Bool.not_false, reduceCtorEq, ite_true, ite_false, if_true, if_false, String.reduceEq, D.int.injEq, D.bl.injEq, D.tup.injEq, D.rl.injEq, D.wl.injEq, D.obj.injEq, D.str.injEq, forall_const, Option.map_some, List.cons_append, List.nil_append, List.length_cons, List.length_nil]; repeat (with_reducible refine nx_of ?_; simp only [↓B_one, ↓B_cons, ↓B_nil, ↓S_skip, ↓S_set, ↓S_unp, ↓S_par, ↓S_aug, ↓S_sto, ↓S_stg, ↓S_ex, ↓S_ret, ↓S_retn, ↓S_ite, ↓S_for, ↓S_whl, ↓S_brk, ↓S_cnt, ↓S_rais, ↓S_thru, ↓E_var, ↓look_0, ↓look_s, ↓E_ci, ↓E_cb, ↓E_cn, ↓E_cs, ↓E_bin, ↓E_un, ↓E_no, ↓E_an, ↓E_or, ↓E_cmp, ↓E_ch, ↓E_ife, ↓E_tup, ↓E_lst, ↓E_ix, ↓E_sl, ↓E_rev, ↓E_call, ↓E_callk, ↓E_blt, ↓E_mth, ↓E_ixc, ↓E_inc, ↓E_isi, ↓E_lrg, ↓E_lc, ↓E_fld, ↓E_isx, isW, fldW, isxW, N_exc, seq_rt, seq_bk, seq_ct, seq_ex, loop_rt, loop_bk, loop_ex, ret_nx, ret_rt', wpA, wpT, wpAnE, wpOrE, wpAnT, wpOrT, wpC, wpI, binW, addW, mulW, intW, CNo, CPos, CNN, unW, cmpW, eqW, ordW, ixW, B_len, B_int, B_abs, B_min, B_max, B_sum, B_tuple, B_list, lenW, int1W, absW, minW, maxW, sumW, tupleW, listW, augW, M_append, M_pop, ownL, stoW, getW, tgW, setAll, lrgW, partW, isCn, slW, revW, inW, truth, isAny, tyName, kit_NoneType_tuple, kit_NoneType_bool, kit_NoneType_int, kit_NoneType_str, kit_NoneType_list, kit_bool_tuple, kit_bool_bool, kit_bool_int, kit_bool_str, kit_bool_list, kit_int_tuple, kit_int_bool, kit_int_int, kit_int_str, kit_int_list, kit_str_tuple, kit_str_bool, kit_str_int, kit_str_str, kit_str_list, kit_tuple_tuple, kit_tuple_bool, kit_tuple_int, kit_tuple_str, kit_tuple_list, kit_list_tuple, kit_list_bool, kit_list_int, kit_list_str, kit_list_list, N_non, N_bl, N_int, N_str, N_tup, N_rl, N_wl, N_obj, I_tup, I_rl, I_wl, I_obj, LL_rl, LL_obj, O.xs, newL, wipeD, List.getElem?_cons_zero, List.getElem?_cons_succ, List.getElem?_nil, List.set_cons_zero, List.set_cons_succ, Option.some.injEq, exists_and_left, exists_eq', exists_eq, exists_eq_left', exists_eq_left, true_and, and_true, Bool.not_true, Bool.not_false, reduceCtorEq, ite_true, ite_false, if_true, if_false, String.reduceEq, D.int.injEq, D.bl.injEq, D.tup.injEq, D.rl.injEq, D.wl.injEq, D.obj.injEq, D.str.injEq, forall_const, Option.map_some, List.cons_append, List.nil_append, List.length_cons, List.length_nil]))
      refine ⟨cmul_l (by omega) (by omega), cmul_l (by omega) (by omega), by omega, ?_⟩
      generalize hS : (tr * 48271 + 11 * ((bs.length + j : Nat) : Int) + 5) % 2147483563 = st
      have h3 : 0 ≤ st ∧ st < 2147483648 := by omega
      ((try with_reducible refine nx_of ?_); simp only [↓B_one, ↓B_cons, ↓B_nil, ↓S_skip, ↓S_set, ↓S_unp, ↓S_par, ↓S_aug, ↓S_sto, ↓S_stg, ↓S_ex, ↓S_ret, ↓S_retn, ↓S_ite, ↓S_for, ↓S_whl, ↓S_brk, ↓S_cnt, ↓S_rais, ↓S_thru, ↓E_var, ↓look_0, ↓look_s, ↓E_ci, ↓E_cb, ↓E_cn, ↓E_cs, ↓E_bin, ↓E_un, ↓E_no, ↓E_an, ↓E_or, ↓E_cmp, ↓E_ch, ↓E_ife, ↓E_tup, ↓E_lst, ↓E_ix, ↓E_sl, ↓E_rev, ↓E_call, ↓E_callk, ↓E_blt, ↓E_mth, ↓E_ixc, ↓E_inc, ↓E_isi, ↓E_lrg, ↓E_lc, ↓E_fld, ↓E_isx, isW, fldW, isxW, N_exc, seq_rt, seq_bk, seq_ct, seq_ex, loop_rt, loop_bk, loop_ex, ret_nx, ret_rt', wpA, wpT, wpAnE, wpOrE, wpAnT, wpOrT, wpC, wpI, binW, addW, mulW, intW, CNo, CPos, CNN, unW, cmpW, eqW, ordW, ixW, B_len, B_int, B_abs, B_min, B_max, B_sum, B_tuple, B_list, lenW, int1W, absW, minW, maxW, sumW, tupleW, listW, augW, M_append, M_pop, ownL, stoW, getW, tgW, setAll, lrgW, partW, isCn, slW, revW, inW, truth, isAny, tyName, kit_NoneType_tuple, kit_NoneType_bool, kit_NoneType_int, kit_NoneType_str, kit_NoneType_list, kit_bool_tuple, kit_bool_bool, kit_bool_int, kit_bool_str, kit_bool_list, kit_int_tuple, kit_int_bool, kit_int_int, kit_int_str, kit_int_list, kit_str_tuple, kit_str_bool, kit_str_int, kit_str_str, kit_str_list, kit_tuple_tuple, kit_tuple_bool, kit_tuple_int, kit_tuple_str, kit_tuple_list, kit_list_tuple, kit_list_bool, kit_list_int, kit_list_str, kit_list_list, N_non, N_bl, N_int, N_str, N_tup, N_rl, N_wl, N_obj, I_tup, I_rl, I_wl, I_obj, LL_rl, LL_obj, O.xs, newL, wipeD, List.getElem?_cons_zero, List.getElem?_cons_succ, List.getElem?_nil, List.set_cons_zero, List.set_cons_succ, Option.some.injEq, exists_and_left, exists_eq', exists_eq, exists_eq_left', exists_eq_left, true_and, and_true, Bool.not_true, Bool.not_false, reduceCtorEq, ite_true, ite_false, if_true, if_false, String.reduceEq, D.int.injEq, D.bl.injEq, D.tup.injEq, D.rl.injEq, D.wl.injEq, D.obj.injEq, D.str.injEq, forall_const, Option.map_some, List.cons_append, List.nil_append, List.length_cons, List.length_nil, put_same, O.lst.injEq, put_put, len_nums, nums_snoc]; repeat (with_reducible refine nx_of ?_; simp only [↓B_one, ↓B_cons, ↓B_nil, ↓S_skip, ↓S_set, ↓S_unp, ↓S_par, ↓S_aug, ↓S_sto, ↓S_stg, ↓S_ex, ↓S_ret, ↓S_retn, ↓S_ite, ↓S_for, ↓S_whl, ↓S_brk, ↓S_cnt, ↓S_rais, ↓S_thru, ↓E_var, ↓look_0, ↓look_s, ↓E_ci, ↓E_cb, ↓E_cn, ↓E_cs, ↓E_bin, ↓E_un, ↓E_no, ↓E_an, ↓E_or, ↓E_cmp, ↓E_ch, ↓E_ife, ↓E_tup, ↓E_lst, ↓E_ix, ↓E_sl, ↓E_rev, ↓E_call, ↓E_callk, ↓E_blt, ↓E_mth, ↓E_ixc, ↓E_inc, ↓E_isi, ↓E_lrg, ↓E_lc, ↓E_fld, ↓E_isx, isW, fldW, isxW, N_exc, seq_rt, seq_bk, seq_ct, seq_ex, loop_rt, loop_bk, loop_ex, ret_nx, ret_rt', wpA, wpT, wpAnE, wpOrE, wpAnT, wpOrT, wpC, wpI, binW, addW, mulW, intW, CNo, CPos, CNN, unW, cmpW, eqW, ordW, ixW, B_len, B_int, B_abs, B_min, B_max, B_sum, B_tuple, B_list, lenW, int1W, absW, minW, maxW, sumW, tupleW, listW, augW, M_append, M_pop, ownL, stoW, getW, tgW, setAll, lrgW, partW, isCn, slW, revW, inW, truth, isAny, tyName, kit_NoneType_tuple, kit_NoneType_bool, kit_NoneType_int, kit_NoneType_str, kit_NoneType_list, kit_bool_tuple, kit_bool_bool, kit_bool_int, kit_bool_str, kit_bool_list, kit_int_tuple, kit_int_bool, kit_int_int, kit_int_str, kit_int_list, kit_str_tuple, kit_str_bool, kit_str_int, kit_str_str, kit_str_list, kit_tuple_tuple, kit_tuple_bool, kit_tuple_int, kit_tuple_str, kit_tuple_list, kit_list_tuple, kit_list_bool, kit_list_int, kit_list_str, kit_list_list, N_non, N_bl, N_int, N_str, N_tup, N_rl, N_wl, N_obj, I_tup, I_rl, I_wl, I_obj, LL_rl, LL_obj, O.xs, newL, wipeD, List.getElem?_cons_zero, List.getElem?_cons_succ, List.getElem?_nil, List.set_cons_zero, List.set_cons_succ, Option.some.injEq, exists_and_left, exists_eq', exists_eq, exists_eq_left', exists_eq_left, true_and, and_true, Bool.not_true, Bool.not_false, reduceCtorEq, ite_true, ite_false, if_true, if_false, String.reduceEq, D.int.injEq, D.bl.injEq, D.tup.injEq, D.rl.injEq, D.wl.injEq, D.obj.injEq, D.str.injEq, forall_const, Option.map_some, List.cons_append, List.nil_append, List.length_cons, List.length_nil, put_same, O.lst.injEq, put_put, len_nums, nums_snoc]))
      refine ⟨cmul_l (by omega) (by omega), ⟨by omega, by omega⟩, by omega, by unfold big; omega, ?_⟩
      refine ⟨_, .refl _, ⟨_, ?_, rfl⟩, st, h3.1, h3.2, _, _, _, _, _, rfl⟩
      rw [List.length_append]; simp only [List.length_cons, List.length_nil]; omega
    · rintro μ M' ⟨⟨bs2, hb2, rfl⟩, tr, h0, h1, a, b, c, d, e, rfl⟩
      ((try with_reducible refine nx_of ?_); simp only [↓B_one, ↓B_cons, ↓B_nil, ↓S_skip, ↓S_set, ↓S_unp, ↓S_par, ↓S_aug, ↓S_sto, ↓S_stg, ↓S_ex, ↓S_ret, ↓S_retn, ↓S_ite, ↓S_for, ↓S_whl, ↓S_brk, ↓S_cnt, ↓S_rais, ↓S_thru, ↓E_var, ↓look_0, ↓look_s, ↓E_ci, ↓E_cb, ↓E_cn, ↓E_cs, ↓E_bin, ↓E_un, ↓E_no, ↓E_an, ↓E_or, ↓E_cmp, ↓E_ch, ↓E_ife, ↓E_tup, ↓E_lst, ↓E_ix, ↓E_sl, ↓E_rev, ↓E_call, ↓E_callk, ↓E_blt, ↓E_mth, ↓E_ixc, ↓E_inc, ↓E_isi, ↓E_lrg, ↓E_lc, ↓E_fld, ↓E_isx, isW, fldW, isxW, N_exc, seq_rt, seq_bk, seq_ct, seq_ex, loop_rt, loop_bk, loop_ex, ret_nx, ret_rt', wpA, wpT, wpAnE, wpOrE, wpAnT, wpOrT, wpC, wpI, binW, addW, mulW, intW, CNo, CPos, CNN, unW, cmpW, eqW, ordW, ixW, B_len, B_int, B_abs, B_min, B_max, B_sum, B_tuple, B_list, lenW, int1W, absW, minW, maxW, sumW, tupleW, listW, augW, M_append, M_pop, ownL, stoW, getW, tgW, setAll, lrgW, partW, isCn, slW, revW, inW, truth, isAny, tyName, kit_NoneType_tuple, kit_NoneType_bool, kit_NoneType_int, kit_NoneType_str, kit_NoneType_list, kit_bool_tuple, kit_bool_bool, kit_bool_int, kit_bool_str, kit_bool_list, kit_int_tuple, kit_int_bool, kit_int_int, kit_int_str, kit_int_list, kit_str_tuple, kit_str_bool, kit_str_int, kit_str_str, kit_str_list, kit_tuple_tuple, kit_tuple_bool, kit_tuple_int, kit_tuple_str, kit_tuple_list, kit_list_tuple, kit_list_bool, kit_list_int, kit_list_str, kit_list_list, N_non, N_bl, N_int, N_str, N_tup, N_rl, N_wl, N_obj, I_tup, I_rl, I_wl, I_obj, LL_rl, LL_obj, O.xs, newL, wipeD, List.getElem?_cons_zero, List.getElem?_cons_succ, List.getElem?_nil, List.set_cons_zero, List.set_cons_succ, Option.some.injEq, exists_and_left, exists_eq', exists_eq, exists_eq_left', exists_eq_left, true_and, and_true, Bool.not_true, Bool.not_false, reduceCtorEq, ite_true, ite_false, if_true, if_false, String.reduceEq, D.int.injEq, D.bl.injEq, D.tup.injEq, D.rl.injEq, D.wl.injEq, D.obj.injEq, D.str.injEq, forall_const, Option.map_some, List.cons_append, List.nil_append, List.length_cons, List.length_nil, put_same, nums_rev, len_nums, List.length_reverse]; repeat (with_reducible refine nx_of ?_; simp only [↓B_one, ↓B_cons, ↓B_nil, ↓S_skip, ↓S_set, ↓S_unp, ↓S_par, ↓S_aug, ↓S_sto, ↓S_stg, ↓S_ex, ↓S_ret, ↓S_retn, ↓S_ite, ↓S_for, ↓S_whl, ↓S_brk, ↓S_cnt, ↓S_rais, ↓S_thru, ↓E_var, ↓look_0, ↓look_s, ↓E_ci, ↓E_cb, ↓E_cn, ↓E_cs, ↓E_bin, ↓E_un, ↓E_no, ↓E_an, ↓E_or, ↓E_cmp, ↓E_ch, ↓E_ife, ↓E_tup, ↓E_lst, ↓E_ix, ↓E_sl, ↓E_rev, ↓E_call, ↓E_callk, ↓E_blt, ↓E_mth, ↓E_ixc, ↓E_inc, ↓E_isi, ↓E_lrg, ↓E_lc, ↓E_fld, ↓E_isx, isW, fldW, isxW, N_exc, seq_rt, seq_bk, seq_ct, seq_ex, loop_rt, loop_bk, loop_ex, ret_nx, ret_rt', wpA, wpT, wpAnE, wpOrE, wpAnT, wpOrT, wpC, wpI, binW, addW, mulW, intW, CNo, CPos, CNN, unW, cmpW, eqW, ordW, ixW, B_len, B_int, B_abs, B_min, B_max, B_sum, B_tuple, B_list, lenW, int1W, absW, minW, maxW, sumW, tupleW, listW, augW, M_append, M_pop, ownL, stoW, getW, tgW, setAll, lrgW, partW, isCn, slW, revW, inW, truth, isAny, tyName, kit_NoneType_tuple, kit_NoneType_bool, kit_NoneType_int, kit_NoneType_str, kit_NoneType_list, kit_bool_tuple, kit_bool_bool, kit_bool_int, kit_bool_str, kit_bool_list, kit_int_tuple, kit_int_bool, kit_int_int, kit_int_str, kit_int_list, kit_str_tuple, kit_str_bool, kit_str_int, kit_str_str, kit_str_list, kit_tuple_tuple, kit_tuple_bool, kit_tuple_int, kit_tuple_str, kit_tuple_list, kit_list_tuple, kit_list_bool, kit_list_int, kit_list_str, kit_list_list, N_non, N_bl, N_int, N_str, N_tup, N_rl, N_wl, N_obj, I_tup, I_rl, I_wl, I_obj, LL_rl, LL_obj, O.xs, newL, wipeD, List.getElem?_cons_zero, List.getElem?_cons_succ, List.getElem?_nil, List.set_cons_zero, List.set_cons_succ, Option.some.injEq, exists_and_left, exists_eq', exists_eq, exists_eq_left', exists_eq_left, true_and, and_true, Bool.not_true, Bool.not_false, reduceCtorEq, ite_true, ite_false, if_true, if_false, String.reduceEq, D.int.injEq, D.bl.injEq, D.tup.injEq, D.rl.injEq, D.wl.injEq, D.obj.injEq, D.str.injEq, forall_const, Option.map_some, List.cons_append, List.nil_append, List.length_cons, List.length_nil, put_same, nums_rev, len_nums, List.length_reverse]))
      refine ⟨by unfold big; omega, fun q hq' => ?_⟩
      obtain ⟨n1, n2⟩ := put_none hq'
      refine ⟨.obj q, put M q (.lst (nums bs2.reverse)), fun a o ha => ?_, .same _, hq q _ n2⟩
      by_cases z : a = q
      · subst z; rw [put_same] at ha ⊢; exact ha
      · rw [put_ne z] at ha ⊢
        rw [put_ne]
        · exact ha
        · rintro rfl; rw [hp] at ha; cases ha
def sp_law_next : Spec := fun ds M Q _ => ∃ (p : Addr) (k : Int) (bs : List Int), ds = [.obj p, .int k] ∧ 0 < k ∧ M p = some (.lst (nums bs)) ∧ ∀ (r : Nat) bs', (r : Int) < k → Q (.int r) (put M p (.lst (nums bs')))
theorem put_id {M : Mp} {a : Addr} {o : O} (h : M a = some o) : put M a o = M := by
  funext b
  unfold put
  split
  · subst b; rw [h]
  · rfl
theorem w_law_next {ds M Q E} (h : sp_law_next ds M Q E) : wpB Γ b_law_next (startD n_law_next ds) M (Kret Q E) := by
  obtain ⟨p, k, bs, rfl, hk, hm, hq⟩ := h
  show wpB Γ b_law_next [some (.obj p), some (.int k)] M (Kret Q E)
  unfold b_law_next
  ((try with_reducible refine nx_of ?_); simp only [↓B_one, ↓B_cons, ↓B_nil, ↓S_skip, ↓S_set, ↓S_unp, ↓S_par, ↓S_aug, ↓S_sto, ↓S_stg, ↓S_ex, ↓S_ret, ↓S_retn, ↓S_ite, ↓S_for, ↓S_whl, ↓S_brk, ↓S_cnt, ↓S_rais, ↓S_thru, ↓E_var, ↓look_0, ↓look_s, ↓E_ci, ↓E_cb, ↓E_cn, ↓E_cs, ↓E_bin, ↓E_un, ↓E_no, ↓E_an, ↓E_or, ↓E_cmp, ↓E_ch, ↓E_ife, ↓E_tup, ↓E_lst, ↓E_ix, ↓E_sl, ↓E_rev, ↓E_call, ↓E_callk, ↓E_blt, ↓E_mth, ↓E_ixc, ↓E_inc, ↓E_isi, ↓E_lrg, ↓E_lc, ↓E_fld, ↓E_isx, isW, fldW, isxW, N_exc, seq_rt, seq_bk, seq_ct, seq_ex, loop_rt, loop_bk, loop_ex, ret_nx, ret_rt', wpA, wpT, wpAnE, wpOrE, wpAnT, wpOrT, wpC, wpI, binW, addW, mulW, intW, CNo, CPos, CNN, unW, cmpW, eqW, ordW, ixW, B_len, B_int, B_abs, B_min, B_max, B_sum, B_tuple, B_list, lenW, int1W, absW, minW, maxW, sumW, tupleW, listW, augW, M_append, M_pop, ownL, stoW, getW, tgW, setAll, lrgW, partW, isCn, slW, revW, inW, truth, isAny, tyName, kit_NoneType_tuple, kit_NoneType_bool, kit_NoneType_int, kit_NoneType_str, kit_NoneType_list, kit_bool_tuple, kit_bool_bool, kit_bool_int, kit_bool_str, kit_bool_list, kit_int_tuple, kit_int_bool, kit_int_int, kit_int_str, kit_int_list, kit_str_tuple, kit_str_bool, kit_str_int, kit_str_str, kit_str_list, kit_tuple_tuple, kit_tuple_bool, kit_tuple_int, kit_tuple_str, kit_tuple_list, kit_list_tuple, kit_list_bool, kit_list_int, kit_list_str, kit_list_list, N_non, N_bl, N_int, N_str, N_tup, N_rl, N_wl, N_obj, I_tup, I_rl, I_wl, I_obj, LL_rl, LL_obj, O.xs, newL, wipeD, List.getElem?_cons_zero, List.getElem?_cons_succ, List.getElem?_nil, List.set_cons_zero, List.set_cons_succ, Option.some.injEq, exists_and_left, exists_eq', exists_eq, exists_eq_left', exists_eq_left, true_and, and_true, Bool.not_true, Bool.not_false, reduceCtorEq, ite_true, ite_false, if_true, if_false, String.reduceEq, D.int.injEq, D.bl.injEq, D.tup.injEq, D.rl.injEq, D.wl.injEq, D.obj.injEq, D.str.injEq, forall_const, Option.map_some, List.cons_append, List.nil_append, List.length_cons, List.length_nil, hm, len_nums]; repeat (with_reducible refine nx_of ?_; simp only [↓B_one, ↓B_cons, ↓B_nil, ↓S_skip, ↓S_set, ↓S_unp, ↓S_par, ↓S_aug, ↓S_sto, ↓S_stg, ↓S_ex, ↓S_ret, ↓S_retn, ↓S_ite, ↓S_for, ↓S_whl, ↓S_brk, ↓S_cnt, ↓S_rais, ↓S_thru, ↓E_var, ↓look_0, ↓look_s, ↓E_ci, ↓E_cb, ↓E_cn, ↓E_cs, ↓E_bin, ↓E_un, ↓E_no, ↓E_an, ↓E_or, ↓E_cmp, ↓E_ch, ↓E_ife, ↓E_tup, ↓E_lst, ↓E_ix, ↓E_sl, ↓E_rev, ↓E_call, ↓E_callk, ↓E_blt, ↓E_mth, ↓E_ixc, ↓E_inc, ↓E_isi, ↓E_lrg, ↓E_lc, ↓E_fld, ↓E_isx, isW, fldW, isxW, N_exc, seq_rt, seq_bk, seq_ct, seq_ex, loop_rt, loop_bk, loop_ex, ret_nx, ret_rt', wpA, wpT, wpAnE, wpOrE, wpAnT, wpOrT, wpC, wpI, binW, addW, mulW, intW, CNo, CPos, CNN, unW, cmpW, eqW, ordW, ixW, B_len, B_int, B_abs, B_min, B_max, B_sum, B_tuple, B_list, lenW, int1W, absW, minW, maxW, sumW, tupleW, listW, augW, M_append, M_pop, ownL, stoW, getW, tgW, setAll, lrgW, partW, isCn, slW, revW, inW, truth, isAny, tyName, kit_NoneType_tuple, kit_NoneType_bool, kit_NoneType_int, kit_NoneType_str, kit_NoneType_list, kit_bool_tuple, kit_bool_bool, kit_bool_int, kit_bool_str, kit_bool_list, kit_int_tuple, kit_int_bool, kit_int_int, kit_int_str, kit_int_list, kit_str_tuple, kit_str_bool, kit_str_int, kit_str_str, kit_str_list, kit_tuple_tuple, kit_tuple_bool, kit_tuple_int, kit_tuple_str, kit_tuple_list, kit_list_tuple, kit_list_bool, kit_list_int, kit_list_str, kit_list_list, N_non, N_bl, N_int, N_str, N_tup, N_rl, N_wl, N_obj, I_tup, I_rl, I_wl, I_obj, LL_rl, LL_obj, O.xs, newL, wipeD, List.getElem?_cons_zero, List.getElem?_cons_succ, List.getElem?_nil, List.set_cons_zero, List.set_cons_succ, Option.some.injEq, exists_and_left, exists_eq', exists_eq, exists_eq_left', exists_eq_left, true_and, and_true, Bool.not_true, Bool.not_false, reduceCtorEq, ite_true, ite_false, if_true, if_false, String.reduceEq, D.int.injEq, D.bl.injEq, D.tup.injEq, D.rl.injEq, D.wl.injEq, D.obj.injEq, D.str.injEq, forall_const, Option.map_some, List.cons_append, List.nil_append, List.length_cons, List.length_nil, hm, len_nums]))
  by_cases c : ((bs.length : Nat) : Int) = 0
  · simp only [c, decide_true]
    have := hq 0 bs (by omega)
    rw [put_id hm] at this
    exact .here this
  · simp only [c, decide_false]
    ((try with_reducible refine nx_of ?_); simp only [↓B_one, ↓B_cons, ↓B_nil, ↓S_skip, ↓S_set, ↓S_unp, ↓S_par, ↓S_aug, ↓S_sto, ↓S_stg, ↓S_ex, ↓S_ret, ↓S_retn, ↓S_ite, ↓S_for, ↓S_whl, ↓S_brk, ↓S_cnt, ↓S_rais, ↓S_thru, ↓E_var, ↓look_0, ↓look_s, ↓E_ci, ↓E_cb, ↓E_cn, ↓E_cs, ↓E_bin, ↓E_un, ↓E_no, ↓E_an, ↓E_or, ↓E_cmp, ↓E_ch, ↓E_ife, ↓E_tup, ↓E_lst, ↓E_ix, ↓E_sl, ↓E_rev, ↓E_call, ↓E_callk, ↓E_blt, ↓E_mth, ↓E_ixc, ↓E_inc, ↓E_isi, ↓E_lrg, ↓E_lc, ↓E_fld, ↓E_isx, isW, fldW, isxW, N_exc, seq_rt, seq_bk, seq_ct, seq_ex, loop_rt, loop_bk, loop_ex, ret_nx, ret_rt', wpA, wpT, wpAnE, wpOrE, wpAnT, wpOrT, wpC, wpI, binW, addW, mulW, intW, CNo, CPos, CNN, unW, cmpW, eqW, ordW, ixW, B_len, B_int, B_abs, B_min, B_max, B_sum, B_tuple, B_list, lenW, int1W, absW, minW, maxW, sumW, tupleW, listW, augW, M_append, M_pop, ownL, stoW, getW, tgW, setAll, lrgW, partW, isCn, slW, revW, inW, truth, isAny, tyName, kit_NoneType_tuple, kit_NoneType_bool, kit_NoneType_int, kit_NoneType_str, kit_NoneType_list, kit_bool_tuple, kit_bool_bool, kit_bool_int, kit_bool_str, kit_bool_list, kit_int_tuple, kit_int_bool, kit_int_int, kit_int_str, kit_int_list, kit_str_tuple, kit_str_bool, kit_str_int, kit_str_str, kit_str_list, kit_tuple_tuple, kit_tuple_bool, kit_tuple_int, kit_tuple_str, kit_tuple_list, kit_list_tuple, kit_list_bool, kit_list_int, kit_list_str, kit_list_list, N_non, N_bl, N_int, N_str, N_tup, N_rl, N_wl, N_obj, I_tup, I_rl, I_wl, I_obj, LL_rl, LL_obj, O.xs, newL, wipeD, List.getElem?_cons_zero, List.getElem?_cons_succ, List.getElem?_nil, List.set_cons_zero, List.set_cons_succ, Option.some.injEq, exists_and_left, exists_eq', exists_eq, exists_eq_left', exists_eq_left, true_and, and_true, Bool.not_true, Bool.not_false, reduceCtorEq, ite_true, ite_false, if_true, if_false, String.reduceEq, D.int.injEq, D.bl.injEq, D.tup.injEq, D.rl.injEq, D.wl.injEq, D.obj.injEq, D.str.injEq, forall_const, Option.map_some, List.cons_append, List.nil_append, List.length_cons, List.length_nil, hm, O.lst.injEq, len_nums]; repeat (with_reducible refine nx_of ?_; simp only [↓B_one, ↓B_cons, ↓B_nil, ↓S_skip, ↓S_set, ↓S_unp, ↓S_par, ↓S_aug, ↓S_sto, ↓S_stg, ↓S_ex, ↓S_ret, ↓S_retn, ↓S_ite, ↓S_for, ↓S_whl, ↓S_brk, ↓S_cnt, ↓S_rais, ↓S_thru, ↓E_var, ↓look_0, ↓look_s, ↓E_ci, ↓E_cb, ↓E_cn, ↓E_cs, ↓E_bin, ↓E_un, ↓E_no, ↓E_an, ↓E_or, ↓E_cmp, ↓E_ch, ↓E_ife, ↓E_tup, ↓E_lst, ↓E_ix, ↓E_sl, ↓E_rev, ↓E_call, ↓E_callk, ↓E_blt, ↓E_mth, ↓E_ixc, ↓E_inc, ↓E_isi, ↓E_lrg, ↓E_lc, ↓E_fld, ↓E_isx, isW, fldW, isxW, N_exc, seq_rt, seq_bk, seq_ct, seq_ex, loop_rt, loop_bk, loop_ex, ret_nx, ret_rt', wpA, wpT, wpAnE, wpOrE, wpAnT, wpOrT, wpC, wpI, binW, addW, mulW, intW, CNo, CPos, CNN, unW, cmpW, eqW, ordW, ixW, B_len, B_int, B_abs, B_min, B_max, B_sum, B_tuple, B_list, lenW, int1W, absW, minW, maxW, sumW, tupleW, listW, augW, M_append, M_pop, ownL, stoW, getW, tgW, setAll, lrgW, partW, isCn, slW, revW, inW, truth, isAny, tyName, kit_NoneType_tuple, kit_NoneType_bool, kit_NoneType_int, kit_NoneType_str, kit_NoneType_list, kit_bool_tuple, kit_bool_bool, kit_bool_int, kit_bool_str, kit_bool_list, kit_int_tuple, kit_int_bool, kit_int_int, kit_int_str, kit_int_list, kit_str_tuple, kit_str_bool, kit_str_int, kit_str_str, kit_str_list, kit_tuple_tuple, kit_tuple_bool, kit_tuple_int, kit_tuple_str, kit_tuple_list, kit_list_tuple, kit_list_bool, kit_list_int, kit_list_str, kit_list_list, N_non, N_bl, N_int, N_str, N_tup, N_rl, N_wl, N_obj, I_tup, I_rl, I_wl, I_obj, LL_rl, LL_obj, O.xs, newL, wipeD, List.getElem?_cons_zero, List.getElem?_cons_succ, List.getElem?_nil, List.set_cons_zero, List.set_cons_succ, Option.some.injEq, exists_and_left, exists_eq', exists_eq, exists_eq_left', exists_eq_left, true_and, and_true, Bool.not_true, Bool.not_false, reduceCtorEq, ite_true, ite_false, if_true, if_false, String.reduceEq, D.int.injEq, D.bl.injEq, D.tup.injEq, D.rl.injEq, D.wl.injEq, D.obj.injEq, D.str.injEq, forall_const, Option.map_some, List.cons_append, List.nil_append, List.length_cons, List.length_nil, hm, O.lst.injEq, len_nums]))
    have hlt : bs.length - 1 < bs.length := by omega
    have e : (nums bs)[bs.length - 1]? = some (.int (T bs (bs.length - 1))) := by
      unfold nums T
      rw [List.getElem?_map, List.getD_eq_getElem?_getD, List.getElem?_eq_getElem hlt]
      rfl
    rw [e]
    ((try with_reducible refine nx_of ?_); simp only [↓B_one, ↓B_cons, ↓B_nil, ↓S_skip, ↓S_set, ↓S_unp, ↓S_par, ↓S_aug, ↓S_sto, ↓S_stg, ↓S_ex, ↓S_ret, ↓S_retn, ↓S_ite, ↓S_for, ↓S_whl, ↓S_brk, ↓S_cnt, ↓S_rais, ↓S_thru, ↓E_var, ↓look_0, ↓look_s, ↓E_ci, ↓E_cb, ↓E_cn, ↓E_cs, ↓E_bin, ↓E_un, ↓E_no, ↓E_an, ↓E_or, ↓E_cmp, ↓E_ch, ↓E_ife, ↓E_tup, ↓E_lst, ↓E_ix, ↓E_sl, ↓E_rev, ↓E_call, ↓E_callk, ↓E_blt, ↓E_mth, ↓E_ixc, ↓E_inc, ↓E_isi, ↓E_lrg, ↓E_lc, ↓E_fld, ↓E_isx, isW, fldW, isxW, N_exc, seq_rt, seq_bk, seq_ct, seq_ex, loop_rt, loop_bk, loop_ex, ret_nx, ret_rt', wpA, wpT, wpAnE, wpOrE, wpAnT, wpOrT, wpC, wpI, binW, addW, mulW, intW, CNo, CPos, CNN, unW, cmpW, eqW, ordW, ixW, B_len, B_int, B_abs, B_min, B_max, B_sum, B_tuple, B_list, lenW, int1W, absW, minW, maxW, sumW, tupleW, listW, augW, M_append, M_pop, ownL, stoW, getW, tgW, setAll, lrgW, partW, isCn, slW, revW, inW, truth, isAny, tyName, kit_NoneType_tuple, kit_NoneType_bool, kit_NoneType_int, kit_NoneType_str, kit_NoneType_list, kit_bool_tuple, kit_bool_bool, kit_bool_int, kit_bool_str, kit_bool_list, kit_int_tuple, kit_int_bool, kit_int_int, kit_int_str, kit_int_list, kit_str_tuple, kit_str_bool, kit_str_int, kit_str_str, kit_str_list, kit_tuple_tuple, kit_tuple_bool, kit_tuple_int, kit_tuple_str, kit_tuple_list, kit_list_tuple, kit_list_bool, kit_list_int, kit_list_str, kit_list_list, N_non, N_bl, N_int, N_str, N_tup, N_rl, N_wl, N_obj, I_tup, I_rl, I_wl, I_obj, LL_rl, LL_obj, O.xs, newL, wipeD, List.getElem?_cons_zero, List.getElem?_cons_succ, List.getElem?_nil, List.set_cons_zero, List.set_cons_succ, Option.some.injEq, exists_and_left, exists_eq', exists_eq, exists_eq_left', exists_eq_left, true_and, and_true, Bool.not_true, Bool.not_false, reduceCtorEq, ite_true, ite_false, if_true, if_false, String.reduceEq, D.int.injEq, D.bl.injEq, D.tup.injEq, D.rl.injEq, D.wl.injEq, D.obj.injEq, D.str.injEq, forall_const, Option.map_some, List.cons_append, List.nil_append, List.length_cons, List.length_nil]; repeat (with_reducible refine nx_of ?_; simp only [↓B_one, ↓B_cons, ↓B_nil, ↓S_skip, ↓S_set, ↓S_unp, ↓S_par, ↓S_aug, ↓S_sto, ↓S_stg, ↓S_ex, ↓S_ret, ↓S_retn, ↓S_ite, ↓S_for, ↓S_whl, ↓S_brk, ↓S_cnt, ↓S_rais, ↓S_thru, ↓E_var, ↓look_0, ↓look_s, ↓E_ci, ↓E_cb, ↓E_cn, ↓E_cs, ↓E_bin, ↓E_un, ↓E_no, ↓E_an, ↓E_or, ↓E_cmp, ↓E_ch, ↓E_ife, ↓E_tup, ↓E_lst, ↓E_ix, ↓E_sl, ↓E_rev, ↓E_call, ↓E_callk, ↓E_blt, ↓E_mth, ↓E_ixc, ↓E_inc, ↓E_isi, ↓E_lrg, ↓E_lc, ↓E_fld, ↓E_isx, isW, fldW, isxW, N_exc, seq_rt, seq_bk, seq_ct, seq_ex, loop_rt, loop_bk, loop_ex, ret_nx, ret_rt', wpA, wpT, wpAnE, wpOrE, wpAnT, wpOrT, wpC, wpI, binW, addW, mulW, intW, CNo, CPos, CNN, unW, cmpW, eqW, ordW, ixW, B_len, B_int, B_abs, B_min, B_max, B_sum, B_tuple, B_list, lenW, int1W, absW, minW, maxW, sumW, tupleW, listW, augW, M_append, M_pop, ownL, stoW, getW, tgW, setAll, lrgW, partW, isCn, slW, revW, inW, truth, isAny, tyName, kit_NoneType_tuple, kit_NoneType_bool, kit_NoneType_int, kit_NoneType_str, kit_NoneType_list, kit_bool_tuple, kit_bool_bool, kit_bool_int, kit_bool_str, kit_bool_list, kit_int_tuple, kit_int_bool, kit_int_int, kit_int_str, kit_int_list, kit_str_tuple, kit_str_bool, kit_str_int, kit_str_str, kit_str_list, kit_tuple_tuple, kit_tuple_bool, kit_tuple_int, kit_tuple_str, kit_tuple_list, kit_list_tuple, kit_list_bool, kit_list_int, kit_list_str, kit_list_list, N_non, N_bl, N_int, N_str, N_tup, N_rl, N_wl, N_obj, I_tup, I_rl, I_wl, I_obj, LL_rl, LL_obj, O.xs, newL, wipeD, List.getElem?_cons_zero, List.getElem?_cons_succ, List.getElem?_nil, List.set_cons_zero, List.set_cons_succ, Option.some.injEq, exists_and_left, exists_eq', exists_eq, exists_eq_left', exists_eq_left, true_and, and_true, Bool.not_true, Bool.not_false, reduceCtorEq, ite_true, ite_false, if_true, if_false, String.reduceEq, D.int.injEq, D.bl.injEq, D.tup.injEq, D.rl.injEq, D.wl.injEq, D.obj.injEq, D.str.injEq, forall_const, Option.map_some, List.cons_append, List.nil_append, List.length_cons, List.length_nil]))
    have hd : (nums bs).dropLast = nums bs.dropLast := by unfold nums; rw [List.map_dropLast]
    rw [hd]
    have h1 := Int.emod_nonneg (T bs (bs.length - 1)) (Int.ne_of_gt hk)
    have h2 := Int.emod_lt_of_pos (T bs (bs.length - 1)) hk
    have := hq (T bs (bs.length - 1) % k).toNat bs.dropLast (by omega)
    rw [Int.toNat_of_nonneg h1] at this
    exact ⟨hk, .here this⟩
theorem eqv_bl (b : Bool) : PyData.eqv (.bool b) (.bool b) = true := by cases b <;> rfl
theorem eqv_str (x : Str) : PyData.eqv (.str x) (.str x) = true := by simp [PyData.eqv]
/-! ### alike -/
def like : Nat → D → D → Bool
  | n, t, .tup ys => (match n, t with
    | n + 1, .tup xs => xs.length == ys.length && (xs.zip ys).all fun p => like n p.1 p.2
    | _, _ => false)
  | _, .bl a, .bl b => a == b
  | _, .int i, .int j => decide (i = j)
  | _, .str x, .str y => decide (x = y)
  | _, .non, .non => true
  | _, _, _ => false
/-- what is due: no lists, n tuples deep -/
def Due : Nat → D → Prop
  | 0, .tup _ => False
  | n + 1, .tup xs => xs.length ≤ big ∧ ∀ x, x ∈ xs → Due n x
  | _, .non => True
  | _, .bl _ => True
  | _, .int _ => True
  | _, .str x => SeqAt.shaped (.str x) = true
  | _, _ => False
/-- what is told -/
def Told : Nat → Mp → D → Prop
  | 0, _, .tup _ => True
  | n + 1, M, .tup xs => ∀ x, x ∈ xs → Told n M x
  | _, M, .obj a => M a ≠ none
  | _, _, .str x => SeqAt.shaped (.str x) = true
  | _, _, .exc _ _ _ => False
  | _, _, _ => True
def sp_like (n : Nat) : Spec := fun ds M Q _ => ∃ t d, ds = [t, d] ∧ Due n d ∧ Told n M t ∧ Q (.bl (like n t d)) M
theorem w_like {n : Nat} (g : ∀ m, n = m + 1 → Γ.call g_law_like = sp_like m) {ds M Q E} (h : sp_like n ds M Q E) : wpB Γ b_law_like (startD n_law_like ds) M (Kret Q E) := by
  obtain ⟨t, d, rfl, hd, ht, hq⟩ := h
  show wpB Γ b_law_like [some t, some d, none] M (Kret Q E)
  unfold b_law_like
  have no : ∀ {a : Addr}, Told n M (.obj a) → ∃ xs, M a = some (.lst xs) := fun {a} h => by
    cases e : M a with
    | none => cases n <;> exact absurd e h
    | some o => cases o; exact ⟨_, rfl⟩
  cases d with
  | tup ys =>
    cases n with
    | zero => exact hd.elim
    | succ m =>
      obtain ⟨hl, hy⟩ := hd
      unfold big at hl
      cases t with
      | tup xs =>
        ((try with_reducible refine nx_of ?_); simp only [↓B_one, ↓B_cons, ↓B_nil, ↓S_skip, ↓S_set, ↓S_unp, ↓S_par, ↓S_aug, ↓S_sto, ↓S_stg, ↓S_ex, ↓S_ret, ↓S_retn, ↓S_ite, ↓S_for, ↓S_whl, ↓S_brk, ↓S_cnt, ↓S_rais, ↓S_thru, ↓E_var, ↓look_0, ↓look_s, ↓E_ci, ↓E_cb, ↓E_cn, ↓E_cs, ↓E_bin, ↓E_un, ↓E_no, ↓E_an, ↓E_or, ↓E_cmp, ↓E_ch, ↓E_ife, ↓E_tup, ↓E_lst, ↓E_ix, ↓E_sl, ↓E_rev, ↓E_call, ↓E_callk, ↓E_blt, ↓E_mth, ↓E_ixc, ↓E_inc, ↓E_isi, ↓E_lrg, ↓E_lc, ↓E_fld, ↓E_isx, isW, fldW, isxW, N_exc, seq_rt, seq_bk, seq_ct, seq_ex, loop_rt, loop_bk, loop_ex, ret_nx, ret_rt', wpA, wpT, wpAnE, wpOrE, wpAnT, wpOrT, wpC, wpI, binW, addW, mulW, intW, CNo, CPos, CNN, unW, cmpW, eqW, ordW, ixW, B_len, B_int, B_abs, B_min, B_max, B_sum, B_tuple, B_list, lenW, int1W, absW, minW, maxW, sumW, tupleW, listW, augW, M_append, M_pop, ownL, stoW, getW, tgW, setAll, lrgW, partW, isCn, slW, revW, inW, truth, isAny, tyName, kit_NoneType_tuple, kit_NoneType_bool, kit_NoneType_int, kit_NoneType_str, kit_NoneType_list, kit_bool_tuple, kit_bool_bool, kit_bool_int, kit_bool_str, kit_bool_list, kit_int_tuple, kit_int_bool, kit_int_int, kit_int_str, kit_int_list, kit_str_tuple, kit_str_bool, kit_str_int, kit_str_str, kit_str_list, kit_tuple_tuple, kit_tuple_bool, kit_tuple_int, kit_tuple_str, kit_tuple_list, kit_list_tuple, kit_list_bool, kit_list_int, kit_list_str, kit_list_list, N_non, N_bl, N_int, N_str, N_tup, N_rl, N_wl, N_obj, I_tup, I_rl, I_wl, I_obj, LL_rl, LL_obj, O.xs, newL, wipeD, List.getElem?_cons_zero, List.getElem?_cons_succ, List.getElem?_nil, List.set_cons_zero, List.set_cons_succ, Option.some.injEq, exists_and_left, exists_eq', exists_eq, exists_eq_left', exists_eq_left, true_and, and_true, Bool.not_true, Bool.not_false, reduceCtorEq, ite_true, ite_false, if_true, if_false, String.reduceEq, D.int.injEq, D.bl.injEq, D.tup.injEq, D.rl.injEq, D.wl.injEq, D.obj.injEq, D.str.injEq, forall_const, Option.map_some, List.cons_append, List.nil_append, List.length_cons, List.length_nil, Int.toNat_natCast]; repeat (with_reducible refine nx_of ?_; simp only [↓B_one, ↓B_cons, ↓B_nil, ↓S_skip, ↓S_set, ↓S_unp, ↓S_par, ↓S_aug, ↓S_sto, ↓S_stg, ↓S_ex, ↓S_ret, ↓S_retn, ↓S_ite, ↓S_for, ↓S_whl, ↓S_brk, ↓S_cnt, ↓S_rais, ↓S_thru, ↓E_var, ↓look_0, ↓look_s, ↓E_ci, ↓E_cb, ↓E_cn, ↓E_cs, ↓E_bin, ↓E_un, ↓E_no, ↓E_an, ↓E_or, ↓E_cmp, ↓E_ch, ↓E_ife, ↓E_tup, ↓E_lst, ↓E_ix, ↓E_sl, ↓E_rev, ↓E_call, ↓E_callk, ↓E_blt, ↓E_mth, ↓E_ixc, ↓E_inc, ↓E_isi, ↓E_lrg, ↓E_lc, ↓E_fld, ↓E_isx, isW, fldW, isxW, N_exc, seq_rt, seq_bk, seq_ct, seq_ex, loop_rt, loop_bk, loop_ex, ret_nx, ret_rt', wpA, wpT, wpAnE, wpOrE, wpAnT, wpOrT, wpC, wpI, binW, addW, mulW, intW, CNo, CPos, CNN, unW, cmpW, eqW, ordW, ixW, B_len, B_int, B_abs, B_min, B_max, B_sum, B_tuple, B_list, lenW, int1W, absW, minW, maxW, sumW, tupleW, listW, augW, M_append, M_pop, ownL, stoW, getW, tgW, setAll, lrgW, partW, isCn, slW, revW, inW, truth, isAny, tyName, kit_NoneType_tuple, kit_NoneType_bool, kit_NoneType_int, kit_NoneType_str, kit_NoneType_list, kit_bool_tuple, kit_bool_bool, kit_bool_int, kit_bool_str, kit_bool_list, kit_int_tuple, kit_int_bool, kit_int_int, kit_int_str, kit_int_list, kit_str_tuple, kit_str_bool, kit_str_int, kit_str_str, kit_str_list, kit_tuple_tuple, kit_tuple_bool, kit_tuple_int, kit_tuple_str, kit_tuple_list, kit_list_tuple, kit_list_bool, kit_list_int, kit_list_str, kit_list_list, N_non, N_bl, N_int, N_str, N_tup, N_rl, N_wl, N_obj, I_tup, I_rl, I_wl, I_obj, LL_rl, LL_obj, O.xs, newL, wipeD, List.getElem?_cons_zero, List.getElem?_cons_succ, List.getElem?_nil, List.set_cons_zero, List.set_cons_succ, Option.some.injEq, exists_and_left, exists_eq', exists_eq, exists_eq_left', exists_eq_left, true_and, and_true, Bool.not_true, Bool.not_false, reduceCtorEq, ite_true, ite_false, if_true, if_false, String.reduceEq, D.int.injEq, D.bl.injEq, D.tup.injEq, D.rl.injEq, D.wl.injEq, D.obj.injEq, D.str.injEq, forall_const, Option.map_some, List.cons_append, List.nil_append, List.length_cons, List.length_nil, Int.toNat_natCast]))
        by_cases c : xs.length = ys.length
        · have c' : ((xs.length : Nat) : Int) = ys.length := by exact_mod_cast c
          simp only [c', decide_true, Bool.not_true]
          ((try with_reducible refine nx_of ?_); simp only [↓B_one, ↓B_cons, ↓B_nil, ↓S_skip, ↓S_set, ↓S_unp, ↓S_par, ↓S_aug, ↓S_sto, ↓S_stg, ↓S_ex, ↓S_ret, ↓S_retn, ↓S_ite, ↓S_for, ↓S_whl, ↓S_brk, ↓S_cnt, ↓S_rais, ↓S_thru, ↓E_var, ↓look_0, ↓look_s, ↓E_ci, ↓E_cb, ↓E_cn, ↓E_cs, ↓E_bin, ↓E_un, ↓E_no, ↓E_an, ↓E_or, ↓E_cmp, ↓E_ch, ↓E_ife, ↓E_tup, ↓E_lst, ↓E_ix, ↓E_sl, ↓E_rev, ↓E_call, ↓E_callk, ↓E_blt, ↓E_mth, ↓E_ixc, ↓E_inc, ↓E_isi, ↓E_lrg, ↓E_lc, ↓E_fld, ↓E_isx, isW, fldW, isxW, N_exc, seq_rt, seq_bk, seq_ct, seq_ex, loop_rt, loop_bk, loop_ex, ret_nx, ret_rt', wpA, wpT, wpAnE, wpOrE, wpAnT, wpOrT, wpC, wpI, binW, addW, mulW, intW, CNo, CPos, CNN, unW, cmpW, eqW, ordW, ixW, B_len, B_int, B_abs, B_min, B_max, B_sum, B_tuple, B_list, lenW, int1W, absW, minW, maxW, sumW, tupleW, listW, augW, M_append, M_pop, ownL, stoW, getW, tgW, setAll, lrgW, partW, isCn, slW, revW, inW, truth, isAny, tyName, kit_NoneType_tuple, kit_NoneType_bool, kit_NoneType_int, kit_NoneType_str, kit_NoneType_list, kit_bool_tuple, kit_bool_bool, kit_bool_int, kit_bool_str, kit_bool_list, kit_int_tuple, kit_int_bool, kit_int_int, kit_int_str, kit_int_list, kit_str_tuple, kit_str_bool, kit_str_int, kit_str_str, kit_str_list, kit_tuple_tuple, kit_tuple_bool, kit_tuple_int, kit_tuple_str, kit_tuple_list, kit_list_tuple, kit_list_bool, kit_list_int, kit_list_str, kit_list_list, N_non, N_bl, N_int, N_str, N_tup, N_rl, N_wl, N_obj, I_tup, I_rl, I_wl, I_obj, LL_rl, LL_obj, O.xs, newL, wipeD, List.getElem?_cons_zero, List.getElem?_cons_succ, List.getElem?_nil, List.set_cons_zero, List.set_cons_succ, Option.some.injEq, exists_and_left, exists_eq', exists_eq, exists_eq_left', exists_eq_left, true_and, and_true, Bool.not_true, Bool.not_false, reduceCtorEq, ite_true, ite_false, if_true, if_false, String.reduceEq, D.int.injEq, D.bl.injEq, D.tup.injEq, D.rl.injEq, D.wl.injEq, D.obj.injEq, D.str.injEq, forall_const, Option.map_some, List.cons_append, List.nil_append, List.length_cons, List.length_nil, Int.toNat_natCast]; repeat (with_reducible refine nx_of ?_; simp only [↓B_one, ↓B_cons, ↓B_nil, ↓S_skip, ↓S_set, ↓S_unp, ↓S_par, ↓S_aug, ↓S_sto, ↓S_stg, ↓S_ex, ↓S_ret, ↓S_retn, ↓S_ite, ↓S_for, ↓S_whl, ↓S_brk, ↓S_cnt, ↓S_rais, ↓S_thru, ↓E_var, ↓look_0, ↓look_s, ↓E_ci, ↓E_cb, ↓E_cn, ↓E_cs, ↓E_bin, ↓E_un, ↓E_no, ↓E_an, ↓E_or, ↓E_cmp, ↓E_ch, ↓E_ife, ↓E_tup, ↓E_lst, ↓E_ix, ↓E_sl, ↓E_rev, ↓E_call, ↓E_callk, ↓E_blt, ↓E_mth, ↓E_ixc, ↓E_inc, ↓E_isi, ↓E_lrg, ↓E_lc, ↓E_fld, ↓E_isx, isW, fldW, isxW, N_exc, seq_rt, seq_bk, seq_ct, seq_ex, loop_rt, loop_bk, loop_ex, ret_nx, ret_rt', wpA, wpT, wpAnE, wpOrE, wpAnT, wpOrT, wpC, wpI, binW, addW, mulW, intW, CNo, CPos, CNN, unW, cmpW, eqW, ordW, ixW, B_len, B_int, B_abs, B_min, B_max, B_sum, B_tuple, B_list, lenW, int1W, absW, minW, maxW, sumW, tupleW, listW, augW, M_append, M_pop, ownL, stoW, getW, tgW, setAll, lrgW, partW, isCn, slW, revW, inW, truth, isAny, tyName, kit_NoneType_tuple, kit_NoneType_bool, kit_NoneType_int, kit_NoneType_str, kit_NoneType_list, kit_bool_tuple, kit_bool_bool, kit_bool_int, kit_bool_str, kit_bool_list, kit_int_tuple, kit_int_bool, kit_int_int, kit_int_str, kit_int_list, kit_str_tuple, kit_str_bool, kit_str_int, kit_str_str, kit_str_list, kit_tuple_tuple, kit_tuple_bool, kit_tuple_int, kit_tuple_str, kit_tuple_list, kit_list_tuple, kit_list_bool, kit_list_int, kit_list_str, kit_list_list, N_non, N_bl, N_int, N_str, N_tup, N_rl, N_wl, N_obj, I_tup, I_rl, I_wl, I_obj, LL_rl, LL_obj, O.xs, newL, wipeD, List.getElem?_cons_zero, List.getElem?_cons_succ, List.getElem?_nil, List.set_cons_zero, List.set_cons_succ, Option.some.injEq, exists_and_left, exists_eq', exists_eq, exists_eq_left', exists_eq_left, true_and, and_true, Bool.not_true, Bool.not_false, reduceCtorEq, ite_true, ite_false, if_true, if_false, String.reduceEq, D.int.injEq, D.bl.injEq, D.tup.injEq, D.rl.injEq, D.wl.injEq, D.obj.injEq, D.str.injEq, forall_const, Option.map_some, List.cons_append, List.nil_append, List.length_cons, List.length_nil, Int.toNat_natCast]))
          refine ⟨by omega, by omega, ?_⟩
          rw [rng0]
          refine loop_range (fun i μ M' => M' = M ∧ (∀ k, k < i → ∀ x y, xs[k]? = some x → ys[k]? = some y → like m x y = true) ∧ ∃ z, μ = [some (.tup xs), some (.tup ys), z]) ⟨rfl, fun k hk => absurd hk (Nat.not_lt_zero _), _, rfl⟩ ?_ ?_
          · rintro i μ M' hi ⟨rfl, hp, z, rfl⟩
            have hi2 : i < xs.length := by omega
            have e1 : atI xs (((0 + i : Nat)) : Int) = some xs[i] := atI_nat (by rw [Nat.zero_add]; exact List.getElem?_eq_getElem hi2)
            have e2 : atI ys (((0 + i : Nat)) : Int) = some ys[i] := atI_nat (by rw [Nat.zero_add]; exact List.getElem?_eq_getElem hi)
            ((try with_reducible refine nx_of ?_); simp only [↓B_one, ↓B_cons, ↓B_nil, ↓S_skip, ↓S_set, ↓S_unp, ↓S_par, ↓S_aug, ↓S_sto, ↓S_stg, ↓S_ex, ↓S_ret, ↓S_retn, ↓S_ite, ↓S_for, ↓S_whl, ↓S_brk, ↓S_cnt, ↓S_rais, ↓S_thru, ↓E_var, ↓look_0, ↓look_s, ↓E_ci, ↓E_cb, ↓E_cn, ↓E_cs, ↓E_bin, ↓E_un, ↓E_no, ↓E_an, ↓E_or, ↓E_cmp, ↓E_ch, ↓E_ife, ↓E_tup, ↓E_lst, ↓E_ix, ↓E_sl, ↓E_rev, ↓E_call, ↓E_callk, ↓E_blt, ↓E_mth, ↓E_ixc, ↓E_inc, ↓E_isi, ↓E_lrg, ↓E_lc, ↓E_fld, ↓E_isx, isW, fldW, isxW, N_exc, seq_rt, seq_bk, seq_ct, seq_ex, loop_rt, loop_bk, loop_ex, ret_nx, ret_rt', wpA, wpT, wpAnE, wpOrE, wpAnT, wpOrT, wpC, wpI, binW, addW, mulW, intW, CNo, CPos, CNN, unW, cmpW, eqW, ordW, ixW, B_len, B_int, B_abs, B_min, B_max, B_sum, B_tuple, B_list, lenW, int1W, absW, minW, maxW, sumW, tupleW, listW, augW, M_append, M_pop, ownL, stoW, getW, tgW, setAll, lrgW, partW, isCn, slW, revW, inW, truth, isAny, tyName, kit_NoneType_tuple, kit_NoneType_bool, kit_NoneType_int, kit_NoneType_str, kit_NoneType_list, kit_bool_tuple, kit_bool_bool, kit_bool_int, kit_bool_str, kit_bool_list, kit_int_tuple, kit_int_bool, kit_int_int, kit_int_str, kit_int_list, kit_str_tuple, kit_str_bool, kit_str_int, kit_str_str, kit_str_list, kit_tuple_tuple, kit_tuple_bool, kit_tuple_int, kit_tuple_str, kit_tuple_list, kit_list_tuple, kit_list_bool, kit_list_int, kit_list_str, kit_list_list, N_non, N_bl, N_int, N_str, N_tup, N_rl, N_wl, N_obj, I_tup, I_rl, I_wl, I_obj, LL_rl, LL_obj, O.xs, newL, wipeD, List.getElem?_cons_zero, List.getElem?_cons_succ, List.getElem?_nil, List.set_cons_zero, List.set_cons_succ, Option.some.injEq, exists_and_left, exists_eq', exists_eq, exists_eq_left', exists_eq_left, true_and, and_true, Bool.not_true, Bool.not_false, reduceCtorEq, ite_true, ite_false, if_true, if_false, String.reduceEq, D.int.injEq, D.bl.injEq, D.tup.injEq, D.rl.injEq, D.wl.injEq, D.obj.injEq, D.str.injEq, forall_const, Option.map_some, List.cons_append, List.nil_append, List.length_cons, List.length_nil, e1, e2, g m rfl]; repeat (with_reducible refine nx_of ?_; simp only [↓B_one, ↓B_cons, ↓B_nil, ↓S_skip, ↓S_set, ↓S_unp, ↓S_par, ↓S_aug, ↓S_sto, ↓S_stg, ↓S_ex, ↓S_ret, ↓S_retn, ↓S_ite, ↓S_for, ↓S_whl, ↓S_brk, ↓S_cnt, ↓S_rais, ↓S_thru, ↓E_var, ↓look_0, ↓look_s, ↓E_ci, ↓E_cb, ↓E_cn, ↓E_cs, ↓E_bin, ↓E_un, ↓E_no, ↓E_an, ↓E_or, ↓E_cmp, ↓E_ch, ↓E_ife, ↓E_tup, ↓E_lst, ↓E_ix, ↓E_sl, ↓E_rev, ↓E_call, ↓E_callk, ↓E_blt, ↓E_mth, ↓E_ixc, ↓E_inc, ↓E_isi, ↓E_lrg, ↓E_lc, ↓E_fld, ↓E_isx, isW, fldW, isxW, N_exc, seq_rt, seq_bk, seq_ct, seq_ex, loop_rt, loop_bk, loop_ex, ret_nx, ret_rt', wpA, wpT, wpAnE, wpOrE, wpAnT, wpOrT, wpC, wpI, binW, addW, mulW, intW, CNo, CPos, CNN, unW, cmpW, eqW, ordW, ixW, B_len, B_int, B_abs, B_min, B_max, B_sum, B_tuple, B_list, lenW, int1W, absW, minW, maxW, sumW, tupleW, listW, augW, M_append, M_pop, ownL, stoW, getW, tgW, setAll, lrgW, partW, isCn, slW, revW, inW, truth, isAny, tyName, kit_NoneType_tuple, kit_NoneType_bool, kit_NoneType_int, kit_NoneType_str, kit_NoneType_list, kit_bool_tuple, kit_bool_bool, kit_bool_int, kit_bool_str, kit_bool_list, kit_int_tuple, kit_int_bool, kit_int_int, kit_int_str, kit_int_list, kit_str_tuple, kit_str_bool, kit_str_int, kit_str_str, kit_str_list, kit_tuple_tuple, kit_tuple_bool, kit_tuple_int, kit_tuple_str, kit_tuple_list, kit_list_tuple, kit_list_bool, kit_list_int, kit_list_str, kit_list_list, N_non, N_bl, N_int, N_str, N_tup, N_rl, N_wl, N_obj, I_tup, I_rl, I_wl, I_obj, LL_rl, LL_obj, O.xs, newL, wipeD, List.getElem?_cons_zero, List.getElem?_cons_succ, List.getElem?_nil, List.set_cons_zero, List.set_cons_succ, Option.some.injEq, exists_and_left, exists_eq', exists_eq, exists_eq_left', exists_eq_left, true_and, and_true, Bool.not_true, Bool.not_false, reduceCtorEq, ite_true, ite_false, if_true, if_false, String.reduceEq, D.int.injEq, D.bl.injEq, D.tup.injEq, D.rl.injEq, D.wl.injEq, D.obj.injEq, D.str.injEq, forall_const, Option.map_some, List.cons_append, List.nil_append, List.length_cons, List.length_nil, e1, e2, g m rfl]))
            refine ⟨_, _, rfl, hy _ (List.getElem_mem hi), ht _ (List.getElem_mem hi2), ?_⟩
            cases c2 : like m xs[i] ys[i] with
            | true =>
              ((try with_reducible refine nx_of ?_); simp only [↓B_one, ↓B_cons, ↓B_nil, ↓S_skip, ↓S_set, ↓S_unp, ↓S_par, ↓S_aug, ↓S_sto, ↓S_stg, ↓S_ex, ↓S_ret, ↓S_retn, ↓S_ite, ↓S_for, ↓S_whl, ↓S_brk, ↓S_cnt, ↓S_rais, ↓S_thru, ↓E_var, ↓look_0, ↓look_s, ↓E_ci, ↓E_cb, ↓E_cn, ↓E_cs, ↓E_bin, ↓E_un, ↓E_no, ↓E_an, ↓E_or, ↓E_cmp, ↓E_ch, ↓E_ife, ↓E_tup, ↓E_lst, ↓E_ix, ↓E_sl, ↓E_rev, ↓E_call, ↓E_callk, ↓E_blt, ↓E_mth, ↓E_ixc, ↓E_inc, ↓E_isi, ↓E_lrg, ↓E_lc, ↓E_fld, ↓E_isx, isW, fldW, isxW, N_exc, seq_rt, seq_bk, seq_ct, seq_ex, loop_rt, loop_bk, loop_ex, ret_nx, ret_rt', wpA, wpT, wpAnE, wpOrE, wpAnT, wpOrT, wpC, wpI, binW, addW, mulW, intW, CNo, CPos, CNN, unW, cmpW, eqW, ordW, ixW, B_len, B_int, B_abs, B_min, B_max, B_sum, B_tuple, B_list, lenW, int1W, absW, minW, maxW, sumW, tupleW, listW, augW, M_append, M_pop, ownL, stoW, getW, tgW, setAll, lrgW, partW, isCn, slW, revW, inW, truth, isAny, tyName, kit_NoneType_tuple, kit_NoneType_bool, kit_NoneType_int, kit_NoneType_str, kit_NoneType_list, kit_bool_tuple, kit_bool_bool, kit_bool_int, kit_bool_str, kit_bool_list, kit_int_tuple, kit_int_bool, kit_int_int, kit_int_str, kit_int_list, kit_str_tuple, kit_str_bool, kit_str_int, kit_str_str, kit_str_list, kit_tuple_tuple, kit_tuple_bool, kit_tuple_int, kit_tuple_str, kit_tuple_list, kit_list_tuple, kit_list_bool, kit_list_int, kit_list_str, kit_list_list, N_non, N_bl, N_int, N_str, N_tup, N_rl, N_wl, N_obj, I_tup, I_rl, I_wl, I_obj, LL_rl, LL_obj, O.xs, newL, wipeD, List.getElem?_cons_zero, List.getElem?_cons_succ, List.getElem?_nil, List.set_cons_zero, List.set_cons_succ, Option.some.injEq, exists_and_left, exists_eq', exists_eq, exists_eq_left', exists_eq_left, true_and, and_true, Bool.not_true, Bool.not_false, reduceCtorEq, ite_true, ite_false, if_true, if_false, String.reduceEq, D.int.injEq, D.bl.injEq, D.tup.injEq, D.rl.injEq, D.wl.injEq, D.obj.injEq, D.str.injEq, forall_const, Option.map_some, List.cons_append, List.nil_append, List.length_cons, List.length_nil]; repeat (with_reducible refine nx_of ?_; simp only [↓B_one, ↓B_cons, ↓B_nil, ↓S_skip, ↓S_set, ↓S_unp, ↓S_par, ↓S_aug, ↓S_sto, ↓S_stg, ↓S_ex, ↓S_ret, ↓S_retn, ↓S_ite, ↓S_for, ↓S_whl, ↓S_brk, ↓S_cnt, ↓S_rais, ↓S_thru, ↓E_var, ↓look_0, ↓look_s, ↓E_ci, ↓E_cb, ↓E_cn, ↓E_cs, ↓E_bin, ↓E_un, ↓E_no, ↓E_an, ↓E_or, ↓E_cmp, ↓E_ch, ↓E_ife, ↓E_tup, ↓E_lst, ↓E_ix, ↓E_sl, ↓E_rev, ↓E_call, ↓E_callk, ↓E_blt, ↓E_mth, ↓E_ixc, ↓E_inc, ↓E_isi, ↓E_lrg, ↓E_lc, ↓E_fld, ↓E_isx, isW, fldW, isxW, N_exc, seq_rt, seq_bk, seq_ct, seq_ex, loop_rt, loop_bk, loop_ex, ret_nx, ret_rt', wpA, wpT, wpAnE, wpOrE, wpAnT, wpOrT, wpC, wpI, binW, addW, mulW, intW, CNo, CPos, CNN, unW, cmpW, eqW, ordW, ixW, B_len, B_int, B_abs, B_min, B_max, B_sum, B_tuple, B_list, lenW, int1W, absW, minW, maxW, sumW, tupleW, listW, augW, M_append, M_pop, ownL, stoW, getW, tgW, setAll, lrgW, partW, isCn, slW, revW, inW, truth, isAny, tyName, kit_NoneType_tuple, kit_NoneType_bool, kit_NoneType_int, kit_NoneType_str, kit_NoneType_list, kit_bool_tuple, kit_bool_bool, kit_bool_int, kit_bool_str, kit_bool_list, kit_int_tuple, kit_int_bool, kit_int_int, kit_int_str, kit_int_list, kit_str_tuple, kit_str_bool, kit_str_int, kit_str_str, kit_str_list, kit_tuple_tuple, kit_tuple_bool, kit_tuple_int, kit_tuple_str, kit_tuple_list, kit_list_tuple, kit_list_bool, kit_list_int, kit_list_str, kit_list_list, N_non, N_bl, N_int, N_str, N_tup, N_rl, N_wl, N_obj, I_tup, I_rl, I_wl, I_obj, LL_rl, LL_obj, O.xs, newL, wipeD, List.getElem?_cons_zero, List.getElem?_cons_succ, List.getElem?_nil, List.set_cons_zero, List.set_cons_succ, Option.some.injEq, exists_and_left, exists_eq', exists_eq, exists_eq_left', exists_eq_left, true_and, and_true, Bool.not_true, Bool.not_false, reduceCtorEq, ite_true, ite_false, if_true, if_false, String.reduceEq, D.int.injEq, D.bl.injEq, D.tup.injEq, D.rl.injEq, D.wl.injEq, D.obj.injEq, D.str.injEq, forall_const, Option.map_some, List.cons_append, List.nil_append, List.length_cons, List.length_nil]))
              refine ⟨_, .refl _, rfl, fun k hk x y h1 h2 => ?_, _, rfl⟩
              by_cases c3 : k = i
              · subst c3
                rw [List.getElem?_eq_getElem hi2] at h1
                rw [List.getElem?_eq_getElem hi] at h2
                cases h1
                cases h2
                exact c2
              · exact hp k (by omega) x y h1 h2
            | false =>
              ((try with_reducible refine nx_of ?_); simp only [↓B_one, ↓B_cons, ↓B_nil, ↓S_skip, ↓S_set, ↓S_unp, ↓S_par, ↓S_aug, ↓S_sto, ↓S_stg, ↓S_ex, ↓S_ret, ↓S_retn, ↓S_ite, ↓S_for, ↓S_whl, ↓S_brk, ↓S_cnt, ↓S_rais, ↓S_thru, ↓E_var, ↓look_0, ↓look_s, ↓E_ci, ↓E_cb, ↓E_cn, ↓E_cs, ↓E_bin, ↓E_un, ↓E_no, ↓E_an, ↓E_or, ↓E_cmp, ↓E_ch, ↓E_ife, ↓E_tup, ↓E_lst, ↓E_ix, ↓E_sl, ↓E_rev, ↓E_call, ↓E_callk, ↓E_blt, ↓E_mth, ↓E_ixc, ↓E_inc, ↓E_isi, ↓E_lrg, ↓E_lc, ↓E_fld, ↓E_isx, isW, fldW, isxW, N_exc, seq_rt, seq_bk, seq_ct, seq_ex, loop_rt, loop_bk, loop_ex, ret_nx, ret_rt', wpA, wpT, wpAnE, wpOrE, wpAnT, wpOrT, wpC, wpI, binW, addW, mulW, intW, CNo, CPos, CNN, unW, cmpW, eqW, ordW, ixW, B_len, B_int, B_abs, B_min, B_max, B_sum, B_tuple, B_list, lenW, int1W, absW, minW, maxW, sumW, tupleW, listW, augW, M_append, M_pop, ownL, stoW, getW, tgW, setAll, lrgW, partW, isCn, slW, revW, inW, truth, isAny, tyName, kit_NoneType_tuple, kit_NoneType_bool, kit_NoneType_int, kit_NoneType_str, kit_NoneType_list, kit_bool_tuple, kit_bool_bool, kit_bool_int, kit_bool_str, kit_bool_list, kit_int_tuple, kit_int_bool, kit_int_int, kit_int_str, kit_int_list, kit_str_tuple, kit_str_bool, kit_str_int, kit_str_str, kit_str_list, kit_tuple_tuple, kit_tuple_bool, kit_tuple_int, kit_tuple_str, kit_tuple_list, kit_list_tuple, kit_list_bool, kit_list_int, kit_list_str, kit_list_list, N_non, N_bl, N_int, N_str, N_tup, N_rl, N_wl, N_obj, I_tup, I_rl, I_wl, I_obj, LL_rl, LL_obj, O.xs, newL, wipeD, List.getElem?_cons_zero, List.getElem?_cons_succ, List.getElem?_nil, List.set_cons_zero, List.set_cons_succ, Option.some.injEq, exists_and_left, exists_eq', exists_eq, exists_eq_left', exists_eq_left, true_and, and_true, Bool.not_true, Bool.not_false, reduceCtorEq, ite_true, ite_false, if_true, if_false, String.reduceEq, D.int.injEq, D.bl.injEq, D.tup.injEq, D.rl.injEq, D.wl.injEq, D.obj.injEq, D.str.injEq, forall_const, Option.map_some, List.cons_append, List.nil_append, List.length_cons, List.length_nil]; repeat (with_reducible refine nx_of ?_; simp only [↓B_one, ↓B_cons, ↓B_nil, ↓S_skip, ↓S_set, ↓S_unp, ↓S_par, ↓S_aug, ↓S_sto, ↓S_stg, ↓S_ex, ↓S_ret, ↓S_retn, ↓S_ite, ↓S_for, ↓S_whl, ↓S_brk, ↓S_cnt, ↓S_rais, ↓S_thru, ↓E_var, ↓look_0, ↓look_s, ↓E_ci, ↓E_cb, ↓E_cn, ↓E_cs, ↓E_bin, ↓E_un, ↓E_no, ↓E_an, ↓E_or, ↓E_cmp, ↓E_ch, ↓E_ife, ↓E_tup, ↓E_lst, ↓E_ix, ↓E_sl, ↓E_rev, ↓E_call, ↓E_callk, ↓E_blt, ↓E_mth, ↓E_ixc, ↓E_inc, ↓E_isi, ↓E_lrg, ↓E_lc, ↓E_fld, ↓E_isx, isW, fldW, isxW, N_exc, seq_rt, seq_bk, seq_ct, seq_ex, loop_rt, loop_bk, loop_ex, ret_nx, ret_rt', wpA, wpT, wpAnE, wpOrE, wpAnT, wpOrT, wpC, wpI, binW, addW, mulW, intW, CNo, CPos, CNN, unW, cmpW, eqW, ordW, ixW, B_len, B_int, B_abs, B_min, B_max, B_sum, B_tuple, B_list, lenW, int1W, absW, minW, maxW, sumW, tupleW, listW, augW, M_append, M_pop, ownL, stoW, getW, tgW, setAll, lrgW, partW, isCn, slW, revW, inW, truth, isAny, tyName, kit_NoneType_tuple, kit_NoneType_bool, kit_NoneType_int, kit_NoneType_str, kit_NoneType_list, kit_bool_tuple, kit_bool_bool, kit_bool_int, kit_bool_str, kit_bool_list, kit_int_tuple, kit_int_bool, kit_int_int, kit_int_str, kit_int_list, kit_str_tuple, kit_str_bool, kit_str_int, kit_str_str, kit_str_list, kit_tuple_tuple, kit_tuple_bool, kit_tuple_int, kit_tuple_str, kit_tuple_list, kit_list_tuple, kit_list_bool, kit_list_int, kit_list_str, kit_list_list, N_non, N_bl, N_int, N_str, N_tup, N_rl, N_wl, N_obj, I_tup, I_rl, I_wl, I_obj, LL_rl, LL_obj, O.xs, newL, wipeD, List.getElem?_cons_zero, List.getElem?_cons_succ, List.getElem?_nil, List.set_cons_zero, List.set_cons_succ, Option.some.injEq, exists_and_left, exists_eq', exists_eq, exists_eq_left', exists_eq_left, true_and, and_true, Bool.not_true, Bool.not_false, reduceCtorEq, ite_true, ite_false, if_true, if_false, String.reduceEq, D.int.injEq, D.bl.injEq, D.tup.injEq, D.rl.injEq, D.wl.injEq, D.obj.injEq, D.str.injEq, forall_const, Option.map_some, List.cons_append, List.nil_append, List.length_cons, List.length_nil]))
              refine .here ?_
              have : like (m + 1) (.tup xs) (.tup ys) = false := by
                unfold like
                rw [Bool.and_eq_false_iff]
                right
                rw [List.all_eq_false]
                exact ⟨(xs[i], ys[i]), List.mem_iff_getElem.mpr ⟨i, by simp; omega, by simp⟩, by rw [c2]; simp⟩
              rw [this] at hq
              exact hq
          · rintro μ M' ⟨rfl, hp, z, rfl⟩
            ((try with_reducible refine nx_of ?_); simp only [↓B_one, ↓B_cons, ↓B_nil, ↓S_skip, ↓S_set, ↓S_unp, ↓S_par, ↓S_aug, ↓S_sto, ↓S_stg, ↓S_ex, ↓S_ret, ↓S_retn, ↓S_ite, ↓S_for, ↓S_whl, ↓S_brk, ↓S_cnt, ↓S_rais, ↓S_thru, ↓E_var, ↓look_0, ↓look_s, ↓E_ci, ↓E_cb, ↓E_cn, ↓E_cs, ↓E_bin, ↓E_un, ↓E_no, ↓E_an, ↓E_or, ↓E_cmp, ↓E_ch, ↓E_ife, ↓E_tup, ↓E_lst, ↓E_ix, ↓E_sl, ↓E_rev, ↓E_call, ↓E_callk, ↓E_blt, ↓E_mth, ↓E_ixc, ↓E_inc, ↓E_isi, ↓E_lrg, ↓E_lc, ↓E_fld, ↓E_isx, isW, fldW, isxW, N_exc, seq_rt, seq_bk, seq_ct, seq_ex, loop_rt, loop_bk, loop_ex, ret_nx, ret_rt', wpA, wpT, wpAnE, wpOrE, wpAnT, wpOrT, wpC, wpI, binW, addW, mulW, intW, CNo, CPos, CNN, unW, cmpW, eqW, ordW, ixW, B_len, B_int, B_abs, B_min, B_max, B_sum, B_tuple, B_list, lenW, int1W, absW, minW, maxW, sumW, tupleW, listW, augW, M_append, M_pop, ownL, stoW, getW, tgW, setAll, lrgW, partW, isCn, slW, revW, inW, truth, isAny, tyName, kit_NoneType_tuple, kit_NoneType_bool, kit_NoneType_int, kit_NoneType_str, kit_NoneType_list, kit_bool_tuple, kit_bool_bool, kit_bool_int, kit_bool_str, kit_bool_list, kit_int_tuple, kit_int_bool, kit_int_int, kit_int_str, kit_int_list, kit_str_tuple, kit_str_bool, kit_str_int, kit_str_str, kit_str_list, kit_tuple_tuple, kit_tuple_bool, kit_tuple_int, kit_tuple_str, kit_tuple_list, kit_list_tuple, kit_list_bool, kit_list_int, kit_list_str, kit_list_list, N_non, N_bl, N_int, N_str, N_tup, N_rl, N_wl, N_obj, I_tup, I_rl, I_wl, I_obj, LL_rl, LL_obj, O.xs, newL, wipeD, List.getElem?_cons_zero, List.getElem?_cons_succ, List.getElem?_nil, List.set_cons_zero, List.set_cons_succ, Option.some.injEq, exists_and_left, exists_eq', exists_eq, exists_eq_left', exists_eq_left, true_and, and_true, Bool.not_true, Bool.not_false, reduceCtorEq, ite_true, ite_false, if_true, if_false, String.reduceEq, D.int.injEq, D.bl.injEq, D.tup.injEq, D.rl.injEq, D.wl.injEq, D.obj.injEq, D.str.injEq, forall_const, Option.map_some, List.cons_append, List.nil_append, List.length_cons, List.length_nil]; repeat (with_reducible refine nx_of ?_; simp only [↓B_one, ↓B_cons, ↓B_nil, ↓S_skip, ↓S_set, ↓S_unp, ↓S_par, ↓S_aug, ↓S_sto, ↓S_stg, ↓S_ex, ↓S_ret, ↓S_retn, ↓S_ite, ↓S_for, ↓S_whl, ↓S_brk, ↓S_cnt, ↓S_rais, ↓S_thru, ↓E_var, ↓look_0, ↓look_s, ↓E_ci, ↓E_cb, ↓E_cn, ↓E_cs, ↓E_bin, ↓E_un, ↓E_no, ↓E_an, ↓E_or, ↓E_cmp, ↓E_ch, ↓E_ife, ↓E_tup, ↓E_lst, ↓E_ix, ↓E_sl, ↓E_rev, ↓E_call, ↓E_callk, ↓E_blt, ↓E_mth, ↓E_ixc, ↓E_inc, ↓E_isi, ↓E_lrg, ↓E_lc, ↓E_fld, ↓E_isx, isW, fldW, isxW, N_exc, seq_rt, seq_bk, seq_ct, seq_ex, loop_rt, loop_bk, loop_ex, ret_nx, ret_rt', wpA, wpT, wpAnE, wpOrE, wpAnT, wpOrT, wpC, wpI, binW, addW, mulW, intW, CNo, CPos, CNN, unW, cmpW, eqW, ordW, ixW, B_len, B_int, B_abs, B_min, B_max, B_sum, B_tuple, B_list, lenW, int1W, absW, minW, maxW, sumW, tupleW, listW, augW, M_append, M_pop, ownL, stoW, getW, tgW, setAll, lrgW, partW, isCn, slW, revW, inW, truth, isAny, tyName, kit_NoneType_tuple, kit_NoneType_bool, kit_NoneType_int, kit_NoneType_str, kit_NoneType_list, kit_bool_tuple, kit_bool_bool, kit_bool_int, kit_bool_str, kit_bool_list, kit_int_tuple, kit_int_bool, kit_int_int, kit_int_str, kit_int_list, kit_str_tuple, kit_str_bool, kit_str_int, kit_str_str, kit_str_list, kit_tuple_tuple, kit_tuple_bool, kit_tuple_int, kit_tuple_str, kit_tuple_list, kit_list_tuple, kit_list_bool, kit_list_int, kit_list_str, kit_list_list, N_non, N_bl, N_int, N_str, N_tup, N_rl, N_wl, N_obj, I_tup, I_rl, I_wl, I_obj, LL_rl, LL_obj, O.xs, newL, wipeD, List.getElem?_cons_zero, List.getElem?_cons_succ, List.getElem?_nil, List.set_cons_zero, List.set_cons_succ, Option.some.injEq, exists_and_left, exists_eq', exists_eq, exists_eq_left', exists_eq_left, true_and, and_true, Bool.not_true, Bool.not_false, reduceCtorEq, ite_true, ite_false, if_true, if_false, String.reduceEq, D.int.injEq, D.bl.injEq, D.tup.injEq, D.rl.injEq, D.wl.injEq, D.obj.injEq, D.str.injEq, forall_const, Option.map_some, List.cons_append, List.nil_append, List.length_cons, List.length_nil]))
            refine .here ?_
            have : like (m + 1) (.tup xs) (.tup ys) = true := by
              unfold like
              rw [Bool.and_eq_true]
              refine ⟨by simp [c], List.all_eq_true.mpr fun p hp2 => ?_⟩
              obtain ⟨k, hk, e⟩ := List.mem_iff_getElem.mp hp2
              rw [List.length_zip] at hk
              rw [List.getElem_zip] at e
              subst e
              exact hp k (by omega) _ _ (List.getElem?_eq_getElem (by omega)) (List.getElem?_eq_getElem (by omega))
            rw [this] at hq
            exact hq
        · have c' : ¬ ((xs.length : Nat) : Int) = ys.length := by exact_mod_cast c
          simp only [c', decide_false, Bool.not_false]
          refine .here ?_
          have : like (m + 1) (.tup xs) (.tup ys) = false := by
            unfold like
            simp [c]
          rw [this] at hq
          exact hq
      | exc _ _ _ => exact ht.elim
      | obj a =>
        obtain ⟨xs, e⟩ := no ht
        ((try with_reducible refine nx_of ?_); simp only [↓B_one, ↓B_cons, ↓B_nil, ↓S_skip, ↓S_set, ↓S_unp, ↓S_par, ↓S_aug, ↓S_sto, ↓S_stg, ↓S_ex, ↓S_ret, ↓S_retn, ↓S_ite, ↓S_for, ↓S_whl, ↓S_brk, ↓S_cnt, ↓S_rais, ↓S_thru, ↓E_var, ↓look_0, ↓look_s, ↓E_ci, ↓E_cb, ↓E_cn, ↓E_cs, ↓E_bin, ↓E_un, ↓E_no, ↓E_an, ↓E_or, ↓E_cmp, ↓E_ch, ↓E_ife, ↓E_tup, ↓E_lst, ↓E_ix, ↓E_sl, ↓E_rev, ↓E_call, ↓E_callk, ↓E_blt, ↓E_mth, ↓E_ixc, ↓E_inc, ↓E_isi, ↓E_lrg, ↓E_lc, ↓E_fld, ↓E_isx, isW, fldW, isxW, N_exc, seq_rt, seq_bk, seq_ct, seq_ex, loop_rt, loop_bk, loop_ex, ret_nx, ret_rt', wpA, wpT, wpAnE, wpOrE, wpAnT, wpOrT, wpC, wpI, binW, addW, mulW, intW, CNo, CPos, CNN, unW, cmpW, eqW, ordW, ixW, B_len, B_int, B_abs, B_min, B_max, B_sum, B_tuple, B_list, lenW, int1W, absW, minW, maxW, sumW, tupleW, listW, augW, M_append, M_pop, ownL, stoW, getW, tgW, setAll, lrgW, partW, isCn, slW, revW, inW, truth, isAny, tyName, kit_NoneType_tuple, kit_NoneType_bool, kit_NoneType_int, kit_NoneType_str, kit_NoneType_list, kit_bool_tuple, kit_bool_bool, kit_bool_int, kit_bool_str, kit_bool_list, kit_int_tuple, kit_int_bool, kit_int_int, kit_int_str, kit_int_list, kit_str_tuple, kit_str_bool, kit_str_int, kit_str_str, kit_str_list, kit_tuple_tuple, kit_tuple_bool, kit_tuple_int, kit_tuple_str, kit_tuple_list, kit_list_tuple, kit_list_bool, kit_list_int, kit_list_str, kit_list_list, N_non, N_bl, N_int, N_str, N_tup, N_rl, N_wl, N_obj, I_tup, I_rl, I_wl, I_obj, LL_rl, LL_obj, O.xs, newL, wipeD, List.getElem?_cons_zero, List.getElem?_cons_succ, List.getElem?_nil, List.set_cons_zero, List.set_cons_succ, Option.some.injEq, exists_and_left, exists_eq', exists_eq, exists_eq_left', exists_eq_left, true_and, and_true, Bool.not_true, Bool.not_false, reduceCtorEq, ite_true, ite_false, if_true, if_false, String.reduceEq, D.int.injEq, D.bl.injEq, D.tup.injEq, D.rl.injEq, D.wl.injEq, D.obj.injEq, D.str.injEq, forall_const, Option.map_some, List.cons_append, List.nil_append, List.length_cons, List.length_nil, e]; repeat (with_reducible refine nx_of ?_; simp only [↓B_one, ↓B_cons, ↓B_nil, ↓S_skip, ↓S_set, ↓S_unp, ↓S_par, ↓S_aug, ↓S_sto, ↓S_stg, ↓S_ex, ↓S_ret, ↓S_retn, ↓S_ite, ↓S_for, ↓S_whl, ↓S_brk, ↓S_cnt, ↓S_rais, ↓S_thru, ↓E_var, ↓look_0, ↓look_s, ↓E_ci, ↓E_cb, ↓E_cn, ↓E_cs, ↓E_bin, ↓E_un, ↓E_no, ↓E_an, ↓E_or, ↓E_cmp, ↓E_ch, ↓E_ife, ↓E_tup, ↓E_lst, ↓E_ix, ↓E_sl, ↓E_rev, ↓E_call, ↓E_callk, ↓E_blt, ↓E_mth, ↓E_ixc, ↓E_inc, ↓E_isi, ↓E_lrg, ↓E_lc, ↓E_fld, ↓E_isx, isW, fldW, isxW, N_exc, seq_rt, seq_bk, seq_ct, seq_ex, loop_rt, loop_bk, loop_ex, ret_nx, ret_rt', wpA, wpT, wpAnE, wpOrE, wpAnT, wpOrT, wpC, wpI, binW, addW, mulW, intW, CNo, CPos, CNN, unW, cmpW, eqW, ordW, ixW, B_len, B_int, B_abs, B_min, B_max, B_sum, B_tuple, B_list, lenW, int1W, absW, minW, maxW, sumW, tupleW, listW, augW, M_append, M_pop, ownL, stoW, getW, tgW, setAll, lrgW, partW, isCn, slW, revW, inW, truth, isAny, tyName, kit_NoneType_tuple, kit_NoneType_bool, kit_NoneType_int, kit_NoneType_str, kit_NoneType_list, kit_bool_tuple, kit_bool_bool, kit_bool_int, kit_bool_str, kit_bool_list, kit_int_tuple, kit_int_bool, kit_int_int, kit_int_str, kit_int_list, kit_str_tuple, kit_str_bool, kit_str_int, kit_str_str, kit_str_list, kit_tuple_tuple, kit_tuple_bool, kit_tuple_int, kit_tuple_str, kit_tuple_list, kit_list_tuple, kit_list_bool, kit_list_int, kit_list_str, kit_list_list, N_non, N_bl, N_int, N_str, N_tup, N_rl, N_wl, N_obj, I_tup, I_rl, I_wl, I_obj, LL_rl, LL_obj, O.xs, newL, wipeD, List.getElem?_cons_zero, List.getElem?_cons_succ, List.getElem?_nil, List.set_cons_zero, List.set_cons_succ, Option.some.injEq, exists_and_left, exists_eq', exists_eq, exists_eq_left', exists_eq_left, true_and, and_true, Bool.not_true, Bool.not_false, reduceCtorEq, ite_true, ite_false, if_true, if_false, String.reduceEq, D.int.injEq, D.bl.injEq, D.tup.injEq, D.rl.injEq, D.wl.injEq, D.obj.injEq, D.str.injEq, forall_const, Option.map_some, List.cons_append, List.nil_append, List.length_cons, List.length_nil, e]))
        exact .here hq
      | _ => ((try with_reducible refine nx_of ?_); simp only [↓B_one, ↓B_cons, ↓B_nil, ↓S_skip, ↓S_set, ↓S_unp, ↓S_par, ↓S_aug, ↓S_sto, ↓S_stg, ↓S_ex, ↓S_ret, ↓S_retn, ↓S_ite, ↓S_for, ↓S_whl, ↓S_brk, ↓S_cnt, ↓S_rais, ↓S_thru, ↓E_var, ↓look_0, ↓look_s, ↓E_ci, ↓E_cb, ↓E_cn, ↓E_cs, ↓E_bin, ↓E_un, ↓E_no, ↓E_an, ↓E_or, ↓E_cmp, ↓E_ch, ↓E_ife, ↓E_tup, ↓E_lst, ↓E_ix, ↓E_sl, ↓E_rev, ↓E_call, ↓E_callk, ↓E_blt, ↓E_mth, ↓E_ixc, ↓E_inc, ↓E_isi, ↓E_lrg, ↓E_lc, ↓E_fld, ↓E_isx, isW, fldW, isxW, N_exc, seq_rt, seq_bk, seq_ct, seq_ex, loop_rt, loop_bk, loop_ex, ret_nx, ret_rt', wpA, wpT, wpAnE, wpOrE, wpAnT, wpOrT, wpC, wpI, binW, addW, mulW, intW, CNo, CPos, CNN, unW, cmpW, eqW, ordW, ixW, B_len, B_int, B_abs, B_min, B_max, B_sum, B_tuple, B_list, lenW, int1W, absW, minW, maxW, sumW, tupleW, listW, augW, M_append, M_pop, ownL, stoW, getW, tgW, setAll, lrgW, partW, isCn, slW, revW, inW, truth, isAny, tyName, kit_NoneType_tuple, kit_NoneType_bool, kit_NoneType_int, kit_NoneType_str, kit_NoneType_list, kit_bool_tuple, kit_bool_bool, kit_bool_int, kit_bool_str, kit_bool_list, kit_int_tuple, kit_int_bool, kit_int_int, kit_int_str, kit_int_list, kit_str_tuple, kit_str_bool, kit_str_int, kit_str_str, kit_str_list, kit_tuple_tuple, kit_tuple_bool, kit_tuple_int, kit_tuple_str, kit_tuple_list, kit_list_tuple, kit_list_bool, kit_list_int, kit_list_str, kit_list_list, N_non, N_bl, N_int, N_str, N_tup, N_rl, N_wl, N_obj, I_tup, I_rl, I_wl, I_obj, LL_rl, LL_obj, O.xs, newL, wipeD, List.getElem?_cons_zero, List.getElem?_cons_succ, List.getElem?_nil, List.set_cons_zero, List.set_cons_succ, Option.some.injEq, exists_and_left, exists_eq', exists_eq, exists_eq_left', exists_eq_left, true_and, and_true, Bool.not_true, Bool.not_false, reduceCtorEq, ite_true, ite_false, if_true, if_false, String.reduceEq, D.int.injEq, D.bl.injEq, D.tup.injEq, D.rl.injEq, D.wl.injEq, D.obj.injEq, D.str.injEq, forall_const, Option.map_some, List.cons_append, List.nil_append, List.length_cons, List.length_nil]; repeat (with_reducible refine nx_of ?_; simp only [↓B_one, ↓B_cons, ↓B_nil, ↓S_skip, ↓S_set, ↓S_unp, ↓S_par, ↓S_aug, ↓S_sto, ↓S_stg, ↓S_ex, ↓S_ret, ↓S_retn, ↓S_ite, ↓S_for, ↓S_whl, ↓S_brk, ↓S_cnt, ↓S_rais, ↓S_thru, ↓E_var, ↓look_0, ↓look_s, ↓E_ci, ↓E_cb, ↓E_cn, ↓E_cs, ↓E_bin, ↓E_un, ↓E_no, ↓E_an, ↓E_or, ↓E_cmp, ↓E_ch, ↓E_ife, ↓E_tup, ↓E_lst, ↓E_ix, ↓E_sl, ↓E_rev, ↓E_call, ↓E_callk, ↓E_blt, ↓E_mth, ↓E_ixc, ↓E_inc, ↓E_isi, ↓E_lrg, ↓E_lc, ↓E_fld, ↓E_isx, isW, fldW, isxW, N_exc, seq_rt, seq_bk, seq_ct, seq_ex, loop_rt, loop_bk, loop_ex, ret_nx, ret_rt', wpA, wpT, wpAnE, wpOrE, wpAnT, wpOrT, wpC, wpI, binW, addW, mulW, intW, CNo, CPos, CNN, unW, cmpW, eqW, ordW, ixW, B_len, B_int, B_abs, B_min, B_max, B_sum, B_tuple, B_list, lenW, int1W, absW, minW, maxW, sumW, tupleW, listW, augW, M_append, M_pop, ownL, stoW, getW, tgW, setAll, lrgW, partW, isCn, slW, revW, inW, truth, isAny, tyName, kit_NoneType_tuple, kit_NoneType_bool, kit_NoneType_int, kit_NoneType_str, kit_NoneType_list, kit_bool_tuple, kit_bool_bool, kit_bool_int, kit_bool_str, kit_bool_list, kit_int_tuple, kit_int_bool, kit_int_int, kit_int_str, kit_int_list, kit_str_tuple, kit_str_bool, kit_str_int, kit_str_str, kit_str_list, kit_tuple_tuple, kit_tuple_bool, kit_tuple_int, kit_tuple_str, kit_tuple_list, kit_list_tuple, kit_list_bool, kit_list_int, kit_list_str, kit_list_list, N_non, N_bl, N_int, N_str, N_tup, N_rl, N_wl, N_obj, I_tup, I_rl, I_wl, I_obj, LL_rl, LL_obj, O.xs, newL, wipeD, List.getElem?_cons_zero, List.getElem?_cons_succ, List.getElem?_nil, List.set_cons_zero, List.set_cons_succ, Option.some.injEq, exists_and_left, exists_eq', exists_eq, exists_eq_left', exists_eq_left, true_and, and_true, Bool.not_true, Bool.not_false, reduceCtorEq, ite_true, ite_false, if_true, if_false, String.reduceEq, D.int.injEq, D.bl.injEq, D.tup.injEq, D.rl.injEq, D.wl.injEq, D.obj.injEq, D.str.injEq, forall_const, Option.map_some, List.cons_append, List.nil_append, List.length_cons, List.length_nil])); exact .here hq
  | bl b =>
    cases t with
    | bl a =>
      ((try with_reducible refine nx_of ?_); simp only [↓B_one, ↓B_cons, ↓B_nil, ↓S_skip, ↓S_set, ↓S_unp, ↓S_par, ↓S_aug, ↓S_sto, ↓S_stg, ↓S_ex, ↓S_ret, ↓S_retn, ↓S_ite, ↓S_for, ↓S_whl, ↓S_brk, ↓S_cnt, ↓S_rais, ↓S_thru, ↓E_var, ↓look_0, ↓look_s, ↓E_ci, ↓E_cb, ↓E_cn, ↓E_cs, ↓E_bin, ↓E_un, ↓E_no, ↓E_an, ↓E_or, ↓E_cmp, ↓E_ch, ↓E_ife, ↓E_tup, ↓E_lst, ↓E_ix, ↓E_sl, ↓E_rev, ↓E_call, ↓E_callk, ↓E_blt, ↓E_mth, ↓E_ixc, ↓E_inc, ↓E_isi, ↓E_lrg, ↓E_lc, ↓E_fld, ↓E_isx, isW, fldW, isxW, N_exc, seq_rt, seq_bk, seq_ct, seq_ex, loop_rt, loop_bk, loop_ex, ret_nx, ret_rt', wpA, wpT, wpAnE, wpOrE, wpAnT, wpOrT, wpC, wpI, binW, addW, mulW, intW, CNo, CPos, CNN, unW, cmpW, eqW, ordW, ixW, B_len, B_int, B_abs, B_min, B_max, B_sum, B_tuple, B_list, lenW, int1W, absW, minW, maxW, sumW, tupleW, listW, augW, M_append, M_pop, ownL, stoW, getW, tgW, setAll, lrgW, partW, isCn, slW, revW, inW, truth, isAny, tyName, kit_NoneType_tuple, kit_NoneType_bool, kit_NoneType_int, kit_NoneType_str, kit_NoneType_list, kit_bool_tuple, kit_bool_bool, kit_bool_int, kit_bool_str, kit_bool_list, kit_int_tuple, kit_int_bool, kit_int_int, kit_int_str, kit_int_list, kit_str_tuple, kit_str_bool, kit_str_int, kit_str_str, kit_str_list, kit_tuple_tuple, kit_tuple_bool, kit_tuple_int, kit_tuple_str, kit_tuple_list, kit_list_tuple, kit_list_bool, kit_list_int, kit_list_str, kit_list_list, N_non, N_bl, N_int, N_str, N_tup, N_rl, N_wl, N_obj, I_tup, I_rl, I_wl, I_obj, LL_rl, LL_obj, O.xs, newL, wipeD, List.getElem?_cons_zero, List.getElem?_cons_succ, List.getElem?_nil, List.set_cons_zero, List.set_cons_succ, Option.some.injEq, exists_and_left, exists_eq', exists_eq, exists_eq_left', exists_eq_left, true_and, and_true, Bool.not_true, Bool.not_false, reduceCtorEq, ite_true, ite_false, if_true, if_false, String.reduceEq, D.int.injEq, D.bl.injEq, D.tup.injEq, D.rl.injEq, D.wl.injEq, D.obj.injEq, D.str.injEq, forall_const, Option.map_some, List.cons_append, List.nil_append, List.length_cons, List.length_nil]; repeat (with_reducible refine nx_of ?_; simp only [↓B_one, ↓B_cons, ↓B_nil, ↓S_skip, ↓S_set, ↓S_unp, ↓S_par, ↓S_aug, ↓S_sto, ↓S_stg, ↓S_ex, ↓S_ret, ↓S_retn, ↓S_ite, ↓S_for, ↓S_whl, ↓S_brk, ↓S_cnt, ↓S_rais, ↓S_thru, ↓E_var, ↓look_0, ↓look_s, ↓E_ci, ↓E_cb, ↓E_cn, ↓E_cs, ↓E_bin, ↓E_un, ↓E_no, ↓E_an, ↓E_or, ↓E_cmp, ↓E_ch, ↓E_ife, ↓E_tup, ↓E_lst, ↓E_ix, ↓E_sl, ↓E_rev, ↓E_call, ↓E_callk, ↓E_blt, ↓E_mth, ↓E_ixc, ↓E_inc, ↓E_isi, ↓E_lrg, ↓E_lc, ↓E_fld, ↓E_isx, isW, fldW, isxW, N_exc, seq_rt, seq_bk, seq_ct, seq_ex, loop_rt, loop_bk, loop_ex, ret_nx, ret_rt', wpA, wpT, wpAnE, wpOrE, wpAnT, wpOrT, wpC, wpI, binW, addW, mulW, intW, CNo, CPos, CNN, unW, cmpW, eqW, ordW, ixW, B_len, B_int, B_abs, B_min, B_max, B_sum, B_tuple, B_list, lenW, int1W, absW, minW, maxW, sumW, tupleW, listW, augW, M_append, M_pop, ownL, stoW, getW, tgW, setAll, lrgW, partW, isCn, slW, revW, inW, truth, isAny, tyName, kit_NoneType_tuple, kit_NoneType_bool, kit_NoneType_int, kit_NoneType_str, kit_NoneType_list, kit_bool_tuple, kit_bool_bool, kit_bool_int, kit_bool_str, kit_bool_list, kit_int_tuple, kit_int_bool, kit_int_int, kit_int_str, kit_int_list, kit_str_tuple, kit_str_bool, kit_str_int, kit_str_str, kit_str_list, kit_tuple_tuple, kit_tuple_bool, kit_tuple_int, kit_tuple_str, kit_tuple_list, kit_list_tuple, kit_list_bool, kit_list_int, kit_list_str, kit_list_list, N_non, N_bl, N_int, N_str, N_tup, N_rl, N_wl, N_obj, I_tup, I_rl, I_wl, I_obj, LL_rl, LL_obj, O.xs, newL, wipeD, List.getElem?_cons_zero, List.getElem?_cons_succ, List.getElem?_nil, List.set_cons_zero, List.set_cons_succ, Option.some.injEq, exists_and_left, exists_eq', exists_eq, exists_eq_left', exists_eq_left, true_and, and_true, Bool.not_true, Bool.not_false, reduceCtorEq, ite_true, ite_false, if_true, if_false, String.reduceEq, D.int.injEq, D.bl.injEq, D.tup.injEq, D.rl.injEq, D.wl.injEq, D.obj.injEq, D.str.injEq, forall_const, Option.map_some, List.cons_append, List.nil_append, List.length_cons, List.length_nil]))
      have e : PyData.eqv (.bool a) (.bool b) = (a == b) := by cases a <;> cases b <;> rfl
      refine ⟨_, .bl a, _, .bl b, rfl, rfl, .here ?_⟩
      rw [e]
      cases n <;> exact hq
    | obj a =>
      obtain ⟨xs, e⟩ := no ht
      ((try with_reducible refine nx_of ?_); simp only [↓B_one, ↓B_cons, ↓B_nil, ↓S_skip, ↓S_set, ↓S_unp, ↓S_par, ↓S_aug, ↓S_sto, ↓S_stg, ↓S_ex, ↓S_ret, ↓S_retn, ↓S_ite, ↓S_for, ↓S_whl, ↓S_brk, ↓S_cnt, ↓S_rais, ↓S_thru, ↓E_var, ↓look_0, ↓look_s, ↓E_ci, ↓E_cb, ↓E_cn, ↓E_cs, ↓E_bin, ↓E_un, ↓E_no, ↓E_an, ↓E_or, ↓E_cmp, ↓E_ch, ↓E_ife, ↓E_tup, ↓E_lst, ↓E_ix, ↓E_sl, ↓E_rev, ↓E_call, ↓E_callk, ↓E_blt, ↓E_mth, ↓E_ixc, ↓E_inc, ↓E_isi, ↓E_lrg, ↓E_lc, ↓E_fld, ↓E_isx, isW, fldW, isxW, N_exc, seq_rt, seq_bk, seq_ct, seq_ex, loop_rt, loop_bk, loop_ex, ret_nx, ret_rt', wpA, wpT, wpAnE, wpOrE, wpAnT, wpOrT, wpC, wpI, binW, addW, mulW, intW, CNo, CPos, CNN, unW, cmpW, eqW, ordW, ixW, B_len, B_int, B_abs, B_min, B_max, B_sum, B_tuple, B_list, lenW, int1W, absW, minW, maxW, sumW, tupleW, listW, augW, M_append, M_pop, ownL, stoW, getW, tgW, setAll, lrgW, partW, isCn, slW, revW, inW, truth, isAny, tyName, kit_NoneType_tuple, kit_NoneType_bool, kit_NoneType_int, kit_NoneType_str, kit_NoneType_list, kit_bool_tuple, kit_bool_bool, kit_bool_int, kit_bool_str, kit_bool_list, kit_int_tuple, kit_int_bool, kit_int_int, kit_int_str, kit_int_list, kit_str_tuple, kit_str_bool, kit_str_int, kit_str_str, kit_str_list, kit_tuple_tuple, kit_tuple_bool, kit_tuple_int, kit_tuple_str, kit_tuple_list, kit_list_tuple, kit_list_bool, kit_list_int, kit_list_str, kit_list_list, N_non, N_bl, N_int, N_str, N_tup, N_rl, N_wl, N_obj, I_tup, I_rl, I_wl, I_obj, LL_rl, LL_obj, O.xs, newL, wipeD, List.getElem?_cons_zero, List.getElem?_cons_succ, List.getElem?_nil, List.set_cons_zero, List.set_cons_succ, Option.some.injEq, exists_and_left, exists_eq', exists_eq, exists_eq_left', exists_eq_left, true_and, and_true, Bool.not_true, Bool.not_false, reduceCtorEq, ite_true, ite_false, if_true, if_false, String.reduceEq, D.int.injEq, D.bl.injEq, D.tup.injEq, D.rl.injEq, D.wl.injEq, D.obj.injEq, D.str.injEq, forall_const, Option.map_some, List.cons_append, List.nil_append, List.length_cons, List.length_nil, e]; repeat (with_reducible refine nx_of ?_; simp only [↓B_one, ↓B_cons, ↓B_nil, ↓S_skip, ↓S_set, ↓S_unp, ↓S_par, ↓S_aug, ↓S_sto, ↓S_stg, ↓S_ex, ↓S_ret, ↓S_retn, ↓S_ite, ↓S_for, ↓S_whl, ↓S_brk, ↓S_cnt, ↓S_rais, ↓S_thru, ↓E_var, ↓look_0, ↓look_s, ↓E_ci, ↓E_cb, ↓E_cn, ↓E_cs, ↓E_bin, ↓E_un, ↓E_no, ↓E_an, ↓E_or, ↓E_cmp, ↓E_ch, ↓E_ife, ↓E_tup, ↓E_lst, ↓E_ix, ↓E_sl, ↓E_rev, ↓E_call, ↓E_callk, ↓E_blt, ↓E_mth, ↓E_ixc, ↓E_inc, ↓E_isi, ↓E_lrg, ↓E_lc, ↓E_fld, ↓E_isx, isW, fldW, isxW, N_exc, seq_rt, seq_bk, seq_ct, seq_ex, loop_rt, loop_bk, loop_ex, ret_nx, ret_rt', wpA, wpT, wpAnE, wpOrE, wpAnT, wpOrT, wpC, wpI, binW, addW, mulW, intW, CNo, CPos, CNN, unW, cmpW, eqW, ordW, ixW, B_len, B_int, B_abs, B_min, B_max, B_sum, B_tuple, B_list, lenW, int1W, absW, minW, maxW, sumW, tupleW, listW, augW, M_append, M_pop, ownL, stoW, getW, tgW, setAll, lrgW, partW, isCn, slW, revW, inW, truth, isAny, tyName, kit_NoneType_tuple, kit_NoneType_bool, kit_NoneType_int, kit_NoneType_str, kit_NoneType_list, kit_bool_tuple, kit_bool_bool, kit_bool_int, kit_bool_str, kit_bool_list, kit_int_tuple, kit_int_bool, kit_int_int, kit_int_str, kit_int_list, kit_str_tuple, kit_str_bool, kit_str_int, kit_str_str, kit_str_list, kit_tuple_tuple, kit_tuple_bool, kit_tuple_int, kit_tuple_str, kit_tuple_list, kit_list_tuple, kit_list_bool, kit_list_int, kit_list_str, kit_list_list, N_non, N_bl, N_int, N_str, N_tup, N_rl, N_wl, N_obj, I_tup, I_rl, I_wl, I_obj, LL_rl, LL_obj, O.xs, newL, wipeD, List.getElem?_cons_zero, List.getElem?_cons_succ, List.getElem?_nil, List.set_cons_zero, List.set_cons_succ, Option.some.injEq, exists_and_left, exists_eq', exists_eq, exists_eq_left', exists_eq_left, true_and, and_true, Bool.not_true, Bool.not_false, reduceCtorEq, ite_true, ite_false, if_true, if_false, String.reduceEq, D.int.injEq, D.bl.injEq, D.tup.injEq, D.rl.injEq, D.wl.injEq, D.obj.injEq, D.str.injEq, forall_const, Option.map_some, List.cons_append, List.nil_append, List.length_cons, List.length_nil, e]))
      exact .here (by cases n <;> exact hq)
    | exc _ _ _ => cases n <;> exact ht.elim
    | _ => ((try with_reducible refine nx_of ?_); simp only [↓B_one, ↓B_cons, ↓B_nil, ↓S_skip, ↓S_set, ↓S_unp, ↓S_par, ↓S_aug, ↓S_sto, ↓S_stg, ↓S_ex, ↓S_ret, ↓S_retn, ↓S_ite, ↓S_for, ↓S_whl, ↓S_brk, ↓S_cnt, ↓S_rais, ↓S_thru, ↓E_var, ↓look_0, ↓look_s, ↓E_ci, ↓E_cb, ↓E_cn, ↓E_cs, ↓E_bin, ↓E_un, ↓E_no, ↓E_an, ↓E_or, ↓E_cmp, ↓E_ch, ↓E_ife, ↓E_tup, ↓E_lst, ↓E_ix, ↓E_sl, ↓E_rev, ↓E_call, ↓E_callk, ↓E_blt, ↓E_mth, ↓E_ixc, ↓E_inc, ↓E_isi, ↓E_lrg, ↓E_lc, ↓E_fld, ↓E_isx, isW, fldW, isxW, N_exc, seq_rt, seq_bk, seq_ct, seq_ex, loop_rt, loop_bk, loop_ex, ret_nx, ret_rt', wpA, wpT, wpAnE, wpOrE, wpAnT, wpOrT, wpC, wpI, binW, addW, mulW, intW, CNo, CPos, CNN, unW, cmpW, eqW, ordW, ixW, B_len, B_int, B_abs, B_min, B_max, B_sum, B_tuple, B_list, lenW, int1W, absW, minW, maxW, sumW, tupleW, listW, augW, M_append, M_pop, ownL, stoW, getW, tgW, setAll, lrgW, partW, isCn, slW, revW, inW, truth, isAny, tyName, kit_NoneType_tuple, kit_NoneType_bool, kit_NoneType_int, kit_NoneType_str, kit_NoneType_list, kit_bool_tuple, kit_bool_bool, kit_bool_int, kit_bool_str, kit_bool_list, kit_int_tuple, kit_int_bool, kit_int_int, kit_int_str, kit_int_list, kit_str_tuple, kit_str_bool, kit_str_int, kit_str_str, kit_str_list, kit_tuple_tuple, kit_tuple_bool, kit_tuple_int, kit_tuple_str, kit_tuple_list, kit_list_tuple, kit_list_bool, kit_list_int, kit_list_str, kit_list_list, N_non, N_bl, N_int, N_str, N_tup, N_rl, N_wl, N_obj, I_tup, I_rl, I_wl, I_obj, LL_rl, LL_obj, O.xs, newL, wipeD, List.getElem?_cons_zero, List.getElem?_cons_succ, List.getElem?_nil, List.set_cons_zero, List.set_cons_succ, Option.some.injEq, exists_and_left, exists_eq', exists_eq, exists_eq_left', exists_eq_left, true_and, and_true, Bool.not_true, Bool.not_false, reduceCtorEq, ite_true, ite_false, if_true, if_false, String.reduceEq, D.int.injEq, D.bl.injEq, D.tup.injEq, D.rl.injEq, D.wl.injEq, D.obj.injEq, D.str.injEq, forall_const, Option.map_some, List.cons_append, List.nil_append, List.length_cons, List.length_nil]; repeat (with_reducible refine nx_of ?_; simp only [↓B_one, ↓B_cons, ↓B_nil, ↓S_skip, ↓S_set, ↓S_unp, ↓S_par, ↓S_aug, ↓S_sto, ↓S_stg, ↓S_ex, ↓S_ret, ↓S_retn, ↓S_ite, ↓S_for, ↓S_whl, ↓S_brk, ↓S_cnt, ↓S_rais, ↓S_thru, ↓E_var, ↓look_0, ↓look_s, ↓E_ci, ↓E_cb, ↓E_cn, ↓E_cs, ↓E_bin, ↓E_un, ↓E_no, ↓E_an, ↓E_or, ↓E_cmp, ↓E_ch, ↓E_ife, ↓E_tup, ↓E_lst, ↓E_ix, ↓E_sl, ↓E_rev, ↓E_call, ↓E_callk, ↓E_blt, ↓E_mth, ↓E_ixc, ↓E_inc, ↓E_isi, ↓E_lrg, ↓E_lc, ↓E_fld, ↓E_isx, isW, fldW, isxW, N_exc, seq_rt, seq_bk, seq_ct, seq_ex, loop_rt, loop_bk, loop_ex, ret_nx, ret_rt', wpA, wpT, wpAnE, wpOrE, wpAnT, wpOrT, wpC, wpI, binW, addW, mulW, intW, CNo, CPos, CNN, unW, cmpW, eqW, ordW, ixW, B_len, B_int, B_abs, B_min, B_max, B_sum, B_tuple, B_list, lenW, int1W, absW, minW, maxW, sumW, tupleW, listW, augW, M_append, M_pop, ownL, stoW, getW, tgW, setAll, lrgW, partW, isCn, slW, revW, inW, truth, isAny, tyName, kit_NoneType_tuple, kit_NoneType_bool, kit_NoneType_int, kit_NoneType_str, kit_NoneType_list, kit_bool_tuple, kit_bool_bool, kit_bool_int, kit_bool_str, kit_bool_list, kit_int_tuple, kit_int_bool, kit_int_int, kit_int_str, kit_int_list, kit_str_tuple, kit_str_bool, kit_str_int, kit_str_str, kit_str_list, kit_tuple_tuple, kit_tuple_bool, kit_tuple_int, kit_tuple_str, kit_tuple_list, kit_list_tuple, kit_list_bool, kit_list_int, kit_list_str, kit_list_list, N_non, N_bl, N_int, N_str, N_tup, N_rl, N_wl, N_obj, I_tup, I_rl, I_wl, I_obj, LL_rl, LL_obj, O.xs, newL, wipeD, List.getElem?_cons_zero, List.getElem?_cons_succ, List.getElem?_nil, List.set_cons_zero, List.set_cons_succ, Option.some.injEq, exists_and_left, exists_eq', exists_eq, exists_eq_left', exists_eq_left, true_and, and_true, Bool.not_true, Bool.not_false, reduceCtorEq, ite_true, ite_false, if_true, if_false, String.reduceEq, D.int.injEq, D.bl.injEq, D.tup.injEq, D.rl.injEq, D.wl.injEq, D.obj.injEq, D.str.injEq, forall_const, Option.map_some, List.cons_append, List.nil_append, List.length_cons, List.length_nil])); exact .here (by cases n <;> exact hq)
  | int j =>
    cases t with
    | int i => ((try with_reducible refine nx_of ?_); simp only [↓B_one, ↓B_cons, ↓B_nil, ↓S_skip, ↓S_set, ↓S_unp, ↓S_par, ↓S_aug, ↓S_sto, ↓S_stg, ↓S_ex, ↓S_ret, ↓S_retn, ↓S_ite, ↓S_for, ↓S_whl, ↓S_brk, ↓S_cnt, ↓S_rais, ↓S_thru, ↓E_var, ↓look_0, ↓look_s, ↓E_ci, ↓E_cb, ↓E_cn, ↓E_cs, ↓E_bin, ↓E_un, ↓E_no, ↓E_an, ↓E_or, ↓E_cmp, ↓E_ch, ↓E_ife, ↓E_tup, ↓E_lst, ↓E_ix, ↓E_sl, ↓E_rev, ↓E_call, ↓E_callk, ↓E_blt, ↓E_mth, ↓E_ixc, ↓E_inc, ↓E_isi, ↓E_lrg, ↓E_lc, ↓E_fld, ↓E_isx, isW, fldW, isxW, N_exc, seq_rt, seq_bk, seq_ct, seq_ex, loop_rt, loop_bk, loop_ex, ret_nx, ret_rt', wpA, wpT, wpAnE, wpOrE, wpAnT, wpOrT, wpC, wpI, binW, addW, mulW, intW, CNo, CPos, CNN, unW, cmpW, eqW, ordW, ixW, B_len, B_int, B_abs, B_min, B_max, B_sum, B_tuple, B_list, lenW, int1W, absW, minW, maxW, sumW, tupleW, listW, augW, M_append, M_pop, ownL, stoW, getW, tgW, setAll, lrgW, partW, isCn, slW, revW, inW, truth, isAny, tyName, kit_NoneType_tuple, kit_NoneType_bool, kit_NoneType_int, kit_NoneType_str, kit_NoneType_list, kit_bool_tuple, kit_bool_bool, kit_bool_int, kit_bool_str, kit_bool_list, kit_int_tuple, kit_int_bool, kit_int_int, kit_int_str, kit_int_list, kit_str_tuple, kit_str_bool, kit_str_int, kit_str_str, kit_str_list, kit_tuple_tuple, kit_tuple_bool, kit_tuple_int, kit_tuple_str, kit_tuple_list, kit_list_tuple, kit_list_bool, kit_list_int, kit_list_str, kit_list_list, N_non, N_bl, N_int, N_str, N_tup, N_rl, N_wl, N_obj, I_tup, I_rl, I_wl, I_obj, LL_rl, LL_obj, O.xs, newL, wipeD, List.getElem?_cons_zero, List.getElem?_cons_succ, List.getElem?_nil, List.set_cons_zero, List.set_cons_succ, Option.some.injEq, exists_and_left, exists_eq', exists_eq, exists_eq_left', exists_eq_left, true_and, and_true, Bool.not_true, Bool.not_false, reduceCtorEq, ite_true, ite_false, if_true, if_false, String.reduceEq, D.int.injEq, D.bl.injEq, D.tup.injEq, D.rl.injEq, D.wl.injEq, D.obj.injEq, D.str.injEq, forall_const, Option.map_some, List.cons_append, List.nil_append, List.length_cons, List.length_nil]; repeat (with_reducible refine nx_of ?_; simp only [↓B_one, ↓B_cons, ↓B_nil, ↓S_skip, ↓S_set, ↓S_unp, ↓S_par, ↓S_aug, ↓S_sto, ↓S_stg, ↓S_ex, ↓S_ret, ↓S_retn, ↓S_ite, ↓S_for, ↓S_whl, ↓S_brk, ↓S_cnt, ↓S_rais, ↓S_thru, ↓E_var, ↓look_0, ↓look_s, ↓E_ci, ↓E_cb, ↓E_cn, ↓E_cs, ↓E_bin, ↓E_un, ↓E_no, ↓E_an, ↓E_or, ↓E_cmp, ↓E_ch, ↓E_ife, ↓E_tup, ↓E_lst, ↓E_ix, ↓E_sl, ↓E_rev, ↓E_call, ↓E_callk, ↓E_blt, ↓E_mth, ↓E_ixc, ↓E_inc, ↓E_isi, ↓E_lrg, ↓E_lc, ↓E_fld, ↓E_isx, isW, fldW, isxW, N_exc, seq_rt, seq_bk, seq_ct, seq_ex, loop_rt, loop_bk, loop_ex, ret_nx, ret_rt', wpA, wpT, wpAnE, wpOrE, wpAnT, wpOrT, wpC, wpI, binW, addW, mulW, intW, CNo, CPos, CNN, unW, cmpW, eqW, ordW, ixW, B_len, B_int, B_abs, B_min, B_max, B_sum, B_tuple, B_list, lenW, int1W, absW, minW, maxW, sumW, tupleW, listW, augW, M_append, M_pop, ownL, stoW, getW, tgW, setAll, lrgW, partW, isCn, slW, revW, inW, truth, isAny, tyName, kit_NoneType_tuple, kit_NoneType_bool, kit_NoneType_int, kit_NoneType_str, kit_NoneType_list, kit_bool_tuple, kit_bool_bool, kit_bool_int, kit_bool_str, kit_bool_list, kit_int_tuple, kit_int_bool, kit_int_int, kit_int_str, kit_int_list, kit_str_tuple, kit_str_bool, kit_str_int, kit_str_str, kit_str_list, kit_tuple_tuple, kit_tuple_bool, kit_tuple_int, kit_tuple_str, kit_tuple_list, kit_list_tuple, kit_list_bool, kit_list_int, kit_list_str, kit_list_list, N_non, N_bl, N_int, N_str, N_tup, N_rl, N_wl, N_obj, I_tup, I_rl, I_wl, I_obj, LL_rl, LL_obj, O.xs, newL, wipeD, List.getElem?_cons_zero, List.getElem?_cons_succ, List.getElem?_nil, List.set_cons_zero, List.set_cons_succ, Option.some.injEq, exists_and_left, exists_eq', exists_eq, exists_eq_left', exists_eq_left, true_and, and_true, Bool.not_true, Bool.not_false, reduceCtorEq, ite_true, ite_false, if_true, if_false, String.reduceEq, D.int.injEq, D.bl.injEq, D.tup.injEq, D.rl.injEq, D.wl.injEq, D.obj.injEq, D.str.injEq, forall_const, Option.map_some, List.cons_append, List.nil_append, List.length_cons, List.length_nil])); exact .here (by cases n <;> exact hq)
    | obj a =>
      obtain ⟨xs, e⟩ := no ht
      ((try with_reducible refine nx_of ?_); simp only [↓B_one, ↓B_cons, ↓B_nil, ↓S_skip, ↓S_set, ↓S_unp, ↓S_par, ↓S_aug, ↓S_sto, ↓S_stg, ↓S_ex, ↓S_ret, ↓S_retn, ↓S_ite, ↓S_for, ↓S_whl, ↓S_brk, ↓S_cnt, ↓S_rais, ↓S_thru, ↓E_var, ↓look_0, ↓look_s, ↓E_ci, ↓E_cb, ↓E_cn, ↓E_cs, ↓E_bin, ↓E_un, ↓E_no, ↓E_an, ↓E_or, ↓E_cmp, ↓E_ch, ↓E_ife, ↓E_tup, ↓E_lst, ↓E_ix, ↓E_sl, ↓E_rev, ↓E_call, ↓E_callk, ↓E_blt, ↓E_mth, ↓E_ixc, ↓E_inc, ↓E_isi, ↓E_lrg, ↓E_lc, ↓E_fld, ↓E_isx, isW, fldW, isxW, N_exc, seq_rt, seq_bk, seq_ct, seq_ex, loop_rt, loop_bk, loop_ex, ret_nx, ret_rt', wpA, wpT, wpAnE, wpOrE, wpAnT, wpOrT, wpC, wpI, binW, addW, mulW, intW, CNo, CPos, CNN, unW, cmpW, eqW, ordW, ixW, B_len, B_int, B_abs, B_min, B_max, B_sum, B_tuple, B_list, lenW, int1W, absW, minW, maxW, sumW, tupleW, listW, augW, M_append, M_pop, ownL, stoW, getW, tgW, setAll, lrgW, partW, isCn, slW, revW, inW, truth, isAny, tyName, kit_NoneType_tuple, kit_NoneType_bool, kit_NoneType_int, kit_NoneType_str, kit_NoneType_list, kit_bool_tuple, kit_bool_bool, kit_bool_int, kit_bool_str, kit_bool_list, kit_int_tuple, kit_int_bool, kit_int_int, kit_int_str, kit_int_list, kit_str_tuple, kit_str_bool, kit_str_int, kit_str_str, kit_str_list, kit_tuple_tuple, kit_tuple_bool, kit_tuple_int, kit_tuple_str, kit_tuple_list, kit_list_tuple, kit_list_bool, kit_list_int, kit_list_str, kit_list_list, N_non, N_bl, N_int, N_str, N_tup, N_rl, N_wl, N_obj, I_tup, I_rl, I_wl, I_obj, LL_rl, LL_obj, O.xs, newL, wipeD, List.getElem?_cons_zero, List.getElem?_cons_succ, List.getElem?_nil, List.set_cons_zero, List.set_cons_succ, Option.some.injEq, exists_and_left, exists_eq', exists_eq, exists_eq_left', exists_eq_left, true_and, and_true, Bool.not_true, Bool.not_false, reduceCtorEq, ite_true, ite_false, if_true, if_false, String.reduceEq, D.int.injEq, D.bl.injEq, D.tup.injEq, D.rl.injEq, D.wl.injEq, D.obj.injEq, D.str.injEq, forall_const, Option.map_some, List.cons_append, List.nil_append, List.length_cons, List.length_nil, e]; repeat (with_reducible refine nx_of ?_; simp only [↓B_one, ↓B_cons, ↓B_nil, ↓S_skip, ↓S_set, ↓S_unp, ↓S_par, ↓S_aug, ↓S_sto, ↓S_stg, ↓S_ex, ↓S_ret, ↓S_retn, ↓S_ite, ↓S_for, ↓S_whl, ↓S_brk, ↓S_cnt, ↓S_rais, ↓S_thru, ↓E_var, ↓look_0, ↓look_s, ↓E_ci, ↓E_cb, ↓E_cn, ↓E_cs, ↓E_bin, ↓E_un, ↓E_no, ↓E_an, ↓E_or, ↓E_cmp, ↓E_ch, ↓E_ife, ↓E_tup, ↓E_lst, ↓E_ix, ↓E_sl, ↓E_rev, ↓E_call, ↓E_callk, ↓E_blt, ↓E_mth, ↓E_ixc, ↓E_inc, ↓E_isi, ↓E_lrg, ↓E_lc, ↓E_fld, ↓E_isx, isW, fldW, isxW, N_exc, seq_rt, seq_bk, seq_ct, seq_ex, loop_rt, loop_bk, loop_ex, ret_nx, ret_rt', wpA, wpT, wpAnE, wpOrE, wpAnT, wpOrT, wpC, wpI, binW, addW, mulW, intW, CNo, CPos, CNN, unW, cmpW, eqW, ordW, ixW, B_len, B_int, B_abs, B_min, B_max, B_sum, B_tuple, B_list, lenW, int1W, absW, minW, maxW, sumW, tupleW, listW, augW, M_append, M_pop, ownL, stoW, getW, tgW, setAll, lrgW, partW, isCn, slW, revW, inW, truth, isAny, tyName, kit_NoneType_tuple, kit_NoneType_bool, kit_NoneType_int, kit_NoneType_str, kit_NoneType_list, kit_bool_tuple, kit_bool_bool, kit_bool_int, kit_bool_str, kit_bool_list, kit_int_tuple, kit_int_bool, kit_int_int, kit_int_str, kit_int_list, kit_str_tuple, kit_str_bool, kit_str_int, kit_str_str, kit_str_list, kit_tuple_tuple, kit_tuple_bool, kit_tuple_int, kit_tuple_str, kit_tuple_list, kit_list_tuple, kit_list_bool, kit_list_int, kit_list_str, kit_list_list, N_non, N_bl, N_int, N_str, N_tup, N_rl, N_wl, N_obj, I_tup, I_rl, I_wl, I_obj, LL_rl, LL_obj, O.xs, newL, wipeD, List.getElem?_cons_zero, List.getElem?_cons_succ, List.getElem?_nil, List.set_cons_zero, List.set_cons_succ, Option.some.injEq, exists_and_left, exists_eq', exists_eq, exists_eq_left', exists_eq_left, true_and, and_true, Bool.not_true, Bool.not_false, reduceCtorEq, ite_true, ite_false, if_true, if_false, String.reduceEq, D.int.injEq, D.bl.injEq, D.tup.injEq, D.rl.injEq, D.wl.injEq, D.obj.injEq, D.str.injEq, forall_const, Option.map_some, List.cons_append, List.nil_append, List.length_cons, List.length_nil, e]))
      exact .here (by cases n <;> exact hq)
    | exc _ _ _ => cases n <;> exact ht.elim
    | _ => ((try with_reducible refine nx_of ?_); simp only [↓B_one, ↓B_cons, ↓B_nil, ↓S_skip, ↓S_set, ↓S_unp, ↓S_par, ↓S_aug, ↓S_sto, ↓S_stg, ↓S_ex, ↓S_ret, ↓S_retn, ↓S_ite, ↓S_for, ↓S_whl, ↓S_brk, ↓S_cnt, ↓S_rais, ↓S_thru, ↓E_var, ↓look_0, ↓look_s, ↓E_ci, ↓E_cb, ↓E_cn, ↓E_cs, ↓E_bin, ↓E_un, ↓E_no, ↓E_an, ↓E_or, ↓E_cmp, ↓E_ch, ↓E_ife, ↓E_tup, ↓E_lst, ↓E_ix, ↓E_sl, ↓E_rev, ↓E_call, ↓E_callk, ↓E_blt, ↓E_mth, ↓E_ixc, ↓E_inc, ↓E_isi, ↓E_lrg, ↓E_lc, ↓E_fld, ↓E_isx, isW, fldW, isxW, N_exc, seq_rt, seq_bk, seq_ct, seq_ex, loop_rt, loop_bk, loop_ex, ret_nx, ret_rt', wpA, wpT, wpAnE, wpOrE, wpAnT, wpOrT, wpC, wpI, binW, addW, mulW, intW, CNo, CPos, CNN, unW, cmpW, eqW, ordW, ixW, B_len, B_int, B_abs, B_min, B_max, B_sum, B_tuple, B_list, lenW, int1W, absW, minW, maxW, sumW, tupleW, listW, augW, M_append, M_pop, ownL, stoW, getW, tgW, setAll, lrgW, partW, isCn, slW, revW, inW, truth, isAny, tyName, kit_NoneType_tuple, kit_NoneType_bool, kit_NoneType_int, kit_NoneType_str, kit_NoneType_list, kit_bool_tuple, kit_bool_bool, kit_bool_int, kit_bool_str, kit_bool_list, kit_int_tuple, kit_int_bool, kit_int_int, kit_int_str, kit_int_list, kit_str_tuple, kit_str_bool, kit_str_int, kit_str_str, kit_str_list, kit_tuple_tuple, kit_tuple_bool, kit_tuple_int, kit_tuple_str, kit_tuple_list, kit_list_tuple, kit_list_bool, kit_list_int, kit_list_str, kit_list_list, N_non, N_bl, N_int, N_str, N_tup, N_rl, N_wl, N_obj, I_tup, I_rl, I_wl, I_obj, LL_rl, LL_obj, O.xs, newL, wipeD, List.getElem?_cons_zero, List.getElem?_cons_succ, List.getElem?_nil, List.set_cons_zero, List.set_cons_succ, Option.some.injEq, exists_and_left, exists_eq', exists_eq, exists_eq_left', exists_eq_left, true_and, and_true, Bool.not_true, Bool.not_false, reduceCtorEq, ite_true, ite_false, if_true, if_false, String.reduceEq, D.int.injEq, D.bl.injEq, D.tup.injEq, D.rl.injEq, D.wl.injEq, D.obj.injEq, D.str.injEq, forall_const, Option.map_some, List.cons_append, List.nil_append, List.length_cons, List.length_nil]; repeat (with_reducible refine nx_of ?_; simp only [↓B_one, ↓B_cons, ↓B_nil, ↓S_skip, ↓S_set, ↓S_unp, ↓S_par, ↓S_aug, ↓S_sto, ↓S_stg, ↓S_ex, ↓S_ret, ↓S_retn, ↓S_ite, ↓S_for, ↓S_whl, ↓S_brk, ↓S_cnt, ↓S_rais, ↓S_thru, ↓E_var, ↓look_0, ↓look_s, ↓E_ci, ↓E_cb, ↓E_cn, ↓E_cs, ↓E_bin, ↓E_un, ↓E_no, ↓E_an, ↓E_or, ↓E_cmp, ↓E_ch, ↓E_ife, ↓E_tup, ↓E_lst, ↓E_ix, ↓E_sl, ↓E_rev, ↓E_call, ↓E_callk, ↓E_blt, ↓E_mth, ↓E_ixc, ↓E_inc, ↓E_isi, ↓E_lrg, ↓E_lc, ↓E_fld, ↓E_isx, isW, fldW, isxW, N_exc, seq_rt, seq_bk, seq_ct, seq_ex, loop_rt, loop_bk, loop_ex, ret_nx, ret_rt', wpA, wpT, wpAnE, wpOrE, wpAnT, wpOrT, wpC, wpI, binW, addW, mulW, intW, CNo, CPos, CNN, unW, cmpW, eqW, ordW, ixW, B_len, B_int, B_abs, B_min, B_max, B_sum, B_tuple, B_list, lenW, int1W, absW, minW, maxW, sumW, tupleW, listW, augW, M_append, M_pop, ownL, stoW, getW, tgW, setAll, lrgW, partW, isCn, slW, revW, inW, truth, isAny, tyName, kit_NoneType_tuple, kit_NoneType_bool, kit_NoneType_int, kit_NoneType_str, kit_NoneType_list, kit_bool_tuple, kit_bool_bool, kit_bool_int, kit_bool_str, kit_bool_list, kit_int_tuple, kit_int_bool, kit_int_int, kit_int_str, kit_int_list, kit_str_tuple, kit_str_bool, kit_str_int, kit_str_str, kit_str_list, kit_tuple_tuple, kit_tuple_bool, kit_tuple_int, kit_tuple_str, kit_tuple_list, kit_list_tuple, kit_list_bool, kit_list_int, kit_list_str, kit_list_list, N_non, N_bl, N_int, N_str, N_tup, N_rl, N_wl, N_obj, I_tup, I_rl, I_wl, I_obj, LL_rl, LL_obj, O.xs, newL, wipeD, List.getElem?_cons_zero, List.getElem?_cons_succ, List.getElem?_nil, List.set_cons_zero, List.set_cons_succ, Option.some.injEq, exists_and_left, exists_eq', exists_eq, exists_eq_left', exists_eq_left, true_and, and_true, Bool.not_true, Bool.not_false, reduceCtorEq, ite_true, ite_false, if_true, if_false, String.reduceEq, D.int.injEq, D.bl.injEq, D.tup.injEq, D.rl.injEq, D.wl.injEq, D.obj.injEq, D.str.injEq, forall_const, Option.map_some, List.cons_append, List.nil_append, List.length_cons, List.length_nil])); exact .here (by cases n <;> exact hq)
  | str y =>
    cases t with
    | str x =>
      ((try with_reducible refine nx_of ?_); simp only [↓B_one, ↓B_cons, ↓B_nil, ↓S_skip, ↓S_set, ↓S_unp, ↓S_par, ↓S_aug, ↓S_sto, ↓S_stg, ↓S_ex, ↓S_ret, ↓S_retn, ↓S_ite, ↓S_for, ↓S_whl, ↓S_brk, ↓S_cnt, ↓S_rais, ↓S_thru, ↓E_var, ↓look_0, ↓look_s, ↓E_ci, ↓E_cb, ↓E_cn, ↓E_cs, ↓E_bin, ↓E_un, ↓E_no, ↓E_an, ↓E_or, ↓E_cmp, ↓E_ch, ↓E_ife, ↓E_tup, ↓E_lst, ↓E_ix, ↓E_sl, ↓E_rev, ↓E_call, ↓E_callk, ↓E_blt, ↓E_mth, ↓E_ixc, ↓E_inc, ↓E_isi, ↓E_lrg, ↓E_lc, ↓E_fld, ↓E_isx, isW, fldW, isxW, N_exc, seq_rt, seq_bk, seq_ct, seq_ex, loop_rt, loop_bk, loop_ex, ret_nx, ret_rt', wpA, wpT, wpAnE, wpOrE, wpAnT, wpOrT, wpC, wpI, binW, addW, mulW, intW, CNo, CPos, CNN, unW, cmpW, eqW, ordW, ixW, B_len, B_int, B_abs, B_min, B_max, B_sum, B_tuple, B_list, lenW, int1W, absW, minW, maxW, sumW, tupleW, listW, augW, M_append, M_pop, ownL, stoW, getW, tgW, setAll, lrgW, partW, isCn, slW, revW, inW, truth, isAny, tyName, kit_NoneType_tuple, kit_NoneType_bool, kit_NoneType_int, kit_NoneType_str, kit_NoneType_list, kit_bool_tuple, kit_bool_bool, kit_bool_int, kit_bool_str, kit_bool_list, kit_int_tuple, kit_int_bool, kit_int_int, kit_int_str, kit_int_list, kit_str_tuple, kit_str_bool, kit_str_int, kit_str_str, kit_str_list, kit_tuple_tuple, kit_tuple_bool, kit_tuple_int, kit_tuple_str, kit_tuple_list, kit_list_tuple, kit_list_bool, kit_list_int, kit_list_str, kit_list_list, N_non, N_bl, N_int, N_str, N_tup, N_rl, N_wl, N_obj, I_tup, I_rl, I_wl, I_obj, LL_rl, LL_obj, O.xs, newL, wipeD, List.getElem?_cons_zero, List.getElem?_cons_succ, List.getElem?_nil, List.set_cons_zero, List.set_cons_succ, Option.some.injEq, exists_and_left, exists_eq', exists_eq, exists_eq_left', exists_eq_left, true_and, and_true, Bool.not_true, Bool.not_false, reduceCtorEq, ite_true, ite_false, if_true, if_false, String.reduceEq, D.int.injEq, D.bl.injEq, D.tup.injEq, D.rl.injEq, D.wl.injEq, D.obj.injEq, D.str.injEq, forall_const, Option.map_some, List.cons_append, List.nil_append, List.length_cons, List.length_nil]; repeat (with_reducible refine nx_of ?_; simp only [↓B_one, ↓B_cons, ↓B_nil, ↓S_skip, ↓S_set, ↓S_unp, ↓S_par, ↓S_aug, ↓S_sto, ↓S_stg, ↓S_ex, ↓S_ret, ↓S_retn, ↓S_ite, ↓S_for, ↓S_whl, ↓S_brk, ↓S_cnt, ↓S_rais, ↓S_thru, ↓E_var, ↓look_0, ↓look_s, ↓E_ci, ↓E_cb, ↓E_cn, ↓E_cs, ↓E_bin, ↓E_un, ↓E_no, ↓E_an, ↓E_or, ↓E_cmp, ↓E_ch, ↓E_ife, ↓E_tup, ↓E_lst, ↓E_ix, ↓E_sl, ↓E_rev, ↓E_call, ↓E_callk, ↓E_blt, ↓E_mth, ↓E_ixc, ↓E_inc, ↓E_isi, ↓E_lrg, ↓E_lc, ↓E_fld, ↓E_isx, isW, fldW, isxW, N_exc, seq_rt, seq_bk, seq_ct, seq_ex, loop_rt, loop_bk, loop_ex, ret_nx, ret_rt', wpA, wpT, wpAnE, wpOrE, wpAnT, wpOrT, wpC, wpI, binW, addW, mulW, intW, CNo, CPos, CNN, unW, cmpW, eqW, ordW, ixW, B_len, B_int, B_abs, B_min, B_max, B_sum, B_tuple, B_list, lenW, int1W, absW, minW, maxW, sumW, tupleW, listW, augW, M_append, M_pop, ownL, stoW, getW, tgW, setAll, lrgW, partW, isCn, slW, revW, inW, truth, isAny, tyName, kit_NoneType_tuple, kit_NoneType_bool, kit_NoneType_int, kit_NoneType_str, kit_NoneType_list, kit_bool_tuple, kit_bool_bool, kit_bool_int, kit_bool_str, kit_bool_list, kit_int_tuple, kit_int_bool, kit_int_int, kit_int_str, kit_int_list, kit_str_tuple, kit_str_bool, kit_str_int, kit_str_str, kit_str_list, kit_tuple_tuple, kit_tuple_bool, kit_tuple_int, kit_tuple_str, kit_tuple_list, kit_list_tuple, kit_list_bool, kit_list_int, kit_list_str, kit_list_list, N_non, N_bl, N_int, N_str, N_tup, N_rl, N_wl, N_obj, I_tup, I_rl, I_wl, I_obj, LL_rl, LL_obj, O.xs, newL, wipeD, List.getElem?_cons_zero, List.getElem?_cons_succ, List.getElem?_nil, List.set_cons_zero, List.set_cons_succ, Option.some.injEq, exists_and_left, exists_eq', exists_eq, exists_eq_left', exists_eq_left, true_and, and_true, Bool.not_true, Bool.not_false, reduceCtorEq, ite_true, ite_false, if_true, if_false, String.reduceEq, D.int.injEq, D.bl.injEq, D.tup.injEq, D.rl.injEq, D.wl.injEq, D.obj.injEq, D.str.injEq, forall_const, Option.map_some, List.cons_append, List.nil_append, List.length_cons, List.length_nil]))
      have e : PyData.eqv (.str x) (.str y) = decide (x = y) := by simp [PyData.eqv]; exact Bool.beq_eq_decide_eq x y
      refine ⟨_, .str x, _, .str y, by cases n <;> exact ht, by cases n <;> exact hd, .here ?_⟩
      rw [e]
      cases n <;> exact hq
    | obj a =>
      obtain ⟨xs, e⟩ := no ht
      ((try with_reducible refine nx_of ?_); simp only [↓B_one, ↓B_cons, ↓B_nil, ↓S_skip, ↓S_set, ↓S_unp, ↓S_par, ↓S_aug, ↓S_sto, ↓S_stg, ↓S_ex, ↓S_ret, ↓S_retn, ↓S_ite, ↓S_for, ↓S_whl, ↓S_brk, ↓S_cnt, ↓S_rais, ↓S_thru, ↓E_var, ↓look_0, ↓look_s, ↓E_ci, ↓E_cb, ↓E_cn, ↓E_cs, ↓E_bin, ↓E_un, ↓E_no, ↓E_an, ↓E_or, ↓E_cmp, ↓E_ch, ↓E_ife, ↓E_tup, ↓E_lst, ↓E_ix, ↓E_sl, ↓E_rev, ↓E_call, ↓E_callk, ↓E_blt, ↓E_mth, ↓E_ixc, ↓E_inc, ↓E_isi, ↓E_lrg, ↓E_lc, ↓E_fld, ↓E_isx, isW, fldW, isxW, N_exc, seq_rt, seq_bk, seq_ct, seq_ex, loop_rt, loop_bk, loop_ex, ret_nx, ret_rt', wpA, wpT, wpAnE, wpOrE, wpAnT, wpOrT, wpC, wpI, binW, addW, mulW, intW, CNo, CPos, CNN, unW, cmpW, eqW, ordW, ixW, B_len, B_int, B_abs, B_min, B_max, B_sum, B_tuple, B_list, lenW, int1W, absW, minW, maxW, sumW, tupleW, listW, augW, M_append, M_pop, ownL, stoW, getW, tgW, setAll, lrgW, partW, isCn, slW, revW, inW, truth, isAny, tyName, kit_NoneType_tuple, kit_NoneType_bool, kit_NoneType_int, kit_NoneType_str, kit_NoneType_list, kit_bool_tuple, kit_bool_bool, kit_bool_int, kit_bool_str, kit_bool_list, kit_int_tuple, kit_int_bool, kit_int_int, kit_int_str, kit_int_list, kit_str_tuple, kit_str_bool, kit_str_int, kit_str_str, kit_str_list, kit_tuple_tuple, kit_tuple_bool, kit_tuple_int, kit_tuple_str, kit_tuple_list, kit_list_tuple, kit_list_bool, kit_list_int, kit_list_str, kit_list_list, N_non, N_bl, N_int, N_str, N_tup, N_rl, N_wl, N_obj, I_tup, I_rl, I_wl, I_obj, LL_rl, LL_obj, O.xs, newL, wipeD, List.getElem?_cons_zero, List.getElem?_cons_succ, List.getElem?_nil, List.set_cons_zero, List.set_cons_succ, Option.some.injEq, exists_and_left, exists_eq', exists_eq, exists_eq_left', exists_eq_left, true_and, and_true, Bool.not_true, Bool.not_false, reduceCtorEq, ite_true, ite_false, if_true, if_false, String.reduceEq, D.int.injEq, D.bl.injEq, D.tup.injEq, D.rl.injEq, D.wl.injEq, D.obj.injEq, D.str.injEq, forall_const, Option.map_some, List.cons_append, List.nil_append, List.length_cons, List.length_nil, e]; repeat (with_reducible refine nx_of ?_; simp only [↓B_one, ↓B_cons, ↓B_nil, ↓S_skip, ↓S_set, ↓S_unp, ↓S_par, ↓S_aug, ↓S_sto, ↓S_stg, ↓S_ex, ↓S_ret, ↓S_retn, ↓S_ite, ↓S_for, ↓S_whl, ↓S_brk, ↓S_cnt, ↓S_rais, ↓S_thru, ↓E_var, ↓look_0, ↓look_s, ↓E_ci, ↓E_cb, ↓E_cn, ↓E_cs, ↓E_bin, ↓E_un, ↓E_no, ↓E_an, ↓E_or, ↓E_cmp, ↓E_ch, ↓E_ife, ↓E_tup, ↓E_lst, ↓E_ix, ↓E_sl, ↓E_rev, ↓E_call, ↓E_callk, ↓E_blt, ↓E_mth, ↓E_ixc, ↓E_inc, ↓E_isi, ↓E_lrg, ↓E_lc, ↓E_fld, ↓E_isx, isW, fldW, isxW, N_exc, seq_rt, seq_bk, seq_ct, seq_ex, loop_rt, loop_bk, loop_ex, ret_nx, ret_rt', wpA, wpT, wpAnE, wpOrE, wpAnT, wpOrT, wpC, wpI, binW, addW, mulW, intW, CNo, CPos, CNN, unW, cmpW, eqW, ordW, ixW, B_len, B_int, B_abs, B_min, B_max, B_sum, B_tuple, B_list, lenW, int1W, absW, minW, maxW, sumW, tupleW, listW, augW, M_append, M_pop, ownL, stoW, getW, tgW, setAll, lrgW, partW, isCn, slW, revW, inW, truth, isAny, tyName, kit_NoneType_tuple, kit_NoneType_bool, kit_NoneType_int, kit_NoneType_str, kit_NoneType_list, kit_bool_tuple, kit_bool_bool, kit_bool_int, kit_bool_str, kit_bool_list, kit_int_tuple, kit_int_bool, kit_int_int, kit_int_str, kit_int_list, kit_str_tuple, kit_str_bool, kit_str_int, kit_str_str, kit_str_list, kit_tuple_tuple, kit_tuple_bool, kit_tuple_int, kit_tuple_str, kit_tuple_list, kit_list_tuple, kit_list_bool, kit_list_int, kit_list_str, kit_list_list, N_non, N_bl, N_int, N_str, N_tup, N_rl, N_wl, N_obj, I_tup, I_rl, I_wl, I_obj, LL_rl, LL_obj, O.xs, newL, wipeD, List.getElem?_cons_zero, List.getElem?_cons_succ, List.getElem?_nil, List.set_cons_zero, List.set_cons_succ, Option.some.injEq, exists_and_left, exists_eq', exists_eq, exists_eq_left', exists_eq_left, true_and, and_true, Bool.not_true, Bool.not_false, reduceCtorEq, ite_true, ite_false, if_true, if_false, String.reduceEq, D.int.injEq, D.bl.injEq, D.tup.injEq, D.rl.injEq, D.wl.injEq, D.obj.injEq, D.str.injEq, forall_const, Option.map_some, List.cons_append, List.nil_append, List.length_cons, List.length_nil, e]))
      exact .here (by cases n <;> exact hq)
    | exc _ _ _ => cases n <;> exact ht.elim
    | _ => ((try with_reducible refine nx_of ?_); simp only [↓B_one, ↓B_cons, ↓B_nil, ↓S_skip, ↓S_set, ↓S_unp, ↓S_par, ↓S_aug, ↓S_sto, ↓S_stg, ↓S_ex, ↓S_ret, ↓S_retn, ↓S_ite, ↓S_for, ↓S_whl, ↓S_brk, ↓S_cnt, ↓S_rais, ↓S_thru, ↓E_var, ↓look_0, ↓look_s, ↓E_ci, ↓E_cb, ↓E_cn, ↓E_cs, ↓E_bin, ↓E_un, ↓E_no, ↓E_an, ↓E_or, ↓E_cmp, ↓E_ch, ↓E_ife, ↓E_tup, ↓E_lst, ↓E_ix, ↓E_sl, ↓E_rev, ↓E_call, ↓E_callk, ↓E_blt, ↓E_mth, ↓E_ixc, ↓E_inc, ↓E_isi, ↓E_lrg, ↓E_lc, ↓E_fld, ↓E_isx, isW, fldW, isxW, N_exc, seq_rt, seq_bk, seq_ct, seq_ex, loop_rt, loop_bk, loop_ex, ret_nx, ret_rt', wpA, wpT, wpAnE, wpOrE, wpAnT, wpOrT, wpC, wpI, binW, addW, mulW, intW, CNo, CPos, CNN, unW, cmpW, eqW, ordW, ixW, B_len, B_int, B_abs, B_min, B_max, B_sum, B_tuple, B_list, lenW, int1W, absW, minW, maxW, sumW, tupleW, listW, augW, M_append, M_pop, ownL, stoW, getW, tgW, setAll, lrgW, partW, isCn, slW, revW, inW, truth, isAny, tyName, kit_NoneType_tuple, kit_NoneType_bool, kit_NoneType_int, kit_NoneType_str, kit_NoneType_list, kit_bool_tuple, kit_bool_bool, kit_bool_int, kit_bool_str, kit_bool_list, kit_int_tuple, kit_int_bool, kit_int_int, kit_int_str, kit_int_list, kit_str_tuple, kit_str_bool, kit_str_int, kit_str_str, kit_str_list, kit_tuple_tuple, kit_tuple_bool, kit_tuple_int, kit_tuple_str, kit_tuple_list, kit_list_tuple, kit_list_bool, kit_list_int, kit_list_str, kit_list_list, N_non, N_bl, N_int, N_str, N_tup, N_rl, N_wl, N_obj, I_tup, I_rl, I_wl, I_obj, LL_rl, LL_obj, O.xs, newL, wipeD, List.getElem?_cons_zero, List.getElem?_cons_succ, List.getElem?_nil, List.set_cons_zero, List.set_cons_succ, Option.some.injEq, exists_and_left, exists_eq', exists_eq, exists_eq_left', exists_eq_left, true_and, and_true, Bool.not_true, Bool.not_false, reduceCtorEq, ite_true, ite_false, if_true, if_false, String.reduceEq, D.int.injEq, D.bl.injEq, D.tup.injEq, D.rl.injEq, D.wl.injEq, D.obj.injEq, D.str.injEq, forall_const, Option.map_some, List.cons_append, List.nil_append, List.length_cons, List.length_nil]; repeat (with_reducible refine nx_of ?_; simp only [↓B_one, ↓B_cons, ↓B_nil, ↓S_skip, ↓S_set, ↓S_unp, ↓S_par, ↓S_aug, ↓S_sto, ↓S_stg, ↓S_ex, ↓S_ret, ↓S_retn, ↓S_ite, ↓S_for, ↓S_whl, ↓S_brk, ↓S_cnt, ↓S_rais, ↓S_thru, ↓E_var, ↓look_0, ↓look_s, ↓E_ci, ↓E_cb, ↓E_cn, ↓E_cs, ↓E_bin, ↓E_un, ↓E_no, ↓E_an, ↓E_or, ↓E_cmp, ↓E_ch, ↓E_ife, ↓E_tup, ↓E_lst, ↓E_ix, ↓E_sl, ↓E_rev, ↓E_call, ↓E_callk, ↓E_blt, ↓E_mth, ↓E_ixc, ↓E_inc, ↓E_isi, ↓E_lrg, ↓E_lc, ↓E_fld, ↓E_isx, isW, fldW, isxW, N_exc, seq_rt, seq_bk, seq_ct, seq_ex, loop_rt, loop_bk, loop_ex, ret_nx, ret_rt', wpA, wpT, wpAnE, wpOrE, wpAnT, wpOrT, wpC, wpI, binW, addW, mulW, intW, CNo, CPos, CNN, unW, cmpW, eqW, ordW, ixW, B_len, B_int, B_abs, B_min, B_max, B_sum, B_tuple, B_list, lenW, int1W, absW, minW, maxW, sumW, tupleW, listW, augW, M_append, M_pop, ownL, stoW, getW, tgW, setAll, lrgW, partW, isCn, slW, revW, inW, truth, isAny, tyName, kit_NoneType_tuple, kit_NoneType_bool, kit_NoneType_int, kit_NoneType_str, kit_NoneType_list, kit_bool_tuple, kit_bool_bool, kit_bool_int, kit_bool_str, kit_bool_list, kit_int_tuple, kit_int_bool, kit_int_int, kit_int_str, kit_int_list, kit_str_tuple, kit_str_bool, kit_str_int, kit_str_str, kit_str_list, kit_tuple_tuple, kit_tuple_bool, kit_tuple_int, kit_tuple_str, kit_tuple_list, kit_list_tuple, kit_list_bool, kit_list_int, kit_list_str, kit_list_list, N_non, N_bl, N_int, N_str, N_tup, N_rl, N_wl, N_obj, I_tup, I_rl, I_wl, I_obj, LL_rl, LL_obj, O.xs, newL, wipeD, List.getElem?_cons_zero, List.getElem?_cons_succ, List.getElem?_nil, List.set_cons_zero, List.set_cons_succ, Option.some.injEq, exists_and_left, exists_eq', exists_eq, exists_eq_left', exists_eq_left, true_and, and_true, Bool.not_true, Bool.not_false, reduceCtorEq, ite_true, ite_false, if_true, if_false, String.reduceEq, D.int.injEq, D.bl.injEq, D.tup.injEq, D.rl.injEq, D.wl.injEq, D.obj.injEq, D.str.injEq, forall_const, Option.map_some, List.cons_append, List.nil_append, List.length_cons, List.length_nil])); exact .here (by cases n <;> exact hq)
  | non =>
    cases t with
    | obj a =>
      obtain ⟨xs, e⟩ := no ht
      ((try with_reducible refine nx_of ?_); simp only [↓B_one, ↓B_cons, ↓B_nil, ↓S_skip, ↓S_set, ↓S_unp, ↓S_par, ↓S_aug, ↓S_sto, ↓S_stg, ↓S_ex, ↓S_ret, ↓S_retn, ↓S_ite, ↓S_for, ↓S_whl, ↓S_brk, ↓S_cnt, ↓S_rais, ↓S_thru, ↓E_var, ↓look_0, ↓look_s, ↓E_ci, ↓E_cb, ↓E_cn, ↓E_cs, ↓E_bin, ↓E_un, ↓E_no, ↓E_an, ↓E_or, ↓E_cmp, ↓E_ch, ↓E_ife, ↓E_tup, ↓E_lst, ↓E_ix, ↓E_sl, ↓E_rev, ↓E_call, ↓E_callk, ↓E_blt, ↓E_mth, ↓E_ixc, ↓E_inc, ↓E_isi, ↓E_lrg, ↓E_lc, ↓E_fld, ↓E_isx, isW, fldW, isxW, N_exc, seq_rt, seq_bk, seq_ct, seq_ex, loop_rt, loop_bk, loop_ex, ret_nx, ret_rt', wpA, wpT, wpAnE, wpOrE, wpAnT, wpOrT, wpC, wpI, binW, addW, mulW, intW, CNo, CPos, CNN, unW, cmpW, eqW, ordW, ixW, B_len, B_int, B_abs, B_min, B_max, B_sum, B_tuple, B_list, lenW, int1W, absW, minW, maxW, sumW, tupleW, listW, augW, M_append, M_pop, ownL, stoW, getW, tgW, setAll, lrgW, partW, isCn, slW, revW, inW, truth, isAny, tyName, kit_NoneType_tuple, kit_NoneType_bool, kit_NoneType_int, kit_NoneType_str, kit_NoneType_list, kit_bool_tuple, kit_bool_bool, kit_bool_int, kit_bool_str, kit_bool_list, kit_int_tuple, kit_int_bool, kit_int_int, kit_int_str, kit_int_list, kit_str_tuple, kit_str_bool, kit_str_int, kit_str_str, kit_str_list, kit_tuple_tuple, kit_tuple_bool, kit_tuple_int, kit_tuple_str, kit_tuple_list, kit_list_tuple, kit_list_bool, kit_list_int, kit_list_str, kit_list_list, N_non, N_bl, N_int, N_str, N_tup, N_rl, N_wl, N_obj, I_tup, I_rl, I_wl, I_obj, LL_rl, LL_obj, O.xs, newL, wipeD, List.getElem?_cons_zero, List.getElem?_cons_succ, List.getElem?_nil, List.set_cons_zero, List.set_cons_succ, Option.some.injEq, exists_and_left, exists_eq', exists_eq, exists_eq_left', exists_eq_left, true_and, and_true, Bool.not_true, Bool.not_false, reduceCtorEq, ite_true, ite_false, if_true, if_false, String.reduceEq, D.int.injEq, D.bl.injEq, D.tup.injEq, D.rl.injEq, D.wl.injEq, D.obj.injEq, D.str.injEq, forall_const, Option.map_some, List.cons_append, List.nil_append, List.length_cons, List.length_nil, e]; repeat (with_reducible refine nx_of ?_; simp only [↓B_one, ↓B_cons, ↓B_nil, ↓S_skip, ↓S_set, ↓S_unp, ↓S_par, ↓S_aug, ↓S_sto, ↓S_stg, ↓S_ex, ↓S_ret, ↓S_retn, ↓S_ite, ↓S_for, ↓S_whl, ↓S_brk, ↓S_cnt, ↓S_rais, ↓S_thru, ↓E_var, ↓look_0, ↓look_s, ↓E_ci, ↓E_cb, ↓E_cn, ↓E_cs, ↓E_bin, ↓E_un, ↓E_no, ↓E_an, ↓E_or, ↓E_cmp, ↓E_ch, ↓E_ife, ↓E_tup, ↓E_lst, ↓E_ix, ↓E_sl, ↓E_rev, ↓E_call, ↓E_callk, ↓E_blt, ↓E_mth, ↓E_ixc, ↓E_inc, ↓E_isi, ↓E_lrg, ↓E_lc, ↓E_fld, ↓E_isx, isW, fldW, isxW, N_exc, seq_rt, seq_bk, seq_ct, seq_ex, loop_rt, loop_bk, loop_ex, ret_nx, ret_rt', wpA, wpT, wpAnE, wpOrE, wpAnT, wpOrT, wpC, wpI, binW, addW, mulW, intW, CNo, CPos, CNN, unW, cmpW, eqW, ordW, ixW, B_len, B_int, B_abs, B_min, B_max, B_sum, B_tuple, B_list, lenW, int1W, absW, minW, maxW, sumW, tupleW, listW, augW, M_append, M_pop, ownL, stoW, getW, tgW, setAll, lrgW, partW, isCn, slW, revW, inW, truth, isAny, tyName, kit_NoneType_tuple, kit_NoneType_bool, kit_NoneType_int, kit_NoneType_str, kit_NoneType_list, kit_bool_tuple, kit_bool_bool, kit_bool_int, kit_bool_str, kit_bool_list, kit_int_tuple, kit_int_bool, kit_int_int, kit_int_str, kit_int_list, kit_str_tuple, kit_str_bool, kit_str_int, kit_str_str, kit_str_list, kit_tuple_tuple, kit_tuple_bool, kit_tuple_int, kit_tuple_str, kit_tuple_list, kit_list_tuple, kit_list_bool, kit_list_int, kit_list_str, kit_list_list, N_non, N_bl, N_int, N_str, N_tup, N_rl, N_wl, N_obj, I_tup, I_rl, I_wl, I_obj, LL_rl, LL_obj, O.xs, newL, wipeD, List.getElem?_cons_zero, List.getElem?_cons_succ, List.getElem?_nil, List.set_cons_zero, List.set_cons_succ, Option.some.injEq, exists_and_left, exists_eq', exists_eq, exists_eq_left', exists_eq_left, true_and, and_true, Bool.not_true, Bool.not_false, reduceCtorEq, ite_true, ite_false, if_true, if_false, String.reduceEq, D.int.injEq, D.bl.injEq, D.tup.injEq, D.rl.injEq, D.wl.injEq, D.obj.injEq, D.str.injEq, forall_const, Option.map_some, List.cons_append, List.nil_append, List.length_cons, List.length_nil, e]))
      exact .here (by cases n <;> exact hq)
    | exc _ _ _ => cases n <;> exact ht.elim
    | _ => ((try with_reducible refine nx_of ?_); simp only [↓B_one, ↓B_cons, ↓B_nil, ↓S_skip, ↓S_set, ↓S_unp, ↓S_par, ↓S_aug, ↓S_sto, ↓S_stg, ↓S_ex, ↓S_ret, ↓S_retn, ↓S_ite, ↓S_for, ↓S_whl, ↓S_brk, ↓S_cnt, ↓S_rais, ↓S_thru, ↓E_var, ↓look_0, ↓look_s, ↓E_ci, ↓E_cb, ↓E_cn, ↓E_cs, ↓E_bin, ↓E_un, ↓E_no, ↓E_an, ↓E_or, ↓E_cmp, ↓E_ch, ↓E_ife, ↓E_tup, ↓E_lst, ↓E_ix, ↓E_sl, ↓E_rev, ↓E_call, ↓E_callk, ↓E_blt, ↓E_mth, ↓E_ixc, ↓E_inc, ↓E_isi, ↓E_lrg, ↓E_lc, ↓E_fld, ↓E_isx, isW, fldW, isxW, N_exc, seq_rt, seq_bk, seq_ct, seq_ex, loop_rt, loop_bk, loop_ex, ret_nx, ret_rt', wpA, wpT, wpAnE, wpOrE, wpAnT, wpOrT, wpC, wpI, binW, addW, mulW, intW, CNo, CPos, CNN, unW, cmpW, eqW, ordW, ixW, B_len, B_int, B_abs, B_min, B_max, B_sum, B_tuple, B_list, lenW, int1W, absW, minW, maxW, sumW, tupleW, listW, augW, M_append, M_pop, ownL, stoW, getW, tgW, setAll, lrgW, partW, isCn, slW, revW, inW, truth, isAny, tyName, kit_NoneType_tuple, kit_NoneType_bool, kit_NoneType_int, kit_NoneType_str, kit_NoneType_list, kit_bool_tuple, kit_bool_bool, kit_bool_int, kit_bool_str, kit_bool_list, kit_int_tuple, kit_int_bool, kit_int_int, kit_int_str, kit_int_list, kit_str_tuple, kit_str_bool, kit_str_int, kit_str_str, kit_str_list, kit_tuple_tuple, kit_tuple_bool, kit_tuple_int, kit_tuple_str, kit_tuple_list, kit_list_tuple, kit_list_bool, kit_list_int, kit_list_str, kit_list_list, N_non, N_bl, N_int, N_str, N_tup, N_rl, N_wl, N_obj, I_tup, I_rl, I_wl, I_obj, LL_rl, LL_obj, O.xs, newL, wipeD, List.getElem?_cons_zero, List.getElem?_cons_succ, List.getElem?_nil, List.set_cons_zero, List.set_cons_succ, Option.some.injEq, exists_and_left, exists_eq', exists_eq, exists_eq_left', exists_eq_left, true_and, and_true, Bool.not_true, Bool.not_false, reduceCtorEq, ite_true, ite_false, if_true, if_false, String.reduceEq, D.int.injEq, D.bl.injEq, D.tup.injEq, D.rl.injEq, D.wl.injEq, D.obj.injEq, D.str.injEq, forall_const, Option.map_some, List.cons_append, List.nil_append, List.length_cons, List.length_nil]; repeat (with_reducible refine nx_of ?_; simp only [↓B_one, ↓B_cons, ↓B_nil, ↓S_skip, ↓S_set, ↓S_unp, ↓S_par, ↓S_aug, ↓S_sto, ↓S_stg, ↓S_ex, ↓S_ret, ↓S_retn, ↓S_ite, ↓S_for, ↓S_whl, ↓S_brk, ↓S_cnt, ↓S_rais, ↓S_thru, ↓E_var, ↓look_0, ↓look_s, ↓E_ci, ↓E_cb, ↓E_cn, ↓E_cs, ↓E_bin, ↓E_un, ↓E_no, ↓E_an, ↓E_or, ↓E_cmp, ↓E_ch, ↓E_ife, ↓E_tup, ↓E_lst, ↓E_ix, ↓E_sl, ↓E_rev, ↓E_call, ↓E_callk, ↓E_blt, ↓E_mth, ↓E_ixc, ↓E_inc, ↓E_isi, ↓E_lrg, ↓E_lc, ↓E_fld, ↓E_isx, isW, fldW, isxW, N_exc, seq_rt, seq_bk, seq_ct, seq_ex, loop_rt, loop_bk, loop_ex, ret_nx, ret_rt', wpA, wpT, wpAnE, wpOrE, wpAnT, wpOrT, wpC, wpI, binW, addW, mulW, intW, CNo, CPos, CNN, unW, cmpW, eqW, ordW, ixW, B_len, B_int, B_abs, B_min, B_max, B_sum, B_tuple, B_list, lenW, int1W, absW, minW, maxW, sumW, tupleW, listW, augW, M_append, M_pop, ownL, stoW, getW, tgW, setAll, lrgW, partW, isCn, slW, revW, inW, truth, isAny, tyName, kit_NoneType_tuple, kit_NoneType_bool, kit_NoneType_int, kit_NoneType_str, kit_NoneType_list, kit_bool_tuple, kit_bool_bool, kit_bool_int, kit_bool_str, kit_bool_list, kit_int_tuple, kit_int_bool, kit_int_int, kit_int_str, kit_int_list, kit_str_tuple, kit_str_bool, kit_str_int, kit_str_str, kit_str_list, kit_tuple_tuple, kit_tuple_bool, kit_tuple_int, kit_tuple_str, kit_tuple_list, kit_list_tuple, kit_list_bool, kit_list_int, kit_list_str, kit_list_list, N_non, N_bl, N_int, N_str, N_tup, N_rl, N_wl, N_obj, I_tup, I_rl, I_wl, I_obj, LL_rl, LL_obj, O.xs, newL, wipeD, List.getElem?_cons_zero, List.getElem?_cons_succ, List.getElem?_nil, List.set_cons_zero, List.set_cons_succ, Option.some.injEq, exists_and_left, exists_eq', exists_eq, exists_eq_left', exists_eq_left, true_and, and_true, Bool.not_true, Bool.not_false, reduceCtorEq, ite_true, ite_false, if_true, if_false, String.reduceEq, D.int.injEq, D.bl.injEq, D.tup.injEq, D.rl.injEq, D.wl.injEq, D.obj.injEq, D.str.injEq, forall_const, Option.map_some, List.cons_append, List.nil_append, List.length_cons, List.length_nil])); exact .here (by cases n <;> exact hq)
  | rl _ => cases n <;> exact hd.elim
  | wl _ => cases n <;> exact hd.elim
  | obj _ => cases n <;> exact hd.elim
  | exc _ _ _ => cases n <;> exact hd.elim
end Bx

set_option Elab.async false
set_option linter.all false
set_option maxRecDepth 100000
/-! body terms of the defs of k32 (printed by genb.py) -/
namespace Bx
open PySem PySem.Spec L2
abbrev c_InvalidBook : Nat := 1007
abbrev c_InvalidCells : Nat := 1008
abbrev c_InvalidDeed : Nat := 1009
abbrev c_InvalidFilling : Nat := 1010
abbrev c_InvalidMove : Nat := 1011
abbrev c_InvalidNetwork : Nat := 1012
abbrev c_InvalidNumber : Nat := 1013
abbrev c_InvalidOrder : Nat := 1014
abbrev c_InvalidPrice : Nat := 1015
abbrev c_InvalidPuzzle : Nat := 1016
abbrev c_InvalidQuestion : Nat := 1017
abbrev c_InvalidRows : Nat := 1018
abbrev c_InvalidStart : Nat := 1019
abbrev c_InvalidSum : Nat := 1020
abbrev c_InvalidTable : Nat := 1021
abbrev c_InvalidText : Nat := 1022
abbrev c_InvalidWeights : Nat := 1023
abbrev c_NothingToUndo : Nat := 1030
abbrev c_PriceError : Nat := 1032
abbrev c_Undefined : Nat := 1040
abbrev c_ValueError : Nat := 1041
abbrev g_law_made : Nat := 172
abbrev g_InvalidFilling : Nat := 3010
abbrev g_InvalidStart : Nat := 3019
abbrev g_InvalidBook : Nat := 3007
abbrev g_InvalidPrice : Nat := 3015
abbrev g_InvalidNumber : Nat := 3013
abbrev g_InvalidQuestion : Nat := 3017
abbrev g_InvalidMove : Nat := 3011
abbrev g_InvalidCells : Nat := 3008
abbrev g_InvalidSum : Nat := 3020
abbrev g_InvalidRows : Nat := 3018
abbrev g_InvalidOrder : Nat := 3014
abbrev g_InvalidWeights : Nat := 3023
abbrev g_InvalidTable : Nat := 3021
abbrev g_InvalidDeed : Nat := 3009
abbrev g_InvalidNetwork : Nat := 3012
abbrev g_law_named : Nat := 185
abbrev g_InvalidStart_k_value : Nat := 3062
abbrev g_InvalidBook_k_value : Nat := 3051
abbrev g_InvalidPrice_k_value : Nat := 3059
abbrev g_InvalidNumber_k_value : Nat := 3057
abbrev g_InvalidCells_k_value : Nat := 3052
abbrev g_InvalidSum_k_value : Nat := 3063
abbrev g_InvalidFilling_k_value : Nat := 3054
abbrev g_InvalidTable_k_value : Nat := 3064
abbrev g_InvalidQuestion_k_value : Nat := 3060
abbrev g_InvalidMove_k_value : Nat := 3055
abbrev g_InvalidRows_k_value : Nat := 3061
abbrev g_InvalidOrder_k_value : Nat := 3058
abbrev g_InvalidWeights_k_value : Nat := 3065
abbrev g_InvalidDeed_k_value : Nat := 3053
abbrev g_InvalidNetwork_k_value : Nat := 3056
abbrev g_law_classes : Nat := 59
abbrev g_law_kinds : Nat := 144
abbrev g_law_odd : Nat := 201
abbrev g_law_others : Nat := 211
abbrev g_NothingToUndo : Nat := 3030
abbrev g_Undefined : Nat := 3039
abbrev g_InvalidText : Nat := 3022
abbrev g_InvalidPuzzle : Nat := 3016
abbrev g_Undefined_k_what : Nat := 3066
abbrev g_InvalidText_k_at_k_text : Nat := 3041
abbrev g_InvalidPuzzle_k_place_k_part : Nat := 3046
abbrev g_NothingToUndo_k_word : Nat := 3067
abbrev g_law_whole : Nat := 362
abbrev g_law : Nat := 549
def n_law_made : List Str := ["value", "found"]
def f_law_made : List (Nat × Str × List Str) := [(g_InvalidFilling, "InvalidFilling", []), (g_InvalidStart, "InvalidStart", []), (g_InvalidBook, "InvalidBook", []), (g_InvalidPrice, "InvalidPrice", []), (g_InvalidNumber, "InvalidNumber", []), (g_InvalidQuestion, "InvalidQuestion", []), (g_InvalidMove, "InvalidMove", []), (g_InvalidCells, "InvalidCells", []), (g_InvalidSum, "InvalidSum", []), (g_InvalidRows, "InvalidRows", []), (g_InvalidOrder, "InvalidOrder", []), (g_InvalidWeights, "InvalidWeights", []), (g_InvalidTable, "InvalidTable", []), (g_InvalidDeed, "InvalidDeed", []), (g_InvalidNetwork, "InvalidNetwork", [])]
def tb_law_made : List (Nat × Str) := []
def b_law_made : Sxs :=
  (.cons (.set 1 (.lst true (.cons (.call g_InvalidNumber (.cons (.var 0) .nil)) (.cons (.call g_InvalidPrice (.cons (.var 0) .nil)) (.cons (.call g_InvalidBook (.cons (.var 0) .nil)) (.cons (.call g_InvalidStart (.cons (.var 0) .nil)) (.cons (.call g_InvalidFilling (.cons (.var 0) .nil)) .nil)))))))
  (.cons (.set 1 (.bin true .Add (.var 1) (.lst true (.cons (.call g_InvalidSum (.cons (.var 0) .nil)) (.cons (.call g_InvalidCells (.cons (.var 0) .nil)) (.cons (.call g_InvalidMove (.cons (.var 0) .nil)) (.cons (.call g_InvalidQuestion (.cons (.var 0) .nil)) .nil)))))))
  (.cons (.set 1 (.bin true .Add (.var 1) (.lst true (.cons (.call g_InvalidTable (.cons (.var 0) .nil)) (.cons (.call g_InvalidWeights (.cons (.var 0) .nil)) (.cons (.call g_InvalidOrder (.cons (.var 0) .nil)) (.cons (.call g_InvalidRows (.cons (.var 0) .nil)) .nil)))))))
  (.cons (.ret (.bin true .Add (.var 1) (.lst true (.cons (.call g_InvalidNetwork (.cons (.var 0) .nil)) (.cons (.call g_InvalidDeed (.cons (.var 0) .nil)) .nil))))) .nil))))
def n_law_named : List Str := ["value", "found"]
def f_law_named : List (Nat × Str × List Str) := [(g_InvalidStart_k_value, "InvalidStart", ["value"]), (g_InvalidBook_k_value, "InvalidBook", ["value"]), (g_InvalidPrice_k_value, "InvalidPrice", ["value"]), (g_InvalidNumber_k_value, "InvalidNumber", ["value"]), (g_InvalidCells_k_value, "InvalidCells", ["value"]), (g_InvalidSum_k_value, "InvalidSum", ["value"]), (g_InvalidFilling_k_value, "InvalidFilling", ["value"]), (g_InvalidTable_k_value, "InvalidTable", ["value"]), (g_InvalidQuestion_k_value, "InvalidQuestion", ["value"]), (g_InvalidMove_k_value, "InvalidMove", ["value"]), (g_InvalidRows_k_value, "InvalidRows", ["value"]), (g_InvalidOrder_k_value, "InvalidOrder", ["value"]), (g_InvalidWeights_k_value, "InvalidWeights", ["value"]), (g_InvalidDeed_k_value, "InvalidDeed", ["value"]), (g_InvalidNetwork_k_value, "InvalidNetwork", ["value"])]
def tb_law_named : List (Nat × Str) := []
def b_law_named : Sxs :=
  (.cons (.set 1 (.lst true (.cons (.callk g_InvalidNumber_k_value .nil ["value"] (.cons (.var 0) .nil)) (.cons (.callk g_InvalidPrice_k_value .nil ["value"] (.cons (.var 0) .nil)) (.cons (.callk g_InvalidBook_k_value .nil ["value"] (.cons (.var 0) .nil)) (.cons (.callk g_InvalidStart_k_value .nil ["value"] (.cons (.var 0) .nil)) .nil))))))
  (.cons (.set 1 (.bin true .Add (.var 1) (.lst true (.cons (.callk g_InvalidFilling_k_value .nil ["value"] (.cons (.var 0) .nil)) (.cons (.callk g_InvalidSum_k_value .nil ["value"] (.cons (.var 0) .nil)) (.cons (.callk g_InvalidCells_k_value .nil ["value"] (.cons (.var 0) .nil)) .nil))))))
  (.cons (.set 1 (.bin true .Add (.var 1) (.lst true (.cons (.callk g_InvalidMove_k_value .nil ["value"] (.cons (.var 0) .nil)) (.cons (.callk g_InvalidQuestion_k_value .nil ["value"] (.cons (.var 0) .nil)) (.cons (.callk g_InvalidTable_k_value .nil ["value"] (.cons (.var 0) .nil)) .nil))))))
  (.cons (.set 1 (.bin true .Add (.var 1) (.lst true (.cons (.callk g_InvalidWeights_k_value .nil ["value"] (.cons (.var 0) .nil)) (.cons (.callk g_InvalidOrder_k_value .nil ["value"] (.cons (.var 0) .nil)) (.cons (.callk g_InvalidRows_k_value .nil ["value"] (.cons (.var 0) .nil)) .nil))))))
  (.cons (.ret (.bin true .Add (.var 1) (.lst true (.cons (.callk g_InvalidNetwork_k_value .nil ["value"] (.cons (.var 0) .nil)) (.cons (.callk g_InvalidDeed_k_value .nil ["value"] (.cons (.var 0) .nil)) .nil))))) .nil)))))
def n_law_classes : List Str := ["error", "found"]
def f_law_classes : List (Nat × Str × List Str) := []
def tb_law_classes : List (Nat × Str) := [(c_InvalidBook, "InvalidBook"), (c_InvalidPrice, "InvalidPrice"), (c_InvalidNumber, "InvalidNumber"), (c_InvalidFilling, "InvalidFilling"), (c_InvalidStart, "InvalidStart"), (c_InvalidMove, "InvalidMove"), (c_InvalidCells, "InvalidCells"), (c_InvalidSum, "InvalidSum"), (c_InvalidTable, "InvalidTable"), (c_InvalidQuestion, "InvalidQuestion"), (c_InvalidOrder, "InvalidOrder"), (c_InvalidWeights, "InvalidWeights"), (c_InvalidDeed, "InvalidDeed"), (c_InvalidNetwork, "InvalidNetwork"), (c_InvalidRows, "InvalidRows"), (c_InvalidText, "InvalidText"), (c_InvalidPuzzle, "InvalidPuzzle"), (c_NothingToUndo, "NothingToUndo"), (c_Undefined, "Undefined")]
def b_law_classes : Sxs :=
  (.cons (.set 1 (.lst true (.cons (.isx (.var 0) c_InvalidNumber) (.cons (.isx (.var 0) c_InvalidPrice) (.cons (.isx (.var 0) c_InvalidBook) .nil)))))
  (.cons (.set 1 (.bin true .Add (.var 1) (.lst true (.cons (.isx (.var 0) c_InvalidStart) (.cons (.isx (.var 0) c_InvalidFilling) .nil)))))
  (.cons (.set 1 (.bin true .Add (.var 1) (.lst true (.cons (.isx (.var 0) c_InvalidSum) (.cons (.isx (.var 0) c_InvalidCells) (.cons (.isx (.var 0) c_InvalidMove) .nil))))))
  (.cons (.set 1 (.bin true .Add (.var 1) (.lst true (.cons (.isx (.var 0) c_InvalidQuestion) (.cons (.isx (.var 0) c_InvalidTable) .nil)))))
  (.cons (.set 1 (.bin true .Add (.var 1) (.lst true (.cons (.isx (.var 0) c_InvalidWeights) (.cons (.isx (.var 0) c_InvalidOrder) .nil)))))
  (.cons (.set 1 (.bin true .Add (.var 1) (.lst true (.cons (.isx (.var 0) c_InvalidRows) (.cons (.isx (.var 0) c_InvalidNetwork) (.cons (.isx (.var 0) c_InvalidDeed) .nil))))))
  (.cons (.set 1 (.bin true .Add (.var 1) (.lst true (.cons (.isx (.var 0) c_InvalidPuzzle) (.cons (.isx (.var 0) c_InvalidText) .nil)))))
  (.cons (.ret (.bin true .Add (.var 1) (.lst true (.cons (.isx (.var 0) c_Undefined) (.cons (.isx (.var 0) c_NothingToUndo) .nil))))) .nil))))))))
def n_law_kinds : List Str := ["errors", "first", "k", "j"]
def f_law_kinds : List (Nat × Str × List Str) := [(g_law_classes, "_law_classes", [])]
def tb_law_kinds : List (Nat × Str) := [(c_ValueError, "ValueError"), (c_PriceError, "PriceError")]
def b_law_kinds : Sxs :=
  (.cons (.for (.nm 2) (.r1 (.blt true "len" (.cons (.var 0) .nil)))
    (.cons (.ite (.or (.cons (.no (.isx (.ix (.var 0) (.var 2)) c_PriceError)) (.cons (.no (.isx (.ix (.var 0) (.var 2)) c_ValueError)) .nil)))
      (.cons (.ret (.cb false)) .nil) .nil)
    (.cons (.ite (.cmp .NotEq (.call g_law_classes (.cons (.ix (.var 0) (.var 2)) .nil)) (.lc true [3] (.nm 3) (.r1 (.ci 19)) .nil (.cmp .Eq (.var 3) (.bin true .Add (.var 1) (.var 2)))))
      (.cons (.ret (.cb false)) .nil) .nil) .nil)))
  (.cons (.ret (.cb true)) .nil))
def n_law_odd : List Str := ["bag", "values"]
def f_law_odd : List (Nat × Str × List Str) := [(g_law_next, "_law_next", [])]
def tb_law_odd : List (Nat × Str) := []
def b_law_odd : Sxs :=
  (.cons (.set 1 (.lst true (.cons .cn (.cons (.cb true) (.cons (.cb false) (.cons (.ci 0) (.cons (.un .USub (.ci 1)) (.cons (.cs "0") (.cons (.cs "") (.cons (.tup .nil) (.cons (.tup (.cons (.ci 0) .nil)) (.cons (.tup (.cons .cn (.cons (.tup (.cons (.ci 1) (.cons (.cs "a") .nil))) .nil))) (.cons (.ci 999999) (.cons (.tup (.cons (.tup (.cons (.ci 0) (.cons (.ci 1) .nil))) (.cons (.tup (.cons (.ci 1) (.cons (.ci 0) .nil))) .nil))) (.cons (.tup (.cons (.cb true) (.cons (.cb false) .nil))) .nil)))))))))))))))
  (.cons (.ret (.ix (.var 1) (.call g_law_next (.cons (.var 0) (.cons (.ci 13) .nil))))) .nil))
def n_law_others : List Str := ["bag", "part", "place", "text", "at", "what", "word", "plain", "named", "errors", "told"]
def f_law_others : List (Nat × Str × List Str) := [(g_law_next, "_law_next", []), (g_NothingToUndo, "NothingToUndo", []), (g_Undefined, "Undefined", []), (g_InvalidText, "InvalidText", []), (g_InvalidPuzzle, "InvalidPuzzle", []), (g_Undefined_k_what, "Undefined", ["what"]), (g_InvalidText_k_at_k_text, "InvalidText", ["at", "text"]), (g_InvalidPuzzle_k_place_k_part, "InvalidPuzzle", ["place", "part"]), (g_NothingToUndo_k_word, "NothingToUndo", ["word"]), (g_law_kinds, "_law_kinds", []), (g_law_like, "_law_like", [])]
def tb_law_others : List (Nat × Str) := []
def b_law_others : Sxs :=
  (.cons (.par 1 2 (.ix (.tup (.cons (.cs "book") (.cons (.cs "cells") (.cons (.cs "ties") .nil)))) (.call g_law_next (.cons (.var 0) (.cons (.ci 3) .nil)))) (.call g_law_next (.cons (.var 0) (.cons (.ci 100) .nil))))
  (.cons (.par 3 4 (.ix (.tup (.cons (.cs "") (.cons (.cs "price") (.cons (.cs "tie 0") .nil)))) (.call g_law_next (.cons (.var 0) (.cons (.ci 3) .nil)))) (.call g_law_next (.cons (.var 0) (.cons (.ci 9) .nil))))
  (.cons (.par 5 6 (.ix (.tup (.cons (.cs "bent") (.cons (.cs "things") (.cons (.cs "rank") (.cons (.cs "even") (.cons (.cs "kind") .nil)))))) (.call g_law_next (.cons (.var 0) (.cons (.ci 5) .nil)))) (.ix (.tup (.cons (.cs "undo") (.cons (.cs "redo") .nil))) (.call g_law_next (.cons (.var 0) (.cons (.ci 2) .nil)))))
  (.cons (.set 7 (.lst true (.cons (.call g_InvalidPuzzle (.cons (.var 1) (.cons (.var 2) .nil))) (.cons (.call g_InvalidText (.cons (.var 3) (.cons (.var 4) .nil))) (.cons (.call g_Undefined (.cons (.var 5) .nil)) (.cons (.call g_NothingToUndo (.cons (.var 6) .nil)) .nil))))))
  (.cons (.set 8 (.lst true (.cons (.callk g_InvalidPuzzle_k_place_k_part .nil ["place", "part"] (.cons (.var 2) (.cons (.var 1) .nil))) (.cons (.callk g_InvalidText_k_at_k_text .nil ["at", "text"] (.cons (.var 4) (.cons (.var 3) .nil))) (.cons (.callk g_Undefined_k_what .nil ["what"] (.cons (.var 5) .nil)) .nil)))))
  (.cons (.set 8 (.bin true .Add (.var 8) (.lst true (.cons (.callk g_NothingToUndo_k_word .nil ["word"] (.cons (.var 6) .nil)) .nil))))
  (.cons (.for (.nm 9) (.ov (.tup (.cons (.var 7) (.cons (.var 8) .nil))))
    (.cons (.ite (.no (.call g_law_kinds (.cons (.var 9) (.cons (.ci 15) .nil))))
      (.cons (.ret (.cb false)) .nil) .nil)
    (.cons (.set 10 (.tup (.cons (.fld (.ix (.var 9) (.ci 0)) "part") (.cons (.fld (.ix (.var 9) (.ci 0)) "place") (.cons (.fld (.ix (.var 9) (.ci 1)) "text") (.cons (.fld (.ix (.var 9) (.ci 1)) "at") (.cons (.fld (.ix (.var 9) (.ci 2)) "what") (.cons (.fld (.ix (.var 9) (.ci 3)) "word") .nil))))))))
    (.cons (.ite (.no (.call g_law_like (.cons (.var 10) (.cons (.tup (.cons (.var 1) (.cons (.var 2) (.cons (.var 3) (.cons (.var 4) (.cons (.var 5) (.cons (.var 6) .nil))))))) .nil))))
      (.cons (.ret (.cb false)) .nil) .nil) .nil))))
  (.cons (.ret (.cb true)) .nil))))))))
def n_law_whole : List Str := ["script", "bag", "value", "other", "plain", "named", "k", "handed", "kept", "error"]
def f_law_whole : List (Nat × Str × List Str) := [(g_law_bag, "_law_bag", []), (g_law_odd, "_law_odd", []), (g_law_made, "_law_made", []), (g_law_named, "_law_named", []), (g_law_kinds, "_law_kinds", []), (g_law_like, "_law_like", []), (g_law_next, "_law_next", []), (g_law_others, "_law_others", [])]
def tb_law_whole : List (Nat × Str) := []
def b_law_whole : Sxs :=
  (.cons (.set 1 (.call g_law_bag (.cons (.var 0) .nil)))
  (.cons (.par 2 3 (.call g_law_odd (.cons (.var 1) .nil)) (.call g_law_odd (.cons (.var 1) .nil)))
  (.cons (.par 4 5 (.call g_law_made (.cons (.var 2) .nil)) (.call g_law_named (.cons (.var 3) .nil)))
  (.cons (.ite (.or (.cons (.no (.call g_law_kinds (.cons (.var 4) (.cons (.ci 0) .nil)))) (.cons (.no (.call g_law_kinds (.cons (.var 5) (.cons (.ci 0) .nil)))) .nil)))
    (.cons (.ret (.cb false)) .nil) .nil)
  (.cons (.for (.nm 6) (.r1 (.ci 15))
    (.cons (.ite (.or (.cons (.no (.call g_law_like (.cons (.fld (.ix (.var 4) (.var 6)) "value") (.cons (.var 2) .nil)))) (.cons (.no (.call g_law_like (.cons (.fld (.ix (.var 5) (.var 6)) "value") (.cons (.var 3) .nil)))) .nil)))
      (.cons (.ret (.cb false)) .nil) .nil) .nil))
  (.cons (.set 7 (.lst false (.cons (.call g_law_next (.cons (.var 1) (.cons (.ci 9) .nil))) .nil)))
  (.cons (.set 8 (.bin true .Add (.call g_law_made (.cons (.var 7) .nil)) (.call g_law_named (.cons (.var 7) .nil))))
  (.cons (.ex (.mth "append" (.var 7) (.cons (.call g_law_next (.cons (.var 1) (.cons (.ci 9) .nil))) .nil)))
  (.cons (.for (.nm 9) (.ov (.var 8))
    (.cons (.ite (.or (.cons (.no (.isi (.fld (.var 9) "value") ["list"])) (.cons (.no (.call g_law_like (.cons (.blt true "tuple" (.cons (.fld (.var 9) "value") .nil)) (.cons (.blt true "tuple" (.cons (.var 7) .nil)) .nil)))) (.cons (.cmp .NotEq (.blt true "len" (.cons (.var 7) .nil)) (.ci 2)) .nil))))
      (.cons (.ret (.cb false)) .nil) .nil) .nil))
  (.cons (.ret (.call g_law_others (.cons (.var 1) .nil))) .nil))))))))))
def n_law : List Str := ["script"]
def f_law : List (Nat × Str × List Str) := [(g_law_whole, "_law_whole", [])]
def tb_law : List (Nat × Str) := []
def b_law : Sxs :=
  (.cons (.ret (.call g_law_whole (.cons (.var 0) .nil))) .nil)
end Bx

set_option Elab.async false
set_option linter.all false
set_option maxRecDepth 100000
set_option maxHeartbeats 8000000
/-! k32: the law's own functions. -/
namespace Bx
open PySem PySem.Spec L2
variable {Γ : Gm} {cA : Nat → Addr}
/-- X(v) -/
def sp_mk1 (C : Addr) (f : Str) : Spec := fun ds M Q _ => match ds with
  | [d] => Q (.exc C [f] [d]) M
  | _ => False
/-- X(v, w) where the fields stand in the other order; in this order -/
def sp_mkA (C : Addr) (f g : Str) : Spec := fun ds M Q _ => match ds with
  | [d, e] => Q (.exc C [g, f] [e, d]) M
  | _ => False
def sp_mkB (C : Addr) (f g : Str) : Spec := fun ds M Q _ => match ds with
  | [d, e] => Q (.exc C [f, g] [d, e]) M
  | _ => False
def k15 : List Nat := [c_InvalidNumber, c_InvalidPrice, c_InvalidBook, c_InvalidStart, c_InvalidFilling, c_InvalidSum, c_InvalidCells, c_InvalidMove, c_InvalidQuestion, c_InvalidTable, c_InvalidWeights, c_InvalidOrder, c_InvalidRows, c_InvalidNetwork, c_InvalidDeed]
def k19 : List Nat := k15 ++ [c_InvalidPuzzle, c_InvalidText, c_Undefined, c_NothingToUndo]
def madeL (cA : Nat → Addr) (v : D) : List D := k15.map fun c => .exc (cA c) ["value"] [v]
/-- what calls of the classes make -/
structure Makes (Γ : Gm) (cA : Nat → Addr) : Prop where
  p_InvalidNumber : Γ.call g_InvalidNumber = sp_mk1 (cA c_InvalidNumber) "value"
  p_InvalidPrice : Γ.call g_InvalidPrice = sp_mk1 (cA c_InvalidPrice) "value"
  p_InvalidBook : Γ.call g_InvalidBook = sp_mk1 (cA c_InvalidBook) "value"
  p_InvalidStart : Γ.call g_InvalidStart = sp_mk1 (cA c_InvalidStart) "value"
  p_InvalidFilling : Γ.call g_InvalidFilling = sp_mk1 (cA c_InvalidFilling) "value"
  p_InvalidSum : Γ.call g_InvalidSum = sp_mk1 (cA c_InvalidSum) "value"
  p_InvalidCells : Γ.call g_InvalidCells = sp_mk1 (cA c_InvalidCells) "value"
  p_InvalidMove : Γ.call g_InvalidMove = sp_mk1 (cA c_InvalidMove) "value"
  p_InvalidQuestion : Γ.call g_InvalidQuestion = sp_mk1 (cA c_InvalidQuestion) "value"
  p_InvalidTable : Γ.call g_InvalidTable = sp_mk1 (cA c_InvalidTable) "value"
  p_InvalidWeights : Γ.call g_InvalidWeights = sp_mk1 (cA c_InvalidWeights) "value"
  p_InvalidOrder : Γ.call g_InvalidOrder = sp_mk1 (cA c_InvalidOrder) "value"
  p_InvalidRows : Γ.call g_InvalidRows = sp_mk1 (cA c_InvalidRows) "value"
  p_InvalidNetwork : Γ.call g_InvalidNetwork = sp_mk1 (cA c_InvalidNetwork) "value"
  p_InvalidDeed : Γ.call g_InvalidDeed = sp_mk1 (cA c_InvalidDeed) "value"
  k_InvalidNumber : Γ.call g_InvalidNumber_k_value = sp_mk1 (cA c_InvalidNumber) "value"
  k_InvalidPrice : Γ.call g_InvalidPrice_k_value = sp_mk1 (cA c_InvalidPrice) "value"
  k_InvalidBook : Γ.call g_InvalidBook_k_value = sp_mk1 (cA c_InvalidBook) "value"
  k_InvalidStart : Γ.call g_InvalidStart_k_value = sp_mk1 (cA c_InvalidStart) "value"
  k_InvalidFilling : Γ.call g_InvalidFilling_k_value = sp_mk1 (cA c_InvalidFilling) "value"
  k_InvalidSum : Γ.call g_InvalidSum_k_value = sp_mk1 (cA c_InvalidSum) "value"
  k_InvalidCells : Γ.call g_InvalidCells_k_value = sp_mk1 (cA c_InvalidCells) "value"
  k_InvalidMove : Γ.call g_InvalidMove_k_value = sp_mk1 (cA c_InvalidMove) "value"
  k_InvalidQuestion : Γ.call g_InvalidQuestion_k_value = sp_mk1 (cA c_InvalidQuestion) "value"
  k_InvalidTable : Γ.call g_InvalidTable_k_value = sp_mk1 (cA c_InvalidTable) "value"
  k_InvalidWeights : Γ.call g_InvalidWeights_k_value = sp_mk1 (cA c_InvalidWeights) "value"
  k_InvalidOrder : Γ.call g_InvalidOrder_k_value = sp_mk1 (cA c_InvalidOrder) "value"
  k_InvalidRows : Γ.call g_InvalidRows_k_value = sp_mk1 (cA c_InvalidRows) "value"
  k_InvalidNetwork : Γ.call g_InvalidNetwork_k_value = sp_mk1 (cA c_InvalidNetwork) "value"
  k_InvalidDeed : Γ.call g_InvalidDeed_k_value = sp_mk1 (cA c_InvalidDeed) "value"
  puz : Γ.call g_InvalidPuzzle = sp_mkA (cA c_InvalidPuzzle) "part" "place"
  puzk : Γ.call g_InvalidPuzzle_k_place_k_part = sp_mkB (cA c_InvalidPuzzle) "place" "part"
  txt : Γ.call g_InvalidText = sp_mkA (cA c_InvalidText) "text" "at"
  txtk : Γ.call g_InvalidText_k_at_k_text = sp_mkB (cA c_InvalidText) "at" "text"
  und : Γ.call g_Undefined = sp_mk1 (cA c_Undefined) "what"
  undk : Γ.call g_Undefined_k_what = sp_mk1 (cA c_Undefined) "what"
  ntu : Γ.call g_NothingToUndo = sp_mk1 (cA c_NothingToUndo) "word"
  ntuk : Γ.call g_NothingToUndo_k_word = sp_mk1 (cA c_NothingToUndo) "word"
/-- what isinstance says -/
structure Subs (Γ : Gm) (cA : Nat → Addr) : Prop where
  own : ∀ i j : Nat, ∀ a b, k19[i]? = some a → k19[j]? = some b → Γ.sub (cA a) b = some (decide (j = i))
  top : ∀ a ∈ k19, Γ.sub (cA a) c_PriceError = some true ∧ Γ.sub (cA a) c_ValueError = some true
def sp_law_made (cA : Nat → Addr) : Spec := fun ds M Q _ => ∃ v, ds = [v] ∧ Q (.rl (madeL cA v)) M
theorem w_law_made (m : Makes Γ cA) {ds M Q E} (h : sp_law_made cA ds M Q E) : wpB Γ b_law_made (startD n_law_made ds) M (Kret Q E) := by
  obtain ⟨v, rfl, hq⟩ := h
  show wpB Γ b_law_made [some v, none] M (Kret Q E)
  unfold b_law_made
  ((try with_reducible refine nx_of ?_); simp only [↓B_one, ↓B_cons, ↓B_nil, ↓S_skip, ↓S_set, ↓S_unp, ↓S_par, ↓S_aug, ↓S_sto, ↓S_stg, ↓S_ex, ↓S_ret, ↓S_retn, ↓S_ite, ↓S_for, ↓S_whl, ↓S_brk, ↓S_cnt, ↓S_rais, ↓S_thru, ↓E_var, ↓look_0, ↓look_s, ↓E_ci, ↓E_cb, ↓E_cn, ↓E_cs, ↓E_bin, ↓E_un, ↓E_no, ↓E_an, ↓E_or, ↓E_cmp, ↓E_ch, ↓E_ife, ↓E_tup, ↓E_lst, ↓E_ix, ↓E_sl, ↓E_rev, ↓E_call, ↓E_callk, ↓E_blt, ↓E_mth, ↓E_ixc, ↓E_inc, ↓E_isi, ↓E_lrg, ↓E_lc, ↓E_fld, ↓E_isx, isW, fldW, isxW, N_exc, seq_rt, seq_bk, seq_ct, seq_ex, loop_rt, loop_bk, loop_ex, ret_nx, ret_rt', wpA, wpT, wpAnE, wpOrE, wpAnT, wpOrT, wpC, wpI, binW, addW, mulW, intW, CNo, CPos, CNN, unW, cmpW, eqW, ordW, ixW, B_len, B_int, B_abs, B_min, B_max, B_sum, B_tuple, B_list, lenW, int1W, absW, minW, maxW, sumW, tupleW, listW, augW, M_append, M_pop, ownL, stoW, getW, tgW, setAll, lrgW, partW, isCn, slW, revW, inW, truth, isAny, tyName, kit_NoneType_tuple, kit_NoneType_bool, kit_NoneType_int, kit_NoneType_str, kit_NoneType_list, kit_bool_tuple, kit_bool_bool, kit_bool_int, kit_bool_str, kit_bool_list, kit_int_tuple, kit_int_bool, kit_int_int, kit_int_str, kit_int_list, kit_str_tuple, kit_str_bool, kit_str_int, kit_str_str, kit_str_list, kit_tuple_tuple, kit_tuple_bool, kit_tuple_int, kit_tuple_str, kit_tuple_list, kit_list_tuple, kit_list_bool, kit_list_int, kit_list_str, kit_list_list, N_non, N_bl, N_int, N_str, N_tup, N_rl, N_wl, N_obj, I_tup, I_rl, I_wl, I_obj, LL_rl, LL_obj, O.xs, newL, wipeD, List.getElem?_cons_zero, List.getElem?_cons_succ, List.getElem?_nil, List.set_cons_zero, List.set_cons_succ, Option.some.injEq, exists_and_left, exists_eq', exists_eq, exists_eq_left', exists_eq_left, true_and, and_true, Bool.not_true, Bool.not_false, reduceCtorEq, ite_true, ite_false, if_true, if_false, String.reduceEq, D.int.injEq, D.bl.injEq, D.tup.injEq, D.rl.injEq, D.wl.injEq, D.obj.injEq, D.str.injEq, forall_const, Option.map_some, List.cons_append, List.nil_append, List.length_cons, List.length_nil, m.p_InvalidNumber, m.p_InvalidPrice, m.p_InvalidBook, m.p_InvalidStart, m.p_InvalidFilling, m.p_InvalidSum, m.p_InvalidCells, m.p_InvalidMove, m.p_InvalidQuestion, m.p_InvalidTable, m.p_InvalidWeights, m.p_InvalidOrder, m.p_InvalidRows, m.p_InvalidNetwork, m.p_InvalidDeed, sp_mk1, List.cons.injEq, List.length_map]; repeat (with_reducible refine nx_of ?_; simp only [↓B_one, ↓B_cons, ↓B_nil, ↓S_skip, ↓S_set, ↓S_unp, ↓S_par, ↓S_aug, ↓S_sto, ↓S_stg, ↓S_ex, ↓S_ret, ↓S_retn, ↓S_ite, ↓S_for, ↓S_whl, ↓S_brk, ↓S_cnt, ↓S_rais, ↓S_thru, ↓E_var, ↓look_0, ↓look_s, ↓E_ci, ↓E_cb, ↓E_cn, ↓E_cs, ↓E_bin, ↓E_un, ↓E_no, ↓E_an, ↓E_or, ↓E_cmp, ↓E_ch, ↓E_ife, ↓E_tup, ↓E_lst, ↓E_ix, ↓E_sl, ↓E_rev, ↓E_call, ↓E_callk, ↓E_blt, ↓E_mth, ↓E_ixc, ↓E_inc, ↓E_isi, ↓E_lrg, ↓E_lc, ↓E_fld, ↓E_isx, isW, fldW, isxW, N_exc, seq_rt, seq_bk, seq_ct, seq_ex, loop_rt, loop_bk, loop_ex, ret_nx, ret_rt', wpA, wpT, wpAnE, wpOrE, wpAnT, wpOrT, wpC, wpI, binW, addW, mulW, intW, CNo, CPos, CNN, unW, cmpW, eqW, ordW, ixW, B_len, B_int, B_abs, B_min, B_max, B_sum, B_tuple, B_list, lenW, int1W, absW, minW, maxW, sumW, tupleW, listW, augW, M_append, M_pop, ownL, stoW, getW, tgW, setAll, lrgW, partW, isCn, slW, revW, inW, truth, isAny, tyName, kit_NoneType_tuple, kit_NoneType_bool, kit_NoneType_int, kit_NoneType_str, kit_NoneType_list, kit_bool_tuple, kit_bool_bool, kit_bool_int, kit_bool_str, kit_bool_list, kit_int_tuple, kit_int_bool, kit_int_int, kit_int_str, kit_int_list, kit_str_tuple, kit_str_bool, kit_str_int, kit_str_str, kit_str_list, kit_tuple_tuple, kit_tuple_bool, kit_tuple_int, kit_tuple_str, kit_tuple_list, kit_list_tuple, kit_list_bool, kit_list_int, kit_list_str, kit_list_list, N_non, N_bl, N_int, N_str, N_tup, N_rl, N_wl, N_obj, I_tup, I_rl, I_wl, I_obj, LL_rl, LL_obj, O.xs, newL, wipeD, List.getElem?_cons_zero, List.getElem?_cons_succ, List.getElem?_nil, List.set_cons_zero, List.set_cons_succ, Option.some.injEq, exists_and_left, exists_eq', exists_eq, exists_eq_left', exists_eq_left, true_and, and_true, Bool.not_true, Bool.not_false, reduceCtorEq, ite_true, ite_false, if_true, if_false, String.reduceEq, D.int.injEq, D.bl.injEq, D.tup.injEq, D.rl.injEq, D.wl.injEq, D.obj.injEq, D.str.injEq, forall_const, Option.map_some, List.cons_append, List.nil_append, List.length_cons, List.length_nil, m.p_InvalidNumber, m.p_InvalidPrice, m.p_InvalidBook, m.p_InvalidStart, m.p_InvalidFilling, m.p_InvalidSum, m.p_InvalidCells, m.p_InvalidMove, m.p_InvalidQuestion, m.p_InvalidTable, m.p_InvalidWeights, m.p_InvalidOrder, m.p_InvalidRows, m.p_InvalidNetwork, m.p_InvalidDeed, sp_mk1, List.cons.injEq, List.length_map]))
  refine ⟨by decide, ?_⟩
  ((try with_reducible refine nx_of ?_); simp only [↓B_one, ↓B_cons, ↓B_nil, ↓S_skip, ↓S_set, ↓S_unp, ↓S_par, ↓S_aug, ↓S_sto, ↓S_stg, ↓S_ex, ↓S_ret, ↓S_retn, ↓S_ite, ↓S_for, ↓S_whl, ↓S_brk, ↓S_cnt, ↓S_rais, ↓S_thru, ↓E_var, ↓look_0, ↓look_s, ↓E_ci, ↓E_cb, ↓E_cn, ↓E_cs, ↓E_bin, ↓E_un, ↓E_no, ↓E_an, ↓E_or, ↓E_cmp, ↓E_ch, ↓E_ife, ↓E_tup, ↓E_lst, ↓E_ix, ↓E_sl, ↓E_rev, ↓E_call, ↓E_callk, ↓E_blt, ↓E_mth, ↓E_ixc, ↓E_inc, ↓E_isi, ↓E_lrg, ↓E_lc, ↓E_fld, ↓E_isx, isW, fldW, isxW, N_exc, seq_rt, seq_bk, seq_ct, seq_ex, loop_rt, loop_bk, loop_ex, ret_nx, ret_rt', wpA, wpT, wpAnE, wpOrE, wpAnT, wpOrT, wpC, wpI, binW, addW, mulW, intW, CNo, CPos, CNN, unW, cmpW, eqW, ordW, ixW, B_len, B_int, B_abs, B_min, B_max, B_sum, B_tuple, B_list, lenW, int1W, absW, minW, maxW, sumW, tupleW, listW, augW, M_append, M_pop, ownL, stoW, getW, tgW, setAll, lrgW, partW, isCn, slW, revW, inW, truth, isAny, tyName, kit_NoneType_tuple, kit_NoneType_bool, kit_NoneType_int, kit_NoneType_str, kit_NoneType_list, kit_bool_tuple, kit_bool_bool, kit_bool_int, kit_bool_str, kit_bool_list, kit_int_tuple, kit_int_bool, kit_int_int, kit_int_str, kit_int_list, kit_str_tuple, kit_str_bool, kit_str_int, kit_str_str, kit_str_list, kit_tuple_tuple, kit_tuple_bool, kit_tuple_int, kit_tuple_str, kit_tuple_list, kit_list_tuple, kit_list_bool, kit_list_int, kit_list_str, kit_list_list, N_non, N_bl, N_int, N_str, N_tup, N_rl, N_wl, N_obj, I_tup, I_rl, I_wl, I_obj, LL_rl, LL_obj, O.xs, newL, wipeD, List.getElem?_cons_zero, List.getElem?_cons_succ, List.getElem?_nil, List.set_cons_zero, List.set_cons_succ, Option.some.injEq, exists_and_left, exists_eq', exists_eq, exists_eq_left', exists_eq_left, true_and, and_true, Bool.not_true, Bool.not_false, reduceCtorEq, ite_true, ite_false, if_true, if_false, String.reduceEq, D.int.injEq, D.bl.injEq, D.tup.injEq, D.rl.injEq, D.wl.injEq, D.obj.injEq, D.str.injEq, forall_const, Option.map_some, List.cons_append, List.nil_append, List.length_cons, List.length_nil, m.p_InvalidNumber, m.p_InvalidPrice, m.p_InvalidBook, m.p_InvalidStart, m.p_InvalidFilling, m.p_InvalidSum, m.p_InvalidCells, m.p_InvalidMove, m.p_InvalidQuestion, m.p_InvalidTable, m.p_InvalidWeights, m.p_InvalidOrder, m.p_InvalidRows, m.p_InvalidNetwork, m.p_InvalidDeed, sp_mk1, List.cons.injEq, List.length_map]; repeat (with_reducible refine nx_of ?_; simp only [↓B_one, ↓B_cons, ↓B_nil, ↓S_skip, ↓S_set, ↓S_unp, ↓S_par, ↓S_aug, ↓S_sto, ↓S_stg, ↓S_ex, ↓S_ret, ↓S_retn, ↓S_ite, ↓S_for, ↓S_whl, ↓S_brk, ↓S_cnt, ↓S_rais, ↓S_thru, ↓E_var, ↓look_0, ↓look_s, ↓E_ci, ↓E_cb, ↓E_cn, ↓E_cs, ↓E_bin, ↓E_un, ↓E_no, ↓E_an, ↓E_or, ↓E_cmp, ↓E_ch, ↓E_ife, ↓E_tup, ↓E_lst, ↓E_ix, ↓E_sl, ↓E_rev, ↓E_call, ↓E_callk, ↓E_blt, ↓E_mth, ↓E_ixc, ↓E_inc, ↓E_isi, ↓E_lrg, ↓E_lc, ↓E_fld, ↓E_isx, isW, fldW, isxW, N_exc, seq_rt, seq_bk, seq_ct, seq_ex, loop_rt, loop_bk, loop_ex, ret_nx, ret_rt', wpA, wpT, wpAnE, wpOrE, wpAnT, wpOrT, wpC, wpI, binW, addW, mulW, intW, CNo, CPos, CNN, unW, cmpW, eqW, ordW, ixW, B_len, B_int, B_abs, B_min, B_max, B_sum, B_tuple, B_list, lenW, int1W, absW, minW, maxW, sumW, tupleW, listW, augW, M_append, M_pop, ownL, stoW, getW, tgW, setAll, lrgW, partW, isCn, slW, revW, inW, truth, isAny, tyName, kit_NoneType_tuple, kit_NoneType_bool, kit_NoneType_int, kit_NoneType_str, kit_NoneType_list, kit_bool_tuple, kit_bool_bool, kit_bool_int, kit_bool_str, kit_bool_list, kit_int_tuple, kit_int_bool, kit_int_int, kit_int_str, kit_int_list, kit_str_tuple, kit_str_bool, kit_str_int, kit_str_str, kit_str_list, kit_tuple_tuple, kit_tuple_bool, kit_tuple_int, kit_tuple_str, kit_tuple_list, kit_list_tuple, kit_list_bool, kit_list_int, kit_list_str, kit_list_list, N_non, N_bl, N_int, N_str, N_tup, N_rl, N_wl, N_obj, I_tup, I_rl, I_wl, I_obj, LL_rl, LL_obj, O.xs, newL, wipeD, List.getElem?_cons_zero, List.getElem?_cons_succ, List.getElem?_nil, List.set_cons_zero, List.set_cons_succ, Option.some.injEq, exists_and_left, exists_eq', exists_eq, exists_eq_left', exists_eq_left, true_and, and_true, Bool.not_true, Bool.not_false, reduceCtorEq, ite_true, ite_false, if_true, if_false, String.reduceEq, D.int.injEq, D.bl.injEq, D.tup.injEq, D.rl.injEq, D.wl.injEq, D.obj.injEq, D.str.injEq, forall_const, Option.map_some, List.cons_append, List.nil_append, List.length_cons, List.length_nil, m.p_InvalidNumber, m.p_InvalidPrice, m.p_InvalidBook, m.p_InvalidStart, m.p_InvalidFilling, m.p_InvalidSum, m.p_InvalidCells, m.p_InvalidMove, m.p_InvalidQuestion, m.p_InvalidTable, m.p_InvalidWeights, m.p_InvalidOrder, m.p_InvalidRows, m.p_InvalidNetwork, m.p_InvalidDeed, sp_mk1, List.cons.injEq, List.length_map]))
  refine ⟨by decide, by decide, ?_⟩
  ((try with_reducible refine nx_of ?_); simp only [↓B_one, ↓B_cons, ↓B_nil, ↓S_skip, ↓S_set, ↓S_unp, ↓S_par, ↓S_aug, ↓S_sto, ↓S_stg, ↓S_ex, ↓S_ret, ↓S_retn, ↓S_ite, ↓S_for, ↓S_whl, ↓S_brk, ↓S_cnt, ↓S_rais, ↓S_thru, ↓E_var, ↓look_0, ↓look_s, ↓E_ci, ↓E_cb, ↓E_cn, ↓E_cs, ↓E_bin, ↓E_un, ↓E_no, ↓E_an, ↓E_or, ↓E_cmp, ↓E_ch, ↓E_ife, ↓E_tup, ↓E_lst, ↓E_ix, ↓E_sl, ↓E_rev, ↓E_call, ↓E_callk, ↓E_blt, ↓E_mth, ↓E_ixc, ↓E_inc, ↓E_isi, ↓E_lrg, ↓E_lc, ↓E_fld, ↓E_isx, isW, fldW, isxW, N_exc, seq_rt, seq_bk, seq_ct, seq_ex, loop_rt, loop_bk, loop_ex, ret_nx, ret_rt', wpA, wpT, wpAnE, wpOrE, wpAnT, wpOrT, wpC, wpI, binW, addW, mulW, intW, CNo, CPos, CNN, unW, cmpW, eqW, ordW, ixW, B_len, B_int, B_abs, B_min, B_max, B_sum, B_tuple, B_list, lenW, int1W, absW, minW, maxW, sumW, tupleW, listW, augW, M_append, M_pop, ownL, stoW, getW, tgW, setAll, lrgW, partW, isCn, slW, revW, inW, truth, isAny, tyName, kit_NoneType_tuple, kit_NoneType_bool, kit_NoneType_int, kit_NoneType_str, kit_NoneType_list, kit_bool_tuple, kit_bool_bool, kit_bool_int, kit_bool_str, kit_bool_list, kit_int_tuple, kit_int_bool, kit_int_int, kit_int_str, kit_int_list, kit_str_tuple, kit_str_bool, kit_str_int, kit_str_str, kit_str_list, kit_tuple_tuple, kit_tuple_bool, kit_tuple_int, kit_tuple_str, kit_tuple_list, kit_list_tuple, kit_list_bool, kit_list_int, kit_list_str, kit_list_list, N_non, N_bl, N_int, N_str, N_tup, N_rl, N_wl, N_obj, I_tup, I_rl, I_wl, I_obj, LL_rl, LL_obj, O.xs, newL, wipeD, List.getElem?_cons_zero, List.getElem?_cons_succ, List.getElem?_nil, List.set_cons_zero, List.set_cons_succ, Option.some.injEq, exists_and_left, exists_eq', exists_eq, exists_eq_left', exists_eq_left, true_and, and_true, Bool.not_true, Bool.not_false, reduceCtorEq, ite_true, ite_false, if_true, if_false, String.reduceEq, D.int.injEq, D.bl.injEq, D.tup.injEq, D.rl.injEq, D.wl.injEq, D.obj.injEq, D.str.injEq, forall_const, Option.map_some, List.cons_append, List.nil_append, List.length_cons, List.length_nil, m.p_InvalidNumber, m.p_InvalidPrice, m.p_InvalidBook, m.p_InvalidStart, m.p_InvalidFilling, m.p_InvalidSum, m.p_InvalidCells, m.p_InvalidMove, m.p_InvalidQuestion, m.p_InvalidTable, m.p_InvalidWeights, m.p_InvalidOrder, m.p_InvalidRows, m.p_InvalidNetwork, m.p_InvalidDeed, sp_mk1, List.cons.injEq, List.length_map]; repeat (with_reducible refine nx_of ?_; simp only [↓B_one, ↓B_cons, ↓B_nil, ↓S_skip, ↓S_set, ↓S_unp, ↓S_par, ↓S_aug, ↓S_sto, ↓S_stg, ↓S_ex, ↓S_ret, ↓S_retn, ↓S_ite, ↓S_for, ↓S_whl, ↓S_brk, ↓S_cnt, ↓S_rais, ↓S_thru, ↓E_var, ↓look_0, ↓look_s, ↓E_ci, ↓E_cb, ↓E_cn, ↓E_cs, ↓E_bin, ↓E_un, ↓E_no, ↓E_an, ↓E_or, ↓E_cmp, ↓E_ch, ↓E_ife, ↓E_tup, ↓E_lst, ↓E_ix, ↓E_sl, ↓E_rev, ↓E_call, ↓E_callk, ↓E_blt, ↓E_mth, ↓E_ixc, ↓E_inc, ↓E_isi, ↓E_lrg, ↓E_lc, ↓E_fld, ↓E_isx, isW, fldW, isxW, N_exc, seq_rt, seq_bk, seq_ct, seq_ex, loop_rt, loop_bk, loop_ex, ret_nx, ret_rt', wpA, wpT, wpAnE, wpOrE, wpAnT, wpOrT, wpC, wpI, binW, addW, mulW, intW, CNo, CPos, CNN, unW, cmpW, eqW, ordW, ixW, B_len, B_int, B_abs, B_min, B_max, B_sum, B_tuple, B_list, lenW, int1W, absW, minW, maxW, sumW, tupleW, listW, augW, M_append, M_pop, ownL, stoW, getW, tgW, setAll, lrgW, partW, isCn, slW, revW, inW, truth, isAny, tyName, kit_NoneType_tuple, kit_NoneType_bool, kit_NoneType_int, kit_NoneType_str, kit_NoneType_list, kit_bool_tuple, kit_bool_bool, kit_bool_int, kit_bool_str, kit_bool_list, kit_int_tuple, kit_int_bool, kit_int_int, kit_int_str, kit_int_list, kit_str_tuple, kit_str_bool, kit_str_int, kit_str_str, kit_str_list, kit_tuple_tuple, kit_tuple_bool, kit_tuple_int, kit_tuple_str, kit_tuple_list, kit_list_tuple, kit_list_bool, kit_list_int, kit_list_str, kit_list_list, N_non, N_bl, N_int, N_str, N_tup, N_rl, N_wl, N_obj, I_tup, I_rl, I_wl, I_obj, LL_rl, LL_obj, O.xs, newL, wipeD, List.getElem?_cons_zero, List.getElem?_cons_succ, List.getElem?_nil, List.set_cons_zero, List.set_cons_succ, Option.some.injEq, exists_and_left, exists_eq', exists_eq, exists_eq_left', exists_eq_left, true_and, and_true, Bool.not_true, Bool.not_false, reduceCtorEq, ite_true, ite_false, if_true, if_false, String.reduceEq, D.int.injEq, D.bl.injEq, D.tup.injEq, D.rl.injEq, D.wl.injEq, D.obj.injEq, D.str.injEq, forall_const, Option.map_some, List.cons_append, List.nil_append, List.length_cons, List.length_nil, m.p_InvalidNumber, m.p_InvalidPrice, m.p_InvalidBook, m.p_InvalidStart, m.p_InvalidFilling, m.p_InvalidSum, m.p_InvalidCells, m.p_InvalidMove, m.p_InvalidQuestion, m.p_InvalidTable, m.p_InvalidWeights, m.p_InvalidOrder, m.p_InvalidRows, m.p_InvalidNetwork, m.p_InvalidDeed, sp_mk1, List.cons.injEq, List.length_map]))
  refine ⟨by decide, by decide, ?_⟩
  ((try with_reducible refine nx_of ?_); simp only [↓B_one, ↓B_cons, ↓B_nil, ↓S_skip, ↓S_set, ↓S_unp, ↓S_par, ↓S_aug, ↓S_sto, ↓S_stg, ↓S_ex, ↓S_ret, ↓S_retn, ↓S_ite, ↓S_for, ↓S_whl, ↓S_brk, ↓S_cnt, ↓S_rais, ↓S_thru, ↓E_var, ↓look_0, ↓look_s, ↓E_ci, ↓E_cb, ↓E_cn, ↓E_cs, ↓E_bin, ↓E_un, ↓E_no, ↓E_an, ↓E_or, ↓E_cmp, ↓E_ch, ↓E_ife, ↓E_tup, ↓E_lst, ↓E_ix, ↓E_sl, ↓E_rev, ↓E_call, ↓E_callk, ↓E_blt, ↓E_mth, ↓E_ixc, ↓E_inc, ↓E_isi, ↓E_lrg, ↓E_lc, ↓E_fld, ↓E_isx, isW, fldW, isxW, N_exc, seq_rt, seq_bk, seq_ct, seq_ex, loop_rt, loop_bk, loop_ex, ret_nx, ret_rt', wpA, wpT, wpAnE, wpOrE, wpAnT, wpOrT, wpC, wpI, binW, addW, mulW, intW, CNo, CPos, CNN, unW, cmpW, eqW, ordW, ixW, B_len, B_int, B_abs, B_min, B_max, B_sum, B_tuple, B_list, lenW, int1W, absW, minW, maxW, sumW, tupleW, listW, augW, M_append, M_pop, ownL, stoW, getW, tgW, setAll, lrgW, partW, isCn, slW, revW, inW, truth, isAny, tyName, kit_NoneType_tuple, kit_NoneType_bool, kit_NoneType_int, kit_NoneType_str, kit_NoneType_list, kit_bool_tuple, kit_bool_bool, kit_bool_int, kit_bool_str, kit_bool_list, kit_int_tuple, kit_int_bool, kit_int_int, kit_int_str, kit_int_list, kit_str_tuple, kit_str_bool, kit_str_int, kit_str_str, kit_str_list, kit_tuple_tuple, kit_tuple_bool, kit_tuple_int, kit_tuple_str, kit_tuple_list, kit_list_tuple, kit_list_bool, kit_list_int, kit_list_str, kit_list_list, N_non, N_bl, N_int, N_str, N_tup, N_rl, N_wl, N_obj, I_tup, I_rl, I_wl, I_obj, LL_rl, LL_obj, O.xs, newL, wipeD, List.getElem?_cons_zero, List.getElem?_cons_succ, List.getElem?_nil, List.set_cons_zero, List.set_cons_succ, Option.some.injEq, exists_and_left, exists_eq', exists_eq, exists_eq_left', exists_eq_left, true_and, and_true, Bool.not_true, Bool.not_false, reduceCtorEq, ite_true, ite_false, if_true, if_false, String.reduceEq, D.int.injEq, D.bl.injEq, D.tup.injEq, D.rl.injEq, D.wl.injEq, D.obj.injEq, D.str.injEq, forall_const, Option.map_some, List.cons_append, List.nil_append, List.length_cons, List.length_nil, m.p_InvalidNumber, m.p_InvalidPrice, m.p_InvalidBook, m.p_InvalidStart, m.p_InvalidFilling, m.p_InvalidSum, m.p_InvalidCells, m.p_InvalidMove, m.p_InvalidQuestion, m.p_InvalidTable, m.p_InvalidWeights, m.p_InvalidOrder, m.p_InvalidRows, m.p_InvalidNetwork, m.p_InvalidDeed, sp_mk1, List.cons.injEq, List.length_map]; repeat (with_reducible refine nx_of ?_; simp only [↓B_one, ↓B_cons, ↓B_nil, ↓S_skip, ↓S_set, ↓S_unp, ↓S_par, ↓S_aug, ↓S_sto, ↓S_stg, ↓S_ex, ↓S_ret, ↓S_retn, ↓S_ite, ↓S_for, ↓S_whl, ↓S_brk, ↓S_cnt, ↓S_rais, ↓S_thru, ↓E_var, ↓look_0, ↓look_s, ↓E_ci, ↓E_cb, ↓E_cn, ↓E_cs, ↓E_bin, ↓E_un, ↓E_no, ↓E_an, ↓E_or, ↓E_cmp, ↓E_ch, ↓E_ife, ↓E_tup, ↓E_lst, ↓E_ix, ↓E_sl, ↓E_rev, ↓E_call, ↓E_callk, ↓E_blt, ↓E_mth, ↓E_ixc, ↓E_inc, ↓E_isi, ↓E_lrg, ↓E_lc, ↓E_fld, ↓E_isx, isW, fldW, isxW, N_exc, seq_rt, seq_bk, seq_ct, seq_ex, loop_rt, loop_bk, loop_ex, ret_nx, ret_rt', wpA, wpT, wpAnE, wpOrE, wpAnT, wpOrT, wpC, wpI, binW, addW, mulW, intW, CNo, CPos, CNN, unW, cmpW, eqW, ordW, ixW, B_len, B_int, B_abs, B_min, B_max, B_sum, B_tuple, B_list, lenW, int1W, absW, minW, maxW, sumW, tupleW, listW, augW, M_append, M_pop, ownL, stoW, getW, tgW, setAll, lrgW, partW, isCn, slW, revW, inW, truth, isAny, tyName, kit_NoneType_tuple, kit_NoneType_bool, kit_NoneType_int, kit_NoneType_str, kit_NoneType_list, kit_bool_tuple, kit_bool_bool, kit_bool_int, kit_bool_str, kit_bool_list, kit_int_tuple, kit_int_bool, kit_int_int, kit_int_str, kit_int_list, kit_str_tuple, kit_str_bool, kit_str_int, kit_str_str, kit_str_list, kit_tuple_tuple, kit_tuple_bool, kit_tuple_int, kit_tuple_str, kit_tuple_list, kit_list_tuple, kit_list_bool, kit_list_int, kit_list_str, kit_list_list, N_non, N_bl, N_int, N_str, N_tup, N_rl, N_wl, N_obj, I_tup, I_rl, I_wl, I_obj, LL_rl, LL_obj, O.xs, newL, wipeD, List.getElem?_cons_zero, List.getElem?_cons_succ, List.getElem?_nil, List.set_cons_zero, List.set_cons_succ, Option.some.injEq, exists_and_left, exists_eq', exists_eq, exists_eq_left', exists_eq_left, true_and, and_true, Bool.not_true, Bool.not_false, reduceCtorEq, ite_true, ite_false, if_true, if_false, String.reduceEq, D.int.injEq, D.bl.injEq, D.tup.injEq, D.rl.injEq, D.wl.injEq, D.obj.injEq, D.str.injEq, forall_const, Option.map_some, List.cons_append, List.nil_append, List.length_cons, List.length_nil, m.p_InvalidNumber, m.p_InvalidPrice, m.p_InvalidBook, m.p_InvalidStart, m.p_InvalidFilling, m.p_InvalidSum, m.p_InvalidCells, m.p_InvalidMove, m.p_InvalidQuestion, m.p_InvalidTable, m.p_InvalidWeights, m.p_InvalidOrder, m.p_InvalidRows, m.p_InvalidNetwork, m.p_InvalidDeed, sp_mk1, List.cons.injEq, List.length_map]))
  exact ⟨by decide, by decide, .here hq⟩
def sp_law_named (cA : Nat → Addr) : Spec := fun ds M Q _ => ∃ v, ds = [v] ∧ Q (.rl (madeL cA v)) M
theorem w_law_named (m : Makes Γ cA) {ds M Q E} (h : sp_law_named cA ds M Q E) : wpB Γ b_law_named (startD n_law_named ds) M (Kret Q E) := by
  obtain ⟨v, rfl, hq⟩ := h
  show wpB Γ b_law_named [some v, none] M (Kret Q E)
  unfold b_law_named
  ((try with_reducible refine nx_of ?_); simp only [↓B_one, ↓B_cons, ↓B_nil, ↓S_skip, ↓S_set, ↓S_unp, ↓S_par, ↓S_aug, ↓S_sto, ↓S_stg, ↓S_ex, ↓S_ret, ↓S_retn, ↓S_ite, ↓S_for, ↓S_whl, ↓S_brk, ↓S_cnt, ↓S_rais, ↓S_thru, ↓E_var, ↓look_0, ↓look_s, ↓E_ci, ↓E_cb, ↓E_cn, ↓E_cs, ↓E_bin, ↓E_un, ↓E_no, ↓E_an, ↓E_or, ↓E_cmp, ↓E_ch, ↓E_ife, ↓E_tup, ↓E_lst, ↓E_ix, ↓E_sl, ↓E_rev, ↓E_call, ↓E_callk, ↓E_blt, ↓E_mth, ↓E_ixc, ↓E_inc, ↓E_isi, ↓E_lrg, ↓E_lc, ↓E_fld, ↓E_isx, isW, fldW, isxW, N_exc, seq_rt, seq_bk, seq_ct, seq_ex, loop_rt, loop_bk, loop_ex, ret_nx, ret_rt', wpA, wpT, wpAnE, wpOrE, wpAnT, wpOrT, wpC, wpI, binW, addW, mulW, intW, CNo, CPos, CNN, unW, cmpW, eqW, ordW, ixW, B_len, B_int, B_abs, B_min, B_max, B_sum, B_tuple, B_list, lenW, int1W, absW, minW, maxW, sumW, tupleW, listW, augW, M_append, M_pop, ownL, stoW, getW, tgW, setAll, lrgW, partW, isCn, slW, revW, inW, truth, isAny, tyName, kit_NoneType_tuple, kit_NoneType_bool, kit_NoneType_int, kit_NoneType_str, kit_NoneType_list, kit_bool_tuple, kit_bool_bool, kit_bool_int, kit_bool_str, kit_bool_list, kit_int_tuple, kit_int_bool, kit_int_int, kit_int_str, kit_int_list, kit_str_tuple, kit_str_bool, kit_str_int, kit_str_str, kit_str_list, kit_tuple_tuple, kit_tuple_bool, kit_tuple_int, kit_tuple_str, kit_tuple_list, kit_list_tuple, kit_list_bool, kit_list_int, kit_list_str, kit_list_list, N_non, N_bl, N_int, N_str, N_tup, N_rl, N_wl, N_obj, I_tup, I_rl, I_wl, I_obj, LL_rl, LL_obj, O.xs, newL, wipeD, List.getElem?_cons_zero, List.getElem?_cons_succ, List.getElem?_nil, List.set_cons_zero, List.set_cons_succ, Option.some.injEq, exists_and_left, exists_eq', exists_eq, exists_eq_left', exists_eq_left, true_and, and_true, Bool.not_true, Bool.not_false, reduceCtorEq, ite_true, ite_false, if_true, if_false, String.reduceEq, D.int.injEq, D.bl.injEq, D.tup.injEq, D.rl.injEq, D.wl.injEq, D.obj.injEq, D.str.injEq, forall_const, Option.map_some, List.cons_append, List.nil_append, List.length_cons, List.length_nil, m.k_InvalidNumber, m.k_InvalidPrice, m.k_InvalidBook, m.k_InvalidStart, m.k_InvalidFilling, m.k_InvalidSum, m.k_InvalidCells, m.k_InvalidMove, m.k_InvalidQuestion, m.k_InvalidTable, m.k_InvalidWeights, m.k_InvalidOrder, m.k_InvalidRows, m.k_InvalidNetwork, m.k_InvalidDeed, sp_mk1, List.cons.injEq, List.length_map]; repeat (with_reducible refine nx_of ?_; simp only [↓B_one, ↓B_cons, ↓B_nil, ↓S_skip, ↓S_set, ↓S_unp, ↓S_par, ↓S_aug, ↓S_sto, ↓S_stg, ↓S_ex, ↓S_ret, ↓S_retn, ↓S_ite, ↓S_for, ↓S_whl, ↓S_brk, ↓S_cnt, ↓S_rais, ↓S_thru, ↓E_var, ↓look_0, ↓look_s, ↓E_ci, ↓E_cb, ↓E_cn, ↓E_cs, ↓E_bin, ↓E_un, ↓E_no, ↓E_an, ↓E_or, ↓E_cmp, ↓E_ch, ↓E_ife, ↓E_tup, ↓E_lst, ↓E_ix, ↓E_sl, ↓E_rev, ↓E_call, ↓E_callk, ↓E_blt, ↓E_mth, ↓E_ixc, ↓E_inc, ↓E_isi, ↓E_lrg, ↓E_lc, ↓E_fld, ↓E_isx, isW, fldW, isxW, N_exc, seq_rt, seq_bk, seq_ct, seq_ex, loop_rt, loop_bk, loop_ex, ret_nx, ret_rt', wpA, wpT, wpAnE, wpOrE, wpAnT, wpOrT, wpC, wpI, binW, addW, mulW, intW, CNo, CPos, CNN, unW, cmpW, eqW, ordW, ixW, B_len, B_int, B_abs, B_min, B_max, B_sum, B_tuple, B_list, lenW, int1W, absW, minW, maxW, sumW, tupleW, listW, augW, M_append, M_pop, ownL, stoW, getW, tgW, setAll, lrgW, partW, isCn, slW, revW, inW, truth, isAny, tyName, kit_NoneType_tuple, kit_NoneType_bool, kit_NoneType_int, kit_NoneType_str, kit_NoneType_list, kit_bool_tuple, kit_bool_bool, kit_bool_int, kit_bool_str, kit_bool_list, kit_int_tuple, kit_int_bool, kit_int_int, kit_int_str, kit_int_list, kit_str_tuple, kit_str_bool, kit_str_int, kit_str_str, kit_str_list, kit_tuple_tuple, kit_tuple_bool, kit_tuple_int, kit_tuple_str, kit_tuple_list, kit_list_tuple, kit_list_bool, kit_list_int, kit_list_str, kit_list_list, N_non, N_bl, N_int, N_str, N_tup, N_rl, N_wl, N_obj, I_tup, I_rl, I_wl, I_obj, LL_rl, LL_obj, O.xs, newL, wipeD, List.getElem?_cons_zero, List.getElem?_cons_succ, List.getElem?_nil, List.set_cons_zero, List.set_cons_succ, Option.some.injEq, exists_and_left, exists_eq', exists_eq, exists_eq_left', exists_eq_left, true_and, and_true, Bool.not_true, Bool.not_false, reduceCtorEq, ite_true, ite_false, if_true, if_false, String.reduceEq, D.int.injEq, D.bl.injEq, D.tup.injEq, D.rl.injEq, D.wl.injEq, D.obj.injEq, D.str.injEq, forall_const, Option.map_some, List.cons_append, List.nil_append, List.length_cons, List.length_nil, m.k_InvalidNumber, m.k_InvalidPrice, m.k_InvalidBook, m.k_InvalidStart, m.k_InvalidFilling, m.k_InvalidSum, m.k_InvalidCells, m.k_InvalidMove, m.k_InvalidQuestion, m.k_InvalidTable, m.k_InvalidWeights, m.k_InvalidOrder, m.k_InvalidRows, m.k_InvalidNetwork, m.k_InvalidDeed, sp_mk1, List.cons.injEq, List.length_map]))
  refine ⟨by decide, ?_⟩
  ((try with_reducible refine nx_of ?_); simp only [↓B_one, ↓B_cons, ↓B_nil, ↓S_skip, ↓S_set, ↓S_unp, ↓S_par, ↓S_aug, ↓S_sto, ↓S_stg, ↓S_ex, ↓S_ret, ↓S_retn, ↓S_ite, ↓S_for, ↓S_whl, ↓S_brk, ↓S_cnt, ↓S_rais, ↓S_thru, ↓E_var, ↓look_0, ↓look_s, ↓E_ci, ↓E_cb, ↓E_cn, ↓E_cs, ↓E_bin, ↓E_un, ↓E_no, ↓E_an, ↓E_or, ↓E_cmp, ↓E_ch, ↓E_ife, ↓E_tup, ↓E_lst, ↓E_ix, ↓E_sl, ↓E_rev, ↓E_call, ↓E_callk, ↓E_blt, ↓E_mth, ↓E_ixc, ↓E_inc, ↓E_isi, ↓E_lrg, ↓E_lc, ↓E_fld, ↓E_isx, isW, fldW, isxW, N_exc, seq_rt, seq_bk, seq_ct, seq_ex, loop_rt, loop_bk, loop_ex, ret_nx, ret_rt', wpA, wpT, wpAnE, wpOrE, wpAnT, wpOrT, wpC, wpI, binW, addW, mulW, intW, CNo, CPos, CNN, unW, cmpW, eqW, ordW, ixW, B_len, B_int, B_abs, B_min, B_max, B_sum, B_tuple, B_list, lenW, int1W, absW, minW, maxW, sumW, tupleW, listW, augW, M_append, M_pop, ownL, stoW, getW, tgW, setAll, lrgW, partW, isCn, slW, revW, inW, truth, isAny, tyName, kit_NoneType_tuple, kit_NoneType_bool, kit_NoneType_int, kit_NoneType_str, kit_NoneType_list, kit_bool_tuple, kit_bool_bool, kit_bool_int, kit_bool_str, kit_bool_list, kit_int_tuple, kit_int_bool, kit_int_int, kit_int_str, kit_int_list, kit_str_tuple, kit_str_bool, kit_str_int, kit_str_str, kit_str_list, kit_tuple_tuple, kit_tuple_bool, kit_tuple_int, kit_tuple_str, kit_tuple_list, kit_list_tuple, kit_list_bool, kit_list_int, kit_list_str, kit_list_list, N_non, N_bl, N_int, N_str, N_tup, N_rl, N_wl, N_obj, I_tup, I_rl, I_wl, I_obj, LL_rl, LL_obj, O.xs, newL, wipeD, List.getElem?_cons_zero, List.getElem?_cons_succ, List.getElem?_nil, List.set_cons_zero, List.set_cons_succ, Option.some.injEq, exists_and_left, exists_eq', exists_eq, exists_eq_left', exists_eq_left, true_and, and_true, Bool.not_true, Bool.not_false, reduceCtorEq, ite_true, ite_false, if_true, if_false, String.reduceEq, D.int.injEq, D.bl.injEq, D.tup.injEq, D.rl.injEq, D.wl.injEq, D.obj.injEq, D.str.injEq, forall_const, Option.map_some, List.cons_append, List.nil_append, List.length_cons, List.length_nil, m.k_InvalidNumber, m.k_InvalidPrice, m.k_InvalidBook, m.k_InvalidStart, m.k_InvalidFilling, m.k_InvalidSum, m.k_InvalidCells, m.k_InvalidMove, m.k_InvalidQuestion, m.k_InvalidTable, m.k_InvalidWeights, m.k_InvalidOrder, m.k_InvalidRows, m.k_InvalidNetwork, m.k_InvalidDeed, sp_mk1, List.cons.injEq, List.length_map]; repeat (with_reducible refine nx_of ?_; simp only [↓B_one, ↓B_cons, ↓B_nil, ↓S_skip, ↓S_set, ↓S_unp, ↓S_par, ↓S_aug, ↓S_sto, ↓S_stg, ↓S_ex, ↓S_ret, ↓S_retn, ↓S_ite, ↓S_for, ↓S_whl, ↓S_brk, ↓S_cnt, ↓S_rais, ↓S_thru, ↓E_var, ↓look_0, ↓look_s, ↓E_ci, ↓E_cb, ↓E_cn, ↓E_cs, ↓E_bin, ↓E_un, ↓E_no, ↓E_an, ↓E_or, ↓E_cmp, ↓E_ch, ↓E_ife, ↓E_tup, ↓E_lst, ↓E_ix, ↓E_sl, ↓E_rev, ↓E_call, ↓E_callk, ↓E_blt, ↓E_mth, ↓E_ixc, ↓E_inc, ↓E_isi, ↓E_lrg, ↓E_lc, ↓E_fld, ↓E_isx, isW, fldW, isxW, N_exc, seq_rt, seq_bk, seq_ct, seq_ex, loop_rt, loop_bk, loop_ex, ret_nx, ret_rt', wpA, wpT, wpAnE, wpOrE, wpAnT, wpOrT, wpC, wpI, binW, addW, mulW, intW, CNo, CPos, CNN, unW, cmpW, eqW, ordW, ixW, B_len, B_int, B_abs, B_min, B_max, B_sum, B_tuple, B_list, lenW, int1W, absW, minW, maxW, sumW, tupleW, listW, augW, M_append, M_pop, ownL, stoW, getW, tgW, setAll, lrgW, partW, isCn, slW, revW, inW, truth, isAny, tyName, kit_NoneType_tuple, kit_NoneType_bool, kit_NoneType_int, kit_NoneType_str, kit_NoneType_list, kit_bool_tuple, kit_bool_bool, kit_bool_int, kit_bool_str, kit_bool_list, kit_int_tuple, kit_int_bool, kit_int_int, kit_int_str, kit_int_list, kit_str_tuple, kit_str_bool, kit_str_int, kit_str_str, kit_str_list, kit_tuple_tuple, kit_tuple_bool, kit_tuple_int, kit_tuple_str, kit_tuple_list, kit_list_tuple, kit_list_bool, kit_list_int, kit_list_str, kit_list_list, N_non, N_bl, N_int, N_str, N_tup, N_rl, N_wl, N_obj, I_tup, I_rl, I_wl, I_obj, LL_rl, LL_obj, O.xs, newL, wipeD, List.getElem?_cons_zero, List.getElem?_cons_succ, List.getElem?_nil, List.set_cons_zero, List.set_cons_succ, Option.some.injEq, exists_and_left, exists_eq', exists_eq, exists_eq_left', exists_eq_left, true_and, and_true, Bool.not_true, Bool.not_false, reduceCtorEq, ite_true, ite_false, if_true, if_false, String.reduceEq, D.int.injEq, D.bl.injEq, D.tup.injEq, D.rl.injEq, D.wl.injEq, D.obj.injEq, D.str.injEq, forall_const, Option.map_some, List.cons_append, List.nil_append, List.length_cons, List.length_nil, m.k_InvalidNumber, m.k_InvalidPrice, m.k_InvalidBook, m.k_InvalidStart, m.k_InvalidFilling, m.k_InvalidSum, m.k_InvalidCells, m.k_InvalidMove, m.k_InvalidQuestion, m.k_InvalidTable, m.k_InvalidWeights, m.k_InvalidOrder, m.k_InvalidRows, m.k_InvalidNetwork, m.k_InvalidDeed, sp_mk1, List.cons.injEq, List.length_map]))
  refine ⟨by decide, by decide, ?_⟩
  ((try with_reducible refine nx_of ?_); simp only [↓B_one, ↓B_cons, ↓B_nil, ↓S_skip, ↓S_set, ↓S_unp, ↓S_par, ↓S_aug, ↓S_sto, ↓S_stg, ↓S_ex, ↓S_ret, ↓S_retn, ↓S_ite, ↓S_for, ↓S_whl, ↓S_brk, ↓S_cnt, ↓S_rais, ↓S_thru, ↓E_var, ↓look_0, ↓look_s, ↓E_ci, ↓E_cb, ↓E_cn, ↓E_cs, ↓E_bin, ↓E_un, ↓E_no, ↓E_an, ↓E_or, ↓E_cmp, ↓E_ch, ↓E_ife, ↓E_tup, ↓E_lst, ↓E_ix, ↓E_sl, ↓E_rev, ↓E_call, ↓E_callk, ↓E_blt, ↓E_mth, ↓E_ixc, ↓E_inc, ↓E_isi, ↓E_lrg, ↓E_lc, ↓E_fld, ↓E_isx, isW, fldW, isxW, N_exc, seq_rt, seq_bk, seq_ct, seq_ex, loop_rt, loop_bk, loop_ex, ret_nx, ret_rt', wpA, wpT, wpAnE, wpOrE, wpAnT, wpOrT, wpC, wpI, binW, addW, mulW, intW, CNo, CPos, CNN, unW, cmpW, eqW, ordW, ixW, B_len, B_int, B_abs, B_min, B_max, B_sum, B_tuple, B_list, lenW, int1W, absW, minW, maxW, sumW, tupleW, listW, augW, M_append, M_pop, ownL, stoW, getW, tgW, setAll, lrgW, partW, isCn, slW, revW, inW, truth, isAny, tyName, kit_NoneType_tuple, kit_NoneType_bool, kit_NoneType_int, kit_NoneType_str, kit_NoneType_list, kit_bool_tuple, kit_bool_bool, kit_bool_int, kit_bool_str, kit_bool_list, kit_int_tuple, kit_int_bool, kit_int_int, kit_int_str, kit_int_list, kit_str_tuple, kit_str_bool, kit_str_int, kit_str_str, kit_str_list, kit_tuple_tuple, kit_tuple_bool, kit_tuple_int, kit_tuple_str, kit_tuple_list, kit_list_tuple, kit_list_bool, kit_list_int, kit_list_str, kit_list_list, N_non, N_bl, N_int, N_str, N_tup, N_rl, N_wl, N_obj, I_tup, I_rl, I_wl, I_obj, LL_rl, LL_obj, O.xs, newL, wipeD, List.getElem?_cons_zero, List.getElem?_cons_succ, List.getElem?_nil, List.set_cons_zero, List.set_cons_succ, Option.some.injEq, exists_and_left, exists_eq', exists_eq, exists_eq_left', exists_eq_left, true_and, and_true, Bool.not_true, Bool.not_false, reduceCtorEq, ite_true, ite_false, if_true, if_false, String.reduceEq, D.int.injEq, D.bl.injEq, D.tup.injEq, D.rl.injEq, D.wl.injEq, D.obj.injEq, D.str.injEq, forall_const, Option.map_some, List.cons_append, List.nil_append, List.length_cons, List.length_nil, m.k_InvalidNumber, m.k_InvalidPrice, m.k_InvalidBook, m.k_InvalidStart, m.k_InvalidFilling, m.k_InvalidSum, m.k_InvalidCells, m.k_InvalidMove, m.k_InvalidQuestion, m.k_InvalidTable, m.k_InvalidWeights, m.k_InvalidOrder, m.k_InvalidRows, m.k_InvalidNetwork, m.k_InvalidDeed, sp_mk1, List.cons.injEq, List.length_map]; repeat (with_reducible refine nx_of ?_; simp only [↓B_one, ↓B_cons, ↓B_nil, ↓S_skip, ↓S_set, ↓S_unp, ↓S_par, ↓S_aug, ↓S_sto, ↓S_stg, ↓S_ex, ↓S_ret, ↓S_retn, ↓S_ite, ↓S_for, ↓S_whl, ↓S_brk, ↓S_cnt, ↓S_rais, ↓S_thru, ↓E_var, ↓look_0, ↓look_s, ↓E_ci, ↓E_cb, ↓E_cn, ↓E_cs, ↓E_bin, ↓E_un, ↓E_no, ↓E_an, ↓E_or, ↓E_cmp, ↓E_ch, ↓E_ife, ↓E_tup, ↓E_lst, ↓E_ix, ↓E_sl, ↓E_rev, ↓E_call, ↓E_callk, ↓E_blt, ↓E_mth, ↓E_ixc, ↓E_inc, ↓E_isi, ↓E_lrg, ↓E_lc, ↓E_fld, ↓E_isx, isW, fldW, isxW, N_exc, seq_rt, seq_bk, seq_ct, seq_ex, loop_rt, loop_bk, loop_ex, ret_nx, ret_rt', wpA, wpT, wpAnE, wpOrE, wpAnT, wpOrT, wpC, wpI, binW, addW, mulW, intW, CNo, CPos, CNN, unW, cmpW, eqW, ordW, ixW, B_len, B_int, B_abs, B_min, B_max, B_sum, B_tuple, B_list, lenW, int1W, absW, minW, maxW, sumW, tupleW, listW, augW, M_append, M_pop, ownL, stoW, getW, tgW, setAll, lrgW, partW, isCn, slW, revW, inW, truth, isAny, tyName, kit_NoneType_tuple, kit_NoneType_bool, kit_NoneType_int, kit_NoneType_str, kit_NoneType_list, kit_bool_tuple, kit_bool_bool, kit_bool_int, kit_bool_str, kit_bool_list, kit_int_tuple, kit_int_bool, kit_int_int, kit_int_str, kit_int_list, kit_str_tuple, kit_str_bool, kit_str_int, kit_str_str, kit_str_list, kit_tuple_tuple, kit_tuple_bool, kit_tuple_int, kit_tuple_str, kit_tuple_list, kit_list_tuple, kit_list_bool, kit_list_int, kit_list_str, kit_list_list, N_non, N_bl, N_int, N_str, N_tup, N_rl, N_wl, N_obj, I_tup, I_rl, I_wl, I_obj, LL_rl, LL_obj, O.xs, newL, wipeD, List.getElem?_cons_zero, List.getElem?_cons_succ, List.getElem?_nil, List.set_cons_zero, List.set_cons_succ, Option.some.injEq, exists_and_left, exists_eq', exists_eq, exists_eq_left', exists_eq_left, true_and, and_true, Bool.not_true, Bool.not_false, reduceCtorEq, ite_true, ite_false, if_true, if_false, String.reduceEq, D.int.injEq, D.bl.injEq, D.tup.injEq, D.rl.injEq, D.wl.injEq, D.obj.injEq, D.str.injEq, forall_const, Option.map_some, List.cons_append, List.nil_append, List.length_cons, List.length_nil, m.k_InvalidNumber, m.k_InvalidPrice, m.k_InvalidBook, m.k_InvalidStart, m.k_InvalidFilling, m.k_InvalidSum, m.k_InvalidCells, m.k_InvalidMove, m.k_InvalidQuestion, m.k_InvalidTable, m.k_InvalidWeights, m.k_InvalidOrder, m.k_InvalidRows, m.k_InvalidNetwork, m.k_InvalidDeed, sp_mk1, List.cons.injEq, List.length_map]))
  refine ⟨by decide, by decide, ?_⟩
  ((try with_reducible refine nx_of ?_); simp only [↓B_one, ↓B_cons, ↓B_nil, ↓S_skip, ↓S_set, ↓S_unp, ↓S_par, ↓S_aug, ↓S_sto, ↓S_stg, ↓S_ex, ↓S_ret, ↓S_retn, ↓S_ite, ↓S_for, ↓S_whl, ↓S_brk, ↓S_cnt, ↓S_rais, ↓S_thru, ↓E_var, ↓look_0, ↓look_s, ↓E_ci, ↓E_cb, ↓E_cn, ↓E_cs, ↓E_bin, ↓E_un, ↓E_no, ↓E_an, ↓E_or, ↓E_cmp, ↓E_ch, ↓E_ife, ↓E_tup, ↓E_lst, ↓E_ix, ↓E_sl, ↓E_rev, ↓E_call, ↓E_callk, ↓E_blt, ↓E_mth, ↓E_ixc, ↓E_inc, ↓E_isi, ↓E_lrg, ↓E_lc, ↓E_fld, ↓E_isx, isW, fldW, isxW, N_exc, seq_rt, seq_bk, seq_ct, seq_ex, loop_rt, loop_bk, loop_ex, ret_nx, ret_rt', wpA, wpT, wpAnE, wpOrE, wpAnT, wpOrT, wpC, wpI, binW, addW, mulW, intW, CNo, CPos, CNN, unW, cmpW, eqW, ordW, ixW, B_len, B_int, B_abs, B_min, B_max, B_sum, B_tuple, B_list, lenW, int1W, absW, minW, maxW, sumW, tupleW, listW, augW, M_append, M_pop, ownL, stoW, getW, tgW, setAll, lrgW, partW, isCn, slW, revW, inW, truth, isAny, tyName, kit_NoneType_tuple, kit_NoneType_bool, kit_NoneType_int, kit_NoneType_str, kit_NoneType_list, kit_bool_tuple, kit_bool_bool, kit_bool_int, kit_bool_str, kit_bool_list, kit_int_tuple, kit_int_bool, kit_int_int, kit_int_str, kit_int_list, kit_str_tuple, kit_str_bool, kit_str_int, kit_str_str, kit_str_list, kit_tuple_tuple, kit_tuple_bool, kit_tuple_int, kit_tuple_str, kit_tuple_list, kit_list_tuple, kit_list_bool, kit_list_int, kit_list_str, kit_list_list, N_non, N_bl, N_int, N_str, N_tup, N_rl, N_wl, N_obj, I_tup, I_rl, I_wl, I_obj, LL_rl, LL_obj, O.xs, newL, wipeD, List.getElem?_cons_zero, List.getElem?_cons_succ, List.getElem?_nil, List.set_cons_zero, List.set_cons_succ, Option.some.injEq, exists_and_left, exists_eq', exists_eq, exists_eq_left', exists_eq_left, true_and, and_true, Bool.not_true, Bool.not_false, reduceCtorEq, ite_true, ite_false, if_true, if_false, String.reduceEq, D.int.injEq, D.bl.injEq, D.tup.injEq, D.rl.injEq, D.wl.injEq, D.obj.injEq, D.str.injEq, forall_const, Option.map_some, List.cons_append, List.nil_append, List.length_cons, List.length_nil, m.k_InvalidNumber, m.k_InvalidPrice, m.k_InvalidBook, m.k_InvalidStart, m.k_InvalidFilling, m.k_InvalidSum, m.k_InvalidCells, m.k_InvalidMove, m.k_InvalidQuestion, m.k_InvalidTable, m.k_InvalidWeights, m.k_InvalidOrder, m.k_InvalidRows, m.k_InvalidNetwork, m.k_InvalidDeed, sp_mk1, List.cons.injEq, List.length_map]; repeat (with_reducible refine nx_of ?_; simp only [↓B_one, ↓B_cons, ↓B_nil, ↓S_skip, ↓S_set, ↓S_unp, ↓S_par, ↓S_aug, ↓S_sto, ↓S_stg, ↓S_ex, ↓S_ret, ↓S_retn, ↓S_ite, ↓S_for, ↓S_whl, ↓S_brk, ↓S_cnt, ↓S_rais, ↓S_thru, ↓E_var, ↓look_0, ↓look_s, ↓E_ci, ↓E_cb, ↓E_cn, ↓E_cs, ↓E_bin, ↓E_un, ↓E_no, ↓E_an, ↓E_or, ↓E_cmp, ↓E_ch, ↓E_ife, ↓E_tup, ↓E_lst, ↓E_ix, ↓E_sl, ↓E_rev, ↓E_call, ↓E_callk, ↓E_blt, ↓E_mth, ↓E_ixc, ↓E_inc, ↓E_isi, ↓E_lrg, ↓E_lc, ↓E_fld, ↓E_isx, isW, fldW, isxW, N_exc, seq_rt, seq_bk, seq_ct, seq_ex, loop_rt, loop_bk, loop_ex, ret_nx, ret_rt', wpA, wpT, wpAnE, wpOrE, wpAnT, wpOrT, wpC, wpI, binW, addW, mulW, intW, CNo, CPos, CNN, unW, cmpW, eqW, ordW, ixW, B_len, B_int, B_abs, B_min, B_max, B_sum, B_tuple, B_list, lenW, int1W, absW, minW, maxW, sumW, tupleW, listW, augW, M_append, M_pop, ownL, stoW, getW, tgW, setAll, lrgW, partW, isCn, slW, revW, inW, truth, isAny, tyName, kit_NoneType_tuple, kit_NoneType_bool, kit_NoneType_int, kit_NoneType_str, kit_NoneType_list, kit_bool_tuple, kit_bool_bool, kit_bool_int, kit_bool_str, kit_bool_list, kit_int_tuple, kit_int_bool, kit_int_int, kit_int_str, kit_int_list, kit_str_tuple, kit_str_bool, kit_str_int, kit_str_str, kit_str_list, kit_tuple_tuple, kit_tuple_bool, kit_tuple_int, kit_tuple_str, kit_tuple_list, kit_list_tuple, kit_list_bool, kit_list_int, kit_list_str, kit_list_list, N_non, N_bl, N_int, N_str, N_tup, N_rl, N_wl, N_obj, I_tup, I_rl, I_wl, I_obj, LL_rl, LL_obj, O.xs, newL, wipeD, List.getElem?_cons_zero, List.getElem?_cons_succ, List.getElem?_nil, List.set_cons_zero, List.set_cons_succ, Option.some.injEq, exists_and_left, exists_eq', exists_eq, exists_eq_left', exists_eq_left, true_and, and_true, Bool.not_true, Bool.not_false, reduceCtorEq, ite_true, ite_false, if_true, if_false, String.reduceEq, D.int.injEq, D.bl.injEq, D.tup.injEq, D.rl.injEq, D.wl.injEq, D.obj.injEq, D.str.injEq, forall_const, Option.map_some, List.cons_append, List.nil_append, List.length_cons, List.length_nil, m.k_InvalidNumber, m.k_InvalidPrice, m.k_InvalidBook, m.k_InvalidStart, m.k_InvalidFilling, m.k_InvalidSum, m.k_InvalidCells, m.k_InvalidMove, m.k_InvalidQuestion, m.k_InvalidTable, m.k_InvalidWeights, m.k_InvalidOrder, m.k_InvalidRows, m.k_InvalidNetwork, m.k_InvalidDeed, sp_mk1, List.cons.injEq, List.length_map]))
  refine ⟨by decide, by decide, ?_⟩
  ((try with_reducible refine nx_of ?_); simp only [↓B_one, ↓B_cons, ↓B_nil, ↓S_skip, ↓S_set, ↓S_unp, ↓S_par, ↓S_aug, ↓S_sto, ↓S_stg, ↓S_ex, ↓S_ret, ↓S_retn, ↓S_ite, ↓S_for, ↓S_whl, ↓S_brk, ↓S_cnt, ↓S_rais, ↓S_thru, ↓E_var, ↓look_0, ↓look_s, ↓E_ci, ↓E_cb, ↓E_cn, ↓E_cs, ↓E_bin, ↓E_un, ↓E_no, ↓E_an, ↓E_or, ↓E_cmp, ↓E_ch, ↓E_ife, ↓E_tup, ↓E_lst, ↓E_ix, ↓E_sl, ↓E_rev, ↓E_call, ↓E_callk, ↓E_blt, ↓E_mth, ↓E_ixc, ↓E_inc, ↓E_isi, ↓E_lrg, ↓E_lc, ↓E_fld, ↓E_isx, isW, fldW, isxW, N_exc, seq_rt, seq_bk, seq_ct, seq_ex, loop_rt, loop_bk, loop_ex, ret_nx, ret_rt', wpA, wpT, wpAnE, wpOrE, wpAnT, wpOrT, wpC, wpI, binW, addW, mulW, intW, CNo, CPos, CNN, unW, cmpW, eqW, ordW, ixW, B_len, B_int, B_abs, B_min, B_max, B_sum, B_tuple, B_list, lenW, int1W, absW, minW, maxW, sumW, tupleW, listW, augW, M_append, M_pop, ownL, stoW, getW, tgW, setAll, lrgW, partW, isCn, slW, revW, inW, truth, isAny, tyName, kit_NoneType_tuple, kit_NoneType_bool, kit_NoneType_int, kit_NoneType_str, kit_NoneType_list, kit_bool_tuple, kit_bool_bool, kit_bool_int, kit_bool_str, kit_bool_list, kit_int_tuple, kit_int_bool, kit_int_int, kit_int_str, kit_int_list, kit_str_tuple, kit_str_bool, kit_str_int, kit_str_str, kit_str_list, kit_tuple_tuple, kit_tuple_bool, kit_tuple_int, kit_tuple_str, kit_tuple_list, kit_list_tuple, kit_list_bool, kit_list_int, kit_list_str, kit_list_list, N_non, N_bl, N_int, N_str, N_tup, N_rl, N_wl, N_obj, I_tup, I_rl, I_wl, I_obj, LL_rl, LL_obj, O.xs, newL, wipeD, List.getElem?_cons_zero, List.getElem?_cons_succ, List.getElem?_nil, List.set_cons_zero, List.set_cons_succ, Option.some.injEq, exists_and_left, exists_eq', exists_eq, exists_eq_left', exists_eq_left, true_and, and_true, Bool.not_true, Bool.not_false, reduceCtorEq, ite_true, ite_false, if_true, if_false, String.reduceEq, D.int.injEq, D.bl.injEq, D.tup.injEq, D.rl.injEq, D.wl.injEq, D.obj.injEq, D.str.injEq, forall_const, Option.map_some, List.cons_append, List.nil_append, List.length_cons, List.length_nil, m.k_InvalidNumber, m.k_InvalidPrice, m.k_InvalidBook, m.k_InvalidStart, m.k_InvalidFilling, m.k_InvalidSum, m.k_InvalidCells, m.k_InvalidMove, m.k_InvalidQuestion, m.k_InvalidTable, m.k_InvalidWeights, m.k_InvalidOrder, m.k_InvalidRows, m.k_InvalidNetwork, m.k_InvalidDeed, sp_mk1, List.cons.injEq, List.length_map]; repeat (with_reducible refine nx_of ?_; simp only [↓B_one, ↓B_cons, ↓B_nil, ↓S_skip, ↓S_set, ↓S_unp, ↓S_par, ↓S_aug, ↓S_sto, ↓S_stg, ↓S_ex, ↓S_ret, ↓S_retn, ↓S_ite, ↓S_for, ↓S_whl, ↓S_brk, ↓S_cnt, ↓S_rais, ↓S_thru, ↓E_var, ↓look_0, ↓look_s, ↓E_ci, ↓E_cb, ↓E_cn, ↓E_cs, ↓E_bin, ↓E_un, ↓E_no, ↓E_an, ↓E_or, ↓E_cmp, ↓E_ch, ↓E_ife, ↓E_tup, ↓E_lst, ↓E_ix, ↓E_sl, ↓E_rev, ↓E_call, ↓E_callk, ↓E_blt, ↓E_mth, ↓E_ixc, ↓E_inc, ↓E_isi, ↓E_lrg, ↓E_lc, ↓E_fld, ↓E_isx, isW, fldW, isxW, N_exc, seq_rt, seq_bk, seq_ct, seq_ex, loop_rt, loop_bk, loop_ex, ret_nx, ret_rt', wpA, wpT, wpAnE, wpOrE, wpAnT, wpOrT, wpC, wpI, binW, addW, mulW, intW, CNo, CPos, CNN, unW, cmpW, eqW, ordW, ixW, B_len, B_int, B_abs, B_min, B_max, B_sum, B_tuple, B_list, lenW, int1W, absW, minW, maxW, sumW, tupleW, listW, augW, M_append, M_pop, ownL, stoW, getW, tgW, setAll, lrgW, partW, isCn, slW, revW, inW, truth, isAny, tyName, kit_NoneType_tuple, kit_NoneType_bool, kit_NoneType_int, kit_NoneType_str, kit_NoneType_list, kit_bool_tuple, kit_bool_bool, kit_bool_int, kit_bool_str, kit_bool_list, kit_int_tuple, kit_int_bool, kit_int_int, kit_int_str, kit_int_list, kit_str_tuple, kit_str_bool, kit_str_int, kit_str_str, kit_str_list, kit_tuple_tuple, kit_tuple_bool, kit_tuple_int, kit_tuple_str, kit_tuple_list, kit_list_tuple, kit_list_bool, kit_list_int, kit_list_str, kit_list_list, N_non, N_bl, N_int, N_str, N_tup, N_rl, N_wl, N_obj, I_tup, I_rl, I_wl, I_obj, LL_rl, LL_obj, O.xs, newL, wipeD, List.getElem?_cons_zero, List.getElem?_cons_succ, List.getElem?_nil, List.set_cons_zero, List.set_cons_succ, Option.some.injEq, exists_and_left, exists_eq', exists_eq, exists_eq_left', exists_eq_left, true_and, and_true, Bool.not_true, Bool.not_false, reduceCtorEq, ite_true, ite_false, if_true, if_false, String.reduceEq, D.int.injEq, D.bl.injEq, D.tup.injEq, D.rl.injEq, D.wl.injEq, D.obj.injEq, D.str.injEq, forall_const, Option.map_some, List.cons_append, List.nil_append, List.length_cons, List.length_nil, m.k_InvalidNumber, m.k_InvalidPrice, m.k_InvalidBook, m.k_InvalidStart, m.k_InvalidFilling, m.k_InvalidSum, m.k_InvalidCells, m.k_InvalidMove, m.k_InvalidQuestion, m.k_InvalidTable, m.k_InvalidWeights, m.k_InvalidOrder, m.k_InvalidRows, m.k_InvalidNetwork, m.k_InvalidDeed, sp_mk1, List.cons.injEq, List.length_map]))
  exact ⟨by decide, by decide, .here hq⟩
/-- what isinstance answers, class by class -/
def sp_law_classes (cA : Nat → Addr) : Spec := fun ds M Q _ => ∃ (i a : Nat) (ns : List Str) (xs : List D), ds = [.exc (cA a) ns xs] ∧ k19[i]? = some a ∧ Q (.rl ((List.range 19).map fun j => .bl (decide (j = i)))) M
theorem w_law_classes (s : Subs Γ cA) {ds M Q E} (h : sp_law_classes cA ds M Q E) : wpB Γ b_law_classes (startD n_law_classes ds) M (Kret Q E) := by
  obtain ⟨i, a, ns, xs, rfl, hi, hq⟩ := h
  show wpB Γ b_law_classes [some (.exc (cA a) ns xs), none] M (Kret Q E)
  unfold b_law_classes
  have e := fun j b hb => s.own i j a b hi hb
  have h0 := e 0 c_InvalidNumber rfl
  have h1 := e 1 c_InvalidPrice rfl
  have h2 := e 2 c_InvalidBook rfl
  have h3 := e 3 c_InvalidStart rfl
  have h4 := e 4 c_InvalidFilling rfl
  have h5 := e 5 c_InvalidSum rfl
  have h6 := e 6 c_InvalidCells rfl
  have h7 := e 7 c_InvalidMove rfl
  have h8 := e 8 c_InvalidQuestion rfl
  have h9 := e 9 c_InvalidTable rfl
  have h10 := e 10 c_InvalidWeights rfl
  have h11 := e 11 c_InvalidOrder rfl
  have h12 := e 12 c_InvalidRows rfl
  have h13 := e 13 c_InvalidNetwork rfl
  have h14 := e 14 c_InvalidDeed rfl
  have h15 := e 15 c_InvalidPuzzle rfl
  have h16 := e 16 c_InvalidText rfl
  have h17 := e 17 c_Undefined rfl
  have h18 := e 18 c_NothingToUndo rfl
  ((try with_reducible refine nx_of ?_); simp only [↓B_one, ↓B_cons, ↓B_nil, ↓S_skip, ↓S_set, ↓S_unp, ↓S_par, ↓S_aug, ↓S_sto, ↓S_stg, ↓S_ex, ↓S_ret, ↓S_retn, ↓S_ite, ↓S_for, ↓S_whl, ↓S_brk, ↓S_cnt, ↓S_rais, ↓S_thru, ↓E_var, ↓look_0, ↓look_s, ↓E_ci, ↓E_cb, ↓E_cn, ↓E_cs, ↓E_bin, ↓E_un, ↓E_no, ↓E_an, ↓E_or, ↓E_cmp, ↓E_ch, ↓E_ife, ↓E_tup, ↓E_lst, ↓E_ix, ↓E_sl, ↓E_rev, ↓E_call, ↓E_callk, ↓E_blt, ↓E_mth, ↓E_ixc, ↓E_inc, ↓E_isi, ↓E_lrg, ↓E_lc, ↓E_fld, ↓E_isx, isW, fldW, isxW, N_exc, seq_rt, seq_bk, seq_ct, seq_ex, loop_rt, loop_bk, loop_ex, ret_nx, ret_rt', wpA, wpT, wpAnE, wpOrE, wpAnT, wpOrT, wpC, wpI, binW, addW, mulW, intW, CNo, CPos, CNN, unW, cmpW, eqW, ordW, ixW, B_len, B_int, B_abs, B_min, B_max, B_sum, B_tuple, B_list, lenW, int1W, absW, minW, maxW, sumW, tupleW, listW, augW, M_append, M_pop, ownL, stoW, getW, tgW, setAll, lrgW, partW, isCn, slW, revW, inW, truth, isAny, tyName, kit_NoneType_tuple, kit_NoneType_bool, kit_NoneType_int, kit_NoneType_str, kit_NoneType_list, kit_bool_tuple, kit_bool_bool, kit_bool_int, kit_bool_str, kit_bool_list, kit_int_tuple, kit_int_bool, kit_int_int, kit_int_str, kit_int_list, kit_str_tuple, kit_str_bool, kit_str_int, kit_str_str, kit_str_list, kit_tuple_tuple, kit_tuple_bool, kit_tuple_int, kit_tuple_str, kit_tuple_list, kit_list_tuple, kit_list_bool, kit_list_int, kit_list_str, kit_list_list, N_non, N_bl, N_int, N_str, N_tup, N_rl, N_wl, N_obj, I_tup, I_rl, I_wl, I_obj, LL_rl, LL_obj, O.xs, newL, wipeD, List.getElem?_cons_zero, List.getElem?_cons_succ, List.getElem?_nil, List.set_cons_zero, List.set_cons_succ, Option.some.injEq, exists_and_left, exists_eq', exists_eq, exists_eq_left', exists_eq_left, true_and, and_true, Bool.not_true, Bool.not_false, reduceCtorEq, ite_true, ite_false, if_true, if_false, String.reduceEq, D.int.injEq, D.bl.injEq, D.tup.injEq, D.rl.injEq, D.wl.injEq, D.obj.injEq, D.str.injEq, forall_const, Option.map_some, List.cons_append, List.nil_append, List.length_cons, List.length_nil, h0, h1, h2, h3, h4, h5, h6, h7, h8, h9, h10, h11, h12, h13, h14, h15, h16, h17, h18]; repeat (with_reducible refine nx_of ?_; simp only [↓B_one, ↓B_cons, ↓B_nil, ↓S_skip, ↓S_set, ↓S_unp, ↓S_par, ↓S_aug, ↓S_sto, ↓S_stg, ↓S_ex, ↓S_ret, ↓S_retn, ↓S_ite, ↓S_for, ↓S_whl, ↓S_brk, ↓S_cnt, ↓S_rais, ↓S_thru, ↓E_var, ↓look_0, ↓look_s, ↓E_ci, ↓E_cb, ↓E_cn, ↓E_cs, ↓E_bin, ↓E_un, ↓E_no, ↓E_an, ↓E_or, ↓E_cmp, ↓E_ch, ↓E_ife, ↓E_tup, ↓E_lst, ↓E_ix, ↓E_sl, ↓E_rev, ↓E_call, ↓E_callk, ↓E_blt, ↓E_mth, ↓E_ixc, ↓E_inc, ↓E_isi, ↓E_lrg, ↓E_lc, ↓E_fld, ↓E_isx, isW, fldW, isxW, N_exc, seq_rt, seq_bk, seq_ct, seq_ex, loop_rt, loop_bk, loop_ex, ret_nx, ret_rt', wpA, wpT, wpAnE, wpOrE, wpAnT, wpOrT, wpC, wpI, binW, addW, mulW, intW, CNo, CPos, CNN, unW, cmpW, eqW, ordW, ixW, B_len, B_int, B_abs, B_min, B_max, B_sum, B_tuple, B_list, lenW, int1W, absW, minW, maxW, sumW, tupleW, listW, augW, M_append, M_pop, ownL, stoW, getW, tgW, setAll, lrgW, partW, isCn, slW, revW, inW, truth, isAny, tyName, kit_NoneType_tuple, kit_NoneType_bool, kit_NoneType_int, kit_NoneType_str, kit_NoneType_list, kit_bool_tuple, kit_bool_bool, kit_bool_int, kit_bool_str, kit_bool_list, kit_int_tuple, kit_int_bool, kit_int_int, kit_int_str, kit_int_list, kit_str_tuple, kit_str_bool, kit_str_int, kit_str_str, kit_str_list, kit_tuple_tuple, kit_tuple_bool, kit_tuple_int, kit_tuple_str, kit_tuple_list, kit_list_tuple, kit_list_bool, kit_list_int, kit_list_str, kit_list_list, N_non, N_bl, N_int, N_str, N_tup, N_rl, N_wl, N_obj, I_tup, I_rl, I_wl, I_obj, LL_rl, LL_obj, O.xs, newL, wipeD, List.getElem?_cons_zero, List.getElem?_cons_succ, List.getElem?_nil, List.set_cons_zero, List.set_cons_succ, Option.some.injEq, exists_and_left, exists_eq', exists_eq, exists_eq_left', exists_eq_left, true_and, and_true, Bool.not_true, Bool.not_false, reduceCtorEq, ite_true, ite_false, if_true, if_false, String.reduceEq, D.int.injEq, D.bl.injEq, D.tup.injEq, D.rl.injEq, D.wl.injEq, D.obj.injEq, D.str.injEq, forall_const, Option.map_some, List.cons_append, List.nil_append, List.length_cons, List.length_nil, h0, h1, h2, h3, h4, h5, h6, h7, h8, h9, h10, h11, h12, h13, h14, h15, h16, h17, h18]))
  refine ⟨by decide, ?_⟩
  ((try with_reducible refine nx_of ?_); simp only [↓B_one, ↓B_cons, ↓B_nil, ↓S_skip, ↓S_set, ↓S_unp, ↓S_par, ↓S_aug, ↓S_sto, ↓S_stg, ↓S_ex, ↓S_ret, ↓S_retn, ↓S_ite, ↓S_for, ↓S_whl, ↓S_brk, ↓S_cnt, ↓S_rais, ↓S_thru, ↓E_var, ↓look_0, ↓look_s, ↓E_ci, ↓E_cb, ↓E_cn, ↓E_cs, ↓E_bin, ↓E_un, ↓E_no, ↓E_an, ↓E_or, ↓E_cmp, ↓E_ch, ↓E_ife, ↓E_tup, ↓E_lst, ↓E_ix, ↓E_sl, ↓E_rev, ↓E_call, ↓E_callk, ↓E_blt, ↓E_mth, ↓E_ixc, ↓E_inc, ↓E_isi, ↓E_lrg, ↓E_lc, ↓E_fld, ↓E_isx, isW, fldW, isxW, N_exc, seq_rt, seq_bk, seq_ct, seq_ex, loop_rt, loop_bk, loop_ex, ret_nx, ret_rt', wpA, wpT, wpAnE, wpOrE, wpAnT, wpOrT, wpC, wpI, binW, addW, mulW, intW, CNo, CPos, CNN, unW, cmpW, eqW, ordW, ixW, B_len, B_int, B_abs, B_min, B_max, B_sum, B_tuple, B_list, lenW, int1W, absW, minW, maxW, sumW, tupleW, listW, augW, M_append, M_pop, ownL, stoW, getW, tgW, setAll, lrgW, partW, isCn, slW, revW, inW, truth, isAny, tyName, kit_NoneType_tuple, kit_NoneType_bool, kit_NoneType_int, kit_NoneType_str, kit_NoneType_list, kit_bool_tuple, kit_bool_bool, kit_bool_int, kit_bool_str, kit_bool_list, kit_int_tuple, kit_int_bool, kit_int_int, kit_int_str, kit_int_list, kit_str_tuple, kit_str_bool, kit_str_int, kit_str_str, kit_str_list, kit_tuple_tuple, kit_tuple_bool, kit_tuple_int, kit_tuple_str, kit_tuple_list, kit_list_tuple, kit_list_bool, kit_list_int, kit_list_str, kit_list_list, N_non, N_bl, N_int, N_str, N_tup, N_rl, N_wl, N_obj, I_tup, I_rl, I_wl, I_obj, LL_rl, LL_obj, O.xs, newL, wipeD, List.getElem?_cons_zero, List.getElem?_cons_succ, List.getElem?_nil, List.set_cons_zero, List.set_cons_succ, Option.some.injEq, exists_and_left, exists_eq', exists_eq, exists_eq_left', exists_eq_left, true_and, and_true, Bool.not_true, Bool.not_false, reduceCtorEq, ite_true, ite_false, if_true, if_false, String.reduceEq, D.int.injEq, D.bl.injEq, D.tup.injEq, D.rl.injEq, D.wl.injEq, D.obj.injEq, D.str.injEq, forall_const, Option.map_some, List.cons_append, List.nil_append, List.length_cons, List.length_nil, h0, h1, h2, h3, h4, h5, h6, h7, h8, h9, h10, h11, h12, h13, h14, h15, h16, h17, h18]; repeat (with_reducible refine nx_of ?_; simp only [↓B_one, ↓B_cons, ↓B_nil, ↓S_skip, ↓S_set, ↓S_unp, ↓S_par, ↓S_aug, ↓S_sto, ↓S_stg, ↓S_ex, ↓S_ret, ↓S_retn, ↓S_ite, ↓S_for, ↓S_whl, ↓S_brk, ↓S_cnt, ↓S_rais, ↓S_thru, ↓E_var, ↓look_0, ↓look_s, ↓E_ci, ↓E_cb, ↓E_cn, ↓E_cs, ↓E_bin, ↓E_un, ↓E_no, ↓E_an, ↓E_or, ↓E_cmp, ↓E_ch, ↓E_ife, ↓E_tup, ↓E_lst, ↓E_ix, ↓E_sl, ↓E_rev, ↓E_call, ↓E_callk, ↓E_blt, ↓E_mth, ↓E_ixc, ↓E_inc, ↓E_isi, ↓E_lrg, ↓E_lc, ↓E_fld, ↓E_isx, isW, fldW, isxW, N_exc, seq_rt, seq_bk, seq_ct, seq_ex, loop_rt, loop_bk, loop_ex, ret_nx, ret_rt', wpA, wpT, wpAnE, wpOrE, wpAnT, wpOrT, wpC, wpI, binW, addW, mulW, intW, CNo, CPos, CNN, unW, cmpW, eqW, ordW, ixW, B_len, B_int, B_abs, B_min, B_max, B_sum, B_tuple, B_list, lenW, int1W, absW, minW, maxW, sumW, tupleW, listW, augW, M_append, M_pop, ownL, stoW, getW, tgW, setAll, lrgW, partW, isCn, slW, revW, inW, truth, isAny, tyName, kit_NoneType_tuple, kit_NoneType_bool, kit_NoneType_int, kit_NoneType_str, kit_NoneType_list, kit_bool_tuple, kit_bool_bool, kit_bool_int, kit_bool_str, kit_bool_list, kit_int_tuple, kit_int_bool, kit_int_int, kit_int_str, kit_int_list, kit_str_tuple, kit_str_bool, kit_str_int, kit_str_str, kit_str_list, kit_tuple_tuple, kit_tuple_bool, kit_tuple_int, kit_tuple_str, kit_tuple_list, kit_list_tuple, kit_list_bool, kit_list_int, kit_list_str, kit_list_list, N_non, N_bl, N_int, N_str, N_tup, N_rl, N_wl, N_obj, I_tup, I_rl, I_wl, I_obj, LL_rl, LL_obj, O.xs, newL, wipeD, List.getElem?_cons_zero, List.getElem?_cons_succ, List.getElem?_nil, List.set_cons_zero, List.set_cons_succ, Option.some.injEq, exists_and_left, exists_eq', exists_eq, exists_eq_left', exists_eq_left, true_and, and_true, Bool.not_true, Bool.not_false, reduceCtorEq, ite_true, ite_false, if_true, if_false, String.reduceEq, D.int.injEq, D.bl.injEq, D.tup.injEq, D.rl.injEq, D.wl.injEq, D.obj.injEq, D.str.injEq, forall_const, Option.map_some, List.cons_append, List.nil_append, List.length_cons, List.length_nil, h0, h1, h2, h3, h4, h5, h6, h7, h8, h9, h10, h11, h12, h13, h14, h15, h16, h17, h18]))
  refine ⟨by decide, by decide, ?_⟩
  ((try with_reducible refine nx_of ?_); simp only [↓B_one, ↓B_cons, ↓B_nil, ↓S_skip, ↓S_set, ↓S_unp, ↓S_par, ↓S_aug, ↓S_sto, ↓S_stg, ↓S_ex, ↓S_ret, ↓S_retn, ↓S_ite, ↓S_for, ↓S_whl, ↓S_brk, ↓S_cnt, ↓S_rais, ↓S_thru, ↓E_var, ↓look_0, ↓look_s, ↓E_ci, ↓E_cb, ↓E_cn, ↓E_cs, ↓E_bin, ↓E_un, ↓E_no, ↓E_an, ↓E_or, ↓E_cmp, ↓E_ch, ↓E_ife, ↓E_tup, ↓E_lst, ↓E_ix, ↓E_sl, ↓E_rev, ↓E_call, ↓E_callk, ↓E_blt, ↓E_mth, ↓E_ixc, ↓E_inc, ↓E_isi, ↓E_lrg, ↓E_lc, ↓E_fld, ↓E_isx, isW, fldW, isxW, N_exc, seq_rt, seq_bk, seq_ct, seq_ex, loop_rt, loop_bk, loop_ex, ret_nx, ret_rt', wpA, wpT, wpAnE, wpOrE, wpAnT, wpOrT, wpC, wpI, binW, addW, mulW, intW, CNo, CPos, CNN, unW, cmpW, eqW, ordW, ixW, B_len, B_int, B_abs, B_min, B_max, B_sum, B_tuple, B_list, lenW, int1W, absW, minW, maxW, sumW, tupleW, listW, augW, M_append, M_pop, ownL, stoW, getW, tgW, setAll, lrgW, partW, isCn, slW, revW, inW, truth, isAny, tyName, kit_NoneType_tuple, kit_NoneType_bool, kit_NoneType_int, kit_NoneType_str, kit_NoneType_list, kit_bool_tuple, kit_bool_bool, kit_bool_int, kit_bool_str, kit_bool_list, kit_int_tuple, kit_int_bool, kit_int_int, kit_int_str, kit_int_list, kit_str_tuple, kit_str_bool, kit_str_int, kit_str_str, kit_str_list, kit_tuple_tuple, kit_tuple_bool, kit_tuple_int, kit_tuple_str, kit_tuple_list, kit_list_tuple, kit_list_bool, kit_list_int, kit_list_str, kit_list_list, N_non, N_bl, N_int, N_str, N_tup, N_rl, N_wl, N_obj, I_tup, I_rl, I_wl, I_obj, LL_rl, LL_obj, O.xs, newL, wipeD, List.getElem?_cons_zero, List.getElem?_cons_succ, List.getElem?_nil, List.set_cons_zero, List.set_cons_succ, Option.some.injEq, exists_and_left, exists_eq', exists_eq, exists_eq_left', exists_eq_left, true_and, and_true, Bool.not_true, Bool.not_false, reduceCtorEq, ite_true, ite_false, if_true, if_false, String.reduceEq, D.int.injEq, D.bl.injEq, D.tup.injEq, D.rl.injEq, D.wl.injEq, D.obj.injEq, D.str.injEq, forall_const, Option.map_some, List.cons_append, List.nil_append, List.length_cons, List.length_nil, h0, h1, h2, h3, h4, h5, h6, h7, h8, h9, h10, h11, h12, h13, h14, h15, h16, h17, h18]; repeat (with_reducible refine nx_of ?_; simp only [↓B_one, ↓B_cons, ↓B_nil, ↓S_skip, ↓S_set, ↓S_unp, ↓S_par, ↓S_aug, ↓S_sto, ↓S_stg, ↓S_ex, ↓S_ret, ↓S_retn, ↓S_ite, ↓S_for, ↓S_whl, ↓S_brk, ↓S_cnt, ↓S_rais, ↓S_thru, ↓E_var, ↓look_0, ↓look_s, ↓E_ci, ↓E_cb, ↓E_cn, ↓E_cs, ↓E_bin, ↓E_un, ↓E_no, ↓E_an, ↓E_or, ↓E_cmp, ↓E_ch, ↓E_ife, ↓E_tup, ↓E_lst, ↓E_ix, ↓E_sl, ↓E_rev, ↓E_call, ↓E_callk, ↓E_blt, ↓E_mth, ↓E_ixc, ↓E_inc, ↓E_isi, ↓E_lrg, ↓E_lc, ↓E_fld, ↓E_isx, isW, fldW, isxW, N_exc, seq_rt, seq_bk, seq_ct, seq_ex, loop_rt, loop_bk, loop_ex, ret_nx, ret_rt', wpA, wpT, wpAnE, wpOrE, wpAnT, wpOrT, wpC, wpI, binW, addW, mulW, intW, CNo, CPos, CNN, unW, cmpW, eqW, ordW, ixW, B_len, B_int, B_abs, B_min, B_max, B_sum, B_tuple, B_list, lenW, int1W, absW, minW, maxW, sumW, tupleW, listW, augW, M_append, M_pop, ownL, stoW, getW, tgW, setAll, lrgW, partW, isCn, slW, revW, inW, truth, isAny, tyName, kit_NoneType_tuple, kit_NoneType_bool, kit_NoneType_int, kit_NoneType_str, kit_NoneType_list, kit_bool_tuple, kit_bool_bool, kit_bool_int, kit_bool_str, kit_bool_list, kit_int_tuple, kit_int_bool, kit_int_int, kit_int_str, kit_int_list, kit_str_tuple, kit_str_bool, kit_str_int, kit_str_str, kit_str_list, kit_tuple_tuple, kit_tuple_bool, kit_tuple_int, kit_tuple_str, kit_tuple_list, kit_list_tuple, kit_list_bool, kit_list_int, kit_list_str, kit_list_list, N_non, N_bl, N_int, N_str, N_tup, N_rl, N_wl, N_obj, I_tup, I_rl, I_wl, I_obj, LL_rl, LL_obj, O.xs, newL, wipeD, List.getElem?_cons_zero, List.getElem?_cons_succ, List.getElem?_nil, List.set_cons_zero, List.set_cons_succ, Option.some.injEq, exists_and_left, exists_eq', exists_eq, exists_eq_left', exists_eq_left, true_and, and_true, Bool.not_true, Bool.not_false, reduceCtorEq, ite_true, ite_false, if_true, if_false, String.reduceEq, D.int.injEq, D.bl.injEq, D.tup.injEq, D.rl.injEq, D.wl.injEq, D.obj.injEq, D.str.injEq, forall_const, Option.map_some, List.cons_append, List.nil_append, List.length_cons, List.length_nil, h0, h1, h2, h3, h4, h5, h6, h7, h8, h9, h10, h11, h12, h13, h14, h15, h16, h17, h18]))
  refine ⟨by decide, by decide, ?_⟩
  ((try with_reducible refine nx_of ?_); simp only [↓B_one, ↓B_cons, ↓B_nil, ↓S_skip, ↓S_set, ↓S_unp, ↓S_par, ↓S_aug, ↓S_sto, ↓S_stg, ↓S_ex, ↓S_ret, ↓S_retn, ↓S_ite, ↓S_for, ↓S_whl, ↓S_brk, ↓S_cnt, ↓S_rais, ↓S_thru, ↓E_var, ↓look_0, ↓look_s, ↓E_ci, ↓E_cb, ↓E_cn, ↓E_cs, ↓E_bin, ↓E_un, ↓E_no, ↓E_an, ↓E_or, ↓E_cmp, ↓E_ch, ↓E_ife, ↓E_tup, ↓E_lst, ↓E_ix, ↓E_sl, ↓E_rev, ↓E_call, ↓E_callk, ↓E_blt, ↓E_mth, ↓E_ixc, ↓E_inc, ↓E_isi, ↓E_lrg, ↓E_lc, ↓E_fld, ↓E_isx, isW, fldW, isxW, N_exc, seq_rt, seq_bk, seq_ct, seq_ex, loop_rt, loop_bk, loop_ex, ret_nx, ret_rt', wpA, wpT, wpAnE, wpOrE, wpAnT, wpOrT, wpC, wpI, binW, addW, mulW, intW, CNo, CPos, CNN, unW, cmpW, eqW, ordW, ixW, B_len, B_int, B_abs, B_min, B_max, B_sum, B_tuple, B_list, lenW, int1W, absW, minW, maxW, sumW, tupleW, listW, augW, M_append, M_pop, ownL, stoW, getW, tgW, setAll, lrgW, partW, isCn, slW, revW, inW, truth, isAny, tyName, kit_NoneType_tuple, kit_NoneType_bool, kit_NoneType_int, kit_NoneType_str, kit_NoneType_list, kit_bool_tuple, kit_bool_bool, kit_bool_int, kit_bool_str, kit_bool_list, kit_int_tuple, kit_int_bool, kit_int_int, kit_int_str, kit_int_list, kit_str_tuple, kit_str_bool, kit_str_int, kit_str_str, kit_str_list, kit_tuple_tuple, kit_tuple_bool, kit_tuple_int, kit_tuple_str, kit_tuple_list, kit_list_tuple, kit_list_bool, kit_list_int, kit_list_str, kit_list_list, N_non, N_bl, N_int, N_str, N_tup, N_rl, N_wl, N_obj, I_tup, I_rl, I_wl, I_obj, LL_rl, LL_obj, O.xs, newL, wipeD, List.getElem?_cons_zero, List.getElem?_cons_succ, List.getElem?_nil, List.set_cons_zero, List.set_cons_succ, Option.some.injEq, exists_and_left, exists_eq', exists_eq, exists_eq_left', exists_eq_left, true_and, and_true, Bool.not_true, Bool.not_false, reduceCtorEq, ite_true, ite_false, if_true, if_false, String.reduceEq, D.int.injEq, D.bl.injEq, D.tup.injEq, D.rl.injEq, D.wl.injEq, D.obj.injEq, D.str.injEq, forall_const, Option.map_some, List.cons_append, List.nil_append, List.length_cons, List.length_nil, h0, h1, h2, h3, h4, h5, h6, h7, h8, h9, h10, h11, h12, h13, h14, h15, h16, h17, h18]; repeat (with_reducible refine nx_of ?_; simp only [↓B_one, ↓B_cons, ↓B_nil, ↓S_skip, ↓S_set, ↓S_unp, ↓S_par, ↓S_aug, ↓S_sto, ↓S_stg, ↓S_ex, ↓S_ret, ↓S_retn, ↓S_ite, ↓S_for, ↓S_whl, ↓S_brk, ↓S_cnt, ↓S_rais, ↓S_thru, ↓E_var, ↓look_0, ↓look_s, ↓E_ci, ↓E_cb, ↓E_cn, ↓E_cs, ↓E_bin, ↓E_un, ↓E_no, ↓E_an, ↓E_or, ↓E_cmp, ↓E_ch, ↓E_ife, ↓E_tup, ↓E_lst, ↓E_ix, ↓E_sl, ↓E_rev, ↓E_call, ↓E_callk, ↓E_blt, ↓E_mth, ↓E_ixc, ↓E_inc, ↓E_isi, ↓E_lrg, ↓E_lc, ↓E_fld, ↓E_isx, isW, fldW, isxW, N_exc, seq_rt, seq_bk, seq_ct, seq_ex, loop_rt, loop_bk, loop_ex, ret_nx, ret_rt', wpA, wpT, wpAnE, wpOrE, wpAnT, wpOrT, wpC, wpI, binW, addW, mulW, intW, CNo, CPos, CNN, unW, cmpW, eqW, ordW, ixW, B_len, B_int, B_abs, B_min, B_max, B_sum, B_tuple, B_list, lenW, int1W, absW, minW, maxW, sumW, tupleW, listW, augW, M_append, M_pop, ownL, stoW, getW, tgW, setAll, lrgW, partW, isCn, slW, revW, inW, truth, isAny, tyName, kit_NoneType_tuple, kit_NoneType_bool, kit_NoneType_int, kit_NoneType_str, kit_NoneType_list, kit_bool_tuple, kit_bool_bool, kit_bool_int, kit_bool_str, kit_bool_list, kit_int_tuple, kit_int_bool, kit_int_int, kit_int_str, kit_int_list, kit_str_tuple, kit_str_bool, kit_str_int, kit_str_str, kit_str_list, kit_tuple_tuple, kit_tuple_bool, kit_tuple_int, kit_tuple_str, kit_tuple_list, kit_list_tuple, kit_list_bool, kit_list_int, kit_list_str, kit_list_list, N_non, N_bl, N_int, N_str, N_tup, N_rl, N_wl, N_obj, I_tup, I_rl, I_wl, I_obj, LL_rl, LL_obj, O.xs, newL, wipeD, List.getElem?_cons_zero, List.getElem?_cons_succ, List.getElem?_nil, List.set_cons_zero, List.set_cons_succ, Option.some.injEq, exists_and_left, exists_eq', exists_eq, exists_eq_left', exists_eq_left, true_and, and_true, Bool.not_true, Bool.not_false, reduceCtorEq, ite_true, ite_false, if_true, if_false, String.reduceEq, D.int.injEq, D.bl.injEq, D.tup.injEq, D.rl.injEq, D.wl.injEq, D.obj.injEq, D.str.injEq, forall_const, Option.map_some, List.cons_append, List.nil_append, List.length_cons, List.length_nil, h0, h1, h2, h3, h4, h5, h6, h7, h8, h9, h10, h11, h12, h13, h14, h15, h16, h17, h18]))
  refine ⟨by decide, by decide, ?_⟩
  ((try with_reducible refine nx_of ?_); simp only [↓B_one, ↓B_cons, ↓B_nil, ↓S_skip, ↓S_set, ↓S_unp, ↓S_par, ↓S_aug, ↓S_sto, ↓S_stg, ↓S_ex, ↓S_ret, ↓S_retn, ↓S_ite, ↓S_for, ↓S_whl, ↓S_brk, ↓S_cnt, ↓S_rais, ↓S_thru, ↓E_var, ↓look_0, ↓look_s, ↓E_ci, ↓E_cb, ↓E_cn, ↓E_cs, ↓E_bin, ↓E_un, ↓E_no, ↓E_an, ↓E_or, ↓E_cmp, ↓E_ch, ↓E_ife, ↓E_tup, ↓E_lst, ↓E_ix, ↓E_sl, ↓E_rev, ↓E_call, ↓E_callk, ↓E_blt, ↓E_mth, ↓E_ixc, ↓E_inc, ↓E_isi, ↓E_lrg, ↓E_lc, ↓E_fld, ↓E_isx, isW, fldW, isxW, N_exc, seq_rt, seq_bk, seq_ct, seq_ex, loop_rt, loop_bk, loop_ex, ret_nx, ret_rt', wpA, wpT, wpAnE, wpOrE, wpAnT, wpOrT, wpC, wpI, binW, addW, mulW, intW, CNo, CPos, CNN, unW, cmpW, eqW, ordW, ixW, B_len, B_int, B_abs, B_min, B_max, B_sum, B_tuple, B_list, lenW, int1W, absW, minW, maxW, sumW, tupleW, listW, augW, M_append, M_pop, ownL, stoW, getW, tgW, setAll, lrgW, partW, isCn, slW, revW, inW, truth, isAny, tyName, kit_NoneType_tuple, kit_NoneType_bool, kit_NoneType_int, kit_NoneType_str, kit_NoneType_list, kit_bool_tuple, kit_bool_bool, kit_bool_int, kit_bool_str, kit_bool_list, kit_int_tuple, kit_int_bool, kit_int_int, kit_int_str, kit_int_list, kit_str_tuple, kit_str_bool, kit_str_int, kit_str_str, kit_str_list, kit_tuple_tuple, kit_tuple_bool, kit_tuple_int, kit_tuple_str, kit_tuple_list, kit_list_tuple, kit_list_bool, kit_list_int, kit_list_str, kit_list_list, N_non, N_bl, N_int, N_str, N_tup, N_rl, N_wl, N_obj, I_tup, I_rl, I_wl, I_obj, LL_rl, LL_obj, O.xs, newL, wipeD, List.getElem?_cons_zero, List.getElem?_cons_succ, List.getElem?_nil, List.set_cons_zero, List.set_cons_succ, Option.some.injEq, exists_and_left, exists_eq', exists_eq, exists_eq_left', exists_eq_left, true_and, and_true, Bool.not_true, Bool.not_false, reduceCtorEq, ite_true, ite_false, if_true, if_false, String.reduceEq, D.int.injEq, D.bl.injEq, D.tup.injEq, D.rl.injEq, D.wl.injEq, D.obj.injEq, D.str.injEq, forall_const, Option.map_some, List.cons_append, List.nil_append, List.length_cons, List.length_nil, h0, h1, h2, h3, h4, h5, h6, h7, h8, h9, h10, h11, h12, h13, h14, h15, h16, h17, h18]; repeat (with_reducible refine nx_of ?_; simp only [↓B_one, ↓B_cons, ↓B_nil, ↓S_skip, ↓S_set, ↓S_unp, ↓S_par, ↓S_aug, ↓S_sto, ↓S_stg, ↓S_ex, ↓S_ret, ↓S_retn, ↓S_ite, ↓S_for, ↓S_whl, ↓S_brk, ↓S_cnt, ↓S_rais, ↓S_thru, ↓E_var, ↓look_0, ↓look_s, ↓E_ci, ↓E_cb, ↓E_cn, ↓E_cs, ↓E_bin, ↓E_un, ↓E_no, ↓E_an, ↓E_or, ↓E_cmp, ↓E_ch, ↓E_ife, ↓E_tup, ↓E_lst, ↓E_ix, ↓E_sl, ↓E_rev, ↓E_call, ↓E_callk, ↓E_blt, ↓E_mth, ↓E_ixc, ↓E_inc, ↓E_isi, ↓E_lrg, ↓E_lc, ↓E_fld, ↓E_isx, isW, fldW, isxW, N_exc, seq_rt, seq_bk, seq_ct, seq_ex, loop_rt, loop_bk, loop_ex, ret_nx, ret_rt', wpA, wpT, wpAnE, wpOrE, wpAnT, wpOrT, wpC, wpI, binW, addW, mulW, intW, CNo, CPos, CNN, unW, cmpW, eqW, ordW, ixW, B_len, B_int, B_abs, B_min, B_max, B_sum, B_tuple, B_list, lenW, int1W, absW, minW, maxW, sumW, tupleW, listW, augW, M_append, M_pop, ownL, stoW, getW, tgW, setAll, lrgW, partW, isCn, slW, revW, inW, truth, isAny, tyName, kit_NoneType_tuple, kit_NoneType_bool, kit_NoneType_int, kit_NoneType_str, kit_NoneType_list, kit_bool_tuple, kit_bool_bool, kit_bool_int, kit_bool_str, kit_bool_list, kit_int_tuple, kit_int_bool, kit_int_int, kit_int_str, kit_int_list, kit_str_tuple, kit_str_bool, kit_str_int, kit_str_str, kit_str_list, kit_tuple_tuple, kit_tuple_bool, kit_tuple_int, kit_tuple_str, kit_tuple_list, kit_list_tuple, kit_list_bool, kit_list_int, kit_list_str, kit_list_list, N_non, N_bl, N_int, N_str, N_tup, N_rl, N_wl, N_obj, I_tup, I_rl, I_wl, I_obj, LL_rl, LL_obj, O.xs, newL, wipeD, List.getElem?_cons_zero, List.getElem?_cons_succ, List.getElem?_nil, List.set_cons_zero, List.set_cons_succ, Option.some.injEq, exists_and_left, exists_eq', exists_eq, exists_eq_left', exists_eq_left, true_and, and_true, Bool.not_true, Bool.not_false, reduceCtorEq, ite_true, ite_false, if_true, if_false, String.reduceEq, D.int.injEq, D.bl.injEq, D.tup.injEq, D.rl.injEq, D.wl.injEq, D.obj.injEq, D.str.injEq, forall_const, Option.map_some, List.cons_append, List.nil_append, List.length_cons, List.length_nil, h0, h1, h2, h3, h4, h5, h6, h7, h8, h9, h10, h11, h12, h13, h14, h15, h16, h17, h18]))
  refine ⟨by decide, by decide, ?_⟩
  ((try with_reducible refine nx_of ?_); simp only [↓B_one, ↓B_cons, ↓B_nil, ↓S_skip, ↓S_set, ↓S_unp, ↓S_par, ↓S_aug, ↓S_sto, ↓S_stg, ↓S_ex, ↓S_ret, ↓S_retn, ↓S_ite, ↓S_for, ↓S_whl, ↓S_brk, ↓S_cnt, ↓S_rais, ↓S_thru, ↓E_var, ↓look_0, ↓look_s, ↓E_ci, ↓E_cb, ↓E_cn, ↓E_cs, ↓E_bin, ↓E_un, ↓E_no, ↓E_an, ↓E_or, ↓E_cmp, ↓E_ch, ↓E_ife, ↓E_tup, ↓E_lst, ↓E_ix, ↓E_sl, ↓E_rev, ↓E_call, ↓E_callk, ↓E_blt, ↓E_mth, ↓E_ixc, ↓E_inc, ↓E_isi, ↓E_lrg, ↓E_lc, ↓E_fld, ↓E_isx, isW, fldW, isxW, N_exc, seq_rt, seq_bk, seq_ct, seq_ex, loop_rt, loop_bk, loop_ex, ret_nx, ret_rt', wpA, wpT, wpAnE, wpOrE, wpAnT, wpOrT, wpC, wpI, binW, addW, mulW, intW, CNo, CPos, CNN, unW, cmpW, eqW, ordW, ixW, B_len, B_int, B_abs, B_min, B_max, B_sum, B_tuple, B_list, lenW, int1W, absW, minW, maxW, sumW, tupleW, listW, augW, M_append, M_pop, ownL, stoW, getW, tgW, setAll, lrgW, partW, isCn, slW, revW, inW, truth, isAny, tyName, kit_NoneType_tuple, kit_NoneType_bool, kit_NoneType_int, kit_NoneType_str, kit_NoneType_list, kit_bool_tuple, kit_bool_bool, kit_bool_int, kit_bool_str, kit_bool_list, kit_int_tuple, kit_int_bool, kit_int_int, kit_int_str, kit_int_list, kit_str_tuple, kit_str_bool, kit_str_int, kit_str_str, kit_str_list, kit_tuple_tuple, kit_tuple_bool, kit_tuple_int, kit_tuple_str, kit_tuple_list, kit_list_tuple, kit_list_bool, kit_list_int, kit_list_str, kit_list_list, N_non, N_bl, N_int, N_str, N_tup, N_rl, N_wl, N_obj, I_tup, I_rl, I_wl, I_obj, LL_rl, LL_obj, O.xs, newL, wipeD, List.getElem?_cons_zero, List.getElem?_cons_succ, List.getElem?_nil, List.set_cons_zero, List.set_cons_succ, Option.some.injEq, exists_and_left, exists_eq', exists_eq, exists_eq_left', exists_eq_left, true_and, and_true, Bool.not_true, Bool.not_false, reduceCtorEq, ite_true, ite_false, if_true, if_false, String.reduceEq, D.int.injEq, D.bl.injEq, D.tup.injEq, D.rl.injEq, D.wl.injEq, D.obj.injEq, D.str.injEq, forall_const, Option.map_some, List.cons_append, List.nil_append, List.length_cons, List.length_nil, h0, h1, h2, h3, h4, h5, h6, h7, h8, h9, h10, h11, h12, h13, h14, h15, h16, h17, h18]; repeat (with_reducible refine nx_of ?_; simp only [↓B_one, ↓B_cons, ↓B_nil, ↓S_skip, ↓S_set, ↓S_unp, ↓S_par, ↓S_aug, ↓S_sto, ↓S_stg, ↓S_ex, ↓S_ret, ↓S_retn, ↓S_ite, ↓S_for, ↓S_whl, ↓S_brk, ↓S_cnt, ↓S_rais, ↓S_thru, ↓E_var, ↓look_0, ↓look_s, ↓E_ci, ↓E_cb, ↓E_cn, ↓E_cs, ↓E_bin, ↓E_un, ↓E_no, ↓E_an, ↓E_or, ↓E_cmp, ↓E_ch, ↓E_ife, ↓E_tup, ↓E_lst, ↓E_ix, ↓E_sl, ↓E_rev, ↓E_call, ↓E_callk, ↓E_blt, ↓E_mth, ↓E_ixc, ↓E_inc, ↓E_isi, ↓E_lrg, ↓E_lc, ↓E_fld, ↓E_isx, isW, fldW, isxW, N_exc, seq_rt, seq_bk, seq_ct, seq_ex, loop_rt, loop_bk, loop_ex, ret_nx, ret_rt', wpA, wpT, wpAnE, wpOrE, wpAnT, wpOrT, wpC, wpI, binW, addW, mulW, intW, CNo, CPos, CNN, unW, cmpW, eqW, ordW, ixW, B_len, B_int, B_abs, B_min, B_max, B_sum, B_tuple, B_list, lenW, int1W, absW, minW, maxW, sumW, tupleW, listW, augW, M_append, M_pop, ownL, stoW, getW, tgW, setAll, lrgW, partW, isCn, slW, revW, inW, truth, isAny, tyName, kit_NoneType_tuple, kit_NoneType_bool, kit_NoneType_int, kit_NoneType_str, kit_NoneType_list, kit_bool_tuple, kit_bool_bool, kit_bool_int, kit_bool_str, kit_bool_list, kit_int_tuple, kit_int_bool, kit_int_int, kit_int_str, kit_int_list, kit_str_tuple, kit_str_bool, kit_str_int, kit_str_str, kit_str_list, kit_tuple_tuple, kit_tuple_bool, kit_tuple_int, kit_tuple_str, kit_tuple_list, kit_list_tuple, kit_list_bool, kit_list_int, kit_list_str, kit_list_list, N_non, N_bl, N_int, N_str, N_tup, N_rl, N_wl, N_obj, I_tup, I_rl, I_wl, I_obj, LL_rl, LL_obj, O.xs, newL, wipeD, List.getElem?_cons_zero, List.getElem?_cons_succ, List.getElem?_nil, List.set_cons_zero, List.set_cons_succ, Option.some.injEq, exists_and_left, exists_eq', exists_eq, exists_eq_left', exists_eq_left, true_and, and_true, Bool.not_true, Bool.not_false, reduceCtorEq, ite_true, ite_false, if_true, if_false, String.reduceEq, D.int.injEq, D.bl.injEq, D.tup.injEq, D.rl.injEq, D.wl.injEq, D.obj.injEq, D.str.injEq, forall_const, Option.map_some, List.cons_append, List.nil_append, List.length_cons, List.length_nil, h0, h1, h2, h3, h4, h5, h6, h7, h8, h9, h10, h11, h12, h13, h14, h15, h16, h17, h18]))
  refine ⟨by decide, by decide, ?_⟩
  ((try with_reducible refine nx_of ?_); simp only [↓B_one, ↓B_cons, ↓B_nil, ↓S_skip, ↓S_set, ↓S_unp, ↓S_par, ↓S_aug, ↓S_sto, ↓S_stg, ↓S_ex, ↓S_ret, ↓S_retn, ↓S_ite, ↓S_for, ↓S_whl, ↓S_brk, ↓S_cnt, ↓S_rais, ↓S_thru, ↓E_var, ↓look_0, ↓look_s, ↓E_ci, ↓E_cb, ↓E_cn, ↓E_cs, ↓E_bin, ↓E_un, ↓E_no, ↓E_an, ↓E_or, ↓E_cmp, ↓E_ch, ↓E_ife, ↓E_tup, ↓E_lst, ↓E_ix, ↓E_sl, ↓E_rev, ↓E_call, ↓E_callk, ↓E_blt, ↓E_mth, ↓E_ixc, ↓E_inc, ↓E_isi, ↓E_lrg, ↓E_lc, ↓E_fld, ↓E_isx, isW, fldW, isxW, N_exc, seq_rt, seq_bk, seq_ct, seq_ex, loop_rt, loop_bk, loop_ex, ret_nx, ret_rt', wpA, wpT, wpAnE, wpOrE, wpAnT, wpOrT, wpC, wpI, binW, addW, mulW, intW, CNo, CPos, CNN, unW, cmpW, eqW, ordW, ixW, B_len, B_int, B_abs, B_min, B_max, B_sum, B_tuple, B_list, lenW, int1W, absW, minW, maxW, sumW, tupleW, listW, augW, M_append, M_pop, ownL, stoW, getW, tgW, setAll, lrgW, partW, isCn, slW, revW, inW, truth, isAny, tyName, kit_NoneType_tuple, kit_NoneType_bool, kit_NoneType_int, kit_NoneType_str, kit_NoneType_list, kit_bool_tuple, kit_bool_bool, kit_bool_int, kit_bool_str, kit_bool_list, kit_int_tuple, kit_int_bool, kit_int_int, kit_int_str, kit_int_list, kit_str_tuple, kit_str_bool, kit_str_int, kit_str_str, kit_str_list, kit_tuple_tuple, kit_tuple_bool, kit_tuple_int, kit_tuple_str, kit_tuple_list, kit_list_tuple, kit_list_bool, kit_list_int, kit_list_str, kit_list_list, N_non, N_bl, N_int, N_str, N_tup, N_rl, N_wl, N_obj, I_tup, I_rl, I_wl, I_obj, LL_rl, LL_obj, O.xs, newL, wipeD, List.getElem?_cons_zero, List.getElem?_cons_succ, List.getElem?_nil, List.set_cons_zero, List.set_cons_succ, Option.some.injEq, exists_and_left, exists_eq', exists_eq, exists_eq_left', exists_eq_left, true_and, and_true, Bool.not_true, Bool.not_false, reduceCtorEq, ite_true, ite_false, if_true, if_false, String.reduceEq, D.int.injEq, D.bl.injEq, D.tup.injEq, D.rl.injEq, D.wl.injEq, D.obj.injEq, D.str.injEq, forall_const, Option.map_some, List.cons_append, List.nil_append, List.length_cons, List.length_nil, h0, h1, h2, h3, h4, h5, h6, h7, h8, h9, h10, h11, h12, h13, h14, h15, h16, h17, h18]; repeat (with_reducible refine nx_of ?_; simp only [↓B_one, ↓B_cons, ↓B_nil, ↓S_skip, ↓S_set, ↓S_unp, ↓S_par, ↓S_aug, ↓S_sto, ↓S_stg, ↓S_ex, ↓S_ret, ↓S_retn, ↓S_ite, ↓S_for, ↓S_whl, ↓S_brk, ↓S_cnt, ↓S_rais, ↓S_thru, ↓E_var, ↓look_0, ↓look_s, ↓E_ci, ↓E_cb, ↓E_cn, ↓E_cs, ↓E_bin, ↓E_un, ↓E_no, ↓E_an, ↓E_or, ↓E_cmp, ↓E_ch, ↓E_ife, ↓E_tup, ↓E_lst, ↓E_ix, ↓E_sl, ↓E_rev, ↓E_call, ↓E_callk, ↓E_blt, ↓E_mth, ↓E_ixc, ↓E_inc, ↓E_isi, ↓E_lrg, ↓E_lc, ↓E_fld, ↓E_isx, isW, fldW, isxW, N_exc, seq_rt, seq_bk, seq_ct, seq_ex, loop_rt, loop_bk, loop_ex, ret_nx, ret_rt', wpA, wpT, wpAnE, wpOrE, wpAnT, wpOrT, wpC, wpI, binW, addW, mulW, intW, CNo, CPos, CNN, unW, cmpW, eqW, ordW, ixW, B_len, B_int, B_abs, B_min, B_max, B_sum, B_tuple, B_list, lenW, int1W, absW, minW, maxW, sumW, tupleW, listW, augW, M_append, M_pop, ownL, stoW, getW, tgW, setAll, lrgW, partW, isCn, slW, revW, inW, truth, isAny, tyName, kit_NoneType_tuple, kit_NoneType_bool, kit_NoneType_int, kit_NoneType_str, kit_NoneType_list, kit_bool_tuple, kit_bool_bool, kit_bool_int, kit_bool_str, kit_bool_list, kit_int_tuple, kit_int_bool, kit_int_int, kit_int_str, kit_int_list, kit_str_tuple, kit_str_bool, kit_str_int, kit_str_str, kit_str_list, kit_tuple_tuple, kit_tuple_bool, kit_tuple_int, kit_tuple_str, kit_tuple_list, kit_list_tuple, kit_list_bool, kit_list_int, kit_list_str, kit_list_list, N_non, N_bl, N_int, N_str, N_tup, N_rl, N_wl, N_obj, I_tup, I_rl, I_wl, I_obj, LL_rl, LL_obj, O.xs, newL, wipeD, List.getElem?_cons_zero, List.getElem?_cons_succ, List.getElem?_nil, List.set_cons_zero, List.set_cons_succ, Option.some.injEq, exists_and_left, exists_eq', exists_eq, exists_eq_left', exists_eq_left, true_and, and_true, Bool.not_true, Bool.not_false, reduceCtorEq, ite_true, ite_false, if_true, if_false, String.reduceEq, D.int.injEq, D.bl.injEq, D.tup.injEq, D.rl.injEq, D.wl.injEq, D.obj.injEq, D.str.injEq, forall_const, Option.map_some, List.cons_append, List.nil_append, List.length_cons, List.length_nil, h0, h1, h2, h3, h4, h5, h6, h7, h8, h9, h10, h11, h12, h13, h14, h15, h16, h17, h18]))
  refine ⟨by decide, by decide, ?_⟩
  ((try with_reducible refine nx_of ?_); simp only [↓B_one, ↓B_cons, ↓B_nil, ↓S_skip, ↓S_set, ↓S_unp, ↓S_par, ↓S_aug, ↓S_sto, ↓S_stg, ↓S_ex, ↓S_ret, ↓S_retn, ↓S_ite, ↓S_for, ↓S_whl, ↓S_brk, ↓S_cnt, ↓S_rais, ↓S_thru, ↓E_var, ↓look_0, ↓look_s, ↓E_ci, ↓E_cb, ↓E_cn, ↓E_cs, ↓E_bin, ↓E_un, ↓E_no, ↓E_an, ↓E_or, ↓E_cmp, ↓E_ch, ↓E_ife, ↓E_tup, ↓E_lst, ↓E_ix, ↓E_sl, ↓E_rev, ↓E_call, ↓E_callk, ↓E_blt, ↓E_mth, ↓E_ixc, ↓E_inc, ↓E_isi, ↓E_lrg, ↓E_lc, ↓E_fld, ↓E_isx, isW, fldW, isxW, N_exc, seq_rt, seq_bk, seq_ct, seq_ex, loop_rt, loop_bk, loop_ex, ret_nx, ret_rt', wpA, wpT, wpAnE, wpOrE, wpAnT, wpOrT, wpC, wpI, binW, addW, mulW, intW, CNo, CPos, CNN, unW, cmpW, eqW, ordW, ixW, B_len, B_int, B_abs, B_min, B_max, B_sum, B_tuple, B_list, lenW, int1W, absW, minW, maxW, sumW, tupleW, listW, augW, M_append, M_pop, ownL, stoW, getW, tgW, setAll, lrgW, partW, isCn, slW, revW, inW, truth, isAny, tyName, kit_NoneType_tuple, kit_NoneType_bool, kit_NoneType_int, kit_NoneType_str, kit_NoneType_list, kit_bool_tuple, kit_bool_bool, kit_bool_int, kit_bool_str, kit_bool_list, kit_int_tuple, kit_int_bool, kit_int_int, kit_int_str, kit_int_list, kit_str_tuple, kit_str_bool, kit_str_int, kit_str_str, kit_str_list, kit_tuple_tuple, kit_tuple_bool, kit_tuple_int, kit_tuple_str, kit_tuple_list, kit_list_tuple, kit_list_bool, kit_list_int, kit_list_str, kit_list_list, N_non, N_bl, N_int, N_str, N_tup, N_rl, N_wl, N_obj, I_tup, I_rl, I_wl, I_obj, LL_rl, LL_obj, O.xs, newL, wipeD, List.getElem?_cons_zero, List.getElem?_cons_succ, List.getElem?_nil, List.set_cons_zero, List.set_cons_succ, Option.some.injEq, exists_and_left, exists_eq', exists_eq, exists_eq_left', exists_eq_left, true_and, and_true, Bool.not_true, Bool.not_false, reduceCtorEq, ite_true, ite_false, if_true, if_false, String.reduceEq, D.int.injEq, D.bl.injEq, D.tup.injEq, D.rl.injEq, D.wl.injEq, D.obj.injEq, D.str.injEq, forall_const, Option.map_some, List.cons_append, List.nil_append, List.length_cons, List.length_nil, h0, h1, h2, h3, h4, h5, h6, h7, h8, h9, h10, h11, h12, h13, h14, h15, h16, h17, h18]; repeat (with_reducible refine nx_of ?_; simp only [↓B_one, ↓B_cons, ↓B_nil, ↓S_skip, ↓S_set, ↓S_unp, ↓S_par, ↓S_aug, ↓S_sto, ↓S_stg, ↓S_ex, ↓S_ret, ↓S_retn, ↓S_ite, ↓S_for, ↓S_whl, ↓S_brk, ↓S_cnt, ↓S_rais, ↓S_thru, ↓E_var, ↓look_0, ↓look_s, ↓E_ci, ↓E_cb, ↓E_cn, ↓E_cs, ↓E_bin, ↓E_un, ↓E_no, ↓E_an, ↓E_or, ↓E_cmp, ↓E_ch, ↓E_ife, ↓E_tup, ↓E_lst, ↓E_ix, ↓E_sl, ↓E_rev, ↓E_call, ↓E_callk, ↓E_blt, ↓E_mth, ↓E_ixc, ↓E_inc, ↓E_isi, ↓E_lrg, ↓E_lc, ↓E_fld, ↓E_isx, isW, fldW, isxW, N_exc, seq_rt, seq_bk, seq_ct, seq_ex, loop_rt, loop_bk, loop_ex, ret_nx, ret_rt', wpA, wpT, wpAnE, wpOrE, wpAnT, wpOrT, wpC, wpI, binW, addW, mulW, intW, CNo, CPos, CNN, unW, cmpW, eqW, ordW, ixW, B_len, B_int, B_abs, B_min, B_max, B_sum, B_tuple, B_list, lenW, int1W, absW, minW, maxW, sumW, tupleW, listW, augW, M_append, M_pop, ownL, stoW, getW, tgW, setAll, lrgW, partW, isCn, slW, revW, inW, truth, isAny, tyName, kit_NoneType_tuple, kit_NoneType_bool, kit_NoneType_int, kit_NoneType_str, kit_NoneType_list, kit_bool_tuple, kit_bool_bool, kit_bool_int, kit_bool_str, kit_bool_list, kit_int_tuple, kit_int_bool, kit_int_int, kit_int_str, kit_int_list, kit_str_tuple, kit_str_bool, kit_str_int, kit_str_str, kit_str_list, kit_tuple_tuple, kit_tuple_bool, kit_tuple_int, kit_tuple_str, kit_tuple_list, kit_list_tuple, kit_list_bool, kit_list_int, kit_list_str, kit_list_list, N_non, N_bl, N_int, N_str, N_tup, N_rl, N_wl, N_obj, I_tup, I_rl, I_wl, I_obj, LL_rl, LL_obj, O.xs, newL, wipeD, List.getElem?_cons_zero, List.getElem?_cons_succ, List.getElem?_nil, List.set_cons_zero, List.set_cons_succ, Option.some.injEq, exists_and_left, exists_eq', exists_eq, exists_eq_left', exists_eq_left, true_and, and_true, Bool.not_true, Bool.not_false, reduceCtorEq, ite_true, ite_false, if_true, if_false, String.reduceEq, D.int.injEq, D.bl.injEq, D.tup.injEq, D.rl.injEq, D.wl.injEq, D.obj.injEq, D.str.injEq, forall_const, Option.map_some, List.cons_append, List.nil_append, List.length_cons, List.length_nil, h0, h1, h2, h3, h4, h5, h6, h7, h8, h9, h10, h11, h12, h13, h14, h15, h16, h17, h18]))
  exact ⟨by decide, by decide, .here hq⟩
/-! ### lists of bools -/
theorem py_bls {M : Mp} : ∀ bs : List Bool, Paired (Py M) (bs.map D.bl) (bs.map PyData.bool)
  | [] => .nil
  | b :: bs => .cons (.bl b) (py_bls bs)
theorem lay_bls : ∀ bs : List Bool, PyData.canLayAll0 (bs.map PyData.bool) = true ∧ PyData.depthAll (bs.map PyData.bool) = 0
  | [] => ⟨by simp [PyData.canLayAll0], by simp [PyData.depthAll]⟩
  | b :: bs => by
    obtain ⟨h1, h2⟩ := lay_bls bs
    exact ⟨by simp [PyData.canLayAll0, PyData.canLay0, h1], by simp [PyData.depthAll, PyData.depth, h2]⟩
theorem shaped_bls (bs : List Bool) : SeqAt.shaped (.list (bs.map PyData.bool)) = true := by
  obtain ⟨h1, h2⟩ := lay_bls bs
  unfold SeqAt.shaped
  simp [PyData.canLay0, PyData.depth, h1, h2]
theorem eqv_bls (bs : List Bool) : PyData.eqv (.list (bs.map PyData.bool)) (.list (bs.map PyData.bool)) = true := SeqAt.eqv_refl _ (by simp [PyData.canLay0, (lay_bls bs).1])
/-! ### kinds -/
def sp_law_kinds (cA : Nat → Addr) : Spec := fun ds M Q _ => ∃ (es : List D) (f : Nat), ds = [.rl es, .int f] ∧ es.length ≤ 19 ∧ (∀ k, k < es.length → ∃ a ns xs, es[k]? = some (.exc (cA a) ns xs) ∧ k19[f + k]? = some a) ∧ Q (.bl true) M
theorem w_law_kinds (s : Subs Γ cA) (g : Γ.call g_law_classes = sp_law_classes cA) {ds M Q E} (h : sp_law_kinds cA ds M Q E) : wpB Γ b_law_kinds (startD n_law_kinds ds) M (Kret Q E) := by
  obtain ⟨es, f, rfl, hl, he, hq⟩ := h
  show wpB Γ b_law_kinds [some (.rl es), some (.int f), none, none] M (Kret Q E)
  unfold b_law_kinds
  ((try with_reducible refine nx_of ?_); simp only [↓B_one, ↓B_cons, ↓B_nil, ↓S_skip, ↓S_set, ↓S_unp, ↓S_par, ↓S_aug, ↓S_sto, ↓S_stg, ↓S_ex, ↓S_ret, ↓S_retn, ↓S_ite, ↓S_for, ↓S_whl, ↓S_brk, ↓S_cnt, ↓S_rais, ↓S_thru, ↓E_var, ↓look_0, ↓look_s, ↓E_ci, ↓E_cb, ↓E_cn, ↓E_cs, ↓E_bin, ↓E_un, ↓E_no, ↓E_an, ↓E_or, ↓E_cmp, ↓E_ch, ↓E_ife, ↓E_tup, ↓E_lst, ↓E_ix, ↓E_sl, ↓E_rev, ↓E_call, ↓E_callk, ↓E_blt, ↓E_mth, ↓E_ixc, ↓E_inc, ↓E_isi, ↓E_lrg, ↓E_lc, ↓E_fld, ↓E_isx, isW, fldW, isxW, N_exc, seq_rt, seq_bk, seq_ct, seq_ex, loop_rt, loop_bk, loop_ex, ret_nx, ret_rt', wpA, wpT, wpAnE, wpOrE, wpAnT, wpOrT, wpC, wpI, binW, addW, mulW, intW, CNo, CPos, CNN, unW, cmpW, eqW, ordW, ixW, B_len, B_int, B_abs, B_min, B_max, B_sum, B_tuple, B_list, lenW, int1W, absW, minW, maxW, sumW, tupleW, listW, augW, M_append, M_pop, ownL, stoW, getW, tgW, setAll, lrgW, partW, isCn, slW, revW, inW, truth, isAny, tyName, kit_NoneType_tuple, kit_NoneType_bool, kit_NoneType_int, kit_NoneType_str, kit_NoneType_list, kit_bool_tuple, kit_bool_bool, kit_bool_int, kit_bool_str, kit_bool_list, kit_int_tuple, kit_int_bool, kit_int_int, kit_int_str, kit_int_list, kit_str_tuple, kit_str_bool, kit_str_int, kit_str_str, kit_str_list, kit_tuple_tuple, kit_tuple_bool, kit_tuple_int, kit_tuple_str, kit_tuple_list, kit_list_tuple, kit_list_bool, kit_list_int, kit_list_str, kit_list_list, N_non, N_bl, N_int, N_str, N_tup, N_rl, N_wl, N_obj, I_tup, I_rl, I_wl, I_obj, LL_rl, LL_obj, O.xs, newL, wipeD, List.getElem?_cons_zero, List.getElem?_cons_succ, List.getElem?_nil, List.set_cons_zero, List.set_cons_succ, Option.some.injEq, exists_and_left, exists_eq', exists_eq, exists_eq_left', exists_eq_left, true_and, and_true, Bool.not_true, Bool.not_false, reduceCtorEq, ite_true, ite_false, if_true, if_false, String.reduceEq, D.int.injEq, D.bl.injEq, D.tup.injEq, D.rl.injEq, D.wl.injEq, D.obj.injEq, D.str.injEq, forall_const, Option.map_some, List.cons_append, List.nil_append, List.length_cons, List.length_nil, Int.toNat_natCast]; repeat (with_reducible refine nx_of ?_; simp only [↓B_one, ↓B_cons, ↓B_nil, ↓S_skip, ↓S_set, ↓S_unp, ↓S_par, ↓S_aug, ↓S_sto, ↓S_stg, ↓S_ex, ↓S_ret, ↓S_retn, ↓S_ite, ↓S_for, ↓S_whl, ↓S_brk, ↓S_cnt, ↓S_rais, ↓S_thru, ↓E_var, ↓look_0, ↓look_s, ↓E_ci, ↓E_cb, ↓E_cn, ↓E_cs, ↓E_bin, ↓E_un, ↓E_no, ↓E_an, ↓E_or, ↓E_cmp, ↓E_ch, ↓E_ife, ↓E_tup, ↓E_lst, ↓E_ix, ↓E_sl, ↓E_rev, ↓E_call, ↓E_callk, ↓E_blt, ↓E_mth, ↓E_ixc, ↓E_inc, ↓E_isi, ↓E_lrg, ↓E_lc, ↓E_fld, ↓E_isx, isW, fldW, isxW, N_exc, seq_rt, seq_bk, seq_ct, seq_ex, loop_rt, loop_bk, loop_ex, ret_nx, ret_rt', wpA, wpT, wpAnE, wpOrE, wpAnT, wpOrT, wpC, wpI, binW, addW, mulW, intW, CNo, CPos, CNN, unW, cmpW, eqW, ordW, ixW, B_len, B_int, B_abs, B_min, B_max, B_sum, B_tuple, B_list, lenW, int1W, absW, minW, maxW, sumW, tupleW, listW, augW, M_append, M_pop, ownL, stoW, getW, tgW, setAll, lrgW, partW, isCn, slW, revW, inW, truth, isAny, tyName, kit_NoneType_tuple, kit_NoneType_bool, kit_NoneType_int, kit_NoneType_str, kit_NoneType_list, kit_bool_tuple, kit_bool_bool, kit_bool_int, kit_bool_str, kit_bool_list, kit_int_tuple, kit_int_bool, kit_int_int, kit_int_str, kit_int_list, kit_str_tuple, kit_str_bool, kit_str_int, kit_str_str, kit_str_list, kit_tuple_tuple, kit_tuple_bool, kit_tuple_int, kit_tuple_str, kit_tuple_list, kit_list_tuple, kit_list_bool, kit_list_int, kit_list_str, kit_list_list, N_non, N_bl, N_int, N_str, N_tup, N_rl, N_wl, N_obj, I_tup, I_rl, I_wl, I_obj, LL_rl, LL_obj, O.xs, newL, wipeD, List.getElem?_cons_zero, List.getElem?_cons_succ, List.getElem?_nil, List.set_cons_zero, List.set_cons_succ, Option.some.injEq, exists_and_left, exists_eq', exists_eq, exists_eq_left', exists_eq_left, true_and, and_true, Bool.not_true, Bool.not_false, reduceCtorEq, ite_true, ite_false, if_true, if_false, String.reduceEq, D.int.injEq, D.bl.injEq, D.tup.injEq, D.rl.injEq, D.wl.injEq, D.obj.injEq, D.str.injEq, forall_const, Option.map_some, List.cons_append, List.nil_append, List.length_cons, List.length_nil, Int.toNat_natCast]))
  refine ⟨by omega, by omega, ?_⟩
  rw [rng0]
  refine loop_range (fun i μ M' => M' = M ∧ ∃ a b, μ = [some (.rl es), some (.int f), a, b]) ⟨rfl, _, _, rfl⟩ ?_ ?_
  · rintro i μ M' hi ⟨rfl, z, z2, rfl⟩
    obtain ⟨a, ns, xs, e1, e2⟩ := he i hi
    have e3 : atI es (((0 + i : Nat)) : Int) = some (.exc (cA a) ns xs) := atI_nat (by rw [Nat.zero_add]; exact e1)
    obtain ⟨t1, t2⟩ := s.top a (List.mem_of_getElem? e2)
    ((try with_reducible refine nx_of ?_); simp only [↓B_one, ↓B_cons, ↓B_nil, ↓S_skip, ↓S_set, ↓S_unp, ↓S_par, ↓S_aug, ↓S_sto, ↓S_stg, ↓S_ex, ↓S_ret, ↓S_retn, ↓S_ite, ↓S_for, ↓S_whl, ↓S_brk, ↓S_cnt, ↓S_rais, ↓S_thru, ↓E_var, ↓look_0, ↓look_s, ↓E_ci, ↓E_cb, ↓E_cn, ↓E_cs, ↓E_bin, ↓E_un, ↓E_no, ↓E_an, ↓E_or, ↓E_cmp, ↓E_ch, ↓E_ife, ↓E_tup, ↓E_lst, ↓E_ix, ↓E_sl, ↓E_rev, ↓E_call, ↓E_callk, ↓E_blt, ↓E_mth, ↓E_ixc, ↓E_inc, ↓E_isi, ↓E_lrg, ↓E_lc, ↓E_fld, ↓E_isx, isW, fldW, isxW, N_exc, seq_rt, seq_bk, seq_ct, seq_ex, loop_rt, loop_bk, loop_ex, ret_nx, ret_rt', wpA, wpT, wpAnE, wpOrE, wpAnT, wpOrT, wpC, wpI, binW, addW, mulW, intW, CNo, CPos, CNN, unW, cmpW, eqW, ordW, ixW, B_len, B_int, B_abs, B_min, B_max, B_sum, B_tuple, B_list, lenW, int1W, absW, minW, maxW, sumW, tupleW, listW, augW, M_append, M_pop, ownL, stoW, getW, tgW, setAll, lrgW, partW, isCn, slW, revW, inW, truth, isAny, tyName, kit_NoneType_tuple, kit_NoneType_bool, kit_NoneType_int, kit_NoneType_str, kit_NoneType_list, kit_bool_tuple, kit_bool_bool, kit_bool_int, kit_bool_str, kit_bool_list, kit_int_tuple, kit_int_bool, kit_int_int, kit_int_str, kit_int_list, kit_str_tuple, kit_str_bool, kit_str_int, kit_str_str, kit_str_list, kit_tuple_tuple, kit_tuple_bool, kit_tuple_int, kit_tuple_str, kit_tuple_list, kit_list_tuple, kit_list_bool, kit_list_int, kit_list_str, kit_list_list, N_non, N_bl, N_int, N_str, N_tup, N_rl, N_wl, N_obj, I_tup, I_rl, I_wl, I_obj, LL_rl, LL_obj, O.xs, newL, wipeD, List.getElem?_cons_zero, List.getElem?_cons_succ, List.getElem?_nil, List.set_cons_zero, List.set_cons_succ, Option.some.injEq, exists_and_left, exists_eq', exists_eq, exists_eq_left', exists_eq_left, true_and, and_true, Bool.not_true, Bool.not_false, reduceCtorEq, ite_true, ite_false, if_true, if_false, String.reduceEq, D.int.injEq, D.bl.injEq, D.tup.injEq, D.rl.injEq, D.wl.injEq, D.obj.injEq, D.str.injEq, forall_const, Option.map_some, List.cons_append, List.nil_append, List.length_cons, List.length_nil, e3, t1, t2, g]; repeat (with_reducible refine nx_of ?_; simp only [↓B_one, ↓B_cons, ↓B_nil, ↓S_skip, ↓S_set, ↓S_unp, ↓S_par, ↓S_aug, ↓S_sto, ↓S_stg, ↓S_ex, ↓S_ret, ↓S_retn, ↓S_ite, ↓S_for, ↓S_whl, ↓S_brk, ↓S_cnt, ↓S_rais, ↓S_thru, ↓E_var, ↓look_0, ↓look_s, ↓E_ci, ↓E_cb, ↓E_cn, ↓E_cs, ↓E_bin, ↓E_un, ↓E_no, ↓E_an, ↓E_or, ↓E_cmp, ↓E_ch, ↓E_ife, ↓E_tup, ↓E_lst, ↓E_ix, ↓E_sl, ↓E_rev, ↓E_call, ↓E_callk, ↓E_blt, ↓E_mth, ↓E_ixc, ↓E_inc, ↓E_isi, ↓E_lrg, ↓E_lc, ↓E_fld, ↓E_isx, isW, fldW, isxW, N_exc, seq_rt, seq_bk, seq_ct, seq_ex, loop_rt, loop_bk, loop_ex, ret_nx, ret_rt', wpA, wpT, wpAnE, wpOrE, wpAnT, wpOrT, wpC, wpI, binW, addW, mulW, intW, CNo, CPos, CNN, unW, cmpW, eqW, ordW, ixW, B_len, B_int, B_abs, B_min, B_max, B_sum, B_tuple, B_list, lenW, int1W, absW, minW, maxW, sumW, tupleW, listW, augW, M_append, M_pop, ownL, stoW, getW, tgW, setAll, lrgW, partW, isCn, slW, revW, inW, truth, isAny, tyName, kit_NoneType_tuple, kit_NoneType_bool, kit_NoneType_int, kit_NoneType_str, kit_NoneType_list, kit_bool_tuple, kit_bool_bool, kit_bool_int, kit_bool_str, kit_bool_list, kit_int_tuple, kit_int_bool, kit_int_int, kit_int_str, kit_int_list, kit_str_tuple, kit_str_bool, kit_str_int, kit_str_str, kit_str_list, kit_tuple_tuple, kit_tuple_bool, kit_tuple_int, kit_tuple_str, kit_tuple_list, kit_list_tuple, kit_list_bool, kit_list_int, kit_list_str, kit_list_list, N_non, N_bl, N_int, N_str, N_tup, N_rl, N_wl, N_obj, I_tup, I_rl, I_wl, I_obj, LL_rl, LL_obj, O.xs, newL, wipeD, List.getElem?_cons_zero, List.getElem?_cons_succ, List.getElem?_nil, List.set_cons_zero, List.set_cons_succ, Option.some.injEq, exists_and_left, exists_eq', exists_eq, exists_eq_left', exists_eq_left, true_and, and_true, Bool.not_true, Bool.not_false, reduceCtorEq, ite_true, ite_false, if_true, if_false, String.reduceEq, D.int.injEq, D.bl.injEq, D.tup.injEq, D.rl.injEq, D.wl.injEq, D.obj.injEq, D.str.injEq, forall_const, Option.map_some, List.cons_append, List.nil_append, List.length_cons, List.length_nil, e3, t1, t2, g]))
    refine ⟨f + i, a, ns, xs, rfl, e2, by decide, by decide, cmW_range (fun j => .bl (decide (j = f + i))) (by decide) trivial (fun k hk R hR => ?_) ⟨by simp [big], ?_⟩⟩
    · ((try with_reducible refine nx_of ?_); simp only [↓B_one, ↓B_cons, ↓B_nil, ↓S_skip, ↓S_set, ↓S_unp, ↓S_par, ↓S_aug, ↓S_sto, ↓S_stg, ↓S_ex, ↓S_ret, ↓S_retn, ↓S_ite, ↓S_for, ↓S_whl, ↓S_brk, ↓S_cnt, ↓S_rais, ↓S_thru, ↓E_var, ↓look_0, ↓look_s, ↓E_ci, ↓E_cb, ↓E_cn, ↓E_cs, ↓E_bin, ↓E_un, ↓E_no, ↓E_an, ↓E_or, ↓E_cmp, ↓E_ch, ↓E_ife, ↓E_tup, ↓E_lst, ↓E_ix, ↓E_sl, ↓E_rev, ↓E_call, ↓E_callk, ↓E_blt, ↓E_mth, ↓E_ixc, ↓E_inc, ↓E_isi, ↓E_lrg, ↓E_lc, ↓E_fld, ↓E_isx, isW, fldW, isxW, N_exc, seq_rt, seq_bk, seq_ct, seq_ex, loop_rt, loop_bk, loop_ex, ret_nx, ret_rt', wpA, wpT, wpAnE, wpOrE, wpAnT, wpOrT, wpC, wpI, binW, addW, mulW, intW, CNo, CPos, CNN, unW, cmpW, eqW, ordW, ixW, B_len, B_int, B_abs, B_min, B_max, B_sum, B_tuple, B_list, lenW, int1W, absW, minW, maxW, sumW, tupleW, listW, augW, M_append, M_pop, ownL, stoW, getW, tgW, setAll, lrgW, partW, isCn, slW, revW, inW, truth, isAny, tyName, kit_NoneType_tuple, kit_NoneType_bool, kit_NoneType_int, kit_NoneType_str, kit_NoneType_list, kit_bool_tuple, kit_bool_bool, kit_bool_int, kit_bool_str, kit_bool_list, kit_int_tuple, kit_int_bool, kit_int_int, kit_int_str, kit_int_list, kit_str_tuple, kit_str_bool, kit_str_int, kit_str_str, kit_str_list, kit_tuple_tuple, kit_tuple_bool, kit_tuple_int, kit_tuple_str, kit_tuple_list, kit_list_tuple, kit_list_bool, kit_list_int, kit_list_str, kit_list_list, N_non, N_bl, N_int, N_str, N_tup, N_rl, N_wl, N_obj, I_tup, I_rl, I_wl, I_obj, LL_rl, LL_obj, O.xs, newL, wipeD, List.getElem?_cons_zero, List.getElem?_cons_succ, List.getElem?_nil, List.set_cons_zero, List.set_cons_succ, Option.some.injEq, exists_and_left, exists_eq', exists_eq, exists_eq_left', exists_eq_left, true_and, and_true, Bool.not_true, Bool.not_false, reduceCtorEq, ite_true, ite_false, if_true, if_false, String.reduceEq, D.int.injEq, D.bl.injEq, D.tup.injEq, D.rl.injEq, D.wl.injEq, D.obj.injEq, D.str.injEq, forall_const, Option.map_some, List.cons_append, List.nil_append, List.length_cons, List.length_nil]; repeat (with_reducible refine nx_of ?_; simp only [↓B_one, ↓B_cons, ↓B_nil, ↓S_skip, ↓S_set, ↓S_unp, ↓S_par, ↓S_aug, ↓S_sto, ↓S_stg, ↓S_ex, ↓S_ret, ↓S_retn, ↓S_ite, ↓S_for, ↓S_whl, ↓S_brk, ↓S_cnt, ↓S_rais, ↓S_thru, ↓E_var, ↓look_0, ↓look_s, ↓E_ci, ↓E_cb, ↓E_cn, ↓E_cs, ↓E_bin, ↓E_un, ↓E_no, ↓E_an, ↓E_or, ↓E_cmp, ↓E_ch, ↓E_ife, ↓E_tup, ↓E_lst, ↓E_ix, ↓E_sl, ↓E_rev, ↓E_call, ↓E_callk, ↓E_blt, ↓E_mth, ↓E_ixc, ↓E_inc, ↓E_isi, ↓E_lrg, ↓E_lc, ↓E_fld, ↓E_isx, isW, fldW, isxW, N_exc, seq_rt, seq_bk, seq_ct, seq_ex, loop_rt, loop_bk, loop_ex, ret_nx, ret_rt', wpA, wpT, wpAnE, wpOrE, wpAnT, wpOrT, wpC, wpI, binW, addW, mulW, intW, CNo, CPos, CNN, unW, cmpW, eqW, ordW, ixW, B_len, B_int, B_abs, B_min, B_max, B_sum, B_tuple, B_list, lenW, int1W, absW, minW, maxW, sumW, tupleW, listW, augW, M_append, M_pop, ownL, stoW, getW, tgW, setAll, lrgW, partW, isCn, slW, revW, inW, truth, isAny, tyName, kit_NoneType_tuple, kit_NoneType_bool, kit_NoneType_int, kit_NoneType_str, kit_NoneType_list, kit_bool_tuple, kit_bool_bool, kit_bool_int, kit_bool_str, kit_bool_list, kit_int_tuple, kit_int_bool, kit_int_int, kit_int_str, kit_int_list, kit_str_tuple, kit_str_bool, kit_str_int, kit_str_str, kit_str_list, kit_tuple_tuple, kit_tuple_bool, kit_tuple_int, kit_tuple_str, kit_tuple_list, kit_list_tuple, kit_list_bool, kit_list_int, kit_list_str, kit_list_list, N_non, N_bl, N_int, N_str, N_tup, N_rl, N_wl, N_obj, I_tup, I_rl, I_wl, I_obj, LL_rl, LL_obj, O.xs, newL, wipeD, List.getElem?_cons_zero, List.getElem?_cons_succ, List.getElem?_nil, List.set_cons_zero, List.set_cons_succ, Option.some.injEq, exists_and_left, exists_eq', exists_eq, exists_eq_left', exists_eq_left, true_and, and_true, Bool.not_true, Bool.not_false, reduceCtorEq, ite_true, ite_false, if_true, if_false, String.reduceEq, D.int.injEq, D.bl.injEq, D.tup.injEq, D.rl.injEq, D.wl.injEq, D.obj.injEq, D.str.injEq, forall_const, Option.map_some, List.cons_append, List.nil_append, List.length_cons, List.length_nil]))
      have e : decide ((k : Int) = (f : Int) + ((0 + i : Nat) : Int)) = decide (k = f + i) := by
        congr 1
        exact propext ⟨fun z => by omega, fun z => by omega⟩
      rw [e]
      exact hR
    · have e4 : ((List.range 19).map fun j => D.bl (decide (j = f + i))) = ((List.range 19).map fun j => decide (j = f + i)).map D.bl := by rw [List.map_map]; rfl
      ((try with_reducible refine nx_of ?_); simp only [↓B_one, ↓B_cons, ↓B_nil, ↓S_skip, ↓S_set, ↓S_unp, ↓S_par, ↓S_aug, ↓S_sto, ↓S_stg, ↓S_ex, ↓S_ret, ↓S_retn, ↓S_ite, ↓S_for, ↓S_whl, ↓S_brk, ↓S_cnt, ↓S_rais, ↓S_thru, ↓E_var, ↓look_0, ↓look_s, ↓E_ci, ↓E_cb, ↓E_cn, ↓E_cs, ↓E_bin, ↓E_un, ↓E_no, ↓E_an, ↓E_or, ↓E_cmp, ↓E_ch, ↓E_ife, ↓E_tup, ↓E_lst, ↓E_ix, ↓E_sl, ↓E_rev, ↓E_call, ↓E_callk, ↓E_blt, ↓E_mth, ↓E_ixc, ↓E_inc, ↓E_isi, ↓E_lrg, ↓E_lc, ↓E_fld, ↓E_isx, isW, fldW, isxW, N_exc, seq_rt, seq_bk, seq_ct, seq_ex, loop_rt, loop_bk, loop_ex, ret_nx, ret_rt', wpA, wpT, wpAnE, wpOrE, wpAnT, wpOrT, wpC, wpI, binW, addW, mulW, intW, CNo, CPos, CNN, unW, cmpW, eqW, ordW, ixW, B_len, B_int, B_abs, B_min, B_max, B_sum, B_tuple, B_list, lenW, int1W, absW, minW, maxW, sumW, tupleW, listW, augW, M_append, M_pop, ownL, stoW, getW, tgW, setAll, lrgW, partW, isCn, slW, revW, inW, truth, isAny, tyName, kit_NoneType_tuple, kit_NoneType_bool, kit_NoneType_int, kit_NoneType_str, kit_NoneType_list, kit_bool_tuple, kit_bool_bool, kit_bool_int, kit_bool_str, kit_bool_list, kit_int_tuple, kit_int_bool, kit_int_int, kit_int_str, kit_int_list, kit_str_tuple, kit_str_bool, kit_str_int, kit_str_str, kit_str_list, kit_tuple_tuple, kit_tuple_bool, kit_tuple_int, kit_tuple_str, kit_tuple_list, kit_list_tuple, kit_list_bool, kit_list_int, kit_list_str, kit_list_list, N_non, N_bl, N_int, N_str, N_tup, N_rl, N_wl, N_obj, I_tup, I_rl, I_wl, I_obj, LL_rl, LL_obj, O.xs, newL, wipeD, List.getElem?_cons_zero, List.getElem?_cons_succ, List.getElem?_nil, List.set_cons_zero, List.set_cons_succ, Option.some.injEq, exists_and_left, exists_eq', exists_eq, exists_eq_left', exists_eq_left, true_and, and_true, Bool.not_true, Bool.not_false, reduceCtorEq, ite_true, ite_false, if_true, if_false, String.reduceEq, D.int.injEq, D.bl.injEq, D.tup.injEq, D.rl.injEq, D.wl.injEq, D.obj.injEq, D.str.injEq, forall_const, Option.map_some, List.cons_append, List.nil_append, List.length_cons, List.length_nil]; repeat (with_reducible refine nx_of ?_; simp only [↓B_one, ↓B_cons, ↓B_nil, ↓S_skip, ↓S_set, ↓S_unp, ↓S_par, ↓S_aug, ↓S_sto, ↓S_stg, ↓S_ex, ↓S_ret, ↓S_retn, ↓S_ite, ↓S_for, ↓S_whl, ↓S_brk, ↓S_cnt, ↓S_rais, ↓S_thru, ↓E_var, ↓look_0, ↓look_s, ↓E_ci, ↓E_cb, ↓E_cn, ↓E_cs, ↓E_bin, ↓E_un, ↓E_no, ↓E_an, ↓E_or, ↓E_cmp, ↓E_ch, ↓E_ife, ↓E_tup, ↓E_lst, ↓E_ix, ↓E_sl, ↓E_rev, ↓E_call, ↓E_callk, ↓E_blt, ↓E_mth, ↓E_ixc, ↓E_inc, ↓E_isi, ↓E_lrg, ↓E_lc, ↓E_fld, ↓E_isx, isW, fldW, isxW, N_exc, seq_rt, seq_bk, seq_ct, seq_ex, loop_rt, loop_bk, loop_ex, ret_nx, ret_rt', wpA, wpT, wpAnE, wpOrE, wpAnT, wpOrT, wpC, wpI, binW, addW, mulW, intW, CNo, CPos, CNN, unW, cmpW, eqW, ordW, ixW, B_len, B_int, B_abs, B_min, B_max, B_sum, B_tuple, B_list, lenW, int1W, absW, minW, maxW, sumW, tupleW, listW, augW, M_append, M_pop, ownL, stoW, getW, tgW, setAll, lrgW, partW, isCn, slW, revW, inW, truth, isAny, tyName, kit_NoneType_tuple, kit_NoneType_bool, kit_NoneType_int, kit_NoneType_str, kit_NoneType_list, kit_bool_tuple, kit_bool_bool, kit_bool_int, kit_bool_str, kit_bool_list, kit_int_tuple, kit_int_bool, kit_int_int, kit_int_str, kit_int_list, kit_str_tuple, kit_str_bool, kit_str_int, kit_str_str, kit_str_list, kit_tuple_tuple, kit_tuple_bool, kit_tuple_int, kit_tuple_str, kit_tuple_list, kit_list_tuple, kit_list_bool, kit_list_int, kit_list_str, kit_list_list, N_non, N_bl, N_int, N_str, N_tup, N_rl, N_wl, N_obj, I_tup, I_rl, I_wl, I_obj, LL_rl, LL_obj, O.xs, newL, wipeD, List.getElem?_cons_zero, List.getElem?_cons_succ, List.getElem?_nil, List.set_cons_zero, List.set_cons_succ, Option.some.injEq, exists_and_left, exists_eq', exists_eq, exists_eq_left', exists_eq_left, true_and, and_true, Bool.not_true, Bool.not_false, reduceCtorEq, ite_true, ite_false, if_true, if_false, String.reduceEq, D.int.injEq, D.bl.injEq, D.tup.injEq, D.rl.injEq, D.wl.injEq, D.obj.injEq, D.str.injEq, forall_const, Option.map_some, List.cons_append, List.nil_append, List.length_cons, List.length_nil]))
      refine ⟨_, .rl (by rw [e4]; exact py_bls _), _, .rl (by rw [show Int.toNat 19 = 19 from rfl, e4]; exact py_bls _), shaped_bls _, shaped_bls _, ?_⟩
      rw [eqv_bls]
      ((try with_reducible refine nx_of ?_); simp only [↓B_one, ↓B_cons, ↓B_nil, ↓S_skip, ↓S_set, ↓S_unp, ↓S_par, ↓S_aug, ↓S_sto, ↓S_stg, ↓S_ex, ↓S_ret, ↓S_retn, ↓S_ite, ↓S_for, ↓S_whl, ↓S_brk, ↓S_cnt, ↓S_rais, ↓S_thru, ↓E_var, ↓look_0, ↓look_s, ↓E_ci, ↓E_cb, ↓E_cn, ↓E_cs, ↓E_bin, ↓E_un, ↓E_no, ↓E_an, ↓E_or, ↓E_cmp, ↓E_ch, ↓E_ife, ↓E_tup, ↓E_lst, ↓E_ix, ↓E_sl, ↓E_rev, ↓E_call, ↓E_callk, ↓E_blt, ↓E_mth, ↓E_ixc, ↓E_inc, ↓E_isi, ↓E_lrg, ↓E_lc, ↓E_fld, ↓E_isx, isW, fldW, isxW, N_exc, seq_rt, seq_bk, seq_ct, seq_ex, loop_rt, loop_bk, loop_ex, ret_nx, ret_rt', wpA, wpT, wpAnE, wpOrE, wpAnT, wpOrT, wpC, wpI, binW, addW, mulW, intW, CNo, CPos, CNN, unW, cmpW, eqW, ordW, ixW, B_len, B_int, B_abs, B_min, B_max, B_sum, B_tuple, B_list, lenW, int1W, absW, minW, maxW, sumW, tupleW, listW, augW, M_append, M_pop, ownL, stoW, getW, tgW, setAll, lrgW, partW, isCn, slW, revW, inW, truth, isAny, tyName, kit_NoneType_tuple, kit_NoneType_bool, kit_NoneType_int, kit_NoneType_str, kit_NoneType_list, kit_bool_tuple, kit_bool_bool, kit_bool_int, kit_bool_str, kit_bool_list, kit_int_tuple, kit_int_bool, kit_int_int, kit_int_str, kit_int_list, kit_str_tuple, kit_str_bool, kit_str_int, kit_str_str, kit_str_list, kit_tuple_tuple, kit_tuple_bool, kit_tuple_int, kit_tuple_str, kit_tuple_list, kit_list_tuple, kit_list_bool, kit_list_int, kit_list_str, kit_list_list, N_non, N_bl, N_int, N_str, N_tup, N_rl, N_wl, N_obj, I_tup, I_rl, I_wl, I_obj, LL_rl, LL_obj, O.xs, newL, wipeD, List.getElem?_cons_zero, List.getElem?_cons_succ, List.getElem?_nil, List.set_cons_zero, List.set_cons_succ, Option.some.injEq, exists_and_left, exists_eq', exists_eq, exists_eq_left', exists_eq_left, true_and, and_true, Bool.not_true, Bool.not_false, reduceCtorEq, ite_true, ite_false, if_true, if_false, String.reduceEq, D.int.injEq, D.bl.injEq, D.tup.injEq, D.rl.injEq, D.wl.injEq, D.obj.injEq, D.str.injEq, forall_const, Option.map_some, List.cons_append, List.nil_append, List.length_cons, List.length_nil]; repeat (with_reducible refine nx_of ?_; simp only [↓B_one, ↓B_cons, ↓B_nil, ↓S_skip, ↓S_set, ↓S_unp, ↓S_par, ↓S_aug, ↓S_sto, ↓S_stg, ↓S_ex, ↓S_ret, ↓S_retn, ↓S_ite, ↓S_for, ↓S_whl, ↓S_brk, ↓S_cnt, ↓S_rais, ↓S_thru, ↓E_var, ↓look_0, ↓look_s, ↓E_ci, ↓E_cb, ↓E_cn, ↓E_cs, ↓E_bin, ↓E_un, ↓E_no, ↓E_an, ↓E_or, ↓E_cmp, ↓E_ch, ↓E_ife, ↓E_tup, ↓E_lst, ↓E_ix, ↓E_sl, ↓E_rev, ↓E_call, ↓E_callk, ↓E_blt, ↓E_mth, ↓E_ixc, ↓E_inc, ↓E_isi, ↓E_lrg, ↓E_lc, ↓E_fld, ↓E_isx, isW, fldW, isxW, N_exc, seq_rt, seq_bk, seq_ct, seq_ex, loop_rt, loop_bk, loop_ex, ret_nx, ret_rt', wpA, wpT, wpAnE, wpOrE, wpAnT, wpOrT, wpC, wpI, binW, addW, mulW, intW, CNo, CPos, CNN, unW, cmpW, eqW, ordW, ixW, B_len, B_int, B_abs, B_min, B_max, B_sum, B_tuple, B_list, lenW, int1W, absW, minW, maxW, sumW, tupleW, listW, augW, M_append, M_pop, ownL, stoW, getW, tgW, setAll, lrgW, partW, isCn, slW, revW, inW, truth, isAny, tyName, kit_NoneType_tuple, kit_NoneType_bool, kit_NoneType_int, kit_NoneType_str, kit_NoneType_list, kit_bool_tuple, kit_bool_bool, kit_bool_int, kit_bool_str, kit_bool_list, kit_int_tuple, kit_int_bool, kit_int_int, kit_int_str, kit_int_list, kit_str_tuple, kit_str_bool, kit_str_int, kit_str_str, kit_str_list, kit_tuple_tuple, kit_tuple_bool, kit_tuple_int, kit_tuple_str, kit_tuple_list, kit_list_tuple, kit_list_bool, kit_list_int, kit_list_str, kit_list_list, N_non, N_bl, N_int, N_str, N_tup, N_rl, N_wl, N_obj, I_tup, I_rl, I_wl, I_obj, LL_rl, LL_obj, O.xs, newL, wipeD, List.getElem?_cons_zero, List.getElem?_cons_succ, List.getElem?_nil, List.set_cons_zero, List.set_cons_succ, Option.some.injEq, exists_and_left, exists_eq', exists_eq, exists_eq_left', exists_eq_left, true_and, and_true, Bool.not_true, Bool.not_false, reduceCtorEq, ite_true, ite_false, if_true, if_false, String.reduceEq, D.int.injEq, D.bl.injEq, D.tup.injEq, D.rl.injEq, D.wl.injEq, D.obj.injEq, D.str.injEq, forall_const, Option.map_some, List.cons_append, List.nil_append, List.length_cons, List.length_nil]))
      exact ⟨_, .refl _, rfl, _, _, rfl⟩
  · rintro μ M' ⟨rfl, z, z2, rfl⟩
    ((try with_reducible refine nx_of ?_); simp only [↓B_one, ↓B_cons, ↓B_nil, ↓S_skip, ↓S_set, ↓S_unp, ↓S_par, ↓S_aug, ↓S_sto, ↓S_stg, ↓S_ex, ↓S_ret, ↓S_retn, ↓S_ite, ↓S_for, ↓S_whl, ↓S_brk, ↓S_cnt, ↓S_rais, ↓S_thru, ↓E_var, ↓look_0, ↓look_s, ↓E_ci, ↓E_cb, ↓E_cn, ↓E_cs, ↓E_bin, ↓E_un, ↓E_no, ↓E_an, ↓E_or, ↓E_cmp, ↓E_ch, ↓E_ife, ↓E_tup, ↓E_lst, ↓E_ix, ↓E_sl, ↓E_rev, ↓E_call, ↓E_callk, ↓E_blt, ↓E_mth, ↓E_ixc, ↓E_inc, ↓E_isi, ↓E_lrg, ↓E_lc, ↓E_fld, ↓E_isx, isW, fldW, isxW, N_exc, seq_rt, seq_bk, seq_ct, seq_ex, loop_rt, loop_bk, loop_ex, ret_nx, ret_rt', wpA, wpT, wpAnE, wpOrE, wpAnT, wpOrT, wpC, wpI, binW, addW, mulW, intW, CNo, CPos, CNN, unW, cmpW, eqW, ordW, ixW, B_len, B_int, B_abs, B_min, B_max, B_sum, B_tuple, B_list, lenW, int1W, absW, minW, maxW, sumW, tupleW, listW, augW, M_append, M_pop, ownL, stoW, getW, tgW, setAll, lrgW, partW, isCn, slW, revW, inW, truth, isAny, tyName, kit_NoneType_tuple, kit_NoneType_bool, kit_NoneType_int, kit_NoneType_str, kit_NoneType_list, kit_bool_tuple, kit_bool_bool, kit_bool_int, kit_bool_str, kit_bool_list, kit_int_tuple, kit_int_bool, kit_int_int, kit_int_str, kit_int_list, kit_str_tuple, kit_str_bool, kit_str_int, kit_str_str, kit_str_list, kit_tuple_tuple, kit_tuple_bool, kit_tuple_int, kit_tuple_str, kit_tuple_list, kit_list_tuple, kit_list_bool, kit_list_int, kit_list_str, kit_list_list, N_non, N_bl, N_int, N_str, N_tup, N_rl, N_wl, N_obj, I_tup, I_rl, I_wl, I_obj, LL_rl, LL_obj, O.xs, newL, wipeD, List.getElem?_cons_zero, List.getElem?_cons_succ, List.getElem?_nil, List.set_cons_zero, List.set_cons_succ, Option.some.injEq, exists_and_left, exists_eq', exists_eq, exists_eq_left', exists_eq_left, true_and, and_true, Bool.not_true, Bool.not_false, reduceCtorEq, ite_true, ite_false, if_true, if_false, String.reduceEq, D.int.injEq, D.bl.injEq, D.tup.injEq, D.rl.injEq, D.wl.injEq, D.obj.injEq, D.str.injEq, forall_const, Option.map_some, List.cons_append, List.nil_append, List.length_cons, List.length_nil]; repeat (with_reducible refine nx_of ?_; simp only [↓B_one, ↓B_cons, ↓B_nil, ↓S_skip, ↓S_set, ↓S_unp, ↓S_par, ↓S_aug, ↓S_sto, ↓S_stg, ↓S_ex, ↓S_ret, ↓S_retn, ↓S_ite, ↓S_for, ↓S_whl, ↓S_brk, ↓S_cnt, ↓S_rais, ↓S_thru, ↓E_var, ↓look_0, ↓look_s, ↓E_ci, ↓E_cb, ↓E_cn, ↓E_cs, ↓E_bin, ↓E_un, ↓E_no, ↓E_an, ↓E_or, ↓E_cmp, ↓E_ch, ↓E_ife, ↓E_tup, ↓E_lst, ↓E_ix, ↓E_sl, ↓E_rev, ↓E_call, ↓E_callk, ↓E_blt, ↓E_mth, ↓E_ixc, ↓E_inc, ↓E_isi, ↓E_lrg, ↓E_lc, ↓E_fld, ↓E_isx, isW, fldW, isxW, N_exc, seq_rt, seq_bk, seq_ct, seq_ex, loop_rt, loop_bk, loop_ex, ret_nx, ret_rt', wpA, wpT, wpAnE, wpOrE, wpAnT, wpOrT, wpC, wpI, binW, addW, mulW, intW, CNo, CPos, CNN, unW, cmpW, eqW, ordW, ixW, B_len, B_int, B_abs, B_min, B_max, B_sum, B_tuple, B_list, lenW, int1W, absW, minW, maxW, sumW, tupleW, listW, augW, M_append, M_pop, ownL, stoW, getW, tgW, setAll, lrgW, partW, isCn, slW, revW, inW, truth, isAny, tyName, kit_NoneType_tuple, kit_NoneType_bool, kit_NoneType_int, kit_NoneType_str, kit_NoneType_list, kit_bool_tuple, kit_bool_bool, kit_bool_int, kit_bool_str, kit_bool_list, kit_int_tuple, kit_int_bool, kit_int_int, kit_int_str, kit_int_list, kit_str_tuple, kit_str_bool, kit_str_int, kit_str_str, kit_str_list, kit_tuple_tuple, kit_tuple_bool, kit_tuple_int, kit_tuple_str, kit_tuple_list, kit_list_tuple, kit_list_bool, kit_list_int, kit_list_str, kit_list_list, N_non, N_bl, N_int, N_str, N_tup, N_rl, N_wl, N_obj, I_tup, I_rl, I_wl, I_obj, LL_rl, LL_obj, O.xs, newL, wipeD, List.getElem?_cons_zero, List.getElem?_cons_succ, List.getElem?_nil, List.set_cons_zero, List.set_cons_succ, Option.some.injEq, exists_and_left, exists_eq', exists_eq, exists_eq_left', exists_eq_left, true_and, and_true, Bool.not_true, Bool.not_false, reduceCtorEq, ite_true, ite_false, if_true, if_false, String.reduceEq, D.int.injEq, D.bl.injEq, D.tup.injEq, D.rl.injEq, D.wl.injEq, D.obj.injEq, D.str.injEq, forall_const, Option.map_some, List.cons_append, List.nil_append, List.length_cons, List.length_nil]))
    exact .here hq
/-! ### odd values -/
def oddL : List D := [.non, .bl true, .bl false, .int 0, .int (-1), .str "0", .str "", .tup [], .tup [.int 0], .tup [.non, .tup [.int 1, .str "a"]], .int 999999, .tup [.tup [.int 0, .int 1], .tup [.int 1, .int 0]], .tup [.bl true, .bl false]]
def Odd (v : D) : Prop := Due 2 v ∧ (∀ M, Told 2 M v) ∧ like 2 v v = true
theorem odd_all : ∀ v ∈ oddL, Odd v := by
  have s1 : SeqAt.shaped (.str "0") = true := by decide +kernel
  have s2 : SeqAt.shaped (.str "") = true := by decide +kernel
  have s3 : SeqAt.shaped (.str "a") = true := by decide +kernel
  intro v hv
  unfold oddL at hv
  simp only [List.mem_cons, List.mem_nil_iff, or_false] at hv
  rcases hv with rfl | rfl | rfl | rfl | rfl | rfl | rfl | rfl | rfl | rfl | rfl | rfl | rfl <;>
    simp [Odd, Due, Told, like, s1, s2, s3, big]
def sp_law_odd : Spec := fun ds M Q _ => ∃ (p : Addr) (bs : List Int), ds = [.obj p] ∧ M p = some (.lst (nums bs)) ∧ ∀ v bs', Odd v → Q v (put M p (.lst (nums bs')))
theorem w_law_odd (g : Γ.call g_law_next = sp_law_next) {ds M Q E} (h : sp_law_odd ds M Q E) : wpB Γ b_law_odd (startD n_law_odd ds) M (Kret Q E) := by
  obtain ⟨p, bs, rfl, hm, hq⟩ := h
  show wpB Γ b_law_odd [some (.obj p), none] M (Kret Q E)
  unfold b_law_odd
  ((try with_reducible refine nx_of ?_); simp only [↓B_one, ↓B_cons, ↓B_nil, ↓S_skip, ↓S_set, ↓S_unp, ↓S_par, ↓S_aug, ↓S_sto, ↓S_stg, ↓S_ex, ↓S_ret, ↓S_retn, ↓S_ite, ↓S_for, ↓S_whl, ↓S_brk, ↓S_cnt, ↓S_rais, ↓S_thru, ↓E_var, ↓look_0, ↓look_s, ↓E_ci, ↓E_cb, ↓E_cn, ↓E_cs, ↓E_bin, ↓E_un, ↓E_no, ↓E_an, ↓E_or, ↓E_cmp, ↓E_ch, ↓E_ife, ↓E_tup, ↓E_lst, ↓E_ix, ↓E_sl, ↓E_rev, ↓E_call, ↓E_callk, ↓E_blt, ↓E_mth, ↓E_ixc, ↓E_inc, ↓E_isi, ↓E_lrg, ↓E_lc, ↓E_fld, ↓E_isx, isW, fldW, isxW, N_exc, seq_rt, seq_bk, seq_ct, seq_ex, loop_rt, loop_bk, loop_ex, ret_nx, ret_rt', wpA, wpT, wpAnE, wpOrE, wpAnT, wpOrT, wpC, wpI, binW, addW, mulW, intW, CNo, CPos, CNN, unW, cmpW, eqW, ordW, ixW, B_len, B_int, B_abs, B_min, B_max, B_sum, B_tuple, B_list, lenW, int1W, absW, minW, maxW, sumW, tupleW, listW, augW, M_append, M_pop, ownL, stoW, getW, tgW, setAll, lrgW, partW, isCn, slW, revW, inW, truth, isAny, tyName, kit_NoneType_tuple, kit_NoneType_bool, kit_NoneType_int, kit_NoneType_str, kit_NoneType_list, kit_bool_tuple, kit_bool_bool, kit_bool_int, kit_bool_str, kit_bool_list, kit_int_tuple, kit_int_bool, kit_int_int, kit_int_str, kit_int_list, kit_str_tuple, kit_str_bool, kit_str_int, kit_str_str, kit_str_list, kit_tuple_tuple, kit_tuple_bool, kit_tuple_int, kit_tuple_str, kit_tuple_list, kit_list_tuple, kit_list_bool, kit_list_int, kit_list_str, kit_list_list, N_non, N_bl, N_int, N_str, N_tup, N_rl, N_wl, N_obj, I_tup, I_rl, I_wl, I_obj, LL_rl, LL_obj, O.xs, newL, wipeD, List.getElem?_cons_zero, List.getElem?_cons_succ, List.getElem?_nil, List.set_cons_zero, List.set_cons_succ, Option.some.injEq, exists_and_left, exists_eq', exists_eq, exists_eq_left', exists_eq_left, true_and, and_true, Bool.not_true, Bool.not_false, reduceCtorEq, ite_true, ite_false, if_true, if_false, String.reduceEq, D.int.injEq, D.bl.injEq, D.tup.injEq, D.rl.injEq, D.wl.injEq, D.obj.injEq, D.str.injEq, forall_const, Option.map_some, List.cons_append, List.nil_append, List.length_cons, List.length_nil]; repeat (with_reducible refine nx_of ?_; simp only [↓B_one, ↓B_cons, ↓B_nil, ↓S_skip, ↓S_set, ↓S_unp, ↓S_par, ↓S_aug, ↓S_sto, ↓S_stg, ↓S_ex, ↓S_ret, ↓S_retn, ↓S_ite, ↓S_for, ↓S_whl, ↓S_brk, ↓S_cnt, ↓S_rais, ↓S_thru, ↓E_var, ↓look_0, ↓look_s, ↓E_ci, ↓E_cb, ↓E_cn, ↓E_cs, ↓E_bin, ↓E_un, ↓E_no, ↓E_an, ↓E_or, ↓E_cmp, ↓E_ch, ↓E_ife, ↓E_tup, ↓E_lst, ↓E_ix, ↓E_sl, ↓E_rev, ↓E_call, ↓E_callk, ↓E_blt, ↓E_mth, ↓E_ixc, ↓E_inc, ↓E_isi, ↓E_lrg, ↓E_lc, ↓E_fld, ↓E_isx, isW, fldW, isxW, N_exc, seq_rt, seq_bk, seq_ct, seq_ex, loop_rt, loop_bk, loop_ex, ret_nx, ret_rt', wpA, wpT, wpAnE, wpOrE, wpAnT, wpOrT, wpC, wpI, binW, addW, mulW, intW, CNo, CPos, CNN, unW, cmpW, eqW, ordW, ixW, B_len, B_int, B_abs, B_min, B_max, B_sum, B_tuple, B_list, lenW, int1W, absW, minW, maxW, sumW, tupleW, listW, augW, M_append, M_pop, ownL, stoW, getW, tgW, setAll, lrgW, partW, isCn, slW, revW, inW, truth, isAny, tyName, kit_NoneType_tuple, kit_NoneType_bool, kit_NoneType_int, kit_NoneType_str, kit_NoneType_list, kit_bool_tuple, kit_bool_bool, kit_bool_int, kit_bool_str, kit_bool_list, kit_int_tuple, kit_int_bool, kit_int_int, kit_int_str, kit_int_list, kit_str_tuple, kit_str_bool, kit_str_int, kit_str_str, kit_str_list, kit_tuple_tuple, kit_tuple_bool, kit_tuple_int, kit_tuple_str, kit_tuple_list, kit_list_tuple, kit_list_bool, kit_list_int, kit_list_str, kit_list_list, N_non, N_bl, N_int, N_str, N_tup, N_rl, N_wl, N_obj, I_tup, I_rl, I_wl, I_obj, LL_rl, LL_obj, O.xs, newL, wipeD, List.getElem?_cons_zero, List.getElem?_cons_succ, List.getElem?_nil, List.set_cons_zero, List.set_cons_succ, Option.some.injEq, exists_and_left, exists_eq', exists_eq, exists_eq_left', exists_eq_left, true_and, and_true, Bool.not_true, Bool.not_false, reduceCtorEq, ite_true, ite_false, if_true, if_false, String.reduceEq, D.int.injEq, D.bl.injEq, D.tup.injEq, D.rl.injEq, D.wl.injEq, D.obj.injEq, D.str.injEq, forall_const, Option.map_some, List.cons_append, List.nil_append, List.length_cons, List.length_nil]))
  refine ⟨by decide, by decide, by decide, by decide, by decide, by decide, by decide, by decide, by decide, ?_⟩
  refine nx_of (μ := [some (.obj p), some (.rl oddL)]) ?_
  ((try with_reducible refine nx_of ?_); simp only [↓B_one, ↓B_cons, ↓B_nil, ↓S_skip, ↓S_set, ↓S_unp, ↓S_par, ↓S_aug, ↓S_sto, ↓S_stg, ↓S_ex, ↓S_ret, ↓S_retn, ↓S_ite, ↓S_for, ↓S_whl, ↓S_brk, ↓S_cnt, ↓S_rais, ↓S_thru, ↓E_var, ↓look_0, ↓look_s, ↓E_ci, ↓E_cb, ↓E_cn, ↓E_cs, ↓E_bin, ↓E_un, ↓E_no, ↓E_an, ↓E_or, ↓E_cmp, ↓E_ch, ↓E_ife, ↓E_tup, ↓E_lst, ↓E_ix, ↓E_sl, ↓E_rev, ↓E_call, ↓E_callk, ↓E_blt, ↓E_mth, ↓E_ixc, ↓E_inc, ↓E_isi, ↓E_lrg, ↓E_lc, ↓E_fld, ↓E_isx, isW, fldW, isxW, N_exc, seq_rt, seq_bk, seq_ct, seq_ex, loop_rt, loop_bk, loop_ex, ret_nx, ret_rt', wpA, wpT, wpAnE, wpOrE, wpAnT, wpOrT, wpC, wpI, binW, addW, mulW, intW, CNo, CPos, CNN, unW, cmpW, eqW, ordW, ixW, B_len, B_int, B_abs, B_min, B_max, B_sum, B_tuple, B_list, lenW, int1W, absW, minW, maxW, sumW, tupleW, listW, augW, M_append, M_pop, ownL, stoW, getW, tgW, setAll, lrgW, partW, isCn, slW, revW, inW, truth, isAny, tyName, kit_NoneType_tuple, kit_NoneType_bool, kit_NoneType_int, kit_NoneType_str, kit_NoneType_list, kit_bool_tuple, kit_bool_bool, kit_bool_int, kit_bool_str, kit_bool_list, kit_int_tuple, kit_int_bool, kit_int_int, kit_int_str, kit_int_list, kit_str_tuple, kit_str_bool, kit_str_int, kit_str_str, kit_str_list, kit_tuple_tuple, kit_tuple_bool, kit_tuple_int, kit_tuple_str, kit_tuple_list, kit_list_tuple, kit_list_bool, kit_list_int, kit_list_str, kit_list_list, N_non, N_bl, N_int, N_str, N_tup, N_rl, N_wl, N_obj, I_tup, I_rl, I_wl, I_obj, LL_rl, LL_obj, O.xs, newL, wipeD, List.getElem?_cons_zero, List.getElem?_cons_succ, List.getElem?_nil, List.set_cons_zero, List.set_cons_succ, Option.some.injEq, exists_and_left, exists_eq', exists_eq, exists_eq_left', exists_eq_left, true_and, and_true, Bool.not_true, Bool.not_false, reduceCtorEq, ite_true, ite_false, if_true, if_false, String.reduceEq, D.int.injEq, D.bl.injEq, D.tup.injEq, D.rl.injEq, D.wl.injEq, D.obj.injEq, D.str.injEq, forall_const, Option.map_some, List.cons_append, List.nil_append, List.length_cons, List.length_nil, g]; repeat (with_reducible refine nx_of ?_; simp only [↓B_one, ↓B_cons, ↓B_nil, ↓S_skip, ↓S_set, ↓S_unp, ↓S_par, ↓S_aug, ↓S_sto, ↓S_stg, ↓S_ex, ↓S_ret, ↓S_retn, ↓S_ite, ↓S_for, ↓S_whl, ↓S_brk, ↓S_cnt, ↓S_rais, ↓S_thru, ↓E_var, ↓look_0, ↓look_s, ↓E_ci, ↓E_cb, ↓E_cn, ↓E_cs, ↓E_bin, ↓E_un, ↓E_no, ↓E_an, ↓E_or, ↓E_cmp, ↓E_ch, ↓E_ife, ↓E_tup, ↓E_lst, ↓E_ix, ↓E_sl, ↓E_rev, ↓E_call, ↓E_callk, ↓E_blt, ↓E_mth, ↓E_ixc, ↓E_inc, ↓E_isi, ↓E_lrg, ↓E_lc, ↓E_fld, ↓E_isx, isW, fldW, isxW, N_exc, seq_rt, seq_bk, seq_ct, seq_ex, loop_rt, loop_bk, loop_ex, ret_nx, ret_rt', wpA, wpT, wpAnE, wpOrE, wpAnT, wpOrT, wpC, wpI, binW, addW, mulW, intW, CNo, CPos, CNN, unW, cmpW, eqW, ordW, ixW, B_len, B_int, B_abs, B_min, B_max, B_sum, B_tuple, B_list, lenW, int1W, absW, minW, maxW, sumW, tupleW, listW, augW, M_append, M_pop, ownL, stoW, getW, tgW, setAll, lrgW, partW, isCn, slW, revW, inW, truth, isAny, tyName, kit_NoneType_tuple, kit_NoneType_bool, kit_NoneType_int, kit_NoneType_str, kit_NoneType_list, kit_bool_tuple, kit_bool_bool, kit_bool_int, kit_bool_str, kit_bool_list, kit_int_tuple, kit_int_bool, kit_int_int, kit_int_str, kit_int_list, kit_str_tuple, kit_str_bool, kit_str_int, kit_str_str, kit_str_list, kit_tuple_tuple, kit_tuple_bool, kit_tuple_int, kit_tuple_str, kit_tuple_list, kit_list_tuple, kit_list_bool, kit_list_int, kit_list_str, kit_list_list, N_non, N_bl, N_int, N_str, N_tup, N_rl, N_wl, N_obj, I_tup, I_rl, I_wl, I_obj, LL_rl, LL_obj, O.xs, newL, wipeD, List.getElem?_cons_zero, List.getElem?_cons_succ, List.getElem?_nil, List.set_cons_zero, List.set_cons_succ, Option.some.injEq, exists_and_left, exists_eq', exists_eq, exists_eq_left', exists_eq_left, true_and, and_true, Bool.not_true, Bool.not_false, reduceCtorEq, ite_true, ite_false, if_true, if_false, String.reduceEq, D.int.injEq, D.bl.injEq, D.tup.injEq, D.rl.injEq, D.wl.injEq, D.obj.injEq, D.str.injEq, forall_const, Option.map_some, List.cons_append, List.nil_append, List.length_cons, List.length_nil, g]))
  refine ⟨p, 13, bs, rfl, by decide, hm, fun r bs' hr => ?_⟩
  have hr2 : r < oddL.length := by show r < 13; omega
  have e : atI oddL (r : Int) = some oddL[r] := atI_nat (List.getElem?_eq_getElem hr2)
  ((try with_reducible refine nx_of ?_); simp only [↓B_one, ↓B_cons, ↓B_nil, ↓S_skip, ↓S_set, ↓S_unp, ↓S_par, ↓S_aug, ↓S_sto, ↓S_stg, ↓S_ex, ↓S_ret, ↓S_retn, ↓S_ite, ↓S_for, ↓S_whl, ↓S_brk, ↓S_cnt, ↓S_rais, ↓S_thru, ↓E_var, ↓look_0, ↓look_s, ↓E_ci, ↓E_cb, ↓E_cn, ↓E_cs, ↓E_bin, ↓E_un, ↓E_no, ↓E_an, ↓E_or, ↓E_cmp, ↓E_ch, ↓E_ife, ↓E_tup, ↓E_lst, ↓E_ix, ↓E_sl, ↓E_rev, ↓E_call, ↓E_callk, ↓E_blt, ↓E_mth, ↓E_ixc, ↓E_inc, ↓E_isi, ↓E_lrg, ↓E_lc, ↓E_fld, ↓E_isx, isW, fldW, isxW, N_exc, seq_rt, seq_bk, seq_ct, seq_ex, loop_rt, loop_bk, loop_ex, ret_nx, ret_rt', wpA, wpT, wpAnE, wpOrE, wpAnT, wpOrT, wpC, wpI, binW, addW, mulW, intW, CNo, CPos, CNN, unW, cmpW, eqW, ordW, ixW, B_len, B_int, B_abs, B_min, B_max, B_sum, B_tuple, B_list, lenW, int1W, absW, minW, maxW, sumW, tupleW, listW, augW, M_append, M_pop, ownL, stoW, getW, tgW, setAll, lrgW, partW, isCn, slW, revW, inW, truth, isAny, tyName, kit_NoneType_tuple, kit_NoneType_bool, kit_NoneType_int, kit_NoneType_str, kit_NoneType_list, kit_bool_tuple, kit_bool_bool, kit_bool_int, kit_bool_str, kit_bool_list, kit_int_tuple, kit_int_bool, kit_int_int, kit_int_str, kit_int_list, kit_str_tuple, kit_str_bool, kit_str_int, kit_str_str, kit_str_list, kit_tuple_tuple, kit_tuple_bool, kit_tuple_int, kit_tuple_str, kit_tuple_list, kit_list_tuple, kit_list_bool, kit_list_int, kit_list_str, kit_list_list, N_non, N_bl, N_int, N_str, N_tup, N_rl, N_wl, N_obj, I_tup, I_rl, I_wl, I_obj, LL_rl, LL_obj, O.xs, newL, wipeD, List.getElem?_cons_zero, List.getElem?_cons_succ, List.getElem?_nil, List.set_cons_zero, List.set_cons_succ, Option.some.injEq, exists_and_left, exists_eq', exists_eq, exists_eq_left', exists_eq_left, true_and, and_true, Bool.not_true, Bool.not_false, reduceCtorEq, ite_true, ite_false, if_true, if_false, String.reduceEq, D.int.injEq, D.bl.injEq, D.tup.injEq, D.rl.injEq, D.wl.injEq, D.obj.injEq, D.str.injEq, forall_const, Option.map_some, List.cons_append, List.nil_append, List.length_cons, List.length_nil, e]; repeat (with_reducible refine nx_of ?_; simp only [↓B_one, ↓B_cons, ↓B_nil, ↓S_skip, ↓S_set, ↓S_unp, ↓S_par, ↓S_aug, ↓S_sto, ↓S_stg, ↓S_ex, ↓S_ret, ↓S_retn, ↓S_ite, ↓S_for, ↓S_whl, ↓S_brk, ↓S_cnt, ↓S_rais, ↓S_thru, ↓E_var, ↓look_0, ↓look_s, ↓E_ci, ↓E_cb, ↓E_cn, ↓E_cs, ↓E_bin, ↓E_un, ↓E_no, ↓E_an, ↓E_or, ↓E_cmp, ↓E_ch, ↓E_ife, ↓E_tup, ↓E_lst, ↓E_ix, ↓E_sl, ↓E_rev, ↓E_call, ↓E_callk, ↓E_blt, ↓E_mth, ↓E_ixc, ↓E_inc, ↓E_isi, ↓E_lrg, ↓E_lc, ↓E_fld, ↓E_isx, isW, fldW, isxW, N_exc, seq_rt, seq_bk, seq_ct, seq_ex, loop_rt, loop_bk, loop_ex, ret_nx, ret_rt', wpA, wpT, wpAnE, wpOrE, wpAnT, wpOrT, wpC, wpI, binW, addW, mulW, intW, CNo, CPos, CNN, unW, cmpW, eqW, ordW, ixW, B_len, B_int, B_abs, B_min, B_max, B_sum, B_tuple, B_list, lenW, int1W, absW, minW, maxW, sumW, tupleW, listW, augW, M_append, M_pop, ownL, stoW, getW, tgW, setAll, lrgW, partW, isCn, slW, revW, inW, truth, isAny, tyName, kit_NoneType_tuple, kit_NoneType_bool, kit_NoneType_int, kit_NoneType_str, kit_NoneType_list, kit_bool_tuple, kit_bool_bool, kit_bool_int, kit_bool_str, kit_bool_list, kit_int_tuple, kit_int_bool, kit_int_int, kit_int_str, kit_int_list, kit_str_tuple, kit_str_bool, kit_str_int, kit_str_str, kit_str_list, kit_tuple_tuple, kit_tuple_bool, kit_tuple_int, kit_tuple_str, kit_tuple_list, kit_list_tuple, kit_list_bool, kit_list_int, kit_list_str, kit_list_list, N_non, N_bl, N_int, N_str, N_tup, N_rl, N_wl, N_obj, I_tup, I_rl, I_wl, I_obj, LL_rl, LL_obj, O.xs, newL, wipeD, List.getElem?_cons_zero, List.getElem?_cons_succ, List.getElem?_nil, List.set_cons_zero, List.set_cons_succ, Option.some.injEq, exists_and_left, exists_eq', exists_eq, exists_eq_left', exists_eq_left, true_and, and_true, Bool.not_true, Bool.not_false, reduceCtorEq, ite_true, ite_false, if_true, if_false, String.reduceEq, D.int.injEq, D.bl.injEq, D.tup.injEq, D.rl.injEq, D.wl.injEq, D.obj.injEq, D.str.injEq, forall_const, Option.map_some, List.cons_append, List.nil_append, List.length_cons, List.length_nil, e]))
  exact .here (hq _ bs' (odd_all _ (List.getElem_mem hr2)))
/-! ### the others -/
theorem pick_str {L : List D} (h : ∀ d ∈ L, ∃ x, d = .str x ∧ SeqAt.shaped (.str x) = true) {r : Nat} (hr : r < L.length) : ∃ x, atI L (r : Int) = some (.str x) ∧ SeqAt.shaped (.str x) = true := by
  obtain ⟨x, e, hs⟩ := h _ (List.getElem_mem hr)
  exact ⟨x, by rw [atI_nat (List.getElem?_eq_getElem hr), e], hs⟩
theorem words1 : ∀ d ∈ [D.str "book", .str "cells", .str "ties"], ∃ x, d = .str x ∧ SeqAt.shaped (.str x) = true := by
  have s1 : SeqAt.shaped (.str "book") = true := by decide +kernel
  have s2 : SeqAt.shaped (.str "cells") = true := by decide +kernel
  have s3 : SeqAt.shaped (.str "ties") = true := by decide +kernel
  intro d hd
  simp only [List.mem_cons, List.mem_nil_iff, or_false] at hd
  rcases hd with rfl | rfl | rfl <;> exact ⟨_, rfl, by assumption⟩
theorem words2 : ∀ d ∈ [D.str "", .str "price", .str "tie 0"], ∃ x, d = .str x ∧ SeqAt.shaped (.str x) = true := by
  have s1 : SeqAt.shaped (.str "") = true := by decide +kernel
  have s2 : SeqAt.shaped (.str "price") = true := by decide +kernel
  have s3 : SeqAt.shaped (.str "tie 0") = true := by decide +kernel
  intro d hd
  simp only [List.mem_cons, List.mem_nil_iff, or_false] at hd
  rcases hd with rfl | rfl | rfl <;> exact ⟨_, rfl, by assumption⟩
theorem words3 : ∀ d ∈ [D.str "bent", .str "things", .str "rank", .str "even", .str "kind"], ∃ x, d = .str x ∧ SeqAt.shaped (.str x) = true := by
  have s1 : SeqAt.shaped (.str "bent") = true := by decide +kernel
  have s2 : SeqAt.shaped (.str "things") = true := by decide +kernel
  have s3 : SeqAt.shaped (.str "rank") = true := by decide +kernel
  have s4 : SeqAt.shaped (.str "even") = true := by decide +kernel
  have s5 : SeqAt.shaped (.str "kind") = true := by decide +kernel
  intro d hd
  simp only [List.mem_cons, List.mem_nil_iff, or_false] at hd
  rcases hd with rfl | rfl | rfl | rfl | rfl <;> exact ⟨_, rfl, by assumption⟩
theorem words4 : ∀ d ∈ [D.str "undo", .str "redo"], ∃ x, d = .str x ∧ SeqAt.shaped (.str x) = true := by
  have s1 : SeqAt.shaped (.str "undo") = true := by decide +kernel
  have s2 : SeqAt.shaped (.str "redo") = true := by decide +kernel
  intro d hd
  simp only [List.mem_cons, List.mem_nil_iff, or_false] at hd
  rcases hd with rfl | rfl <;> exact ⟨_, rfl, by assumption⟩
def sp_law_others : Spec := fun ds M Q _ => ∃ (p : Addr) (bs : List Int), ds = [.obj p] ∧ M p = some (.lst (nums bs)) ∧ ∀ bs', Q (.bl true) (put M p (.lst (nums bs')))
theorem w_law_others (m : Makes Γ cA) (g1 : Γ.call g_law_next = sp_law_next) (g2 : Γ.call g_law_kinds = sp_law_kinds cA) (g3 : Γ.call g_law_like = sp_like 2) {ds M Q E} (h : sp_law_others ds M Q E) : wpB Γ b_law_others (startD n_law_others ds) M (Kret Q E) := by
  obtain ⟨p, bs, rfl, hm, hq⟩ := h
  show wpB Γ b_law_others [some (.obj p), none, none, none, none, none, none, none, none, none, none] M (Kret Q E)
  unfold b_law_others
  ((try with_reducible refine nx_of ?_); simp only [↓B_one, ↓B_cons, ↓B_nil, ↓S_skip, ↓S_set, ↓S_unp, ↓S_par, ↓S_aug, ↓S_sto, ↓S_stg, ↓S_ex, ↓S_ret, ↓S_retn, ↓S_ite, ↓S_for, ↓S_whl, ↓S_brk, ↓S_cnt, ↓S_rais, ↓S_thru, ↓E_var, ↓look_0, ↓look_s, ↓E_ci, ↓E_cb, ↓E_cn, ↓E_cs, ↓E_bin, ↓E_un, ↓E_no, ↓E_an, ↓E_or, ↓E_cmp, ↓E_ch, ↓E_ife, ↓E_tup, ↓E_lst, ↓E_ix, ↓E_sl, ↓E_rev, ↓E_call, ↓E_callk, ↓E_blt, ↓E_mth, ↓E_ixc, ↓E_inc, ↓E_isi, ↓E_lrg, ↓E_lc, ↓E_fld, ↓E_isx, isW, fldW, isxW, N_exc, seq_rt, seq_bk, seq_ct, seq_ex, loop_rt, loop_bk, loop_ex, ret_nx, ret_rt', wpA, wpT, wpAnE, wpOrE, wpAnT, wpOrT, wpC, wpI, binW, addW, mulW, intW, CNo, CPos, CNN, unW, cmpW, eqW, ordW, ixW, B_len, B_int, B_abs, B_min, B_max, B_sum, B_tuple, B_list, lenW, int1W, absW, minW, maxW, sumW, tupleW, listW, augW, M_append, M_pop, ownL, stoW, getW, tgW, setAll, lrgW, partW, isCn, slW, revW, inW, truth, isAny, tyName, kit_NoneType_tuple, kit_NoneType_bool, kit_NoneType_int, kit_NoneType_str, kit_NoneType_list, kit_bool_tuple, kit_bool_bool, kit_bool_int, kit_bool_str, kit_bool_list, kit_int_tuple, kit_int_bool, kit_int_int, kit_int_str, kit_int_list, kit_str_tuple, kit_str_bool, kit_str_int, kit_str_str, kit_str_list, kit_tuple_tuple, kit_tuple_bool, kit_tuple_int, kit_tuple_str, kit_tuple_list, kit_list_tuple, kit_list_bool, kit_list_int, kit_list_str, kit_list_list, N_non, N_bl, N_int, N_str, N_tup, N_rl, N_wl, N_obj, I_tup, I_rl, I_wl, I_obj, LL_rl, LL_obj, O.xs, newL, wipeD, List.getElem?_cons_zero, List.getElem?_cons_succ, List.getElem?_nil, List.set_cons_zero, List.set_cons_succ, Option.some.injEq, exists_and_left, exists_eq', exists_eq, exists_eq_left', exists_eq_left, true_and, and_true, Bool.not_true, Bool.not_false, reduceCtorEq, ite_true, ite_false, if_true, if_false, String.reduceEq, D.int.injEq, D.bl.injEq, D.tup.injEq, D.rl.injEq, D.wl.injEq, D.obj.injEq, D.str.injEq, forall_const, Option.map_some, List.cons_append, List.nil_append, List.length_cons, List.length_nil, g1]; repeat (with_reducible refine nx_of ?_; simp only [↓B_one, ↓B_cons, ↓B_nil, ↓S_skip, ↓S_set, ↓S_unp, ↓S_par, ↓S_aug, ↓S_sto, ↓S_stg, ↓S_ex, ↓S_ret, ↓S_retn, ↓S_ite, ↓S_for, ↓S_whl, ↓S_brk, ↓S_cnt, ↓S_rais, ↓S_thru, ↓E_var, ↓look_0, ↓look_s, ↓E_ci, ↓E_cb, ↓E_cn, ↓E_cs, ↓E_bin, ↓E_un, ↓E_no, ↓E_an, ↓E_or, ↓E_cmp, ↓E_ch, ↓E_ife, ↓E_tup, ↓E_lst, ↓E_ix, ↓E_sl, ↓E_rev, ↓E_call, ↓E_callk, ↓E_blt, ↓E_mth, ↓E_ixc, ↓E_inc, ↓E_isi, ↓E_lrg, ↓E_lc, ↓E_fld, ↓E_isx, isW, fldW, isxW, N_exc, seq_rt, seq_bk, seq_ct, seq_ex, loop_rt, loop_bk, loop_ex, ret_nx, ret_rt', wpA, wpT, wpAnE, wpOrE, wpAnT, wpOrT, wpC, wpI, binW, addW, mulW, intW, CNo, CPos, CNN, unW, cmpW, eqW, ordW, ixW, B_len, B_int, B_abs, B_min, B_max, B_sum, B_tuple, B_list, lenW, int1W, absW, minW, maxW, sumW, tupleW, listW, augW, M_append, M_pop, ownL, stoW, getW, tgW, setAll, lrgW, partW, isCn, slW, revW, inW, truth, isAny, tyName, kit_NoneType_tuple, kit_NoneType_bool, kit_NoneType_int, kit_NoneType_str, kit_NoneType_list, kit_bool_tuple, kit_bool_bool, kit_bool_int, kit_bool_str, kit_bool_list, kit_int_tuple, kit_int_bool, kit_int_int, kit_int_str, kit_int_list, kit_str_tuple, kit_str_bool, kit_str_int, kit_str_str, kit_str_list, kit_tuple_tuple, kit_tuple_bool, kit_tuple_int, kit_tuple_str, kit_tuple_list, kit_list_tuple, kit_list_bool, kit_list_int, kit_list_str, kit_list_list, N_non, N_bl, N_int, N_str, N_tup, N_rl, N_wl, N_obj, I_tup, I_rl, I_wl, I_obj, LL_rl, LL_obj, O.xs, newL, wipeD, List.getElem?_cons_zero, List.getElem?_cons_succ, List.getElem?_nil, List.set_cons_zero, List.set_cons_succ, Option.some.injEq, exists_and_left, exists_eq', exists_eq, exists_eq_left', exists_eq_left, true_and, and_true, Bool.not_true, Bool.not_false, reduceCtorEq, ite_true, ite_false, if_true, if_false, String.reduceEq, D.int.injEq, D.bl.injEq, D.tup.injEq, D.rl.injEq, D.wl.injEq, D.obj.injEq, D.str.injEq, forall_const, Option.map_some, List.cons_append, List.nil_append, List.length_cons, List.length_nil, g1]))
  refine ⟨by decide, p, 3, bs, rfl, by decide, hm, fun r1 bs1 hr1 => ?_⟩
  obtain ⟨x1, e1, s1⟩ := pick_str words1 (r := r1) (by show r1 < 3; omega)
  ((try with_reducible refine nx_of ?_); simp only [↓B_one, ↓B_cons, ↓B_nil, ↓S_skip, ↓S_set, ↓S_unp, ↓S_par, ↓S_aug, ↓S_sto, ↓S_stg, ↓S_ex, ↓S_ret, ↓S_retn, ↓S_ite, ↓S_for, ↓S_whl, ↓S_brk, ↓S_cnt, ↓S_rais, ↓S_thru, ↓E_var, ↓look_0, ↓look_s, ↓E_ci, ↓E_cb, ↓E_cn, ↓E_cs, ↓E_bin, ↓E_un, ↓E_no, ↓E_an, ↓E_or, ↓E_cmp, ↓E_ch, ↓E_ife, ↓E_tup, ↓E_lst, ↓E_ix, ↓E_sl, ↓E_rev, ↓E_call, ↓E_callk, ↓E_blt, ↓E_mth, ↓E_ixc, ↓E_inc, ↓E_isi, ↓E_lrg, ↓E_lc, ↓E_fld, ↓E_isx, isW, fldW, isxW, N_exc, seq_rt, seq_bk, seq_ct, seq_ex, loop_rt, loop_bk, loop_ex, ret_nx, ret_rt', wpA, wpT, wpAnE, wpOrE, wpAnT, wpOrT, wpC, wpI, binW, addW, mulW, intW, CNo, CPos, CNN, unW, cmpW, eqW, ordW, ixW, B_len, B_int, B_abs, B_min, B_max, B_sum, B_tuple, B_list, lenW, int1W, absW, minW, maxW, sumW, tupleW, listW, augW, M_append, M_pop, ownL, stoW, getW, tgW, setAll, lrgW, partW, isCn, slW, revW, inW, truth, isAny, tyName, kit_NoneType_tuple, kit_NoneType_bool, kit_NoneType_int, kit_NoneType_str, kit_NoneType_list, kit_bool_tuple, kit_bool_bool, kit_bool_int, kit_bool_str, kit_bool_list, kit_int_tuple, kit_int_bool, kit_int_int, kit_int_str, kit_int_list, kit_str_tuple, kit_str_bool, kit_str_int, kit_str_str, kit_str_list, kit_tuple_tuple, kit_tuple_bool, kit_tuple_int, kit_tuple_str, kit_tuple_list, kit_list_tuple, kit_list_bool, kit_list_int, kit_list_str, kit_list_list, N_non, N_bl, N_int, N_str, N_tup, N_rl, N_wl, N_obj, I_tup, I_rl, I_wl, I_obj, LL_rl, LL_obj, O.xs, newL, wipeD, List.getElem?_cons_zero, List.getElem?_cons_succ, List.getElem?_nil, List.set_cons_zero, List.set_cons_succ, Option.some.injEq, exists_and_left, exists_eq', exists_eq, exists_eq_left', exists_eq_left, true_and, and_true, Bool.not_true, Bool.not_false, reduceCtorEq, ite_true, ite_false, if_true, if_false, String.reduceEq, D.int.injEq, D.bl.injEq, D.tup.injEq, D.rl.injEq, D.wl.injEq, D.obj.injEq, D.str.injEq, forall_const, Option.map_some, List.cons_append, List.nil_append, List.length_cons, List.length_nil, e1, g1]; repeat (with_reducible refine nx_of ?_; simp only [↓B_one, ↓B_cons, ↓B_nil, ↓S_skip, ↓S_set, ↓S_unp, ↓S_par, ↓S_aug, ↓S_sto, ↓S_stg, ↓S_ex, ↓S_ret, ↓S_retn, ↓S_ite, ↓S_for, ↓S_whl, ↓S_brk, ↓S_cnt, ↓S_rais, ↓S_thru, ↓E_var, ↓look_0, ↓look_s, ↓E_ci, ↓E_cb, ↓E_cn, ↓E_cs, ↓E_bin, ↓E_un, ↓E_no, ↓E_an, ↓E_or, ↓E_cmp, ↓E_ch, ↓E_ife, ↓E_tup, ↓E_lst, ↓E_ix, ↓E_sl, ↓E_rev, ↓E_call, ↓E_callk, ↓E_blt, ↓E_mth, ↓E_ixc, ↓E_inc, ↓E_isi, ↓E_lrg, ↓E_lc, ↓E_fld, ↓E_isx, isW, fldW, isxW, N_exc, seq_rt, seq_bk, seq_ct, seq_ex, loop_rt, loop_bk, loop_ex, ret_nx, ret_rt', wpA, wpT, wpAnE, wpOrE, wpAnT, wpOrT, wpC, wpI, binW, addW, mulW, intW, CNo, CPos, CNN, unW, cmpW, eqW, ordW, ixW, B_len, B_int, B_abs, B_min, B_max, B_sum, B_tuple, B_list, lenW, int1W, absW, minW, maxW, sumW, tupleW, listW, augW, M_append, M_pop, ownL, stoW, getW, tgW, setAll, lrgW, partW, isCn, slW, revW, inW, truth, isAny, tyName, kit_NoneType_tuple, kit_NoneType_bool, kit_NoneType_int, kit_NoneType_str, kit_NoneType_list, kit_bool_tuple, kit_bool_bool, kit_bool_int, kit_bool_str, kit_bool_list, kit_int_tuple, kit_int_bool, kit_int_int, kit_int_str, kit_int_list, kit_str_tuple, kit_str_bool, kit_str_int, kit_str_str, kit_str_list, kit_tuple_tuple, kit_tuple_bool, kit_tuple_int, kit_tuple_str, kit_tuple_list, kit_list_tuple, kit_list_bool, kit_list_int, kit_list_str, kit_list_list, N_non, N_bl, N_int, N_str, N_tup, N_rl, N_wl, N_obj, I_tup, I_rl, I_wl, I_obj, LL_rl, LL_obj, O.xs, newL, wipeD, List.getElem?_cons_zero, List.getElem?_cons_succ, List.getElem?_nil, List.set_cons_zero, List.set_cons_succ, Option.some.injEq, exists_and_left, exists_eq', exists_eq, exists_eq_left', exists_eq_left, true_and, and_true, Bool.not_true, Bool.not_false, reduceCtorEq, ite_true, ite_false, if_true, if_false, String.reduceEq, D.int.injEq, D.bl.injEq, D.tup.injEq, D.rl.injEq, D.wl.injEq, D.obj.injEq, D.str.injEq, forall_const, Option.map_some, List.cons_append, List.nil_append, List.length_cons, List.length_nil, e1, g1]))
  refine ⟨p, 100, bs1, rfl, by decide, put_same, fun r2 bs2 hr2 => ?_⟩
  rw [put_put]
  ((try with_reducible refine nx_of ?_); simp only [↓B_one, ↓B_cons, ↓B_nil, ↓S_skip, ↓S_set, ↓S_unp, ↓S_par, ↓S_aug, ↓S_sto, ↓S_stg, ↓S_ex, ↓S_ret, ↓S_retn, ↓S_ite, ↓S_for, ↓S_whl, ↓S_brk, ↓S_cnt, ↓S_rais, ↓S_thru, ↓E_var, ↓look_0, ↓look_s, ↓E_ci, ↓E_cb, ↓E_cn, ↓E_cs, ↓E_bin, ↓E_un, ↓E_no, ↓E_an, ↓E_or, ↓E_cmp, ↓E_ch, ↓E_ife, ↓E_tup, ↓E_lst, ↓E_ix, ↓E_sl, ↓E_rev, ↓E_call, ↓E_callk, ↓E_blt, ↓E_mth, ↓E_ixc, ↓E_inc, ↓E_isi, ↓E_lrg, ↓E_lc, ↓E_fld, ↓E_isx, isW, fldW, isxW, N_exc, seq_rt, seq_bk, seq_ct, seq_ex, loop_rt, loop_bk, loop_ex, ret_nx, ret_rt', wpA, wpT, wpAnE, wpOrE, wpAnT, wpOrT, wpC, wpI, binW, addW, mulW, intW, CNo, CPos, CNN, unW, cmpW, eqW, ordW, ixW, B_len, B_int, B_abs, B_min, B_max, B_sum, B_tuple, B_list, lenW, int1W, absW, minW, maxW, sumW, tupleW, listW, augW, M_append, M_pop, ownL, stoW, getW, tgW, setAll, lrgW, partW, isCn, slW, revW, inW, truth, isAny, tyName, kit_NoneType_tuple, kit_NoneType_bool, kit_NoneType_int, kit_NoneType_str, kit_NoneType_list, kit_bool_tuple, kit_bool_bool, kit_bool_int, kit_bool_str, kit_bool_list, kit_int_tuple, kit_int_bool, kit_int_int, kit_int_str, kit_int_list, kit_str_tuple, kit_str_bool, kit_str_int, kit_str_str, kit_str_list, kit_tuple_tuple, kit_tuple_bool, kit_tuple_int, kit_tuple_str, kit_tuple_list, kit_list_tuple, kit_list_bool, kit_list_int, kit_list_str, kit_list_list, N_non, N_bl, N_int, N_str, N_tup, N_rl, N_wl, N_obj, I_tup, I_rl, I_wl, I_obj, LL_rl, LL_obj, O.xs, newL, wipeD, List.getElem?_cons_zero, List.getElem?_cons_succ, List.getElem?_nil, List.set_cons_zero, List.set_cons_succ, Option.some.injEq, exists_and_left, exists_eq', exists_eq, exists_eq_left', exists_eq_left, true_and, and_true, Bool.not_true, Bool.not_false, reduceCtorEq, ite_true, ite_false, if_true, if_false, String.reduceEq, D.int.injEq, D.bl.injEq, D.tup.injEq, D.rl.injEq, D.wl.injEq, D.obj.injEq, D.str.injEq, forall_const, Option.map_some, List.cons_append, List.nil_append, List.length_cons, List.length_nil, g1]; repeat (with_reducible refine nx_of ?_; simp only [↓B_one, ↓B_cons, ↓B_nil, ↓S_skip, ↓S_set, ↓S_unp, ↓S_par, ↓S_aug, ↓S_sto, ↓S_stg, ↓S_ex, ↓S_ret, ↓S_retn, ↓S_ite, ↓S_for, ↓S_whl, ↓S_brk, ↓S_cnt, ↓S_rais, ↓S_thru, ↓E_var, ↓look_0, ↓look_s, ↓E_ci, ↓E_cb, ↓E_cn, ↓E_cs, ↓E_bin, ↓E_un, ↓E_no, ↓E_an, ↓E_or, ↓E_cmp, ↓E_ch, ↓E_ife, ↓E_tup, ↓E_lst, ↓E_ix, ↓E_sl, ↓E_rev, ↓E_call, ↓E_callk, ↓E_blt, ↓E_mth, ↓E_ixc, ↓E_inc, ↓E_isi, ↓E_lrg, ↓E_lc, ↓E_fld, ↓E_isx, isW, fldW, isxW, N_exc, seq_rt, seq_bk, seq_ct, seq_ex, loop_rt, loop_bk, loop_ex, ret_nx, ret_rt', wpA, wpT, wpAnE, wpOrE, wpAnT, wpOrT, wpC, wpI, binW, addW, mulW, intW, CNo, CPos, CNN, unW, cmpW, eqW, ordW, ixW, B_len, B_int, B_abs, B_min, B_max, B_sum, B_tuple, B_list, lenW, int1W, absW, minW, maxW, sumW, tupleW, listW, augW, M_append, M_pop, ownL, stoW, getW, tgW, setAll, lrgW, partW, isCn, slW, revW, inW, truth, isAny, tyName, kit_NoneType_tuple, kit_NoneType_bool, kit_NoneType_int, kit_NoneType_str, kit_NoneType_list, kit_bool_tuple, kit_bool_bool, kit_bool_int, kit_bool_str, kit_bool_list, kit_int_tuple, kit_int_bool, kit_int_int, kit_int_str, kit_int_list, kit_str_tuple, kit_str_bool, kit_str_int, kit_str_str, kit_str_list, kit_tuple_tuple, kit_tuple_bool, kit_tuple_int, kit_tuple_str, kit_tuple_list, kit_list_tuple, kit_list_bool, kit_list_int, kit_list_str, kit_list_list, N_non, N_bl, N_int, N_str, N_tup, N_rl, N_wl, N_obj, I_tup, I_rl, I_wl, I_obj, LL_rl, LL_obj, O.xs, newL, wipeD, List.getElem?_cons_zero, List.getElem?_cons_succ, List.getElem?_nil, List.set_cons_zero, List.set_cons_succ, Option.some.injEq, exists_and_left, exists_eq', exists_eq, exists_eq_left', exists_eq_left, true_and, and_true, Bool.not_true, Bool.not_false, reduceCtorEq, ite_true, ite_false, if_true, if_false, String.reduceEq, D.int.injEq, D.bl.injEq, D.tup.injEq, D.rl.injEq, D.wl.injEq, D.obj.injEq, D.str.injEq, forall_const, Option.map_some, List.cons_append, List.nil_append, List.length_cons, List.length_nil, g1]))
  refine ⟨by decide, p, 3, bs2, rfl, by decide, put_same, fun r3 bs3 hr3 => ?_⟩
  rw [put_put]
  obtain ⟨x3, e3, s3⟩ := pick_str words2 (r := r3) (by show r3 < 3; omega)
  ((try with_reducible refine nx_of ?_); simp only [↓B_one, ↓B_cons, ↓B_nil, ↓S_skip, ↓S_set, ↓S_unp, ↓S_par, ↓S_aug, ↓S_sto, ↓S_stg, ↓S_ex, ↓S_ret, ↓S_retn, ↓S_ite, ↓S_for, ↓S_whl, ↓S_brk, ↓S_cnt, ↓S_rais, ↓S_thru, ↓E_var, ↓look_0, ↓look_s, ↓E_ci, ↓E_cb, ↓E_cn, ↓E_cs, ↓E_bin, ↓E_un, ↓E_no, ↓E_an, ↓E_or, ↓E_cmp, ↓E_ch, ↓E_ife, ↓E_tup, ↓E_lst, ↓E_ix, ↓E_sl, ↓E_rev, ↓E_call, ↓E_callk, ↓E_blt, ↓E_mth, ↓E_ixc, ↓E_inc, ↓E_isi, ↓E_lrg, ↓E_lc, ↓E_fld, ↓E_isx, isW, fldW, isxW, N_exc, seq_rt, seq_bk, seq_ct, seq_ex, loop_rt, loop_bk, loop_ex, ret_nx, ret_rt', wpA, wpT, wpAnE, wpOrE, wpAnT, wpOrT, wpC, wpI, binW, addW, mulW, intW, CNo, CPos, CNN, unW, cmpW, eqW, ordW, ixW, B_len, B_int, B_abs, B_min, B_max, B_sum, B_tuple, B_list, lenW, int1W, absW, minW, maxW, sumW, tupleW, listW, augW, M_append, M_pop, ownL, stoW, getW, tgW, setAll, lrgW, partW, isCn, slW, revW, inW, truth, isAny, tyName, kit_NoneType_tuple, kit_NoneType_bool, kit_NoneType_int, kit_NoneType_str, kit_NoneType_list, kit_bool_tuple, kit_bool_bool, kit_bool_int, kit_bool_str, kit_bool_list, kit_int_tuple, kit_int_bool, kit_int_int, kit_int_str, kit_int_list, kit_str_tuple, kit_str_bool, kit_str_int, kit_str_str, kit_str_list, kit_tuple_tuple, kit_tuple_bool, kit_tuple_int, kit_tuple_str, kit_tuple_list, kit_list_tuple, kit_list_bool, kit_list_int, kit_list_str, kit_list_list, N_non, N_bl, N_int, N_str, N_tup, N_rl, N_wl, N_obj, I_tup, I_rl, I_wl, I_obj, LL_rl, LL_obj, O.xs, newL, wipeD, List.getElem?_cons_zero, List.getElem?_cons_succ, List.getElem?_nil, List.set_cons_zero, List.set_cons_succ, Option.some.injEq, exists_and_left, exists_eq', exists_eq, exists_eq_left', exists_eq_left, true_and, and_true, Bool.not_true, Bool.not_false, reduceCtorEq, ite_true, ite_false, if_true, if_false, String.reduceEq, D.int.injEq, D.bl.injEq, D.tup.injEq, D.rl.injEq, D.wl.injEq, D.obj.injEq, D.str.injEq, forall_const, Option.map_some, List.cons_append, List.nil_append, List.length_cons, List.length_nil, e3, g1]; repeat (with_reducible refine nx_of ?_; simp only [↓B_one, ↓B_cons, ↓B_nil, ↓S_skip, ↓S_set, ↓S_unp, ↓S_par, ↓S_aug, ↓S_sto, ↓S_stg, ↓S_ex, ↓S_ret, ↓S_retn, ↓S_ite, ↓S_for, ↓S_whl, ↓S_brk, ↓S_cnt, ↓S_rais, ↓S_thru, ↓E_var, ↓look_0, ↓look_s, ↓E_ci, ↓E_cb, ↓E_cn, ↓E_cs, ↓E_bin, ↓E_un, ↓E_no, ↓E_an, ↓E_or, ↓E_cmp, ↓E_ch, ↓E_ife, ↓E_tup, ↓E_lst, ↓E_ix, ↓E_sl, ↓E_rev, ↓E_call, ↓E_callk, ↓E_blt, ↓E_mth, ↓E_ixc, ↓E_inc, ↓E_isi, ↓E_lrg, ↓E_lc, ↓E_fld, ↓E_isx, isW, fldW, isxW, N_exc, seq_rt, seq_bk, seq_ct, seq_ex, loop_rt, loop_bk, loop_ex, ret_nx, ret_rt', wpA, wpT, wpAnE, wpOrE, wpAnT, wpOrT, wpC, wpI, binW, addW, mulW, intW, CNo, CPos, CNN, unW, cmpW, eqW, ordW, ixW, B_len, B_int, B_abs, B_min, B_max, B_sum, B_tuple, B_list, lenW, int1W, absW, minW, maxW, sumW, tupleW, listW, augW, M_append, M_pop, ownL, stoW, getW, tgW, setAll, lrgW, partW, isCn, slW, revW, inW, truth, isAny, tyName, kit_NoneType_tuple, kit_NoneType_bool, kit_NoneType_int, kit_NoneType_str, kit_NoneType_list, kit_bool_tuple, kit_bool_bool, kit_bool_int, kit_bool_str, kit_bool_list, kit_int_tuple, kit_int_bool, kit_int_int, kit_int_str, kit_int_list, kit_str_tuple, kit_str_bool, kit_str_int, kit_str_str, kit_str_list, kit_tuple_tuple, kit_tuple_bool, kit_tuple_int, kit_tuple_str, kit_tuple_list, kit_list_tuple, kit_list_bool, kit_list_int, kit_list_str, kit_list_list, N_non, N_bl, N_int, N_str, N_tup, N_rl, N_wl, N_obj, I_tup, I_rl, I_wl, I_obj, LL_rl, LL_obj, O.xs, newL, wipeD, List.getElem?_cons_zero, List.getElem?_cons_succ, List.getElem?_nil, List.set_cons_zero, List.set_cons_succ, Option.some.injEq, exists_and_left, exists_eq', exists_eq, exists_eq_left', exists_eq_left, true_and, and_true, Bool.not_true, Bool.not_false, reduceCtorEq, ite_true, ite_false, if_true, if_false, String.reduceEq, D.int.injEq, D.bl.injEq, D.tup.injEq, D.rl.injEq, D.wl.injEq, D.obj.injEq, D.str.injEq, forall_const, Option.map_some, List.cons_append, List.nil_append, List.length_cons, List.length_nil, e3, g1]))
  refine ⟨p, 9, bs3, rfl, by decide, put_same, fun r4 bs4 hr4 => ?_⟩
  rw [put_put]
  ((try with_reducible refine nx_of ?_); simp only [↓B_one, ↓B_cons, ↓B_nil, ↓S_skip, ↓S_set, ↓S_unp, ↓S_par, ↓S_aug, ↓S_sto, ↓S_stg, ↓S_ex, ↓S_ret, ↓S_retn, ↓S_ite, ↓S_for, ↓S_whl, ↓S_brk, ↓S_cnt, ↓S_rais, ↓S_thru, ↓E_var, ↓look_0, ↓look_s, ↓E_ci, ↓E_cb, ↓E_cn, ↓E_cs, ↓E_bin, ↓E_un, ↓E_no, ↓E_an, ↓E_or, ↓E_cmp, ↓E_ch, ↓E_ife, ↓E_tup, ↓E_lst, ↓E_ix, ↓E_sl, ↓E_rev, ↓E_call, ↓E_callk, ↓E_blt, ↓E_mth, ↓E_ixc, ↓E_inc, ↓E_isi, ↓E_lrg, ↓E_lc, ↓E_fld, ↓E_isx, isW, fldW, isxW, N_exc, seq_rt, seq_bk, seq_ct, seq_ex, loop_rt, loop_bk, loop_ex, ret_nx, ret_rt', wpA, wpT, wpAnE, wpOrE, wpAnT, wpOrT, wpC, wpI, binW, addW, mulW, intW, CNo, CPos, CNN, unW, cmpW, eqW, ordW, ixW, B_len, B_int, B_abs, B_min, B_max, B_sum, B_tuple, B_list, lenW, int1W, absW, minW, maxW, sumW, tupleW, listW, augW, M_append, M_pop, ownL, stoW, getW, tgW, setAll, lrgW, partW, isCn, slW, revW, inW, truth, isAny, tyName, kit_NoneType_tuple, kit_NoneType_bool, kit_NoneType_int, kit_NoneType_str, kit_NoneType_list, kit_bool_tuple, kit_bool_bool, kit_bool_int, kit_bool_str, kit_bool_list, kit_int_tuple, kit_int_bool, kit_int_int, kit_int_str, kit_int_list, kit_str_tuple, kit_str_bool, kit_str_int, kit_str_str, kit_str_list, kit_tuple_tuple, kit_tuple_bool, kit_tuple_int, kit_tuple_str, kit_tuple_list, kit_list_tuple, kit_list_bool, kit_list_int, kit_list_str, kit_list_list, N_non, N_bl, N_int, N_str, N_tup, N_rl, N_wl, N_obj, I_tup, I_rl, I_wl, I_obj, LL_rl, LL_obj, O.xs, newL, wipeD, List.getElem?_cons_zero, List.getElem?_cons_succ, List.getElem?_nil, List.set_cons_zero, List.set_cons_succ, Option.some.injEq, exists_and_left, exists_eq', exists_eq, exists_eq_left', exists_eq_left, true_and, and_true, Bool.not_true, Bool.not_false, reduceCtorEq, ite_true, ite_false, if_true, if_false, String.reduceEq, D.int.injEq, D.bl.injEq, D.tup.injEq, D.rl.injEq, D.wl.injEq, D.obj.injEq, D.str.injEq, forall_const, Option.map_some, List.cons_append, List.nil_append, List.length_cons, List.length_nil, g1]; repeat (with_reducible refine nx_of ?_; simp only [↓B_one, ↓B_cons, ↓B_nil, ↓S_skip, ↓S_set, ↓S_unp, ↓S_par, ↓S_aug, ↓S_sto, ↓S_stg, ↓S_ex, ↓S_ret, ↓S_retn, ↓S_ite, ↓S_for, ↓S_whl, ↓S_brk, ↓S_cnt, ↓S_rais, ↓S_thru, ↓E_var, ↓look_0, ↓look_s, ↓E_ci, ↓E_cb, ↓E_cn, ↓E_cs, ↓E_bin, ↓E_un, ↓E_no, ↓E_an, ↓E_or, ↓E_cmp, ↓E_ch, ↓E_ife, ↓E_tup, ↓E_lst, ↓E_ix, ↓E_sl, ↓E_rev, ↓E_call, ↓E_callk, ↓E_blt, ↓E_mth, ↓E_ixc, ↓E_inc, ↓E_isi, ↓E_lrg, ↓E_lc, ↓E_fld, ↓E_isx, isW, fldW, isxW, N_exc, seq_rt, seq_bk, seq_ct, seq_ex, loop_rt, loop_bk, loop_ex, ret_nx, ret_rt', wpA, wpT, wpAnE, wpOrE, wpAnT, wpOrT, wpC, wpI, binW, addW, mulW, intW, CNo, CPos, CNN, unW, cmpW, eqW, ordW, ixW, B_len, B_int, B_abs, B_min, B_max, B_sum, B_tuple, B_list, lenW, int1W, absW, minW, maxW, sumW, tupleW, listW, augW, M_append, M_pop, ownL, stoW, getW, tgW, setAll, lrgW, partW, isCn, slW, revW, inW, truth, isAny, tyName, kit_NoneType_tuple, kit_NoneType_bool, kit_NoneType_int, kit_NoneType_str, kit_NoneType_list, kit_bool_tuple, kit_bool_bool, kit_bool_int, kit_bool_str, kit_bool_list, kit_int_tuple, kit_int_bool, kit_int_int, kit_int_str, kit_int_list, kit_str_tuple, kit_str_bool, kit_str_int, kit_str_str, kit_str_list, kit_tuple_tuple, kit_tuple_bool, kit_tuple_int, kit_tuple_str, kit_tuple_list, kit_list_tuple, kit_list_bool, kit_list_int, kit_list_str, kit_list_list, N_non, N_bl, N_int, N_str, N_tup, N_rl, N_wl, N_obj, I_tup, I_rl, I_wl, I_obj, LL_rl, LL_obj, O.xs, newL, wipeD, List.getElem?_cons_zero, List.getElem?_cons_succ, List.getElem?_nil, List.set_cons_zero, List.set_cons_succ, Option.some.injEq, exists_and_left, exists_eq', exists_eq, exists_eq_left', exists_eq_left, true_and, and_true, Bool.not_true, Bool.not_false, reduceCtorEq, ite_true, ite_false, if_true, if_false, String.reduceEq, D.int.injEq, D.bl.injEq, D.tup.injEq, D.rl.injEq, D.wl.injEq, D.obj.injEq, D.str.injEq, forall_const, Option.map_some, List.cons_append, List.nil_append, List.length_cons, List.length_nil, g1]))
  refine ⟨by decide, p, 5, bs4, rfl, by decide, put_same, fun r5 bs5 hr5 => ?_⟩
  rw [put_put]
  obtain ⟨x5, e5, s5⟩ := pick_str words3 (r := r5) (by show r5 < 5; omega)
  ((try with_reducible refine nx_of ?_); simp only [↓B_one, ↓B_cons, ↓B_nil, ↓S_skip, ↓S_set, ↓S_unp, ↓S_par, ↓S_aug, ↓S_sto, ↓S_stg, ↓S_ex, ↓S_ret, ↓S_retn, ↓S_ite, ↓S_for, ↓S_whl, ↓S_brk, ↓S_cnt, ↓S_rais, ↓S_thru, ↓E_var, ↓look_0, ↓look_s, ↓E_ci, ↓E_cb, ↓E_cn, ↓E_cs, ↓E_bin, ↓E_un, ↓E_no, ↓E_an, ↓E_or, ↓E_cmp, ↓E_ch, ↓E_ife, ↓E_tup, ↓E_lst, ↓E_ix, ↓E_sl, ↓E_rev, ↓E_call, ↓E_callk, ↓E_blt, ↓E_mth, ↓E_ixc, ↓E_inc, ↓E_isi, ↓E_lrg, ↓E_lc, ↓E_fld, ↓E_isx, isW, fldW, isxW, N_exc, seq_rt, seq_bk, seq_ct, seq_ex, loop_rt, loop_bk, loop_ex, ret_nx, ret_rt', wpA, wpT, wpAnE, wpOrE, wpAnT, wpOrT, wpC, wpI, binW, addW, mulW, intW, CNo, CPos, CNN, unW, cmpW, eqW, ordW, ixW, B_len, B_int, B_abs, B_min, B_max, B_sum, B_tuple, B_list, lenW, int1W, absW, minW, maxW, sumW, tupleW, listW, augW, M_append, M_pop, ownL, stoW, getW, tgW, setAll, lrgW, partW, isCn, slW, revW, inW, truth, isAny, tyName, kit_NoneType_tuple, kit_NoneType_bool, kit_NoneType_int, kit_NoneType_str, kit_NoneType_list, kit_bool_tuple, kit_bool_bool, kit_bool_int, kit_bool_str, kit_bool_list, kit_int_tuple, kit_int_bool, kit_int_int, kit_int_str, kit_int_list, kit_str_tuple, kit_str_bool, kit_str_int, kit_str_str, kit_str_list, kit_tuple_tuple, kit_tuple_bool, kit_tuple_int, kit_tuple_str, kit_tuple_list, kit_list_tuple, kit_list_bool, kit_list_int, kit_list_str, kit_list_list, N_non, N_bl, N_int, N_str, N_tup, N_rl, N_wl, N_obj, I_tup, I_rl, I_wl, I_obj, LL_rl, LL_obj, O.xs, newL, wipeD, List.getElem?_cons_zero, List.getElem?_cons_succ, List.getElem?_nil, List.set_cons_zero, List.set_cons_succ, Option.some.injEq, exists_and_left, exists_eq', exists_eq, exists_eq_left', exists_eq_left, true_and, and_true, Bool.not_true, Bool.not_false, reduceCtorEq, ite_true, ite_false, if_true, if_false, String.reduceEq, D.int.injEq, D.bl.injEq, D.tup.injEq, D.rl.injEq, D.wl.injEq, D.obj.injEq, D.str.injEq, forall_const, Option.map_some, List.cons_append, List.nil_append, List.length_cons, List.length_nil, e5, g1]; repeat (with_reducible refine nx_of ?_; simp only [↓B_one, ↓B_cons, ↓B_nil, ↓S_skip, ↓S_set, ↓S_unp, ↓S_par, ↓S_aug, ↓S_sto, ↓S_stg, ↓S_ex, ↓S_ret, ↓S_retn, ↓S_ite, ↓S_for, ↓S_whl, ↓S_brk, ↓S_cnt, ↓S_rais, ↓S_thru, ↓E_var, ↓look_0, ↓look_s, ↓E_ci, ↓E_cb, ↓E_cn, ↓E_cs, ↓E_bin, ↓E_un, ↓E_no, ↓E_an, ↓E_or, ↓E_cmp, ↓E_ch, ↓E_ife, ↓E_tup, ↓E_lst, ↓E_ix, ↓E_sl, ↓E_rev, ↓E_call, ↓E_callk, ↓E_blt, ↓E_mth, ↓E_ixc, ↓E_inc, ↓E_isi, ↓E_lrg, ↓E_lc, ↓E_fld, ↓E_isx, isW, fldW, isxW, N_exc, seq_rt, seq_bk, seq_ct, seq_ex, loop_rt, loop_bk, loop_ex, ret_nx, ret_rt', wpA, wpT, wpAnE, wpOrE, wpAnT, wpOrT, wpC, wpI, binW, addW, mulW, intW, CNo, CPos, CNN, unW, cmpW, eqW, ordW, ixW, B_len, B_int, B_abs, B_min, B_max, B_sum, B_tuple, B_list, lenW, int1W, absW, minW, maxW, sumW, tupleW, listW, augW, M_append, M_pop, ownL, stoW, getW, tgW, setAll, lrgW, partW, isCn, slW, revW, inW, truth, isAny, tyName, kit_NoneType_tuple, kit_NoneType_bool, kit_NoneType_int, kit_NoneType_str, kit_NoneType_list, kit_bool_tuple, kit_bool_bool, kit_bool_int, kit_bool_str, kit_bool_list, kit_int_tuple, kit_int_bool, kit_int_int, kit_int_str, kit_int_list, kit_str_tuple, kit_str_bool, kit_str_int, kit_str_str, kit_str_list, kit_tuple_tuple, kit_tuple_bool, kit_tuple_int, kit_tuple_str, kit_tuple_list, kit_list_tuple, kit_list_bool, kit_list_int, kit_list_str, kit_list_list, N_non, N_bl, N_int, N_str, N_tup, N_rl, N_wl, N_obj, I_tup, I_rl, I_wl, I_obj, LL_rl, LL_obj, O.xs, newL, wipeD, List.getElem?_cons_zero, List.getElem?_cons_succ, List.getElem?_nil, List.set_cons_zero, List.set_cons_succ, Option.some.injEq, exists_and_left, exists_eq', exists_eq, exists_eq_left', exists_eq_left, true_and, and_true, Bool.not_true, Bool.not_false, reduceCtorEq, ite_true, ite_false, if_true, if_false, String.reduceEq, D.int.injEq, D.bl.injEq, D.tup.injEq, D.rl.injEq, D.wl.injEq, D.obj.injEq, D.str.injEq, forall_const, Option.map_some, List.cons_append, List.nil_append, List.length_cons, List.length_nil, e5, g1]))
  refine ⟨by decide, p, 2, bs5, rfl, by decide, put_same, fun r6 bs6 hr6 => ?_⟩
  rw [put_put]
  obtain ⟨x6, e6, s6⟩ := pick_str words4 (r := r6) (by show r6 < 2; omega)
  ((try with_reducible refine nx_of ?_); simp only [↓B_one, ↓B_cons, ↓B_nil, ↓S_skip, ↓S_set, ↓S_unp, ↓S_par, ↓S_aug, ↓S_sto, ↓S_stg, ↓S_ex, ↓S_ret, ↓S_retn, ↓S_ite, ↓S_for, ↓S_whl, ↓S_brk, ↓S_cnt, ↓S_rais, ↓S_thru, ↓E_var, ↓look_0, ↓look_s, ↓E_ci, ↓E_cb, ↓E_cn, ↓E_cs, ↓E_bin, ↓E_un, ↓E_no, ↓E_an, ↓E_or, ↓E_cmp, ↓E_ch, ↓E_ife, ↓E_tup, ↓E_lst, ↓E_ix, ↓E_sl, ↓E_rev, ↓E_call, ↓E_callk, ↓E_blt, ↓E_mth, ↓E_ixc, ↓E_inc, ↓E_isi, ↓E_lrg, ↓E_lc, ↓E_fld, ↓E_isx, isW, fldW, isxW, N_exc, seq_rt, seq_bk, seq_ct, seq_ex, loop_rt, loop_bk, loop_ex, ret_nx, ret_rt', wpA, wpT, wpAnE, wpOrE, wpAnT, wpOrT, wpC, wpI, binW, addW, mulW, intW, CNo, CPos, CNN, unW, cmpW, eqW, ordW, ixW, B_len, B_int, B_abs, B_min, B_max, B_sum, B_tuple, B_list, lenW, int1W, absW, minW, maxW, sumW, tupleW, listW, augW, M_append, M_pop, ownL, stoW, getW, tgW, setAll, lrgW, partW, isCn, slW, revW, inW, truth, isAny, tyName, kit_NoneType_tuple, kit_NoneType_bool, kit_NoneType_int, kit_NoneType_str, kit_NoneType_list, kit_bool_tuple, kit_bool_bool, kit_bool_int, kit_bool_str, kit_bool_list, kit_int_tuple, kit_int_bool, kit_int_int, kit_int_str, kit_int_list, kit_str_tuple, kit_str_bool, kit_str_int, kit_str_str, kit_str_list, kit_tuple_tuple, kit_tuple_bool, kit_tuple_int, kit_tuple_str, kit_tuple_list, kit_list_tuple, kit_list_bool, kit_list_int, kit_list_str, kit_list_list, N_non, N_bl, N_int, N_str, N_tup, N_rl, N_wl, N_obj, I_tup, I_rl, I_wl, I_obj, LL_rl, LL_obj, O.xs, newL, wipeD, List.getElem?_cons_zero, List.getElem?_cons_succ, List.getElem?_nil, List.set_cons_zero, List.set_cons_succ, Option.some.injEq, exists_and_left, exists_eq', exists_eq, exists_eq_left', exists_eq_left, true_and, and_true, Bool.not_true, Bool.not_false, reduceCtorEq, ite_true, ite_false, if_true, if_false, String.reduceEq, D.int.injEq, D.bl.injEq, D.tup.injEq, D.rl.injEq, D.wl.injEq, D.obj.injEq, D.str.injEq, forall_const, Option.map_some, List.cons_append, List.nil_append, List.length_cons, List.length_nil, e6, m.puz, m.txt, m.und, m.ntu, sp_mk1, sp_mkA, List.cons.injEq]; repeat (with_reducible refine nx_of ?_; simp only [↓B_one, ↓B_cons, ↓B_nil, ↓S_skip, ↓S_set, ↓S_unp, ↓S_par, ↓S_aug, ↓S_sto, ↓S_stg, ↓S_ex, ↓S_ret, ↓S_retn, ↓S_ite, ↓S_for, ↓S_whl, ↓S_brk, ↓S_cnt, ↓S_rais, ↓S_thru, ↓E_var, ↓look_0, ↓look_s, ↓E_ci, ↓E_cb, ↓E_cn, ↓E_cs, ↓E_bin, ↓E_un, ↓E_no, ↓E_an, ↓E_or, ↓E_cmp, ↓E_ch, ↓E_ife, ↓E_tup, ↓E_lst, ↓E_ix, ↓E_sl, ↓E_rev, ↓E_call, ↓E_callk, ↓E_blt, ↓E_mth, ↓E_ixc, ↓E_inc, ↓E_isi, ↓E_lrg, ↓E_lc, ↓E_fld, ↓E_isx, isW, fldW, isxW, N_exc, seq_rt, seq_bk, seq_ct, seq_ex, loop_rt, loop_bk, loop_ex, ret_nx, ret_rt', wpA, wpT, wpAnE, wpOrE, wpAnT, wpOrT, wpC, wpI, binW, addW, mulW, intW, CNo, CPos, CNN, unW, cmpW, eqW, ordW, ixW, B_len, B_int, B_abs, B_min, B_max, B_sum, B_tuple, B_list, lenW, int1W, absW, minW, maxW, sumW, tupleW, listW, augW, M_append, M_pop, ownL, stoW, getW, tgW, setAll, lrgW, partW, isCn, slW, revW, inW, truth, isAny, tyName, kit_NoneType_tuple, kit_NoneType_bool, kit_NoneType_int, kit_NoneType_str, kit_NoneType_list, kit_bool_tuple, kit_bool_bool, kit_bool_int, kit_bool_str, kit_bool_list, kit_int_tuple, kit_int_bool, kit_int_int, kit_int_str, kit_int_list, kit_str_tuple, kit_str_bool, kit_str_int, kit_str_str, kit_str_list, kit_tuple_tuple, kit_tuple_bool, kit_tuple_int, kit_tuple_str, kit_tuple_list, kit_list_tuple, kit_list_bool, kit_list_int, kit_list_str, kit_list_list, N_non, N_bl, N_int, N_str, N_tup, N_rl, N_wl, N_obj, I_tup, I_rl, I_wl, I_obj, LL_rl, LL_obj, O.xs, newL, wipeD, List.getElem?_cons_zero, List.getElem?_cons_succ, List.getElem?_nil, List.set_cons_zero, List.set_cons_succ, Option.some.injEq, exists_and_left, exists_eq', exists_eq, exists_eq_left', exists_eq_left, true_and, and_true, Bool.not_true, Bool.not_false, reduceCtorEq, ite_true, ite_false, if_true, if_false, String.reduceEq, D.int.injEq, D.bl.injEq, D.tup.injEq, D.rl.injEq, D.wl.injEq, D.obj.injEq, D.str.injEq, forall_const, Option.map_some, List.cons_append, List.nil_append, List.length_cons, List.length_nil, e6, m.puz, m.txt, m.und, m.ntu, sp_mk1, sp_mkA, List.cons.injEq]))
  refine ⟨by decide, ?_⟩
  ((try with_reducible refine nx_of ?_); simp only [↓B_one, ↓B_cons, ↓B_nil, ↓S_skip, ↓S_set, ↓S_unp, ↓S_par, ↓S_aug, ↓S_sto, ↓S_stg, ↓S_ex, ↓S_ret, ↓S_retn, ↓S_ite, ↓S_for, ↓S_whl, ↓S_brk, ↓S_cnt, ↓S_rais, ↓S_thru, ↓E_var, ↓look_0, ↓look_s, ↓E_ci, ↓E_cb, ↓E_cn, ↓E_cs, ↓E_bin, ↓E_un, ↓E_no, ↓E_an, ↓E_or, ↓E_cmp, ↓E_ch, ↓E_ife, ↓E_tup, ↓E_lst, ↓E_ix, ↓E_sl, ↓E_rev, ↓E_call, ↓E_callk, ↓E_blt, ↓E_mth, ↓E_ixc, ↓E_inc, ↓E_isi, ↓E_lrg, ↓E_lc, ↓E_fld, ↓E_isx, isW, fldW, isxW, N_exc, seq_rt, seq_bk, seq_ct, seq_ex, loop_rt, loop_bk, loop_ex, ret_nx, ret_rt', wpA, wpT, wpAnE, wpOrE, wpAnT, wpOrT, wpC, wpI, binW, addW, mulW, intW, CNo, CPos, CNN, unW, cmpW, eqW, ordW, ixW, B_len, B_int, B_abs, B_min, B_max, B_sum, B_tuple, B_list, lenW, int1W, absW, minW, maxW, sumW, tupleW, listW, augW, M_append, M_pop, ownL, stoW, getW, tgW, setAll, lrgW, partW, isCn, slW, revW, inW, truth, isAny, tyName, kit_NoneType_tuple, kit_NoneType_bool, kit_NoneType_int, kit_NoneType_str, kit_NoneType_list, kit_bool_tuple, kit_bool_bool, kit_bool_int, kit_bool_str, kit_bool_list, kit_int_tuple, kit_int_bool, kit_int_int, kit_int_str, kit_int_list, kit_str_tuple, kit_str_bool, kit_str_int, kit_str_str, kit_str_list, kit_tuple_tuple, kit_tuple_bool, kit_tuple_int, kit_tuple_str, kit_tuple_list, kit_list_tuple, kit_list_bool, kit_list_int, kit_list_str, kit_list_list, N_non, N_bl, N_int, N_str, N_tup, N_rl, N_wl, N_obj, I_tup, I_rl, I_wl, I_obj, LL_rl, LL_obj, O.xs, newL, wipeD, List.getElem?_cons_zero, List.getElem?_cons_succ, List.getElem?_nil, List.set_cons_zero, List.set_cons_succ, Option.some.injEq, exists_and_left, exists_eq', exists_eq, exists_eq_left', exists_eq_left, true_and, and_true, Bool.not_true, Bool.not_false, reduceCtorEq, ite_true, ite_false, if_true, if_false, String.reduceEq, D.int.injEq, D.bl.injEq, D.tup.injEq, D.rl.injEq, D.wl.injEq, D.obj.injEq, D.str.injEq, forall_const, Option.map_some, List.cons_append, List.nil_append, List.length_cons, List.length_nil, m.puzk, m.txtk, m.undk, sp_mk1, sp_mkB]; repeat (with_reducible refine nx_of ?_; simp only [↓B_one, ↓B_cons, ↓B_nil, ↓S_skip, ↓S_set, ↓S_unp, ↓S_par, ↓S_aug, ↓S_sto, ↓S_stg, ↓S_ex, ↓S_ret, ↓S_retn, ↓S_ite, ↓S_for, ↓S_whl, ↓S_brk, ↓S_cnt, ↓S_rais, ↓S_thru, ↓E_var, ↓look_0, ↓look_s, ↓E_ci, ↓E_cb, ↓E_cn, ↓E_cs, ↓E_bin, ↓E_un, ↓E_no, ↓E_an, ↓E_or, ↓E_cmp, ↓E_ch, ↓E_ife, ↓E_tup, ↓E_lst, ↓E_ix, ↓E_sl, ↓E_rev, ↓E_call, ↓E_callk, ↓E_blt, ↓E_mth, ↓E_ixc, ↓E_inc, ↓E_isi, ↓E_lrg, ↓E_lc, ↓E_fld, ↓E_isx, isW, fldW, isxW, N_exc, seq_rt, seq_bk, seq_ct, seq_ex, loop_rt, loop_bk, loop_ex, ret_nx, ret_rt', wpA, wpT, wpAnE, wpOrE, wpAnT, wpOrT, wpC, wpI, binW, addW, mulW, intW, CNo, CPos, CNN, unW, cmpW, eqW, ordW, ixW, B_len, B_int, B_abs, B_min, B_max, B_sum, B_tuple, B_list, lenW, int1W, absW, minW, maxW, sumW, tupleW, listW, augW, M_append, M_pop, ownL, stoW, getW, tgW, setAll, lrgW, partW, isCn, slW, revW, inW, truth, isAny, tyName, kit_NoneType_tuple, kit_NoneType_bool, kit_NoneType_int, kit_NoneType_str, kit_NoneType_list, kit_bool_tuple, kit_bool_bool, kit_bool_int, kit_bool_str, kit_bool_list, kit_int_tuple, kit_int_bool, kit_int_int, kit_int_str, kit_int_list, kit_str_tuple, kit_str_bool, kit_str_int, kit_str_str, kit_str_list, kit_tuple_tuple, kit_tuple_bool, kit_tuple_int, kit_tuple_str, kit_tuple_list, kit_list_tuple, kit_list_bool, kit_list_int, kit_list_str, kit_list_list, N_non, N_bl, N_int, N_str, N_tup, N_rl, N_wl, N_obj, I_tup, I_rl, I_wl, I_obj, LL_rl, LL_obj, O.xs, newL, wipeD, List.getElem?_cons_zero, List.getElem?_cons_succ, List.getElem?_nil, List.set_cons_zero, List.set_cons_succ, Option.some.injEq, exists_and_left, exists_eq', exists_eq, exists_eq_left', exists_eq_left, true_and, and_true, Bool.not_true, Bool.not_false, reduceCtorEq, ite_true, ite_false, if_true, if_false, String.reduceEq, D.int.injEq, D.bl.injEq, D.tup.injEq, D.rl.injEq, D.wl.injEq, D.obj.injEq, D.str.injEq, forall_const, Option.map_some, List.cons_append, List.nil_append, List.length_cons, List.length_nil, m.puzk, m.txtk, m.undk, sp_mk1, sp_mkB]))
  refine ⟨by decide, ?_⟩
  ((try with_reducible refine nx_of ?_); simp only [↓B_one, ↓B_cons, ↓B_nil, ↓S_skip, ↓S_set, ↓S_unp, ↓S_par, ↓S_aug, ↓S_sto, ↓S_stg, ↓S_ex, ↓S_ret, ↓S_retn, ↓S_ite, ↓S_for, ↓S_whl, ↓S_brk, ↓S_cnt, ↓S_rais, ↓S_thru, ↓E_var, ↓look_0, ↓look_s, ↓E_ci, ↓E_cb, ↓E_cn, ↓E_cs, ↓E_bin, ↓E_un, ↓E_no, ↓E_an, ↓E_or, ↓E_cmp, ↓E_ch, ↓E_ife, ↓E_tup, ↓E_lst, ↓E_ix, ↓E_sl, ↓E_rev, ↓E_call, ↓E_callk, ↓E_blt, ↓E_mth, ↓E_ixc, ↓E_inc, ↓E_isi, ↓E_lrg, ↓E_lc, ↓E_fld, ↓E_isx, isW, fldW, isxW, N_exc, seq_rt, seq_bk, seq_ct, seq_ex, loop_rt, loop_bk, loop_ex, ret_nx, ret_rt', wpA, wpT, wpAnE, wpOrE, wpAnT, wpOrT, wpC, wpI, binW, addW, mulW, intW, CNo, CPos, CNN, unW, cmpW, eqW, ordW, ixW, B_len, B_int, B_abs, B_min, B_max, B_sum, B_tuple, B_list, lenW, int1W, absW, minW, maxW, sumW, tupleW, listW, augW, M_append, M_pop, ownL, stoW, getW, tgW, setAll, lrgW, partW, isCn, slW, revW, inW, truth, isAny, tyName, kit_NoneType_tuple, kit_NoneType_bool, kit_NoneType_int, kit_NoneType_str, kit_NoneType_list, kit_bool_tuple, kit_bool_bool, kit_bool_int, kit_bool_str, kit_bool_list, kit_int_tuple, kit_int_bool, kit_int_int, kit_int_str, kit_int_list, kit_str_tuple, kit_str_bool, kit_str_int, kit_str_str, kit_str_list, kit_tuple_tuple, kit_tuple_bool, kit_tuple_int, kit_tuple_str, kit_tuple_list, kit_list_tuple, kit_list_bool, kit_list_int, kit_list_str, kit_list_list, N_non, N_bl, N_int, N_str, N_tup, N_rl, N_wl, N_obj, I_tup, I_rl, I_wl, I_obj, LL_rl, LL_obj, O.xs, newL, wipeD, List.getElem?_cons_zero, List.getElem?_cons_succ, List.getElem?_nil, List.set_cons_zero, List.set_cons_succ, Option.some.injEq, exists_and_left, exists_eq', exists_eq, exists_eq_left', exists_eq_left, true_and, and_true, Bool.not_true, Bool.not_false, reduceCtorEq, ite_true, ite_false, if_true, if_false, String.reduceEq, D.int.injEq, D.bl.injEq, D.tup.injEq, D.rl.injEq, D.wl.injEq, D.obj.injEq, D.str.injEq, forall_const, Option.map_some, List.cons_append, List.nil_append, List.length_cons, List.length_nil, m.ntuk, sp_mk1]; repeat (with_reducible refine nx_of ?_; simp only [↓B_one, ↓B_cons, ↓B_nil, ↓S_skip, ↓S_set, ↓S_unp, ↓S_par, ↓S_aug, ↓S_sto, ↓S_stg, ↓S_ex, ↓S_ret, ↓S_retn, ↓S_ite, ↓S_for, ↓S_whl, ↓S_brk, ↓S_cnt, ↓S_rais, ↓S_thru, ↓E_var, ↓look_0, ↓look_s, ↓E_ci, ↓E_cb, ↓E_cn, ↓E_cs, ↓E_bin, ↓E_un, ↓E_no, ↓E_an, ↓E_or, ↓E_cmp, ↓E_ch, ↓E_ife, ↓E_tup, ↓E_lst, ↓E_ix, ↓E_sl, ↓E_rev, ↓E_call, ↓E_callk, ↓E_blt, ↓E_mth, ↓E_ixc, ↓E_inc, ↓E_isi, ↓E_lrg, ↓E_lc, ↓E_fld, ↓E_isx, isW, fldW, isxW, N_exc, seq_rt, seq_bk, seq_ct, seq_ex, loop_rt, loop_bk, loop_ex, ret_nx, ret_rt', wpA, wpT, wpAnE, wpOrE, wpAnT, wpOrT, wpC, wpI, binW, addW, mulW, intW, CNo, CPos, CNN, unW, cmpW, eqW, ordW, ixW, B_len, B_int, B_abs, B_min, B_max, B_sum, B_tuple, B_list, lenW, int1W, absW, minW, maxW, sumW, tupleW, listW, augW, M_append, M_pop, ownL, stoW, getW, tgW, setAll, lrgW, partW, isCn, slW, revW, inW, truth, isAny, tyName, kit_NoneType_tuple, kit_NoneType_bool, kit_NoneType_int, kit_NoneType_str, kit_NoneType_list, kit_bool_tuple, kit_bool_bool, kit_bool_int, kit_bool_str, kit_bool_list, kit_int_tuple, kit_int_bool, kit_int_int, kit_int_str, kit_int_list, kit_str_tuple, kit_str_bool, kit_str_int, kit_str_str, kit_str_list, kit_tuple_tuple, kit_tuple_bool, kit_tuple_int, kit_tuple_str, kit_tuple_list, kit_list_tuple, kit_list_bool, kit_list_int, kit_list_str, kit_list_list, N_non, N_bl, N_int, N_str, N_tup, N_rl, N_wl, N_obj, I_tup, I_rl, I_wl, I_obj, LL_rl, LL_obj, O.xs, newL, wipeD, List.getElem?_cons_zero, List.getElem?_cons_succ, List.getElem?_nil, List.set_cons_zero, List.set_cons_succ, Option.some.injEq, exists_and_left, exists_eq', exists_eq, exists_eq_left', exists_eq_left, true_and, and_true, Bool.not_true, Bool.not_false, reduceCtorEq, ite_true, ite_false, if_true, if_false, String.reduceEq, D.int.injEq, D.bl.injEq, D.tup.injEq, D.rl.injEq, D.wl.injEq, D.obj.injEq, D.str.injEq, forall_const, Option.map_some, List.cons_append, List.nil_append, List.length_cons, List.length_nil, m.ntuk, sp_mk1]))
  refine ⟨by decide, by decide, ?_⟩
  generalize hE : [D.exc (cA c_InvalidPuzzle) ["place", "part"] [.int r2, .str x1], .exc (cA c_InvalidText) ["at", "text"] [.int r4, .str x3], .exc (cA c_Undefined) ["what"] [.str x5], .exc (cA c_NothingToUndo) ["word"] [.str x6]] = es
  ((try with_reducible refine nx_of ?_); simp only [↓B_one, ↓B_cons, ↓B_nil, ↓S_skip, ↓S_set, ↓S_unp, ↓S_par, ↓S_aug, ↓S_sto, ↓S_stg, ↓S_ex, ↓S_ret, ↓S_retn, ↓S_ite, ↓S_for, ↓S_whl, ↓S_brk, ↓S_cnt, ↓S_rais, ↓S_thru, ↓E_var, ↓look_0, ↓look_s, ↓E_ci, ↓E_cb, ↓E_cn, ↓E_cs, ↓E_bin, ↓E_un, ↓E_no, ↓E_an, ↓E_or, ↓E_cmp, ↓E_ch, ↓E_ife, ↓E_tup, ↓E_lst, ↓E_ix, ↓E_sl, ↓E_rev, ↓E_call, ↓E_callk, ↓E_blt, ↓E_mth, ↓E_ixc, ↓E_inc, ↓E_isi, ↓E_lrg, ↓E_lc, ↓E_fld, ↓E_isx, isW, fldW, isxW, N_exc, seq_rt, seq_bk, seq_ct, seq_ex, loop_rt, loop_bk, loop_ex, ret_nx, ret_rt', wpA, wpT, wpAnE, wpOrE, wpAnT, wpOrT, wpC, wpI, binW, addW, mulW, intW, CNo, CPos, CNN, unW, cmpW, eqW, ordW, ixW, B_len, B_int, B_abs, B_min, B_max, B_sum, B_tuple, B_list, lenW, int1W, absW, minW, maxW, sumW, tupleW, listW, augW, M_append, M_pop, ownL, stoW, getW, tgW, setAll, lrgW, partW, isCn, slW, revW, inW, truth, isAny, tyName, kit_NoneType_tuple, kit_NoneType_bool, kit_NoneType_int, kit_NoneType_str, kit_NoneType_list, kit_bool_tuple, kit_bool_bool, kit_bool_int, kit_bool_str, kit_bool_list, kit_int_tuple, kit_int_bool, kit_int_int, kit_int_str, kit_int_list, kit_str_tuple, kit_str_bool, kit_str_int, kit_str_str, kit_str_list, kit_tuple_tuple, kit_tuple_bool, kit_tuple_int, kit_tuple_str, kit_tuple_list, kit_list_tuple, kit_list_bool, kit_list_int, kit_list_str, kit_list_list, N_non, N_bl, N_int, N_str, N_tup, N_rl, N_wl, N_obj, I_tup, I_rl, I_wl, I_obj, LL_rl, LL_obj, O.xs, newL, wipeD, List.getElem?_cons_zero, List.getElem?_cons_succ, List.getElem?_nil, List.set_cons_zero, List.set_cons_succ, Option.some.injEq, exists_and_left, exists_eq', exists_eq, exists_eq_left', exists_eq_left, true_and, and_true, Bool.not_true, Bool.not_false, reduceCtorEq, ite_true, ite_false, if_true, if_false, String.reduceEq, D.int.injEq, D.bl.injEq, D.tup.injEq, D.rl.injEq, D.wl.injEq, D.obj.injEq, D.str.injEq, forall_const, Option.map_some, List.cons_append, List.nil_append, List.length_cons, List.length_nil]; repeat (with_reducible refine nx_of ?_; simp only [↓B_one, ↓B_cons, ↓B_nil, ↓S_skip, ↓S_set, ↓S_unp, ↓S_par, ↓S_aug, ↓S_sto, ↓S_stg, ↓S_ex, ↓S_ret, ↓S_retn, ↓S_ite, ↓S_for, ↓S_whl, ↓S_brk, ↓S_cnt, ↓S_rais, ↓S_thru, ↓E_var, ↓look_0, ↓look_s, ↓E_ci, ↓E_cb, ↓E_cn, ↓E_cs, ↓E_bin, ↓E_un, ↓E_no, ↓E_an, ↓E_or, ↓E_cmp, ↓E_ch, ↓E_ife, ↓E_tup, ↓E_lst, ↓E_ix, ↓E_sl, ↓E_rev, ↓E_call, ↓E_callk, ↓E_blt, ↓E_mth, ↓E_ixc, ↓E_inc, ↓E_isi, ↓E_lrg, ↓E_lc, ↓E_fld, ↓E_isx, isW, fldW, isxW, N_exc, seq_rt, seq_bk, seq_ct, seq_ex, loop_rt, loop_bk, loop_ex, ret_nx, ret_rt', wpA, wpT, wpAnE, wpOrE, wpAnT, wpOrT, wpC, wpI, binW, addW, mulW, intW, CNo, CPos, CNN, unW, cmpW, eqW, ordW, ixW, B_len, B_int, B_abs, B_min, B_max, B_sum, B_tuple, B_list, lenW, int1W, absW, minW, maxW, sumW, tupleW, listW, augW, M_append, M_pop, ownL, stoW, getW, tgW, setAll, lrgW, partW, isCn, slW, revW, inW, truth, isAny, tyName, kit_NoneType_tuple, kit_NoneType_bool, kit_NoneType_int, kit_NoneType_str, kit_NoneType_list, kit_bool_tuple, kit_bool_bool, kit_bool_int, kit_bool_str, kit_bool_list, kit_int_tuple, kit_int_bool, kit_int_int, kit_int_str, kit_int_list, kit_str_tuple, kit_str_bool, kit_str_int, kit_str_str, kit_str_list, kit_tuple_tuple, kit_tuple_bool, kit_tuple_int, kit_tuple_str, kit_tuple_list, kit_list_tuple, kit_list_bool, kit_list_int, kit_list_str, kit_list_list, N_non, N_bl, N_int, N_str, N_tup, N_rl, N_wl, N_obj, I_tup, I_rl, I_wl, I_obj, LL_rl, LL_obj, O.xs, newL, wipeD, List.getElem?_cons_zero, List.getElem?_cons_succ, List.getElem?_nil, List.set_cons_zero, List.set_cons_succ, Option.some.injEq, exists_and_left, exists_eq', exists_eq, exists_eq_left', exists_eq_left, true_and, and_true, Bool.not_true, Bool.not_false, reduceCtorEq, ite_true, ite_false, if_true, if_false, String.reduceEq, D.int.injEq, D.bl.injEq, D.tup.injEq, D.rl.injEq, D.wl.injEq, D.obj.injEq, D.str.injEq, forall_const, Option.map_some, List.cons_append, List.nil_append, List.length_cons, List.length_nil]))
  refine ⟨by decide, ?_⟩
  refine loop_of (fun i μ M' => M' = put M p (.lst (nums bs6)) ∧ ∃ a b, μ = [some (.obj p), some (.str x1), some (.int r2), some (.str x3), some (.int r4), some (.str x5), some (.str x6), some (.rl es), some (.rl es), a, b]) ⟨rfl, _, _, rfl⟩ (fun _ _ _ _ => trivial) ?_ ?_
  · rintro i d μ M' hi ⟨rfl, a, b, rfl⟩
    have hd : d = .rl es := by
      rcases i with _ | _ | i
      · simpa using hi.symm
      · simpa using hi.symm
      · simp at hi
    subst hd
    ((try with_reducible refine nx_of ?_); simp only [↓B_one, ↓B_cons, ↓B_nil, ↓S_skip, ↓S_set, ↓S_unp, ↓S_par, ↓S_aug, ↓S_sto, ↓S_stg, ↓S_ex, ↓S_ret, ↓S_retn, ↓S_ite, ↓S_for, ↓S_whl, ↓S_brk, ↓S_cnt, ↓S_rais, ↓S_thru, ↓E_var, ↓look_0, ↓look_s, ↓E_ci, ↓E_cb, ↓E_cn, ↓E_cs, ↓E_bin, ↓E_un, ↓E_no, ↓E_an, ↓E_or, ↓E_cmp, ↓E_ch, ↓E_ife, ↓E_tup, ↓E_lst, ↓E_ix, ↓E_sl, ↓E_rev, ↓E_call, ↓E_callk, ↓E_blt, ↓E_mth, ↓E_ixc, ↓E_inc, ↓E_isi, ↓E_lrg, ↓E_lc, ↓E_fld, ↓E_isx, isW, fldW, isxW, N_exc, seq_rt, seq_bk, seq_ct, seq_ex, loop_rt, loop_bk, loop_ex, ret_nx, ret_rt', wpA, wpT, wpAnE, wpOrE, wpAnT, wpOrT, wpC, wpI, binW, addW, mulW, intW, CNo, CPos, CNN, unW, cmpW, eqW, ordW, ixW, B_len, B_int, B_abs, B_min, B_max, B_sum, B_tuple, B_list, lenW, int1W, absW, minW, maxW, sumW, tupleW, listW, augW, M_append, M_pop, ownL, stoW, getW, tgW, setAll, lrgW, partW, isCn, slW, revW, inW, truth, isAny, tyName, kit_NoneType_tuple, kit_NoneType_bool, kit_NoneType_int, kit_NoneType_str, kit_NoneType_list, kit_bool_tuple, kit_bool_bool, kit_bool_int, kit_bool_str, kit_bool_list, kit_int_tuple, kit_int_bool, kit_int_int, kit_int_str, kit_int_list, kit_str_tuple, kit_str_bool, kit_str_int, kit_str_str, kit_str_list, kit_tuple_tuple, kit_tuple_bool, kit_tuple_int, kit_tuple_str, kit_tuple_list, kit_list_tuple, kit_list_bool, kit_list_int, kit_list_str, kit_list_list, N_non, N_bl, N_int, N_str, N_tup, N_rl, N_wl, N_obj, I_tup, I_rl, I_wl, I_obj, LL_rl, LL_obj, O.xs, newL, wipeD, List.getElem?_cons_zero, List.getElem?_cons_succ, List.getElem?_nil, List.set_cons_zero, List.set_cons_succ, Option.some.injEq, exists_and_left, exists_eq', exists_eq, exists_eq_left', exists_eq_left, true_and, and_true, Bool.not_true, Bool.not_false, reduceCtorEq, ite_true, ite_false, if_true, if_false, String.reduceEq, D.int.injEq, D.bl.injEq, D.tup.injEq, D.rl.injEq, D.wl.injEq, D.obj.injEq, D.str.injEq, forall_const, Option.map_some, List.cons_append, List.nil_append, List.length_cons, List.length_nil, g2]; repeat (with_reducible refine nx_of ?_; simp only [↓B_one, ↓B_cons, ↓B_nil, ↓S_skip, ↓S_set, ↓S_unp, ↓S_par, ↓S_aug, ↓S_sto, ↓S_stg, ↓S_ex, ↓S_ret, ↓S_retn, ↓S_ite, ↓S_for, ↓S_whl, ↓S_brk, ↓S_cnt, ↓S_rais, ↓S_thru, ↓E_var, ↓look_0, ↓look_s, ↓E_ci, ↓E_cb, ↓E_cn, ↓E_cs, ↓E_bin, ↓E_un, ↓E_no, ↓E_an, ↓E_or, ↓E_cmp, ↓E_ch, ↓E_ife, ↓E_tup, ↓E_lst, ↓E_ix, ↓E_sl, ↓E_rev, ↓E_call, ↓E_callk, ↓E_blt, ↓E_mth, ↓E_ixc, ↓E_inc, ↓E_isi, ↓E_lrg, ↓E_lc, ↓E_fld, ↓E_isx, isW, fldW, isxW, N_exc, seq_rt, seq_bk, seq_ct, seq_ex, loop_rt, loop_bk, loop_ex, ret_nx, ret_rt', wpA, wpT, wpAnE, wpOrE, wpAnT, wpOrT, wpC, wpI, binW, addW, mulW, intW, CNo, CPos, CNN, unW, cmpW, eqW, ordW, ixW, B_len, B_int, B_abs, B_min, B_max, B_sum, B_tuple, B_list, lenW, int1W, absW, minW, maxW, sumW, tupleW, listW, augW, M_append, M_pop, ownL, stoW, getW, tgW, setAll, lrgW, partW, isCn, slW, revW, inW, truth, isAny, tyName, kit_NoneType_tuple, kit_NoneType_bool, kit_NoneType_int, kit_NoneType_str, kit_NoneType_list, kit_bool_tuple, kit_bool_bool, kit_bool_int, kit_bool_str, kit_bool_list, kit_int_tuple, kit_int_bool, kit_int_int, kit_int_str, kit_int_list, kit_str_tuple, kit_str_bool, kit_str_int, kit_str_str, kit_str_list, kit_tuple_tuple, kit_tuple_bool, kit_tuple_int, kit_tuple_str, kit_tuple_list, kit_list_tuple, kit_list_bool, kit_list_int, kit_list_str, kit_list_list, N_non, N_bl, N_int, N_str, N_tup, N_rl, N_wl, N_obj, I_tup, I_rl, I_wl, I_obj, LL_rl, LL_obj, O.xs, newL, wipeD, List.getElem?_cons_zero, List.getElem?_cons_succ, List.getElem?_nil, List.set_cons_zero, List.set_cons_succ, Option.some.injEq, exists_and_left, exists_eq', exists_eq, exists_eq_left', exists_eq_left, true_and, and_true, Bool.not_true, Bool.not_false, reduceCtorEq, ite_true, ite_false, if_true, if_false, String.reduceEq, D.int.injEq, D.bl.injEq, D.tup.injEq, D.rl.injEq, D.wl.injEq, D.obj.injEq, D.str.injEq, forall_const, Option.map_some, List.cons_append, List.nil_append, List.length_cons, List.length_nil, g2]))
    refine ⟨es, 15, rfl, by rw [← hE]; simp, fun k hk => ?_, ?_⟩
    · subst hE
      have hk : k < 4 := hk
      rcases k with _ | _ | _ | _ | k
      · exact ⟨_, _, _, rfl, rfl⟩
      · exact ⟨_, _, _, rfl, rfl⟩
      · exact ⟨_, _, _, rfl, rfl⟩
      · exact ⟨_, _, _, rfl, rfl⟩
      · omega
    · have a0 : atI es 0 = some (.exc (cA c_InvalidPuzzle) ["place", "part"] [.int r2, .str x1]) := by rw [← hE]; rfl
      have a1 : atI es 1 = some (.exc (cA c_InvalidText) ["at", "text"] [.int r4, .str x3]) := by rw [← hE]; rfl
      have a2 : atI es 2 = some (.exc (cA c_Undefined) ["what"] [.str x5]) := by rw [← hE]; rfl
      have a3 : atI es 3 = some (.exc (cA c_NothingToUndo) ["word"] [.str x6]) := by rw [← hE]; rfl
      ((try with_reducible refine nx_of ?_); simp only [↓B_one, ↓B_cons, ↓B_nil, ↓S_skip, ↓S_set, ↓S_unp, ↓S_par, ↓S_aug, ↓S_sto, ↓S_stg, ↓S_ex, ↓S_ret, ↓S_retn, ↓S_ite, ↓S_for, ↓S_whl, ↓S_brk, ↓S_cnt, ↓S_rais, ↓S_thru, ↓E_var, ↓look_0, ↓look_s, ↓E_ci, ↓E_cb, ↓E_cn, ↓E_cs, ↓E_bin, ↓E_un, ↓E_no, ↓E_an, ↓E_or, ↓E_cmp, ↓E_ch, ↓E_ife, ↓E_tup, ↓E_lst, ↓E_ix, ↓E_sl, ↓E_rev, ↓E_call, ↓E_callk, ↓E_blt, ↓E_mth, ↓E_ixc, ↓E_inc, ↓E_isi, ↓E_lrg, ↓E_lc, ↓E_fld, ↓E_isx, isW, fldW, isxW, N_exc, seq_rt, seq_bk, seq_ct, seq_ex, loop_rt, loop_bk, loop_ex, ret_nx, ret_rt', wpA, wpT, wpAnE, wpOrE, wpAnT, wpOrT, wpC, wpI, binW, addW, mulW, intW, CNo, CPos, CNN, unW, cmpW, eqW, ordW, ixW, B_len, B_int, B_abs, B_min, B_max, B_sum, B_tuple, B_list, lenW, int1W, absW, minW, maxW, sumW, tupleW, listW, augW, M_append, M_pop, ownL, stoW, getW, tgW, setAll, lrgW, partW, isCn, slW, revW, inW, truth, isAny, tyName, kit_NoneType_tuple, kit_NoneType_bool, kit_NoneType_int, kit_NoneType_str, kit_NoneType_list, kit_bool_tuple, kit_bool_bool, kit_bool_int, kit_bool_str, kit_bool_list, kit_int_tuple, kit_int_bool, kit_int_int, kit_int_str, kit_int_list, kit_str_tuple, kit_str_bool, kit_str_int, kit_str_str, kit_str_list, kit_tuple_tuple, kit_tuple_bool, kit_tuple_int, kit_tuple_str, kit_tuple_list, kit_list_tuple, kit_list_bool, kit_list_int, kit_list_str, kit_list_list, N_non, N_bl, N_int, N_str, N_tup, N_rl, N_wl, N_obj, I_tup, I_rl, I_wl, I_obj, LL_rl, LL_obj, O.xs, newL, wipeD, List.getElem?_cons_zero, List.getElem?_cons_succ, List.getElem?_nil, List.set_cons_zero, List.set_cons_succ, Option.some.injEq, exists_and_left, exists_eq', exists_eq, exists_eq_left', exists_eq_left, true_and, and_true, Bool.not_true, Bool.not_false, reduceCtorEq, ite_true, ite_false, if_true, if_false, String.reduceEq, D.int.injEq, D.bl.injEq, D.tup.injEq, D.rl.injEq, D.wl.injEq, D.obj.injEq, D.str.injEq, forall_const, Option.map_some, List.cons_append, List.nil_append, List.length_cons, List.length_nil, a0, a1, a2, a3, g3]; repeat (with_reducible refine nx_of ?_; simp only [↓B_one, ↓B_cons, ↓B_nil, ↓S_skip, ↓S_set, ↓S_unp, ↓S_par, ↓S_aug, ↓S_sto, ↓S_stg, ↓S_ex, ↓S_ret, ↓S_retn, ↓S_ite, ↓S_for, ↓S_whl, ↓S_brk, ↓S_cnt, ↓S_rais, ↓S_thru, ↓E_var, ↓look_0, ↓look_s, ↓E_ci, ↓E_cb, ↓E_cn, ↓E_cs, ↓E_bin, ↓E_un, ↓E_no, ↓E_an, ↓E_or, ↓E_cmp, ↓E_ch, ↓E_ife, ↓E_tup, ↓E_lst, ↓E_ix, ↓E_sl, ↓E_rev, ↓E_call, ↓E_callk, ↓E_blt, ↓E_mth, ↓E_ixc, ↓E_inc, ↓E_isi, ↓E_lrg, ↓E_lc, ↓E_fld, ↓E_isx, isW, fldW, isxW, N_exc, seq_rt, seq_bk, seq_ct, seq_ex, loop_rt, loop_bk, loop_ex, ret_nx, ret_rt', wpA, wpT, wpAnE, wpOrE, wpAnT, wpOrT, wpC, wpI, binW, addW, mulW, intW, CNo, CPos, CNN, unW, cmpW, eqW, ordW, ixW, B_len, B_int, B_abs, B_min, B_max, B_sum, B_tuple, B_list, lenW, int1W, absW, minW, maxW, sumW, tupleW, listW, augW, M_append, M_pop, ownL, stoW, getW, tgW, setAll, lrgW, partW, isCn, slW, revW, inW, truth, isAny, tyName, kit_NoneType_tuple, kit_NoneType_bool, kit_NoneType_int, kit_NoneType_str, kit_NoneType_list, kit_bool_tuple, kit_bool_bool, kit_bool_int, kit_bool_str, kit_bool_list, kit_int_tuple, kit_int_bool, kit_int_int, kit_int_str, kit_int_list, kit_str_tuple, kit_str_bool, kit_str_int, kit_str_str, kit_str_list, kit_tuple_tuple, kit_tuple_bool, kit_tuple_int, kit_tuple_str, kit_tuple_list, kit_list_tuple, kit_list_bool, kit_list_int, kit_list_str, kit_list_list, N_non, N_bl, N_int, N_str, N_tup, N_rl, N_wl, N_obj, I_tup, I_rl, I_wl, I_obj, LL_rl, LL_obj, O.xs, newL, wipeD, List.getElem?_cons_zero, List.getElem?_cons_succ, List.getElem?_nil, List.set_cons_zero, List.set_cons_succ, Option.some.injEq, exists_and_left, exists_eq', exists_eq, exists_eq_left', exists_eq_left, true_and, and_true, Bool.not_true, Bool.not_false, reduceCtorEq, ite_true, ite_false, if_true, if_false, String.reduceEq, D.int.injEq, D.bl.injEq, D.tup.injEq, D.rl.injEq, D.wl.injEq, D.obj.injEq, D.str.injEq, forall_const, Option.map_some, List.cons_append, List.nil_append, List.length_cons, List.length_nil, a0, a1, a2, a3, g3]))
      refine ⟨_, rfl, _, rfl, _, rfl, _, rfl, _, rfl, _, rfl, by decide, ?_⟩
      ((try with_reducible refine nx_of ?_); simp only [↓B_one, ↓B_cons, ↓B_nil, ↓S_skip, ↓S_set, ↓S_unp, ↓S_par, ↓S_aug, ↓S_sto, ↓S_stg, ↓S_ex, ↓S_ret, ↓S_retn, ↓S_ite, ↓S_for, ↓S_whl, ↓S_brk, ↓S_cnt, ↓S_rais, ↓S_thru, ↓E_var, ↓look_0, ↓look_s, ↓E_ci, ↓E_cb, ↓E_cn, ↓E_cs, ↓E_bin, ↓E_un, ↓E_no, ↓E_an, ↓E_or, ↓E_cmp, ↓E_ch, ↓E_ife, ↓E_tup, ↓E_lst, ↓E_ix, ↓E_sl, ↓E_rev, ↓E_call, ↓E_callk, ↓E_blt, ↓E_mth, ↓E_ixc, ↓E_inc, ↓E_isi, ↓E_lrg, ↓E_lc, ↓E_fld, ↓E_isx, isW, fldW, isxW, N_exc, seq_rt, seq_bk, seq_ct, seq_ex, loop_rt, loop_bk, loop_ex, ret_nx, ret_rt', wpA, wpT, wpAnE, wpOrE, wpAnT, wpOrT, wpC, wpI, binW, addW, mulW, intW, CNo, CPos, CNN, unW, cmpW, eqW, ordW, ixW, B_len, B_int, B_abs, B_min, B_max, B_sum, B_tuple, B_list, lenW, int1W, absW, minW, maxW, sumW, tupleW, listW, augW, M_append, M_pop, ownL, stoW, getW, tgW, setAll, lrgW, partW, isCn, slW, revW, inW, truth, isAny, tyName, kit_NoneType_tuple, kit_NoneType_bool, kit_NoneType_int, kit_NoneType_str, kit_NoneType_list, kit_bool_tuple, kit_bool_bool, kit_bool_int, kit_bool_str, kit_bool_list, kit_int_tuple, kit_int_bool, kit_int_int, kit_int_str, kit_int_list, kit_str_tuple, kit_str_bool, kit_str_int, kit_str_str, kit_str_list, kit_tuple_tuple, kit_tuple_bool, kit_tuple_int, kit_tuple_str, kit_tuple_list, kit_list_tuple, kit_list_bool, kit_list_int, kit_list_str, kit_list_list, N_non, N_bl, N_int, N_str, N_tup, N_rl, N_wl, N_obj, I_tup, I_rl, I_wl, I_obj, LL_rl, LL_obj, O.xs, newL, wipeD, List.getElem?_cons_zero, List.getElem?_cons_succ, List.getElem?_nil, List.set_cons_zero, List.set_cons_succ, Option.some.injEq, exists_and_left, exists_eq', exists_eq, exists_eq_left', exists_eq_left, true_and, and_true, Bool.not_true, Bool.not_false, reduceCtorEq, ite_true, ite_false, if_true, if_false, String.reduceEq, D.int.injEq, D.bl.injEq, D.tup.injEq, D.rl.injEq, D.wl.injEq, D.obj.injEq, D.str.injEq, forall_const, Option.map_some, List.cons_append, List.nil_append, List.length_cons, List.length_nil, g3]; repeat (with_reducible refine nx_of ?_; simp only [↓B_one, ↓B_cons, ↓B_nil, ↓S_skip, ↓S_set, ↓S_unp, ↓S_par, ↓S_aug, ↓S_sto, ↓S_stg, ↓S_ex, ↓S_ret, ↓S_retn, ↓S_ite, ↓S_for, ↓S_whl, ↓S_brk, ↓S_cnt, ↓S_rais, ↓S_thru, ↓E_var, ↓look_0, ↓look_s, ↓E_ci, ↓E_cb, ↓E_cn, ↓E_cs, ↓E_bin, ↓E_un, ↓E_no, ↓E_an, ↓E_or, ↓E_cmp, ↓E_ch, ↓E_ife, ↓E_tup, ↓E_lst, ↓E_ix, ↓E_sl, ↓E_rev, ↓E_call, ↓E_callk, ↓E_blt, ↓E_mth, ↓E_ixc, ↓E_inc, ↓E_isi, ↓E_lrg, ↓E_lc, ↓E_fld, ↓E_isx, isW, fldW, isxW, N_exc, seq_rt, seq_bk, seq_ct, seq_ex, loop_rt, loop_bk, loop_ex, ret_nx, ret_rt', wpA, wpT, wpAnE, wpOrE, wpAnT, wpOrT, wpC, wpI, binW, addW, mulW, intW, CNo, CPos, CNN, unW, cmpW, eqW, ordW, ixW, B_len, B_int, B_abs, B_min, B_max, B_sum, B_tuple, B_list, lenW, int1W, absW, minW, maxW, sumW, tupleW, listW, augW, M_append, M_pop, ownL, stoW, getW, tgW, setAll, lrgW, partW, isCn, slW, revW, inW, truth, isAny, tyName, kit_NoneType_tuple, kit_NoneType_bool, kit_NoneType_int, kit_NoneType_str, kit_NoneType_list, kit_bool_tuple, kit_bool_bool, kit_bool_int, kit_bool_str, kit_bool_list, kit_int_tuple, kit_int_bool, kit_int_int, kit_int_str, kit_int_list, kit_str_tuple, kit_str_bool, kit_str_int, kit_str_str, kit_str_list, kit_tuple_tuple, kit_tuple_bool, kit_tuple_int, kit_tuple_str, kit_tuple_list, kit_list_tuple, kit_list_bool, kit_list_int, kit_list_str, kit_list_list, N_non, N_bl, N_int, N_str, N_tup, N_rl, N_wl, N_obj, I_tup, I_rl, I_wl, I_obj, LL_rl, LL_obj, O.xs, newL, wipeD, List.getElem?_cons_zero, List.getElem?_cons_succ, List.getElem?_nil, List.set_cons_zero, List.set_cons_succ, Option.some.injEq, exists_and_left, exists_eq', exists_eq, exists_eq_left', exists_eq_left, true_and, and_true, Bool.not_true, Bool.not_false, reduceCtorEq, ite_true, ite_false, if_true, if_false, String.reduceEq, D.int.injEq, D.bl.injEq, D.tup.injEq, D.rl.injEq, D.wl.injEq, D.obj.injEq, D.str.injEq, forall_const, Option.map_some, List.cons_append, List.nil_append, List.length_cons, List.length_nil, g3]))
      refine ⟨by decide, _, _, rfl, ⟨by simp [big], ?_⟩, ?_, ?_⟩
      · intro x hx
        simp only [List.mem_cons, List.mem_nil_iff, or_false] at hx
        rcases hx with rfl | rfl | rfl | rfl | rfl | rfl <;> first | trivial | assumption
      · intro x hx
        simp only [List.mem_cons, List.mem_nil_iff, or_false] at hx
        rcases hx with rfl | rfl | rfl | rfl | rfl | rfl <;> first | trivial | assumption
      · have e : like 2 (.tup [.str x1, .int r2, .str x3, .int r4, .str x5, .str x6]) (.tup [.str x1, .int r2, .str x3, .int r4, .str x5, .str x6]) = true := by
          simp [like]
        rw [e]
        ((try with_reducible refine nx_of ?_); simp only [↓B_one, ↓B_cons, ↓B_nil, ↓S_skip, ↓S_set, ↓S_unp, ↓S_par, ↓S_aug, ↓S_sto, ↓S_stg, ↓S_ex, ↓S_ret, ↓S_retn, ↓S_ite, ↓S_for, ↓S_whl, ↓S_brk, ↓S_cnt, ↓S_rais, ↓S_thru, ↓E_var, ↓look_0, ↓look_s, ↓E_ci, ↓E_cb, ↓E_cn, ↓E_cs, ↓E_bin, ↓E_un, ↓E_no, ↓E_an, ↓E_or, ↓E_cmp, ↓E_ch, ↓E_ife, ↓E_tup, ↓E_lst, ↓E_ix, ↓E_sl, ↓E_rev, ↓E_call, ↓E_callk, ↓E_blt, ↓E_mth, ↓E_ixc, ↓E_inc, ↓E_isi, ↓E_lrg, ↓E_lc, ↓E_fld, ↓E_isx, isW, fldW, isxW, N_exc, seq_rt, seq_bk, seq_ct, seq_ex, loop_rt, loop_bk, loop_ex, ret_nx, ret_rt', wpA, wpT, wpAnE, wpOrE, wpAnT, wpOrT, wpC, wpI, binW, addW, mulW, intW, CNo, CPos, CNN, unW, cmpW, eqW, ordW, ixW, B_len, B_int, B_abs, B_min, B_max, B_sum, B_tuple, B_list, lenW, int1W, absW, minW, maxW, sumW, tupleW, listW, augW, M_append, M_pop, ownL, stoW, getW, tgW, setAll, lrgW, partW, isCn, slW, revW, inW, truth, isAny, tyName, kit_NoneType_tuple, kit_NoneType_bool, kit_NoneType_int, kit_NoneType_str, kit_NoneType_list, kit_bool_tuple, kit_bool_bool, kit_bool_int, kit_bool_str, kit_bool_list, kit_int_tuple, kit_int_bool, kit_int_int, kit_int_str, kit_int_list, kit_str_tuple, kit_str_bool, kit_str_int, kit_str_str, kit_str_list, kit_tuple_tuple, kit_tuple_bool, kit_tuple_int, kit_tuple_str, kit_tuple_list, kit_list_tuple, kit_list_bool, kit_list_int, kit_list_str, kit_list_list, N_non, N_bl, N_int, N_str, N_tup, N_rl, N_wl, N_obj, I_tup, I_rl, I_wl, I_obj, LL_rl, LL_obj, O.xs, newL, wipeD, List.getElem?_cons_zero, List.getElem?_cons_succ, List.getElem?_nil, List.set_cons_zero, List.set_cons_succ, Option.some.injEq, exists_and_left, exists_eq', exists_eq, exists_eq_left', exists_eq_left, true_and, and_true, Bool.not_true, Bool.not_false, reduceCtorEq, ite_true, ite_false, if_true, if_false, String.reduceEq, D.int.injEq, D.bl.injEq, D.tup.injEq, D.rl.injEq, D.wl.injEq, D.obj.injEq, D.str.injEq, forall_const, Option.map_some, List.cons_append, List.nil_append, List.length_cons, List.length_nil]; repeat (with_reducible refine nx_of ?_; simp only [↓B_one, ↓B_cons, ↓B_nil, ↓S_skip, ↓S_set, ↓S_unp, ↓S_par, ↓S_aug, ↓S_sto, ↓S_stg, ↓S_ex, ↓S_ret, ↓S_retn, ↓S_ite, ↓S_for, ↓S_whl, ↓S_brk, ↓S_cnt, ↓S_rais, ↓S_thru, ↓E_var, ↓look_0, ↓look_s, ↓E_ci, ↓E_cb, ↓E_cn, ↓E_cs, ↓E_bin, ↓E_un, ↓E_no, ↓E_an, ↓E_or, ↓E_cmp, ↓E_ch, ↓E_ife, ↓E_tup, ↓E_lst, ↓E_ix, ↓E_sl, ↓E_rev, ↓E_call, ↓E_callk, ↓E_blt, ↓E_mth, ↓E_ixc, ↓E_inc, ↓E_isi, ↓E_lrg, ↓E_lc, ↓E_fld, ↓E_isx, isW, fldW, isxW, N_exc, seq_rt, seq_bk, seq_ct, seq_ex, loop_rt, loop_bk, loop_ex, ret_nx, ret_rt', wpA, wpT, wpAnE, wpOrE, wpAnT, wpOrT, wpC, wpI, binW, addW, mulW, intW, CNo, CPos, CNN, unW, cmpW, eqW, ordW, ixW, B_len, B_int, B_abs, B_min, B_max, B_sum, B_tuple, B_list, lenW, int1W, absW, minW, maxW, sumW, tupleW, listW, augW, M_append, M_pop, ownL, stoW, getW, tgW, setAll, lrgW, partW, isCn, slW, revW, inW, truth, isAny, tyName, kit_NoneType_tuple, kit_NoneType_bool, kit_NoneType_int, kit_NoneType_str, kit_NoneType_list, kit_bool_tuple, kit_bool_bool, kit_bool_int, kit_bool_str, kit_bool_list, kit_int_tuple, kit_int_bool, kit_int_int, kit_int_str, kit_int_list, kit_str_tuple, kit_str_bool, kit_str_int, kit_str_str, kit_str_list, kit_tuple_tuple, kit_tuple_bool, kit_tuple_int, kit_tuple_str, kit_tuple_list, kit_list_tuple, kit_list_bool, kit_list_int, kit_list_str, kit_list_list, N_non, N_bl, N_int, N_str, N_tup, N_rl, N_wl, N_obj, I_tup, I_rl, I_wl, I_obj, LL_rl, LL_obj, O.xs, newL, wipeD, List.getElem?_cons_zero, List.getElem?_cons_succ, List.getElem?_nil, List.set_cons_zero, List.set_cons_succ, Option.some.injEq, exists_and_left, exists_eq', exists_eq, exists_eq_left', exists_eq_left, true_and, and_true, Bool.not_true, Bool.not_false, reduceCtorEq, ite_true, ite_false, if_true, if_false, String.reduceEq, D.int.injEq, D.bl.injEq, D.tup.injEq, D.rl.injEq, D.wl.injEq, D.obj.injEq, D.str.injEq, forall_const, Option.map_some, List.cons_append, List.nil_append, List.length_cons, List.length_nil]))
        exact ⟨_, .refl _, rfl, _, _, rfl⟩
  · rintro μ M' ⟨rfl, a, b, rfl⟩
    ((try with_reducible refine nx_of ?_); simp only [↓B_one, ↓B_cons, ↓B_nil, ↓S_skip, ↓S_set, ↓S_unp, ↓S_par, ↓S_aug, ↓S_sto, ↓S_stg, ↓S_ex, ↓S_ret, ↓S_retn, ↓S_ite, ↓S_for, ↓S_whl, ↓S_brk, ↓S_cnt, ↓S_rais, ↓S_thru, ↓E_var, ↓look_0, ↓look_s, ↓E_ci, ↓E_cb, ↓E_cn, ↓E_cs, ↓E_bin, ↓E_un, ↓E_no, ↓E_an, ↓E_or, ↓E_cmp, ↓E_ch, ↓E_ife, ↓E_tup, ↓E_lst, ↓E_ix, ↓E_sl, ↓E_rev, ↓E_call, ↓E_callk, ↓E_blt, ↓E_mth, ↓E_ixc, ↓E_inc, ↓E_isi, ↓E_lrg, ↓E_lc, ↓E_fld, ↓E_isx, isW, fldW, isxW, N_exc, seq_rt, seq_bk, seq_ct, seq_ex, loop_rt, loop_bk, loop_ex, ret_nx, ret_rt', wpA, wpT, wpAnE, wpOrE, wpAnT, wpOrT, wpC, wpI, binW, addW, mulW, intW, CNo, CPos, CNN, unW, cmpW, eqW, ordW, ixW, B_len, B_int, B_abs, B_min, B_max, B_sum, B_tuple, B_list, lenW, int1W, absW, minW, maxW, sumW, tupleW, listW, augW, M_append, M_pop, ownL, stoW, getW, tgW, setAll, lrgW, partW, isCn, slW, revW, inW, truth, isAny, tyName, kit_NoneType_tuple, kit_NoneType_bool, kit_NoneType_int, kit_NoneType_str, kit_NoneType_list, kit_bool_tuple, kit_bool_bool, kit_bool_int, kit_bool_str, kit_bool_list, kit_int_tuple, kit_int_bool, kit_int_int, kit_int_str, kit_int_list, kit_str_tuple, kit_str_bool, kit_str_int, kit_str_str, kit_str_list, kit_tuple_tuple, kit_tuple_bool, kit_tuple_int, kit_tuple_str, kit_tuple_list, kit_list_tuple, kit_list_bool, kit_list_int, kit_list_str, kit_list_list, N_non, N_bl, N_int, N_str, N_tup, N_rl, N_wl, N_obj, I_tup, I_rl, I_wl, I_obj, LL_rl, LL_obj, O.xs, newL, wipeD, List.getElem?_cons_zero, List.getElem?_cons_succ, List.getElem?_nil, List.set_cons_zero, List.set_cons_succ, Option.some.injEq, exists_and_left, exists_eq', exists_eq, exists_eq_left', exists_eq_left, true_and, and_true, Bool.not_true, Bool.not_false, reduceCtorEq, ite_true, ite_false, if_true, if_false, String.reduceEq, D.int.injEq, D.bl.injEq, D.tup.injEq, D.rl.injEq, D.wl.injEq, D.obj.injEq, D.str.injEq, forall_const, Option.map_some, List.cons_append, List.nil_append, List.length_cons, List.length_nil]; repeat (with_reducible refine nx_of ?_; simp only [↓B_one, ↓B_cons, ↓B_nil, ↓S_skip, ↓S_set, ↓S_unp, ↓S_par, ↓S_aug, ↓S_sto, ↓S_stg, ↓S_ex, ↓S_ret, ↓S_retn, ↓S_ite, ↓S_for, ↓S_whl, ↓S_brk, ↓S_cnt, ↓S_rais, ↓S_thru, ↓E_var, ↓look_0, ↓look_s, ↓E_ci, ↓E_cb, ↓E_cn, ↓E_cs, ↓E_bin, ↓E_un, ↓E_no, ↓E_an, ↓E_or, ↓E_cmp, ↓E_ch, ↓E_ife, ↓E_tup, ↓E_lst, ↓E_ix, ↓E_sl, ↓E_rev, ↓E_call, ↓E_callk, ↓E_blt, ↓E_mth, ↓E_ixc, ↓E_inc, ↓E_isi, ↓E_lrg, ↓E_lc, ↓E_fld, ↓E_isx, isW, fldW, isxW, N_exc, seq_rt, seq_bk, seq_ct, seq_ex, loop_rt, loop_bk, loop_ex, ret_nx, ret_rt', wpA, wpT, wpAnE, wpOrE, wpAnT, wpOrT, wpC, wpI, binW, addW, mulW, intW, CNo, CPos, CNN, unW, cmpW, eqW, ordW, ixW, B_len, B_int, B_abs, B_min, B_max, B_sum, B_tuple, B_list, lenW, int1W, absW, minW, maxW, sumW, tupleW, listW, augW, M_append, M_pop, ownL, stoW, getW, tgW, setAll, lrgW, partW, isCn, slW, revW, inW, truth, isAny, tyName, kit_NoneType_tuple, kit_NoneType_bool, kit_NoneType_int, kit_NoneType_str, kit_NoneType_list, kit_bool_tuple, kit_bool_bool, kit_bool_int, kit_bool_str, kit_bool_list, kit_int_tuple, kit_int_bool, kit_int_int, kit_int_str, kit_int_list, kit_str_tuple, kit_str_bool, kit_str_int, kit_str_str, kit_str_list, kit_tuple_tuple, kit_tuple_bool, kit_tuple_int, kit_tuple_str, kit_tuple_list, kit_list_tuple, kit_list_bool, kit_list_int, kit_list_str, kit_list_list, N_non, N_bl, N_int, N_str, N_tup, N_rl, N_wl, N_obj, I_tup, I_rl, I_wl, I_obj, LL_rl, LL_obj, O.xs, newL, wipeD, List.getElem?_cons_zero, List.getElem?_cons_succ, List.getElem?_nil, List.set_cons_zero, List.set_cons_succ, Option.some.injEq, exists_and_left, exists_eq', exists_eq, exists_eq_left', exists_eq_left, true_and, and_true, Bool.not_true, Bool.not_false, reduceCtorEq, ite_true, ite_false, if_true, if_false, String.reduceEq, D.int.injEq, D.bl.injEq, D.tup.injEq, D.rl.injEq, D.wl.injEq, D.obj.injEq, D.str.injEq, forall_const, Option.map_some, List.cons_append, List.nil_append, List.length_cons, List.length_nil]))
    exact .here (hq _)
/-! ### the whole -/
theorem made_len {v : D} : (madeL cA v).length = 15 := by unfold madeL; rw [List.length_map]; rfl
theorem made_at {v : D} {k : Nat} (h : k < 15) : ∃ a, (madeL cA v)[k]? = some (.exc (cA a) ["value"] [v]) ∧ k19[k]? = some a := by
  unfold madeL
  have e : k19[k]? = k15[k]? := by unfold k19; rw [List.getElem?_append_left (by exact h)]
  refine ⟨k15[k]'h, ?_, ?_⟩
  · rw [List.getElem?_map, List.getElem?_eq_getElem (by exact h)]; rfl
  · rw [e, List.getElem?_eq_getElem (by exact h)]
theorem made_mem {v d : D} (h : d ∈ madeL cA v) : ∃ a, d = .exc (cA a) ["value"] [v] := by
  unfold madeL at h
  obtain ⟨a, _, rfl⟩ := List.mem_map.mp h
  exact ⟨a, rfl⟩
def sp_law_whole : Spec := fun ds M Q _ => ∃ ns : List Int, ds = [.wl (nums ns)] ∧ ns.length ≤ 63 ∧ ∀ M', Q (.bl true) M'
structure Whole (Γ : Gm) (cA : Nat → Addr) : Prop where
  bag : Γ.call g_law_bag = sp_law_bag
  next : Γ.call g_law_next = sp_law_next
  like : Γ.call g_law_like = sp_like 2
  odd : Γ.call g_law_odd = sp_law_odd
  made : Γ.call g_law_made = sp_law_made cA
  named : Γ.call g_law_named = sp_law_named cA
  kinds : Γ.call g_law_kinds = sp_law_kinds cA
  others : Γ.call g_law_others = sp_law_others
theorem w_law_whole (w : Whole Γ cA) {ds M Q E} (h : sp_law_whole ds M Q E) : wpB Γ b_law_whole (startD n_law_whole ds) M (Kret Q E) := by
  obtain ⟨ns, rfl, hl, hq⟩ := h
  show wpB Γ b_law_whole [some (.wl (nums ns)), none, none, none, none, none, none, none, none, none] M (Kret Q E)
  unfold b_law_whole
  ((try with_reducible refine nx_of ?_); simp only [↓B_one, ↓B_cons, ↓B_nil, ↓S_skip, ↓S_set, ↓S_unp, ↓S_par, ↓S_aug, ↓S_sto, ↓S_stg, ↓S_ex, ↓S_ret, ↓S_retn, ↓S_ite, ↓S_for, ↓S_whl, ↓S_brk, ↓S_cnt, ↓S_rais, ↓S_thru, ↓E_var, ↓look_0, ↓look_s, ↓E_ci, ↓E_cb, ↓E_cn, ↓E_cs, ↓E_bin, ↓E_un, ↓E_no, ↓E_an, ↓E_or, ↓E_cmp, ↓E_ch, ↓E_ife, ↓E_tup, ↓E_lst, ↓E_ix, ↓E_sl, ↓E_rev, ↓E_call, ↓E_callk, ↓E_blt, ↓E_mth, ↓E_ixc, ↓E_inc, ↓E_isi, ↓E_lrg, ↓E_lc, ↓E_fld, ↓E_isx, isW, fldW, isxW, N_exc, seq_rt, seq_bk, seq_ct, seq_ex, loop_rt, loop_bk, loop_ex, ret_nx, ret_rt', wpA, wpT, wpAnE, wpOrE, wpAnT, wpOrT, wpC, wpI, binW, addW, mulW, intW, CNo, CPos, CNN, unW, cmpW, eqW, ordW, ixW, B_len, B_int, B_abs, B_min, B_max, B_sum, B_tuple, B_list, lenW, int1W, absW, minW, maxW, sumW, tupleW, listW, augW, M_append, M_pop, ownL, stoW, getW, tgW, setAll, lrgW, partW, isCn, slW, revW, inW, truth, isAny, tyName, kit_NoneType_tuple, kit_NoneType_bool, kit_NoneType_int, kit_NoneType_str, kit_NoneType_list, kit_bool_tuple, kit_bool_bool, kit_bool_int, kit_bool_str, kit_bool_list, kit_int_tuple, kit_int_bool, kit_int_int, kit_int_str, kit_int_list, kit_str_tuple, kit_str_bool, kit_str_int, kit_str_str, kit_str_list, kit_tuple_tuple, kit_tuple_bool, kit_tuple_int, kit_tuple_str, kit_tuple_list, kit_list_tuple, kit_list_bool, kit_list_int, kit_list_str, kit_list_list, N_non, N_bl, N_int, N_str, N_tup, N_rl, N_wl, N_obj, I_tup, I_rl, I_wl, I_obj, LL_rl, LL_obj, O.xs, newL, wipeD, List.getElem?_cons_zero, List.getElem?_cons_succ, List.getElem?_nil, List.set_cons_zero, List.set_cons_succ, Option.some.injEq, exists_and_left, exists_eq', exists_eq, exists_eq_left', exists_eq_left, true_and, and_true, Bool.not_true, Bool.not_false, reduceCtorEq, ite_true, ite_false, if_true, if_false, String.reduceEq, D.int.injEq, D.bl.injEq, D.tup.injEq, D.rl.injEq, D.wl.injEq, D.obj.injEq, D.str.injEq, forall_const, Option.map_some, List.cons_append, List.nil_append, List.length_cons, List.length_nil, w.bag]; repeat (with_reducible refine nx_of ?_; simp only [↓B_one, ↓B_cons, ↓B_nil, ↓S_skip, ↓S_set, ↓S_unp, ↓S_par, ↓S_aug, ↓S_sto, ↓S_stg, ↓S_ex, ↓S_ret, ↓S_retn, ↓S_ite, ↓S_for, ↓S_whl, ↓S_brk, ↓S_cnt, ↓S_rais, ↓S_thru, ↓E_var, ↓look_0, ↓look_s, ↓E_ci, ↓E_cb, ↓E_cn, ↓E_cs, ↓E_bin, ↓E_un, ↓E_no, ↓E_an, ↓E_or, ↓E_cmp, ↓E_ch, ↓E_ife, ↓E_tup, ↓E_lst, ↓E_ix, ↓E_sl, ↓E_rev, ↓E_call, ↓E_callk, ↓E_blt, ↓E_mth, ↓E_ixc, ↓E_inc, ↓E_isi, ↓E_lrg, ↓E_lc, ↓E_fld, ↓E_isx, isW, fldW, isxW, N_exc, seq_rt, seq_bk, seq_ct, seq_ex, loop_rt, loop_bk, loop_ex, ret_nx, ret_rt', wpA, wpT, wpAnE, wpOrE, wpAnT, wpOrT, wpC, wpI, binW, addW, mulW, intW, CNo, CPos, CNN, unW, cmpW, eqW, ordW, ixW, B_len, B_int, B_abs, B_min, B_max, B_sum, B_tuple, B_list, lenW, int1W, absW, minW, maxW, sumW, tupleW, listW, augW, M_append, M_pop, ownL, stoW, getW, tgW, setAll, lrgW, partW, isCn, slW, revW, inW, truth, isAny, tyName, kit_NoneType_tuple, kit_NoneType_bool, kit_NoneType_int, kit_NoneType_str, kit_NoneType_list, kit_bool_tuple, kit_bool_bool, kit_bool_int, kit_bool_str, kit_bool_list, kit_int_tuple, kit_int_bool, kit_int_int, kit_int_str, kit_int_list, kit_str_tuple, kit_str_bool, kit_str_int, kit_str_str, kit_str_list, kit_tuple_tuple, kit_tuple_bool, kit_tuple_int, kit_tuple_str, kit_tuple_list, kit_list_tuple, kit_list_bool, kit_list_int, kit_list_str, kit_list_list, N_non, N_bl, N_int, N_str, N_tup, N_rl, N_wl, N_obj, I_tup, I_rl, I_wl, I_obj, LL_rl, LL_obj, O.xs, newL, wipeD, List.getElem?_cons_zero, List.getElem?_cons_succ, List.getElem?_nil, List.set_cons_zero, List.set_cons_succ, Option.some.injEq, exists_and_left, exists_eq', exists_eq, exists_eq_left', exists_eq_left, true_and, and_true, Bool.not_true, Bool.not_false, reduceCtorEq, ite_true, ite_false, if_true, if_false, String.reduceEq, D.int.injEq, D.bl.injEq, D.tup.injEq, D.rl.injEq, D.wl.injEq, D.obj.injEq, D.str.injEq, forall_const, Option.map_some, List.cons_append, List.nil_append, List.length_cons, List.length_nil, w.bag]))
  refine ⟨ns, rfl, hl, fun p bs hp => ?_⟩
  ((try with_reducible refine nx_of ?_); simp only [↓B_one, ↓B_cons, ↓B_nil, ↓S_skip, ↓S_set, ↓S_unp, ↓S_par, ↓S_aug, ↓S_sto, ↓S_stg, ↓S_ex, ↓S_ret, ↓S_retn, ↓S_ite, ↓S_for, ↓S_whl, ↓S_brk, ↓S_cnt, ↓S_rais, ↓S_thru, ↓E_var, ↓look_0, ↓look_s, ↓E_ci, ↓E_cb, ↓E_cn, ↓E_cs, ↓E_bin, ↓E_un, ↓E_no, ↓E_an, ↓E_or, ↓E_cmp, ↓E_ch, ↓E_ife, ↓E_tup, ↓E_lst, ↓E_ix, ↓E_sl, ↓E_rev, ↓E_call, ↓E_callk, ↓E_blt, ↓E_mth, ↓E_ixc, ↓E_inc, ↓E_isi, ↓E_lrg, ↓E_lc, ↓E_fld, ↓E_isx, isW, fldW, isxW, N_exc, seq_rt, seq_bk, seq_ct, seq_ex, loop_rt, loop_bk, loop_ex, ret_nx, ret_rt', wpA, wpT, wpAnE, wpOrE, wpAnT, wpOrT, wpC, wpI, binW, addW, mulW, intW, CNo, CPos, CNN, unW, cmpW, eqW, ordW, ixW, B_len, B_int, B_abs, B_min, B_max, B_sum, B_tuple, B_list, lenW, int1W, absW, minW, maxW, sumW, tupleW, listW, augW, M_append, M_pop, ownL, stoW, getW, tgW, setAll, lrgW, partW, isCn, slW, revW, inW, truth, isAny, tyName, kit_NoneType_tuple, kit_NoneType_bool, kit_NoneType_int, kit_NoneType_str, kit_NoneType_list, kit_bool_tuple, kit_bool_bool, kit_bool_int, kit_bool_str, kit_bool_list, kit_int_tuple, kit_int_bool, kit_int_int, kit_int_str, kit_int_list, kit_str_tuple, kit_str_bool, kit_str_int, kit_str_str, kit_str_list, kit_tuple_tuple, kit_tuple_bool, kit_tuple_int, kit_tuple_str, kit_tuple_list, kit_list_tuple, kit_list_bool, kit_list_int, kit_list_str, kit_list_list, N_non, N_bl, N_int, N_str, N_tup, N_rl, N_wl, N_obj, I_tup, I_rl, I_wl, I_obj, LL_rl, LL_obj, O.xs, newL, wipeD, List.getElem?_cons_zero, List.getElem?_cons_succ, List.getElem?_nil, List.set_cons_zero, List.set_cons_succ, Option.some.injEq, exists_and_left, exists_eq', exists_eq, exists_eq_left', exists_eq_left, true_and, and_true, Bool.not_true, Bool.not_false, reduceCtorEq, ite_true, ite_false, if_true, if_false, String.reduceEq, D.int.injEq, D.bl.injEq, D.tup.injEq, D.rl.injEq, D.wl.injEq, D.obj.injEq, D.str.injEq, forall_const, Option.map_some, List.cons_append, List.nil_append, List.length_cons, List.length_nil, w.odd]; repeat (with_reducible refine nx_of ?_; simp only [↓B_one, ↓B_cons, ↓B_nil, ↓S_skip, ↓S_set, ↓S_unp, ↓S_par, ↓S_aug, ↓S_sto, ↓S_stg, ↓S_ex, ↓S_ret, ↓S_retn, ↓S_ite, ↓S_for, ↓S_whl, ↓S_brk, ↓S_cnt, ↓S_rais, ↓S_thru, ↓E_var, ↓look_0, ↓look_s, ↓E_ci, ↓E_cb, ↓E_cn, ↓E_cs, ↓E_bin, ↓E_un, ↓E_no, ↓E_an, ↓E_or, ↓E_cmp, ↓E_ch, ↓E_ife, ↓E_tup, ↓E_lst, ↓E_ix, ↓E_sl, ↓E_rev, ↓E_call, ↓E_callk, ↓E_blt, ↓E_mth, ↓E_ixc, ↓E_inc, ↓E_isi, ↓E_lrg, ↓E_lc, ↓E_fld, ↓E_isx, isW, fldW, isxW, N_exc, seq_rt, seq_bk, seq_ct, seq_ex, loop_rt, loop_bk, loop_ex, ret_nx, ret_rt', wpA, wpT, wpAnE, wpOrE, wpAnT, wpOrT, wpC, wpI, binW, addW, mulW, intW, CNo, CPos, CNN, unW, cmpW, eqW, ordW, ixW, B_len, B_int, B_abs, B_min, B_max, B_sum, B_tuple, B_list, lenW, int1W, absW, minW, maxW, sumW, tupleW, listW, augW, M_append, M_pop, ownL, stoW, getW, tgW, setAll, lrgW, partW, isCn, slW, revW, inW, truth, isAny, tyName, kit_NoneType_tuple, kit_NoneType_bool, kit_NoneType_int, kit_NoneType_str, kit_NoneType_list, kit_bool_tuple, kit_bool_bool, kit_bool_int, kit_bool_str, kit_bool_list, kit_int_tuple, kit_int_bool, kit_int_int, kit_int_str, kit_int_list, kit_str_tuple, kit_str_bool, kit_str_int, kit_str_str, kit_str_list, kit_tuple_tuple, kit_tuple_bool, kit_tuple_int, kit_tuple_str, kit_tuple_list, kit_list_tuple, kit_list_bool, kit_list_int, kit_list_str, kit_list_list, N_non, N_bl, N_int, N_str, N_tup, N_rl, N_wl, N_obj, I_tup, I_rl, I_wl, I_obj, LL_rl, LL_obj, O.xs, newL, wipeD, List.getElem?_cons_zero, List.getElem?_cons_succ, List.getElem?_nil, List.set_cons_zero, List.set_cons_succ, Option.some.injEq, exists_and_left, exists_eq', exists_eq, exists_eq_left', exists_eq_left, true_and, and_true, Bool.not_true, Bool.not_false, reduceCtorEq, ite_true, ite_false, if_true, if_false, String.reduceEq, D.int.injEq, D.bl.injEq, D.tup.injEq, D.rl.injEq, D.wl.injEq, D.obj.injEq, D.str.injEq, forall_const, Option.map_some, List.cons_append, List.nil_append, List.length_cons, List.length_nil, w.odd]))
  refine ⟨p, bs, rfl, put_same, fun v bs1 hv => ?_⟩
  rw [put_put]
  ((try with_reducible refine nx_of ?_); simp only [↓B_one, ↓B_cons, ↓B_nil, ↓S_skip, ↓S_set, ↓S_unp, ↓S_par, ↓S_aug, ↓S_sto, ↓S_stg, ↓S_ex, ↓S_ret, ↓S_retn, ↓S_ite, ↓S_for, ↓S_whl, ↓S_brk, ↓S_cnt, ↓S_rais, ↓S_thru, ↓E_var, ↓look_0, ↓look_s, ↓E_ci, ↓E_cb, ↓E_cn, ↓E_cs, ↓E_bin, ↓E_un, ↓E_no, ↓E_an, ↓E_or, ↓E_cmp, ↓E_ch, ↓E_ife, ↓E_tup, ↓E_lst, ↓E_ix, ↓E_sl, ↓E_rev, ↓E_call, ↓E_callk, ↓E_blt, ↓E_mth, ↓E_ixc, ↓E_inc, ↓E_isi, ↓E_lrg, ↓E_lc, ↓E_fld, ↓E_isx, isW, fldW, isxW, N_exc, seq_rt, seq_bk, seq_ct, seq_ex, loop_rt, loop_bk, loop_ex, ret_nx, ret_rt', wpA, wpT, wpAnE, wpOrE, wpAnT, wpOrT, wpC, wpI, binW, addW, mulW, intW, CNo, CPos, CNN, unW, cmpW, eqW, ordW, ixW, B_len, B_int, B_abs, B_min, B_max, B_sum, B_tuple, B_list, lenW, int1W, absW, minW, maxW, sumW, tupleW, listW, augW, M_append, M_pop, ownL, stoW, getW, tgW, setAll, lrgW, partW, isCn, slW, revW, inW, truth, isAny, tyName, kit_NoneType_tuple, kit_NoneType_bool, kit_NoneType_int, kit_NoneType_str, kit_NoneType_list, kit_bool_tuple, kit_bool_bool, kit_bool_int, kit_bool_str, kit_bool_list, kit_int_tuple, kit_int_bool, kit_int_int, kit_int_str, kit_int_list, kit_str_tuple, kit_str_bool, kit_str_int, kit_str_str, kit_str_list, kit_tuple_tuple, kit_tuple_bool, kit_tuple_int, kit_tuple_str, kit_tuple_list, kit_list_tuple, kit_list_bool, kit_list_int, kit_list_str, kit_list_list, N_non, N_bl, N_int, N_str, N_tup, N_rl, N_wl, N_obj, I_tup, I_rl, I_wl, I_obj, LL_rl, LL_obj, O.xs, newL, wipeD, List.getElem?_cons_zero, List.getElem?_cons_succ, List.getElem?_nil, List.set_cons_zero, List.set_cons_succ, Option.some.injEq, exists_and_left, exists_eq', exists_eq, exists_eq_left', exists_eq_left, true_and, and_true, Bool.not_true, Bool.not_false, reduceCtorEq, ite_true, ite_false, if_true, if_false, String.reduceEq, D.int.injEq, D.bl.injEq, D.tup.injEq, D.rl.injEq, D.wl.injEq, D.obj.injEq, D.str.injEq, forall_const, Option.map_some, List.cons_append, List.nil_append, List.length_cons, List.length_nil, w.odd]; repeat (with_reducible refine nx_of ?_; simp only [↓B_one, ↓B_cons, ↓B_nil, ↓S_skip, ↓S_set, ↓S_unp, ↓S_par, ↓S_aug, ↓S_sto, ↓S_stg, ↓S_ex, ↓S_ret, ↓S_retn, ↓S_ite, ↓S_for, ↓S_whl, ↓S_brk, ↓S_cnt, ↓S_rais, ↓S_thru, ↓E_var, ↓look_0, ↓look_s, ↓E_ci, ↓E_cb, ↓E_cn, ↓E_cs, ↓E_bin, ↓E_un, ↓E_no, ↓E_an, ↓E_or, ↓E_cmp, ↓E_ch, ↓E_ife, ↓E_tup, ↓E_lst, ↓E_ix, ↓E_sl, ↓E_rev, ↓E_call, ↓E_callk, ↓E_blt, ↓E_mth, ↓E_ixc, ↓E_inc, ↓E_isi, ↓E_lrg, ↓E_lc, ↓E_fld, ↓E_isx, isW, fldW, isxW, N_exc, seq_rt, seq_bk, seq_ct, seq_ex, loop_rt, loop_bk, loop_ex, ret_nx, ret_rt', wpA, wpT, wpAnE, wpOrE, wpAnT, wpOrT, wpC, wpI, binW, addW, mulW, intW, CNo, CPos, CNN, unW, cmpW, eqW, ordW, ixW, B_len, B_int, B_abs, B_min, B_max, B_sum, B_tuple, B_list, lenW, int1W, absW, minW, maxW, sumW, tupleW, listW, augW, M_append, M_pop, ownL, stoW, getW, tgW, setAll, lrgW, partW, isCn, slW, revW, inW, truth, isAny, tyName, kit_NoneType_tuple, kit_NoneType_bool, kit_NoneType_int, kit_NoneType_str, kit_NoneType_list, kit_bool_tuple, kit_bool_bool, kit_bool_int, kit_bool_str, kit_bool_list, kit_int_tuple, kit_int_bool, kit_int_int, kit_int_str, kit_int_list, kit_str_tuple, kit_str_bool, kit_str_int, kit_str_str, kit_str_list, kit_tuple_tuple, kit_tuple_bool, kit_tuple_int, kit_tuple_str, kit_tuple_list, kit_list_tuple, kit_list_bool, kit_list_int, kit_list_str, kit_list_list, N_non, N_bl, N_int, N_str, N_tup, N_rl, N_wl, N_obj, I_tup, I_rl, I_wl, I_obj, LL_rl, LL_obj, O.xs, newL, wipeD, List.getElem?_cons_zero, List.getElem?_cons_succ, List.getElem?_nil, List.set_cons_zero, List.set_cons_succ, Option.some.injEq, exists_and_left, exists_eq', exists_eq, exists_eq_left', exists_eq_left, true_and, and_true, Bool.not_true, Bool.not_false, reduceCtorEq, ite_true, ite_false, if_true, if_false, String.reduceEq, D.int.injEq, D.bl.injEq, D.tup.injEq, D.rl.injEq, D.wl.injEq, D.obj.injEq, D.str.injEq, forall_const, Option.map_some, List.cons_append, List.nil_append, List.length_cons, List.length_nil, w.odd]))
  refine ⟨p, bs1, rfl, put_same, fun u bs2 hu => ?_⟩
  rw [put_put]
  ((try with_reducible refine nx_of ?_); simp only [↓B_one, ↓B_cons, ↓B_nil, ↓S_skip, ↓S_set, ↓S_unp, ↓S_par, ↓S_aug, ↓S_sto, ↓S_stg, ↓S_ex, ↓S_ret, ↓S_retn, ↓S_ite, ↓S_for, ↓S_whl, ↓S_brk, ↓S_cnt, ↓S_rais, ↓S_thru, ↓E_var, ↓look_0, ↓look_s, ↓E_ci, ↓E_cb, ↓E_cn, ↓E_cs, ↓E_bin, ↓E_un, ↓E_no, ↓E_an, ↓E_or, ↓E_cmp, ↓E_ch, ↓E_ife, ↓E_tup, ↓E_lst, ↓E_ix, ↓E_sl, ↓E_rev, ↓E_call, ↓E_callk, ↓E_blt, ↓E_mth, ↓E_ixc, ↓E_inc, ↓E_isi, ↓E_lrg, ↓E_lc, ↓E_fld, ↓E_isx, isW, fldW, isxW, N_exc, seq_rt, seq_bk, seq_ct, seq_ex, loop_rt, loop_bk, loop_ex, ret_nx, ret_rt', wpA, wpT, wpAnE, wpOrE, wpAnT, wpOrT, wpC, wpI, binW, addW, mulW, intW, CNo, CPos, CNN, unW, cmpW, eqW, ordW, ixW, B_len, B_int, B_abs, B_min, B_max, B_sum, B_tuple, B_list, lenW, int1W, absW, minW, maxW, sumW, tupleW, listW, augW, M_append, M_pop, ownL, stoW, getW, tgW, setAll, lrgW, partW, isCn, slW, revW, inW, truth, isAny, tyName, kit_NoneType_tuple, kit_NoneType_bool, kit_NoneType_int, kit_NoneType_str, kit_NoneType_list, kit_bool_tuple, kit_bool_bool, kit_bool_int, kit_bool_str, kit_bool_list, kit_int_tuple, kit_int_bool, kit_int_int, kit_int_str, kit_int_list, kit_str_tuple, kit_str_bool, kit_str_int, kit_str_str, kit_str_list, kit_tuple_tuple, kit_tuple_bool, kit_tuple_int, kit_tuple_str, kit_tuple_list, kit_list_tuple, kit_list_bool, kit_list_int, kit_list_str, kit_list_list, N_non, N_bl, N_int, N_str, N_tup, N_rl, N_wl, N_obj, I_tup, I_rl, I_wl, I_obj, LL_rl, LL_obj, O.xs, newL, wipeD, List.getElem?_cons_zero, List.getElem?_cons_succ, List.getElem?_nil, List.set_cons_zero, List.set_cons_succ, Option.some.injEq, exists_and_left, exists_eq', exists_eq, exists_eq_left', exists_eq_left, true_and, and_true, Bool.not_true, Bool.not_false, reduceCtorEq, ite_true, ite_false, if_true, if_false, String.reduceEq, D.int.injEq, D.bl.injEq, D.tup.injEq, D.rl.injEq, D.wl.injEq, D.obj.injEq, D.str.injEq, forall_const, Option.map_some, List.cons_append, List.nil_append, List.length_cons, List.length_nil, w.made]; repeat (with_reducible refine nx_of ?_; simp only [↓B_one, ↓B_cons, ↓B_nil, ↓S_skip, ↓S_set, ↓S_unp, ↓S_par, ↓S_aug, ↓S_sto, ↓S_stg, ↓S_ex, ↓S_ret, ↓S_retn, ↓S_ite, ↓S_for, ↓S_whl, ↓S_brk, ↓S_cnt, ↓S_rais, ↓S_thru, ↓E_var, ↓look_0, ↓look_s, ↓E_ci, ↓E_cb, ↓E_cn, ↓E_cs, ↓E_bin, ↓E_un, ↓E_no, ↓E_an, ↓E_or, ↓E_cmp, ↓E_ch, ↓E_ife, ↓E_tup, ↓E_lst, ↓E_ix, ↓E_sl, ↓E_rev, ↓E_call, ↓E_callk, ↓E_blt, ↓E_mth, ↓E_ixc, ↓E_inc, ↓E_isi, ↓E_lrg, ↓E_lc, ↓E_fld, ↓E_isx, isW, fldW, isxW, N_exc, seq_rt, seq_bk, seq_ct, seq_ex, loop_rt, loop_bk, loop_ex, ret_nx, ret_rt', wpA, wpT, wpAnE, wpOrE, wpAnT, wpOrT, wpC, wpI, binW, addW, mulW, intW, CNo, CPos, CNN, unW, cmpW, eqW, ordW, ixW, B_len, B_int, B_abs, B_min, B_max, B_sum, B_tuple, B_list, lenW, int1W, absW, minW, maxW, sumW, tupleW, listW, augW, M_append, M_pop, ownL, stoW, getW, tgW, setAll, lrgW, partW, isCn, slW, revW, inW, truth, isAny, tyName, kit_NoneType_tuple, kit_NoneType_bool, kit_NoneType_int, kit_NoneType_str, kit_NoneType_list, kit_bool_tuple, kit_bool_bool, kit_bool_int, kit_bool_str, kit_bool_list, kit_int_tuple, kit_int_bool, kit_int_int, kit_int_str, kit_int_list, kit_str_tuple, kit_str_bool, kit_str_int, kit_str_str, kit_str_list, kit_tuple_tuple, kit_tuple_bool, kit_tuple_int, kit_tuple_str, kit_tuple_list, kit_list_tuple, kit_list_bool, kit_list_int, kit_list_str, kit_list_list, N_non, N_bl, N_int, N_str, N_tup, N_rl, N_wl, N_obj, I_tup, I_rl, I_wl, I_obj, LL_rl, LL_obj, O.xs, newL, wipeD, List.getElem?_cons_zero, List.getElem?_cons_succ, List.getElem?_nil, List.set_cons_zero, List.set_cons_succ, Option.some.injEq, exists_and_left, exists_eq', exists_eq, exists_eq_left', exists_eq_left, true_and, and_true, Bool.not_true, Bool.not_false, reduceCtorEq, ite_true, ite_false, if_true, if_false, String.reduceEq, D.int.injEq, D.bl.injEq, D.tup.injEq, D.rl.injEq, D.wl.injEq, D.obj.injEq, D.str.injEq, forall_const, Option.map_some, List.cons_append, List.nil_append, List.length_cons, List.length_nil, w.made]))
  refine ⟨v, rfl, ?_⟩
  ((try with_reducible refine nx_of ?_); simp only [↓B_one, ↓B_cons, ↓B_nil, ↓S_skip, ↓S_set, ↓S_unp, ↓S_par, ↓S_aug, ↓S_sto, ↓S_stg, ↓S_ex, ↓S_ret, ↓S_retn, ↓S_ite, ↓S_for, ↓S_whl, ↓S_brk, ↓S_cnt, ↓S_rais, ↓S_thru, ↓E_var, ↓look_0, ↓look_s, ↓E_ci, ↓E_cb, ↓E_cn, ↓E_cs, ↓E_bin, ↓E_un, ↓E_no, ↓E_an, ↓E_or, ↓E_cmp, ↓E_ch, ↓E_ife, ↓E_tup, ↓E_lst, ↓E_ix, ↓E_sl, ↓E_rev, ↓E_call, ↓E_callk, ↓E_blt, ↓E_mth, ↓E_ixc, ↓E_inc, ↓E_isi, ↓E_lrg, ↓E_lc, ↓E_fld, ↓E_isx, isW, fldW, isxW, N_exc, seq_rt, seq_bk, seq_ct, seq_ex, loop_rt, loop_bk, loop_ex, ret_nx, ret_rt', wpA, wpT, wpAnE, wpOrE, wpAnT, wpOrT, wpC, wpI, binW, addW, mulW, intW, CNo, CPos, CNN, unW, cmpW, eqW, ordW, ixW, B_len, B_int, B_abs, B_min, B_max, B_sum, B_tuple, B_list, lenW, int1W, absW, minW, maxW, sumW, tupleW, listW, augW, M_append, M_pop, ownL, stoW, getW, tgW, setAll, lrgW, partW, isCn, slW, revW, inW, truth, isAny, tyName, kit_NoneType_tuple, kit_NoneType_bool, kit_NoneType_int, kit_NoneType_str, kit_NoneType_list, kit_bool_tuple, kit_bool_bool, kit_bool_int, kit_bool_str, kit_bool_list, kit_int_tuple, kit_int_bool, kit_int_int, kit_int_str, kit_int_list, kit_str_tuple, kit_str_bool, kit_str_int, kit_str_str, kit_str_list, kit_tuple_tuple, kit_tuple_bool, kit_tuple_int, kit_tuple_str, kit_tuple_list, kit_list_tuple, kit_list_bool, kit_list_int, kit_list_str, kit_list_list, N_non, N_bl, N_int, N_str, N_tup, N_rl, N_wl, N_obj, I_tup, I_rl, I_wl, I_obj, LL_rl, LL_obj, O.xs, newL, wipeD, List.getElem?_cons_zero, List.getElem?_cons_succ, List.getElem?_nil, List.set_cons_zero, List.set_cons_succ, Option.some.injEq, exists_and_left, exists_eq', exists_eq, exists_eq_left', exists_eq_left, true_and, and_true, Bool.not_true, Bool.not_false, reduceCtorEq, ite_true, ite_false, if_true, if_false, String.reduceEq, D.int.injEq, D.bl.injEq, D.tup.injEq, D.rl.injEq, D.wl.injEq, D.obj.injEq, D.str.injEq, forall_const, Option.map_some, List.cons_append, List.nil_append, List.length_cons, List.length_nil, w.named]; repeat (with_reducible refine nx_of ?_; simp only [↓B_one, ↓B_cons, ↓B_nil, ↓S_skip, ↓S_set, ↓S_unp, ↓S_par, ↓S_aug, ↓S_sto, ↓S_stg, ↓S_ex, ↓S_ret, ↓S_retn, ↓S_ite, ↓S_for, ↓S_whl, ↓S_brk, ↓S_cnt, ↓S_rais, ↓S_thru, ↓E_var, ↓look_0, ↓look_s, ↓E_ci, ↓E_cb, ↓E_cn, ↓E_cs, ↓E_bin, ↓E_un, ↓E_no, ↓E_an, ↓E_or, ↓E_cmp, ↓E_ch, ↓E_ife, ↓E_tup, ↓E_lst, ↓E_ix, ↓E_sl, ↓E_rev, ↓E_call, ↓E_callk, ↓E_blt, ↓E_mth, ↓E_ixc, ↓E_inc, ↓E_isi, ↓E_lrg, ↓E_lc, ↓E_fld, ↓E_isx, isW, fldW, isxW, N_exc, seq_rt, seq_bk, seq_ct, seq_ex, loop_rt, loop_bk, loop_ex, ret_nx, ret_rt', wpA, wpT, wpAnE, wpOrE, wpAnT, wpOrT, wpC, wpI, binW, addW, mulW, intW, CNo, CPos, CNN, unW, cmpW, eqW, ordW, ixW, B_len, B_int, B_abs, B_min, B_max, B_sum, B_tuple, B_list, lenW, int1W, absW, minW, maxW, sumW, tupleW, listW, augW, M_append, M_pop, ownL, stoW, getW, tgW, setAll, lrgW, partW, isCn, slW, revW, inW, truth, isAny, tyName, kit_NoneType_tuple, kit_NoneType_bool, kit_NoneType_int, kit_NoneType_str, kit_NoneType_list, kit_bool_tuple, kit_bool_bool, kit_bool_int, kit_bool_str, kit_bool_list, kit_int_tuple, kit_int_bool, kit_int_int, kit_int_str, kit_int_list, kit_str_tuple, kit_str_bool, kit_str_int, kit_str_str, kit_str_list, kit_tuple_tuple, kit_tuple_bool, kit_tuple_int, kit_tuple_str, kit_tuple_list, kit_list_tuple, kit_list_bool, kit_list_int, kit_list_str, kit_list_list, N_non, N_bl, N_int, N_str, N_tup, N_rl, N_wl, N_obj, I_tup, I_rl, I_wl, I_obj, LL_rl, LL_obj, O.xs, newL, wipeD, List.getElem?_cons_zero, List.getElem?_cons_succ, List.getElem?_nil, List.set_cons_zero, List.set_cons_succ, Option.some.injEq, exists_and_left, exists_eq', exists_eq, exists_eq_left', exists_eq_left, true_and, and_true, Bool.not_true, Bool.not_false, reduceCtorEq, ite_true, ite_false, if_true, if_false, String.reduceEq, D.int.injEq, D.bl.injEq, D.tup.injEq, D.rl.injEq, D.wl.injEq, D.obj.injEq, D.str.injEq, forall_const, Option.map_some, List.cons_append, List.nil_append, List.length_cons, List.length_nil, w.named]))
  refine ⟨u, rfl, ?_⟩
  ((try with_reducible refine nx_of ?_); simp only [↓B_one, ↓B_cons, ↓B_nil, ↓S_skip, ↓S_set, ↓S_unp, ↓S_par, ↓S_aug, ↓S_sto, ↓S_stg, ↓S_ex, ↓S_ret, ↓S_retn, ↓S_ite, ↓S_for, ↓S_whl, ↓S_brk, ↓S_cnt, ↓S_rais, ↓S_thru, ↓E_var, ↓look_0, ↓look_s, ↓E_ci, ↓E_cb, ↓E_cn, ↓E_cs, ↓E_bin, ↓E_un, ↓E_no, ↓E_an, ↓E_or, ↓E_cmp, ↓E_ch, ↓E_ife, ↓E_tup, ↓E_lst, ↓E_ix, ↓E_sl, ↓E_rev, ↓E_call, ↓E_callk, ↓E_blt, ↓E_mth, ↓E_ixc, ↓E_inc, ↓E_isi, ↓E_lrg, ↓E_lc, ↓E_fld, ↓E_isx, isW, fldW, isxW, N_exc, seq_rt, seq_bk, seq_ct, seq_ex, loop_rt, loop_bk, loop_ex, ret_nx, ret_rt', wpA, wpT, wpAnE, wpOrE, wpAnT, wpOrT, wpC, wpI, binW, addW, mulW, intW, CNo, CPos, CNN, unW, cmpW, eqW, ordW, ixW, B_len, B_int, B_abs, B_min, B_max, B_sum, B_tuple, B_list, lenW, int1W, absW, minW, maxW, sumW, tupleW, listW, augW, M_append, M_pop, ownL, stoW, getW, tgW, setAll, lrgW, partW, isCn, slW, revW, inW, truth, isAny, tyName, kit_NoneType_tuple, kit_NoneType_bool, kit_NoneType_int, kit_NoneType_str, kit_NoneType_list, kit_bool_tuple, kit_bool_bool, kit_bool_int, kit_bool_str, kit_bool_list, kit_int_tuple, kit_int_bool, kit_int_int, kit_int_str, kit_int_list, kit_str_tuple, kit_str_bool, kit_str_int, kit_str_str, kit_str_list, kit_tuple_tuple, kit_tuple_bool, kit_tuple_int, kit_tuple_str, kit_tuple_list, kit_list_tuple, kit_list_bool, kit_list_int, kit_list_str, kit_list_list, N_non, N_bl, N_int, N_str, N_tup, N_rl, N_wl, N_obj, I_tup, I_rl, I_wl, I_obj, LL_rl, LL_obj, O.xs, newL, wipeD, List.getElem?_cons_zero, List.getElem?_cons_succ, List.getElem?_nil, List.set_cons_zero, List.set_cons_succ, Option.some.injEq, exists_and_left, exists_eq', exists_eq, exists_eq_left', exists_eq_left, true_and, and_true, Bool.not_true, Bool.not_false, reduceCtorEq, ite_true, ite_false, if_true, if_false, String.reduceEq, D.int.injEq, D.bl.injEq, D.tup.injEq, D.rl.injEq, D.wl.injEq, D.obj.injEq, D.str.injEq, forall_const, Option.map_some, List.cons_append, List.nil_append, List.length_cons, List.length_nil, w.kinds]; repeat (with_reducible refine nx_of ?_; simp only [↓B_one, ↓B_cons, ↓B_nil, ↓S_skip, ↓S_set, ↓S_unp, ↓S_par, ↓S_aug, ↓S_sto, ↓S_stg, ↓S_ex, ↓S_ret, ↓S_retn, ↓S_ite, ↓S_for, ↓S_whl, ↓S_brk, ↓S_cnt, ↓S_rais, ↓S_thru, ↓E_var, ↓look_0, ↓look_s, ↓E_ci, ↓E_cb, ↓E_cn, ↓E_cs, ↓E_bin, ↓E_un, ↓E_no, ↓E_an, ↓E_or, ↓E_cmp, ↓E_ch, ↓E_ife, ↓E_tup, ↓E_lst, ↓E_ix, ↓E_sl, ↓E_rev, ↓E_call, ↓E_callk, ↓E_blt, ↓E_mth, ↓E_ixc, ↓E_inc, ↓E_isi, ↓E_lrg, ↓E_lc, ↓E_fld, ↓E_isx, isW, fldW, isxW, N_exc, seq_rt, seq_bk, seq_ct, seq_ex, loop_rt, loop_bk, loop_ex, ret_nx, ret_rt', wpA, wpT, wpAnE, wpOrE, wpAnT, wpOrT, wpC, wpI, binW, addW, mulW, intW, CNo, CPos, CNN, unW, cmpW, eqW, ordW, ixW, B_len, B_int, B_abs, B_min, B_max, B_sum, B_tuple, B_list, lenW, int1W, absW, minW, maxW, sumW, tupleW, listW, augW, M_append, M_pop, ownL, stoW, getW, tgW, setAll, lrgW, partW, isCn, slW, revW, inW, truth, isAny, tyName, kit_NoneType_tuple, kit_NoneType_bool, kit_NoneType_int, kit_NoneType_str, kit_NoneType_list, kit_bool_tuple, kit_bool_bool, kit_bool_int, kit_bool_str, kit_bool_list, kit_int_tuple, kit_int_bool, kit_int_int, kit_int_str, kit_int_list, kit_str_tuple, kit_str_bool, kit_str_int, kit_str_str, kit_str_list, kit_tuple_tuple, kit_tuple_bool, kit_tuple_int, kit_tuple_str, kit_tuple_list, kit_list_tuple, kit_list_bool, kit_list_int, kit_list_str, kit_list_list, N_non, N_bl, N_int, N_str, N_tup, N_rl, N_wl, N_obj, I_tup, I_rl, I_wl, I_obj, LL_rl, LL_obj, O.xs, newL, wipeD, List.getElem?_cons_zero, List.getElem?_cons_succ, List.getElem?_nil, List.set_cons_zero, List.set_cons_succ, Option.some.injEq, exists_and_left, exists_eq', exists_eq, exists_eq_left', exists_eq_left, true_and, and_true, Bool.not_true, Bool.not_false, reduceCtorEq, ite_true, ite_false, if_true, if_false, String.reduceEq, D.int.injEq, D.bl.injEq, D.tup.injEq, D.rl.injEq, D.wl.injEq, D.obj.injEq, D.str.injEq, forall_const, Option.map_some, List.cons_append, List.nil_append, List.length_cons, List.length_nil, w.kinds]))
  refine ⟨madeL cA v, 0, rfl, by rw [made_len]; decide, fun k hk => ?_, ?_⟩
  · obtain ⟨a, h1, h2⟩ := made_at (cA := cA) (v := v) (k := k) (by rwa [made_len] at hk)
    exact ⟨a, _, _, h1, by rw [Nat.zero_add]; exact h2⟩
  ((try with_reducible refine nx_of ?_); simp only [↓B_one, ↓B_cons, ↓B_nil, ↓S_skip, ↓S_set, ↓S_unp, ↓S_par, ↓S_aug, ↓S_sto, ↓S_stg, ↓S_ex, ↓S_ret, ↓S_retn, ↓S_ite, ↓S_for, ↓S_whl, ↓S_brk, ↓S_cnt, ↓S_rais, ↓S_thru, ↓E_var, ↓look_0, ↓look_s, ↓E_ci, ↓E_cb, ↓E_cn, ↓E_cs, ↓E_bin, ↓E_un, ↓E_no, ↓E_an, ↓E_or, ↓E_cmp, ↓E_ch, ↓E_ife, ↓E_tup, ↓E_lst, ↓E_ix, ↓E_sl, ↓E_rev, ↓E_call, ↓E_callk, ↓E_blt, ↓E_mth, ↓E_ixc, ↓E_inc, ↓E_isi, ↓E_lrg, ↓E_lc, ↓E_fld, ↓E_isx, isW, fldW, isxW, N_exc, seq_rt, seq_bk, seq_ct, seq_ex, loop_rt, loop_bk, loop_ex, ret_nx, ret_rt', wpA, wpT, wpAnE, wpOrE, wpAnT, wpOrT, wpC, wpI, binW, addW, mulW, intW, CNo, CPos, CNN, unW, cmpW, eqW, ordW, ixW, B_len, B_int, B_abs, B_min, B_max, B_sum, B_tuple, B_list, lenW, int1W, absW, minW, maxW, sumW, tupleW, listW, augW, M_append, M_pop, ownL, stoW, getW, tgW, setAll, lrgW, partW, isCn, slW, revW, inW, truth, isAny, tyName, kit_NoneType_tuple, kit_NoneType_bool, kit_NoneType_int, kit_NoneType_str, kit_NoneType_list, kit_bool_tuple, kit_bool_bool, kit_bool_int, kit_bool_str, kit_bool_list, kit_int_tuple, kit_int_bool, kit_int_int, kit_int_str, kit_int_list, kit_str_tuple, kit_str_bool, kit_str_int, kit_str_str, kit_str_list, kit_tuple_tuple, kit_tuple_bool, kit_tuple_int, kit_tuple_str, kit_tuple_list, kit_list_tuple, kit_list_bool, kit_list_int, kit_list_str, kit_list_list, N_non, N_bl, N_int, N_str, N_tup, N_rl, N_wl, N_obj, I_tup, I_rl, I_wl, I_obj, LL_rl, LL_obj, O.xs, newL, wipeD, List.getElem?_cons_zero, List.getElem?_cons_succ, List.getElem?_nil, List.set_cons_zero, List.set_cons_succ, Option.some.injEq, exists_and_left, exists_eq', exists_eq, exists_eq_left', exists_eq_left, true_and, and_true, Bool.not_true, Bool.not_false, reduceCtorEq, ite_true, ite_false, if_true, if_false, String.reduceEq, D.int.injEq, D.bl.injEq, D.tup.injEq, D.rl.injEq, D.wl.injEq, D.obj.injEq, D.str.injEq, forall_const, Option.map_some, List.cons_append, List.nil_append, List.length_cons, List.length_nil, w.kinds]; repeat (with_reducible refine nx_of ?_; simp only [↓B_one, ↓B_cons, ↓B_nil, ↓S_skip, ↓S_set, ↓S_unp, ↓S_par, ↓S_aug, ↓S_sto, ↓S_stg, ↓S_ex, ↓S_ret, ↓S_retn, ↓S_ite, ↓S_for, ↓S_whl, ↓S_brk, ↓S_cnt, ↓S_rais, ↓S_thru, ↓E_var, ↓look_0, ↓look_s, ↓E_ci, ↓E_cb, ↓E_cn, ↓E_cs, ↓E_bin, ↓E_un, ↓E_no, ↓E_an, ↓E_or, ↓E_cmp, ↓E_ch, ↓E_ife, ↓E_tup, ↓E_lst, ↓E_ix, ↓E_sl, ↓E_rev, ↓E_call, ↓E_callk, ↓E_blt, ↓E_mth, ↓E_ixc, ↓E_inc, ↓E_isi, ↓E_lrg, ↓E_lc, ↓E_fld, ↓E_isx, isW, fldW, isxW, N_exc, seq_rt, seq_bk, seq_ct, seq_ex, loop_rt, loop_bk, loop_ex, ret_nx, ret_rt', wpA, wpT, wpAnE, wpOrE, wpAnT, wpOrT, wpC, wpI, binW, addW, mulW, intW, CNo, CPos, CNN, unW, cmpW, eqW, ordW, ixW, B_len, B_int, B_abs, B_min, B_max, B_sum, B_tuple, B_list, lenW, int1W, absW, minW, maxW, sumW, tupleW, listW, augW, M_append, M_pop, ownL, stoW, getW, tgW, setAll, lrgW, partW, isCn, slW, revW, inW, truth, isAny, tyName, kit_NoneType_tuple, kit_NoneType_bool, kit_NoneType_int, kit_NoneType_str, kit_NoneType_list, kit_bool_tuple, kit_bool_bool, kit_bool_int, kit_bool_str, kit_bool_list, kit_int_tuple, kit_int_bool, kit_int_int, kit_int_str, kit_int_list, kit_str_tuple, kit_str_bool, kit_str_int, kit_str_str, kit_str_list, kit_tuple_tuple, kit_tuple_bool, kit_tuple_int, kit_tuple_str, kit_tuple_list, kit_list_tuple, kit_list_bool, kit_list_int, kit_list_str, kit_list_list, N_non, N_bl, N_int, N_str, N_tup, N_rl, N_wl, N_obj, I_tup, I_rl, I_wl, I_obj, LL_rl, LL_obj, O.xs, newL, wipeD, List.getElem?_cons_zero, List.getElem?_cons_succ, List.getElem?_nil, List.set_cons_zero, List.set_cons_succ, Option.some.injEq, exists_and_left, exists_eq', exists_eq, exists_eq_left', exists_eq_left, true_and, and_true, Bool.not_true, Bool.not_false, reduceCtorEq, ite_true, ite_false, if_true, if_false, String.reduceEq, D.int.injEq, D.bl.injEq, D.tup.injEq, D.rl.injEq, D.wl.injEq, D.obj.injEq, D.str.injEq, forall_const, Option.map_some, List.cons_append, List.nil_append, List.length_cons, List.length_nil, w.kinds]))
  refine ⟨madeL cA u, 0, rfl, by rw [made_len]; decide, fun k hk => ?_, ?_⟩
  · obtain ⟨a, h1, h2⟩ := made_at (cA := cA) (v := u) (k := k) (by rwa [made_len] at hk)
    exact ⟨a, _, _, h1, by rw [Nat.zero_add]; exact h2⟩
  ((try with_reducible refine nx_of ?_); simp only [↓B_one, ↓B_cons, ↓B_nil, ↓S_skip, ↓S_set, ↓S_unp, ↓S_par, ↓S_aug, ↓S_sto, ↓S_stg, ↓S_ex, ↓S_ret, ↓S_retn, ↓S_ite, ↓S_for, ↓S_whl, ↓S_brk, ↓S_cnt, ↓S_rais, ↓S_thru, ↓E_var, ↓look_0, ↓look_s, ↓E_ci, ↓E_cb, ↓E_cn, ↓E_cs, ↓E_bin, ↓E_un, ↓E_no, ↓E_an, ↓E_or, ↓E_cmp, ↓E_ch, ↓E_ife, ↓E_tup, ↓E_lst, ↓E_ix, ↓E_sl, ↓E_rev, ↓E_call, ↓E_callk, ↓E_blt, ↓E_mth, ↓E_ixc, ↓E_inc, ↓E_isi, ↓E_lrg, ↓E_lc, ↓E_fld, ↓E_isx, isW, fldW, isxW, N_exc, seq_rt, seq_bk, seq_ct, seq_ex, loop_rt, loop_bk, loop_ex, ret_nx, ret_rt', wpA, wpT, wpAnE, wpOrE, wpAnT, wpOrT, wpC, wpI, binW, addW, mulW, intW, CNo, CPos, CNN, unW, cmpW, eqW, ordW, ixW, B_len, B_int, B_abs, B_min, B_max, B_sum, B_tuple, B_list, lenW, int1W, absW, minW, maxW, sumW, tupleW, listW, augW, M_append, M_pop, ownL, stoW, getW, tgW, setAll, lrgW, partW, isCn, slW, revW, inW, truth, isAny, tyName, kit_NoneType_tuple, kit_NoneType_bool, kit_NoneType_int, kit_NoneType_str, kit_NoneType_list, kit_bool_tuple, kit_bool_bool, kit_bool_int, kit_bool_str, kit_bool_list, kit_int_tuple, kit_int_bool, kit_int_int, kit_int_str, kit_int_list, kit_str_tuple, kit_str_bool, kit_str_int, kit_str_str, kit_str_list, kit_tuple_tuple, kit_tuple_bool, kit_tuple_int, kit_tuple_str, kit_tuple_list, kit_list_tuple, kit_list_bool, kit_list_int, kit_list_str, kit_list_list, N_non, N_bl, N_int, N_str, N_tup, N_rl, N_wl, N_obj, I_tup, I_rl, I_wl, I_obj, LL_rl, LL_obj, O.xs, newL, wipeD, List.getElem?_cons_zero, List.getElem?_cons_succ, List.getElem?_nil, List.set_cons_zero, List.set_cons_succ, Option.some.injEq, exists_and_left, exists_eq', exists_eq, exists_eq_left', exists_eq_left, true_and, and_true, Bool.not_true, Bool.not_false, reduceCtorEq, ite_true, ite_false, if_true, if_false, String.reduceEq, D.int.injEq, D.bl.injEq, D.tup.injEq, D.rl.injEq, D.wl.injEq, D.obj.injEq, D.str.injEq, forall_const, Option.map_some, List.cons_append, List.nil_append, List.length_cons, List.length_nil]; repeat (with_reducible refine nx_of ?_; simp only [↓B_one, ↓B_cons, ↓B_nil, ↓S_skip, ↓S_set, ↓S_unp, ↓S_par, ↓S_aug, ↓S_sto, ↓S_stg, ↓S_ex, ↓S_ret, ↓S_retn, ↓S_ite, ↓S_for, ↓S_whl, ↓S_brk, ↓S_cnt, ↓S_rais, ↓S_thru, ↓E_var, ↓look_0, ↓look_s, ↓E_ci, ↓E_cb, ↓E_cn, ↓E_cs, ↓E_bin, ↓E_un, ↓E_no, ↓E_an, ↓E_or, ↓E_cmp, ↓E_ch, ↓E_ife, ↓E_tup, ↓E_lst, ↓E_ix, ↓E_sl, ↓E_rev, ↓E_call, ↓E_callk, ↓E_blt, ↓E_mth, ↓E_ixc, ↓E_inc, ↓E_isi, ↓E_lrg, ↓E_lc, ↓E_fld, ↓E_isx, isW, fldW, isxW, N_exc, seq_rt, seq_bk, seq_ct, seq_ex, loop_rt, loop_bk, loop_ex, ret_nx, ret_rt', wpA, wpT, wpAnE, wpOrE, wpAnT, wpOrT, wpC, wpI, binW, addW, mulW, intW, CNo, CPos, CNN, unW, cmpW, eqW, ordW, ixW, B_len, B_int, B_abs, B_min, B_max, B_sum, B_tuple, B_list, lenW, int1W, absW, minW, maxW, sumW, tupleW, listW, augW, M_append, M_pop, ownL, stoW, getW, tgW, setAll, lrgW, partW, isCn, slW, revW, inW, truth, isAny, tyName, kit_NoneType_tuple, kit_NoneType_bool, kit_NoneType_int, kit_NoneType_str, kit_NoneType_list, kit_bool_tuple, kit_bool_bool, kit_bool_int, kit_bool_str, kit_bool_list, kit_int_tuple, kit_int_bool, kit_int_int, kit_int_str, kit_int_list, kit_str_tuple, kit_str_bool, kit_str_int, kit_str_str, kit_str_list, kit_tuple_tuple, kit_tuple_bool, kit_tuple_int, kit_tuple_str, kit_tuple_list, kit_list_tuple, kit_list_bool, kit_list_int, kit_list_str, kit_list_list, N_non, N_bl, N_int, N_str, N_tup, N_rl, N_wl, N_obj, I_tup, I_rl, I_wl, I_obj, LL_rl, LL_obj, O.xs, newL, wipeD, List.getElem?_cons_zero, List.getElem?_cons_succ, List.getElem?_nil, List.set_cons_zero, List.set_cons_succ, Option.some.injEq, exists_and_left, exists_eq', exists_eq, exists_eq_left', exists_eq_left, true_and, and_true, Bool.not_true, Bool.not_false, reduceCtorEq, ite_true, ite_false, if_true, if_false, String.reduceEq, D.int.injEq, D.bl.injEq, D.tup.injEq, D.rl.injEq, D.wl.injEq, D.obj.injEq, D.str.injEq, forall_const, Option.map_some, List.cons_append, List.nil_append, List.length_cons, List.length_nil]))
  refine ⟨by decide, by decide, ?_⟩
  rw [rng0]
  refine loop_range (fun i μ M' => M' = put M p (.lst (nums bs2)) ∧ ∃ a b c d, μ = [some (.wl (nums ns)), some (.obj p), some v, some u, some (.rl (madeL cA v)), some (.rl (madeL cA u)), a, b, c, d]) ⟨rfl, _, _, _, _, rfl⟩ ?_ ?_
  · rintro i μ M' hi ⟨rfl, a, b, c, d, rfl⟩
    have hi : i < 15 := hi
    obtain ⟨a1, h1, _⟩ := made_at (cA := cA) (v := v) (k := i) hi
    obtain ⟨a2, h2, _⟩ := made_at (cA := cA) (v := u) (k := i) hi
    have e1 : atI (madeL cA v) (((0 + i : Nat)) : Int) = some (.exc (cA a1) ["value"] [v]) := atI_nat (by rw [Nat.zero_add]; exact h1)
    have e2 : atI (madeL cA u) (((0 + i : Nat)) : Int) = some (.exc (cA a2) ["value"] [u]) := atI_nat (by rw [Nat.zero_add]; exact h2)
    ((try with_reducible refine nx_of ?_); simp only [↓B_one, ↓B_cons, ↓B_nil, ↓S_skip, ↓S_set, ↓S_unp, ↓S_par, ↓S_aug, ↓S_sto, ↓S_stg, ↓S_ex, ↓S_ret, ↓S_retn, ↓S_ite, ↓S_for, ↓S_whl, ↓S_brk, ↓S_cnt, ↓S_rais, ↓S_thru, ↓E_var, ↓look_0, ↓look_s, ↓E_ci, ↓E_cb, ↓E_cn, ↓E_cs, ↓E_bin, ↓E_un, ↓E_no, ↓E_an, ↓E_or, ↓E_cmp, ↓E_ch, ↓E_ife, ↓E_tup, ↓E_lst, ↓E_ix, ↓E_sl, ↓E_rev, ↓E_call, ↓E_callk, ↓E_blt, ↓E_mth, ↓E_ixc, ↓E_inc, ↓E_isi, ↓E_lrg, ↓E_lc, ↓E_fld, ↓E_isx, isW, fldW, isxW, N_exc, seq_rt, seq_bk, seq_ct, seq_ex, loop_rt, loop_bk, loop_ex, ret_nx, ret_rt', wpA, wpT, wpAnE, wpOrE, wpAnT, wpOrT, wpC, wpI, binW, addW, mulW, intW, CNo, CPos, CNN, unW, cmpW, eqW, ordW, ixW, B_len, B_int, B_abs, B_min, B_max, B_sum, B_tuple, B_list, lenW, int1W, absW, minW, maxW, sumW, tupleW, listW, augW, M_append, M_pop, ownL, stoW, getW, tgW, setAll, lrgW, partW, isCn, slW, revW, inW, truth, isAny, tyName, kit_NoneType_tuple, kit_NoneType_bool, kit_NoneType_int, kit_NoneType_str, kit_NoneType_list, kit_bool_tuple, kit_bool_bool, kit_bool_int, kit_bool_str, kit_bool_list, kit_int_tuple, kit_int_bool, kit_int_int, kit_int_str, kit_int_list, kit_str_tuple, kit_str_bool, kit_str_int, kit_str_str, kit_str_list, kit_tuple_tuple, kit_tuple_bool, kit_tuple_int, kit_tuple_str, kit_tuple_list, kit_list_tuple, kit_list_bool, kit_list_int, kit_list_str, kit_list_list, N_non, N_bl, N_int, N_str, N_tup, N_rl, N_wl, N_obj, I_tup, I_rl, I_wl, I_obj, LL_rl, LL_obj, O.xs, newL, wipeD, List.getElem?_cons_zero, List.getElem?_cons_succ, List.getElem?_nil, List.set_cons_zero, List.set_cons_succ, Option.some.injEq, exists_and_left, exists_eq', exists_eq, exists_eq_left', exists_eq_left, true_and, and_true, Bool.not_true, Bool.not_false, reduceCtorEq, ite_true, ite_false, if_true, if_false, String.reduceEq, D.int.injEq, D.bl.injEq, D.tup.injEq, D.rl.injEq, D.wl.injEq, D.obj.injEq, D.str.injEq, forall_const, Option.map_some, List.cons_append, List.nil_append, List.length_cons, List.length_nil, e1, e2, w.like]; repeat (with_reducible refine nx_of ?_; simp only [↓B_one, ↓B_cons, ↓B_nil, ↓S_skip, ↓S_set, ↓S_unp, ↓S_par, ↓S_aug, ↓S_sto, ↓S_stg, ↓S_ex, ↓S_ret, ↓S_retn, ↓S_ite, ↓S_for, ↓S_whl, ↓S_brk, ↓S_cnt, ↓S_rais, ↓S_thru, ↓E_var, ↓look_0, ↓look_s, ↓E_ci, ↓E_cb, ↓E_cn, ↓E_cs, ↓E_bin, ↓E_un, ↓E_no, ↓E_an, ↓E_or, ↓E_cmp, ↓E_ch, ↓E_ife, ↓E_tup, ↓E_lst, ↓E_ix, ↓E_sl, ↓E_rev, ↓E_call, ↓E_callk, ↓E_blt, ↓E_mth, ↓E_ixc, ↓E_inc, ↓E_isi, ↓E_lrg, ↓E_lc, ↓E_fld, ↓E_isx, isW, fldW, isxW, N_exc, seq_rt, seq_bk, seq_ct, seq_ex, loop_rt, loop_bk, loop_ex, ret_nx, ret_rt', wpA, wpT, wpAnE, wpOrE, wpAnT, wpOrT, wpC, wpI, binW, addW, mulW, intW, CNo, CPos, CNN, unW, cmpW, eqW, ordW, ixW, B_len, B_int, B_abs, B_min, B_max, B_sum, B_tuple, B_list, lenW, int1W, absW, minW, maxW, sumW, tupleW, listW, augW, M_append, M_pop, ownL, stoW, getW, tgW, setAll, lrgW, partW, isCn, slW, revW, inW, truth, isAny, tyName, kit_NoneType_tuple, kit_NoneType_bool, kit_NoneType_int, kit_NoneType_str, kit_NoneType_list, kit_bool_tuple, kit_bool_bool, kit_bool_int, kit_bool_str, kit_bool_list, kit_int_tuple, kit_int_bool, kit_int_int, kit_int_str, kit_int_list, kit_str_tuple, kit_str_bool, kit_str_int, kit_str_str, kit_str_list, kit_tuple_tuple, kit_tuple_bool, kit_tuple_int, kit_tuple_str, kit_tuple_list, kit_list_tuple, kit_list_bool, kit_list_int, kit_list_str, kit_list_list, N_non, N_bl, N_int, N_str, N_tup, N_rl, N_wl, N_obj, I_tup, I_rl, I_wl, I_obj, LL_rl, LL_obj, O.xs, newL, wipeD, List.getElem?_cons_zero, List.getElem?_cons_succ, List.getElem?_nil, List.set_cons_zero, List.set_cons_succ, Option.some.injEq, exists_and_left, exists_eq', exists_eq, exists_eq_left', exists_eq_left, true_and, and_true, Bool.not_true, Bool.not_false, reduceCtorEq, ite_true, ite_false, if_true, if_false, String.reduceEq, D.int.injEq, D.bl.injEq, D.tup.injEq, D.rl.injEq, D.wl.injEq, D.obj.injEq, D.str.injEq, forall_const, Option.map_some, List.cons_append, List.nil_append, List.length_cons, List.length_nil, e1, e2, w.like]))
    refine ⟨_, rfl, _, _, rfl, hv.1, hv.2.1 _, ?_⟩
    rw [hv.2.2]
    ((try with_reducible refine nx_of ?_); simp only [↓B_one, ↓B_cons, ↓B_nil, ↓S_skip, ↓S_set, ↓S_unp, ↓S_par, ↓S_aug, ↓S_sto, ↓S_stg, ↓S_ex, ↓S_ret, ↓S_retn, ↓S_ite, ↓S_for, ↓S_whl, ↓S_brk, ↓S_cnt, ↓S_rais, ↓S_thru, ↓E_var, ↓look_0, ↓look_s, ↓E_ci, ↓E_cb, ↓E_cn, ↓E_cs, ↓E_bin, ↓E_un, ↓E_no, ↓E_an, ↓E_or, ↓E_cmp, ↓E_ch, ↓E_ife, ↓E_tup, ↓E_lst, ↓E_ix, ↓E_sl, ↓E_rev, ↓E_call, ↓E_callk, ↓E_blt, ↓E_mth, ↓E_ixc, ↓E_inc, ↓E_isi, ↓E_lrg, ↓E_lc, ↓E_fld, ↓E_isx, isW, fldW, isxW, N_exc, seq_rt, seq_bk, seq_ct, seq_ex, loop_rt, loop_bk, loop_ex, ret_nx, ret_rt', wpA, wpT, wpAnE, wpOrE, wpAnT, wpOrT, wpC, wpI, binW, addW, mulW, intW, CNo, CPos, CNN, unW, cmpW, eqW, ordW, ixW, B_len, B_int, B_abs, B_min, B_max, B_sum, B_tuple, B_list, lenW, int1W, absW, minW, maxW, sumW, tupleW, listW, augW, M_append, M_pop, ownL, stoW, getW, tgW, setAll, lrgW, partW, isCn, slW, revW, inW, truth, isAny, tyName, kit_NoneType_tuple, kit_NoneType_bool, kit_NoneType_int, kit_NoneType_str, kit_NoneType_list, kit_bool_tuple, kit_bool_bool, kit_bool_int, kit_bool_str, kit_bool_list, kit_int_tuple, kit_int_bool, kit_int_int, kit_int_str, kit_int_list, kit_str_tuple, kit_str_bool, kit_str_int, kit_str_str, kit_str_list, kit_tuple_tuple, kit_tuple_bool, kit_tuple_int, kit_tuple_str, kit_tuple_list, kit_list_tuple, kit_list_bool, kit_list_int, kit_list_str, kit_list_list, N_non, N_bl, N_int, N_str, N_tup, N_rl, N_wl, N_obj, I_tup, I_rl, I_wl, I_obj, LL_rl, LL_obj, O.xs, newL, wipeD, List.getElem?_cons_zero, List.getElem?_cons_succ, List.getElem?_nil, List.set_cons_zero, List.set_cons_succ, Option.some.injEq, exists_and_left, exists_eq', exists_eq, exists_eq_left', exists_eq_left, true_and, and_true, Bool.not_true, Bool.not_false, reduceCtorEq, ite_true, ite_false, if_true, if_false, String.reduceEq, D.int.injEq, D.bl.injEq, D.tup.injEq, D.rl.injEq, D.wl.injEq, D.obj.injEq, D.str.injEq, forall_const, Option.map_some, List.cons_append, List.nil_append, List.length_cons, List.length_nil, e1, e2, w.like]; repeat (with_reducible refine nx_of ?_; simp only [↓B_one, ↓B_cons, ↓B_nil, ↓S_skip, ↓S_set, ↓S_unp, ↓S_par, ↓S_aug, ↓S_sto, ↓S_stg, ↓S_ex, ↓S_ret, ↓S_retn, ↓S_ite, ↓S_for, ↓S_whl, ↓S_brk, ↓S_cnt, ↓S_rais, ↓S_thru, ↓E_var, ↓look_0, ↓look_s, ↓E_ci, ↓E_cb, ↓E_cn, ↓E_cs, ↓E_bin, ↓E_un, ↓E_no, ↓E_an, ↓E_or, ↓E_cmp, ↓E_ch, ↓E_ife, ↓E_tup, ↓E_lst, ↓E_ix, ↓E_sl, ↓E_rev, ↓E_call, ↓E_callk, ↓E_blt, ↓E_mth, ↓E_ixc, ↓E_inc, ↓E_isi, ↓E_lrg, ↓E_lc, ↓E_fld, ↓E_isx, isW, fldW, isxW, N_exc, seq_rt, seq_bk, seq_ct, seq_ex, loop_rt, loop_bk, loop_ex, ret_nx, ret_rt', wpA, wpT, wpAnE, wpOrE, wpAnT, wpOrT, wpC, wpI, binW, addW, mulW, intW, CNo, CPos, CNN, unW, cmpW, eqW, ordW, ixW, B_len, B_int, B_abs, B_min, B_max, B_sum, B_tuple, B_list, lenW, int1W, absW, minW, maxW, sumW, tupleW, listW, augW, M_append, M_pop, ownL, stoW, getW, tgW, setAll, lrgW, partW, isCn, slW, revW, inW, truth, isAny, tyName, kit_NoneType_tuple, kit_NoneType_bool, kit_NoneType_int, kit_NoneType_str, kit_NoneType_list, kit_bool_tuple, kit_bool_bool, kit_bool_int, kit_bool_str, kit_bool_list, kit_int_tuple, kit_int_bool, kit_int_int, kit_int_str, kit_int_list, kit_str_tuple, kit_str_bool, kit_str_int, kit_str_str, kit_str_list, kit_tuple_tuple, kit_tuple_bool, kit_tuple_int, kit_tuple_str, kit_tuple_list, kit_list_tuple, kit_list_bool, kit_list_int, kit_list_str, kit_list_list, N_non, N_bl, N_int, N_str, N_tup, N_rl, N_wl, N_obj, I_tup, I_rl, I_wl, I_obj, LL_rl, LL_obj, O.xs, newL, wipeD, List.getElem?_cons_zero, List.getElem?_cons_succ, List.getElem?_nil, List.set_cons_zero, List.set_cons_succ, Option.some.injEq, exists_and_left, exists_eq', exists_eq, exists_eq_left', exists_eq_left, true_and, and_true, Bool.not_true, Bool.not_false, reduceCtorEq, ite_true, ite_false, if_true, if_false, String.reduceEq, D.int.injEq, D.bl.injEq, D.tup.injEq, D.rl.injEq, D.wl.injEq, D.obj.injEq, D.str.injEq, forall_const, Option.map_some, List.cons_append, List.nil_append, List.length_cons, List.length_nil, e1, e2, w.like]))
    refine ⟨_, rfl, _, _, rfl, hu.1, hu.2.1 _, ?_⟩
    rw [hu.2.2]
    ((try with_reducible refine nx_of ?_); simp only [↓B_one, ↓B_cons, ↓B_nil, ↓S_skip, ↓S_set, ↓S_unp, ↓S_par, ↓S_aug, ↓S_sto, ↓S_stg, ↓S_ex, ↓S_ret, ↓S_retn, ↓S_ite, ↓S_for, ↓S_whl, ↓S_brk, ↓S_cnt, ↓S_rais, ↓S_thru, ↓E_var, ↓look_0, ↓look_s, ↓E_ci, ↓E_cb, ↓E_cn, ↓E_cs, ↓E_bin, ↓E_un, ↓E_no, ↓E_an, ↓E_or, ↓E_cmp, ↓E_ch, ↓E_ife, ↓E_tup, ↓E_lst, ↓E_ix, ↓E_sl, ↓E_rev, ↓E_call, ↓E_callk, ↓E_blt, ↓E_mth, ↓E_ixc, ↓E_inc, ↓E_isi, ↓E_lrg, ↓E_lc, ↓E_fld, ↓E_isx, isW, fldW, isxW, N_exc, seq_rt, seq_bk, seq_ct, seq_ex, loop_rt, loop_bk, loop_ex, ret_nx, ret_rt', wpA, wpT, wpAnE, wpOrE, wpAnT, wpOrT, wpC, wpI, binW, addW, mulW, intW, CNo, CPos, CNN, unW, cmpW, eqW, ordW, ixW, B_len, B_int, B_abs, B_min, B_max, B_sum, B_tuple, B_list, lenW, int1W, absW, minW, maxW, sumW, tupleW, listW, augW, M_append, M_pop, ownL, stoW, getW, tgW, setAll, lrgW, partW, isCn, slW, revW, inW, truth, isAny, tyName, kit_NoneType_tuple, kit_NoneType_bool, kit_NoneType_int, kit_NoneType_str, kit_NoneType_list, kit_bool_tuple, kit_bool_bool, kit_bool_int, kit_bool_str, kit_bool_list, kit_int_tuple, kit_int_bool, kit_int_int, kit_int_str, kit_int_list, kit_str_tuple, kit_str_bool, kit_str_int, kit_str_str, kit_str_list, kit_tuple_tuple, kit_tuple_bool, kit_tuple_int, kit_tuple_str, kit_tuple_list, kit_list_tuple, kit_list_bool, kit_list_int, kit_list_str, kit_list_list, N_non, N_bl, N_int, N_str, N_tup, N_rl, N_wl, N_obj, I_tup, I_rl, I_wl, I_obj, LL_rl, LL_obj, O.xs, newL, wipeD, List.getElem?_cons_zero, List.getElem?_cons_succ, List.getElem?_nil, List.set_cons_zero, List.set_cons_succ, Option.some.injEq, exists_and_left, exists_eq', exists_eq, exists_eq_left', exists_eq_left, true_and, and_true, Bool.not_true, Bool.not_false, reduceCtorEq, ite_true, ite_false, if_true, if_false, String.reduceEq, D.int.injEq, D.bl.injEq, D.tup.injEq, D.rl.injEq, D.wl.injEq, D.obj.injEq, D.str.injEq, forall_const, Option.map_some, List.cons_append, List.nil_append, List.length_cons, List.length_nil]; repeat (with_reducible refine nx_of ?_; simp only [↓B_one, ↓B_cons, ↓B_nil, ↓S_skip, ↓S_set, ↓S_unp, ↓S_par, ↓S_aug, ↓S_sto, ↓S_stg, ↓S_ex, ↓S_ret, ↓S_retn, ↓S_ite, ↓S_for, ↓S_whl, ↓S_brk, ↓S_cnt, ↓S_rais, ↓S_thru, ↓E_var, ↓look_0, ↓look_s, ↓E_ci, ↓E_cb, ↓E_cn, ↓E_cs, ↓E_bin, ↓E_un, ↓E_no, ↓E_an, ↓E_or, ↓E_cmp, ↓E_ch, ↓E_ife, ↓E_tup, ↓E_lst, ↓E_ix, ↓E_sl, ↓E_rev, ↓E_call, ↓E_callk, ↓E_blt, ↓E_mth, ↓E_ixc, ↓E_inc, ↓E_isi, ↓E_lrg, ↓E_lc, ↓E_fld, ↓E_isx, isW, fldW, isxW, N_exc, seq_rt, seq_bk, seq_ct, seq_ex, loop_rt, loop_bk, loop_ex, ret_nx, ret_rt', wpA, wpT, wpAnE, wpOrE, wpAnT, wpOrT, wpC, wpI, binW, addW, mulW, intW, CNo, CPos, CNN, unW, cmpW, eqW, ordW, ixW, B_len, B_int, B_abs, B_min, B_max, B_sum, B_tuple, B_list, lenW, int1W, absW, minW, maxW, sumW, tupleW, listW, augW, M_append, M_pop, ownL, stoW, getW, tgW, setAll, lrgW, partW, isCn, slW, revW, inW, truth, isAny, tyName, kit_NoneType_tuple, kit_NoneType_bool, kit_NoneType_int, kit_NoneType_str, kit_NoneType_list, kit_bool_tuple, kit_bool_bool, kit_bool_int, kit_bool_str, kit_bool_list, kit_int_tuple, kit_int_bool, kit_int_int, kit_int_str, kit_int_list, kit_str_tuple, kit_str_bool, kit_str_int, kit_str_str, kit_str_list, kit_tuple_tuple, kit_tuple_bool, kit_tuple_int, kit_tuple_str, kit_tuple_list, kit_list_tuple, kit_list_bool, kit_list_int, kit_list_str, kit_list_list, N_non, N_bl, N_int, N_str, N_tup, N_rl, N_wl, N_obj, I_tup, I_rl, I_wl, I_obj, LL_rl, LL_obj, O.xs, newL, wipeD, List.getElem?_cons_zero, List.getElem?_cons_succ, List.getElem?_nil, List.set_cons_zero, List.set_cons_succ, Option.some.injEq, exists_and_left, exists_eq', exists_eq, exists_eq_left', exists_eq_left, true_and, and_true, Bool.not_true, Bool.not_false, reduceCtorEq, ite_true, ite_false, if_true, if_false, String.reduceEq, D.int.injEq, D.bl.injEq, D.tup.injEq, D.rl.injEq, D.wl.injEq, D.obj.injEq, D.str.injEq, forall_const, Option.map_some, List.cons_append, List.nil_append, List.length_cons, List.length_nil]))
    exact ⟨_, .refl _, rfl, _, _, _, _, rfl⟩
  rintro μ M' ⟨rfl, a, b, c, d, rfl⟩
  ((try with_reducible refine nx_of ?_); simp only [↓B_one, ↓B_cons, ↓B_nil, ↓S_skip, ↓S_set, ↓S_unp, ↓S_par, ↓S_aug, ↓S_sto, ↓S_stg, ↓S_ex, ↓S_ret, ↓S_retn, ↓S_ite, ↓S_for, ↓S_whl, ↓S_brk, ↓S_cnt, ↓S_rais, ↓S_thru, ↓E_var, ↓look_0, ↓look_s, ↓E_ci, ↓E_cb, ↓E_cn, ↓E_cs, ↓E_bin, ↓E_un, ↓E_no, ↓E_an, ↓E_or, ↓E_cmp, ↓E_ch, ↓E_ife, ↓E_tup, ↓E_lst, ↓E_ix, ↓E_sl, ↓E_rev, ↓E_call, ↓E_callk, ↓E_blt, ↓E_mth, ↓E_ixc, ↓E_inc, ↓E_isi, ↓E_lrg, ↓E_lc, ↓E_fld, ↓E_isx, isW, fldW, isxW, N_exc, seq_rt, seq_bk, seq_ct, seq_ex, loop_rt, loop_bk, loop_ex, ret_nx, ret_rt', wpA, wpT, wpAnE, wpOrE, wpAnT, wpOrT, wpC, wpI, binW, addW, mulW, intW, CNo, CPos, CNN, unW, cmpW, eqW, ordW, ixW, B_len, B_int, B_abs, B_min, B_max, B_sum, B_tuple, B_list, lenW, int1W, absW, minW, maxW, sumW, tupleW, listW, augW, M_append, M_pop, ownL, stoW, getW, tgW, setAll, lrgW, partW, isCn, slW, revW, inW, truth, isAny, tyName, kit_NoneType_tuple, kit_NoneType_bool, kit_NoneType_int, kit_NoneType_str, kit_NoneType_list, kit_bool_tuple, kit_bool_bool, kit_bool_int, kit_bool_str, kit_bool_list, kit_int_tuple, kit_int_bool, kit_int_int, kit_int_str, kit_int_list, kit_str_tuple, kit_str_bool, kit_str_int, kit_str_str, kit_str_list, kit_tuple_tuple, kit_tuple_bool, kit_tuple_int, kit_tuple_str, kit_tuple_list, kit_list_tuple, kit_list_bool, kit_list_int, kit_list_str, kit_list_list, N_non, N_bl, N_int, N_str, N_tup, N_rl, N_wl, N_obj, I_tup, I_rl, I_wl, I_obj, LL_rl, LL_obj, O.xs, newL, wipeD, List.getElem?_cons_zero, List.getElem?_cons_succ, List.getElem?_nil, List.set_cons_zero, List.set_cons_succ, Option.some.injEq, exists_and_left, exists_eq', exists_eq, exists_eq_left', exists_eq_left, true_and, and_true, Bool.not_true, Bool.not_false, reduceCtorEq, ite_true, ite_false, if_true, if_false, String.reduceEq, D.int.injEq, D.bl.injEq, D.tup.injEq, D.rl.injEq, D.wl.injEq, D.obj.injEq, D.str.injEq, forall_const, Option.map_some, List.cons_append, List.nil_append, List.length_cons, List.length_nil, w.next]; repeat (with_reducible refine nx_of ?_; simp only [↓B_one, ↓B_cons, ↓B_nil, ↓S_skip, ↓S_set, ↓S_unp, ↓S_par, ↓S_aug, ↓S_sto, ↓S_stg, ↓S_ex, ↓S_ret, ↓S_retn, ↓S_ite, ↓S_for, ↓S_whl, ↓S_brk, ↓S_cnt, ↓S_rais, ↓S_thru, ↓E_var, ↓look_0, ↓look_s, ↓E_ci, ↓E_cb, ↓E_cn, ↓E_cs, ↓E_bin, ↓E_un, ↓E_no, ↓E_an, ↓E_or, ↓E_cmp, ↓E_ch, ↓E_ife, ↓E_tup, ↓E_lst, ↓E_ix, ↓E_sl, ↓E_rev, ↓E_call, ↓E_callk, ↓E_blt, ↓E_mth, ↓E_ixc, ↓E_inc, ↓E_isi, ↓E_lrg, ↓E_lc, ↓E_fld, ↓E_isx, isW, fldW, isxW, N_exc, seq_rt, seq_bk, seq_ct, seq_ex, loop_rt, loop_bk, loop_ex, ret_nx, ret_rt', wpA, wpT, wpAnE, wpOrE, wpAnT, wpOrT, wpC, wpI, binW, addW, mulW, intW, CNo, CPos, CNN, unW, cmpW, eqW, ordW, ixW, B_len, B_int, B_abs, B_min, B_max, B_sum, B_tuple, B_list, lenW, int1W, absW, minW, maxW, sumW, tupleW, listW, augW, M_append, M_pop, ownL, stoW, getW, tgW, setAll, lrgW, partW, isCn, slW, revW, inW, truth, isAny, tyName, kit_NoneType_tuple, kit_NoneType_bool, kit_NoneType_int, kit_NoneType_str, kit_NoneType_list, kit_bool_tuple, kit_bool_bool, kit_bool_int, kit_bool_str, kit_bool_list, kit_int_tuple, kit_int_bool, kit_int_int, kit_int_str, kit_int_list, kit_str_tuple, kit_str_bool, kit_str_int, kit_str_str, kit_str_list, kit_tuple_tuple, kit_tuple_bool, kit_tuple_int, kit_tuple_str, kit_tuple_list, kit_list_tuple, kit_list_bool, kit_list_int, kit_list_str, kit_list_list, N_non, N_bl, N_int, N_str, N_tup, N_rl, N_wl, N_obj, I_tup, I_rl, I_wl, I_obj, LL_rl, LL_obj, O.xs, newL, wipeD, List.getElem?_cons_zero, List.getElem?_cons_succ, List.getElem?_nil, List.set_cons_zero, List.set_cons_succ, Option.some.injEq, exists_and_left, exists_eq', exists_eq, exists_eq_left', exists_eq_left, true_and, and_true, Bool.not_true, Bool.not_false, reduceCtorEq, ite_true, ite_false, if_true, if_false, String.reduceEq, D.int.injEq, D.bl.injEq, D.tup.injEq, D.rl.injEq, D.wl.injEq, D.obj.injEq, D.str.injEq, forall_const, Option.map_some, List.cons_append, List.nil_append, List.length_cons, List.length_nil, w.next]))
  refine ⟨p, 9, bs2, rfl, by decide, put_same, fun r1 bs3 hr1 => ?_⟩
  rw [put_put]
  ((try with_reducible refine nx_of ?_); simp only [↓B_one, ↓B_cons, ↓B_nil, ↓S_skip, ↓S_set, ↓S_unp, ↓S_par, ↓S_aug, ↓S_sto, ↓S_stg, ↓S_ex, ↓S_ret, ↓S_retn, ↓S_ite, ↓S_for, ↓S_whl, ↓S_brk, ↓S_cnt, ↓S_rais, ↓S_thru, ↓E_var, ↓look_0, ↓look_s, ↓E_ci, ↓E_cb, ↓E_cn, ↓E_cs, ↓E_bin, ↓E_un, ↓E_no, ↓E_an, ↓E_or, ↓E_cmp, ↓E_ch, ↓E_ife, ↓E_tup, ↓E_lst, ↓E_ix, ↓E_sl, ↓E_rev, ↓E_call, ↓E_callk, ↓E_blt, ↓E_mth, ↓E_ixc, ↓E_inc, ↓E_isi, ↓E_lrg, ↓E_lc, ↓E_fld, ↓E_isx, isW, fldW, isxW, N_exc, seq_rt, seq_bk, seq_ct, seq_ex, loop_rt, loop_bk, loop_ex, ret_nx, ret_rt', wpA, wpT, wpAnE, wpOrE, wpAnT, wpOrT, wpC, wpI, binW, addW, mulW, intW, CNo, CPos, CNN, unW, cmpW, eqW, ordW, ixW, B_len, B_int, B_abs, B_min, B_max, B_sum, B_tuple, B_list, lenW, int1W, absW, minW, maxW, sumW, tupleW, listW, augW, M_append, M_pop, ownL, stoW, getW, tgW, setAll, lrgW, partW, isCn, slW, revW, inW, truth, isAny, tyName, kit_NoneType_tuple, kit_NoneType_bool, kit_NoneType_int, kit_NoneType_str, kit_NoneType_list, kit_bool_tuple, kit_bool_bool, kit_bool_int, kit_bool_str, kit_bool_list, kit_int_tuple, kit_int_bool, kit_int_int, kit_int_str, kit_int_list, kit_str_tuple, kit_str_bool, kit_str_int, kit_str_str, kit_str_list, kit_tuple_tuple, kit_tuple_bool, kit_tuple_int, kit_tuple_str, kit_tuple_list, kit_list_tuple, kit_list_bool, kit_list_int, kit_list_str, kit_list_list, N_non, N_bl, N_int, N_str, N_tup, N_rl, N_wl, N_obj, I_tup, I_rl, I_wl, I_obj, LL_rl, LL_obj, O.xs, newL, wipeD, List.getElem?_cons_zero, List.getElem?_cons_succ, List.getElem?_nil, List.set_cons_zero, List.set_cons_succ, Option.some.injEq, exists_and_left, exists_eq', exists_eq, exists_eq_left', exists_eq_left, true_and, and_true, Bool.not_true, Bool.not_false, reduceCtorEq, ite_true, ite_false, if_true, if_false, String.reduceEq, D.int.injEq, D.bl.injEq, D.tup.injEq, D.rl.injEq, D.wl.injEq, D.obj.injEq, D.str.injEq, forall_const, Option.map_some, List.cons_append, List.nil_append, List.length_cons, List.length_nil]; repeat (with_reducible refine nx_of ?_; simp only [↓B_one, ↓B_cons, ↓B_nil, ↓S_skip, ↓S_set, ↓S_unp, ↓S_par, ↓S_aug, ↓S_sto, ↓S_stg, ↓S_ex, ↓S_ret, ↓S_retn, ↓S_ite, ↓S_for, ↓S_whl, ↓S_brk, ↓S_cnt, ↓S_rais, ↓S_thru, ↓E_var, ↓look_0, ↓look_s, ↓E_ci, ↓E_cb, ↓E_cn, ↓E_cs, ↓E_bin, ↓E_un, ↓E_no, ↓E_an, ↓E_or, ↓E_cmp, ↓E_ch, ↓E_ife, ↓E_tup, ↓E_lst, ↓E_ix, ↓E_sl, ↓E_rev, ↓E_call, ↓E_callk, ↓E_blt, ↓E_mth, ↓E_ixc, ↓E_inc, ↓E_isi, ↓E_lrg, ↓E_lc, ↓E_fld, ↓E_isx, isW, fldW, isxW, N_exc, seq_rt, seq_bk, seq_ct, seq_ex, loop_rt, loop_bk, loop_ex, ret_nx, ret_rt', wpA, wpT, wpAnE, wpOrE, wpAnT, wpOrT, wpC, wpI, binW, addW, mulW, intW, CNo, CPos, CNN, unW, cmpW, eqW, ordW, ixW, B_len, B_int, B_abs, B_min, B_max, B_sum, B_tuple, B_list, lenW, int1W, absW, minW, maxW, sumW, tupleW, listW, augW, M_append, M_pop, ownL, stoW, getW, tgW, setAll, lrgW, partW, isCn, slW, revW, inW, truth, isAny, tyName, kit_NoneType_tuple, kit_NoneType_bool, kit_NoneType_int, kit_NoneType_str, kit_NoneType_list, kit_bool_tuple, kit_bool_bool, kit_bool_int, kit_bool_str, kit_bool_list, kit_int_tuple, kit_int_bool, kit_int_int, kit_int_str, kit_int_list, kit_str_tuple, kit_str_bool, kit_str_int, kit_str_str, kit_str_list, kit_tuple_tuple, kit_tuple_bool, kit_tuple_int, kit_tuple_str, kit_tuple_list, kit_list_tuple, kit_list_bool, kit_list_int, kit_list_str, kit_list_list, N_non, N_bl, N_int, N_str, N_tup, N_rl, N_wl, N_obj, I_tup, I_rl, I_wl, I_obj, LL_rl, LL_obj, O.xs, newL, wipeD, List.getElem?_cons_zero, List.getElem?_cons_succ, List.getElem?_nil, List.set_cons_zero, List.set_cons_succ, Option.some.injEq, exists_and_left, exists_eq', exists_eq, exists_eq_left', exists_eq_left, true_and, and_true, Bool.not_true, Bool.not_false, reduceCtorEq, ite_true, ite_false, if_true, if_false, String.reduceEq, D.int.injEq, D.bl.injEq, D.tup.injEq, D.rl.injEq, D.wl.injEq, D.obj.injEq, D.str.injEq, forall_const, Option.map_some, List.cons_append, List.nil_append, List.length_cons, List.length_nil]))
  refine ⟨by decide, fun q hq1 => ?_⟩
  have hpq : p ≠ q := fun z => by rw [z, put_same] at hq1; cases hq1
  generalize hM2 : put (put M p (.lst (nums bs3))) q (.lst [.int r1]) = M2
  have m2p : M2 p = some (.lst (nums bs3)) := by rw [← hM2, put_ne hpq, put_same]
  have m2q : M2 q = some (.lst [.int r1]) := by rw [← hM2, put_same]
  ((try with_reducible refine nx_of ?_); simp only [↓B_one, ↓B_cons, ↓B_nil, ↓S_skip, ↓S_set, ↓S_unp, ↓S_par, ↓S_aug, ↓S_sto, ↓S_stg, ↓S_ex, ↓S_ret, ↓S_retn, ↓S_ite, ↓S_for, ↓S_whl, ↓S_brk, ↓S_cnt, ↓S_rais, ↓S_thru, ↓E_var, ↓look_0, ↓look_s, ↓E_ci, ↓E_cb, ↓E_cn, ↓E_cs, ↓E_bin, ↓E_un, ↓E_no, ↓E_an, ↓E_or, ↓E_cmp, ↓E_ch, ↓E_ife, ↓E_tup, ↓E_lst, ↓E_ix, ↓E_sl, ↓E_rev, ↓E_call, ↓E_callk, ↓E_blt, ↓E_mth, ↓E_ixc, ↓E_inc, ↓E_isi, ↓E_lrg, ↓E_lc, ↓E_fld, ↓E_isx, isW, fldW, isxW, N_exc, seq_rt, seq_bk, seq_ct, seq_ex, loop_rt, loop_bk, loop_ex, ret_nx, ret_rt', wpA, wpT, wpAnE, wpOrE, wpAnT, wpOrT, wpC, wpI, binW, addW, mulW, intW, CNo, CPos, CNN, unW, cmpW, eqW, ordW, ixW, B_len, B_int, B_abs, B_min, B_max, B_sum, B_tuple, B_list, lenW, int1W, absW, minW, maxW, sumW, tupleW, listW, augW, M_append, M_pop, ownL, stoW, getW, tgW, setAll, lrgW, partW, isCn, slW, revW, inW, truth, isAny, tyName, kit_NoneType_tuple, kit_NoneType_bool, kit_NoneType_int, kit_NoneType_str, kit_NoneType_list, kit_bool_tuple, kit_bool_bool, kit_bool_int, kit_bool_str, kit_bool_list, kit_int_tuple, kit_int_bool, kit_int_int, kit_int_str, kit_int_list, kit_str_tuple, kit_str_bool, kit_str_int, kit_str_str, kit_str_list, kit_tuple_tuple, kit_tuple_bool, kit_tuple_int, kit_tuple_str, kit_tuple_list, kit_list_tuple, kit_list_bool, kit_list_int, kit_list_str, kit_list_list, N_non, N_bl, N_int, N_str, N_tup, N_rl, N_wl, N_obj, I_tup, I_rl, I_wl, I_obj, LL_rl, LL_obj, O.xs, newL, wipeD, List.getElem?_cons_zero, List.getElem?_cons_succ, List.getElem?_nil, List.set_cons_zero, List.set_cons_succ, Option.some.injEq, exists_and_left, exists_eq', exists_eq, exists_eq_left', exists_eq_left, true_and, and_true, Bool.not_true, Bool.not_false, reduceCtorEq, ite_true, ite_false, if_true, if_false, String.reduceEq, D.int.injEq, D.bl.injEq, D.tup.injEq, D.rl.injEq, D.wl.injEq, D.obj.injEq, D.str.injEq, forall_const, Option.map_some, List.cons_append, List.nil_append, List.length_cons, List.length_nil, w.made]; repeat (with_reducible refine nx_of ?_; simp only [↓B_one, ↓B_cons, ↓B_nil, ↓S_skip, ↓S_set, ↓S_unp, ↓S_par, ↓S_aug, ↓S_sto, ↓S_stg, ↓S_ex, ↓S_ret, ↓S_retn, ↓S_ite, ↓S_for, ↓S_whl, ↓S_brk, ↓S_cnt, ↓S_rais, ↓S_thru, ↓E_var, ↓look_0, ↓look_s, ↓E_ci, ↓E_cb, ↓E_cn, ↓E_cs, ↓E_bin, ↓E_un, ↓E_no, ↓E_an, ↓E_or, ↓E_cmp, ↓E_ch, ↓E_ife, ↓E_tup, ↓E_lst, ↓E_ix, ↓E_sl, ↓E_rev, ↓E_call, ↓E_callk, ↓E_blt, ↓E_mth, ↓E_ixc, ↓E_inc, ↓E_isi, ↓E_lrg, ↓E_lc, ↓E_fld, ↓E_isx, isW, fldW, isxW, N_exc, seq_rt, seq_bk, seq_ct, seq_ex, loop_rt, loop_bk, loop_ex, ret_nx, ret_rt', wpA, wpT, wpAnE, wpOrE, wpAnT, wpOrT, wpC, wpI, binW, addW, mulW, intW, CNo, CPos, CNN, unW, cmpW, eqW, ordW, ixW, B_len, B_int, B_abs, B_min, B_max, B_sum, B_tuple, B_list, lenW, int1W, absW, minW, maxW, sumW, tupleW, listW, augW, M_append, M_pop, ownL, stoW, getW, tgW, setAll, lrgW, partW, isCn, slW, revW, inW, truth, isAny, tyName, kit_NoneType_tuple, kit_NoneType_bool, kit_NoneType_int, kit_NoneType_str, kit_NoneType_list, kit_bool_tuple, kit_bool_bool, kit_bool_int, kit_bool_str, kit_bool_list, kit_int_tuple, kit_int_bool, kit_int_int, kit_int_str, kit_int_list, kit_str_tuple, kit_str_bool, kit_str_int, kit_str_str, kit_str_list, kit_tuple_tuple, kit_tuple_bool, kit_tuple_int, kit_tuple_str, kit_tuple_list, kit_list_tuple, kit_list_bool, kit_list_int, kit_list_str, kit_list_list, N_non, N_bl, N_int, N_str, N_tup, N_rl, N_wl, N_obj, I_tup, I_rl, I_wl, I_obj, LL_rl, LL_obj, O.xs, newL, wipeD, List.getElem?_cons_zero, List.getElem?_cons_succ, List.getElem?_nil, List.set_cons_zero, List.set_cons_succ, Option.some.injEq, exists_and_left, exists_eq', exists_eq, exists_eq_left', exists_eq_left, true_and, and_true, Bool.not_true, Bool.not_false, reduceCtorEq, ite_true, ite_false, if_true, if_false, String.reduceEq, D.int.injEq, D.bl.injEq, D.tup.injEq, D.rl.injEq, D.wl.injEq, D.obj.injEq, D.str.injEq, forall_const, Option.map_some, List.cons_append, List.nil_append, List.length_cons, List.length_nil, w.made]))
  refine ⟨.obj q, rfl, ?_⟩
  ((try with_reducible refine nx_of ?_); simp only [↓B_one, ↓B_cons, ↓B_nil, ↓S_skip, ↓S_set, ↓S_unp, ↓S_par, ↓S_aug, ↓S_sto, ↓S_stg, ↓S_ex, ↓S_ret, ↓S_retn, ↓S_ite, ↓S_for, ↓S_whl, ↓S_brk, ↓S_cnt, ↓S_rais, ↓S_thru, ↓E_var, ↓look_0, ↓look_s, ↓E_ci, ↓E_cb, ↓E_cn, ↓E_cs, ↓E_bin, ↓E_un, ↓E_no, ↓E_an, ↓E_or, ↓E_cmp, ↓E_ch, ↓E_ife, ↓E_tup, ↓E_lst, ↓E_ix, ↓E_sl, ↓E_rev, ↓E_call, ↓E_callk, ↓E_blt, ↓E_mth, ↓E_ixc, ↓E_inc, ↓E_isi, ↓E_lrg, ↓E_lc, ↓E_fld, ↓E_isx, isW, fldW, isxW, N_exc, seq_rt, seq_bk, seq_ct, seq_ex, loop_rt, loop_bk, loop_ex, ret_nx, ret_rt', wpA, wpT, wpAnE, wpOrE, wpAnT, wpOrT, wpC, wpI, binW, addW, mulW, intW, CNo, CPos, CNN, unW, cmpW, eqW, ordW, ixW, B_len, B_int, B_abs, B_min, B_max, B_sum, B_tuple, B_list, lenW, int1W, absW, minW, maxW, sumW, tupleW, listW, augW, M_append, M_pop, ownL, stoW, getW, tgW, setAll, lrgW, partW, isCn, slW, revW, inW, truth, isAny, tyName, kit_NoneType_tuple, kit_NoneType_bool, kit_NoneType_int, kit_NoneType_str, kit_NoneType_list, kit_bool_tuple, kit_bool_bool, kit_bool_int, kit_bool_str, kit_bool_list, kit_int_tuple, kit_int_bool, kit_int_int, kit_int_str, kit_int_list, kit_str_tuple, kit_str_bool, kit_str_int, kit_str_str, kit_str_list, kit_tuple_tuple, kit_tuple_bool, kit_tuple_int, kit_tuple_str, kit_tuple_list, kit_list_tuple, kit_list_bool, kit_list_int, kit_list_str, kit_list_list, N_non, N_bl, N_int, N_str, N_tup, N_rl, N_wl, N_obj, I_tup, I_rl, I_wl, I_obj, LL_rl, LL_obj, O.xs, newL, wipeD, List.getElem?_cons_zero, List.getElem?_cons_succ, List.getElem?_nil, List.set_cons_zero, List.set_cons_succ, Option.some.injEq, exists_and_left, exists_eq', exists_eq, exists_eq_left', exists_eq_left, true_and, and_true, Bool.not_true, Bool.not_false, reduceCtorEq, ite_true, ite_false, if_true, if_false, String.reduceEq, D.int.injEq, D.bl.injEq, D.tup.injEq, D.rl.injEq, D.wl.injEq, D.obj.injEq, D.str.injEq, forall_const, Option.map_some, List.cons_append, List.nil_append, List.length_cons, List.length_nil, w.named]; repeat (with_reducible refine nx_of ?_; simp only [↓B_one, ↓B_cons, ↓B_nil, ↓S_skip, ↓S_set, ↓S_unp, ↓S_par, ↓S_aug, ↓S_sto, ↓S_stg, ↓S_ex, ↓S_ret, ↓S_retn, ↓S_ite, ↓S_for, ↓S_whl, ↓S_brk, ↓S_cnt, ↓S_rais, ↓S_thru, ↓E_var, ↓look_0, ↓look_s, ↓E_ci, ↓E_cb, ↓E_cn, ↓E_cs, ↓E_bin, ↓E_un, ↓E_no, ↓E_an, ↓E_or, ↓E_cmp, ↓E_ch, ↓E_ife, ↓E_tup, ↓E_lst, ↓E_ix, ↓E_sl, ↓E_rev, ↓E_call, ↓E_callk, ↓E_blt, ↓E_mth, ↓E_ixc, ↓E_inc, ↓E_isi, ↓E_lrg, ↓E_lc, ↓E_fld, ↓E_isx, isW, fldW, isxW, N_exc, seq_rt, seq_bk, seq_ct, seq_ex, loop_rt, loop_bk, loop_ex, ret_nx, ret_rt', wpA, wpT, wpAnE, wpOrE, wpAnT, wpOrT, wpC, wpI, binW, addW, mulW, intW, CNo, CPos, CNN, unW, cmpW, eqW, ordW, ixW, B_len, B_int, B_abs, B_min, B_max, B_sum, B_tuple, B_list, lenW, int1W, absW, minW, maxW, sumW, tupleW, listW, augW, M_append, M_pop, ownL, stoW, getW, tgW, setAll, lrgW, partW, isCn, slW, revW, inW, truth, isAny, tyName, kit_NoneType_tuple, kit_NoneType_bool, kit_NoneType_int, kit_NoneType_str, kit_NoneType_list, kit_bool_tuple, kit_bool_bool, kit_bool_int, kit_bool_str, kit_bool_list, kit_int_tuple, kit_int_bool, kit_int_int, kit_int_str, kit_int_list, kit_str_tuple, kit_str_bool, kit_str_int, kit_str_str, kit_str_list, kit_tuple_tuple, kit_tuple_bool, kit_tuple_int, kit_tuple_str, kit_tuple_list, kit_list_tuple, kit_list_bool, kit_list_int, kit_list_str, kit_list_list, N_non, N_bl, N_int, N_str, N_tup, N_rl, N_wl, N_obj, I_tup, I_rl, I_wl, I_obj, LL_rl, LL_obj, O.xs, newL, wipeD, List.getElem?_cons_zero, List.getElem?_cons_succ, List.getElem?_nil, List.set_cons_zero, List.set_cons_succ, Option.some.injEq, exists_and_left, exists_eq', exists_eq, exists_eq_left', exists_eq_left, true_and, and_true, Bool.not_true, Bool.not_false, reduceCtorEq, ite_true, ite_false, if_true, if_false, String.reduceEq, D.int.injEq, D.bl.injEq, D.tup.injEq, D.rl.injEq, D.wl.injEq, D.obj.injEq, D.str.injEq, forall_const, Option.map_some, List.cons_append, List.nil_append, List.length_cons, List.length_nil, w.named]))
  refine ⟨.obj q, rfl, ?_⟩
  ((try with_reducible refine nx_of ?_); simp only [↓B_one, ↓B_cons, ↓B_nil, ↓S_skip, ↓S_set, ↓S_unp, ↓S_par, ↓S_aug, ↓S_sto, ↓S_stg, ↓S_ex, ↓S_ret, ↓S_retn, ↓S_ite, ↓S_for, ↓S_whl, ↓S_brk, ↓S_cnt, ↓S_rais, ↓S_thru, ↓E_var, ↓look_0, ↓look_s, ↓E_ci, ↓E_cb, ↓E_cn, ↓E_cs, ↓E_bin, ↓E_un, ↓E_no, ↓E_an, ↓E_or, ↓E_cmp, ↓E_ch, ↓E_ife, ↓E_tup, ↓E_lst, ↓E_ix, ↓E_sl, ↓E_rev, ↓E_call, ↓E_callk, ↓E_blt, ↓E_mth, ↓E_ixc, ↓E_inc, ↓E_isi, ↓E_lrg, ↓E_lc, ↓E_fld, ↓E_isx, isW, fldW, isxW, N_exc, seq_rt, seq_bk, seq_ct, seq_ex, loop_rt, loop_bk, loop_ex, ret_nx, ret_rt', wpA, wpT, wpAnE, wpOrE, wpAnT, wpOrT, wpC, wpI, binW, addW, mulW, intW, CNo, CPos, CNN, unW, cmpW, eqW, ordW, ixW, B_len, B_int, B_abs, B_min, B_max, B_sum, B_tuple, B_list, lenW, int1W, absW, minW, maxW, sumW, tupleW, listW, augW, M_append, M_pop, ownL, stoW, getW, tgW, setAll, lrgW, partW, isCn, slW, revW, inW, truth, isAny, tyName, kit_NoneType_tuple, kit_NoneType_bool, kit_NoneType_int, kit_NoneType_str, kit_NoneType_list, kit_bool_tuple, kit_bool_bool, kit_bool_int, kit_bool_str, kit_bool_list, kit_int_tuple, kit_int_bool, kit_int_int, kit_int_str, kit_int_list, kit_str_tuple, kit_str_bool, kit_str_int, kit_str_str, kit_str_list, kit_tuple_tuple, kit_tuple_bool, kit_tuple_int, kit_tuple_str, kit_tuple_list, kit_list_tuple, kit_list_bool, kit_list_int, kit_list_str, kit_list_list, N_non, N_bl, N_int, N_str, N_tup, N_rl, N_wl, N_obj, I_tup, I_rl, I_wl, I_obj, LL_rl, LL_obj, O.xs, newL, wipeD, List.getElem?_cons_zero, List.getElem?_cons_succ, List.getElem?_nil, List.set_cons_zero, List.set_cons_succ, Option.some.injEq, exists_and_left, exists_eq', exists_eq, exists_eq_left', exists_eq_left, true_and, and_true, Bool.not_true, Bool.not_false, reduceCtorEq, ite_true, ite_false, if_true, if_false, String.reduceEq, D.int.injEq, D.bl.injEq, D.tup.injEq, D.rl.injEq, D.wl.injEq, D.obj.injEq, D.str.injEq, forall_const, Option.map_some, List.cons_append, List.nil_append, List.length_cons, List.length_nil, List.length_append, made_len]; repeat (with_reducible refine nx_of ?_; simp only [↓B_one, ↓B_cons, ↓B_nil, ↓S_skip, ↓S_set, ↓S_unp, ↓S_par, ↓S_aug, ↓S_sto, ↓S_stg, ↓S_ex, ↓S_ret, ↓S_retn, ↓S_ite, ↓S_for, ↓S_whl, ↓S_brk, ↓S_cnt, ↓S_rais, ↓S_thru, ↓E_var, ↓look_0, ↓look_s, ↓E_ci, ↓E_cb, ↓E_cn, ↓E_cs, ↓E_bin, ↓E_un, ↓E_no, ↓E_an, ↓E_or, ↓E_cmp, ↓E_ch, ↓E_ife, ↓E_tup, ↓E_lst, ↓E_ix, ↓E_sl, ↓E_rev, ↓E_call, ↓E_callk, ↓E_blt, ↓E_mth, ↓E_ixc, ↓E_inc, ↓E_isi, ↓E_lrg, ↓E_lc, ↓E_fld, ↓E_isx, isW, fldW, isxW, N_exc, seq_rt, seq_bk, seq_ct, seq_ex, loop_rt, loop_bk, loop_ex, ret_nx, ret_rt', wpA, wpT, wpAnE, wpOrE, wpAnT, wpOrT, wpC, wpI, binW, addW, mulW, intW, CNo, CPos, CNN, unW, cmpW, eqW, ordW, ixW, B_len, B_int, B_abs, B_min, B_max, B_sum, B_tuple, B_list, lenW, int1W, absW, minW, maxW, sumW, tupleW, listW, augW, M_append, M_pop, ownL, stoW, getW, tgW, setAll, lrgW, partW, isCn, slW, revW, inW, truth, isAny, tyName, kit_NoneType_tuple, kit_NoneType_bool, kit_NoneType_int, kit_NoneType_str, kit_NoneType_list, kit_bool_tuple, kit_bool_bool, kit_bool_int, kit_bool_str, kit_bool_list, kit_int_tuple, kit_int_bool, kit_int_int, kit_int_str, kit_int_list, kit_str_tuple, kit_str_bool, kit_str_int, kit_str_str, kit_str_list, kit_tuple_tuple, kit_tuple_bool, kit_tuple_int, kit_tuple_str, kit_tuple_list, kit_list_tuple, kit_list_bool, kit_list_int, kit_list_str, kit_list_list, N_non, N_bl, N_int, N_str, N_tup, N_rl, N_wl, N_obj, I_tup, I_rl, I_wl, I_obj, LL_rl, LL_obj, O.xs, newL, wipeD, List.getElem?_cons_zero, List.getElem?_cons_succ, List.getElem?_nil, List.set_cons_zero, List.set_cons_succ, Option.some.injEq, exists_and_left, exists_eq', exists_eq, exists_eq_left', exists_eq_left, true_and, and_true, Bool.not_true, Bool.not_false, reduceCtorEq, ite_true, ite_false, if_true, if_false, String.reduceEq, D.int.injEq, D.bl.injEq, D.tup.injEq, D.rl.injEq, D.wl.injEq, D.obj.injEq, D.str.injEq, forall_const, Option.map_some, List.cons_append, List.nil_append, List.length_cons, List.length_nil, List.length_append, made_len]))
  refine ⟨by decide, ?_⟩
  ((try with_reducible refine nx_of ?_); simp only [↓B_one, ↓B_cons, ↓B_nil, ↓S_skip, ↓S_set, ↓S_unp, ↓S_par, ↓S_aug, ↓S_sto, ↓S_stg, ↓S_ex, ↓S_ret, ↓S_retn, ↓S_ite, ↓S_for, ↓S_whl, ↓S_brk, ↓S_cnt, ↓S_rais, ↓S_thru, ↓E_var, ↓look_0, ↓look_s, ↓E_ci, ↓E_cb, ↓E_cn, ↓E_cs, ↓E_bin, ↓E_un, ↓E_no, ↓E_an, ↓E_or, ↓E_cmp, ↓E_ch, ↓E_ife, ↓E_tup, ↓E_lst, ↓E_ix, ↓E_sl, ↓E_rev, ↓E_call, ↓E_callk, ↓E_blt, ↓E_mth, ↓E_ixc, ↓E_inc, ↓E_isi, ↓E_lrg, ↓E_lc, ↓E_fld, ↓E_isx, isW, fldW, isxW, N_exc, seq_rt, seq_bk, seq_ct, seq_ex, loop_rt, loop_bk, loop_ex, ret_nx, ret_rt', wpA, wpT, wpAnE, wpOrE, wpAnT, wpOrT, wpC, wpI, binW, addW, mulW, intW, CNo, CPos, CNN, unW, cmpW, eqW, ordW, ixW, B_len, B_int, B_abs, B_min, B_max, B_sum, B_tuple, B_list, lenW, int1W, absW, minW, maxW, sumW, tupleW, listW, augW, M_append, M_pop, ownL, stoW, getW, tgW, setAll, lrgW, partW, isCn, slW, revW, inW, truth, isAny, tyName, kit_NoneType_tuple, kit_NoneType_bool, kit_NoneType_int, kit_NoneType_str, kit_NoneType_list, kit_bool_tuple, kit_bool_bool, kit_bool_int, kit_bool_str, kit_bool_list, kit_int_tuple, kit_int_bool, kit_int_int, kit_int_str, kit_int_list, kit_str_tuple, kit_str_bool, kit_str_int, kit_str_str, kit_str_list, kit_tuple_tuple, kit_tuple_bool, kit_tuple_int, kit_tuple_str, kit_tuple_list, kit_list_tuple, kit_list_bool, kit_list_int, kit_list_str, kit_list_list, N_non, N_bl, N_int, N_str, N_tup, N_rl, N_wl, N_obj, I_tup, I_rl, I_wl, I_obj, LL_rl, LL_obj, O.xs, newL, wipeD, List.getElem?_cons_zero, List.getElem?_cons_succ, List.getElem?_nil, List.set_cons_zero, List.set_cons_succ, Option.some.injEq, exists_and_left, exists_eq', exists_eq, exists_eq_left', exists_eq_left, true_and, and_true, Bool.not_true, Bool.not_false, reduceCtorEq, ite_true, ite_false, if_true, if_false, String.reduceEq, D.int.injEq, D.bl.injEq, D.tup.injEq, D.rl.injEq, D.wl.injEq, D.obj.injEq, D.str.injEq, forall_const, Option.map_some, List.cons_append, List.nil_append, List.length_cons, List.length_nil, m2q, w.next]; repeat (with_reducible refine nx_of ?_; simp only [↓B_one, ↓B_cons, ↓B_nil, ↓S_skip, ↓S_set, ↓S_unp, ↓S_par, ↓S_aug, ↓S_sto, ↓S_stg, ↓S_ex, ↓S_ret, ↓S_retn, ↓S_ite, ↓S_for, ↓S_whl, ↓S_brk, ↓S_cnt, ↓S_rais, ↓S_thru, ↓E_var, ↓look_0, ↓look_s, ↓E_ci, ↓E_cb, ↓E_cn, ↓E_cs, ↓E_bin, ↓E_un, ↓E_no, ↓E_an, ↓E_or, ↓E_cmp, ↓E_ch, ↓E_ife, ↓E_tup, ↓E_lst, ↓E_ix, ↓E_sl, ↓E_rev, ↓E_call, ↓E_callk, ↓E_blt, ↓E_mth, ↓E_ixc, ↓E_inc, ↓E_isi, ↓E_lrg, ↓E_lc, ↓E_fld, ↓E_isx, isW, fldW, isxW, N_exc, seq_rt, seq_bk, seq_ct, seq_ex, loop_rt, loop_bk, loop_ex, ret_nx, ret_rt', wpA, wpT, wpAnE, wpOrE, wpAnT, wpOrT, wpC, wpI, binW, addW, mulW, intW, CNo, CPos, CNN, unW, cmpW, eqW, ordW, ixW, B_len, B_int, B_abs, B_min, B_max, B_sum, B_tuple, B_list, lenW, int1W, absW, minW, maxW, sumW, tupleW, listW, augW, M_append, M_pop, ownL, stoW, getW, tgW, setAll, lrgW, partW, isCn, slW, revW, inW, truth, isAny, tyName, kit_NoneType_tuple, kit_NoneType_bool, kit_NoneType_int, kit_NoneType_str, kit_NoneType_list, kit_bool_tuple, kit_bool_bool, kit_bool_int, kit_bool_str, kit_bool_list, kit_int_tuple, kit_int_bool, kit_int_int, kit_int_str, kit_int_list, kit_str_tuple, kit_str_bool, kit_str_int, kit_str_str, kit_str_list, kit_tuple_tuple, kit_tuple_bool, kit_tuple_int, kit_tuple_str, kit_tuple_list, kit_list_tuple, kit_list_bool, kit_list_int, kit_list_str, kit_list_list, N_non, N_bl, N_int, N_str, N_tup, N_rl, N_wl, N_obj, I_tup, I_rl, I_wl, I_obj, LL_rl, LL_obj, O.xs, newL, wipeD, List.getElem?_cons_zero, List.getElem?_cons_succ, List.getElem?_nil, List.set_cons_zero, List.set_cons_succ, Option.some.injEq, exists_and_left, exists_eq', exists_eq, exists_eq_left', exists_eq_left, true_and, and_true, Bool.not_true, Bool.not_false, reduceCtorEq, ite_true, ite_false, if_true, if_false, String.reduceEq, D.int.injEq, D.bl.injEq, D.tup.injEq, D.rl.injEq, D.wl.injEq, D.obj.injEq, D.str.injEq, forall_const, Option.map_some, List.cons_append, List.nil_append, List.length_cons, List.length_nil, m2q, w.next]))
  refine ⟨⟨_, rfl⟩, p, 9, bs3, rfl, by decide, m2p, fun r2 bs4 hr2 => ?_⟩
  refine ⟨[.int r1], by rw [put_ne (Ne.symm hpq)]; exact m2q, by simp [big], ?_⟩
  generalize hM3 : put (put M2 p (.lst (nums bs4))) q (.lst ([.int r1] ++ [.int r2])) = M3
  have m3p : M3 p = some (.lst (nums bs4)) := by rw [← hM3, put_ne hpq, put_same]
  have m3q : M3 q = some (.lst [.int r1, .int r2]) := by rw [← hM3, put_same]; rfl
  ((try with_reducible refine nx_of ?_); simp only [↓B_one, ↓B_cons, ↓B_nil, ↓S_skip, ↓S_set, ↓S_unp, ↓S_par, ↓S_aug, ↓S_sto, ↓S_stg, ↓S_ex, ↓S_ret, ↓S_retn, ↓S_ite, ↓S_for, ↓S_whl, ↓S_brk, ↓S_cnt, ↓S_rais, ↓S_thru, ↓E_var, ↓look_0, ↓look_s, ↓E_ci, ↓E_cb, ↓E_cn, ↓E_cs, ↓E_bin, ↓E_un, ↓E_no, ↓E_an, ↓E_or, ↓E_cmp, ↓E_ch, ↓E_ife, ↓E_tup, ↓E_lst, ↓E_ix, ↓E_sl, ↓E_rev, ↓E_call, ↓E_callk, ↓E_blt, ↓E_mth, ↓E_ixc, ↓E_inc, ↓E_isi, ↓E_lrg, ↓E_lc, ↓E_fld, ↓E_isx, isW, fldW, isxW, N_exc, seq_rt, seq_bk, seq_ct, seq_ex, loop_rt, loop_bk, loop_ex, ret_nx, ret_rt', wpA, wpT, wpAnE, wpOrE, wpAnT, wpOrT, wpC, wpI, binW, addW, mulW, intW, CNo, CPos, CNN, unW, cmpW, eqW, ordW, ixW, B_len, B_int, B_abs, B_min, B_max, B_sum, B_tuple, B_list, lenW, int1W, absW, minW, maxW, sumW, tupleW, listW, augW, M_append, M_pop, ownL, stoW, getW, tgW, setAll, lrgW, partW, isCn, slW, revW, inW, truth, isAny, tyName, kit_NoneType_tuple, kit_NoneType_bool, kit_NoneType_int, kit_NoneType_str, kit_NoneType_list, kit_bool_tuple, kit_bool_bool, kit_bool_int, kit_bool_str, kit_bool_list, kit_int_tuple, kit_int_bool, kit_int_int, kit_int_str, kit_int_list, kit_str_tuple, kit_str_bool, kit_str_int, kit_str_str, kit_str_list, kit_tuple_tuple, kit_tuple_bool, kit_tuple_int, kit_tuple_str, kit_tuple_list, kit_list_tuple, kit_list_bool, kit_list_int, kit_list_str, kit_list_list, N_non, N_bl, N_int, N_str, N_tup, N_rl, N_wl, N_obj, I_tup, I_rl, I_wl, I_obj, LL_rl, LL_obj, O.xs, newL, wipeD, List.getElem?_cons_zero, List.getElem?_cons_succ, List.getElem?_nil, List.set_cons_zero, List.set_cons_succ, Option.some.injEq, exists_and_left, exists_eq', exists_eq, exists_eq_left', exists_eq_left, true_and, and_true, Bool.not_true, Bool.not_false, reduceCtorEq, ite_true, ite_false, if_true, if_false, String.reduceEq, D.int.injEq, D.bl.injEq, D.tup.injEq, D.rl.injEq, D.wl.injEq, D.obj.injEq, D.str.injEq, forall_const, Option.map_some, List.cons_append, List.nil_append, List.length_cons, List.length_nil]; repeat (with_reducible refine nx_of ?_; simp only [↓B_one, ↓B_cons, ↓B_nil, ↓S_skip, ↓S_set, ↓S_unp, ↓S_par, ↓S_aug, ↓S_sto, ↓S_stg, ↓S_ex, ↓S_ret, ↓S_retn, ↓S_ite, ↓S_for, ↓S_whl, ↓S_brk, ↓S_cnt, ↓S_rais, ↓S_thru, ↓E_var, ↓look_0, ↓look_s, ↓E_ci, ↓E_cb, ↓E_cn, ↓E_cs, ↓E_bin, ↓E_un, ↓E_no, ↓E_an, ↓E_or, ↓E_cmp, ↓E_ch, ↓E_ife, ↓E_tup, ↓E_lst, ↓E_ix, ↓E_sl, ↓E_rev, ↓E_call, ↓E_callk, ↓E_blt, ↓E_mth, ↓E_ixc, ↓E_inc, ↓E_isi, ↓E_lrg, ↓E_lc, ↓E_fld, ↓E_isx, isW, fldW, isxW, N_exc, seq_rt, seq_bk, seq_ct, seq_ex, loop_rt, loop_bk, loop_ex, ret_nx, ret_rt', wpA, wpT, wpAnE, wpOrE, wpAnT, wpOrT, wpC, wpI, binW, addW, mulW, intW, CNo, CPos, CNN, unW, cmpW, eqW, ordW, ixW, B_len, B_int, B_abs, B_min, B_max, B_sum, B_tuple, B_list, lenW, int1W, absW, minW, maxW, sumW, tupleW, listW, augW, M_append, M_pop, ownL, stoW, getW, tgW, setAll, lrgW, partW, isCn, slW, revW, inW, truth, isAny, tyName, kit_NoneType_tuple, kit_NoneType_bool, kit_NoneType_int, kit_NoneType_str, kit_NoneType_list, kit_bool_tuple, kit_bool_bool, kit_bool_int, kit_bool_str, kit_bool_list, kit_int_tuple, kit_int_bool, kit_int_int, kit_int_str, kit_int_list, kit_str_tuple, kit_str_bool, kit_str_int, kit_str_str, kit_str_list, kit_tuple_tuple, kit_tuple_bool, kit_tuple_int, kit_tuple_str, kit_tuple_list, kit_list_tuple, kit_list_bool, kit_list_int, kit_list_str, kit_list_list, N_non, N_bl, N_int, N_str, N_tup, N_rl, N_wl, N_obj, I_tup, I_rl, I_wl, I_obj, LL_rl, LL_obj, O.xs, newL, wipeD, List.getElem?_cons_zero, List.getElem?_cons_succ, List.getElem?_nil, List.set_cons_zero, List.set_cons_succ, Option.some.injEq, exists_and_left, exists_eq', exists_eq, exists_eq_left', exists_eq_left, true_and, and_true, Bool.not_true, Bool.not_false, reduceCtorEq, ite_true, ite_false, if_true, if_false, String.reduceEq, D.int.injEq, D.bl.injEq, D.tup.injEq, D.rl.injEq, D.wl.injEq, D.obj.injEq, D.str.injEq, forall_const, Option.map_some, List.cons_append, List.nil_append, List.length_cons, List.length_nil]))
  refine loop_of (fun i μ M' => M' = M3 ∧ ∃ a b, μ = [some (.wl (nums ns)), some (.obj p), some v, some u, some (.rl (madeL cA v)), some (.rl (madeL cA u)), a, some (.obj q), some (.rl (madeL cA (.obj q) ++ madeL cA (.obj q))), b]) ⟨rfl, _, _, rfl⟩ (fun _ _ _ _ => trivial) ?_ ?_
  · rintro i x μ M' hi ⟨rfl, a, b, rfl⟩
    have hx := List.mem_of_getElem? hi
    have hx2 : x ∈ madeL cA (.obj q) := by
      rcases List.mem_append.mp hx with z | z <;> exact z
    obtain ⟨a1, rfl⟩ := made_mem hx2
    ((try with_reducible refine nx_of ?_); simp only [↓B_one, ↓B_cons, ↓B_nil, ↓S_skip, ↓S_set, ↓S_unp, ↓S_par, ↓S_aug, ↓S_sto, ↓S_stg, ↓S_ex, ↓S_ret, ↓S_retn, ↓S_ite, ↓S_for, ↓S_whl, ↓S_brk, ↓S_cnt, ↓S_rais, ↓S_thru, ↓E_var, ↓look_0, ↓look_s, ↓E_ci, ↓E_cb, ↓E_cn, ↓E_cs, ↓E_bin, ↓E_un, ↓E_no, ↓E_an, ↓E_or, ↓E_cmp, ↓E_ch, ↓E_ife, ↓E_tup, ↓E_lst, ↓E_ix, ↓E_sl, ↓E_rev, ↓E_call, ↓E_callk, ↓E_blt, ↓E_mth, ↓E_ixc, ↓E_inc, ↓E_isi, ↓E_lrg, ↓E_lc, ↓E_fld, ↓E_isx, isW, fldW, isxW, N_exc, seq_rt, seq_bk, seq_ct, seq_ex, loop_rt, loop_bk, loop_ex, ret_nx, ret_rt', wpA, wpT, wpAnE, wpOrE, wpAnT, wpOrT, wpC, wpI, binW, addW, mulW, intW, CNo, CPos, CNN, unW, cmpW, eqW, ordW, ixW, B_len, B_int, B_abs, B_min, B_max, B_sum, B_tuple, B_list, lenW, int1W, absW, minW, maxW, sumW, tupleW, listW, augW, M_append, M_pop, ownL, stoW, getW, tgW, setAll, lrgW, partW, isCn, slW, revW, inW, truth, isAny, tyName, kit_NoneType_tuple, kit_NoneType_bool, kit_NoneType_int, kit_NoneType_str, kit_NoneType_list, kit_bool_tuple, kit_bool_bool, kit_bool_int, kit_bool_str, kit_bool_list, kit_int_tuple, kit_int_bool, kit_int_int, kit_int_str, kit_int_list, kit_str_tuple, kit_str_bool, kit_str_int, kit_str_str, kit_str_list, kit_tuple_tuple, kit_tuple_bool, kit_tuple_int, kit_tuple_str, kit_tuple_list, kit_list_tuple, kit_list_bool, kit_list_int, kit_list_str, kit_list_list, N_non, N_bl, N_int, N_str, N_tup, N_rl, N_wl, N_obj, I_tup, I_rl, I_wl, I_obj, LL_rl, LL_obj, O.xs, newL, wipeD, List.getElem?_cons_zero, List.getElem?_cons_succ, List.getElem?_nil, List.set_cons_zero, List.set_cons_succ, Option.some.injEq, exists_and_left, exists_eq', exists_eq, exists_eq_left', exists_eq_left, true_and, and_true, Bool.not_true, Bool.not_false, reduceCtorEq, ite_true, ite_false, if_true, if_false, String.reduceEq, D.int.injEq, D.bl.injEq, D.tup.injEq, D.rl.injEq, D.wl.injEq, D.obj.injEq, D.str.injEq, forall_const, Option.map_some, List.cons_append, List.nil_append, List.length_cons, List.length_nil]; repeat (with_reducible refine nx_of ?_; simp only [↓B_one, ↓B_cons, ↓B_nil, ↓S_skip, ↓S_set, ↓S_unp, ↓S_par, ↓S_aug, ↓S_sto, ↓S_stg, ↓S_ex, ↓S_ret, ↓S_retn, ↓S_ite, ↓S_for, ↓S_whl, ↓S_brk, ↓S_cnt, ↓S_rais, ↓S_thru, ↓E_var, ↓look_0, ↓look_s, ↓E_ci, ↓E_cb, ↓E_cn, ↓E_cs, ↓E_bin, ↓E_un, ↓E_no, ↓E_an, ↓E_or, ↓E_cmp, ↓E_ch, ↓E_ife, ↓E_tup, ↓E_lst, ↓E_ix, ↓E_sl, ↓E_rev, ↓E_call, ↓E_callk, ↓E_blt, ↓E_mth, ↓E_ixc, ↓E_inc, ↓E_isi, ↓E_lrg, ↓E_lc, ↓E_fld, ↓E_isx, isW, fldW, isxW, N_exc, seq_rt, seq_bk, seq_ct, seq_ex, loop_rt, loop_bk, loop_ex, ret_nx, ret_rt', wpA, wpT, wpAnE, wpOrE, wpAnT, wpOrT, wpC, wpI, binW, addW, mulW, intW, CNo, CPos, CNN, unW, cmpW, eqW, ordW, ixW, B_len, B_int, B_abs, B_min, B_max, B_sum, B_tuple, B_list, lenW, int1W, absW, minW, maxW, sumW, tupleW, listW, augW, M_append, M_pop, ownL, stoW, getW, tgW, setAll, lrgW, partW, isCn, slW, revW, inW, truth, isAny, tyName, kit_NoneType_tuple, kit_NoneType_bool, kit_NoneType_int, kit_NoneType_str, kit_NoneType_list, kit_bool_tuple, kit_bool_bool, kit_bool_int, kit_bool_str, kit_bool_list, kit_int_tuple, kit_int_bool, kit_int_int, kit_int_str, kit_int_list, kit_str_tuple, kit_str_bool, kit_str_int, kit_str_str, kit_str_list, kit_tuple_tuple, kit_tuple_bool, kit_tuple_int, kit_tuple_str, kit_tuple_list, kit_list_tuple, kit_list_bool, kit_list_int, kit_list_str, kit_list_list, N_non, N_bl, N_int, N_str, N_tup, N_rl, N_wl, N_obj, I_tup, I_rl, I_wl, I_obj, LL_rl, LL_obj, O.xs, newL, wipeD, List.getElem?_cons_zero, List.getElem?_cons_succ, List.getElem?_nil, List.set_cons_zero, List.set_cons_succ, Option.some.injEq, exists_and_left, exists_eq', exists_eq, exists_eq_left', exists_eq_left, true_and, and_true, Bool.not_true, Bool.not_false, reduceCtorEq, ite_true, ite_false, if_true, if_false, String.reduceEq, D.int.injEq, D.bl.injEq, D.tup.injEq, D.rl.injEq, D.wl.injEq, D.obj.injEq, D.str.injEq, forall_const, Option.map_some, List.cons_append, List.nil_append, List.length_cons, List.length_nil]))
    refine ⟨_, rfl, ?_⟩
    ((try with_reducible refine nx_of ?_); simp only [↓B_one, ↓B_cons, ↓B_nil, ↓S_skip, ↓S_set, ↓S_unp, ↓S_par, ↓S_aug, ↓S_sto, ↓S_stg, ↓S_ex, ↓S_ret, ↓S_retn, ↓S_ite, ↓S_for, ↓S_whl, ↓S_brk, ↓S_cnt, ↓S_rais, ↓S_thru, ↓E_var, ↓look_0, ↓look_s, ↓E_ci, ↓E_cb, ↓E_cn, ↓E_cs, ↓E_bin, ↓E_un, ↓E_no, ↓E_an, ↓E_or, ↓E_cmp, ↓E_ch, ↓E_ife, ↓E_tup, ↓E_lst, ↓E_ix, ↓E_sl, ↓E_rev, ↓E_call, ↓E_callk, ↓E_blt, ↓E_mth, ↓E_ixc, ↓E_inc, ↓E_isi, ↓E_lrg, ↓E_lc, ↓E_fld, ↓E_isx, isW, fldW, isxW, N_exc, seq_rt, seq_bk, seq_ct, seq_ex, loop_rt, loop_bk, loop_ex, ret_nx, ret_rt', wpA, wpT, wpAnE, wpOrE, wpAnT, wpOrT, wpC, wpI, binW, addW, mulW, intW, CNo, CPos, CNN, unW, cmpW, eqW, ordW, ixW, B_len, B_int, B_abs, B_min, B_max, B_sum, B_tuple, B_list, lenW, int1W, absW, minW, maxW, sumW, tupleW, listW, augW, M_append, M_pop, ownL, stoW, getW, tgW, setAll, lrgW, partW, isCn, slW, revW, inW, truth, isAny, tyName, kit_NoneType_tuple, kit_NoneType_bool, kit_NoneType_int, kit_NoneType_str, kit_NoneType_list, kit_bool_tuple, kit_bool_bool, kit_bool_int, kit_bool_str, kit_bool_list, kit_int_tuple, kit_int_bool, kit_int_int, kit_int_str, kit_int_list, kit_str_tuple, kit_str_bool, kit_str_int, kit_str_str, kit_str_list, kit_tuple_tuple, kit_tuple_bool, kit_tuple_int, kit_tuple_str, kit_tuple_list, kit_list_tuple, kit_list_bool, kit_list_int, kit_list_str, kit_list_list, N_non, N_bl, N_int, N_str, N_tup, N_rl, N_wl, N_obj, I_tup, I_rl, I_wl, I_obj, LL_rl, LL_obj, O.xs, newL, wipeD, List.getElem?_cons_zero, List.getElem?_cons_succ, List.getElem?_nil, List.set_cons_zero, List.set_cons_succ, Option.some.injEq, exists_and_left, exists_eq', exists_eq, exists_eq_left', exists_eq_left, true_and, and_true, Bool.not_true, Bool.not_false, reduceCtorEq, ite_true, ite_false, if_true, if_false, String.reduceEq, D.int.injEq, D.bl.injEq, D.tup.injEq, D.rl.injEq, D.wl.injEq, D.obj.injEq, D.str.injEq, forall_const, Option.map_some, List.cons_append, List.nil_append, List.length_cons, List.length_nil, m3q]; repeat (with_reducible refine nx_of ?_; simp only [↓B_one, ↓B_cons, ↓B_nil, ↓S_skip, ↓S_set, ↓S_unp, ↓S_par, ↓S_aug, ↓S_sto, ↓S_stg, ↓S_ex, ↓S_ret, ↓S_retn, ↓S_ite, ↓S_for, ↓S_whl, ↓S_brk, ↓S_cnt, ↓S_rais, ↓S_thru, ↓E_var, ↓look_0, ↓look_s, ↓E_ci, ↓E_cb, ↓E_cn, ↓E_cs, ↓E_bin, ↓E_un, ↓E_no, ↓E_an, ↓E_or, ↓E_cmp, ↓E_ch, ↓E_ife, ↓E_tup, ↓E_lst, ↓E_ix, ↓E_sl, ↓E_rev, ↓E_call, ↓E_callk, ↓E_blt, ↓E_mth, ↓E_ixc, ↓E_inc, ↓E_isi, ↓E_lrg, ↓E_lc, ↓E_fld, ↓E_isx, isW, fldW, isxW, N_exc, seq_rt, seq_bk, seq_ct, seq_ex, loop_rt, loop_bk, loop_ex, ret_nx, ret_rt', wpA, wpT, wpAnE, wpOrE, wpAnT, wpOrT, wpC, wpI, binW, addW, mulW, intW, CNo, CPos, CNN, unW, cmpW, eqW, ordW, ixW, B_len, B_int, B_abs, B_min, B_max, B_sum, B_tuple, B_list, lenW, int1W, absW, minW, maxW, sumW, tupleW, listW, augW, M_append, M_pop, ownL, stoW, getW, tgW, setAll, lrgW, partW, isCn, slW, revW, inW, truth, isAny, tyName, kit_NoneType_tuple, kit_NoneType_bool, kit_NoneType_int, kit_NoneType_str, kit_NoneType_list, kit_bool_tuple, kit_bool_bool, kit_bool_int, kit_bool_str, kit_bool_list, kit_int_tuple, kit_int_bool, kit_int_int, kit_int_str, kit_int_list, kit_str_tuple, kit_str_bool, kit_str_int, kit_str_str, kit_str_list, kit_tuple_tuple, kit_tuple_bool, kit_tuple_int, kit_tuple_str, kit_tuple_list, kit_list_tuple, kit_list_bool, kit_list_int, kit_list_str, kit_list_list, N_non, N_bl, N_int, N_str, N_tup, N_rl, N_wl, N_obj, I_tup, I_rl, I_wl, I_obj, LL_rl, LL_obj, O.xs, newL, wipeD, List.getElem?_cons_zero, List.getElem?_cons_succ, List.getElem?_nil, List.set_cons_zero, List.set_cons_succ, Option.some.injEq, exists_and_left, exists_eq', exists_eq, exists_eq_left', exists_eq_left, true_and, and_true, Bool.not_true, Bool.not_false, reduceCtorEq, ite_true, ite_false, if_true, if_false, String.reduceEq, D.int.injEq, D.bl.injEq, D.tup.injEq, D.rl.injEq, D.wl.injEq, D.obj.injEq, D.str.injEq, forall_const, Option.map_some, List.cons_append, List.nil_append, List.length_cons, List.length_nil, m3q]))
    refine ⟨_, rfl, ?_⟩
    ((try with_reducible refine nx_of ?_); simp only [↓B_one, ↓B_cons, ↓B_nil, ↓S_skip, ↓S_set, ↓S_unp, ↓S_par, ↓S_aug, ↓S_sto, ↓S_stg, ↓S_ex, ↓S_ret, ↓S_retn, ↓S_ite, ↓S_for, ↓S_whl, ↓S_brk, ↓S_cnt, ↓S_rais, ↓S_thru, ↓E_var, ↓look_0, ↓look_s, ↓E_ci, ↓E_cb, ↓E_cn, ↓E_cs, ↓E_bin, ↓E_un, ↓E_no, ↓E_an, ↓E_or, ↓E_cmp, ↓E_ch, ↓E_ife, ↓E_tup, ↓E_lst, ↓E_ix, ↓E_sl, ↓E_rev, ↓E_call, ↓E_callk, ↓E_blt, ↓E_mth, ↓E_ixc, ↓E_inc, ↓E_isi, ↓E_lrg, ↓E_lc, ↓E_fld, ↓E_isx, isW, fldW, isxW, N_exc, seq_rt, seq_bk, seq_ct, seq_ex, loop_rt, loop_bk, loop_ex, ret_nx, ret_rt', wpA, wpT, wpAnE, wpOrE, wpAnT, wpOrT, wpC, wpI, binW, addW, mulW, intW, CNo, CPos, CNN, unW, cmpW, eqW, ordW, ixW, B_len, B_int, B_abs, B_min, B_max, B_sum, B_tuple, B_list, lenW, int1W, absW, minW, maxW, sumW, tupleW, listW, augW, M_append, M_pop, ownL, stoW, getW, tgW, setAll, lrgW, partW, isCn, slW, revW, inW, truth, isAny, tyName, kit_NoneType_tuple, kit_NoneType_bool, kit_NoneType_int, kit_NoneType_str, kit_NoneType_list, kit_bool_tuple, kit_bool_bool, kit_bool_int, kit_bool_str, kit_bool_list, kit_int_tuple, kit_int_bool, kit_int_int, kit_int_str, kit_int_list, kit_str_tuple, kit_str_bool, kit_str_int, kit_str_str, kit_str_list, kit_tuple_tuple, kit_tuple_bool, kit_tuple_int, kit_tuple_str, kit_tuple_list, kit_list_tuple, kit_list_bool, kit_list_int, kit_list_str, kit_list_list, N_non, N_bl, N_int, N_str, N_tup, N_rl, N_wl, N_obj, I_tup, I_rl, I_wl, I_obj, LL_rl, LL_obj, O.xs, newL, wipeD, List.getElem?_cons_zero, List.getElem?_cons_succ, List.getElem?_nil, List.set_cons_zero, List.set_cons_succ, Option.some.injEq, exists_and_left, exists_eq', exists_eq, exists_eq_left', exists_eq_left, true_and, and_true, Bool.not_true, Bool.not_false, reduceCtorEq, ite_true, ite_false, if_true, if_false, String.reduceEq, D.int.injEq, D.bl.injEq, D.tup.injEq, D.rl.injEq, D.wl.injEq, D.obj.injEq, D.str.injEq, forall_const, Option.map_some, List.cons_append, List.nil_append, List.length_cons, List.length_nil, m3q, w.like]; repeat (with_reducible refine nx_of ?_; simp only [↓B_one, ↓B_cons, ↓B_nil, ↓S_skip, ↓S_set, ↓S_unp, ↓S_par, ↓S_aug, ↓S_sto, ↓S_stg, ↓S_ex, ↓S_ret, ↓S_retn, ↓S_ite, ↓S_for, ↓S_whl, ↓S_brk, ↓S_cnt, ↓S_rais, ↓S_thru, ↓E_var, ↓look_0, ↓look_s, ↓E_ci, ↓E_cb, ↓E_cn, ↓E_cs, ↓E_bin, ↓E_un, ↓E_no, ↓E_an, ↓E_or, ↓E_cmp, ↓E_ch, ↓E_ife, ↓E_tup, ↓E_lst, ↓E_ix, ↓E_sl, ↓E_rev, ↓E_call, ↓E_callk, ↓E_blt, ↓E_mth, ↓E_ixc, ↓E_inc, ↓E_isi, ↓E_lrg, ↓E_lc, ↓E_fld, ↓E_isx, isW, fldW, isxW, N_exc, seq_rt, seq_bk, seq_ct, seq_ex, loop_rt, loop_bk, loop_ex, ret_nx, ret_rt', wpA, wpT, wpAnE, wpOrE, wpAnT, wpOrT, wpC, wpI, binW, addW, mulW, intW, CNo, CPos, CNN, unW, cmpW, eqW, ordW, ixW, B_len, B_int, B_abs, B_min, B_max, B_sum, B_tuple, B_list, lenW, int1W, absW, minW, maxW, sumW, tupleW, listW, augW, M_append, M_pop, ownL, stoW, getW, tgW, setAll, lrgW, partW, isCn, slW, revW, inW, truth, isAny, tyName, kit_NoneType_tuple, kit_NoneType_bool, kit_NoneType_int, kit_NoneType_str, kit_NoneType_list, kit_bool_tuple, kit_bool_bool, kit_bool_int, kit_bool_str, kit_bool_list, kit_int_tuple, kit_int_bool, kit_int_int, kit_int_str, kit_int_list, kit_str_tuple, kit_str_bool, kit_str_int, kit_str_str, kit_str_list, kit_tuple_tuple, kit_tuple_bool, kit_tuple_int, kit_tuple_str, kit_tuple_list, kit_list_tuple, kit_list_bool, kit_list_int, kit_list_str, kit_list_list, N_non, N_bl, N_int, N_str, N_tup, N_rl, N_wl, N_obj, I_tup, I_rl, I_wl, I_obj, LL_rl, LL_obj, O.xs, newL, wipeD, List.getElem?_cons_zero, List.getElem?_cons_succ, List.getElem?_nil, List.set_cons_zero, List.set_cons_succ, Option.some.injEq, exists_and_left, exists_eq', exists_eq, exists_eq_left', exists_eq_left, true_and, and_true, Bool.not_true, Bool.not_false, reduceCtorEq, ite_true, ite_false, if_true, if_false, String.reduceEq, D.int.injEq, D.bl.injEq, D.tup.injEq, D.rl.injEq, D.wl.injEq, D.obj.injEq, D.str.injEq, forall_const, Option.map_some, List.cons_append, List.nil_append, List.length_cons, List.length_nil, m3q, w.like]))
    refine ⟨_, _, rfl, ⟨by simp [big], fun x hx => ?_⟩, fun x hx => ?_, ?_⟩
    · simp only [List.mem_cons, List.mem_nil_iff, or_false] at hx
      rcases hx with rfl | rfl <;> trivial
    · simp only [List.mem_cons, List.mem_nil_iff, or_false] at hx
      rcases hx with rfl | rfl <;> trivial
    · have e : like 2 (.tup [.int r1, .int r2]) (.tup [.int r1, .int r2]) = true := by simp [like]
      rw [e]
      ((try with_reducible refine nx_of ?_); simp only [↓B_one, ↓B_cons, ↓B_nil, ↓S_skip, ↓S_set, ↓S_unp, ↓S_par, ↓S_aug, ↓S_sto, ↓S_stg, ↓S_ex, ↓S_ret, ↓S_retn, ↓S_ite, ↓S_for, ↓S_whl, ↓S_brk, ↓S_cnt, ↓S_rais, ↓S_thru, ↓E_var, ↓look_0, ↓look_s, ↓E_ci, ↓E_cb, ↓E_cn, ↓E_cs, ↓E_bin, ↓E_un, ↓E_no, ↓E_an, ↓E_or, ↓E_cmp, ↓E_ch, ↓E_ife, ↓E_tup, ↓E_lst, ↓E_ix, ↓E_sl, ↓E_rev, ↓E_call, ↓E_callk, ↓E_blt, ↓E_mth, ↓E_ixc, ↓E_inc, ↓E_isi, ↓E_lrg, ↓E_lc, ↓E_fld, ↓E_isx, isW, fldW, isxW, N_exc, seq_rt, seq_bk, seq_ct, seq_ex, loop_rt, loop_bk, loop_ex, ret_nx, ret_rt', wpA, wpT, wpAnE, wpOrE, wpAnT, wpOrT, wpC, wpI, binW, addW, mulW, intW, CNo, CPos, CNN, unW, cmpW, eqW, ordW, ixW, B_len, B_int, B_abs, B_min, B_max, B_sum, B_tuple, B_list, lenW, int1W, absW, minW, maxW, sumW, tupleW, listW, augW, M_append, M_pop, ownL, stoW, getW, tgW, setAll, lrgW, partW, isCn, slW, revW, inW, truth, isAny, tyName, kit_NoneType_tuple, kit_NoneType_bool, kit_NoneType_int, kit_NoneType_str, kit_NoneType_list, kit_bool_tuple, kit_bool_bool, kit_bool_int, kit_bool_str, kit_bool_list, kit_int_tuple, kit_int_bool, kit_int_int, kit_int_str, kit_int_list, kit_str_tuple, kit_str_bool, kit_str_int, kit_str_str, kit_str_list, kit_tuple_tuple, kit_tuple_bool, kit_tuple_int, kit_tuple_str, kit_tuple_list, kit_list_tuple, kit_list_bool, kit_list_int, kit_list_str, kit_list_list, N_non, N_bl, N_int, N_str, N_tup, N_rl, N_wl, N_obj, I_tup, I_rl, I_wl, I_obj, LL_rl, LL_obj, O.xs, newL, wipeD, List.getElem?_cons_zero, List.getElem?_cons_succ, List.getElem?_nil, List.set_cons_zero, List.set_cons_succ, Option.some.injEq, exists_and_left, exists_eq', exists_eq, exists_eq_left', exists_eq_left, true_and, and_true, Bool.not_true, Bool.not_false, reduceCtorEq, ite_true, ite_false, if_true, if_false, String.reduceEq, D.int.injEq, D.bl.injEq, D.tup.injEq, D.rl.injEq, D.wl.injEq, D.obj.injEq, D.str.injEq, forall_const, Option.map_some, List.cons_append, List.nil_append, List.length_cons, List.length_nil, m3q]; repeat (with_reducible refine nx_of ?_; simp only [↓B_one, ↓B_cons, ↓B_nil, ↓S_skip, ↓S_set, ↓S_unp, ↓S_par, ↓S_aug, ↓S_sto, ↓S_stg, ↓S_ex, ↓S_ret, ↓S_retn, ↓S_ite, ↓S_for, ↓S_whl, ↓S_brk, ↓S_cnt, ↓S_rais, ↓S_thru, ↓E_var, ↓look_0, ↓look_s, ↓E_ci, ↓E_cb, ↓E_cn, ↓E_cs, ↓E_bin, ↓E_un, ↓E_no, ↓E_an, ↓E_or, ↓E_cmp, ↓E_ch, ↓E_ife, ↓E_tup, ↓E_lst, ↓E_ix, ↓E_sl, ↓E_rev, ↓E_call, ↓E_callk, ↓E_blt, ↓E_mth, ↓E_ixc, ↓E_inc, ↓E_isi, ↓E_lrg, ↓E_lc, ↓E_fld, ↓E_isx, isW, fldW, isxW, N_exc, seq_rt, seq_bk, seq_ct, seq_ex, loop_rt, loop_bk, loop_ex, ret_nx, ret_rt', wpA, wpT, wpAnE, wpOrE, wpAnT, wpOrT, wpC, wpI, binW, addW, mulW, intW, CNo, CPos, CNN, unW, cmpW, eqW, ordW, ixW, B_len, B_int, B_abs, B_min, B_max, B_sum, B_tuple, B_list, lenW, int1W, absW, minW, maxW, sumW, tupleW, listW, augW, M_append, M_pop, ownL, stoW, getW, tgW, setAll, lrgW, partW, isCn, slW, revW, inW, truth, isAny, tyName, kit_NoneType_tuple, kit_NoneType_bool, kit_NoneType_int, kit_NoneType_str, kit_NoneType_list, kit_bool_tuple, kit_bool_bool, kit_bool_int, kit_bool_str, kit_bool_list, kit_int_tuple, kit_int_bool, kit_int_int, kit_int_str, kit_int_list, kit_str_tuple, kit_str_bool, kit_str_int, kit_str_str, kit_str_list, kit_tuple_tuple, kit_tuple_bool, kit_tuple_int, kit_tuple_str, kit_tuple_list, kit_list_tuple, kit_list_bool, kit_list_int, kit_list_str, kit_list_list, N_non, N_bl, N_int, N_str, N_tup, N_rl, N_wl, N_obj, I_tup, I_rl, I_wl, I_obj, LL_rl, LL_obj, O.xs, newL, wipeD, List.getElem?_cons_zero, List.getElem?_cons_succ, List.getElem?_nil, List.set_cons_zero, List.set_cons_succ, Option.some.injEq, exists_and_left, exists_eq', exists_eq, exists_eq_left', exists_eq_left, true_and, and_true, Bool.not_true, Bool.not_false, reduceCtorEq, ite_true, ite_false, if_true, if_false, String.reduceEq, D.int.injEq, D.bl.injEq, D.tup.injEq, D.rl.injEq, D.wl.injEq, D.obj.injEq, D.str.injEq, forall_const, Option.map_some, List.cons_append, List.nil_append, List.length_cons, List.length_nil, m3q]))
      simp only [show (!decide (((0 + 1 + 1 : Nat) : Int) = 2)) = false by decide]
      exact ⟨_, .refl _, rfl, _, _, rfl⟩
  · rintro μ M' ⟨rfl, a, b, rfl⟩
    ((try with_reducible refine nx_of ?_); simp only [↓B_one, ↓B_cons, ↓B_nil, ↓S_skip, ↓S_set, ↓S_unp, ↓S_par, ↓S_aug, ↓S_sto, ↓S_stg, ↓S_ex, ↓S_ret, ↓S_retn, ↓S_ite, ↓S_for, ↓S_whl, ↓S_brk, ↓S_cnt, ↓S_rais, ↓S_thru, ↓E_var, ↓look_0, ↓look_s, ↓E_ci, ↓E_cb, ↓E_cn, ↓E_cs, ↓E_bin, ↓E_un, ↓E_no, ↓E_an, ↓E_or, ↓E_cmp, ↓E_ch, ↓E_ife, ↓E_tup, ↓E_lst, ↓E_ix, ↓E_sl, ↓E_rev, ↓E_call, ↓E_callk, ↓E_blt, ↓E_mth, ↓E_ixc, ↓E_inc, ↓E_isi, ↓E_lrg, ↓E_lc, ↓E_fld, ↓E_isx, isW, fldW, isxW, N_exc, seq_rt, seq_bk, seq_ct, seq_ex, loop_rt, loop_bk, loop_ex, ret_nx, ret_rt', wpA, wpT, wpAnE, wpOrE, wpAnT, wpOrT, wpC, wpI, binW, addW, mulW, intW, CNo, CPos, CNN, unW, cmpW, eqW, ordW, ixW, B_len, B_int, B_abs, B_min, B_max, B_sum, B_tuple, B_list, lenW, int1W, absW, minW, maxW, sumW, tupleW, listW, augW, M_append, M_pop, ownL, stoW, getW, tgW, setAll, lrgW, partW, isCn, slW, revW, inW, truth, isAny, tyName, kit_NoneType_tuple, kit_NoneType_bool, kit_NoneType_int, kit_NoneType_str, kit_NoneType_list, kit_bool_tuple, kit_bool_bool, kit_bool_int, kit_bool_str, kit_bool_list, kit_int_tuple, kit_int_bool, kit_int_int, kit_int_str, kit_int_list, kit_str_tuple, kit_str_bool, kit_str_int, kit_str_str, kit_str_list, kit_tuple_tuple, kit_tuple_bool, kit_tuple_int, kit_tuple_str, kit_tuple_list, kit_list_tuple, kit_list_bool, kit_list_int, kit_list_str, kit_list_list, N_non, N_bl, N_int, N_str, N_tup, N_rl, N_wl, N_obj, I_tup, I_rl, I_wl, I_obj, LL_rl, LL_obj, O.xs, newL, wipeD, List.getElem?_cons_zero, List.getElem?_cons_succ, List.getElem?_nil, List.set_cons_zero, List.set_cons_succ, Option.some.injEq, exists_and_left, exists_eq', exists_eq, exists_eq_left', exists_eq_left, true_and, and_true, Bool.not_true, Bool.not_false, reduceCtorEq, ite_true, ite_false, if_true, if_false, String.reduceEq, D.int.injEq, D.bl.injEq, D.tup.injEq, D.rl.injEq, D.wl.injEq, D.obj.injEq, D.str.injEq, forall_const, Option.map_some, List.cons_append, List.nil_append, List.length_cons, List.length_nil, w.others]; repeat (with_reducible refine nx_of ?_; simp only [↓B_one, ↓B_cons, ↓B_nil, ↓S_skip, ↓S_set, ↓S_unp, ↓S_par, ↓S_aug, ↓S_sto, ↓S_stg, ↓S_ex, ↓S_ret, ↓S_retn, ↓S_ite, ↓S_for, ↓S_whl, ↓S_brk, ↓S_cnt, ↓S_rais, ↓S_thru, ↓E_var, ↓look_0, ↓look_s, ↓E_ci, ↓E_cb, ↓E_cn, ↓E_cs, ↓E_bin, ↓E_un, ↓E_no, ↓E_an, ↓E_or, ↓E_cmp, ↓E_ch, ↓E_ife, ↓E_tup, ↓E_lst, ↓E_ix, ↓E_sl, ↓E_rev, ↓E_call, ↓E_callk, ↓E_blt, ↓E_mth, ↓E_ixc, ↓E_inc, ↓E_isi, ↓E_lrg, ↓E_lc, ↓E_fld, ↓E_isx, isW, fldW, isxW, N_exc, seq_rt, seq_bk, seq_ct, seq_ex, loop_rt, loop_bk, loop_ex, ret_nx, ret_rt', wpA, wpT, wpAnE, wpOrE, wpAnT, wpOrT, wpC, wpI, binW, addW, mulW, intW, CNo, CPos, CNN, unW, cmpW, eqW, ordW, ixW, B_len, B_int, B_abs, B_min, B_max, B_sum, B_tuple, B_list, lenW, int1W, absW, minW, maxW, sumW, tupleW, listW, augW, M_append, M_pop, ownL, stoW, getW, tgW, setAll, lrgW, partW, isCn, slW, revW, inW, truth, isAny, tyName, kit_NoneType_tuple, kit_NoneType_bool, kit_NoneType_int, kit_NoneType_str, kit_NoneType_list, kit_bool_tuple, kit_bool_bool, kit_bool_int, kit_bool_str, kit_bool_list, kit_int_tuple, kit_int_bool, kit_int_int, kit_int_str, kit_int_list, kit_str_tuple, kit_str_bool, kit_str_int, kit_str_str, kit_str_list, kit_tuple_tuple, kit_tuple_bool, kit_tuple_int, kit_tuple_str, kit_tuple_list, kit_list_tuple, kit_list_bool, kit_list_int, kit_list_str, kit_list_list, N_non, N_bl, N_int, N_str, N_tup, N_rl, N_wl, N_obj, I_tup, I_rl, I_wl, I_obj, LL_rl, LL_obj, O.xs, newL, wipeD, List.getElem?_cons_zero, List.getElem?_cons_succ, List.getElem?_nil, List.set_cons_zero, List.set_cons_succ, Option.some.injEq, exists_and_left, exists_eq', exists_eq, exists_eq_left', exists_eq_left, true_and, and_true, Bool.not_true, Bool.not_false, reduceCtorEq, ite_true, ite_false, if_true, if_false, String.reduceEq, D.int.injEq, D.bl.injEq, D.tup.injEq, D.rl.injEq, D.wl.injEq, D.obj.injEq, D.str.injEq, forall_const, Option.map_some, List.cons_append, List.nil_append, List.length_cons, List.length_nil, w.others]))
    refine ⟨p, bs4, rfl, m3p, fun bs5 => ?_⟩
    exact .here (hq _)
def sp_law : Spec := fun ds M Q _ => ∃ ns : List Int, ds = [.wl (nums ns)] ∧ ns.length ≤ 63 ∧ ∀ M', Q (.bl true) M'
theorem w_law (g : Γ.call g_law_whole = sp_law_whole) {ds M Q E} (h : sp_law ds M Q E) : wpB Γ b_law (startD n_law ds) M (Kret Q E) := by
  obtain ⟨ns, rfl, hl, hq⟩ := h
  show wpB Γ b_law [some (.wl (nums ns))] M (Kret Q E)
  unfold b_law
  ((try with_reducible refine nx_of ?_); simp only [↓B_one, ↓B_cons, ↓B_nil, ↓S_skip, ↓S_set, ↓S_unp, ↓S_par, ↓S_aug, ↓S_sto, ↓S_stg, ↓S_ex, ↓S_ret, ↓S_retn, ↓S_ite, ↓S_for, ↓S_whl, ↓S_brk, ↓S_cnt, ↓S_rais, ↓S_thru, ↓E_var, ↓look_0, ↓look_s, ↓E_ci, ↓E_cb, ↓E_cn, ↓E_cs, ↓E_bin, ↓E_un, ↓E_no, ↓E_an, ↓E_or, ↓E_cmp, ↓E_ch, ↓E_ife, ↓E_tup, ↓E_lst, ↓E_ix, ↓E_sl, ↓E_rev, ↓E_call, ↓E_callk, ↓E_blt, ↓E_mth, ↓E_ixc, ↓E_inc, ↓E_isi, ↓E_lrg, ↓E_lc, ↓E_fld, ↓E_isx, isW, fldW, isxW, N_exc, seq_rt, seq_bk, seq_ct, seq_ex, loop_rt, loop_bk, loop_ex, ret_nx, ret_rt', wpA, wpT, wpAnE, wpOrE, wpAnT, wpOrT, wpC, wpI, binW, addW, mulW, intW, CNo, CPos, CNN, unW, cmpW, eqW, ordW, ixW, B_len, B_int, B_abs, B_min, B_max, B_sum, B_tuple, B_list, lenW, int1W, absW, minW, maxW, sumW, tupleW, listW, augW, M_append, M_pop, ownL, stoW, getW, tgW, setAll, lrgW, partW, isCn, slW, revW, inW, truth, isAny, tyName, kit_NoneType_tuple, kit_NoneType_bool, kit_NoneType_int, kit_NoneType_str, kit_NoneType_list, kit_bool_tuple, kit_bool_bool, kit_bool_int, kit_bool_str, kit_bool_list, kit_int_tuple, kit_int_bool, kit_int_int, kit_int_str, kit_int_list, kit_str_tuple, kit_str_bool, kit_str_int, kit_str_str, kit_str_list, kit_tuple_tuple, kit_tuple_bool, kit_tuple_int, kit_tuple_str, kit_tuple_list, kit_list_tuple, kit_list_bool, kit_list_int, kit_list_str, kit_list_list, N_non, N_bl, N_int, N_str, N_tup, N_rl, N_wl, N_obj, I_tup, I_rl, I_wl, I_obj, LL_rl, LL_obj, O.xs, newL, wipeD, List.getElem?_cons_zero, List.getElem?_cons_succ, List.getElem?_nil, List.set_cons_zero, List.set_cons_succ, Option.some.injEq, exists_and_left, exists_eq', exists_eq, exists_eq_left', exists_eq_left, true_and, and_true, Bool.not_true, Bool.not_false, reduceCtorEq, ite_true, ite_false, if_true, if_false, String.reduceEq, D.int.injEq, D.bl.injEq, D.tup.injEq, D.rl.injEq, D.wl.injEq, D.obj.injEq, D.str.injEq, forall_const, Option.map_some, List.cons_append, List.nil_append, List.length_cons, List.length_nil, g]; repeat (with_reducible refine nx_of ?_; simp only [↓B_one, ↓B_cons, ↓B_nil, ↓S_skip, ↓S_set, ↓S_unp, ↓S_par, ↓S_aug, ↓S_sto, ↓S_stg, ↓S_ex, ↓S_ret, ↓S_retn, ↓S_ite, ↓S_for, ↓S_whl, ↓S_brk, ↓S_cnt, ↓S_rais, ↓S_thru, ↓E_var, ↓look_0, ↓look_s, ↓E_ci, ↓E_cb, ↓E_cn, ↓E_cs, ↓E_bin, ↓E_un, ↓E_no, ↓E_an, ↓E_or, ↓E_cmp, ↓E_ch, ↓E_ife, ↓E_tup, ↓E_lst, ↓E_ix, ↓E_sl, ↓E_rev, ↓E_call, ↓E_callk, ↓E_blt, ↓E_mth, ↓E_ixc, ↓E_inc, ↓E_isi, ↓E_lrg, ↓E_lc, ↓E_fld, ↓E_isx, isW, fldW, isxW, N_exc, seq_rt, seq_bk, seq_ct, seq_ex, loop_rt, loop_bk, loop_ex, ret_nx, ret_rt', wpA, wpT, wpAnE, wpOrE, wpAnT, wpOrT, wpC, wpI, binW, addW, mulW, intW, CNo, CPos, CNN, unW, cmpW, eqW, ordW, ixW, B_len, B_int, B_abs, B_min, B_max, B_sum, B_tuple, B_list, lenW, int1W, absW, minW, maxW, sumW, tupleW, listW, augW, M_append, M_pop, ownL, stoW, getW, tgW, setAll, lrgW, partW, isCn, slW, revW, inW, truth, isAny, tyName, kit_NoneType_tuple, kit_NoneType_bool, kit_NoneType_int, kit_NoneType_str, kit_NoneType_list, kit_bool_tuple, kit_bool_bool, kit_bool_int, kit_bool_str, kit_bool_list, kit_int_tuple, kit_int_bool, kit_int_int, kit_int_str, kit_int_list, kit_str_tuple, kit_str_bool, kit_str_int, kit_str_str, kit_str_list, kit_tuple_tuple, kit_tuple_bool, kit_tuple_int, kit_tuple_str, kit_tuple_list, kit_list_tuple, kit_list_bool, kit_list_int, kit_list_str, kit_list_list, N_non, N_bl, N_int, N_str, N_tup, N_rl, N_wl, N_obj, I_tup, I_rl, I_wl, I_obj, LL_rl, LL_obj, O.xs, newL, wipeD, List.getElem?_cons_zero, List.getElem?_cons_succ, List.getElem?_nil, List.set_cons_zero, List.set_cons_succ, Option.some.injEq, exists_and_left, exists_eq', exists_eq, exists_eq_left', exists_eq_left, true_and, and_true, Bool.not_true, Bool.not_false, reduceCtorEq, ite_true, ite_false, if_true, if_false, String.reduceEq, D.int.injEq, D.bl.injEq, D.tup.injEq, D.rl.injEq, D.wl.injEq, D.obj.injEq, D.str.injEq, forall_const, Option.map_some, List.cons_append, List.nil_append, List.length_cons, List.length_nil, g]))
  exact ⟨ns, rfl, hl, fun M' => .here (hq M')⟩
end Bx

set_option Elab.async false
set_option linter.all false
set_option maxRecDepth 100000
set_option maxHeartbeats 0
/-! k32: the head, the chain of promises, the claim (printed by genlaw2.py). -/
namespace K32
open PySem PySem.Spec PyProof.Rows L2 Bx
def top (i : Nat) : Stmt := PySem.Challenge.pw_bentrealm_k32_errors_of_tables.main.body.getD i (.Pass ⟨0, 0, 0, 0⟩)
def ini (s : Stmt) : Stmt := match s with
  | .ClassDef _ _ _ b _ _ _ _ _ _ _ => b.getD 0 (.Pass ⟨0, 0, 0, 0⟩)
  | _ => s
def d_law_bag : He.DefD := ⟨("_law_bag", none), "_law_bag", "_law_bag", defArgs (top 22), defBody (top 22), defScope (top 22), [], []⟩
def d_law_next : He.DefD := ⟨("_law_next", none), "_law_next", "_law_next", defArgs (top 23), defBody (top 23), defScope (top 23), [], []⟩
def d_law_like : He.DefD := ⟨("_law_like", none), "_law_like", "_law_like", defArgs (top 24), defBody (top 24), defScope (top 24), [], []⟩
def d_law_made : He.DefD := ⟨("_law_made", none), "_law_made", "_law_made", defArgs (top 25), defBody (top 25), defScope (top 25), [], []⟩
def d_law_named : He.DefD := ⟨("_law_named", none), "_law_named", "_law_named", defArgs (top 26), defBody (top 26), defScope (top 26), [], []⟩
def d_law_classes : He.DefD := ⟨("_law_classes", none), "_law_classes", "_law_classes", defArgs (top 27), defBody (top 27), defScope (top 27), [], []⟩
def d_law_kinds : He.DefD := ⟨("_law_kinds", none), "_law_kinds", "_law_kinds", defArgs (top 28), defBody (top 28), defScope (top 28), [], []⟩
def d_law_odd : He.DefD := ⟨("_law_odd", none), "_law_odd", "_law_odd", defArgs (top 29), defBody (top 29), defScope (top 29), [], []⟩
def d_law_others : He.DefD := ⟨("_law_others", none), "_law_others", "_law_others", defArgs (top 30), defBody (top 30), defScope (top 30), [], []⟩
def d_law_whole : He.DefD := ⟨("_law_whole", none), "_law_whole", "_law_whole", defArgs (top 31), defBody (top 31), defScope (top 31), [], []⟩
def d_law : He.DefD := ⟨("law", none), "law", "law", defArgs (top 32), defBody (top 32), defScope (top 32), [], []⟩
def d_i_InvalidNumber : He.DefD := ⟨("InvalidNumber", some "__init__"), "__init__", "InvalidNumber.__init__", defArgs (ini (top 2)), defBody (ini (top 2)), defScope (ini (top 2)), [], []⟩
def d_i_InvalidPrice : He.DefD := ⟨("InvalidPrice", some "__init__"), "__init__", "InvalidPrice.__init__", defArgs (ini (top 3)), defBody (ini (top 3)), defScope (ini (top 3)), [], []⟩
def d_i_InvalidBook : He.DefD := ⟨("InvalidBook", some "__init__"), "__init__", "InvalidBook.__init__", defArgs (ini (top 4)), defBody (ini (top 4)), defScope (ini (top 4)), [], []⟩
def d_i_InvalidPuzzle : He.DefD := ⟨("InvalidPuzzle", some "__init__"), "__init__", "InvalidPuzzle.__init__", defArgs (ini (top 5)), defBody (ini (top 5)), defScope (ini (top 5)), [], []⟩
def d_i_InvalidStart : He.DefD := ⟨("InvalidStart", some "__init__"), "__init__", "InvalidStart.__init__", defArgs (ini (top 6)), defBody (ini (top 6)), defScope (ini (top 6)), [], []⟩
def d_i_InvalidFilling : He.DefD := ⟨("InvalidFilling", some "__init__"), "__init__", "InvalidFilling.__init__", defArgs (ini (top 7)), defBody (ini (top 7)), defScope (ini (top 7)), [], []⟩
def d_i_InvalidSum : He.DefD := ⟨("InvalidSum", some "__init__"), "__init__", "InvalidSum.__init__", defArgs (ini (top 8)), defBody (ini (top 8)), defScope (ini (top 8)), [], []⟩
def d_i_InvalidCells : He.DefD := ⟨("InvalidCells", some "__init__"), "__init__", "InvalidCells.__init__", defArgs (ini (top 9)), defBody (ini (top 9)), defScope (ini (top 9)), [], []⟩
def d_i_InvalidMove : He.DefD := ⟨("InvalidMove", some "__init__"), "__init__", "InvalidMove.__init__", defArgs (ini (top 10)), defBody (ini (top 10)), defScope (ini (top 10)), [], []⟩
def d_i_InvalidQuestion : He.DefD := ⟨("InvalidQuestion", some "__init__"), "__init__", "InvalidQuestion.__init__", defArgs (ini (top 11)), defBody (ini (top 11)), defScope (ini (top 11)), [], []⟩
def d_i_InvalidTable : He.DefD := ⟨("InvalidTable", some "__init__"), "__init__", "InvalidTable.__init__", defArgs (ini (top 12)), defBody (ini (top 12)), defScope (ini (top 12)), [], []⟩
def d_i_InvalidWeights : He.DefD := ⟨("InvalidWeights", some "__init__"), "__init__", "InvalidWeights.__init__", defArgs (ini (top 13)), defBody (ini (top 13)), defScope (ini (top 13)), [], []⟩
def d_i_InvalidOrder : He.DefD := ⟨("InvalidOrder", some "__init__"), "__init__", "InvalidOrder.__init__", defArgs (ini (top 14)), defBody (ini (top 14)), defScope (ini (top 14)), [], []⟩
def d_i_InvalidRows : He.DefD := ⟨("InvalidRows", some "__init__"), "__init__", "InvalidRows.__init__", defArgs (ini (top 15)), defBody (ini (top 15)), defScope (ini (top 15)), [], []⟩
def d_i_InvalidNetwork : He.DefD := ⟨("InvalidNetwork", some "__init__"), "__init__", "InvalidNetwork.__init__", defArgs (ini (top 16)), defBody (ini (top 16)), defScope (ini (top 16)), [], []⟩
def d_i_InvalidDeed : He.DefD := ⟨("InvalidDeed", some "__init__"), "__init__", "InvalidDeed.__init__", defArgs (ini (top 17)), defBody (ini (top 17)), defScope (ini (top 17)), [], []⟩
def d_i_InvalidText : He.DefD := ⟨("InvalidText", some "__init__"), "__init__", "InvalidText.__init__", defArgs (ini (top 18)), defBody (ini (top 18)), defScope (ini (top 18)), [], []⟩
def d_i_Undefined : He.DefD := ⟨("Undefined", some "__init__"), "__init__", "Undefined.__init__", defArgs (ini (top 19)), defBody (ini (top 19)), defScope (ini (top 19)), [], []⟩
def d_i_NothingToUndo : He.DefD := ⟨("NothingToUndo", some "__init__"), "__init__", "NothingToUndo.__init__", defArgs (ini (top 20)), defBody (ini (top 20)), defScope (ini (top 20)), [], []⟩
def fn : List He.DefD := [d_law_bag, d_law_next, d_law_like, d_law_made, d_law_named, d_law_classes, d_law_kinds, d_law_odd, d_law_others, d_law_whole, d_law, d_i_InvalidNumber, d_i_InvalidPrice, d_i_InvalidBook, d_i_InvalidPuzzle, d_i_InvalidStart, d_i_InvalidFilling, d_i_InvalidSum, d_i_InvalidCells, d_i_InvalidMove, d_i_InvalidQuestion, d_i_InvalidTable, d_i_InvalidWeights, d_i_InvalidOrder, d_i_InvalidRows, d_i_InvalidNetwork, d_i_InvalidDeed, d_i_InvalidText, d_i_Undefined, d_i_NothingToUndo]
def fa : List He.Fa := [.glo "_law_bag", .glo "_law_next", .glo "_law_like", .glo "_law_made", .glo "_law_named", .glo "_law_classes", .glo "_law_kinds", .glo "_law_odd", .glo "_law_others", .glo "_law_whole", .glo "law", .glo "PriceError", .glo "InvalidNumber", .glo "InvalidPrice", .glo "InvalidBook", .glo "InvalidPuzzle", .glo "InvalidStart", .glo "InvalidFilling", .glo "InvalidSum", .glo "InvalidCells", .glo "InvalidMove", .glo "InvalidQuestion", .glo "InvalidTable", .glo "InvalidWeights", .glo "InvalidOrder", .glo "InvalidRows", .glo "InvalidNetwork", .glo "InvalidDeed", .glo "InvalidText", .glo "Undefined", .glo "NothingToUndo", .free "len", .free "int", .free "abs", .free "min", .free "max", .free "sum", .free "tuple", .free "list", .free "range", .free "enumerate", .free "zip", .free "isinstance", .free "bool", .free "str", .free "ValueError"]
def cA (K : PySem.W.Frag) : Nat → Addr
  | 1032 => He.ga K "PriceError"
  | 1013 => He.ga K "InvalidNumber"
  | 1015 => He.ga K "InvalidPrice"
  | 1007 => He.ga K "InvalidBook"
  | 1016 => He.ga K "InvalidPuzzle"
  | 1019 => He.ga K "InvalidStart"
  | 1010 => He.ga K "InvalidFilling"
  | 1020 => He.ga K "InvalidSum"
  | 1008 => He.ga K "InvalidCells"
  | 1011 => He.ga K "InvalidMove"
  | 1017 => He.ga K "InvalidQuestion"
  | 1021 => He.ga K "InvalidTable"
  | 1023 => He.ga K "InvalidWeights"
  | 1014 => He.ga K "InvalidOrder"
  | 1018 => He.ga K "InvalidRows"
  | 1012 => He.ga K "InvalidNetwork"
  | 1009 => He.ga K "InvalidDeed"
  | 1022 => He.ga K "InvalidText"
  | 1040 => He.ga K "Undefined"
  | 1030 => He.ga K "NothingToUndo"
  | _ => 0
def clsV (K : PySem.W.Frag) : Nat → Value
  | 1032 => .ref (He.ga K "PriceError")
  | 1013 => .ref (He.ga K "InvalidNumber")
  | 1015 => .ref (He.ga K "InvalidPrice")
  | 1007 => .ref (He.ga K "InvalidBook")
  | 1016 => .ref (He.ga K "InvalidPuzzle")
  | 1019 => .ref (He.ga K "InvalidStart")
  | 1010 => .ref (He.ga K "InvalidFilling")
  | 1020 => .ref (He.ga K "InvalidSum")
  | 1008 => .ref (He.ga K "InvalidCells")
  | 1011 => .ref (He.ga K "InvalidMove")
  | 1017 => .ref (He.ga K "InvalidQuestion")
  | 1021 => .ref (He.ga K "InvalidTable")
  | 1023 => .ref (He.ga K "InvalidWeights")
  | 1014 => .ref (He.ga K "InvalidOrder")
  | 1018 => .ref (He.ga K "InvalidRows")
  | 1012 => .ref (He.ga K "InvalidNetwork")
  | 1009 => .ref (He.ga K "InvalidDeed")
  | 1022 => .ref (He.ga K "InvalidText")
  | 1040 => .ref (He.ga K "Undefined")
  | 1030 => .ref (He.ga K "NothingToUndo")
  | 1041 => .type "ValueError"
  | _ => .none
def subsB (K : PySem.W.Frag) : Bool := k19.all fun a => decide (PySem.W.kitOne K (.ref (cA K a)) (clsV K c_PriceError) = some true) && (decide (PySem.W.kitOne K (.ref (cA K a)) (clsV K c_ValueError) = some true) &&
  k19.all fun b => decide (PySem.W.kitOne K (.ref (cA K a)) (clsV K b) = some (decide (b = a))))
def ex (K : PySem.W.Frag) : Bool := (excB K "InvalidNumber" ["value"] && (excB K "InvalidPrice" ["value"] && (excB K "InvalidBook" ["value"] && (excB K "InvalidPuzzle" ["place", "part"] && (excB K "InvalidStart" ["value"] && (excB K "InvalidFilling" ["value"] && (excB K "InvalidSum" ["value"] && (excB K "InvalidCells" ["value"] && (excB K "InvalidMove" ["value"] && (excB K "InvalidQuestion" ["value"] && (excB K "InvalidTable" ["value"] && (excB K "InvalidWeights" ["value"] && (excB K "InvalidOrder" ["value"] && (excB K "InvalidRows" ["value"] && (excB K "InvalidNetwork" ["value"] && (excB K "InvalidDeed" ["value"] && (excB K "InvalidText" ["at", "text"] && (excB K "Undefined" ["what"] && (excB K "NothingToUndo" ["word"] && subsB K)))))))))))))))))))
theorem sc_law_bag : FnScope n_law_bag ["script"] (defScope (top 22)) := ⟨rfl, rfl, rfl, by decide +kernel, rfl, by decide +kernel, by decide +kernel⟩
theorem ck_law_bag : chkB n_law_bag f_law_bag tb_law_bag (defScope (top 22)) b_law_bag (defBody (top 22)) = true := by decide +kernel
theorem sc_law_next : FnScope n_law_next ["bag", "limit"] (defScope (top 23)) := ⟨rfl, rfl, rfl, by decide +kernel, rfl, by decide +kernel, by decide +kernel⟩
theorem ck_law_next : chkB n_law_next f_law_next tb_law_next (defScope (top 23)) b_law_next (defBody (top 23)) = true := by decide +kernel
theorem sc_law_like : FnScope n_law_like ["told", "due"] (defScope (top 24)) := ⟨rfl, rfl, rfl, by decide +kernel, rfl, by decide +kernel, by decide +kernel⟩
theorem ck_law_like : chkB n_law_like f_law_like tb_law_like (defScope (top 24)) b_law_like (defBody (top 24)) = true := by decide +kernel
theorem sc_law_made : FnScope n_law_made ["value"] (defScope (top 25)) := ⟨rfl, rfl, rfl, by decide +kernel, rfl, by decide +kernel, by decide +kernel⟩
theorem ck_law_made : chkB n_law_made f_law_made tb_law_made (defScope (top 25)) b_law_made (defBody (top 25)) = true := by decide +kernel
theorem sc_law_named : FnScope n_law_named ["value"] (defScope (top 26)) := ⟨rfl, rfl, rfl, by decide +kernel, rfl, by decide +kernel, by decide +kernel⟩
theorem ck_law_named : chkB n_law_named f_law_named tb_law_named (defScope (top 26)) b_law_named (defBody (top 26)) = true := by decide +kernel
theorem sc_law_classes : FnScope n_law_classes ["error"] (defScope (top 27)) := ⟨rfl, rfl, rfl, by decide +kernel, rfl, by decide +kernel, by decide +kernel⟩
theorem ck_law_classes : chkB n_law_classes f_law_classes tb_law_classes (defScope (top 27)) b_law_classes (defBody (top 27)) = true := by decide +kernel
theorem sc_law_kinds : FnScope n_law_kinds ["errors", "first"] (defScope (top 28)) := ⟨rfl, rfl, rfl, by decide +kernel, rfl, by decide +kernel, by decide +kernel⟩
theorem ck_law_kinds : chkB n_law_kinds f_law_kinds tb_law_kinds (defScope (top 28)) b_law_kinds (defBody (top 28)) = true := by decide +kernel
theorem sc_law_odd : FnScope n_law_odd ["bag"] (defScope (top 29)) := ⟨rfl, rfl, rfl, by decide +kernel, rfl, by decide +kernel, by decide +kernel⟩
theorem ck_law_odd : chkB n_law_odd f_law_odd tb_law_odd (defScope (top 29)) b_law_odd (defBody (top 29)) = true := by decide +kernel
theorem sc_law_others : FnScope n_law_others ["bag"] (defScope (top 30)) := ⟨rfl, rfl, rfl, by decide +kernel, rfl, by decide +kernel, by decide +kernel⟩
theorem ck_law_others : chkB n_law_others f_law_others tb_law_others (defScope (top 30)) b_law_others (defBody (top 30)) = true := by decide +kernel
theorem sc_law_whole : FnScope n_law_whole ["script"] (defScope (top 31)) := ⟨rfl, rfl, rfl, by decide +kernel, rfl, by decide +kernel, by decide +kernel⟩
theorem ck_law_whole : chkB n_law_whole f_law_whole tb_law_whole (defScope (top 31)) b_law_whole (defBody (top 31)) = true := by decide +kernel
theorem sc_law : FnScope n_law ["script"] (defScope (top 32)) := ⟨rfl, rfl, rfl, by decide +kernel, rfl, by decide +kernel, by decide +kernel⟩
theorem ck_law : chkB n_law f_law tb_law (defScope (top 32)) b_law (defBody (top 32)) = true := by decide +kernel
theorem sc_i_InvalidNumber : FnScope ["self", "value"] ["self", "value"] (defScope (ini (top 2))) := ⟨rfl, rfl, rfl, by decide +kernel, rfl, by decide +kernel, by decide +kernel⟩
theorem sc_i_InvalidPrice : FnScope ["self", "value"] ["self", "value"] (defScope (ini (top 3))) := ⟨rfl, rfl, rfl, by decide +kernel, rfl, by decide +kernel, by decide +kernel⟩
theorem sc_i_InvalidBook : FnScope ["self", "value"] ["self", "value"] (defScope (ini (top 4))) := ⟨rfl, rfl, rfl, by decide +kernel, rfl, by decide +kernel, by decide +kernel⟩
theorem sc_i_InvalidPuzzle : FnScope ["self", "part", "place"] ["self", "part", "place"] (defScope (ini (top 5))) := ⟨rfl, rfl, rfl, by decide +kernel, rfl, by decide +kernel, by decide +kernel⟩
theorem sc_i_InvalidStart : FnScope ["self", "value"] ["self", "value"] (defScope (ini (top 6))) := ⟨rfl, rfl, rfl, by decide +kernel, rfl, by decide +kernel, by decide +kernel⟩
theorem sc_i_InvalidFilling : FnScope ["self", "value"] ["self", "value"] (defScope (ini (top 7))) := ⟨rfl, rfl, rfl, by decide +kernel, rfl, by decide +kernel, by decide +kernel⟩
theorem sc_i_InvalidSum : FnScope ["self", "value"] ["self", "value"] (defScope (ini (top 8))) := ⟨rfl, rfl, rfl, by decide +kernel, rfl, by decide +kernel, by decide +kernel⟩
theorem sc_i_InvalidCells : FnScope ["self", "value"] ["self", "value"] (defScope (ini (top 9))) := ⟨rfl, rfl, rfl, by decide +kernel, rfl, by decide +kernel, by decide +kernel⟩
theorem sc_i_InvalidMove : FnScope ["self", "value"] ["self", "value"] (defScope (ini (top 10))) := ⟨rfl, rfl, rfl, by decide +kernel, rfl, by decide +kernel, by decide +kernel⟩
theorem sc_i_InvalidQuestion : FnScope ["self", "value"] ["self", "value"] (defScope (ini (top 11))) := ⟨rfl, rfl, rfl, by decide +kernel, rfl, by decide +kernel, by decide +kernel⟩
theorem sc_i_InvalidTable : FnScope ["self", "value"] ["self", "value"] (defScope (ini (top 12))) := ⟨rfl, rfl, rfl, by decide +kernel, rfl, by decide +kernel, by decide +kernel⟩
theorem sc_i_InvalidWeights : FnScope ["self", "value"] ["self", "value"] (defScope (ini (top 13))) := ⟨rfl, rfl, rfl, by decide +kernel, rfl, by decide +kernel, by decide +kernel⟩
theorem sc_i_InvalidOrder : FnScope ["self", "value"] ["self", "value"] (defScope (ini (top 14))) := ⟨rfl, rfl, rfl, by decide +kernel, rfl, by decide +kernel, by decide +kernel⟩
theorem sc_i_InvalidRows : FnScope ["self", "value"] ["self", "value"] (defScope (ini (top 15))) := ⟨rfl, rfl, rfl, by decide +kernel, rfl, by decide +kernel, by decide +kernel⟩
theorem sc_i_InvalidNetwork : FnScope ["self", "value"] ["self", "value"] (defScope (ini (top 16))) := ⟨rfl, rfl, rfl, by decide +kernel, rfl, by decide +kernel, by decide +kernel⟩
theorem sc_i_InvalidDeed : FnScope ["self", "value"] ["self", "value"] (defScope (ini (top 17))) := ⟨rfl, rfl, rfl, by decide +kernel, rfl, by decide +kernel, by decide +kernel⟩
theorem sc_i_InvalidText : FnScope ["self", "text", "at"] ["self", "text", "at"] (defScope (ini (top 18))) := ⟨rfl, rfl, rfl, by decide +kernel, rfl, by decide +kernel, by decide +kernel⟩
theorem sc_i_Undefined : FnScope ["self", "what"] ["self", "what"] (defScope (ini (top 19))) := ⟨rfl, rfl, rfl, by decide +kernel, rfl, by decide +kernel, by decide +kernel⟩
theorem sc_i_NothingToUndo : FnScope ["self", "word"] ["self", "word"] (defScope (ini (top 20))) := ⟨rfl, rfl, rfl, by decide +kernel, rfl, by decide +kernel, by decide +kernel⟩
def G0 (K : PySem.W.Frag) : Gm := ⟨fun g => match g with
  | 12 => sp_law_bag
  | 192 => sp_law_next
  | 162 => sp_like 2
  | 3010 => sp_mk1 (cA K 1010) "value"
  | 3019 => sp_mk1 (cA K 1019) "value"
  | 3007 => sp_mk1 (cA K 1007) "value"
  | 3015 => sp_mk1 (cA K 1015) "value"
  | 3013 => sp_mk1 (cA K 1013) "value"
  | 3017 => sp_mk1 (cA K 1017) "value"
  | 3011 => sp_mk1 (cA K 1011) "value"
  | 3008 => sp_mk1 (cA K 1008) "value"
  | 3020 => sp_mk1 (cA K 1020) "value"
  | 3018 => sp_mk1 (cA K 1018) "value"
  | 3014 => sp_mk1 (cA K 1014) "value"
  | 3023 => sp_mk1 (cA K 1023) "value"
  | 3021 => sp_mk1 (cA K 1021) "value"
  | 3009 => sp_mk1 (cA K 1009) "value"
  | 3012 => sp_mk1 (cA K 1012) "value"
  | 172 => sp_law_made (cA K)
  | 3062 => sp_mk1 (cA K 1019) "value"
  | 3051 => sp_mk1 (cA K 1007) "value"
  | 3059 => sp_mk1 (cA K 1015) "value"
  | 3057 => sp_mk1 (cA K 1013) "value"
  | 3052 => sp_mk1 (cA K 1008) "value"
  | 3063 => sp_mk1 (cA K 1020) "value"
  | 3054 => sp_mk1 (cA K 1010) "value"
  | 3064 => sp_mk1 (cA K 1021) "value"
  | 3060 => sp_mk1 (cA K 1017) "value"
  | 3055 => sp_mk1 (cA K 1011) "value"
  | 3061 => sp_mk1 (cA K 1018) "value"
  | 3058 => sp_mk1 (cA K 1014) "value"
  | 3065 => sp_mk1 (cA K 1023) "value"
  | 3053 => sp_mk1 (cA K 1009) "value"
  | 3056 => sp_mk1 (cA K 1012) "value"
  | 185 => sp_law_named (cA K)
  | 59 => sp_law_classes (cA K)
  | 144 => sp_law_kinds (cA K)
  | 201 => sp_law_odd
  | 3030 => sp_mk1 (cA K 1030) "word"
  | 3039 => sp_mk1 (cA K 1040) "what"
  | 3022 => sp_mkA (cA K 1022) "text" "at"
  | 3016 => sp_mkA (cA K 1016) "part" "place"
  | 3066 => sp_mk1 (cA K 1040) "what"
  | 3041 => sp_mkB (cA K 1022) "at" "text"
  | 3046 => sp_mkB (cA K 1016) "place" "part"
  | 3067 => sp_mk1 (cA K 1030) "word"
  | 211 => sp_law_others
  | 362 => sp_law_whole
  | 549 => sp_law
  | _ => fun _ _ _ _ => False, fun _ => [], fun C g => PySem.W.kitOne K (.ref C) (clsV K g)⟩
theorem le_law_bag : ∀ ds M Q E, sp_law_bag ds M Q E → ds.length = 1 := by
  intro ds M Q E h
  obtain ⟨_, rfl, _⟩ := h
  rfl
theorem le_law_next : ∀ ds M Q E, sp_law_next ds M Q E → ds.length = 2 := by
  intro ds M Q E h
  obtain ⟨_, _, _, rfl, _⟩ := h
  rfl
theorem le_law_like {k : Nat} : ∀ ds M Q E, sp_like k ds M Q E → ds.length = 2 := by
  intro ds M Q E h
  obtain ⟨_, _, rfl, _⟩ := h
  rfl
theorem le_law_made {K : PySem.W.Frag} : ∀ ds M Q E, sp_law_made (cA K) ds M Q E → ds.length = 1 := by
  intro ds M Q E h
  obtain ⟨_, rfl, _⟩ := h
  rfl
theorem le_law_named {K : PySem.W.Frag} : ∀ ds M Q E, sp_law_named (cA K) ds M Q E → ds.length = 1 := by
  intro ds M Q E h
  obtain ⟨_, rfl, _⟩ := h
  rfl
theorem le_law_classes {K : PySem.W.Frag} : ∀ ds M Q E, sp_law_classes (cA K) ds M Q E → ds.length = 1 := by
  intro ds M Q E h
  obtain ⟨_, _, _, _, rfl, _⟩ := h
  rfl
theorem le_law_kinds {K : PySem.W.Frag} : ∀ ds M Q E, sp_law_kinds (cA K) ds M Q E → ds.length = 2 := by
  intro ds M Q E h
  obtain ⟨_, _, rfl, _⟩ := h
  rfl
theorem le_law_odd : ∀ ds M Q E, sp_law_odd ds M Q E → ds.length = 1 := by
  intro ds M Q E h
  obtain ⟨_, _, rfl, _⟩ := h
  rfl
theorem le_law_others : ∀ ds M Q E, sp_law_others ds M Q E → ds.length = 1 := by
  intro ds M Q E h
  obtain ⟨_, _, rfl, _⟩ := h
  rfl
theorem le_law_whole : ∀ ds M Q E, sp_law_whole ds M Q E → ds.length = 1 := by
  intro ds M Q E h
  obtain ⟨_, rfl, _⟩ := h
  rfl
theorem le_law : ∀ ds M Q E, sp_law ds M Q E → ds.length = 1 := by
  intro ds M Q E h
  obtain ⟨_, rfl, _⟩ := h
  rfl
theorem k19_inj : ∀ i j : Nat, ∀ a b, k19[i]? = some a → k19[j]? = some b → decide (b = a) = decide (j = i) := by
  intro i j a b hi hj
  have nd : k19.Nodup := by decide +kernel
  obtain ⟨li, ei⟩ := List.getElem?_eq_some_iff.mp hi
  obtain ⟨lj, ej⟩ := List.getElem?_eq_some_iff.mp hj
  congr 1
  refine propext ⟨fun e => ?_, fun e => ?_⟩
  · exact (List.getElem_inj (h₀ := lj) (h₁ := li) nd).mp (by rw [ei, ej, e])
  · subst e
    exact ej.symm.trans ei
theorem subs_ok {K : PySem.W.Frag} (h : subsB K = true) : Subs (G0 K) (cA K) where
  own := fun i j a b hi hj => by
    obtain ⟨_, h1⟩ := ba (List.all_eq_true.mp h a (List.mem_of_getElem? hi))
    obtain ⟨_, h2⟩ := ba h1
    have h3 := of_decide_eq_true (List.all_eq_true.mp h2 b (List.mem_of_getElem? hj))
    rw [k19_inj i j a b hi hj] at h3
    exact h3
  top := fun a ha => by
    obtain ⟨h1, h2⟩ := ba (List.all_eq_true.mp h a ha)
    obtain ⟨h2, _⟩ := ba h2
    exact ⟨of_decide_eq_true h1, of_decide_eq_true h2⟩
theorem mk {K : PySem.W.Frag} : Makes (G0 K) (cA K) := ⟨rfl, rfl, rfl, rfl, rfl, rfl, rfl, rfl, rfl, rfl, rfl, rfl, rfl, rfl, rfl, rfl, rfl, rfl, rfl, rfl, rfl, rfl, rfl, rfl, rfl, rfl, rfl, rfl, rfl, rfl, rfl, rfl, rfl, rfl, rfl, rfl, rfl, rfl⟩
theorem mk_S1 {C : Addr} {f : Str} : ∀ (as bs : List D) (M : Mp) (Q : KE) (E : KX), bs.length = ([] : List Str).length → sp_mk1 C f (as ++ bs) M Q E → as.length = 1 ∧ (as ++ bs.reverse).length = [f].length ∧ Q (.exc C [f].reverse (as ++ bs.reverse).reverse) M := by
  intro as bs M Q E hb h
  match bs, hb with
  | [], _ =>
    rw [List.append_nil] at h
    match as, h with
    | [a], h => exact ⟨rfl, rfl, h⟩
theorem mk_S1k {C : Addr} {f : Str} : ∀ (as bs : List D) (M : Mp) (Q : KE) (E : KX), bs.length = [f].length → sp_mk1 C f (as ++ bs) M Q E → as.length = 0 ∧ (as ++ bs.reverse).length = [f].length ∧ Q (.exc C [f].reverse (as ++ bs.reverse).reverse) M := by
  intro as bs M Q E hb h
  match bs, hb with
  | [b], _ =>
    match as, h with
    | [], h => exact ⟨rfl, rfl, h⟩
    | _ :: _ :: _, h => exact h.elim
    | [_], h => exact h.elim
theorem mk_S2 {C : Addr} {f g : Str} : ∀ (as bs : List D) (M : Mp) (Q : KE) (E : KX), bs.length = ([] : List Str).length → sp_mkA C f g (as ++ bs) M Q E → as.length = 2 ∧ (as ++ bs.reverse).length = [f, g].length ∧ Q (.exc C [f, g].reverse (as ++ bs.reverse).reverse) M := by
  intro as bs M Q E hb h
  match bs, hb with
  | [], _ =>
    rw [List.append_nil] at h
    match as, h with
    | [a, b], h => exact ⟨rfl, rfl, h⟩
theorem mkB_len {C : Addr} {f g : Str} {ds : List D} {M : Mp} {Q : KE} {E : KX} (h : sp_mkB C f g ds M Q E) : ds.length = 2 := by
  unfold sp_mkB at h
  split at h
  · rfl
  · exact h.elim
theorem mk_S2k {C : Addr} {f g : Str} : ∀ (as bs : List D) (M : Mp) (Q : KE) (E : KX), bs.length = [g, f].length → sp_mkB C g f (as ++ bs) M Q E → as.length = 0 ∧ (as ++ bs.reverse).length = [f, g].length ∧ Q (.exc C [f, g].reverse (as ++ bs.reverse).reverse) M := by
  intro as bs M Q E hb h
  match bs, hb with
  | [b, c], _ =>
    have hl := mkB_len h
    have ha : as = [] := by
      rw [List.length_append] at hl
      exact List.length_eq_zero_iff.mp (by simp only [List.length_cons, List.length_nil] at hl; omega)
    subst ha
    exact ⟨rfl, rfl, h⟩
theorem facts {P : Program} {w : World} {K : PySem.W.Frag} {h : Heap} {mg : Str → Option Value} {f : Addr} (X : K.In h) (G : h.Ns mainGlobals mg) (hfa : mg ("law" : Str) = some (.ref f)) (c : He.SaysX fa fn [] [] ex w h K) :
    ∃ fd : FuncData, (∀ (s : Shared) (v : Value), BindsTo s fd ⟨[v], []⟩ [("script", v)]) ∧ ∀ base : Heap, K.In base → base.Ns mainGlobals mg → FnOk P w K mg base (CXA P) 6 f fd ["script"] (SpOf mg K 1 sp_law) := by
  have cd := c.t.d
  have m_law_bag : mg "_law_bag" = some (.ref (He.ga K "_law_bag")) := He.glo_ok X G (cd.fact 0 (f := .glo "_law_bag") rfl)
  have m_law_next : mg "_law_next" = some (.ref (He.ga K "_law_next")) := He.glo_ok X G (cd.fact 1 (f := .glo "_law_next") rfl)
  have m_law_like : mg "_law_like" = some (.ref (He.ga K "_law_like")) := He.glo_ok X G (cd.fact 2 (f := .glo "_law_like") rfl)
  have m_law_made : mg "_law_made" = some (.ref (He.ga K "_law_made")) := He.glo_ok X G (cd.fact 3 (f := .glo "_law_made") rfl)
  have m_law_named : mg "_law_named" = some (.ref (He.ga K "_law_named")) := He.glo_ok X G (cd.fact 4 (f := .glo "_law_named") rfl)
  have m_law_classes : mg "_law_classes" = some (.ref (He.ga K "_law_classes")) := He.glo_ok X G (cd.fact 5 (f := .glo "_law_classes") rfl)
  have m_law_kinds : mg "_law_kinds" = some (.ref (He.ga K "_law_kinds")) := He.glo_ok X G (cd.fact 6 (f := .glo "_law_kinds") rfl)
  have m_law_odd : mg "_law_odd" = some (.ref (He.ga K "_law_odd")) := He.glo_ok X G (cd.fact 7 (f := .glo "_law_odd") rfl)
  have m_law_others : mg "_law_others" = some (.ref (He.ga K "_law_others")) := He.glo_ok X G (cd.fact 8 (f := .glo "_law_others") rfl)
  have m_law_whole : mg "_law_whole" = some (.ref (He.ga K "_law_whole")) := He.glo_ok X G (cd.fact 9 (f := .glo "_law_whole") rfl)
  have m_law : mg "law" = some (.ref (He.ga K "law")) := He.glo_ok X G (cd.fact 10 (f := .glo "law") rfl)
  have m_PriceError : mg "PriceError" = some (.ref (He.ga K "PriceError")) := He.glo_ok X G (cd.fact 11 (f := .glo "PriceError") rfl)
  have m_InvalidNumber : mg "InvalidNumber" = some (.ref (He.ga K "InvalidNumber")) := He.glo_ok X G (cd.fact 12 (f := .glo "InvalidNumber") rfl)
  have m_InvalidPrice : mg "InvalidPrice" = some (.ref (He.ga K "InvalidPrice")) := He.glo_ok X G (cd.fact 13 (f := .glo "InvalidPrice") rfl)
  have m_InvalidBook : mg "InvalidBook" = some (.ref (He.ga K "InvalidBook")) := He.glo_ok X G (cd.fact 14 (f := .glo "InvalidBook") rfl)
  have m_InvalidPuzzle : mg "InvalidPuzzle" = some (.ref (He.ga K "InvalidPuzzle")) := He.glo_ok X G (cd.fact 15 (f := .glo "InvalidPuzzle") rfl)
  have m_InvalidStart : mg "InvalidStart" = some (.ref (He.ga K "InvalidStart")) := He.glo_ok X G (cd.fact 16 (f := .glo "InvalidStart") rfl)
  have m_InvalidFilling : mg "InvalidFilling" = some (.ref (He.ga K "InvalidFilling")) := He.glo_ok X G (cd.fact 17 (f := .glo "InvalidFilling") rfl)
  have m_InvalidSum : mg "InvalidSum" = some (.ref (He.ga K "InvalidSum")) := He.glo_ok X G (cd.fact 18 (f := .glo "InvalidSum") rfl)
  have m_InvalidCells : mg "InvalidCells" = some (.ref (He.ga K "InvalidCells")) := He.glo_ok X G (cd.fact 19 (f := .glo "InvalidCells") rfl)
  have m_InvalidMove : mg "InvalidMove" = some (.ref (He.ga K "InvalidMove")) := He.glo_ok X G (cd.fact 20 (f := .glo "InvalidMove") rfl)
  have m_InvalidQuestion : mg "InvalidQuestion" = some (.ref (He.ga K "InvalidQuestion")) := He.glo_ok X G (cd.fact 21 (f := .glo "InvalidQuestion") rfl)
  have m_InvalidTable : mg "InvalidTable" = some (.ref (He.ga K "InvalidTable")) := He.glo_ok X G (cd.fact 22 (f := .glo "InvalidTable") rfl)
  have m_InvalidWeights : mg "InvalidWeights" = some (.ref (He.ga K "InvalidWeights")) := He.glo_ok X G (cd.fact 23 (f := .glo "InvalidWeights") rfl)
  have m_InvalidOrder : mg "InvalidOrder" = some (.ref (He.ga K "InvalidOrder")) := He.glo_ok X G (cd.fact 24 (f := .glo "InvalidOrder") rfl)
  have m_InvalidRows : mg "InvalidRows" = some (.ref (He.ga K "InvalidRows")) := He.glo_ok X G (cd.fact 25 (f := .glo "InvalidRows") rfl)
  have m_InvalidNetwork : mg "InvalidNetwork" = some (.ref (He.ga K "InvalidNetwork")) := He.glo_ok X G (cd.fact 26 (f := .glo "InvalidNetwork") rfl)
  have m_InvalidDeed : mg "InvalidDeed" = some (.ref (He.ga K "InvalidDeed")) := He.glo_ok X G (cd.fact 27 (f := .glo "InvalidDeed") rfl)
  have m_InvalidText : mg "InvalidText" = some (.ref (He.ga K "InvalidText")) := He.glo_ok X G (cd.fact 28 (f := .glo "InvalidText") rfl)
  have m_Undefined : mg "Undefined" = some (.ref (He.ga K "Undefined")) := He.glo_ok X G (cd.fact 29 (f := .glo "Undefined") rfl)
  have m_NothingToUndo : mg "NothingToUndo" = some (.ref (He.ga K "NothingToUndo")) := He.glo_ok X G (cd.fact 30 (f := .glo "NothingToUndo") rfl)
  obtain ⟨fd_law_bag, F_law_bag⟩ := cd.def_ 0 (d := d_law_bag) rfl
  obtain ⟨fd_law_next, F_law_next⟩ := cd.def_ 1 (d := d_law_next) rfl
  obtain ⟨fd_law_like, F_law_like⟩ := cd.def_ 2 (d := d_law_like) rfl
  obtain ⟨fd_law_made, F_law_made⟩ := cd.def_ 3 (d := d_law_made) rfl
  obtain ⟨fd_law_named, F_law_named⟩ := cd.def_ 4 (d := d_law_named) rfl
  obtain ⟨fd_law_classes, F_law_classes⟩ := cd.def_ 5 (d := d_law_classes) rfl
  obtain ⟨fd_law_kinds, F_law_kinds⟩ := cd.def_ 6 (d := d_law_kinds) rfl
  obtain ⟨fd_law_odd, F_law_odd⟩ := cd.def_ 7 (d := d_law_odd) rfl
  obtain ⟨fd_law_others, F_law_others⟩ := cd.def_ 8 (d := d_law_others) rfl
  obtain ⟨fd_law_whole, F_law_whole⟩ := cd.def_ 9 (d := d_law_whole) rfl
  obtain ⟨fd_law, F_law⟩ := cd.def_ 10 (d := d_law) rfl
  obtain ⟨fd_i_InvalidNumber, F_i_InvalidNumber⟩ := cd.def_ 11 (d := d_i_InvalidNumber) rfl
  obtain ⟨fd_i_InvalidPrice, F_i_InvalidPrice⟩ := cd.def_ 12 (d := d_i_InvalidPrice) rfl
  obtain ⟨fd_i_InvalidBook, F_i_InvalidBook⟩ := cd.def_ 13 (d := d_i_InvalidBook) rfl
  obtain ⟨fd_i_InvalidPuzzle, F_i_InvalidPuzzle⟩ := cd.def_ 14 (d := d_i_InvalidPuzzle) rfl
  obtain ⟨fd_i_InvalidStart, F_i_InvalidStart⟩ := cd.def_ 15 (d := d_i_InvalidStart) rfl
  obtain ⟨fd_i_InvalidFilling, F_i_InvalidFilling⟩ := cd.def_ 16 (d := d_i_InvalidFilling) rfl
  obtain ⟨fd_i_InvalidSum, F_i_InvalidSum⟩ := cd.def_ 17 (d := d_i_InvalidSum) rfl
  obtain ⟨fd_i_InvalidCells, F_i_InvalidCells⟩ := cd.def_ 18 (d := d_i_InvalidCells) rfl
  obtain ⟨fd_i_InvalidMove, F_i_InvalidMove⟩ := cd.def_ 19 (d := d_i_InvalidMove) rfl
  obtain ⟨fd_i_InvalidQuestion, F_i_InvalidQuestion⟩ := cd.def_ 20 (d := d_i_InvalidQuestion) rfl
  obtain ⟨fd_i_InvalidTable, F_i_InvalidTable⟩ := cd.def_ 21 (d := d_i_InvalidTable) rfl
  obtain ⟨fd_i_InvalidWeights, F_i_InvalidWeights⟩ := cd.def_ 22 (d := d_i_InvalidWeights) rfl
  obtain ⟨fd_i_InvalidOrder, F_i_InvalidOrder⟩ := cd.def_ 23 (d := d_i_InvalidOrder) rfl
  obtain ⟨fd_i_InvalidRows, F_i_InvalidRows⟩ := cd.def_ 24 (d := d_i_InvalidRows) rfl
  obtain ⟨fd_i_InvalidNetwork, F_i_InvalidNetwork⟩ := cd.def_ 25 (d := d_i_InvalidNetwork) rfl
  obtain ⟨fd_i_InvalidDeed, F_i_InvalidDeed⟩ := cd.def_ 26 (d := d_i_InvalidDeed) rfl
  obtain ⟨fd_i_InvalidText, F_i_InvalidText⟩ := cd.def_ 27 (d := d_i_InvalidText) rfl
  obtain ⟨fd_i_Undefined, F_i_Undefined⟩ := cd.def_ 28 (d := d_i_Undefined) rfl
  obtain ⟨fd_i_NothingToUndo, F_i_NothingToUndo⟩ := cd.def_ 29 (d := d_i_NothingToUndo) rfl
  have hblt : ∀ x ∈ bltNames, mg x = none := by
    intro x hx
    simp only [bltNames, List.mem_cons, List.mem_nil_iff, or_false] at hx
    rcases hx with rfl | rfl | rfl | rfl | rfl | rfl | rfl | rfl | rfl | rfl | rfl | rfl | rfl | rfl
    · exact He.free_ok X G (cd.fact 31 (f := .free "len") rfl)
    · exact He.free_ok X G (cd.fact 32 (f := .free "int") rfl)
    · exact He.free_ok X G (cd.fact 33 (f := .free "abs") rfl)
    · exact He.free_ok X G (cd.fact 34 (f := .free "min") rfl)
    · exact He.free_ok X G (cd.fact 35 (f := .free "max") rfl)
    · exact He.free_ok X G (cd.fact 36 (f := .free "sum") rfl)
    · exact He.free_ok X G (cd.fact 37 (f := .free "tuple") rfl)
    · exact He.free_ok X G (cd.fact 38 (f := .free "list") rfl)
    · exact He.free_ok X G (cd.fact 39 (f := .free "range") rfl)
    · exact He.free_ok X G (cd.fact 40 (f := .free "enumerate") rfl)
    · exact He.free_ok X G (cd.fact 41 (f := .free "zip") rfl)
    · exact He.free_ok X G (cd.fact 42 (f := .free "isinstance") rfl)
    · exact He.free_ok X G (cd.fact 43 (f := .free "bool") rfl)
    · exact He.free_ok X G (cd.fact 44 (f := .free "str") rfl)
  have m_ve : mg "ValueError" = none := He.free_ok X G (cd.fact 45 (f := .free "ValueError") rfl)
  have x0 := c.more
  unfold ex at x0
  obtain ⟨x_e_InvalidNumber, x0⟩ := ba x0
  obtain ⟨x_e_InvalidPrice, x0⟩ := ba x0
  obtain ⟨x_e_InvalidBook, x0⟩ := ba x0
  obtain ⟨x_e_InvalidPuzzle, x0⟩ := ba x0
  obtain ⟨x_e_InvalidStart, x0⟩ := ba x0
  obtain ⟨x_e_InvalidFilling, x0⟩ := ba x0
  obtain ⟨x_e_InvalidSum, x0⟩ := ba x0
  obtain ⟨x_e_InvalidCells, x0⟩ := ba x0
  obtain ⟨x_e_InvalidMove, x0⟩ := ba x0
  obtain ⟨x_e_InvalidQuestion, x0⟩ := ba x0
  obtain ⟨x_e_InvalidTable, x0⟩ := ba x0
  obtain ⟨x_e_InvalidWeights, x0⟩ := ba x0
  obtain ⟨x_e_InvalidOrder, x0⟩ := ba x0
  obtain ⟨x_e_InvalidRows, x0⟩ := ba x0
  obtain ⟨x_e_InvalidNetwork, x0⟩ := ba x0
  obtain ⟨x_e_InvalidDeed, x0⟩ := ba x0
  obtain ⟨x_e_InvalidText, x0⟩ := ba x0
  obtain ⟨x_e_Undefined, x0⟩ := ba x0
  obtain ⟨x_e_NothingToUndo, x0⟩ := ba x0
  have x_o0 := x0
  have X_InvalidNumber := exc_ok x_e_InvalidNumber
  have X_InvalidPrice := exc_ok x_e_InvalidPrice
  have X_InvalidBook := exc_ok x_e_InvalidBook
  have X_InvalidPuzzle := exc_ok x_e_InvalidPuzzle
  have X_InvalidStart := exc_ok x_e_InvalidStart
  have X_InvalidFilling := exc_ok x_e_InvalidFilling
  have X_InvalidSum := exc_ok x_e_InvalidSum
  have X_InvalidCells := exc_ok x_e_InvalidCells
  have X_InvalidMove := exc_ok x_e_InvalidMove
  have X_InvalidQuestion := exc_ok x_e_InvalidQuestion
  have X_InvalidTable := exc_ok x_e_InvalidTable
  have X_InvalidWeights := exc_ok x_e_InvalidWeights
  have X_InvalidOrder := exc_ok x_e_InvalidOrder
  have X_InvalidRows := exc_ok x_e_InvalidRows
  have X_InvalidNetwork := exc_ok x_e_InvalidNetwork
  have X_InvalidDeed := exc_ok x_e_InvalidDeed
  have X_InvalidText := exc_ok x_e_InvalidText
  have X_Undefined := exc_ok x_e_Undefined
  have X_NothingToUndo := exc_ok x_e_NothingToUndo
  have cl_InvalidBook : ClsOk K mg "InvalidBook" (fun C => (G0 K).sub C 1007) := ⟨.ref (He.ga K "InvalidBook"), .ref (He.ga K "InvalidBook"), rfl, .own _, by decide +kernel, .inl m_InvalidBook, fun C b h => h⟩
  have cl_InvalidCells : ClsOk K mg "InvalidCells" (fun C => (G0 K).sub C 1008) := ⟨.ref (He.ga K "InvalidCells"), .ref (He.ga K "InvalidCells"), rfl, .own _, by decide +kernel, .inl m_InvalidCells, fun C b h => h⟩
  have cl_InvalidDeed : ClsOk K mg "InvalidDeed" (fun C => (G0 K).sub C 1009) := ⟨.ref (He.ga K "InvalidDeed"), .ref (He.ga K "InvalidDeed"), rfl, .own _, by decide +kernel, .inl m_InvalidDeed, fun C b h => h⟩
  have cl_InvalidFilling : ClsOk K mg "InvalidFilling" (fun C => (G0 K).sub C 1010) := ⟨.ref (He.ga K "InvalidFilling"), .ref (He.ga K "InvalidFilling"), rfl, .own _, by decide +kernel, .inl m_InvalidFilling, fun C b h => h⟩
  have cl_InvalidMove : ClsOk K mg "InvalidMove" (fun C => (G0 K).sub C 1011) := ⟨.ref (He.ga K "InvalidMove"), .ref (He.ga K "InvalidMove"), rfl, .own _, by decide +kernel, .inl m_InvalidMove, fun C b h => h⟩
  have cl_InvalidNetwork : ClsOk K mg "InvalidNetwork" (fun C => (G0 K).sub C 1012) := ⟨.ref (He.ga K "InvalidNetwork"), .ref (He.ga K "InvalidNetwork"), rfl, .own _, by decide +kernel, .inl m_InvalidNetwork, fun C b h => h⟩
  have cl_InvalidNumber : ClsOk K mg "InvalidNumber" (fun C => (G0 K).sub C 1013) := ⟨.ref (He.ga K "InvalidNumber"), .ref (He.ga K "InvalidNumber"), rfl, .own _, by decide +kernel, .inl m_InvalidNumber, fun C b h => h⟩
  have cl_InvalidOrder : ClsOk K mg "InvalidOrder" (fun C => (G0 K).sub C 1014) := ⟨.ref (He.ga K "InvalidOrder"), .ref (He.ga K "InvalidOrder"), rfl, .own _, by decide +kernel, .inl m_InvalidOrder, fun C b h => h⟩
  have cl_InvalidPrice : ClsOk K mg "InvalidPrice" (fun C => (G0 K).sub C 1015) := ⟨.ref (He.ga K "InvalidPrice"), .ref (He.ga K "InvalidPrice"), rfl, .own _, by decide +kernel, .inl m_InvalidPrice, fun C b h => h⟩
  have cl_InvalidPuzzle : ClsOk K mg "InvalidPuzzle" (fun C => (G0 K).sub C 1016) := ⟨.ref (He.ga K "InvalidPuzzle"), .ref (He.ga K "InvalidPuzzle"), rfl, .own _, by decide +kernel, .inl m_InvalidPuzzle, fun C b h => h⟩
  have cl_InvalidQuestion : ClsOk K mg "InvalidQuestion" (fun C => (G0 K).sub C 1017) := ⟨.ref (He.ga K "InvalidQuestion"), .ref (He.ga K "InvalidQuestion"), rfl, .own _, by decide +kernel, .inl m_InvalidQuestion, fun C b h => h⟩
  have cl_InvalidRows : ClsOk K mg "InvalidRows" (fun C => (G0 K).sub C 1018) := ⟨.ref (He.ga K "InvalidRows"), .ref (He.ga K "InvalidRows"), rfl, .own _, by decide +kernel, .inl m_InvalidRows, fun C b h => h⟩
  have cl_InvalidStart : ClsOk K mg "InvalidStart" (fun C => (G0 K).sub C 1019) := ⟨.ref (He.ga K "InvalidStart"), .ref (He.ga K "InvalidStart"), rfl, .own _, by decide +kernel, .inl m_InvalidStart, fun C b h => h⟩
  have cl_InvalidSum : ClsOk K mg "InvalidSum" (fun C => (G0 K).sub C 1020) := ⟨.ref (He.ga K "InvalidSum"), .ref (He.ga K "InvalidSum"), rfl, .own _, by decide +kernel, .inl m_InvalidSum, fun C b h => h⟩
  have cl_InvalidTable : ClsOk K mg "InvalidTable" (fun C => (G0 K).sub C 1021) := ⟨.ref (He.ga K "InvalidTable"), .ref (He.ga K "InvalidTable"), rfl, .own _, by decide +kernel, .inl m_InvalidTable, fun C b h => h⟩
  have cl_InvalidText : ClsOk K mg "InvalidText" (fun C => (G0 K).sub C 1022) := ⟨.ref (He.ga K "InvalidText"), .ref (He.ga K "InvalidText"), rfl, .own _, by decide +kernel, .inl m_InvalidText, fun C b h => h⟩
  have cl_InvalidWeights : ClsOk K mg "InvalidWeights" (fun C => (G0 K).sub C 1023) := ⟨.ref (He.ga K "InvalidWeights"), .ref (He.ga K "InvalidWeights"), rfl, .own _, by decide +kernel, .inl m_InvalidWeights, fun C b h => h⟩
  have cl_NothingToUndo : ClsOk K mg "NothingToUndo" (fun C => (G0 K).sub C 1030) := ⟨.ref (He.ga K "NothingToUndo"), .ref (He.ga K "NothingToUndo"), rfl, .own _, by decide +kernel, .inl m_NothingToUndo, fun C b h => h⟩
  have cl_PriceError : ClsOk K mg "PriceError" (fun C => (G0 K).sub C 1032) := ⟨.ref (He.ga K "PriceError"), .ref (He.ga K "PriceError"), rfl, .own _, by decide +kernel, .inl m_PriceError, fun C b h => h⟩
  have cl_Undefined : ClsOk K mg "Undefined" (fun C => (G0 K).sub C 1040) := ⟨.ref (He.ga K "Undefined"), .ref (He.ga K "Undefined"), rfl, .own _, by decide +kernel, .inl m_Undefined, fun C b h => h⟩
  have cl_ValueError : ClsOk K mg "ValueError" (fun C => (G0 K).sub C 1041) := ⟨.ty "ValueError", .type "ValueError", rfl, .ty _, by decide +kernel, .inr ⟨m_ve, by decide +kernel, by decide +kernel⟩, fun C b h => h⟩
  have e := hfa.symm.trans m_law
  cases e
  refine ⟨fd_law, fun s v => FunD.bindsA (ps := ["script"]) F_law (fun _ _ _ _ _ _ us hl => match us, hl with | [_], _ => rfl) s [v] rfl, fun base _ _ => ?_⟩
  have i_InvalidNumber : FnOk P w K mg base (L2.CX P w) 1 _ fd_i_InvalidNumber ["self", "value"] (spI (He.ga K "InvalidNumber") ["value"]) := init1 F_i_InvalidNumber sc_i_InvalidNumber hblt (by decide +kernel) (by decide +kernel) (by decide +kernel) (by decide +kernel) X_InvalidNumber.oex (X_InvalidNumber.xc.no _ (by simp))
  have i_InvalidPrice : FnOk P w K mg base (L2.CX P w) 1 _ fd_i_InvalidPrice ["self", "value"] (spI (He.ga K "InvalidPrice") ["value"]) := init1 F_i_InvalidPrice sc_i_InvalidPrice hblt (by decide +kernel) (by decide +kernel) (by decide +kernel) (by decide +kernel) X_InvalidPrice.oex (X_InvalidPrice.xc.no _ (by simp))
  have i_InvalidBook : FnOk P w K mg base (L2.CX P w) 1 _ fd_i_InvalidBook ["self", "value"] (spI (He.ga K "InvalidBook") ["value"]) := init1 F_i_InvalidBook sc_i_InvalidBook hblt (by decide +kernel) (by decide +kernel) (by decide +kernel) (by decide +kernel) X_InvalidBook.oex (X_InvalidBook.xc.no _ (by simp))
  have i_InvalidPuzzle : FnOk P w K mg base (L2.CX P w) 1 _ fd_i_InvalidPuzzle ["self", "part", "place"] (spI (He.ga K "InvalidPuzzle") ["part", "place"]) := init2 F_i_InvalidPuzzle sc_i_InvalidPuzzle hblt (by decide +kernel) (by decide +kernel) (by decide +kernel) (by decide +kernel) (by decide +kernel) (by decide +kernel) (by decide +kernel) X_InvalidPuzzle.oex (X_InvalidPuzzle.xc.no _ (by simp)) (X_InvalidPuzzle.xc.no _ (by simp))
  have i_InvalidStart : FnOk P w K mg base (L2.CX P w) 1 _ fd_i_InvalidStart ["self", "value"] (spI (He.ga K "InvalidStart") ["value"]) := init1 F_i_InvalidStart sc_i_InvalidStart hblt (by decide +kernel) (by decide +kernel) (by decide +kernel) (by decide +kernel) X_InvalidStart.oex (X_InvalidStart.xc.no _ (by simp))
  have i_InvalidFilling : FnOk P w K mg base (L2.CX P w) 1 _ fd_i_InvalidFilling ["self", "value"] (spI (He.ga K "InvalidFilling") ["value"]) := init1 F_i_InvalidFilling sc_i_InvalidFilling hblt (by decide +kernel) (by decide +kernel) (by decide +kernel) (by decide +kernel) X_InvalidFilling.oex (X_InvalidFilling.xc.no _ (by simp))
  have i_InvalidSum : FnOk P w K mg base (L2.CX P w) 1 _ fd_i_InvalidSum ["self", "value"] (spI (He.ga K "InvalidSum") ["value"]) := init1 F_i_InvalidSum sc_i_InvalidSum hblt (by decide +kernel) (by decide +kernel) (by decide +kernel) (by decide +kernel) X_InvalidSum.oex (X_InvalidSum.xc.no _ (by simp))
  have i_InvalidCells : FnOk P w K mg base (L2.CX P w) 1 _ fd_i_InvalidCells ["self", "value"] (spI (He.ga K "InvalidCells") ["value"]) := init1 F_i_InvalidCells sc_i_InvalidCells hblt (by decide +kernel) (by decide +kernel) (by decide +kernel) (by decide +kernel) X_InvalidCells.oex (X_InvalidCells.xc.no _ (by simp))
  have i_InvalidMove : FnOk P w K mg base (L2.CX P w) 1 _ fd_i_InvalidMove ["self", "value"] (spI (He.ga K "InvalidMove") ["value"]) := init1 F_i_InvalidMove sc_i_InvalidMove hblt (by decide +kernel) (by decide +kernel) (by decide +kernel) (by decide +kernel) X_InvalidMove.oex (X_InvalidMove.xc.no _ (by simp))
  have i_InvalidQuestion : FnOk P w K mg base (L2.CX P w) 1 _ fd_i_InvalidQuestion ["self", "value"] (spI (He.ga K "InvalidQuestion") ["value"]) := init1 F_i_InvalidQuestion sc_i_InvalidQuestion hblt (by decide +kernel) (by decide +kernel) (by decide +kernel) (by decide +kernel) X_InvalidQuestion.oex (X_InvalidQuestion.xc.no _ (by simp))
  have i_InvalidTable : FnOk P w K mg base (L2.CX P w) 1 _ fd_i_InvalidTable ["self", "value"] (spI (He.ga K "InvalidTable") ["value"]) := init1 F_i_InvalidTable sc_i_InvalidTable hblt (by decide +kernel) (by decide +kernel) (by decide +kernel) (by decide +kernel) X_InvalidTable.oex (X_InvalidTable.xc.no _ (by simp))
  have i_InvalidWeights : FnOk P w K mg base (L2.CX P w) 1 _ fd_i_InvalidWeights ["self", "value"] (spI (He.ga K "InvalidWeights") ["value"]) := init1 F_i_InvalidWeights sc_i_InvalidWeights hblt (by decide +kernel) (by decide +kernel) (by decide +kernel) (by decide +kernel) X_InvalidWeights.oex (X_InvalidWeights.xc.no _ (by simp))
  have i_InvalidOrder : FnOk P w K mg base (L2.CX P w) 1 _ fd_i_InvalidOrder ["self", "value"] (spI (He.ga K "InvalidOrder") ["value"]) := init1 F_i_InvalidOrder sc_i_InvalidOrder hblt (by decide +kernel) (by decide +kernel) (by decide +kernel) (by decide +kernel) X_InvalidOrder.oex (X_InvalidOrder.xc.no _ (by simp))
  have i_InvalidRows : FnOk P w K mg base (L2.CX P w) 1 _ fd_i_InvalidRows ["self", "value"] (spI (He.ga K "InvalidRows") ["value"]) := init1 F_i_InvalidRows sc_i_InvalidRows hblt (by decide +kernel) (by decide +kernel) (by decide +kernel) (by decide +kernel) X_InvalidRows.oex (X_InvalidRows.xc.no _ (by simp))
  have i_InvalidNetwork : FnOk P w K mg base (L2.CX P w) 1 _ fd_i_InvalidNetwork ["self", "value"] (spI (He.ga K "InvalidNetwork") ["value"]) := init1 F_i_InvalidNetwork sc_i_InvalidNetwork hblt (by decide +kernel) (by decide +kernel) (by decide +kernel) (by decide +kernel) X_InvalidNetwork.oex (X_InvalidNetwork.xc.no _ (by simp))
  have i_InvalidDeed : FnOk P w K mg base (L2.CX P w) 1 _ fd_i_InvalidDeed ["self", "value"] (spI (He.ga K "InvalidDeed") ["value"]) := init1 F_i_InvalidDeed sc_i_InvalidDeed hblt (by decide +kernel) (by decide +kernel) (by decide +kernel) (by decide +kernel) X_InvalidDeed.oex (X_InvalidDeed.xc.no _ (by simp))
  have i_InvalidText : FnOk P w K mg base (L2.CX P w) 1 _ fd_i_InvalidText ["self", "text", "at"] (spI (He.ga K "InvalidText") ["text", "at"]) := init2 F_i_InvalidText sc_i_InvalidText hblt (by decide +kernel) (by decide +kernel) (by decide +kernel) (by decide +kernel) (by decide +kernel) (by decide +kernel) (by decide +kernel) X_InvalidText.oex (X_InvalidText.xc.no _ (by simp)) (X_InvalidText.xc.no _ (by simp))
  have i_Undefined : FnOk P w K mg base (L2.CX P w) 1 _ fd_i_Undefined ["self", "what"] (spI (He.ga K "Undefined") ["what"]) := init1 F_i_Undefined sc_i_Undefined hblt (by decide +kernel) (by decide +kernel) (by decide +kernel) (by decide +kernel) X_Undefined.oex (X_Undefined.xc.no _ (by simp))
  have i_NothingToUndo : FnOk P w K mg base (L2.CX P w) 1 _ fd_i_NothingToUndo ["self", "word"] (spI (He.ga K "NothingToUndo") ["word"]) := init1 F_i_NothingToUndo sc_i_NothingToUndo hblt (by decide +kernel) (by decide +kernel) (by decide +kernel) (by decide +kernel) X_NothingToUndo.oex (X_NothingToUndo.xc.no _ (by simp))
  have q_InvalidFilling : CallOk P w K mg base 2 "InvalidFilling" [] (sp_mk1 (cA K 1010) "value") := cls_ok (ns := ["value"]) (n := 1) X_InvalidFilling m_InvalidFilling (by decide +kernel) F_i_InvalidFilling i_InvalidFilling (Nat.le_refl _) (by decide) (fun _ _ _ _ _ _ us ws h1 h2 => match us, ws, h1, h2 with | [_, _], [], _, _ => rfl) (mk_S1)
  have q_InvalidStart : CallOk P w K mg base 2 "InvalidStart" [] (sp_mk1 (cA K 1019) "value") := cls_ok (ns := ["value"]) (n := 1) X_InvalidStart m_InvalidStart (by decide +kernel) F_i_InvalidStart i_InvalidStart (Nat.le_refl _) (by decide) (fun _ _ _ _ _ _ us ws h1 h2 => match us, ws, h1, h2 with | [_, _], [], _, _ => rfl) (mk_S1)
  have q_InvalidBook : CallOk P w K mg base 2 "InvalidBook" [] (sp_mk1 (cA K 1007) "value") := cls_ok (ns := ["value"]) (n := 1) X_InvalidBook m_InvalidBook (by decide +kernel) F_i_InvalidBook i_InvalidBook (Nat.le_refl _) (by decide) (fun _ _ _ _ _ _ us ws h1 h2 => match us, ws, h1, h2 with | [_, _], [], _, _ => rfl) (mk_S1)
  have q_InvalidPrice : CallOk P w K mg base 2 "InvalidPrice" [] (sp_mk1 (cA K 1015) "value") := cls_ok (ns := ["value"]) (n := 1) X_InvalidPrice m_InvalidPrice (by decide +kernel) F_i_InvalidPrice i_InvalidPrice (Nat.le_refl _) (by decide) (fun _ _ _ _ _ _ us ws h1 h2 => match us, ws, h1, h2 with | [_, _], [], _, _ => rfl) (mk_S1)
  have q_InvalidNumber : CallOk P w K mg base 2 "InvalidNumber" [] (sp_mk1 (cA K 1013) "value") := cls_ok (ns := ["value"]) (n := 1) X_InvalidNumber m_InvalidNumber (by decide +kernel) F_i_InvalidNumber i_InvalidNumber (Nat.le_refl _) (by decide) (fun _ _ _ _ _ _ us ws h1 h2 => match us, ws, h1, h2 with | [_, _], [], _, _ => rfl) (mk_S1)
  have q_InvalidQuestion : CallOk P w K mg base 2 "InvalidQuestion" [] (sp_mk1 (cA K 1017) "value") := cls_ok (ns := ["value"]) (n := 1) X_InvalidQuestion m_InvalidQuestion (by decide +kernel) F_i_InvalidQuestion i_InvalidQuestion (Nat.le_refl _) (by decide) (fun _ _ _ _ _ _ us ws h1 h2 => match us, ws, h1, h2 with | [_, _], [], _, _ => rfl) (mk_S1)
  have q_InvalidMove : CallOk P w K mg base 2 "InvalidMove" [] (sp_mk1 (cA K 1011) "value") := cls_ok (ns := ["value"]) (n := 1) X_InvalidMove m_InvalidMove (by decide +kernel) F_i_InvalidMove i_InvalidMove (Nat.le_refl _) (by decide) (fun _ _ _ _ _ _ us ws h1 h2 => match us, ws, h1, h2 with | [_, _], [], _, _ => rfl) (mk_S1)
  have q_InvalidCells : CallOk P w K mg base 2 "InvalidCells" [] (sp_mk1 (cA K 1008) "value") := cls_ok (ns := ["value"]) (n := 1) X_InvalidCells m_InvalidCells (by decide +kernel) F_i_InvalidCells i_InvalidCells (Nat.le_refl _) (by decide) (fun _ _ _ _ _ _ us ws h1 h2 => match us, ws, h1, h2 with | [_, _], [], _, _ => rfl) (mk_S1)
  have q_InvalidSum : CallOk P w K mg base 2 "InvalidSum" [] (sp_mk1 (cA K 1020) "value") := cls_ok (ns := ["value"]) (n := 1) X_InvalidSum m_InvalidSum (by decide +kernel) F_i_InvalidSum i_InvalidSum (Nat.le_refl _) (by decide) (fun _ _ _ _ _ _ us ws h1 h2 => match us, ws, h1, h2 with | [_, _], [], _, _ => rfl) (mk_S1)
  have q_InvalidRows : CallOk P w K mg base 2 "InvalidRows" [] (sp_mk1 (cA K 1018) "value") := cls_ok (ns := ["value"]) (n := 1) X_InvalidRows m_InvalidRows (by decide +kernel) F_i_InvalidRows i_InvalidRows (Nat.le_refl _) (by decide) (fun _ _ _ _ _ _ us ws h1 h2 => match us, ws, h1, h2 with | [_, _], [], _, _ => rfl) (mk_S1)
  have q_InvalidOrder : CallOk P w K mg base 2 "InvalidOrder" [] (sp_mk1 (cA K 1014) "value") := cls_ok (ns := ["value"]) (n := 1) X_InvalidOrder m_InvalidOrder (by decide +kernel) F_i_InvalidOrder i_InvalidOrder (Nat.le_refl _) (by decide) (fun _ _ _ _ _ _ us ws h1 h2 => match us, ws, h1, h2 with | [_, _], [], _, _ => rfl) (mk_S1)
  have q_InvalidWeights : CallOk P w K mg base 2 "InvalidWeights" [] (sp_mk1 (cA K 1023) "value") := cls_ok (ns := ["value"]) (n := 1) X_InvalidWeights m_InvalidWeights (by decide +kernel) F_i_InvalidWeights i_InvalidWeights (Nat.le_refl _) (by decide) (fun _ _ _ _ _ _ us ws h1 h2 => match us, ws, h1, h2 with | [_, _], [], _, _ => rfl) (mk_S1)
  have q_InvalidTable : CallOk P w K mg base 2 "InvalidTable" [] (sp_mk1 (cA K 1021) "value") := cls_ok (ns := ["value"]) (n := 1) X_InvalidTable m_InvalidTable (by decide +kernel) F_i_InvalidTable i_InvalidTable (Nat.le_refl _) (by decide) (fun _ _ _ _ _ _ us ws h1 h2 => match us, ws, h1, h2 with | [_, _], [], _, _ => rfl) (mk_S1)
  have q_InvalidDeed : CallOk P w K mg base 2 "InvalidDeed" [] (sp_mk1 (cA K 1009) "value") := cls_ok (ns := ["value"]) (n := 1) X_InvalidDeed m_InvalidDeed (by decide +kernel) F_i_InvalidDeed i_InvalidDeed (Nat.le_refl _) (by decide) (fun _ _ _ _ _ _ us ws h1 h2 => match us, ws, h1, h2 with | [_, _], [], _, _ => rfl) (mk_S1)
  have q_InvalidNetwork : CallOk P w K mg base 2 "InvalidNetwork" [] (sp_mk1 (cA K 1012) "value") := cls_ok (ns := ["value"]) (n := 1) X_InvalidNetwork m_InvalidNetwork (by decide +kernel) F_i_InvalidNetwork i_InvalidNetwork (Nat.le_refl _) (by decide) (fun _ _ _ _ _ _ us ws h1 h2 => match us, ws, h1, h2 with | [_, _], [], _, _ => rfl) (mk_S1)
  have q_InvalidStart_k_value : CallOk P w K mg base 2 "InvalidStart" ["value"] (sp_mk1 (cA K 1019) "value") := cls_ok (ns := ["value"]) (n := 0) X_InvalidStart m_InvalidStart (by decide +kernel) F_i_InvalidStart i_InvalidStart (Nat.le_refl _) (by decide) (fun _ _ _ _ _ _ us ws h1 h2 => match us, ws, h1, h2 with | [_], [_], _, _ => rfl) (mk_S1k)
  have q_InvalidBook_k_value : CallOk P w K mg base 2 "InvalidBook" ["value"] (sp_mk1 (cA K 1007) "value") := cls_ok (ns := ["value"]) (n := 0) X_InvalidBook m_InvalidBook (by decide +kernel) F_i_InvalidBook i_InvalidBook (Nat.le_refl _) (by decide) (fun _ _ _ _ _ _ us ws h1 h2 => match us, ws, h1, h2 with | [_], [_], _, _ => rfl) (mk_S1k)
  have q_InvalidPrice_k_value : CallOk P w K mg base 2 "InvalidPrice" ["value"] (sp_mk1 (cA K 1015) "value") := cls_ok (ns := ["value"]) (n := 0) X_InvalidPrice m_InvalidPrice (by decide +kernel) F_i_InvalidPrice i_InvalidPrice (Nat.le_refl _) (by decide) (fun _ _ _ _ _ _ us ws h1 h2 => match us, ws, h1, h2 with | [_], [_], _, _ => rfl) (mk_S1k)
  have q_InvalidNumber_k_value : CallOk P w K mg base 2 "InvalidNumber" ["value"] (sp_mk1 (cA K 1013) "value") := cls_ok (ns := ["value"]) (n := 0) X_InvalidNumber m_InvalidNumber (by decide +kernel) F_i_InvalidNumber i_InvalidNumber (Nat.le_refl _) (by decide) (fun _ _ _ _ _ _ us ws h1 h2 => match us, ws, h1, h2 with | [_], [_], _, _ => rfl) (mk_S1k)
  have q_InvalidCells_k_value : CallOk P w K mg base 2 "InvalidCells" ["value"] (sp_mk1 (cA K 1008) "value") := cls_ok (ns := ["value"]) (n := 0) X_InvalidCells m_InvalidCells (by decide +kernel) F_i_InvalidCells i_InvalidCells (Nat.le_refl _) (by decide) (fun _ _ _ _ _ _ us ws h1 h2 => match us, ws, h1, h2 with | [_], [_], _, _ => rfl) (mk_S1k)
  have q_InvalidSum_k_value : CallOk P w K mg base 2 "InvalidSum" ["value"] (sp_mk1 (cA K 1020) "value") := cls_ok (ns := ["value"]) (n := 0) X_InvalidSum m_InvalidSum (by decide +kernel) F_i_InvalidSum i_InvalidSum (Nat.le_refl _) (by decide) (fun _ _ _ _ _ _ us ws h1 h2 => match us, ws, h1, h2 with | [_], [_], _, _ => rfl) (mk_S1k)
  have q_InvalidFilling_k_value : CallOk P w K mg base 2 "InvalidFilling" ["value"] (sp_mk1 (cA K 1010) "value") := cls_ok (ns := ["value"]) (n := 0) X_InvalidFilling m_InvalidFilling (by decide +kernel) F_i_InvalidFilling i_InvalidFilling (Nat.le_refl _) (by decide) (fun _ _ _ _ _ _ us ws h1 h2 => match us, ws, h1, h2 with | [_], [_], _, _ => rfl) (mk_S1k)
  have q_InvalidTable_k_value : CallOk P w K mg base 2 "InvalidTable" ["value"] (sp_mk1 (cA K 1021) "value") := cls_ok (ns := ["value"]) (n := 0) X_InvalidTable m_InvalidTable (by decide +kernel) F_i_InvalidTable i_InvalidTable (Nat.le_refl _) (by decide) (fun _ _ _ _ _ _ us ws h1 h2 => match us, ws, h1, h2 with | [_], [_], _, _ => rfl) (mk_S1k)
  have q_InvalidQuestion_k_value : CallOk P w K mg base 2 "InvalidQuestion" ["value"] (sp_mk1 (cA K 1017) "value") := cls_ok (ns := ["value"]) (n := 0) X_InvalidQuestion m_InvalidQuestion (by decide +kernel) F_i_InvalidQuestion i_InvalidQuestion (Nat.le_refl _) (by decide) (fun _ _ _ _ _ _ us ws h1 h2 => match us, ws, h1, h2 with | [_], [_], _, _ => rfl) (mk_S1k)
  have q_InvalidMove_k_value : CallOk P w K mg base 2 "InvalidMove" ["value"] (sp_mk1 (cA K 1011) "value") := cls_ok (ns := ["value"]) (n := 0) X_InvalidMove m_InvalidMove (by decide +kernel) F_i_InvalidMove i_InvalidMove (Nat.le_refl _) (by decide) (fun _ _ _ _ _ _ us ws h1 h2 => match us, ws, h1, h2 with | [_], [_], _, _ => rfl) (mk_S1k)
  have q_InvalidRows_k_value : CallOk P w K mg base 2 "InvalidRows" ["value"] (sp_mk1 (cA K 1018) "value") := cls_ok (ns := ["value"]) (n := 0) X_InvalidRows m_InvalidRows (by decide +kernel) F_i_InvalidRows i_InvalidRows (Nat.le_refl _) (by decide) (fun _ _ _ _ _ _ us ws h1 h2 => match us, ws, h1, h2 with | [_], [_], _, _ => rfl) (mk_S1k)
  have q_InvalidOrder_k_value : CallOk P w K mg base 2 "InvalidOrder" ["value"] (sp_mk1 (cA K 1014) "value") := cls_ok (ns := ["value"]) (n := 0) X_InvalidOrder m_InvalidOrder (by decide +kernel) F_i_InvalidOrder i_InvalidOrder (Nat.le_refl _) (by decide) (fun _ _ _ _ _ _ us ws h1 h2 => match us, ws, h1, h2 with | [_], [_], _, _ => rfl) (mk_S1k)
  have q_InvalidWeights_k_value : CallOk P w K mg base 2 "InvalidWeights" ["value"] (sp_mk1 (cA K 1023) "value") := cls_ok (ns := ["value"]) (n := 0) X_InvalidWeights m_InvalidWeights (by decide +kernel) F_i_InvalidWeights i_InvalidWeights (Nat.le_refl _) (by decide) (fun _ _ _ _ _ _ us ws h1 h2 => match us, ws, h1, h2 with | [_], [_], _, _ => rfl) (mk_S1k)
  have q_InvalidDeed_k_value : CallOk P w K mg base 2 "InvalidDeed" ["value"] (sp_mk1 (cA K 1009) "value") := cls_ok (ns := ["value"]) (n := 0) X_InvalidDeed m_InvalidDeed (by decide +kernel) F_i_InvalidDeed i_InvalidDeed (Nat.le_refl _) (by decide) (fun _ _ _ _ _ _ us ws h1 h2 => match us, ws, h1, h2 with | [_], [_], _, _ => rfl) (mk_S1k)
  have q_InvalidNetwork_k_value : CallOk P w K mg base 2 "InvalidNetwork" ["value"] (sp_mk1 (cA K 1012) "value") := cls_ok (ns := ["value"]) (n := 0) X_InvalidNetwork m_InvalidNetwork (by decide +kernel) F_i_InvalidNetwork i_InvalidNetwork (Nat.le_refl _) (by decide) (fun _ _ _ _ _ _ us ws h1 h2 => match us, ws, h1, h2 with | [_], [_], _, _ => rfl) (mk_S1k)
  have q_NothingToUndo : CallOk P w K mg base 2 "NothingToUndo" [] (sp_mk1 (cA K 1030) "word") := cls_ok (ns := ["word"]) (n := 1) X_NothingToUndo m_NothingToUndo (by decide +kernel) F_i_NothingToUndo i_NothingToUndo (Nat.le_refl _) (by decide) (fun _ _ _ _ _ _ us ws h1 h2 => match us, ws, h1, h2 with | [_, _], [], _, _ => rfl) (mk_S1)
  have q_Undefined : CallOk P w K mg base 2 "Undefined" [] (sp_mk1 (cA K 1040) "what") := cls_ok (ns := ["what"]) (n := 1) X_Undefined m_Undefined (by decide +kernel) F_i_Undefined i_Undefined (Nat.le_refl _) (by decide) (fun _ _ _ _ _ _ us ws h1 h2 => match us, ws, h1, h2 with | [_, _], [], _, _ => rfl) (mk_S1)
  have q_InvalidText : CallOk P w K mg base 2 "InvalidText" [] (sp_mkA (cA K 1022) "text" "at") := cls_ok (ns := ["text", "at"]) (n := 2) X_InvalidText m_InvalidText (by decide +kernel) F_i_InvalidText i_InvalidText (Nat.le_refl _) (by decide) (fun _ _ _ _ _ _ us ws h1 h2 => match us, ws, h1, h2 with | [_, _, _], [], _, _ => rfl) (mk_S2)
  have q_InvalidPuzzle : CallOk P w K mg base 2 "InvalidPuzzle" [] (sp_mkA (cA K 1016) "part" "place") := cls_ok (ns := ["part", "place"]) (n := 2) X_InvalidPuzzle m_InvalidPuzzle (by decide +kernel) F_i_InvalidPuzzle i_InvalidPuzzle (Nat.le_refl _) (by decide) (fun _ _ _ _ _ _ us ws h1 h2 => match us, ws, h1, h2 with | [_, _, _], [], _, _ => rfl) (mk_S2)
  have q_Undefined_k_what : CallOk P w K mg base 2 "Undefined" ["what"] (sp_mk1 (cA K 1040) "what") := cls_ok (ns := ["what"]) (n := 0) X_Undefined m_Undefined (by decide +kernel) F_i_Undefined i_Undefined (Nat.le_refl _) (by decide) (fun _ _ _ _ _ _ us ws h1 h2 => match us, ws, h1, h2 with | [_], [_], _, _ => rfl) (mk_S1k)
  have q_InvalidText_k_at_k_text : CallOk P w K mg base 2 "InvalidText" ["at", "text"] (sp_mkB (cA K 1022) "at" "text") := cls_ok (ns := ["text", "at"]) (n := 0) X_InvalidText m_InvalidText (by decide +kernel) F_i_InvalidText i_InvalidText (Nat.le_refl _) (by decide) (fun _ _ _ _ _ _ us ws h1 h2 => match us, ws, h1, h2 with | [_], [_, _], _, _ => rfl) (mk_S2k)
  have q_InvalidPuzzle_k_place_k_part : CallOk P w K mg base 2 "InvalidPuzzle" ["place", "part"] (sp_mkB (cA K 1016) "place" "part") := cls_ok (ns := ["part", "place"]) (n := 0) X_InvalidPuzzle m_InvalidPuzzle (by decide +kernel) F_i_InvalidPuzzle i_InvalidPuzzle (Nat.le_refl _) (by decide) (fun _ _ _ _ _ _ us ws h1 h2 => match us, ws, h1, h2 with | [_], [_, _], _, _ => rfl) (mk_S2k)
  have q_NothingToUndo_k_word : CallOk P w K mg base 2 "NothingToUndo" ["word"] (sp_mk1 (cA K 1030) "word") := cls_ok (ns := ["word"]) (n := 0) X_NothingToUndo m_NothingToUndo (by decide +kernel) F_i_NothingToUndo i_NothingToUndo (Nat.le_refl _) (by decide) (fun _ _ _ _ _ _ us ws h1 h2 => match us, ws, h1, h2 with | [_], [_], _, _ => rfl) (mk_S1k)
  have sb := subs_ok x_o0
  have k_law_bag : FnOk P w K mg base (L2.CX P w) 1 _ fd_law_bag ["script"] (SpOf mg K 1 sp_law_bag) := fn_ok (Γ := G0 K) F_law_bag sc_law_bag hblt fns_nil tabs_nil ck_law_bag le_law_bag (fun ds M Q E h => w_law_bag h)
  have c_law_bag : CallOk P w K mg base 1 "_law_bag" [] sp_law_bag := call_ok m_law_bag F_law_bag.kp (Nat.le_refl _) k_law_bag rfl le_law_bag (F_law_bag.bindsN fun _ _ _ _ _ _ us hl => match us, hl with | [_], _ => rfl)
  have k_law_next : FnOk P w K mg base (L2.CX P w) 1 _ fd_law_next ["bag", "limit"] (SpOf mg K 2 sp_law_next) := fn_ok (Γ := G0 K) F_law_next sc_law_next hblt fns_nil tabs_nil ck_law_next le_law_next (fun ds M Q E h => w_law_next h)
  have c_law_next : CallOk P w K mg base 1 "_law_next" [] sp_law_next := call_ok m_law_next F_law_next.kp (Nat.le_refl _) k_law_next rfl le_law_next (F_law_next.bindsN fun _ _ _ _ _ _ us hl => match us, hl with | [_, _], _ => rfl)
  have k_law_like0 : FnOk P w K mg base (L2.CX P w) 1 _ fd_law_like ["told", "due"] (SpOf mg K 2 (sp_like 0)) := fn_ok (Γ := ⟨fun _ => fun _ _ _ _ => False, fun _ => [], fun _ _ => none⟩) F_law_like sc_law_like hblt (fns_cons (call_ok (lv := 0) (ps := ["told", "due"]) m_law_like F_law_like.kp (Nat.le_refl _) fn_none rfl (fun _ _ _ _ z => z.elim) (F_law_like.bindsN fun _ _ _ _ _ _ us hl => match us, hl with | [_, _], _ => rfl)) fns_nil) tabs_nil ck_law_like le_law_like (fun ds M Q E h => w_like (fun m e => by cases e <;> rfl) h)
  have c_law_like0 : CallOk P w K mg base 1 "_law_like" [] (sp_like 0) := call_ok m_law_like F_law_like.kp (Nat.le_refl _) k_law_like0 rfl le_law_like (F_law_like.bindsN fun _ _ _ _ _ _ us hl => match us, hl with | [_, _], _ => rfl)
  have k_law_like1 : FnOk P w K mg base (L2.CX P w) 2 _ fd_law_like ["told", "due"] (SpOf mg K 2 (sp_like 1)) := fn_ok (Γ := ⟨fun _ => sp_like 0, fun _ => [], fun _ _ => none⟩) F_law_like sc_law_like hblt (fns_cons c_law_like0 fns_nil) tabs_nil ck_law_like le_law_like (fun ds M Q E h => w_like (fun m e => by cases e <;> rfl) h)
  have c_law_like1 : CallOk P w K mg base 2 "_law_like" [] (sp_like 1) := call_ok m_law_like F_law_like.kp (Nat.le_refl _) k_law_like1 rfl le_law_like (F_law_like.bindsN fun _ _ _ _ _ _ us hl => match us, hl with | [_, _], _ => rfl)
  have k_law_like2 : FnOk P w K mg base (L2.CX P w) 3 _ fd_law_like ["told", "due"] (SpOf mg K 2 (sp_like 2)) := fn_ok (Γ := ⟨fun _ => sp_like 1, fun _ => [], fun _ _ => none⟩) F_law_like sc_law_like hblt (fns_cons c_law_like1 fns_nil) tabs_nil ck_law_like le_law_like (fun ds M Q E h => w_like (fun m e => by cases e <;> rfl) h)
  have c_law_like2 : CallOk P w K mg base 3 "_law_like" [] (sp_like 2) := call_ok m_law_like F_law_like.kp (Nat.le_refl _) k_law_like2 rfl le_law_like (F_law_like.bindsN fun _ _ _ _ _ _ us hl => match us, hl with | [_, _], _ => rfl)
  have c_law_like := c_law_like2
  have k_law_made : FnOk P w K mg base (L2.CX P w) 3 _ fd_law_made ["value"] (SpOf mg K 1 (sp_law_made (cA K))) := fn_ok (Γ := G0 K) F_law_made sc_law_made hblt (fns_cons (CallOk.mono q_InvalidFilling (by decide)) (fns_cons (CallOk.mono q_InvalidStart (by decide)) (fns_cons (CallOk.mono q_InvalidBook (by decide)) (fns_cons (CallOk.mono q_InvalidPrice (by decide)) (fns_cons (CallOk.mono q_InvalidNumber (by decide)) (fns_cons (CallOk.mono q_InvalidQuestion (by decide)) (fns_cons (CallOk.mono q_InvalidMove (by decide)) (fns_cons (CallOk.mono q_InvalidCells (by decide)) (fns_cons (CallOk.mono q_InvalidSum (by decide)) (fns_cons (CallOk.mono q_InvalidRows (by decide)) (fns_cons (CallOk.mono q_InvalidOrder (by decide)) (fns_cons (CallOk.mono q_InvalidWeights (by decide)) (fns_cons (CallOk.mono q_InvalidTable (by decide)) (fns_cons (CallOk.mono q_InvalidDeed (by decide)) (fns_cons (CallOk.mono q_InvalidNetwork (by decide)) fns_nil))))))))))))))) tabs_nil ck_law_made le_law_made (fun ds M Q E h => w_law_made mk h)
  have c_law_made : CallOk P w K mg base 3 "_law_made" [] (sp_law_made (cA K)) := call_ok m_law_made F_law_made.kp (Nat.le_refl _) k_law_made rfl le_law_made (F_law_made.bindsN fun _ _ _ _ _ _ us hl => match us, hl with | [_], _ => rfl)
  have k_law_named : FnOk P w K mg base (L2.CX P w) 3 _ fd_law_named ["value"] (SpOf mg K 1 (sp_law_named (cA K))) := fn_ok (Γ := G0 K) F_law_named sc_law_named hblt (fns_cons (CallOk.mono q_InvalidStart_k_value (by decide)) (fns_cons (CallOk.mono q_InvalidBook_k_value (by decide)) (fns_cons (CallOk.mono q_InvalidPrice_k_value (by decide)) (fns_cons (CallOk.mono q_InvalidNumber_k_value (by decide)) (fns_cons (CallOk.mono q_InvalidCells_k_value (by decide)) (fns_cons (CallOk.mono q_InvalidSum_k_value (by decide)) (fns_cons (CallOk.mono q_InvalidFilling_k_value (by decide)) (fns_cons (CallOk.mono q_InvalidTable_k_value (by decide)) (fns_cons (CallOk.mono q_InvalidQuestion_k_value (by decide)) (fns_cons (CallOk.mono q_InvalidMove_k_value (by decide)) (fns_cons (CallOk.mono q_InvalidRows_k_value (by decide)) (fns_cons (CallOk.mono q_InvalidOrder_k_value (by decide)) (fns_cons (CallOk.mono q_InvalidWeights_k_value (by decide)) (fns_cons (CallOk.mono q_InvalidDeed_k_value (by decide)) (fns_cons (CallOk.mono q_InvalidNetwork_k_value (by decide)) fns_nil))))))))))))))) tabs_nil ck_law_named le_law_named (fun ds M Q E h => w_law_named mk h)
  have c_law_named : CallOk P w K mg base 3 "_law_named" [] (sp_law_named (cA K)) := call_ok m_law_named F_law_named.kp (Nat.le_refl _) k_law_named rfl le_law_named (F_law_named.bindsN fun _ _ _ _ _ _ us hl => match us, hl with | [_], _ => rfl)
  have k_law_classes : FnOk P w K mg base (L2.CX P w) 1 _ fd_law_classes ["error"] (SpOf mg K 1 (sp_law_classes (cA K))) := fn_ok (Γ := G0 K) F_law_classes sc_law_classes hblt fns_nil (tabs_consN (num_cls cl_InvalidBook) (tabs_consN (num_cls cl_InvalidPrice) (tabs_consN (num_cls cl_InvalidNumber) (tabs_consN (num_cls cl_InvalidFilling) (tabs_consN (num_cls cl_InvalidStart) (tabs_consN (num_cls cl_InvalidMove) (tabs_consN (num_cls cl_InvalidCells) (tabs_consN (num_cls cl_InvalidSum) (tabs_consN (num_cls cl_InvalidTable) (tabs_consN (num_cls cl_InvalidQuestion) (tabs_consN (num_cls cl_InvalidOrder) (tabs_consN (num_cls cl_InvalidWeights) (tabs_consN (num_cls cl_InvalidDeed) (tabs_consN (num_cls cl_InvalidNetwork) (tabs_consN (num_cls cl_InvalidRows) (tabs_consN (num_cls cl_InvalidText) (tabs_consN (num_cls cl_InvalidPuzzle) (tabs_consN (num_cls cl_NothingToUndo) (tabs_consN (num_cls cl_Undefined) tabs_nil))))))))))))))))))) ck_law_classes le_law_classes (fun ds M Q E h => w_law_classes sb h)
  have c_law_classes : CallOk P w K mg base 1 "_law_classes" [] (sp_law_classes (cA K)) := call_ok m_law_classes F_law_classes.kp (Nat.le_refl _) k_law_classes rfl le_law_classes (F_law_classes.bindsN fun _ _ _ _ _ _ us hl => match us, hl with | [_], _ => rfl)
  have k_law_kinds : FnOk P w K mg base (L2.CX P w) 2 _ fd_law_kinds ["errors", "first"] (SpOf mg K 2 (sp_law_kinds (cA K))) := fn_ok (Γ := G0 K) F_law_kinds sc_law_kinds hblt (fns_cons (CallOk.mono c_law_classes (by decide)) fns_nil) (tabs_consN (num_cls cl_ValueError) (tabs_consN (num_cls cl_PriceError) tabs_nil)) ck_law_kinds le_law_kinds (fun ds M Q E h => w_law_kinds sb rfl h)
  have c_law_kinds : CallOk P w K mg base 2 "_law_kinds" [] (sp_law_kinds (cA K)) := call_ok m_law_kinds F_law_kinds.kp (Nat.le_refl _) k_law_kinds rfl le_law_kinds (F_law_kinds.bindsN fun _ _ _ _ _ _ us hl => match us, hl with | [_, _], _ => rfl)
  have k_law_odd : FnOk P w K mg base (L2.CX P w) 2 _ fd_law_odd ["bag"] (SpOf mg K 1 sp_law_odd) := fn_ok (Γ := G0 K) F_law_odd sc_law_odd hblt (fns_cons (CallOk.mono c_law_next (by decide)) fns_nil) tabs_nil ck_law_odd le_law_odd (fun ds M Q E h => w_law_odd rfl h)
  have c_law_odd : CallOk P w K mg base 2 "_law_odd" [] sp_law_odd := call_ok m_law_odd F_law_odd.kp (Nat.le_refl _) k_law_odd rfl le_law_odd (F_law_odd.bindsN fun _ _ _ _ _ _ us hl => match us, hl with | [_], _ => rfl)
  have k_law_others : FnOk P w K mg base (L2.CX P w) 4 _ fd_law_others ["bag"] (SpOf mg K 1 sp_law_others) := fn_ok (Γ := G0 K) F_law_others sc_law_others hblt (fns_cons (CallOk.mono c_law_next (by decide)) (fns_cons (CallOk.mono q_NothingToUndo (by decide)) (fns_cons (CallOk.mono q_Undefined (by decide)) (fns_cons (CallOk.mono q_InvalidText (by decide)) (fns_cons (CallOk.mono q_InvalidPuzzle (by decide)) (fns_cons (CallOk.mono q_Undefined_k_what (by decide)) (fns_cons (CallOk.mono q_InvalidText_k_at_k_text (by decide)) (fns_cons (CallOk.mono q_InvalidPuzzle_k_place_k_part (by decide)) (fns_cons (CallOk.mono q_NothingToUndo_k_word (by decide)) (fns_cons (CallOk.mono c_law_kinds (by decide)) (fns_cons (CallOk.mono c_law_like (by decide)) fns_nil))))))))))) tabs_nil ck_law_others le_law_others (fun ds M Q E h => w_law_others mk rfl rfl rfl h)
  have c_law_others : CallOk P w K mg base 4 "_law_others" [] sp_law_others := call_ok m_law_others F_law_others.kp (Nat.le_refl _) k_law_others rfl le_law_others (F_law_others.bindsN fun _ _ _ _ _ _ us hl => match us, hl with | [_], _ => rfl)
  have k_law_whole : FnOk P w K mg base (L2.CX P w) 5 _ fd_law_whole ["script"] (SpOf mg K 1 sp_law_whole) := fn_ok (Γ := G0 K) F_law_whole sc_law_whole hblt (fns_cons (CallOk.mono c_law_bag (by decide)) (fns_cons (CallOk.mono c_law_odd (by decide)) (fns_cons (CallOk.mono c_law_made (by decide)) (fns_cons (CallOk.mono c_law_named (by decide)) (fns_cons (CallOk.mono c_law_kinds (by decide)) (fns_cons (CallOk.mono c_law_like (by decide)) (fns_cons (CallOk.mono c_law_next (by decide)) (fns_cons (CallOk.mono c_law_others (by decide)) fns_nil)))))))) tabs_nil ck_law_whole le_law_whole (fun ds M Q E h => w_law_whole ⟨rfl, rfl, rfl, rfl, rfl, rfl, rfl, rfl⟩ h)
  have c_law_whole : CallOk P w K mg base 5 "_law_whole" [] sp_law_whole := call_ok m_law_whole F_law_whole.kp (Nat.le_refl _) k_law_whole rfl le_law_whole (F_law_whole.bindsN fun _ _ _ _ _ _ us hl => match us, hl with | [_], _ => rfl)
  have k_law : FnOk P w K mg base (L2.CX P w) 6 _ fd_law ["script"] (SpOf mg K 1 sp_law) := fn_ok (Γ := G0 K) F_law sc_law hblt (fns_cons (CallOk.mono c_law_whole (by decide)) fns_nil) tabs_nil ck_law le_law (fun ds M Q E h => w_law rfl h)
  exact fn_any k_law
abbrev R : PySem.W.OpenRow := PySem.W.OpenLaw.row PySem.Challenge.rw_bentrealm_k32_errors_of_tables
abbrev hk : PySem.W.Hook := He.hookX 4 fa fn [] [] ex
def ob (s : PySem.W.SharedT) : He.AlX := He.obsX 4 fa fn [] [] ex (HandSHeadRun.getT s)
theorem ob_eq (s : PySem.W.SharedT) : ob s = hk.obs s.abs := He.obsX_eq (HandSHeadRun.getT_eq s)
theorem run (w : World) : HandSHeadRun.RunEq R (PySem.W.view R.prog [32]) hk ob 20000 ["PriceError", "InvalidNumber", "InvalidPrice", "InvalidBook", "InvalidPuzzle", "InvalidStart", "InvalidFilling", "InvalidSum", "InvalidCells", "InvalidMove", "InvalidQuestion", "InvalidTable", "InvalidWeights", "InvalidOrder", "InvalidRows", "InvalidNetwork", "InvalidDeed", "InvalidText", "Undefined", "NothingToUndo", "_law_bag", "_law_next", "_law_like", "_law_made", "_law_named", "_law_classes", "_law_kinds", "_law_odd", "_law_others", "_law_whole"] w := by
  intro os
  kernel_rfl
end K32
open PySem PySem.W PySem.Calls PyProof.Rows
theorem PySem.Challenge.cw_bentrealm_k32_errors_of_tables_holds : PySem.Challenge.rw_bentrealm_k32_errors_of_tables.Holds := by
  w_on; o_law
  refine HandSHeadRun.head_any (r := OpenLaw.row PySem.Challenge.rw_bentrealm_k32_errors_of_tables) (q := view (OpenLaw.row PySem.Challenge.rw_bentrealm_k32_errors_of_tables).prog [32]) (H := K32.hk) (ob := K32.ob) (M := 20000) (loose := ["PriceError", "InvalidNumber", "InvalidPrice", "InvalidBook", "InvalidPuzzle", "InvalidStart", "InvalidFilling", "InvalidSum", "InvalidCells", "InvalidMove", "InvalidQuestion", "InvalidTable", "InvalidWeights", "InvalidOrder", "InvalidRows", "InvalidNetwork", "InvalidDeed", "InvalidText", "Undefined", "NothingToUndo", "_law_bag", "_law_next", "_law_like", "_law_made", "_law_named", "_law_classes", "_law_kinds", "_law_odd", "_law_others", "_law_whole"]) (d := HandSHeadRun.topDef (OpenLaw.row PySem.Challenge.rw_bentrealm_k32_errors_of_tables).prog 32) (kwd := []) K32.ob_eq
    (by kernel_rfl) (fun s => by kernel_rfl) K32.run (by kernel_rfl) (by kernel_rfl) (by kernel_rfl) (by rfl) (by first | assumption | decide +kernel) (by decide +kernel) ⟨rfl, rfl, rfl, rfl, rfl, by decide +kernel⟩ ?hw ?hc
  case hw => w_witness2
  case hc =>
    refine L2.walk_ofE (l := PySem.Challenge.rw_bentrealm_k32_errors_of_tables) (n := 63) (k := 6) (x := "script") (CX := Bx.CXA (PySem.Challenge.rw_bentrealm_k32_errors_of_tables).prog) rfl (by decide) (by kernel_rfl) ⟨rfl, by decide, by decide⟩ ?F Bx.cxa_no
    intro w mg fa h Y G hmg0
    obtain ⟨K, KX, c⟩ := Y
    have hmg : mg ("law" : PySem.Str) = some (.ref fa) := by
      have e : (HandSHeadRun.topDef (OpenLaw.row PySem.Challenge.rw_bentrealm_k32_errors_of_tables).prog 32).name = ("law" : PySem.Str) := by kernel_rfl
      rw [← e]
      exact hmg0
    obtain ⟨fd, hb, hF⟩ := K32.facts (P := (PySem.Challenge.rw_bentrealm_k32_errors_of_tables).prog) (w := w) KX G hmg c
    exact ⟨K, fd, _, KX, hb, fun H a ns hl hH hS => Bx.law_sp hH hS fun M Q E hq => ⟨ns, rfl, hl, hq⟩, hF⟩


