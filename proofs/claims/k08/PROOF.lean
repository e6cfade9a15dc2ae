import PyProof.Rows.All
import Wide.All
import OpenK.AllK
import Wide.FinOn
import HandS.ForMost
import HandS.Wide
import HandS.Zip
import HandS.TupAny
import HandS.Conv
import HandS.WordsExc
import KE.GoesMore
import HandS.Style
import HandS.Deep
import KE.DatumOrd
import HandS.IsInst
import PyProof.ReprBulk
import PyProof.Rows.ReprOcc
import PySem.Challenge.RW_everturns_k08_both_and_around_far
set_option Elab.async false
set_option linter.all false
set_option maxRecDepth 100000
set_option maxHeartbeats 4000000
namespace L3
open PySem PySem.Spec PyProof.Rows L2
inductive D where
  | non | bl (b : Bool) | int (i : Int) | str (x : Str)
  | tup (xs : List D)
  | rol (xs : List D)
  | ref (a : Addr)
  | ty (n : String)
/-- a list that nobody writes: the script -/
def RoL (K : PySem.W.Frag) (H : Hp) (a : Addr) (xs : List V) : Prop :=
  (∃ o, H a = some (.frz o (.lst xs))) ∨
    ∃ (its : Array Value) (n : Nat), K.lookup a = some { cls := .type "list", data := .seq its n } ∧ its.size ≤ sizeLine ∧ Vals xs its.toList
theorem RoL.sq {K : PySem.W.Frag} {H : Hp} {a : Addr} {xs : List V} (h : RoL K H a xs) : SqL K H a xs := by
  rcases h with h | ⟨its, n, h, z, v⟩
  · exact .inl (.inr h)
  · exact .inr ⟨_, its, n, h, rfl, rfl, rfl, z, v⟩
mutual
inductive RD (K : PySem.W.Frag) (H : Hp) : V → D → Prop
  | non : RD K H .non .non
  | bl (b : Bool) : RD K H (.bl b) (.bl b)
  | int (i : Int) : RD K H (.int i) (.int i)
  | str (x : Str) : RD K H (.str x) (.str x)
  | ref (a : Addr) : RD K H (.ref a) (.ref a)
  | ty (n : String) : RD K H (.ty n) (.ty n)
  | tup {a : Addr} {vs : List V} {ds : List D} : SqT K H a vs → RDs K H vs ds → RD K H (.ref a) (.tup ds)
  | rol {a : Addr} {vs : List V} {ds : List D} : RoL K H a vs → RDs K H vs ds → RD K H (.ref a) (.rol ds)
inductive RDs (K : PySem.W.Frag) (H : Hp) : List V → List D → Prop
  | nil : RDs K H [] []
  | cons {v : V} {vs : List V} {d : D} {ds : List D} : RD K H v d → RDs K H vs ds → RDs K H (v :: vs) (d :: ds)
end
/-- what stands at a mutable address -/
inductive MO where
  | lst (ds : List D)
  | dK (kvs : List (Key × D))
  | dT (kvs : List (List Key × D))
  /-- a dict that is walked: read, not written -/
  | dL (o : Obj) (ks : List (Key × V)) (kvs : List (Key × D))
  /-- the same, its keys tuples -/
  | dM (o : Obj) (ks : List (List Key × V)) (kvs : List (List Key × D))
  | ins (n : Str) (fs : List (Str × D))
abbrev Mp := Addr → Option MO
def mset (M : Mp) (a : Addr) (o : MO) : Mp := fun b => if b = a then some o else M b
def M0 : Mp := fun _ => none
theorem mset_same {M : Mp} {a : Addr} {o : MO} : mset M a o a = some o := if_pos rfl
theorem mset_ne {M : Mp} {a b : Addr} {o : MO} (h : b ≠ a) : mset M a o b = M b := if_neg h
theorem ne_m {M : Mp} {a p : Addr} {o : MO} (h : M a = some o) (hp : M p = none) : a ≠ p := by
  intro e; subst e; rw [h] at hp; cases hp
def RKv {κ : Type} (K : PySem.W.Frag) (H : Hp) : List (κ × V) → List (κ × D) → Prop
  | [], [] => True
  | (k, v) :: r, (j, d) :: q => k = j ∧ RD K H v d ∧ RKv K H r q
  | _, _ => False
/-- the program's name n is that value -/
def Cl (K : PySem.W.Frag) (n : Str) (c : Value) : Prop := PySem.W.nsIn K mainGlobals n = some (some c)
def RO (K : PySem.W.Frag) (H : Hp) (a : Addr) : MO → Prop
  | .lst ds => ∃ vs, H a = some (.lst vs) ∧ RDs K H vs ds
  | .dK kvs => ∃ ks, H a = some (.dK ks) ∧ RKv K H ks kvs
  | .dT kvs => ∃ ks, H a = some (.dT ks) ∧ RKv K H ks kvs
  | .dL o ks kvs => H a = some (.frz o (.dK ks)) ∧ RKv K H ks kvs
  | .dM o ks kvs => H a = some (.frz o (.dT ks)) ∧ RKv K H ks kvs
  | .ins n fs => ∃ C dx gs, Cl K n (.ref C) ∧ H a = some (.ins C dx gs) ∧ RKv K H gs fs
def RM0 (K : PySem.W.Frag) (H : Hp) (M : Mp) : Prop := ∀ a o, M a = some o → RO K H a o
/-- M to M', H to H': what is not in M stays; what is new in M' was free -/
structure Ext (M M' : Mp) (H H' : Hp) : Prop where
  fr : ∀ a o, H a = some o → M a = none → H' a = some o
  dom : ∀ a, M' a ≠ none → M a ≠ none ∨ H a = none
theorem Ext.refl {M : Mp} {H : Hp} : Ext M M H H := ⟨fun _ _ h _ => h, fun _ h => .inl h⟩
theorem Ext.trans {M M1 M2 : Mp} {H H1 H2 : Hp} (x : Ext M M1 H H1) (y : Ext M1 M2 H1 H2) : Ext M M2 H H2 := by
  refine ⟨fun a o h hm => ?_, fun a h => ?_⟩
  · have h1 := x.fr a o h hm
    refine y.fr a o h1 ?_
    cases q : M1 a with
    | none => rfl
    | some u =>
      rcases x.dom a (by rw [q]; exact fun z => nomatch z) with z | z
      · exact absurd hm z
      · rw [h] at z; cases z
  · rcases y.dom a h with z | z
    · exact x.dom a z
    · cases q : H a with
      | none => exact .inr rfl
      | some o =>
        left
        intro hm
        have := x.fr a o q hm
        rw [z] at this; cases this
/-- some of M forgotten -/
theorem Ext.less {M M1 M2 : Mp} {H H1 : Hp} (x : Ext M M1 H H1) (l : ∀ a o, M2 a = some o → M1 a = some o) : Ext M M2 H H1 :=
  ⟨x.fr, fun a h => x.dom a (by
    cases q : M2 a with
    | none => exact absurd q h
    | some o => rw [l a o q]; exact fun z => nomatch z)⟩
theorem RM0.less {K : PySem.W.Frag} {H : Hp} {M1 M2 : Mp} (m : RM0 K H M1) (l : ∀ a o, M2 a = some o → M1 a = some o) : RM0 K H M2 := fun a o h => m a o (l a o h)
section
variable {K : PySem.W.Frag} {M M' : Mp} {H H' : Hp} {a : Addr}
theorem RM0.noTup {xs : List V} (m : RM0 K H M) (h : H a = some (.tup xs)) : M a = none := by
  cases q : M a with
  | none => rfl
  | some o =>
    have r := m a o q
    cases o with
    | lst ds => obtain ⟨_, e, _⟩ := r; rw [h] at e; cases e
    | dK ds => obtain ⟨_, e, _⟩ := r; rw [h] at e; cases e
    | dT ds => obtain ⟨_, e, _⟩ := r; rw [h] at e; cases e
    | dL o ks ds => obtain ⟨e, _⟩ := r; rw [h] at e; cases e
    | dM o ks ds => obtain ⟨e, _⟩ := r; rw [h] at e; cases e
    | ins C ds => obtain ⟨_, _, _, _, e, _⟩ := r; rw [h] at e; cases e
theorem RM0.noFrz {ob : Obj} {u : HO} (m : RM0 K H M) (h : H a = some (.frz ob u)) (hu : ∀ ks, u ≠ .dK ks) (hu2 : ∀ ks, u ≠ .dT ks := by exact fun _ z => nomatch z) : M a = none := by
  cases q : M a with
  | none => rfl
  | some o =>
    have r := m a o q
    cases o with
    | lst ds => obtain ⟨_, e, _⟩ := r; rw [h] at e; cases e
    | dK ds => obtain ⟨_, e, _⟩ := r; rw [h] at e; cases e
    | dT ds => obtain ⟨_, e, _⟩ := r; rw [h] at e; cases e
    | dL o ks ds => obtain ⟨e, _⟩ := r; rw [h] at e; cases e; exact absurd rfl (hu _)
    | dM o ks ds => obtain ⟨e, _⟩ := r; rw [h] at e; cases e; exact absurd rfl (hu2 _)
    | ins C ds => obtain ⟨_, _, _, _, e, _⟩ := r; rw [h] at e; cases e
theorem RM0.free (m : RM0 K H M) (h : H a = none) : M a = none := by
  cases q : M a with
  | none => rfl
  | some o =>
    have r := m a o q
    cases o with
    | lst ds => obtain ⟨_, e, _⟩ := r; rw [h] at e; cases e
    | dK ds => obtain ⟨_, e, _⟩ := r; rw [h] at e; cases e
    | dT ds => obtain ⟨_, e, _⟩ := r; rw [h] at e; cases e
    | dL o ks ds => obtain ⟨e, _⟩ := r; rw [h] at e; cases e
    | dM o ks ds => obtain ⟨e, _⟩ := r; rw [h] at e; cases e
    | ins C ds => obtain ⟨_, _, _, _, e, _⟩ := r; rw [h] at e; cases e
/-- what a value's reading leans on -/
def Still (K : PySem.W.Frag) (H H' : Hp) : Prop := (∀ a xs, SqT K H a xs → SqT K H' a xs) ∧ ∀ a xs, RoL K H a xs → RoL K H' a xs
theorem Still.refl : Still K H H := ⟨fun _ _ h => h, fun _ _ h => h⟩
theorem Still.trans {H1 H2 : Hp} (x : Still K H H1) (y : Still K H1 H2) : Still K H H2 := ⟨fun a xs h => y.1 a xs (x.1 a xs h), fun a xs h => y.2 a xs (x.2 a xs h)⟩
theorem Ext.still0 (x : Ext M M' H H') (m : RM0 K H M) : Still K H H' := by
  refine ⟨fun a xs h => ?_, fun a xs h => ?_⟩
  · rcases h with (h | ⟨o, h⟩) | h
    · exact .inl (.inl (x.fr a _ h (m.noTup h)))
    · exact .inl (.inr ⟨o, x.fr a _ h (m.noFrz h fun _ z => nomatch z)⟩)
    · exact .inr h
  · rcases h with ⟨o, h⟩ | h
    · exact .inl ⟨o, x.fr a _ h (m.noFrz h fun _ z => nomatch z)⟩
    · exact .inr h
mutual
theorem RD.still (s : Still K H H') : ∀ (d : D) (v : V), RD K H v d → RD K H' v d
  | .non, _, h => by cases h; exact .non
  | .bl b, _, h => by cases h; exact .bl b
  | .int i, _, h => by cases h; exact .int i
  | .str x, _, h => by cases h; exact .str x
  | .ref a, _, h => by cases h; exact .ref a
  | .ty n, _, h => by cases h; exact .ty n
  | .tup ds, _, h => by
    cases h with
    | tup h1 h2 => exact .tup (s.1 _ _ h1) (RDs.still s ds _ h2)
  | .rol ds, _, h => by
    cases h with
    | rol h1 h2 => exact .rol (s.2 _ _ h1) (RDs.still s ds _ h2)
theorem RDs.still (s : Still K H H') : ∀ (ds : List D) (vs : List V), RDs K H vs ds → RDs K H' vs ds
  | [], _, h => by cases h; exact .nil
  | d :: ds, _, h => by
    cases h with
    | cons h1 h2 => exact .cons (RD.still s d _ h1) (RDs.still s ds _ h2)
end
theorem RD.go {v : V} {d : D} (r : RD K H v d) (s : Still K H H') : RD K H' v d := RD.still s d v r
theorem RDs.go {vs : List V} {ds : List D} (r : RDs K H vs ds) (s : Still K H H') : RDs K H' vs ds := RDs.still s ds vs r
theorem RKv.go {κ : Type} (s : Still K H H') : ∀ {ks : List (κ × V)} {ds : List (κ × D)}, RKv K H ks ds → RKv K H' ks ds
  | [], [], _ => True.intro
  | (k, v) :: r, (j, d) :: q, h => ⟨h.1, h.2.1.go s, RKv.go s h.2.2⟩
  | [], _ :: _, h => h.elim
  | _ :: _, [], h => h.elim
theorem RO.go {o : MO} (r : RO K H a o) (s : Still K H H') (k : ∀ u, H a = some u → H' a = some u) : RO K H' a o := by
  cases o with
  | lst ds => obtain ⟨vs, e, q⟩ := r; exact ⟨vs, k _ e, q.go s⟩
  | dK ds => obtain ⟨vs, e, q⟩ := r; exact ⟨vs, k _ e, RKv.go s q⟩
  | dT ds => obtain ⟨vs, e, q⟩ := r; exact ⟨vs, k _ e, RKv.go s q⟩
  | dL o ks ds => obtain ⟨e, q⟩ := r; exact ⟨k _ e, RKv.go s q⟩
  | dM o ks ds => obtain ⟨e, q⟩ := r; exact ⟨k _ e, RKv.go s q⟩
  | ins n fs => obtain ⟨C, dx, vs, c, e, q⟩ := r; exact ⟨C, dx, vs, c, k _ e, RKv.go s q⟩
/-- all that was tracked is kept: M is as it was -/
theorem RM0.keep (m : RM0 K H M) (k : ∀ b u, H b = some u → H' b = some u) : Ext M M H H' ∧ RM0 K H' M := by
  have x : Ext M M H H' := ⟨fun b u h _ => k b u h, fun _ h => .inl h⟩
  exact ⟨x, fun b o h => (m b o h).go (x.still0 m) (k b)⟩
theorem RM0.upNew {p : Addr} {o : HO} (m : RM0 K H M) (hp : H p = none) : Ext M M H (upd H p o) ∧ RM0 K (upd H p o) M :=
  m.keep fun b u h => by rw [upd_ne (ne_of_none h hp)]; exact h
/-- a new object laid -/
theorem RM0.new {p : Addr} {o : HO} {mo : MO} (m : RM0 K H M) (hp : H p = none) (r : RO K (upd H p o) p mo) : Ext M (mset M p mo) H (upd H p o) ∧ RM0 K (upd H p o) (mset M p mo) := by
  have x0 : Ext M M H (upd H p o) := (m.upNew hp).1
  have x : Ext M (mset M p mo) H (upd H p o) := ⟨x0.fr, fun b h => by
    by_cases e : b = p
    · subst e; exact .inr hp
    · rw [mset_ne e] at h; exact .inl h⟩
  refine ⟨x, fun b u h => ?_⟩
  by_cases e : b = p
  · subst e; rw [mset_same] at h; cases h; exact r
  · rw [mset_ne e] at h
    exact (m.upNew hp).2 b u h
theorem RM0.newL {p : Addr} {vs : List V} {ds : List D} (m : RM0 K H M) (hp : H p = none) (r : RDs K H vs ds) : Ext M (mset M p (.lst ds)) H (upd H p (.lst vs)) ∧ RM0 K (upd H p (.lst vs)) (mset M p (.lst ds)) :=
  m.new hp ⟨vs, upd_same, r.go ((m.upNew hp).1.still0 m)⟩
/-- an object written -/
theorem RM0.put {p : Addr} {o : HO} {mo mo' : MO} (m : RM0 K H M) (hp : M p = some mo) (r : Still K H (upd H p o) → RO K (upd H p o) p mo') : Ext M (mset M p mo') H (upd H p o) ∧ RM0 K (upd H p o) (mset M p mo') := by
  have x : Ext M (mset M p mo') H (upd H p o) := by
    refine ⟨fun b u h hm => ?_, fun b h => ?_⟩
    · rw [upd_ne (by intro e; subst e; rw [hp] at hm; cases hm)]; exact h
    · by_cases e : b = p
      · subst e; left; rw [hp]; exact fun z => nomatch z
      · rw [mset_ne e] at h; exact .inl h
  refine ⟨x, fun b u h => ?_⟩
  by_cases e : b = p
  · subst e; rw [mset_same] at h; cases h; exact r (x.still0 m)
  · rw [mset_ne e] at h
    exact (m b u h).go (x.still0 m) fun v hv => by rw [upd_ne e]; exact hv
theorem RM0.putL {p : Addr} {vs : List V} {ds : List D} {mo : MO} (m : RM0 K H M) (hp : M p = some mo) (r : RDs K H vs ds) : Ext M (mset M p (.lst ds)) H (upd H p (.lst vs)) ∧ RM0 K (upd H p (.lst vs)) (mset M p (.lst ds)) :=
  m.put hp fun s => ⟨vs, upd_same, r.go s⟩
end
structure BS where
  ok : Mp → Hp → Prop
  go : ∀ {M M' : Mp} {H H' : Hp}, ok M H → Ext M M' H H' → ok M' H'
def bsOf (M : Mp) (H : Hp) : BS := ⟨fun M' H' => Ext M M' H H', fun a b => a.trans b⟩
structure RM (K : PySem.W.Frag) (bs : BS) (H : Hp) (M : Mp) : Prop where
  m : RM0 K H M
  b : bs.ok M H
section
variable {K : PySem.W.Frag} {bs : BS} {M M' : Mp} {H H' : Hp} {a : Addr}
theorem Ext.still (x : Ext M M' H H') (m : RM K bs H M) : Still K H H' := x.still0 m.m
theorem RM.go (m : RM K bs H M) (x : Ext M M' H H' ∧ RM0 K H' M') : Ext M M' H H' ∧ RM K bs H' M' := ⟨x.1, x.2, bs.go m.b x.1⟩
theorem RM.to (m : RM K bs H M) (x : Ext M M' H H') (m' : RM0 K H' M') : RM K bs H' M' := ⟨m', bs.go m.b x⟩
theorem RM.free (m : RM K bs H M) (h : H a = none) : M a = none := m.m.free h
theorem RM.keep (m : RM K bs H M) (k : ∀ b u, H b = some u → H' b = some u) : Ext M M H H' ∧ RM K bs H' M := m.go (m.m.keep k)
theorem RM.upNew {p : Addr} {o : HO} (m : RM K bs H M) (hp : H p = none) : Ext M M H (upd H p o) ∧ RM K bs (upd H p o) M := m.go (m.m.upNew hp)
theorem RM.new {p : Addr} {o : HO} {mo : MO} (m : RM K bs H M) (hp : H p = none) (r : RO K (upd H p o) p mo) : Ext M (mset M p mo) H (upd H p o) ∧ RM K bs (upd H p o) (mset M p mo) := m.go (m.m.new hp r)
theorem RM.newL {p : Addr} {vs : List V} {ds : List D} (m : RM K bs H M) (hp : H p = none) (r : RDs K H vs ds) : Ext M (mset M p (.lst ds)) H (upd H p (.lst vs)) ∧ RM K bs (upd H p (.lst vs)) (mset M p (.lst ds)) := m.go (m.m.newL hp r)
theorem RM.put {p : Addr} {o : HO} {mo mo' : MO} (m : RM K bs H M) (hp : M p = some mo) (r : Still K H (upd H p o) → RO K (upd H p o) p mo') : Ext M (mset M p mo') H (upd H p o) ∧ RM K bs (upd H p o) (mset M p mo') := m.go (m.m.put hp r)
theorem RM.putL {p : Addr} {vs : List V} {ds : List D} {mo : MO} (m : RM K bs H M) (hp : M p = some mo) (r : RDs K H vs ds) : Ext M (mset M p (.lst ds)) H (upd H p (.lst vs)) ∧ RM K bs (upd H p (.lst vs)) (mset M p (.lst ds)) := m.go (m.m.putL hp r)
theorem RM.less {M2 : Mp} (m : RM K bs H M) (l : ∀ a o, M2 a = some o → M a = some o) : Ext M M2 H H ∧ RM K bs H M2 := m.go ⟨Ext.refl.less l, m.m.less l⟩
theorem RM.at (m : RM K bs H M) {o : MO} (h : M a = some o) : RO K H a o := m.m a o h
end
section
variable {K : PySem.W.Frag} {H : Hp}
theorem RDs.length : ∀ {vs : List V} {ds : List D}, RDs K H vs ds → vs.length = ds.length
  | _, _, .nil => rfl
  | _, _, .cons _ t => by rw [List.length_cons, List.length_cons, t.length]
theorem RDs.get : ∀ {vs : List V} {ds : List D} {i : Nat} {d : D}, RDs K H vs ds → ds[i]? = some d → ∃ v, vs[i]? = some v ∧ RD K H v d
  | _, _, _, _, .nil, e => by simp at e
  | _, _, 0, _, .cons r _, e => by simp at e; subst e; exact ⟨_, rfl, r⟩
  | _, _, i + 1, d, .cons _ t, e => by
    obtain ⟨u, h1, h2⟩ := RDs.get (i := i) (d := d) t (by simpa using e)
    exact ⟨u, by simpa using h1, h2⟩
theorem RDs.app : ∀ {vs ws : List V} {ds es : List D}, RDs K H vs ds → RDs K H ws es → RDs K H (vs ++ ws) (ds ++ es)
  | _, _, _, _, .nil, s => s
  | _, _, _, _, .cons r t, s => .cons r (RDs.app t s)
theorem RDs.take : ∀ {vs : List V} {ds : List D} (n : Nat), RDs K H vs ds → RDs K H (vs.take n) (ds.take n)
  | _, _, 0, _ => .nil
  | _, _, _ + 1, .nil => .nil
  | _, _, n + 1, .cons r t => .cons r (RDs.take n t)
theorem RDs.drop : ∀ {vs : List V} {ds : List D} (n : Nat), RDs K H vs ds → RDs K H (vs.drop n) (ds.drop n)
  | _, _, 0, r => r
  | _, _, _ + 1, .nil => .nil
  | _, _, n + 1, .cons _ t => RDs.drop n t
theorem RDs.set {v : V} {d : D} (r : RD K H v d) : ∀ {vs : List V} {ds : List D} (i : Nat), RDs K H vs ds → RDs K H (vs.set i v) (ds.set i d)
  | _, _, _, .nil => .nil
  | _, _, 0, .cons _ t => .cons r t
  | _, _, i + 1, .cons q t => .cons q (RDs.set r i t)
theorem RDs.ofInts : ∀ (ns : List Int), RDs K H (ns.map V.int) (ns.map D.int)
  | [] => .nil
  | n :: ns => .cons (.int n) (RDs.ofInts ns)
end
abbrev St3 := List (Option D)
abbrev VK3 := D → Mp → Prop
abbrev TE3 := St3 → Mp → VK3 → Prop
abbrev TT3 := St3 → Mp → (Bool → Mp → Prop) → Prop
abbrev TA3 := St3 → Mp → (List D → Mp → Prop) → Prop
def getS : St3 → Nat → Option D
  | [], _ => none
  | x :: _, 0 => x
  | _ :: r, i + 1 => getS r i
def setS : St3 → Nat → Option D → St3
  | [], _, _ => []
  | _ :: r, 0, d => d :: r
  | x :: r, i + 1, d => x :: setS r i d
structure RE (K : PySem.W.Frag) (H : Hp) (σ : L2.St) (τ : St3) : Prop where
  len : σ.length = τ.length
  get : ∀ i d, getS τ i = some d → ∃ v, σ[i]? = some (some v) ∧ RD K H v d
theorem setS_len : ∀ (τ : St3) (i : Nat) (d : Option D), (setS τ i d).length = τ.length
  | [], _, _ => rfl
  | _ :: _, 0, _ => rfl
  | _ :: r, i + 1, d => by show (setS r i d).length + 1 = r.length + 1; rw [setS_len]
theorem getS_set : ∀ (τ : St3) (i j : Nat) (d : Option D), getS (setS τ i d) j = if j = i ∧ i < τ.length then d else getS τ j
  | [], i, j, d => by
    show none = _
    split
    · rename_i h; exact absurd h.2 (by simp)
    · rfl
  | x :: r, 0, 0, d => by simp [setS, getS]
  | x :: r, 0, j + 1, d => by simp [setS, getS]
  | x :: r, i + 1, 0, d => by simp [setS, getS]
  | x :: r, i + 1, j + 1, d => by
    show getS (setS r i d) j = _
    rw [getS_set r i j d]
    simp [getS]
theorem getS_lt : ∀ (τ : St3) (i : Nat) (d : D), getS τ i = some d → i < τ.length
  | [], _, _, h => by cases h
  | _ :: _, 0, _, _ => Nat.succ_pos _
  | _ :: r, i + 1, d, h => Nat.succ_lt_succ (getS_lt r i d h)
section
variable {K : PySem.W.Frag} {H H' : Hp} {σ : L2.St} {τ : St3}
theorem RE.go (r : RE K H σ τ) (s : Still K H H') : RE K H' σ τ := ⟨r.len, fun i d e => let ⟨v, a, b⟩ := r.get i d e; ⟨v, a, b.go s⟩⟩
theorem RE.set {i : Nat} {v : V} {d : D} (r : RE K H σ τ) (rv : RD K H v d) : RE K H (σ.set i (some v)) (setS τ i (some d)) := by
  refine ⟨by rw [List.length_set, setS_len]; exact r.len, fun j e h => ?_⟩
  rw [getS_set] at h
  split at h
  · rename_i q
    obtain ⟨rfl, q⟩ := q
    cases h
    exact ⟨v, by rw [List.getElem?_set_self (by rw [r.len]; exact q)], rv⟩
  · rename_i q
    obtain ⟨u, e1, e2⟩ := r.get j e h
    refine ⟨u, ?_, e2⟩
    by_cases hij : i = j
    · subst hij
      exact absurd ⟨rfl, getS_lt _ _ _ h⟩ q
    · rw [List.getElem?_set_ne hij]; exact e1
theorem RE.drop {i : Nat} (r : RE K H σ τ) (x : Option V) : RE K H (σ.set i x) (setS τ i none) := by
  refine ⟨by rw [List.length_set, setS_len]; exact r.len, fun j e h => ?_⟩
  rw [getS_set] at h
  split at h
  · cases h
  · rename_i q
    obtain ⟨u, e1, e2⟩ := r.get j e h
    refine ⟨u, ?_, e2⟩
    by_cases hij : i = j
    · subst hij
      exact absurd ⟨rfl, getS_lt _ _ _ h⟩ q
    · rw [List.getElem?_set_ne hij]; exact e1
def wipe3 (τ : St3) : List Nat → St3
  | [] => τ
  | v :: vs => setS (wipe3 τ vs) v none
theorem RE.wipe (r : RE K H σ τ) : ∀ vs : List Nat, RE K H (wipe σ vs) (wipe3 τ vs)
  | [] => r
  | v :: vs => by
    unfold wipe3 L2.wipe
    exact (RE.wipe r vs).drop none
end
def ite3 (b : Bool) (A B : Prop) : Prop := match b with
  | true => A
  | false => B
def asB (d : D) (k : Bool → Prop) : Prop := match d with
  | .bl b => k b
  | _ => False
def asI (d : D) (k : Int → Prop) : Prop := match d with
  | .int i => k i
  | _ => False
def asS (d : Option D) (k : D → Prop) : Prop := match d with
  | some d => k d
  | none => False
theorem ite3_t {A B : Prop} : ite3 true A B = A := rfl
theorem ite3_f {A B : Prop} : ite3 false A B = B := rfl
theorem asB_bl {b : Bool} {k : Bool → Prop} : asB (.bl b) k = k b := rfl
theorem asI_int {i : Int} {k : Int → Prop} : asI (.int i) k = k i := rfl
theorem asS_some {d : D} {k : D → Prop} : asS (some d) k = k d := rfl
theorem ite3_by {b : Bool} {A B : Prop} (h1 : b = true → A) (h2 : b = false → B) : ite3 b A B := by
  cases b with
  | true => exact h1 rfl
  | false => exact h2 rfl
section
variable (K : PySem.W.Frag) (bs : BS)
def lift (t : TE3) : TE := fun σ H Q => ∃ τ M Q3, RE K H σ τ ∧ RM K bs H M ∧ t τ M Q3 ∧
  ∀ v H' d M', Ext M M' H H' → RM K bs H' M' → RD K H' v d → Q3 d M' → Q v H'
def liftT (t : TT3) : TT := fun σ H Q => ∃ τ M Q3, RE K H σ τ ∧ RM K bs H M ∧ t τ M Q3 ∧
  ∀ b H' M', Ext M M' H H' → RM K bs H' M' → Q3 b M' → Q b H'
def liftA (t : TA3) : TA := fun σ H Q => ∃ τ M Q3, RE K H σ τ ∧ RM K bs H M ∧ t τ M Q3 ∧
  ∀ vs H' ds M', Ext M M' H H' → RM K bs H' M' → RDs K H' vs ds → Q3 ds M' → Q vs H'
abbrev R23 := D → D → Mp → VK3 → Prop
def lift2 (r : R23) : R2 := fun x y H Q => ∃ d e M Q3, RD K H x d ∧ RD K H y e ∧ RM K bs H M ∧ r d e M Q3 ∧
  ∀ v H' z M', Ext M M' H H' → RM K bs H' M' → RD K H' v z → Q3 z M' → Q v H'
def liftV (r : List D → Mp → VK3 → Prop) : List V → Hp → VK → Prop := fun xs H Q => ∃ ds M Q3, RDs K H xs ds ∧ RM K bs H M ∧ r ds M Q3 ∧
  ∀ v H' z M', Ext M M' H H' → RM K bs H' M' → RD K H' v z → Q3 z M' → Q v H'
end
def PE3 (bs : BS) (X : Cx) (e : Expr) (t : TE3) : Prop := PE X e (lift X.K bs t)
def PT3 (bs : BS) (X : Cx) (e : Expr) (t : TT3) : Prop := PT X e (liftT X.K bs t)
def PA3 (bs : BS) (X : Cx) (es : List Expr) (t : TA3) : Prop := PA X es (liftA X.K bs t)
end L3
namespace L2
open PySem PySem.Spec PyProof.Rows
theorem PE.weak {X : Cx} {e : Expr} {t t' : TE} (h : PE X e t) (i : ∀ σ H Q, t' σ H Q → t σ H Q) : PE X e t' := ⟨fun pins s σ H Q I q => h.run pins s σ H Q I (i σ H Q q)⟩
theorem PT.weak {X : Cx} {e : Expr} {t t' : TT} (h : PT X e t) (i : ∀ σ H Q, t' σ H Q → t σ H Q) : PT X e t' := ⟨fun pins s σ H Q I q => h.run pins s σ H Q I (i σ H Q q)⟩
theorem PW.weak {X : Cx} {e : Expr} {t t' : TT} (h : PW X e t) (i : ∀ σ H Q, t' σ H Q → t σ H Q) : PW X e t' := ⟨fun wh pins s σ H Q I q => h.run wh pins s σ H Q I (i σ H Q q)⟩
theorem PA.weak {X : Cx} {e : List Expr} {t t' : TA} (h : PA X e t) (i : ∀ σ H Q, t' σ H Q → t σ H Q) : PA X e t' := ⟨fun pos pins s σ H Q I q => h.run pos pins s σ H Q I (i σ H Q q)⟩
theorem PS.weak {X : Cx} {e : Stmt} {t t' : TS} (h : PS X e t) (i : ∀ D σ H, t' D σ H → t D σ H) : PS X e t' := ⟨fun pins s σ H D I q => h.run pins s σ H D I (i D σ H q)⟩
theorem PSs.weak {X : Cx} {e : List Stmt} {t t' : TS} (h : PSs X e t) (i : ∀ D σ H, t' D σ H → t D σ H) : PSs X e t' := ⟨fun pins s σ H D I q => h.run pins s σ H D I (i D σ H q)⟩
theorem PG.weak {X : Cx} {e : Expr} {t t' : TG} (h : PG X e t) (i : ∀ v σ H Q, t' v σ H Q → t v σ H Q) : PG X e t' := ⟨fun pins s σ H v u Q I r q => h.run pins s σ H v u Q I r (i v σ H Q q)⟩
theorem PGs.weak {X : Cx} {e : List Expr} {t t' : TGs} (h : PGs X e t) (i : ∀ v σ H Q, t' v σ H Q → t v σ H Q) : PGs X e t' := ⟨fun pins s σ H v u Q I r q => h.run pins s σ H v u Q I r (i v σ H Q q)⟩
theorem PI.weak {X : Cx} {g e : Expr} {t t' : TI} (h : PI X g e t) (i : ∀ σ H R, t' σ H R → t σ H R) : PI X g e t' := ⟨fun pins s σ H R I q => h.run pins s σ H R I (i σ H R q)⟩
theorem OpR.weak {X : Cx} {f : Value → Value → Sem Value} {r r' : R2} (h : OpR X f r) (i : ∀ x y H Q, r' x y H Q → r x y H Q) : OpR X f r' :=
  fun pins s σ H x y v u Q I rx ry q => h pins s σ H x y v u Q I rx ry (i x y H Q q)
theorem CallR.weak {X : Cx} {f : Value} {r r' : List V → Hp → VK → Prop} (h : CallR X f r) (i : ∀ xs H Q, r' xs H Q → r xs H Q) : CallR X f r' :=
  fun pins s σ H xs us Q I rx q => h pins s σ H xs us Q I rx (i xs H Q q)
end L2
namespace L3
open PySem PySem.Spec PyProof.Rows L2
section
variable {bs : BS} {X : Cx} {a b c : Expr} {ta tb tc : TE3} {pos : Pos}
def wC (d : D) : TE3 := fun _ M Q => Q d M
def wVar (i : Nat) : TE3 := fun τ M Q => asS (getS τ i) fun d => Q d M
theorem e_c {v : V} {d : D} (h : PE X a (tC v)) (r : ∀ H, RD X.K H v d) : PE3 bs X a (wC d) :=
  h.weak fun σ H Q ⟨τ, M, Q3, e, m, q, k⟩ => k v H d M .refl m (r H) q
theorem e_int {i j} : PE3 bs X (.Constant (.int i) j pos) (wC (.int i)) := e_c pe_int fun _ => .int i
theorem e_bl {i j} : PE3 bs X (.Constant (.bool i) j pos) (wC (.bl i)) := e_c pe_bl fun _ => .bl i
theorem e_non {j} : PE3 bs X (.Constant .none j pos) (wC .non) := e_c pe_non fun _ => .non
theorem e_var (i : Nat) (h : PE X a (tVar i)) : PE3 bs X a (wVar i) :=
  h.weak fun σ H Q ⟨τ, M, Q3, e, m, q, k⟩ => by
    unfold wVar at q
    cases hd : getS τ i with
    | none => rw [hd] at q; exact False.elim q
    | some d =>
      rw [hd] at q
      obtain ⟨v, hv, r⟩ := e.get i d hd
      exact ⟨v, hv, k v H d M .refl m r q⟩
theorem ev (i : Nat) {x : Str} {pos : Pos} (hN : X.N[i]? = some x := by rfl) (hv : Vis X.env.scope x := by first | exact Or.inl rfl | exact Or.inr (Or.inl rfl) | exact Or.inr (Or.inr rfl)) (hd : (x == ("__debug__" : Str)) = false := by decide)
    (hcd : (x == ("__classdict__" : Str)) = false := by decide) : PE3 bs X (.Name x pos) (wVar i) := e_var i (pe_var hN hv hd hcd)
def wOp (r : R23) (ta tb : TE3) : TE3 := fun τ M Q => ta τ M fun x M1 => tb τ M1 fun y M2 => r x y M2 Q
theorem lift_op {r : R23} : ∀ σ H Q, lift X.K bs (wOp r ta tb) σ H Q → tOp (lift2 X.K bs r) (lift X.K bs ta) (lift X.K bs tb) σ H Q := by
  rintro σ H Q ⟨τ, M, Q3, e, m, q, k⟩
  refine ⟨τ, M, _, e, m, q, fun x H1 d M1 x1 m1 r1 q1 => ⟨τ, M1, _, e.go (x1.still m), m1, q1, fun y H2 d2 M2 x2 m2 r2 q2 => ?_⟩⟩
  exact ⟨d, d2, M2, Q3, r1.go (x2.still m1), r2, m2, q2, fun v H' z M' x3 m3 r3 q3 => k v H' z M' (x1.trans (x2.trans x3)) m3 r3 q3⟩
theorem e_op {op : Operator} {r : R23} (ho : OpR X (binaryOp op) (lift2 X.K bs r)) (ha : PE3 bs X a ta) (hb : PE3 bs X b tb) : PE3 bs X (.BinOp a op b pos) (wOp r ta tb) := (pe_op ho ha hb).weak lift_op
theorem e_cmp {op : CmpOp} {r : R23} (ho : OpR X (compareOp op) (lift2 X.K bs r)) (ha : PE3 bs X a ta) (hb : PE3 bs X b tb) (hm : behindInMarks op b = false) : PE3 bs X (.Compare a [op] [b] pos) (wOp r ta tb) := (pe_cmpR ho ha hb hm).weak lift_op
/-- a value as a test: a truth -/
def wB (t : TE3) : TT3 := fun τ M Q => t τ M fun d M' => asB d fun k => Q k M'
theorem lift_b : ∀ σ H Q, liftT X.K bs (wB ta) σ H Q → tB (lift X.K bs ta) σ H Q := by
  rintro σ H Q ⟨τ, M, Q3, e, m, q, k⟩
  refine ⟨τ, M, _, e, m, q, fun x H1 d M1 x1 m1 r1 q1 => ?_⟩
  cases d with
  | bl z =>
    cases r1
    exact ⟨z, rfl, k z H1 M1 x1 m1 q1⟩
  | _ => exact False.elim q1
theorem lift_tt {r : R23} : ∀ σ H Q, liftT X.K bs (wB (wOp r ta tb)) σ H Q → tTest (tOp (lift2 X.K bs r) (lift X.K bs ta) (lift X.K bs tb)) σ H Q := by
  rintro σ H Q ⟨τ, M, Q3, e, m, q, k⟩
  refine lift_op (r := r) σ H _ ⟨τ, M, _, e, m, q, fun x H1 d M1 x1 m1 r1 q1 => ?_⟩
  cases d with
  | bl z =>
    cases r1
    exact ⟨z, rfl, k z H1 M1 x1 m1 q1⟩
  | _ => exact False.elim q1
theorem t_cmp {op : CmpOp} {r : R23} (ho : OpR X (compareOp op) (lift2 X.K bs r)) (ha : PE3 bs X a ta) (hb : PE3 bs X b tb) (hm : behindInMarks op b = false) : PT3 bs X (.Compare a [op] [b] pos) (wB (wOp r ta tb)) := (pt_cmpR ho ha hb hm).weak lift_tt
theorem t_val (h : PE3 bs X a ta) (he : ∀ whole, isTrue a X.env whole = (do let v ← whole; standAt a.pos; holding [v] (truthy v)) := by intro _; rfl) : PT3 bs X a (wB ta) := (pt_val h he).weak lift_b
/-- a op b op' c -/
def wChain (r r' : R23) (ta tb tc : TE3) : TE3 := fun τ M Q => ta τ M fun x M1 => tb τ M1 fun y M2 => r x y M2 fun z M3 => asB z fun c => ite3 c (tc τ M3 fun w M4 => r' y w M4 Q) (Q (.bl false) M3)
theorem lift_chain {r r' : R23} : ∀ σ H Q, lift X.K bs (wChain r r' ta tb tc) σ H Q → tChain (lift2 X.K bs r) (lift2 X.K bs r') (lift X.K bs ta) (lift X.K bs tb) (lift X.K bs tc) σ H Q := by
  rintro σ H Q ⟨τ, M, Q3, e, m, q, k⟩
  refine ⟨τ, M, _, e, m, q, fun x H1 d M1 x1 m1 r1 q1 => ⟨τ, M1, _, e.go (x1.still m), m1, q1, fun y H2 d2 M2 x2 m2 r2 q2 => ?_⟩⟩
  refine ⟨d, d2, M2, _, r1.go (x2.still m1), r2, m2, q2, fun z H3 d3 M3 x3 m3 r3 q3 => ?_⟩
  cases d3 with
  | bl t =>
    cases r3
    cases t with
    | true =>
      refine ⟨true, rfl, iteT ?_⟩
      refine ⟨τ, M3, _, (e.go (x1.still m)).go ((x2.trans x3).still m1), m3, q3, fun w H4 d4 M4 x4 m4 r4 q4 => ?_⟩
      exact ⟨d2, d4, M4, Q3, r2.go ((x3.trans x4).still m2), r4, m4, q4, fun v H' z M' x5 m5 r5 q5 => k v H' z M' (x1.trans (x2.trans (x3.trans (x4.trans x5)))) m5 r5 q5⟩
    | false => exact ⟨false, rfl, iteF (k (.bl false) H3 (.bl false) M3 (x1.trans (x2.trans x3)) m3 (.bl _) q3)⟩
  | _ => exact False.elim q3
theorem t_chain {op op' : CmpOp} {r r' : R23} (ho : OpR X (compareOp op) (lift2 X.K bs r)) (ho' : OpR X (compareOp op') (lift2 X.K bs r')) (ha : PE3 bs X a ta) (hb : PE3 bs X b tb) (hc : PE3 bs X c tc)
    (hm : lastMarks [op, op'] [b, c] = false := by with_unfolding_all rfl) : PT3 bs X (.Compare a [op, op'] [b, c] pos) (wB (wChain r r' ta tb tc)) := by
  refine (pt_chain ho ho' ha hb hc hm).weak ?_
  rintro σ H Q ⟨τ, M, Q3, e, m, q, k⟩
  refine lift_chain (r := r) (r' := r') σ H _ ⟨τ, M, _, e, m, q, fun x H1 d M1 x1 m1 r1 q1 => ?_⟩
  cases d with
  | bl z =>
    cases r1
    exact ⟨z, rfl, k z H1 M1 x1 m1 q1⟩
  | _ => exact False.elim q1
variable {A B : TT3} {rest : List Expr}
def wAnd (t u : TT3) : TT3 := fun τ M Q => t τ M fun c M1 => ite3 c (u τ M1 Q) (Q false M1)
def wOr (t u : TT3) : TT3 := fun τ M Q => t τ M fun c M1 => ite3 c (Q true M1) (u τ M1 Q)
def wNot (t : TT3) : TT3 := fun τ M Q => t τ M fun c M1 => Q (!c) M1
def PW3 (bs : BS) (X : Cx) (e : Expr) (t : TT3) : Prop := PW X e (liftT X.K bs t)
theorem PW3.pt {e : Expr} {t : TT3} (h : PW3 bs X e t) : PT3 bs X e t := PW.pt h
theorem t_and1 (ha : PT3 bs X a A) : PW3 bs X (.BoolOp .And [a] pos) A := pw_and1 ha
theorem t_or1 (ha : PT3 bs X a A) : PW3 bs X (.BoolOp .Or [a] pos) A := pw_or1 ha
theorem t_and (ha : PT3 bs X a A) (hb : PW3 bs X (.BoolOp .And (b :: rest) pos) B) : PW3 bs X (.BoolOp .And (a :: b :: rest) pos) (wAnd A B) := by
  refine (pw_and ha hb).weak ?_
  rintro σ H Q ⟨τ, M, Q3, e, m, q, k⟩
  refine ⟨τ, M, _, e, m, q, fun z H1 M1 x1 m1 q1 => ?_⟩
  cases z with
  | true => exact iteT ⟨τ, M1, Q3, e.go (x1.still m), m1, q1, fun z H' M' x2 m2 q2 => k z H' M' (x1.trans x2) m2 q2⟩
  | false => exact iteF (k false H1 M1 x1 m1 q1)
theorem t_or (ha : PT3 bs X a A) (hb : PW3 bs X (.BoolOp .Or (b :: rest) pos) B) : PW3 bs X (.BoolOp .Or (a :: b :: rest) pos) (wOr A B) := by
  refine (pw_or ha hb).weak ?_
  rintro σ H Q ⟨τ, M, Q3, e, m, q, k⟩
  refine ⟨τ, M, _, e, m, q, fun z H1 M1 x1 m1 q1 => ?_⟩
  cases z with
  | true => exact iteT (k true H1 M1 x1 m1 q1)
  | false => exact iteF ⟨τ, M1, Q3, e.go (x1.still m), m1, q1, fun z H' M' x2 m2 q2 => k z H' M' (x1.trans x2) m2 q2⟩
def wAndV (ta tb : TE3) : TE3 := fun τ M Q => ta τ M fun x M1 => asB x fun c => ite3 c (tb τ M1 Q) (Q (.bl false) M1)
def wOrV (ta tb : TE3) : TE3 := fun τ M Q => ta τ M fun x M1 => asB x fun c => ite3 c (Q (.bl true) M1) (tb τ M1 Q)
def wNotV (ta : TE3) : TE3 := fun τ M Q => ta τ M fun x M1 => asB x fun c => Q (.bl (!c)) M1
def wIf (c : TT3) (ta tb : TE3) : TE3 := fun τ M Q => c τ M fun z M1 => ite3 z (ta τ M1 Q) (tb τ M1 Q)
theorem e_if (hc : PT3 bs X c A) (ha : PE3 bs X a ta) (hb : PE3 bs X b tb) : PE3 bs X (.IfExp c a b pos) (wIf A ta tb) := by
  refine (pe_ifExp hc ha hb).weak ?_
  rintro σ H Q ⟨τ, M, Q3, e, m, q, k⟩
  refine ⟨τ, M, _, e, m, q, fun z H1 M1 x1 m1 q1 => ?_⟩
  cases z with
  | true => exact iteT ⟨τ, M1, Q3, e.go (x1.still m), m1, q1, fun z H' d M' x2 m2 r2 q2 => k z H' d M' (x1.trans x2) m2 r2 q2⟩
  | false => exact iteF ⟨τ, M1, Q3, e.go (x1.still m), m1, q1, fun z H' d M' x2 m2 r2 q2 => k z H' d M' (x1.trans x2) m2 r2 q2⟩
variable {es : List Expr} {t : TA3}
def wNil : TA3 := fun _ M Q => Q [] M
def wCons (ta : TE3) (tr : TA3) : TA3 := fun τ M Q => ta τ M fun x M1 => tr τ M1 fun xs M2 => Q (x :: xs) M2
theorem a_nil : PA3 bs X [] wNil := pa_nil.weak fun σ H Q ⟨τ, M, Q3, e, m, q, k⟩ => k [] H [] M .refl m .nil q
theorem a_cons (ha : PE3 bs X a ta) (hr : PA3 bs X es t) (hs : starEach (a :: es) X.env = (false, eval a X.env) :: starEach es X.env := by rfl) : PA3 bs X (a :: es) (wCons ta t) := by
  refine PA.weak (pa_cons ha hr hs) ?_
  rintro σ H Q ⟨τ, M, Q3, e, m, q, k⟩
  refine ⟨τ, M, _, e, m, q, fun z H1 d M1 x1 m1 r1 q1 => ⟨τ, M1, _, e.go (x1.still m), m1, q1, fun zs H2 ds M2 x2 m2 r2 q2 => ?_⟩⟩
  exact k _ H2 _ M2 (x1.trans x2) m2 (.cons (r1.go (x2.still m1)) r2) q2
def wTup (t : TA3) : TE3 := fun τ M Q => t τ M fun xs M1 => xs.length ≤ sizeLine ∧ Q (.tup xs) M1
def wLst (t : TA3) : TE3 := fun τ M Q => t τ M fun xs M1 => xs.length ≤ sizeLine ∧ ∀ p, M1 p = none → Q (.ref p) (mset M1 p (.lst xs))
theorem e_tup {x1} (h : PA3 bs X es t) : PE3 bs X (.Tuple es x1 pos) (wTup t) := by
  refine PE.weak (pe_tup h) ?_
  rintro σ H Q ⟨τ, M, Q3, e, m, q, k⟩
  refine ⟨τ, M, _, e, m, q, fun zs H1 ds M1 x1 m1 r1 q1 => ⟨by rw [r1.length]; exact q1.1, fun p hp => ?_⟩⟩
  obtain ⟨x2, m2⟩ := m1.upNew (o := .tup zs) hp
  exact k _ _ (.tup ds) M1 (x1.trans x2) m2 (.tup (SqT.of upd_same) (r1.go (x2.still m1))) q1.2
theorem e_lst (h : PA3 bs X es t) : PE3 bs X (.List es pos) (wLst t) := by
  refine PE.weak (pe_lst h) ?_
  rintro σ H Q ⟨τ, M, Q3, e, m, q, k⟩
  refine ⟨τ, M, _, e, m, q, fun zs H1 ds M1 x1 m1 r1 q1 => ⟨by rw [r1.length]; exact q1.1, fun p hp => ?_⟩⟩
  obtain ⟨x2, m2⟩ := m1.newL hp r1
  exact k _ _ (.ref p) _ (x1.trans x2) m2 (.ref p) (q1.2 p (m1.free hp))
/-- a built-in's call by values -/
def wCB (r : List D → Mp → VK3 → Prop) (t : TA3) : TE3 := fun τ M Q => t τ M fun ds M1 => r ds M1 Q
theorem lift_cb {r : List D → Mp → VK3 → Prop} : ∀ σ H Q, lift X.K bs (wCB r t) σ H Q → tCB (liftV X.K bs r) (liftA X.K bs t) σ H Q := by
  rintro σ H Q ⟨τ, M, Q3, e, m, q, k⟩
  refine ⟨τ, M, _, e, m, q, fun zs H1 ds M1 x1 m1 r1 q1 => ?_⟩
  exact ⟨ds, M1, Q3, r1, m1, q1, fun v H' z M' x2 m2 r2 q2 => k v H' z M' (x1.trans x2) m2 r2 q2⟩
end
end L3
set_option Elab.async false
set_option linter.all false
set_option maxRecDepth 100000
set_option maxHeartbeats 4000000
namespace L3
open PySem PySem.Spec PyProof.Rows L2
/-- what is wanted behind a statement -/
structure Ends3 where
  nx : St3 → Mp → Prop
  rt : VK3
  bk : St3 → Mp → Prop := fun _ _ => False
  ct : St3 → Mp → Prop := fun _ _ => False
abbrev TS3 := Ends3 → St3 → Mp → Prop
abbrev TG3 := D → St3 → Mp → (St3 → Mp → Prop) → Prop
abbrev TGs3 := List D → St3 → Mp → (St3 → Mp → Prop) → Prop
/-- σ' is σ but at some places -/
def But (ix : List Nat) (σ σ' : L2.St) : Prop := σ'.length = σ.length ∧ ∀ i, i ∉ ix → σ'[i]? = σ[i]?
theorem But.refl {ix : List Nat} {σ : L2.St} : But ix σ σ := ⟨rfl, fun _ _ => rfl⟩
theorem But.trans {ix : List Nat} {σ σ1 σ2 : L2.St} (a : But ix σ σ1) (b : But ix σ1 σ2) : But ix σ σ2 := ⟨b.1.trans a.1, fun i h => (b.2 i h).trans (a.2 i h)⟩
theorem But.more {ix iy : List Nat} {σ σ1 : L2.St} (a : But ix σ σ1) (h : ∀ i ∈ ix, i ∈ iy) : But iy σ σ1 := ⟨a.1, fun i hi => a.2 i fun z => hi (h i z)⟩
theorem wipe_at (σ : L2.St) (i : Nat) : ∀ vs : List Nat, i ∈ vs → i < σ.length → (L2.wipe σ vs)[i]? = some none
  | [], h, _ => by simp at h
  | v :: vs, h, hl => by
    unfold L2.wipe
    by_cases e : v = i
    · subst e
      rw [List.getElem?_set_self (by rw [L2.wipe_length]; exact hl)]
    · rw [List.getElem?_set_ne e]
      rcases List.mem_cons.mp h with z | z
      · exact absurd z.symm e
      · exact wipe_at σ i vs z hl
theorem wipe_off (σ : L2.St) (i : Nat) (vs : List Nat) (h : i ∉ vs) : (L2.wipe σ vs)[i]? = σ[i]? := L2.wipe_out h
theorem But.wipe {ix vs : List Nat} {σ σ' : L2.St} (b : But ix σ σ') (h : ∀ i ∈ ix, i ∈ vs) : L2.wipe σ' vs = L2.wipe σ vs := by
  refine List.ext_getElem? fun i => ?_
  by_cases hi : i ∈ vs
  · by_cases hl : i < σ.length
    · rw [wipe_at σ i vs hi hl, wipe_at σ' i vs hi (by rw [b.1]; exact hl)]
    · rw [List.getElem?_eq_none (by rw [L2.wipe_length, b.1]; omega), List.getElem?_eq_none (by rw [L2.wipe_length]; omega)]
  · rw [wipe_off σ' i vs hi, wipe_off σ i vs hi]
    exact b.2 i fun z => hi (h i z)
theorem wipe_wipe (σ : L2.St) (vs : List Nat) : L2.wipe (L2.wipe σ vs) vs = L2.wipe σ vs := by
  refine List.ext_getElem? fun i => ?_
  by_cases hi : i ∈ vs
  · by_cases hl : i < σ.length
    · rw [wipe_at _ i vs hi (by rw [L2.wipe_length]; exact hl), wipe_at σ i vs hi hl]
    · rw [List.getElem?_eq_none (by rw [L2.wipe_length, L2.wipe_length]; omega), List.getElem?_eq_none (by rw [L2.wipe_length]; omega)]
  · rw [wipe_off _ i vs hi]
section
variable (K : PySem.W.Frag) (bs : BS)
def liftS (t : TS3) : TS := fun D σ H => ∃ τ M D3, RE K H σ τ ∧ RM K bs H M ∧ t D3 τ M ∧
  (∀ σ' τ' H' M', Ext M M' H H' → RE K H' σ' τ' → RM K bs H' M' → D3.nx τ' M' → D.nx σ' H') ∧
  (∀ v d H' M', Ext M M' H H' → RM K bs H' M' → RD K H' v d → D3.rt d M' → D.rt v H') ∧
  (∀ σ' τ' H' M', Ext M M' H H' → RE K H' σ' τ' → RM K bs H' M' → D3.bk τ' M' → D.bk σ' H') ∧
  (∀ σ' τ' H' M', Ext M M' H H' → RE K H' σ' τ' → RM K bs H' M' → D3.ct τ' M' → D.ct σ' H')
def liftG (ix : List Nat) (g : TG3) : TG := fun v σ H Q => ∃ d τ M Q3, RD K H v d ∧ RE K H σ τ ∧ RM K bs H M ∧ g d τ M Q3 ∧
  ∀ σ' τ' H' M', Ext M M' H H' → But ix σ σ' → RE K H' σ' τ' → RM K bs H' M' → Q3 τ' M' → Q σ' H'
def liftGs (ix : List Nat) (g : TGs3) : TGs := fun vs σ H Q => ∃ ds τ M Q3, RDs K H vs ds ∧ RE K H σ τ ∧ RM K bs H M ∧ g ds τ M Q3 ∧
  ∀ σ' τ' H' M', Ext M M' H H' → But ix σ σ' → RE K H' σ' τ' → RM K bs H' M' → Q3 τ' M' → Q σ' H'
end
def PS3 (bs : BS) (X : Cx) (st : Stmt) (t : TS3) : Prop := PS X st (liftS X.K bs t)
def PSs3 (bs : BS) (X : Cx) (st : List Stmt) (t : TS3) : Prop := PSs X st (liftS X.K bs t)
def PG3 (bs : BS) (X : Cx) (e : Expr) (ix : List Nat) (g : TG3) : Prop := PG X e (liftG X.K bs ix g)
def PGs3 (bs : BS) (X : Cx) (es : List Expr) (ix : List Nat) (g : TGs3) : Prop := PGs X es (liftGs X.K bs ix g)
section
variable {bs : BS} {X : Cx} {st : Stmt} {sts : List Stmt} {t u : TS3} {e : Expr} {te : TE3} {pos : Pos}
def wNext : TS3 := fun D τ M => D.nx τ M
def wSeq (t u : TS3) : TS3 := fun D τ M => t { D with nx := u D } τ M
theorem ss_nil : PSs3 bs X [] wNext := pss_nil.weak fun D σ H ⟨τ, M, D3, e, m, q, k, _⟩ => k σ τ H M .refl e m q
theorem ss_cons (h1 : PS3 bs X st t) (h2 : PSs3 bs X sts u) : PSs3 bs X (st :: sts) (wSeq t u) := by
  refine PSs.weak (pss_cons h1 h2) ?_
  rintro D σ H ⟨τ, M, D3, e, m, q, kn, kr, kb, kc⟩
  refine ⟨τ, M, _, e, m, q, fun σ' τ' H' M' x e1 m1 q1 => ⟨τ', M', D3, e1, m1, q1, ?_, ?_, ?_, ?_⟩, kr, kb, kc⟩
  · exact fun σ2 τ2 H2 M2 x2 => kn σ2 τ2 H2 M2 (x.trans x2)
  · exact fun v d H2 M2 x2 => kr v d H2 M2 (x.trans x2)
  · exact fun σ2 τ2 H2 M2 x2 => kb σ2 τ2 H2 M2 (x.trans x2)
  · exact fun σ2 τ2 H2 M2 x2 => kc σ2 τ2 H2 M2 (x.trans x2)
theorem ss_one (h1 : PS3 bs X st t) : PSs3 bs X [st] t := pss_one h1
def wBreak : TS3 := fun D τ M => D.bk τ M
def wCont : TS3 := fun D τ M => D.ct τ M
def wDrop (te : TE3) : TS3 := fun D τ M => te τ M fun _ M1 => D.nx τ M1
theorem s_expr (he : PE3 bs X e te) (hs : swapsWith e none pos.line X.env = pure false := by rfl) : PS3 bs X (.Expr e pos) (wDrop te) := by
  refine PS.weak (ps_expr he hs) ?_
  rintro D σ H ⟨τ, M, D3, e, m, q, kn, _⟩
  exact ⟨τ, M, _, e, m, q, fun v H' d M' x m1 r q1 => kn σ τ H' M' x (e.go (x.still m)) m1 q1⟩
def wRet (te : TE3) : TS3 := fun D τ M => te τ M D.rt
theorem s_ret (he : PE3 bs X e te) : PS3 bs X (.Return (some e) pos) (wRet te) := by
  refine PS.weak (ps_ret he) ?_
  rintro D σ H ⟨τ, M, D3, e, m, q, _, kr, _⟩
  exact ⟨τ, M, _, e, m, q, fun v H' d M' x m1 r q1 => kr v d H' M' x m1 r q1⟩
def wRetN : TS3 := fun D _ M => D.rt .non M
def wIfS (c : TT3) (t u : TS3) : TS3 := fun D τ M => c τ M fun b M1 => ite3 b (t D τ M1) (u D τ M1)
theorem s_if {c : Expr} {a b : List Stmt} {tc : TT3} (hc : PT3 bs X c tc) (ha : PSs3 bs X a t) (hb : PSs3 bs X b u) : PS3 bs X (.If c a b pos) (wIfS tc t u) := by
  refine PS.weak (ps_if hc ha hb) ?_
  rintro D σ H ⟨τ, M, D3, e, m, q, kn, kr, kb, kc⟩
  refine ⟨τ, M, _, e, m, q, fun z H1 M1 x m1 q1 => ?_⟩
  have L : ∀ t : TS3, t D3 τ M1 → liftS X.K bs t D σ H1 := fun t q => ⟨τ, M1, D3, e.go (x.still m), m1, q, fun σ2 τ2 H2 M2 x2 => kn σ2 τ2 H2 M2 (x.trans x2), fun v d H2 M2 x2 => kr v d H2 M2 (x.trans x2),
    fun σ2 τ2 H2 M2 x2 => kb σ2 τ2 H2 M2 (x.trans x2), fun σ2 τ2 H2 M2 x2 => kc σ2 τ2 H2 M2 (x.trans x2)⟩
  cases z with
  | true => exact iteT (L t q1)
  | false => exact iteF (L u q1)
def wSet (i : Nat) (te : TE3) : TS3 := fun D τ M => te τ M fun d M1 => D.nx (setS τ i (some d)) M1
theorem lift_set {i : Nat} : ∀ D σ H, liftS X.K bs (wSet i te) D σ H → tAsg (lift X.K bs te) (gName i) D σ H := by
  rintro D σ H ⟨τ, M, D3, e, m, q, kn, _⟩
  exact ⟨τ, M, _, e, m, q, fun v H' d M' x m1 r q1 => kn _ _ H' M' x ((e.go (x.still m)).set r) m1 q1⟩
theorem s_set {i : Nat} {x : Str} {pos' : Pos} (hN : X.N.Nodup) (hi : X.N[i]? = some x) (hx : Loc X.env.scope x) (he : PE3 bs X e te) (hs : swapsWith e (some (.Name x pos')) pos.line X.env = pure false := by rfl)
    (hf : X.fn x = true ∨ X.env.scope.names.lookup x = some .local := by first | exact .inl rfl | exact .inr rfl | assumption) : PS3 bs X (.Assign [.Name x pos'] e pos) (wSet i te) :=
  PS.weak (ps_set hN hi hx he hs hf) lift_set
def wgName (i : Nat) : TG3 := fun d τ M Q => Q (setS τ i (some d)) M
theorem g_name {i : Nat} {x : Str} (hN : X.N.Nodup) (hi : X.N[i]? = some x) (hx : Loc X.env.scope x) (hf : X.fn x = true ∨ X.env.scope.names.lookup x = some .local := by first | exact .inl rfl | exact .inr rfl | assumption) : PG3 bs X (.Name x pos) [i] (wgName i) := by
  refine PG.weak (pg_name hN hi hx hf) ?_
  rintro v σ H Q ⟨d, τ, M, Q3, r, e, m, q, k⟩
  exact k _ _ H M .refl ⟨List.length_set, fun j hj => List.getElem?_set_ne (fun z => hj (by simp [z]))⟩ (e.set r) m q
def wgNil : TGs3 := fun ds τ M Q => match ds with
  | [] => Q τ M
  | _ => False
def wgCons (t : TG3) (u : TGs3) : TGs3 := fun ds τ M Q => match ds with
  | d :: r => t d τ M fun τ' M' => u r τ' M' Q
  | [] => False
theorem gs_nil : PGs3 bs X [] [] wgNil := by
  refine PGs.weak pgs_nil ?_
  rintro vs σ H Q ⟨ds, τ, M, Q3, r, e, m, q, k⟩
  cases ds with
  | nil => cases r; exact ⟨rfl, k _ _ H M .refl .refl e m q⟩
  | cons _ _ => exact False.elim q
theorem gs_cons {g : Expr} {gs : List Expr} {ix iy : List Nat} {t : TG3} {u : TGs3} (h1 : PG3 bs X g ix t) (h2 : PGs3 bs X gs iy u)
    (hs : (assignEach (g :: gs) X.env).map (·.2) = assign g X.env :: (assignEach gs X.env).map (·.2) := by rfl) : PGs3 bs X (g :: gs) (ix ++ iy) (wgCons t u) := by
  refine PGs.weak (pgs_cons h1 h2 hs) ?_
  rintro vs σ H Q ⟨ds, τ, M, Q3, r, e, m, q, k⟩
  cases ds with
  | nil => exact False.elim q
  | cons d ds =>
    cases r with
    | cons r1 r2 =>
      refine ⟨_, _, rfl, d, τ, M, _, r1, e, m, q, fun σ1 τ1 H1 M1 x b e1 m1 q1 => ?_⟩
      exact ⟨ds, τ1, M1, Q3, r2.go (x.still m), e1, m1, q1, fun σ2 τ2 H2 M2 x2 b2 e2 m2 q2 =>
        k σ2 τ2 H2 M2 (x.trans x2) ((b.more fun i h => List.mem_append_left _ h).trans (b2.more fun i h => List.mem_append_right _ h)) e2 m2 q2⟩
/-- (a, b, ..) = a tuple; ds of that length is what t asks -/
theorem g_tup {es : List Expr} {k n : Nat} {ix : List Nat} {t : TGs3} (hc : X.calm = true) (h : PGs3 bs X es ix t)
    (hn : (assignEach es X.env).length = n := by rfl) (hst : (assignEach es X.env).findIdx? (·.1) = none := by rfl) : PG3 bs X (.Tuple es k pos) ix (fun d τ M Q => match d with
      | .tup ds => ds.length = n ∧ t ds τ M Q
      | _ => False) := by
  refine PG.weak (pg_tup hc h hn hst) ?_
  rintro v σ H Q ⟨d, τ, M, Q3, r, e, m, q, k⟩
  cases d with
  | tup ds =>
    cases r with
    | tup h1 h2 => exact ⟨_, _, rfl, h1, by rw [h2.length]; exact q.1, ds, τ, M, Q3, h2, e, m, q.2, k⟩
  | _ => exact False.elim q
/-- o[i] = v by values -/
abbrev TSet3 := D → D → D → Mp → (Mp → Prop) → Prop
def liftSet (K : PySem.W.Frag) (bs : BS) (t : TSet3) : TSet := fun o i v H Q => ∃ do_ di dv M Q3, RD K H o do_ ∧ RD K H i di ∧ RD K H v dv ∧ RM K bs H M ∧ t do_ di dv M Q3 ∧ ∀ H' M', Ext M M' H H' → RM K bs H' M' → Q3 M' → Q H'
theorem PSet.weak {t t' : TSet} (h : PSet X t) (i : ∀ o i v H Q, t' o i v H Q → t o i v H Q) : PSet X t' := fun pins s σ H o j v ov iv u Q I r1 r2 r3 q => h pins s σ H o j v ov iv u Q I r1 r2 r3 (i o j v H Q q)
def wgSub (to ti : TE3) (t : TSet3) : TG3 := fun d τ M Q => to τ M fun o M1 => ti τ M1 fun i M2 => t o i d M2 fun M3 => Q τ M3
theorem g_sub {o i : Expr} {to ti : TE3} {t : TSet3} (ho : PE3 bs X o to) (hi : PE3 bs X i ti) (hs : PSet X (liftSet X.K bs t))
    (ha : ∀ v, assign (.Subscript o i pos) X.env v = (do
      let ov ← holding [v] (eval o X.env)
      let iv ← holding [v, ov] (eval i X.env)
      standAt pos
      holding [v, ov, iv] (setItem ov iv v)
      release [v, ov, iv] []) := by intro _; rfl) : PG3 bs X (.Subscript o i pos) [] (wgSub to ti t) := by
  refine PG.weak (pg_sub ho hi hs ha) ?_
  rintro v σ H Q ⟨d, τ, M, Q3, r, e, m, q, k⟩
  refine ⟨τ, M, _, e, m, q, fun ov H1 od M1 x1 m1 r1 q1 => ⟨τ, M1, _, e.go (x1.still m), m1, q1, fun iv H2 id M2 x2 m2 r2 q2 => ?_⟩⟩
  exact ⟨od, id, d, M2, _, r1.go (x2.still m1), r2, (r.go (x1.still m)).go (x2.still m1), m2, q2, fun H3 M3 x3 m3 q3 =>
    k σ τ H3 M3 (x1.trans (x2.trans x3)) .refl (((e.go (x1.still m)).go (x2.still m1)).go (x3.still m2)) m3 q3⟩
def wAsg (te : TE3) (g : TG3) : TS3 := fun D τ M => te τ M fun d M1 => g d τ M1 D.nx
theorem s_asg {tg : Expr} {g : TG3} {ix : List Nat} (he : PE3 bs X e te) (hg : PG3 bs X tg ix g) (hs : swapsWithSole [tg] e pos.line X.env = pure false := by rfl) (hw : swappedStores [tg] e X.env = pure none := by rfl)
    (h1 : (assignEach [tg] X.env).map (·.2) = [assign tg X.env] := by rfl) : PS3 bs X (.Assign [tg] e pos) (wAsg te g) := by
  refine PS.weak (ps_asg he hg hs hw h1) ?_
  rintro D σ H ⟨τ, M, D3, e, m, q, kn, _⟩
  refine ⟨τ, M, _, e, m, q, fun v H1 d M1 x m1 r q1 => ?_⟩
  exact ⟨d, τ, M1, D3.nx, r, e.go (x.still m), m1, q1, fun σ2 τ2 H2 M2 x2 _ e2 m2 q2 => kn σ2 τ2 H2 M2 (x.trans x2) e2 m2 q2⟩
/-- a, b = x, y of plain local names -/
def wPar (i j : Nat) (ta : TA3) : TS3 := fun D τ M => ta τ M fun ds M1 => match ds with
  | [d, e] => D.nx (setS (setS τ i (some d)) j (some e)) M1
  | _ => False
theorem s_par {i j : Nat} {x y : Str} {a b : Expr} {ta : TA3} {px py pt : Pos} {kt k2 pt2} (hc : X.calm = true) (hN : X.N.Nodup) (hi : X.N[i]? = some x) (hj : X.N[j]? = some y) (hij : i ≠ j)
    (hx : X.env.scope.names.lookup x = some .local) (hy : X.env.scope.names.lookup y = some .local) (ha : PA3 bs X [a, b] ta)
    (hw : swappedStores [.Tuple [.Name x px, .Name y py] kt pt] (.Tuple [a, b] k2 pt2) X.env = pure (some [x, y]))
    (hs : swapsWithSole [.Tuple [.Name x px, .Name y py] kt pt] (.Tuple [a, b] k2 pt2) pos.line X.env = pure false := by rfl) :
    PS3 bs X (.Assign [.Tuple [.Name x px, .Name y py] kt pt] (.Tuple [a, b] k2 pt2) pos) (wPar i j ta) := by
  refine PS.weak (ps_par hc hN hi hj hij hx hy ha hw hs) ?_
  rintro D σ H ⟨τ, M, D3, e, m, q, kn, _⟩
  refine ⟨τ, M, _, e, m, q, fun vs H1 ds M1 x m1 r q1 => ?_⟩
  match ds, r, q1 with
  | [], _, q1 => exact False.elim q1
  | [_], _, q1 => exact False.elim q1
  | [d, e'], r, q1 =>
    cases r with
    | cons r1 r2 =>
      cases r2 with
      | cons r2 r3 =>
        cases r3
        exact ⟨_, _, rfl, kn _ _ H1 M1 x (((e.go (x.still m)).set r1).set r2) m1 q1⟩
  | _ :: _ :: _ :: _, _, q1 => exact False.elim q1
end
structure ItOk (K : PySem.W.Frag) (J : It) (P : Hp → Prop) (G : Mp → Prop) (ds : List D) : Prop where
  mono : ∀ M M' H H', RM0 K H M → Ext M M' H H' → P H → P H'
  stop : ∀ H M, RM0 K H M → P H → G M → J.stop ds.length H
  go : ∀ i d H M, RM0 K H M → P H → G M → ds[i]? = some d → J.go i H ∧ ∀ x H', J.yld i H x H' → Ext M M H H' ∧ RM0 K H' M ∧ RD K H' x d
abbrev TI3 := St3 → Mp → (List D → (Mp → Prop) → Mp → Prop) → Prop
def liftI (K : PySem.W.Frag) (bs : BS) (w : TI3) : TI := fun σ H R => ∃ τ M R3, RE K H σ τ ∧ RM K bs H M ∧ w τ M R3 ∧
  ∀ J P G ds H' M', Ext M M' H H' → RM K bs H' M' → ItOk K J P G ds → P H' → R3 ds G M' → R J H'
def PI3 (bs : BS) (X : Cx) (tg e : Expr) (w : TI3) : Prop := PI X tg e (liftI X.K bs w)
/-- a loop over ds -/
def forW (G : Mp → Prop) (g : TG3) (tb : TS3) (E : Ends3) : List D → St3 → Mp → Prop
  | [], τ, M => G M ∧ E.nx τ M
  | d :: r, τ, M => G M ∧ g d τ M fun τ2 M2 => tb { E with nx := forW G g tb E r, ct := forW G g tb E r, bk := E.nx } τ2 M2
def wFor (wi : TI3) (g : TG3) (tb : TS3) : TS3 := fun E τ M => wi τ M fun ds G M1 => forW G g tb E ds τ M1
section
variable {bs : BS} {X : Cx} {tg iter : Expr} {body : List Stmt} {wi : TI3} {g : TG3} {tb : TS3} {ix : List Nat} {pos : Pos}
theorem s_for (hp : PassesOwn (model X.prog X.w) X.A X.env X.xe) (hc : X.calm = true) (hi : PI3 bs X tg iter wi) (hg : PG3 bs X tg ix g) (hb : PSs3 bs X body tb)
    (hs : ∀ x, foldedSetIterable iter X.env x = pure x := by intro _; rfl) : PS3 bs X (.For tg iter body [] pos) (wFor wi g tb) := by
  refine PS.weak (ps_for hp hc hi hg hb hs) ?_
  rintro E σ H ⟨τ, M, D3, e, m, q, kn, kr, kb, kc⟩
  refine ⟨τ, M, _, e, m, q, fun J P G ds H1 M1 x1 m1 it p1 q1 => ?_⟩
  refine ⟨fun i mm σ' H' => mm = ds.length - i ∧ i ≤ ds.length ∧ P H' ∧ ∃ τ' M', RE X.K H' σ' τ' ∧ RM X.K bs H' M' ∧ Ext M M' H H' ∧ forW G g tb D3 (ds.drop i) τ' M', ?_, ?_⟩
  · exact ⟨ds.length, by simp, Nat.zero_le _, p1, τ, M1, e.go (x1.still m), m1, x1, by simpa using q1⟩
  · rintro i mm σ2 H2 ⟨rfl, hi', p2, τ2, M2, e2, m2, x2, q2⟩
    by_cases hlt : i < ds.length
    · right
      have hd : ds[i]? = some ds[i] := List.getElem?_eq_getElem hlt
      rw [List.drop_eq_getElem_cons hlt] at q2
      obtain ⟨g2, q2⟩ := q2
      obtain ⟨go, yl⟩ := it.go i ds[i] H2 M2 m2.m p2 g2 hd
      refine ⟨go, fun σ' H' => P H' ∧ ∃ τ' M', RE X.K H' σ' τ' ∧ RM X.K bs H' M' ∧ Ext M M' H H' ∧ forW G g tb D3 (ds.drop (i + 1)) τ' M', fun σ' H' h => ?_, fun x H3 y => ?_⟩
      · exact ⟨ds.length - (i + 1), by omega, rfl, hlt, h⟩
      · obtain ⟨x3, m30, r3⟩ := yl x H3 y
        have m3 := m2.to x3 m30
        have p3 := it.mono M2 M2 H2 H3 m2.m x3 p2
        refine ⟨ds[i], τ2, M2, _, r3, e2.go (x3.still m2), m3, q2, fun σ4 τ4 H4 M4 x4 b4 e4 m4 q4 => ?_⟩
        have p4 := it.mono M2 M4 H3 H4 m3.m x4 p3
        have x24 : Ext M M4 H H4 := x2.trans (x3.trans x4)
        refine ⟨τ4, M4, _, e4, m4, q4, fun σ5 τ5 H5 M5 x5 e5 m5 q5 => ?_, fun v d H5 M5 x5 m5 r5 q5 => kr v d H5 M5 (x24.trans x5) m5 r5 q5, fun σ5 τ5 H5 M5 x5 e5 m5 q5 => kn σ5 τ5 H5 M5 (x24.trans x5) e5 m5 q5, fun σ5 τ5 H5 M5 x5 e5 m5 q5 => ?_⟩
        · exact ⟨it.mono M4 M5 H4 H5 m4.m x5 p4, τ5, M5, e5, m5, x24.trans x5, q5⟩
        · exact ⟨it.mono M4 M5 H4 H5 m4.m x5 p4, τ5, M5, e5, m5, x24.trans x5, q5⟩
    · left
      have ei : i = ds.length := by omega
      subst ei
      rw [List.drop_length] at q2
      obtain ⟨g2, q2⟩ := q2
      exact ⟨it.stop H2 M2 m2.m p2 g2, kn σ2 τ2 H2 M2 x2 e2 m2 q2⟩
end
/-- the list that comes of ds, from τ with the block's names forgotten -/
def lcW (G : Mp → Prop) (g : TG3) (tt : TT3) (te : TE3) (τ : St3) (Q : List D → Mp → Prop) : List D → List D → Mp → Prop
  | [], acc, M => G M ∧ Q acc M
  | d :: r, acc, M => G M ∧ g d τ M fun τ2 M2 => tt τ2 M2 fun b M3 => ite3 b (te τ2 M3 fun y M4 => acc.length < sizeLine ∧ lcW G g tt te τ Q r (acc ++ [y]) M4) (lcW G g tt te τ Q r acc M3)
def wLcL (wi : TI3) (g : TG3) (tt : TT3) (te : TE3) (vs : List Nat) : St3 → Mp → (List D → Mp → Prop) → Prop := fun τ M Q => wi τ M fun ds G M1 => lcW G g tt te (wipe3 τ vs) Q ds [] M1
def wLc (wi : TI3) (g : TG3) (tt : TT3) (te : TE3) (vs : List Nat) : TE3 := fun τ M Q => wLcL wi g tt te vs τ M fun acc M2 => ∀ p, M2 p = none → Q (.ref p) (mset M2 p (.lst acc))
def PTs3 (bs : BS) (X : Cx) (ifs : List Expr) (t : TT3) : Prop := PTs X ifs (liftT X.K bs t)
def wYes : TT3 := fun _ M Q => Q true M
theorem ts_nil {bs : BS} {X : Cx} : PTs3 bs X [] wYes := ⟨fun pins s σ H Q I ⟨τ, M, Q3, e, m, q, k⟩ => pts_nil.run pins s σ H Q I (k true H M .refl m q)⟩
theorem ts_one {bs : BS} {X : Cx} {c : Expr} {t : TT3} (h : PT3 bs X c t) : PTs3 bs X [c] t := pts_one h
/-- a fresh list at p, not in M -/
structure Fresh (K : PySem.W.Frag) (H : Hp) (M : Mp) (p : Addr) (ds : List D) : Prop where
  free : M p = none
  lst : ∃ vs, H p = some (.lst vs) ∧ RDs K H vs ds
theorem Fresh.go {K : PySem.W.Frag} {H H' : Hp} {M M' : Mp} {p : Addr} {ds : List D} (f : Fresh K H M p ds) (m : RM0 K H M) (x : Ext M M' H H') : Fresh K H' M' p ds := by
  obtain ⟨vs, h, r⟩ := f.lst
  refine ⟨?_, vs, x.fr p _ h f.free, r.go (x.still0 m)⟩
  cases q : M' p with
  | none => rfl
  | some o =>
    rcases x.dom p (by rw [q]; exact fun z => nomatch z) with z | z
    · exact absurd f.free z
    · rw [h] at z; cases z
theorem Fresh.laid {K : PySem.W.Frag} {H : Hp} {M : Mp} {p : Addr} {vs : List V} {ds : List D} (m : RM0 K H M) (hp : H p = none) (r : RDs K H vs ds) : Fresh K (upd H p (.lst vs)) M p ds :=
  ⟨m.free hp, vs, upd_same, r.go ((m.upNew hp).1.still0 m)⟩
/-- it is written, M stays -/
theorem Fresh.put {K : PySem.W.Frag} {H : Hp} {M : Mp} {p : Addr} {ds ds' : List D} {vs : List V} (f : Fresh K H M p ds) (m : RM0 K H M) (r : RDs K H vs ds') : Still K H (upd H p (.lst vs)) ∧ RM0 K (upd H p (.lst vs)) M ∧ Fresh K (upd H p (.lst vs)) M p ds' := by
  obtain ⟨ws, h, _⟩ := f.lst
  have s : Still K H (upd H p (.lst vs)) := by
    refine ⟨fun a xs q => ?_, fun a xs q => ?_⟩
    · rcases q with (q | ⟨o, q⟩) | q
      · exact .inl (.inl (by rw [upd_ne (by intro z; subst z; rw [h] at q; cases q)]; exact q))
      · exact .inl (.inr ⟨o, by rw [upd_ne (by intro z; subst z; rw [h] at q; cases q)]; exact q⟩)
      · exact .inr q
    · rcases q with ⟨o, q⟩ | q
      · exact .inl ⟨o, by rw [upd_ne (by intro z; subst z; rw [h] at q; cases q)]; exact q⟩
      · exact .inr q
  refine ⟨s, fun a o q => (m a o q).go s fun u hu => ?_, f.free, vs, upd_same, r.go s⟩
  rw [upd_ne (ne_m q f.free)]; exact hu
/-- it comes into M -/
theorem Fresh.take {K : PySem.W.Frag} {H : Hp} {M' : Mp} {p : Addr} {ds : List D} (f : Fresh K H M' p ds) (m : RM0 K H M') : RM0 K H (mset M' p (.lst ds)) := by
  intro a o q
  by_cases e : a = p
  · subst e; rw [mset_same] at q; cases q; exact f.lst
  · rw [mset_ne e] at q; exact m a o q
/-- a step that leaves out p: from H (p fresh there) to H' with p's list otherwise -/
theorem ext_but {M M' : Mp} {H H1 : Hp} {p : Addr} (h0 : H p = none) (x : Ext M M' H H1) (o : HO) : Ext M M' H (upd H1 p o) :=
  ⟨fun a u ha hm => by rw [upd_ne (ne_of_none ha h0)]; exact x.fr a u ha hm, x.dom⟩
section
variable {bs : BS} {X : Cx} {elt tg iter : Expr} {ifs : List Expr} {scope : Scope} {own : List (Str × Nat)} {pos : Pos} {wi : TI3} {g : TG3} {tt : TT3} {te : TE3} {ix : List Nat}
theorem lift_lcL (hix : ∀ i ∈ ix, i ∈ own.map (·.2)) : ∀ σ H (Q : VK), (∃ τ M Q3, RE X.K H σ τ ∧ RM X.K bs H M ∧ wLcL wi g tt te (own.map (·.2)) τ M Q3 ∧
      ∀ D H' acc M', Ext M M' H H' → RM X.K bs H' M' → Fresh X.K H' M' D acc → (M D ≠ none ∨ H D = none) → Q3 acc M' → Q (.ref D) H') →
    tLc (liftI X.K bs wi) (liftG X.K bs ix g) (liftT X.K bs tt) (lift X.K bs te) (own.map (·.2)) σ H Q := by
  rintro σ H Q ⟨τ, M, Q3, e, m, q, k⟩
  refine ⟨τ, M, _, e, m, q, fun J P G ds H1 M1 x1 m1 it p1 q1 => ?_⟩
  intro L hL
  refine ⟨fun i mm H' => mm = ds.length - i ∧ i ≤ ds.length ∧ P H' ∧ ∃ M' acc, RM X.K bs H' M' ∧ Ext M1 M' H1 H' ∧ Fresh X.K H' M' L acc ∧ lcW G g tt te (wipe3 τ (own.map (·.2))) Q3 (ds.drop i) acc M', ?_, ?_⟩
  · obtain ⟨x2, m2⟩ := m1.upNew (o := .lst []) hL
    exact ⟨ds.length, by simp, Nat.zero_le _, it.mono M1 M1 H1 _ m1.m x2 p1, M1, [], m2, x2, Fresh.laid m1.m hL .nil, by simpa using q1⟩
  · rintro i mm H2 ⟨rfl, hi', p2, M2, acc, m2, x2, f2, q2⟩
    by_cases hlt : i < ds.length
    · right
      have hd : ds[i]? = some ds[i] := List.getElem?_eq_getElem hlt
      rw [List.drop_eq_getElem_cons hlt] at q2
      obtain ⟨g2, q2⟩ := q2
      obtain ⟨go, yl⟩ := it.go i ds[i] H2 M2 m2.m p2 g2 hd
      refine ⟨go, fun H' => P H' ∧ ∃ M' acc, RM X.K bs H' M' ∧ Ext M1 M' H1 H' ∧ Fresh X.K H' M' L acc ∧ lcW G g tt te (wipe3 τ (own.map (·.2))) Q3 (ds.drop (i + 1)) acc M', fun H' h => ⟨ds.length - (i + 1), by omega, rfl, hlt, h⟩, fun x H3 y => ?_⟩
      obtain ⟨x3, m30, r3⟩ := yl x H3 y
      have m3 := m2.to x3 m30
      have p3 := it.mono M2 M2 H2 H3 m2.m x3 p2
      have f3 := f2.go m2.m x3
      have x13 := x2.trans x3
      have e3 : RE X.K H3 (L2.wipe σ (own.map (·.2))) (wipe3 τ (own.map (·.2))) := (e.go ((x1.still m).trans (x13.still m1))).wipe _
      refine ⟨ds[i], _, M2, _, r3, e3, m3, q2, fun σ4 τ4 H4 M4 x4 b4 e4 m4 q4 => ⟨(b4.wipe hix).trans (wipe_wipe _ _), ?_⟩⟩
      have p4 := it.mono M2 M4 H3 H4 m3.m x4 p3
      have f4 := f3.go m3.m x4
      have x14 := x13.trans x4
      refine ⟨τ4, M4, _, e4, m4, q4, fun b H5 M5 x5 m5 q5 => ?_⟩
      have p5 := it.mono M4 M5 H4 H5 m4.m x5 p4
      have f5 := f4.go m4.m x5
      have x15 := x14.trans x5
      cases b with
      | false => exact iteF ⟨p5, M5, acc, m5, x15, f5, q5⟩
      | true =>
        refine iteT ⟨τ4, M5, _, e4.go (x5.still m4), m5, q5, fun z H6 dz M6 x6 m6 r6 q6 => ?_⟩
        have f6 := f5.go m5.m x6
        have x16 := x15.trans x6
        obtain ⟨vs, hv, rv⟩ := f6.lst
        obtain ⟨s7, m7, f7⟩ := f6.put (vs := vs ++ [z]) m6.m (rv.app (.cons r6 .nil))
        have x17 : Ext M1 M6 H1 (upd H6 L (.lst (vs ++ [z]))) := ext_but hL x16 _
        have m7 := m1.to x17 m7
        refine ⟨vs, hv, by rw [rv.length]; exact q6.1, it.mono M1 M6 H1 _ m1.m x17 p1, M6, acc ++ [dz], m7, x17, f7, q6.2⟩
    · left
      have ei : i = ds.length := by omega
      subst ei
      rw [List.drop_length] at q2
      obtain ⟨g2, q2⟩ := q2
      refine ⟨it.stop H2 M2 m2.m p2 g2, k L H2 acc M2 (x1.trans x2) m2 f2 ?_ q2⟩
      cases z : H L with
      | none => exact .inr rfl
      | some o =>
        left
        intro zm
        rw [x1.fr L o z zm] at hL; cases hL
/-- as a value -/
theorem lift_lc (hix : ∀ i ∈ ix, i ∈ own.map (·.2)) : ∀ σ H (Q : VK), lift X.K bs (wLc wi g tt te (own.map (·.2))) σ H Q → tLc (liftI X.K bs wi) (liftG X.K bs ix g) (liftT X.K bs tt) (lift X.K bs te) (own.map (·.2)) σ H Q := by
  rintro σ H Q ⟨τ, M, Q3, e, m, q, k⟩
  refine lift_lcL hix σ H Q ⟨τ, M, _, e, m, q, fun L H' acc M' x m' f z q' => ?_⟩
  have y : Ext M (mset M' L (.lst acc)) H H' := ⟨x.fr, fun a h => by
    by_cases ea : a = L
    · subst ea; exact z
    · rw [mset_ne ea] at h; exact x.dom a h⟩
  exact k (.ref L) H' (.ref L) (mset M' L (.lst acc)) y (m.to y (f.take m'.m)) (.ref L) (q' L f.free)
/-- given to a name -/
theorem s_setLc (hix : ∀ i ∈ ix, i ∈ own.map (·.2)) {i : Nat} {y : Str} {py spos : Pos} (hc : X.calm = true) (hN : X.N.Nodup) (hy : X.N[i]? = some y) (hyl : X.env.scope.names.lookup y = some .local)
    (hsw : swapsWith (.ListComp elt [⟨tg, iter, ifs, 0⟩] scope pos) (some (.Name y py)) spos.line X.env = pure true) (hi : PI3 bs X tg iter wi) (ok : BlkOk X.N X.env.scope scope own)
    (hg : ∀ (s : Shared) (H : Hp) (C : Addr) (cl : List (Str × Addr)) (fp : List Addr), PG3 bs (X.blk s H scope (compEnvC scope cl C X.env) fp) tg ix g)
    (ht : ∀ (s : Shared) (H : Hp) (C : Addr) (cl : List (Str × Addr)) (fp : List Addr), PTs3 bs (X.blk s H scope (compEnvC scope cl C X.env) fp) ifs tt)
    (he : ∀ (s : Shared) (H : Hp) (C : Addr) (cl : List (Str × Addr)) (fp : List Addr), PE3 bs (X.blk s H scope (compEnvC scope cl C X.env) fp) elt te) (hs : ∀ x, foldedSetIterable iter X.env x = pure x := by intro _; rfl) :
    PS3 bs X (.Assign [.Name y py] (.ListComp elt [⟨tg, iter, ifs, 0⟩] scope pos) spos) (wSet i (wLc wi g tt te (own.map (·.2)))) := by
  refine PS.weak (ps_setLc (g := liftG X.K bs ix g) (tt := liftT X.K bs tt) (te := lift X.K bs te) hc hN hy hyl hsw hi ok hg ht he hs) ?_
  rintro D σ H ⟨τ, M, D3, e, m, q, kn, _⟩
  refine lift_lc hix σ H _ ⟨τ, M, _, e, m, q, fun v H' d M' x m1 r q1 => ?_⟩
  exact kn _ _ H' M' x ((e.go (x.still m)).set r) m1 q1
end
end L3
set_option Elab.async false
set_option linter.all false
set_option maxRecDepth 100000
set_option maxHeartbeats 4000000
namespace L3
open PySem PySem.Spec PyProof.Rows L2
section
variable {bs : BS} {X : Cx}
/-- from a rule by values to a rule by data -/
theorem op3 {f : Value → Value → Sem Value} {r : R23} (h : ∀ (d e : D) (x y : V) (H : Hp) (M : Mp) (Q : VK) (Q3 : VK3), RD X.K H x d → RD X.K H y e → RM X.K bs H M → r d e M Q3 →
    (∀ v H' z M', Ext M M' H H' → RM X.K bs H' M' → RD X.K H' v z → Q3 z M' → Q v H') → ∃ r2 : R2, OpR X f r2 ∧ r2 x y H Q) : OpR X f (lift2 X.K bs r) := by
  rintro pins s σ H x y v u Q I rx ry ⟨d, e, M, Q3, r1, r2, m, q, k⟩
  obtain ⟨rr, ho, hq⟩ := h d e x y H M Q Q3 r1 r2 m q k
  exact ho pins s σ H x y v u Q I rx ry hq
theorem call3 {f : Value} {r : List D → Mp → VK3 → Prop} (h : ∀ (ds : List D) (xs : List V) (H : Hp) (M : Mp) (Q : VK) (Q3 : VK3), RDs X.K H xs ds → RM X.K bs H M → r ds M Q3 →
    (∀ v H' z M', Ext M M' H H' → RM X.K bs H' M' → RD X.K H' v z → Q3 z M' → Q v H') → ∃ r2 : List V → Hp → VK → Prop, CallR X f r2 ∧ r2 xs H Q) : CallR X f (liftV X.K bs r) := by
  rintro pins s σ H xs us Q I rx ⟨ds, M, Q3, r1, m, q, k⟩
  obtain ⟨rr, ho, hq⟩ := h ds xs H M Q Q3 r1 m q k
  exact ho pins s σ H xs us Q I rx hq
def oAdd : R23 := fun d e M Q => match d, e with
  | .int i, .int j => Q (.int (i + j)) M
  | .str x, .str y => x.length + y.length ≤ sizeLine ∧ Q (.str (x ++ y)) M
  | .tup xs, .tup ys => xs.length + ys.length ≤ sizeLine ∧ Q (.tup (xs ++ ys)) M
  | .ref a, .ref b => match M a, M b with
    | some (.lst xs), some (.lst ys) => xs.length + ys.length ≤ sizeLine ∧ ∀ p, M p = none → Q (.ref p) (mset M p (.lst (xs ++ ys)))
    | _, _ => False
  | _, _ => False
theorem o_add : OpR X (binaryOp .Add) (lift2 X.K bs oAdd) := op3 fun d e x y H M Q Q3 r1 r2 m q k => by
  cases d with
  | int i =>
    cases e with
    | int j => cases r1; cases r2; exact ⟨_, op_add, _, _, rfl, rfl, k _ _ _ M .refl m (.int _) q⟩
    | _ => exact False.elim q
  | str i =>
    cases e with
    | str j => cases r1; cases r2; exact ⟨_, op_add_str, _, _, rfl, rfl, q.1, k _ _ _ M .refl m (.str _) q.2⟩
    | _ => exact False.elim q
  | tup xs =>
    cases e with
    | tup ys =>
      cases r1 with
      | tup h1 l1 =>
        cases r2 with
        | tup h2 l2 =>
          refine ⟨_, op_catA, _, _, _, _, rfl, rfl, h1, h2, by rw [l1.length, l2.length]; exact q.1, fun e => ?_, fun _ e => ?_, fun _ _ p hp => ?_⟩
          · subst e; cases l1; exact k _ _ _ M .refl m (.tup h2 l2) q.2
          · subst e; cases l2
            have q' : xs.length + 0 ≤ sizeLine ∧ Q3 (.tup (xs ++ [])) M := q
            rw [List.append_nil] at q'
            exact k _ _ _ M .refl m (.tup h1 l1) q'.2
          · obtain ⟨x2, m2⟩ := m.upNew (o := .tup _) hp
            exact k _ _ _ M x2 m2 (.tup (SqT.of upd_same) ((l1.app l2).go (x2.still m))) q.2
    | _ => exact False.elim q
  | ref a =>
    cases e with
    | ref b =>
      cases r1; cases r2
      simp only [oAdd] at q
      split at q
      · rename_i xs ys ha hb
        obtain ⟨vs, hv, l1⟩ := m.at ha
        obtain ⟨ws, hw, l2⟩ := m.at hb
        refine ⟨_, op_cat, _, _, _, _, rfl, rfl, hv, hw, by rw [l1.length, l2.length]; exact q.1, fun p hp => ?_⟩
        obtain ⟨x2, m2⟩ := m.newL hp (l1.app l2)
        exact k _ _ _ _ x2 m2 (.ref p) (q.2 p (m.free hp))
      · exact False.elim q
    | _ => exact False.elim q
  | _ => cases e <;> exact False.elim q
def oInt (C : Int → Int → Prop) (g : Int → Int → Int) : R23 := fun d e M Q => asI d fun i => asI e fun j => C i j ∧ Q (.int (g i j)) M
theorem o_int {f : Value → Value → Sem Value} {C : Int → Int → Prop} {g : Int → Int → Int} (h : OpR X f (rI C fun i j => .int (g i j))) : OpR X f (lift2 X.K bs (oInt C g)) := op3 fun d e x y H M Q Q3 r1 r2 m q k => by
  cases d with
  | int i =>
    cases e with
    | int j => cases r1; cases r2; exact ⟨_, h, _, _, rfl, rfl, q.1, k _ _ _ M .refl m (.int _) q.2⟩
    | _ => exact False.elim q
  | _ => cases e <;> exact False.elim q
def oSub : R23 := fun d e M Q => asI d fun i => asI e fun j => Q (.int (i - j)) M
theorem o_sub : OpR X (binaryOp .Sub) (lift2 X.K bs oSub) := op3 fun d e x y H M Q Q3 r1 r2 m q k => by
  cases d with
  | int i =>
    cases e with
    | int j => cases r1; cases r2; exact ⟨_, op_sub, _, _, rfl, rfl, k _ _ _ M .refl m (.int _) q⟩
    | _ => exact False.elim q
  | _ => cases e <;> exact False.elim q
/-- // by a positive divisor below 2 ^ 9000, or by a small one of any sign -/
def CFd (i j : Int) : Prop := j ≠ 0 ∧ j.natAbs.log2 < 9000
theorem op_fd : OpR X (binaryOp .FloorDiv) (rI CFd fun i j => .int (i.fdiv j)) := opI fun i j _ _ _ _ _ hc q => floordiv_int hc.1 q (.inl (PyProof.noPylong_of_log2 hc.2))
theorem op_ml : OpR X (binaryOp .Mult) (rI IntMulOk fun i j => .int (i * j)) := opI fun _ _ _ _ _ _ _ hc q => mul_int q hc
def oFd : R23 := oInt CFd fun i j => i.fdiv j
def oMd : R23 := oInt (fun _ j => j ≠ 0) fun i j => i.fmod j
def oPw : R23 := oInt CPow fun i j => i ^ j.toNat
def oShl : R23 := oInt CPow fun i j => i * 2 ^ j.toNat
theorem o_fd : OpR X (binaryOp .FloorDiv) (lift2 X.K bs oFd) := o_int op_fd
theorem o_md : OpR X (binaryOp .Mod) (lift2 X.K bs oMd) := o_int op_modN
theorem o_pw : OpR X (binaryOp .Pow) (lift2 X.K bs oPw) := o_int op_pow
def oMul : R23 := fun d e M Q => match d, e with
  | .int i, .int j => IntMulOk i j ∧ Q (.int (i * j)) M
  | .ref a, .int k => match M a with
    | some (.lst xs) => (-(2 ^ 63) ≤ k ∧ k < 2 ^ 63 ∧ xs.length * k.toNat ≤ sizeLine) ∧ ∀ p, M p = none → Q (.ref p) (mset M p (.lst (List.replicate k.toNat xs).flatten))
    | _ => False
  | _, _ => False
theorem RDs.rep {K : PySem.W.Frag} {H : Hp} {vs : List V} {ds : List D} (h : RDs K H vs ds) : ∀ k : Nat, RDs K H (List.replicate k vs).flatten (List.replicate k ds).flatten
  | 0 => .nil
  | k + 1 => by
    rw [List.replicate_succ, List.replicate_succ, List.flatten_cons, List.flatten_cons]
    exact h.app (RDs.rep h k)
theorem o_mul : OpR X (binaryOp .Mult) (lift2 X.K bs oMul) := op3 fun d e x y H M Q Q3 r1 r2 m q k => by
  cases d with
  | int i =>
    cases e with
    | int j => cases r1; cases r2; exact ⟨_, op_ml, _, _, rfl, rfl, q.1, k _ _ _ M .refl m (.int _) q.2⟩
    | _ => exact False.elim q
  | ref a =>
    cases e with
    | int j =>
      cases r1; cases r2
      simp only [oMul] at q
      split at q
      · rename_i xs ha
        obtain ⟨vs, hv, l1⟩ := m.at ha
        refine ⟨_, op_rep, _, _, _, rfl, rfl, hv, q.1.1, q.1.2.1, by rw [l1.length]; exact q.1.2.2, fun p hp => ?_⟩
        obtain ⟨x2, m2⟩ := m.newL hp (l1.rep j.toNat)
        exact k _ _ _ _ x2 m2 (.ref p) (q.2 p (m.free hp))
      · exact False.elim q
    | _ => exact False.elim q
  | _ => cases e <;> exact False.elim q
def oNeg : D → Mp → VK3 → Prop := fun d M Q => asI d fun i => Q (.int (-i)) M
def wUn (r : D → Mp → VK3 → Prop) (ta : TE3) : TE3 := fun τ M Q => ta τ M fun x M1 => r x M1 Q
theorem e_neg {a : Expr} {ta : TE3} {pos : Pos} (ha : PE3 bs X a ta) : PE3 bs X (.UnaryOp .USub a pos) (wUn oNeg ta) := by
  refine PE.weak (pe_un un_neg ha) ?_
  rintro σ H Q ⟨τ, M, Q3, e, m, q, k⟩
  refine ⟨τ, M, _, e, m, q, fun x H1 d M1 x1 m1 r1 q1 => ?_⟩
  cases d with
  | int i => cases r1; exact ⟨i, rfl, k _ H1 _ M1 x1 m1 (.int _) q1⟩
  | _ => exact False.elim q1
def oCmp (p : Int → Int → Bool) : R23 := fun d e M Q => asI d fun i => asI e fun j => Q (.bl (p i j)) M
theorem o_cmp {f : Value → Value → Sem Value} {p : Int → Int → Bool} (h : OpR X f (rI0 fun i j => .bl (p i j))) : OpR X f (lift2 X.K bs (oCmp p)) := op3 fun d e x y H M Q Q3 r1 r2 m q k => by
  cases d with
  | int i =>
    cases e with
    | int j => cases r1; cases r2; exact ⟨_, h, _, _, rfl, rfl, k _ _ _ M .refl m (.bl _) q⟩
    | _ => exact False.elim q
  | _ => cases e <;> exact False.elim q
def oLt : R23 := oCmp fun i j => decide (i < j)
def oLe : R23 := oCmp fun i j => decide (i ≤ j)
def oGt : R23 := oCmp fun i j => decide (j < i)
def oGe : R23 := oCmp fun i j => decide (j ≤ i)
theorem o_lt : OpR X (compareOp .Lt) (lift2 X.K bs oLt) := o_cmp op_lt
theorem o_le : OpR X (compareOp .LtE) (lift2 X.K bs oLe) := o_cmp op_le
theorem o_gt : OpR X (compareOp .Gt) (lift2 X.K bs oGt) := o_cmp op_gt
theorem o_ge : OpR X (compareOp .GtE) (lift2 X.K bs oGe) := o_cmp op_ge
/-- is None -/
def isN : D → Bool
  | .non => true
  | _ => false
def oIsN (neg : Bool) : R23 := fun d e M Q => match e with
  | .non => Q (.bl (if neg then !isN d else isN d)) M
  | _ => False
theorem isN_of {K : PySem.W.Frag} {H : Hp} {v : V} {d : D} (r : RD K H v d) : decide (v = .non) = isN d := by
  cases r <;> simp [isN]
theorem o_is : OpR X (compareOp .Is) (lift2 X.K bs (oIsN false)) := op3 fun d e x y H M Q Q3 r1 r2 m q k => by
  cases e with
  | non => cases r2; exact ⟨_, op_isN, rfl, k _ _ _ M .refl m (.bl _) (by rw [isN_of r1]; exact q)⟩
  | _ => exact False.elim q
theorem o_isnot : OpR X (compareOp .IsNot) (lift2 X.K bs (oIsN true)) := op3 fun d e x y H M Q Q3 r1 r2 m q k => by
  cases e with
  | non => cases r2; exact ⟨_, op_notN, rfl, k _ _ _ M .refl m (.bl _) (by rw [isN_of r1]; exact q)⟩
  | _ => exact False.elim q
mutual
def pdOf : D → PyData
  | .non => .none
  | .bl b => .bool b
  | .int i => .int i
  | .str x => .str x
  | .tup xs => .tuple (pdsOf xs)
  | .rol xs => .list (pdsOf xs)
  | .ref _ => .none
  | .ty _ => .none
def pdsOf : List D → List PyData
  | [] => []
  | d :: ds => pdOf d :: pdsOf ds
end
mutual
/-- no addresses within, texts that are texts -/
def plain : D → Bool
  | .non => true
  | .bl _ => true
  | .int _ => true
  | .str x => PyData.strOk x
  | .tup xs => plains xs
  | .rol xs => plains xs
  | .ref _ => false
  | .ty _ => false
def plains : List D → Bool
  | [] => true
  | d :: ds => plain d && plains ds
end
mutual
def deep : D → Nat
  | .tup xs => deeps xs + 1
  | .rol xs => deeps xs + 1
  | _ => 0
def deeps : List D → Nat
  | [] => 0
  | d :: ds => max (deep d) (deeps ds)
end
mutual
theorem depth_pd : ∀ d : D, (pdOf d).depth = deep d
  | .non => by simp [pdOf, deep, PyData.depth]
  | .bl _ => by simp [pdOf, deep, PyData.depth]
  | .int _ => by simp [pdOf, deep, PyData.depth]
  | .str _ => by simp [pdOf, deep, PyData.depth]
  | .ref _ => by simp [pdOf, deep, PyData.depth]
  | .ty _ => by simp [pdOf, deep, PyData.depth]
  | .tup xs => by simp [pdOf, deep, PyData.depth, depth_pds xs]
  | .rol xs => by simp [pdOf, deep, PyData.depth, depth_pds xs]
theorem depth_pds : ∀ ds : List D, PyData.depthAll (pdsOf ds) = deeps ds
  | [] => by simp [pdsOf, deeps, PyData.depthAll]
  | d :: ds => by simp [pdsOf, deeps, PyData.depthAll, depth_pd d, depth_pds ds]
end
mutual
theorem canLay_pd : ∀ d : D, plain d = true → (pdOf d).canLay0 = true
  | .non, _ => by simp [pdOf, PyData.canLay0]
  | .bl _, _ => by simp [pdOf, PyData.canLay0]
  | .int _, _ => by simp [pdOf, PyData.canLay0]
  | .str _, h => by simpa [pdOf, PyData.canLay0, plain] using h
  | .ref _, h => by simp [plain] at h
  | .ty _, h => by simp [plain] at h
  | .tup xs, h => by simpa [pdOf, PyData.canLay0] using canLay_pds xs (by simpa [plain] using h)
  | .rol xs, h => by simpa [pdOf, PyData.canLay0] using canLay_pds xs (by simpa [plain] using h)
theorem canLay_pds : ∀ ds : List D, plains ds = true → PyData.canLayAll0 (pdsOf ds) = true
  | [], _ => by simp [pdsOf, PyData.canLayAll0]
  | d :: ds, h => by
    have h' : plain d = true ∧ plains ds = true := by simpa [plains] using h
    simp [pdsOf, PyData.canLayAll0, canLay_pd d h'.1, canLay_pds ds h'.2]
end
mutual
theorem dp_of {K : PySem.W.Frag} {H : Hp} : ∀ (d : D) (v : V), plain d = true → RD K H v d → Dp K H v (pdOf d)
  | .non, _, _, r => by cases r; simp only [pdOf]; exact .non
  | .bl b, _, _, r => by cases r; simp only [pdOf]; exact .bl b
  | .int i, _, _, r => by cases r; simp only [pdOf]; exact .int i
  | .str x, _, _, r => by cases r; simp only [pdOf]; exact .str x
  | .ref _, _, h, _ => by simp [plain] at h
  | .ty _, _, h, _ => by simp [plain] at h
  | .tup xs, _, h, r => by
    cases r with
    | tup h1 h2 => simp only [pdOf]; exact .tup h1 (dps_of xs _ (by simpa [plain] using h) h2)
  | .rol xs, _, h, r => by
    cases r with
    | rol h1 h2 => simp only [pdOf]; exact .lst h1.sq (dps_of xs _ (by simpa [plain] using h) h2)
theorem dps_of {K : PySem.W.Frag} {H : Hp} : ∀ (ds : List D) (vs : List V), plains ds = true → RDs K H vs ds → DpAll K H vs (pdsOf ds)
  | [], _, _, r => by cases r; simp only [pdsOf]; exact .nil
  | d :: ds, _, h, r => by
    have h' : plain d = true ∧ plains ds = true := by simpa [plains] using h
    cases r with
    | cons r1 r2 => simp only [pdsOf]; exact .cons (dp_of d _ h'.1 r1) (dps_of ds _ h'.2 r2)
end
/-- a list at an address as a list of data -/
def top (M : Mp) : D → D
  | .ref a => match M a with
    | some (.lst ds) => .rol ds
    | _ => .ref a
  | d => d
theorem dp_top {K : PySem.W.Frag} {H : Hp} {M : Mp} {v : V} {d : D} (m : RM0 K H M) (r : RD K H v d) (h : plain (top M d) = true) : Dp K H v (pdOf (top M d)) := by
  cases d with
  | ref a =>
    cases r
    simp only [top] at h ⊢
    split at h
    · rename_i ds ha
      obtain ⟨vs, hv, l⟩ := m a _ ha
      simp only [ha, pdOf]
      exact .lst (SqL.of hv) (dps_of ds vs (by simpa [plain] using h) l)
    · simp [plain] at h
  | _ => exact dp_of _ v h r
/-- data that == and repr take -/
structure Pl (d : D) : Prop where
  p : plain d = true
  d : deep d ≤ 64
def eqD (d e : D) : Bool := PyData.eqv (pdOf d) (pdOf e)
def eqP (neg : Bool) (d e : D) (Q : D → Prop) : Prop := Pl d ∧ Pl e ∧ Q (.bl (if neg then !eqD d e else eqD d e))
def oEq (neg : Bool) : R23 := fun d e M Q => match d with
  | .str x => match e with
    | .str y => Q (.bl (if neg then !decide (x = y) else decide (x = y))) M
    | e => eqP neg (.str x) (top M e) fun z => Q z M
  | d => eqP neg (top M d) (top M e) fun z => Q z M
theorem shaped_pl {d : D} (h : Pl d) : SeqAt.shaped (pdOf d) = true := by
  unfold SeqAt.shaped
  rw [canLay_pd d h.p, depth_pd, decide_eq_true h.d]
  rfl
theorem o_eqG {neg : Bool} {f : Value → Value → Sem Value} {r1 r2 : R2} (h1 : OpR X f r1) (h2 : OpR X f r2)
    (g1 : ∀ x y : V, ∀ H Q, scal x y = true → Q (V.bl (if neg then !decide (x = y) else decide (x = y))) H → r1 x y H Q)
    (g2 : ∀ (x y : V) H (Q : VK) (d e : PyData), Dp X.K H x d → Dp X.K H y e → SeqAt.shaped d = true → SeqAt.shaped e = true → Q (.bl (if neg then !PyData.eqv d e else PyData.eqv d e)) H → r2 x y H Q) : OpR X f (lift2 X.K bs (oEq neg)) := op3 fun d e x y H M Q Q3 w1 w2 m q k => by
  have gen : ∀ d e, RD X.K H x d → RD X.K H y e → eqP neg (top M d) (top M e) (fun z => Q3 z M) → ∃ r, OpR X f r ∧ r x y H Q := fun d e w1 w2 q =>
    ⟨_, h2, g2 _ _ _ _ _ _ (dp_top m.m w1 q.1.p) (dp_top m.m w2 q.2.1.p) (shaped_pl q.1) (shaped_pl q.2.1) (k _ _ _ M .refl m (.bl _) q.2.2)⟩
  cases d with
  | str a =>
    cases e with
    | str b =>
      cases w1; cases w2
      refine ⟨_, h1, g1 _ _ _ _ rfl (k _ _ _ M .refl m (.bl _) ?_)⟩
      have e : decide (V.str a = V.str b) = decide (a = b) := by
        rw [Bool.eq_iff_iff]; simp
      rw [e]
      exact q
    | _ => exact gen _ _ w1 w2 q
  | _ => exact gen _ _ w1 w2 q
theorem o_eq (hu : X.A.units + 64 < cLine) : OpR X (compareOp .Eq) (lift2 X.K bs (oEq false)) := o_eqG op_eq (op_eqD hu) (fun _ _ _ _ hs q => ⟨hs, q⟩) fun _ _ _ _ _ _ a b c d q => ⟨_, _, a, b, c, d, q⟩
theorem o_ne (hu : X.A.units + 64 < cLine) : OpR X (compareOp .NotEq) (lift2 X.K bs (oEq true)) := o_eqG op_ne (op_neD hu) (fun _ _ _ _ hs q => ⟨hs, q⟩) fun _ _ _ _ _ _ a b c d q => ⟨_, _, a, b, c, d, q⟩
def flat : D → Bool
  | .non => true
  | .bl _ => true
  | .int _ => true
  | .str _ => true
  | _ => false
def eqF : D → D → Bool
  | .non, .non => true
  | .bl a, .bl b => a == b
  | .bl a, .int b => (if a then 1 else 0) == b
  | .int a, .bl b => a == (if b then 1 else 0)
  | .int a, .int b => a == b
  | .str a, .str b => a == b
  | _, _ => false
theorem flat_of {K : PySem.W.Frag} {H : Hp} {v : V} {d : D} (r : RD K H v d) (h : flat d = true) : flatV v = true := by
  cases r <;> first | rfl | simp [flat] at h
theorem eqF_of {K : PySem.W.Frag} {H : Hp} {v w : V} {d e : D} (r : RD K H v d) (r2 : RD K H w e) (h : flat d = true) (h2 : flat e = true) : eqV v w = eqF d e := by
  cases r <;> first
    | (simp [flat] at h; done)
    | (cases r2 <;> first | rfl | (simp [flat] at h2; done))
theorem flats_of {K : PySem.W.Frag} {H : Hp} : ∀ {vs : List V} {ds : List D}, RDs K H vs ds → ds.all flat = true → vs.all flatV = true
  | _, _, .nil, _ => rfl
  | _, _, .cons r t, h => by
    rw [List.all_cons, Bool.and_eq_true] at h
    rw [List.all_cons, flat_of r h.1, flats_of t h.2]; rfl
theorem any_of {K : PySem.W.Frag} {H : Hp} {w : V} {e : D} (rw_ : RD K H w e) (he : flat e = true) : ∀ {vs : List V} {ds : List D}, RDs K H vs ds → ds.all flat = true → (vs.any fun y => eqV y w) = ds.any fun y => eqF y e
  | _, _, .nil, _ => rfl
  | _, _, .cons r t, h => by
    rw [List.all_cons, Bool.and_eq_true] at h
    rw [List.any_cons, List.any_cons, eqF_of r rw_ h.1 he, any_of rw_ he t h.2]
/-- the items of a tuple, a list -/
def lstOf : Option MO → Option (List D)
  | some (.lst ds) => some ds
  | _ => none
def items (M : Mp) : D → Option (List D)
  | .tup ds => some ds
  | .rol ds => some ds
  | .ref a => lstOf (M a)
  | _ => none
def asL (o : Option (List D)) (k : List D → Prop) : Prop := match o with
  | some ds => k ds
  | none => False
theorem asL_some {ds : List D} {k : List D → Prop} : asL (some ds) k = k ds := rfl
theorem lstOf_some {o : Option MO} {ds : List D} (h : lstOf o = some ds) : o = some (.lst ds) := by
  unfold lstOf at h
  split at h
  · cases h; rfl
  · cases h
theorem items_of {K : PySem.W.Frag} {H : Hp} {M : Mp} {v : V} {d : D} {ds : List D} (m : RM0 K H M) (r : RD K H v d) (h : items M d = some ds) : ∃ p vs, v = .ref p ∧ (SqL K H p vs ∨ SqT K H p vs) ∧ RDs K H vs ds := by
  cases d with
  | tup es =>
    cases r with
    | tup h1 h2 => cases h; exact ⟨_, _, rfl, .inr h1, h2⟩
  | rol es =>
    cases r with
    | rol h1 h2 => cases h; exact ⟨_, _, rfl, .inl h1.sq, h2⟩
  | ref a =>
    cases r
    obtain ⟨vs, hv, l⟩ := m a _ (lstOf_some h)
    exact ⟨_, _, rfl, .inl (SqL.of hv), l⟩
  | _ => cases h
def oIn (neg : Bool) : R23 := fun d e M Q => asL (items M e) fun ds => flat d = true ∧ ds.all flat = true ∧ Q (.bl (if neg then !(ds.any fun y => eqF y d) else ds.any fun y => eqF y d)) M
theorem atI_rel {K : PySem.W.Frag} {H : Hp} {vs : List V} {ds : List D} {i : Int} {d : D} (l : RDs K H vs ds) (h : atI ds i = some d) : ∃ v, atI vs i = some v ∧ RD K H v d := by
  unfold atI at h ⊢
  rw [l.length]
  cases e : ixN ds.length i with
  | none => rw [e] at h; cases h
  | some j =>
    rw [e] at h
    exact l.get (i := j) h
def oIxS (z : Str) (i : Int) (M : Mp) (Q : VK3) : Prop := match atI z.cps.toList i with
  | some c => z.length ≤ sizeLine ∧ Q (.str ⟨#[c]⟩) M
  | none => False
def oIx : R23 := fun d e M Q => asI e fun i => match d with
  | .str z => oIxS z i M Q
  | d => asL (items M d) fun ds => asS (atI ds i) fun v => Q v M
theorem i_ix : IxR X (lift2 X.K bs oIx) := by
  rintro value slice pins s σ H x y v u Q I rx ry ⟨d, e, M, Q3, r1, r2, m, q, k⟩ hs
  have it : ∀ i, (asL (items M d) fun ds => asS (atI ds i) fun v => Q3 v M) → y = .int i → wpAny (model X.prog X.w) X.A (subscriptTail value slice v u) (EP X pins σ Q) X.xe s := by
    intro i q hy
    unfold asL at q
    split at q
    · rename_i ds hd
      unfold asS at q
      split at q
      · rename_i z hz
        obtain ⟨p, vs, rfl, hq, l⟩ := items_of m.m r1 hd
        obtain ⟨w, hw, rw'⟩ := atI_rel l hz
        refine ix_seq value slice pins s σ H _ y v u Q I rx ry ?_ hs
        rcases hq with hq | hq
        · exact .inl ⟨p, vs, i, w, rfl, hy, hq, hw, k _ _ _ M .refl m rw' q⟩
        · exact .inr (.inl ⟨p, vs, i, w, rfl, hy, hq, hw, k _ _ _ M .refl m rw' q⟩)
      · exact False.elim q
    · exact False.elim q
  cases e with
  | int i =>
    cases r2
    cases d with
    | str z =>
      cases r1
      have q : oIxS z i M Q3 := q
      unfold oIxS at q
      split at q
      · rename_i c hc
        exact ix_seq value slice pins s σ H _ _ v u Q I rx ry (.inr (.inr ⟨z, i, c, rfl, rfl, q.1, hc, k _ _ _ M .refl m (.str _) q.2⟩)) hs
      · exact False.elim q
    | _ => exact it i q rfl
  | _ => exact False.elim q
theorem e_ix {a b : Expr} {ta tb : TE3} {pos : Pos} (ha : PE3 bs X a ta) (hb : PE3 bs X b tb) (hs : PlainIx b := by exact fun _ _ => rfl) : PE3 bs X (.Subscript a b pos) (wOp oIx ta tb) := PE.weak (pe_ix i_ix ha hb hs) lift_op
/-- slices -/
def PO3 (bs : BS) (X : Cx) (e : Option Expr) (t : St3 → Mp → (Option Int → Mp → Prop) → Prop) : Prop := PO X e (fun σ H Q => ∃ τ M Q3, RE X.K H σ τ ∧ RM X.K bs H M ∧ t τ M Q3 ∧ ∀ o H' M', Ext M M' H H' → RM X.K bs H' M' → Q3 o M' → Q o H')
def wNoPart : St3 → Mp → (Option Int → Mp → Prop) → Prop := fun _ M Q => Q none M
def wPart (t : TE3) : St3 → Mp → (Option Int → Mp → Prop) → Prop := fun τ M Q => t τ M fun d M1 => asI d fun i => Q (some i) M1
theorem p_none : PO3 bs X none wNoPart := ⟨fun pins s σ H Q I ⟨τ, M, Q3, e, m, q, k⟩ => po_none.run pins s σ H Q I (k none H M .refl m q)⟩
theorem p_some {e : Expr} {t : TE3} (h : PE3 bs X e t) : PO3 bs X (some e) (wPart t) := by
  refine ⟨fun pins s σ H Q I ⟨τ, M, Q3, e, m, q, k⟩ => (po_some h).run pins s σ H Q I ⟨τ, M, _, e, m, q, fun v H' d M' x m' r q' => ?_⟩⟩
  cases d with
  | int i => cases r; exact ⟨i, rfl, k _ H' M' x m' q'⟩
  | _ => exact False.elim q'
def cutD (xs : List D) (lo hi : Option Int) : List D := (xs.drop (HT.sIx xs.length 0 lo)).take (HT.sIx xs.length xs.length hi - HT.sIx xs.length 0 lo)
def oSl : D → Option Int → Option Int → Mp → VK3 → Prop := fun d lo hi M Q => match d with
  | .tup ds => Q (.tup (cutD ds lo hi)) M
  | .rol ds => ∀ p, M p = none → Q (.ref p) (mset M p (.lst (cutD ds lo hi)))
  | .ref a => match M a with
    | some (.lst ds) => ∀ p, M p = none → Q (.ref p) (mset M p (.lst (cutD ds lo hi)))
    | _ => False
  | _ => False
theorem cut_rel {K : PySem.W.Frag} {H : Hp} {vs : List V} {ds : List D} (l : RDs K H vs ds) (lo hi : Option Int) : RDs K H (cutV vs lo hi) (cutD ds lo hi) := by
  unfold cutV cutD
  rw [l.length]
  exact (l.drop _).take _
theorem cut_whole {ds : List D} {lo hi : Option Int} (h1 : HT.sIx ds.length 0 lo = 0) (h2 : HT.sIx ds.length ds.length hi = ds.length) : cutD ds lo hi = ds := by
  unfold cutD
  rw [h1, h2]
  simp
theorem s_sl : SlR X (fun x lo hi H Q => ∃ d M Q3, RD X.K H x d ∧ RM X.K bs H M ∧ oSl d lo hi M Q3 ∧ ∀ v H' z M', Ext M M' H H' → RM X.K bs H' M' → RD X.K H' v z → Q3 z M' → Q v H') := by
  rintro pins s σ H x v vl vu lo hi sl Q I rx hs pl pu ⟨d, M, Q3, r, m, q, k⟩
  cases d with
  | tup ds =>
    cases r with
    | tup h1 h2 =>
      refine sl_tupA pins s σ H _ v vl vu lo hi sl Q I rx hs pl pu ⟨_, _, rfl, h1, fun w => ?_, fun w p hp => ?_⟩
      · rw [h2.length] at w
        have q' : Q3 (.tup (cutD ds lo hi)) M := q
        rw [cut_whole w.1 w.2] at q'
        exact k _ _ _ M .refl m (.tup h1 h2) q'
      · obtain ⟨x2, m2⟩ := m.upNew (o := .tup _) hp
        exact k _ _ _ M x2 m2 (.tup (SqT.of upd_same) ((cut_rel h2 lo hi).go (x2.still m))) q
  | rol ds =>
    cases r with
    | rol h1 h2 =>
      refine sl_list pins s σ H _ v vl vu lo hi sl Q I rx hs pl pu ⟨_, _, rfl, h1.sq, fun p hp => ?_⟩
      obtain ⟨x2, m2⟩ := m.newL hp (cut_rel h2 lo hi)
      exact k _ _ _ _ x2 m2 (.ref p) (q p (m.free hp))
  | ref a =>
    cases r
    simp only [oSl] at q
    split at q
    · rename_i ds ha
      obtain ⟨vs, hv, l⟩ := m.at ha
      refine sl_list pins s σ H _ v vl vu lo hi sl Q I rx hs pl pu ⟨_, _, rfl, SqL.of hv, fun p hp => ?_⟩
      obtain ⟨x2, m2⟩ := m.newL hp (cut_rel l lo hi)
      exact k _ _ _ _ x2 m2 (.ref p) (q p (m.free hp))
    · exact False.elim q
  | _ => exact False.elim q
def wSl (te : TE3) (tl th : St3 → Mp → (Option Int → Mp → Prop) → Prop) : TE3 := fun τ M Q => te τ M fun d M1 => tl τ M1 fun lo M2 => th τ M2 fun hi M3 => oSl d lo hi M3 Q
def oPut : TSet3 := fun o i v M Q => match o, i with
  | .ref a, .int k => match M a with
    | some (.lst ds) => match ixN ds.length k with
      | some j => Q (mset M a (.lst (ds.set j v)))
      | none => False
    | _ => False
  | _, _ => False
theorem p_put : PSet X (liftSet X.K bs oPut) := by
  rintro pins s σ H o i v ov iv u Q I r1 r2 r3 ⟨od, id, dv, M, Q3, ro, ri, rv, m, q, k⟩
  cases od with
  | ref a =>
    cases id with
    | int z =>
      cases ro; cases ri
      simp only [oPut] at q
      split at q
      · rename_i ds ha
        split at q
        · rename_i j hj
          obtain ⟨vs, hv, l⟩ := m.at ha
          refine set_list pins s σ H _ _ v ov iv u Q I r1 r2 r3 ⟨a, vs, z, j, rfl, rfl, hv, by rw [l.length]; exact hj, ?_⟩
          obtain ⟨x2, m2⟩ := m.putL ha (RDs.set rv j l)
          exact k _ _ x2 m2 q
        · exact False.elim q
      · exact False.elim q
    | _ => exact False.elim q
  | _ => cases id <;> exact False.elim q
abbrev M23 := D → List D → Mp → VK3 → Prop
def liftM (K : PySem.W.Frag) (bs : BS) (r : M23) : V → List V → Hp → VK → Prop := fun x xs H Q => ∃ d ds M Q3, RD K H x d ∧ RDs K H xs ds ∧ RM K bs H M ∧ r d ds M Q3 ∧ ∀ v H' z M', Ext M M' H H' → RM K bs H' M' → RD K H' v z → Q3 z M' → Q v H'
def wBM (r : M23) (to : TE3) (t : TA3) : TE3 := fun τ M Q => to τ M fun d M1 => (match d with | .ref a => ∃ ds, M1 a = some (.lst ds) | _ => False) ∧ t τ M1 fun ds M2 => r d ds M2 Q
theorem e_bm {o e : Expr} {es : List Expr} {to : TE3} {t : TA3} {name : Str} {apos cpos : Pos} {id : String} {r : M23} (pa : PlainAttrs "list") (slot : Slot "list" name id) (hty : typeOf (.builtin id) = pure (.type "method_descriptor")) (hm : MtR X id (liftM X.K bs r))
    (ho : PE3 bs X o to) (ha : PA3 bs X (e :: es) t)
    (hbase : attributeBase o name X.env (eval o X.env) = eval o X.env := by rfl)
    (hfew : ((backTo cpos (starEach (e :: es) X.env)).all (fun x => !x.1) && (backToKw cpos (keywordEach [] X.env)).all (fun x => x.1.isSome)
      && decide ((e :: es).length + ([] : List Keyword).length + (if ([] : List Keyword).isEmpty then 0 else 1) < 30)) = true := by rfl)
    (hline : (apos.endLine == cpos.line) = true := by rfl) (hs : starEach (e :: es) X.env = (false, eval e X.env) :: starEach es X.env := by rfl) (hplain : (backTo cpos (starEach es X.env)).any (·.1) = false := by rfl) :
    PE3 bs X (.Call (.Attribute o name apos) (e :: es) [] cpos) (wBM r to t) := by
  refine PE.weak (pe_bm pa slot hty hm ho ha hbase hfew hline hs hplain) ?_
  rintro σ H Q ⟨τ, M, Q3, e, m, q, k⟩
  refine ⟨τ, M, _, e, m, q, fun v H1 d M1 x1 m1 r1 q1 => ?_⟩
  cases d with
  | ref a =>
    cases r1
    obtain ⟨⟨ds, ha⟩, q1⟩ := q1
    obtain ⟨vs, hv, l⟩ := m1.at ha
    refine ⟨.inl ⟨rfl, vs, SqL.of hv⟩, τ, M1, _, e.go (x1.still m), m1, q1, fun ws H2 es M2 x2 m2 r2 q2 => ?_⟩
    exact ⟨.ref a, es, M2, Q3, .ref a, r2, m2, q2, fun v H' z M' x3 m3 r3 q3 => k v H' z M' (x1.trans (x2.trans x3)) m3 r3 q3⟩
  | _ => exact False.elim q1.1
def oApp : M23 := fun d ds M Q => match d, ds with
  | .ref a, [y] => match M a with
    | some (.lst xs) => xs.length < sizeLine ∧ Q .non (mset M a (.lst (xs ++ [y])))
    | _ => False
  | _, _ => False
theorem m_app : MtR X "list.append" (liftM X.K bs oApp) := by
  rintro pins s σ H x xs v us Q I r1 r2 ⟨d, ds, M, Q3, rd, rs, m, q, k⟩
  unfold oApp at q
  split at q
  · rename_i a y
    cases rd
    split at q
    · rename_i zs ha
      obtain ⟨vs, hv, l⟩ := m.at ha
      cases rs with
      | cons ry rn =>
        cases rn
        refine mt_append pins s σ H _ _ v us Q I r1 r2 ⟨a, vs, _, rfl, rfl, hv, by rw [l.length]; exact q.1, ?_⟩
        obtain ⟨x2, m2⟩ := m.putL ha (l.app (.cons ry .nil))
        exact k _ _ _ _ x2 m2 .non q.2
    · exact False.elim q
  · exact False.elim q
theorem e_append {o e : Expr} {to te : TE3} {apos cpos : Pos} (ho : PE3 bs X o to) (he : PE3 bs X e te) (hs1 : starEach [e] X.env = (false, eval e X.env) :: starEach [] X.env := by rfl)
    (hbase : attributeBase o "append" X.env (eval o X.env) = eval o X.env := by rfl)
    (hfew : ((backTo cpos (starEach (e :: []) X.env)).all (fun x => !x.1) && (backToKw cpos (keywordEach [] X.env)).all (fun x => x.1.isSome)
      && decide ((e :: []).length + ([] : List Keyword).length + (if ([] : List Keyword).isEmpty then 0 else 1) < 30)) = true := by rfl)
    (hline : (apos.endLine == cpos.line) = true := by rfl) :
    PE3 bs X (.Call (.Attribute o "append" apos) [e] [] cpos) (wBM oApp to (wCons te wNil)) :=
  e_bm PySem.F.plainAttrs_list PySem.F.slot_list_append PySem.F.type_list_append m_app ho (a_cons he a_nil hs1) hbase hfew hline hs1 rfl
end
end L3
set_option Elab.async false
set_option linter.all false
set_option maxRecDepth 100000
set_option maxHeartbeats 4000000
namespace L3
open PySem PySem.Spec PyProof.Rows L2
section
variable {bs : BS} {X : Cx} {tg : Expr}
def iSeq (K : PySem.W.Frag) (tl : TE) : TI := fun σ H R => tl σ H fun x H1 => ∃ a, x = .ref a ∧ ((∃ xs, SqL K H1 a xs ∧ R (Itl K a) H1) ∨ ∃ xs, SqT K H1 a xs ∧ R (Itt K a) H1)
theorem pi_seq {l : Expr} {tl : TE} (hl : PE X l tl) : PI X tg l (iSeq X.K tl) := by
  constructor
  intro pins s σ H R I h
  refine thn (hl.run pins s σ H _ I h) ?_
  rintro v s1 ⟨x, H1, I1, r1, a, rfl, q1⟩
  cases r1
  have nw : ∀ b, b ∈ [s1.heap.objs.size] → FpOk X pins H1 b := by
    intro b hb
    rw [List.mem_singleton] at hb
    rw [hb]
    exact I1.fpOk (Nat.le_refl _) I1.fresh
  rcases q1 with ⟨xs, hq, q⟩ | ⟨xs, hq, q⟩
  · obtain ⟨its, rv, p, hz⟩ := I1.list hq
    exact wpAny_pyIter_list p.isList ⟨_, [s1.heap.objs.size], _, _, H1, rfl, I1.kept (t' := s1.toks) (fun b o e => Heap.get?_push_of_some _ e), turn_list a _, ⟨_, Heap.get?_push_size _ rfl, rfl, rfl⟩, nw, q⟩
  · obtain ⟨its, rv, p, hz⟩ := I1.tuple hq
    have p' : s1.heap.IsTuple a its.toArray := p
    exact wpAny_pyIter_tuple p' ⟨_, [s1.heap.objs.size], _, _, H1, rfl, I1.kept (t' := s1.toks) (fun b o e => Heap.get?_push_of_some _ e), turn_tuple a _, ⟨_, Heap.get?_push_size _ rfl, rfl, rfl⟩, nw, q⟩
/-- what must stand still while a sequence is walked -/
def keepG (M : Mp) (d : D) (ds : List D) : Mp → Prop := match d with
  | .ref a => fun M' => M' a = some (.lst ds)
  | _ => fun _ => True
theorem it_tup {K : PySem.W.Frag} {a : Addr} {vs : List V} {ds : List D} {H0 : Hp} : ItOk K (Itt K a) (fun H => SqT K H a vs ∧ RDs K H vs ds) (fun _ => True) ds where
  mono := fun M M' H H' m x p => ⟨(x.still0 m).1 _ _ p.1, p.2.go (x.still0 m)⟩
  stop := fun H M m p _ => ⟨vs, p.1, by rw [p.2.length]; exact Nat.le_refl _⟩
  go := fun i d H M m p _ hd => by
    obtain ⟨v, hv, r⟩ := p.2.get hd
    refine ⟨⟨vs, v, p.1, hv⟩, ?_⟩
    rintro x H' ⟨rfl, y⟩
    have e := y vs p.1
    rw [hv] at e
    cases e
    exact ⟨.refl, m, r⟩
theorem it_rol {K : PySem.W.Frag} {a : Addr} {vs : List V} {ds : List D} : ItOk K (Itl K a) (fun H => RoL K H a vs ∧ RDs K H vs ds) (fun _ => True) ds where
  mono := fun M M' H H' m x p => ⟨(x.still0 m).2 _ _ p.1, p.2.go (x.still0 m)⟩
  stop := fun H M m p _ => ⟨vs, p.1.sq, by rw [p.2.length]; exact Nat.le_refl _⟩
  go := fun i d H M m p _ hd => by
    obtain ⟨v, hv, r⟩ := p.2.get hd
    refine ⟨⟨vs, v, p.1.sq, hv⟩, ?_⟩
    rintro x H' ⟨rfl, y⟩
    have e := y vs p.1.sq
    rw [hv] at e
    cases e
    exact ⟨.refl, m, r⟩
theorem it_lst {K : PySem.W.Frag} {a : Addr} {ds : List D} : ItOk K (Itl K a) (fun _ => True) (fun M => M a = some (.lst ds)) ds where
  mono := fun _ _ _ _ _ _ _ => True.intro
  stop := fun H M m _ g => by
    obtain ⟨vs, hv, l⟩ := m a _ g
    exact ⟨vs, SqL.of hv, by rw [l.length]; exact Nat.le_refl _⟩
  go := fun i d H M m _ g hd => by
    obtain ⟨vs, hv, l⟩ := m a _ g
    obtain ⟨v, hv', r⟩ := l.get hd
    refine ⟨⟨vs, v, SqL.of hv, hv'⟩, ?_⟩
    rintro x H' ⟨rfl, y⟩
    have e := y vs (SqL.of hv)
    rw [hv'] at e
    cases e
    exact ⟨.refl, m, r⟩
def wItems (tl : TE3) : TI3 := fun τ M R => tl τ M fun d M1 => asL (items M1 d) fun ds => R ds (keepG M1 d ds) M1
theorem w_seq {l : Expr} {tl : TE3} (hl : PE3 bs X l tl) : PI3 bs X tg l (wItems tl) := by
  refine PI.weak (pi_seq hl) ?_
  rintro σ H R ⟨τ, M, R3, e, m, q, k⟩
  refine ⟨τ, M, _, e, m, q, fun v H1 d M1 x1 m1 r1 q1 => ?_⟩
  unfold asL at q1
  split at q1
  · rename_i ds hd
    cases d with
    | tup es =>
      cases hd
      cases r1 with
      | tup h1 h2 => exact ⟨_, rfl, .inr ⟨_, h1, k _ _ _ _ H1 M1 x1 m1 (it_tup (H0 := H1)) ⟨h1, h2⟩ q1⟩⟩
    | rol es =>
      cases hd
      cases r1 with
      | rol h1 h2 => exact ⟨_, rfl, .inl ⟨_, h1.sq, k _ _ _ _ H1 M1 x1 m1 it_rol ⟨h1, h2⟩ q1⟩⟩
    | ref a =>
      cases r1
      obtain ⟨vs, hv, l⟩ := m1.at (lstOf_some hd)
      exact ⟨_, rfl, .inl ⟨vs, SqL.of hv, k _ _ _ _ H1 M1 x1 m1 it_lst True.intro q1⟩⟩
    | _ => cases hd
  · exact False.elim q1
/-- range -/
def rgD (lo : Int) (n : Nat) : List D := (List.range n).map fun i => D.int (lo + (i : Nat))
theorem rgD_get {lo : Int} {n i : Nat} {d : D} (h : (rgD lo n)[i]? = some d) : i < n ∧ d = .int (lo + (i : Nat)) := by
  unfold rgD at h
  rw [List.getElem?_map] at h
  by_cases hi : i < n
  · rw [List.getElem?_range hi] at h
    exact ⟨hi, (Option.some.inj h).symm⟩
  · rw [List.getElem?_eq_none (by rw [List.length_range]; omega)] at h
    cases h
theorem it_rg {K : PySem.W.Frag} {lo : Int} {n : Nat} : ItOk K (Itr lo n) (fun _ => True) (fun _ => True) (rgD lo n) where
  mono := fun _ _ _ _ _ _ _ => True.intro
  stop := fun H M m _ g => by show n ≤ (rgD lo n).length; unfold rgD; rw [List.length_map, List.length_range]; exact Nat.le_refl _
  go := fun i d H M m _ g hd => by
    obtain ⟨hi, rfl⟩ := rgD_get hd
    refine ⟨hi, ?_⟩
    rintro x H' ⟨rfl, rfl⟩
    exact ⟨.refl, m, .int _⟩
def wRng1 (t : TA3) : TI3 := fun τ M R => t τ M fun ds M1 => match ds with
  | [.int j] => -(2 ^ 62) ≤ j ∧ j < 2 ^ 62 ∧ R (rgD 0 j.toNat) (fun _ => True) M1
  | _ => False
def wRng2 (t : TA3) : TI3 := fun τ M R => t τ M fun ds M1 => match ds with
  | [.int i, .int j] => (-(2 ^ 62) ≤ i ∧ i < 2 ^ 62 ∧ -(2 ^ 62) ≤ j ∧ j < 2 ^ 62) ∧ R (rgD i (j - i).toNat) (fun _ => True) M1
  | _ => False
theorem w_rng1 {a : Expr} {ta : TA3} {p pos : Pos} (hm : X.mg "range" = none) (ha : PA3 bs X [a] ta) (hg : Gl X "range" := by rfl) (hs : starEach [a] X.env = [(false, eval a X.env)] := by rfl) : PI3 bs X tg (.Call (.Name "range" p) [a] [] pos) (wRng1 ta) := by
  refine PI.weak (pi_range1 hg hm ha hs) ?_
  rintro σ H R ⟨τ, M, R3, e, m, q, k⟩
  refine ⟨τ, M, _, e, m, q, fun vs H1 ds M1 x1 m1 r1 q1 => ?_⟩
  split at q1
  · rename_i j
    cases r1 with
    | cons r rn =>
      cases rn
      cases r
      exact ⟨j, rfl, q1.1, q1.2.1, k _ _ _ _ H1 M1 x1 m1 it_rg True.intro q1.2.2⟩
  · exact False.elim q1
end
section
variable {bs : BS} {X : Cx} {e : Expr} {es : List Expr} {t : TA3} {x : Str} {p pos : Pos}
theorem e_callB {id : String} {r : List D → Mp → VK3 → Prop} (hc : CallR X (.builtin id) (liftV X.K bs r)) (hm : X.mg x = none) (hv : bootBuiltins x = some (.builtin id)) (ha : PA3 bs X (e :: es) t) (hg : Gl X x := by rfl) (hn : x ≠ "__name__" := by decide) (hdb : (x == ("__debug__" : Str)) = false := by decide)
    (he : starEach (e :: es) X.env = (false, eval e X.env) :: starEach es X.env := by rfl) (hpl : (backTo pos (starEach es X.env)).any (·.1) = false := by rfl) : PE3 bs X (.Call (.Name x p) (e :: es) [] pos) (wCB r t) :=
  PE.weak (pe_callB hc hg hm hv ha hn hdb he hpl) lift_cb
theorem e_callTy {T : String} {r : List D → Mp → VK3 → Prop} (hc : CallR X (.type T) (liftV X.K bs r)) (hm : X.mg x = none) (hv : bootBuiltins x = some (.type T)) (ha : PA3 bs X (e :: es) t) (hg : Gl X x := by rfl) (hn : x ≠ "__name__" := by decide) (hdb : (x == ("__debug__" : Str)) = false := by decide)
    (he : starEach (e :: es) X.env = (false, eval e X.env) :: starEach es X.env := by rfl) (hpl : (backTo pos (starEach es X.env)).any (·.1) = false := by rfl) : PE3 bs X (.Call (.Name x p) (e :: es) [] pos) (wCB r t) :=
  PE.weak (pe_callTy hc hg hm hv ha hn hdb he hpl) lift_cb
/-- one argument -/
def b1 (r : D → Mp → VK3 → Prop) : List D → Mp → VK3 → Prop := fun ds M Q => match ds with
  | [d] => r d M Q
  | _ => False
theorem call1 {f : Value} {r : D → Mp → VK3 → Prop} (h : ∀ (d : D) (x : V) (H : Hp) (M : Mp) (Q : VK) (Q3 : VK3), RD X.K H x d → RM X.K bs H M → r d M Q3 →
    (∀ v H' z M', Ext M M' H H' → RM X.K bs H' M' → RD X.K H' v z → Q3 z M' → Q v H') → ∃ r2 : List V → Hp → VK → Prop, CallR X f r2 ∧ r2 [x] H Q) : CallR X f (liftV X.K bs (b1 r)) := call3 fun ds xs H M Q Q3 r1 m q k => by
  match ds, r1, q with
  | [], _, q => exact False.elim q
  | [d], .cons r1 .nil, q => exact h d _ H M Q Q3 r1 m q k
  | _ :: _ :: _, _, q => exact False.elim q
def bLen : List D → Mp → VK3 → Prop := b1 fun d M Q => match d with
  | .str z => z.length ≤ sizeLine ∧ Q (.int z.length) M
  | d => asL (items M d) fun ds => Q (.int ds.length) M
theorem c_len : CallR X (.builtin "len") (liftV X.K bs bLen) := call1 fun d x H M Q Q3 r m q k => by
  have it : (asL (items M d) fun ds => Q3 (.int ds.length) M) → ∃ r2 : List V → Hp → VK → Prop, CallR X (.builtin "len") r2 ∧ r2 [x] H Q := fun q => by
    unfold asL at q
    split at q
    · rename_i ds hd
      obtain ⟨p, vs, rfl, hs, l⟩ := items_of m.m r hd
      exact ⟨_, call_len_seq, p, vs, rfl, hs, by rw [l.length]; exact k _ _ _ M .refl m (.int _) q⟩
    · exact False.elim q
  cases d with
  | str z => cases r; exact ⟨_, call_len_str, z, rfl, q.1, k _ _ _ M .refl m (.int _) q.2⟩
  | _ => exact it q
def bTuple : List D → Mp → VK3 → Prop := b1 fun d M Q => asL (items M d) fun ds => Q (.tup ds) M
theorem c_tuple : CallR X (.type "tuple") (liftV X.K bs bTuple) := call1 fun d x H M Q Q3 r m q k => by
  unfold asL at q
  split at q
  · rename_i ds hd
    obtain ⟨p, vs, rfl, hs, l⟩ := items_of m.m r hd
    refine ⟨_, call_tuple_of, p, vs, rfl, ?_⟩
    rcases hs with hs | hs
    · refine .inl ⟨hs, fun c hc => ?_⟩
      obtain ⟨x2, m2⟩ := m.upNew (o := .tup vs) hc
      exact k _ _ _ M x2 m2 (.tup (SqT.of upd_same) (l.go (x2.still m))) q
    · exact .inr ⟨hs, k _ _ _ M .refl m (.tup hs l) q⟩
  · exact False.elim q
def bList : List D → Mp → VK3 → Prop := b1 fun d M Q => asL (items M d) fun ds => ∀ p, M p = none → Q (.ref p) (mset M p (.lst ds))
theorem c_list : CallR X (.type "list") (liftV X.K bs bList) := call1 fun d x H M Q Q3 r m q k => by
  unfold asL at q
  split at q
  · rename_i ds hd
    obtain ⟨p, vs, rfl, hs, l⟩ := items_of m.m r hd
    refine ⟨_, call_list_of, p, vs, rfl, hs, fun c hc => ?_⟩
    obtain ⟨x2, m2⟩ := m.newL hc l
    exact k _ _ _ _ x2 m2 (.ref c) (q c (m.free hc))
  · exact False.elim q
def bAbs : List D → Mp → VK3 → Prop := b1 fun d M Q => asI d fun i => Q (.int (if i < 0 then -i else i)) M
def bInt : List D → Mp → VK3 → Prop := b1 fun d M Q => match d with
  | .int i => Q (.int i) M
  | .bl b => Q (.int (if b then 1 else 0)) M
  | _ => False
theorem c_int : CallR X (.type "int") (liftV X.K bs bInt) := call1 fun d x H M Q Q3 r m q k => by
  cases d with
  | int i => cases r; exact ⟨_, call_int1, .inl ⟨i, rfl, k _ _ _ M .refl m (.int _) q⟩⟩
  | bl i => cases r; exact ⟨_, call_int1, .inr ⟨i, rfl, k _ _ _ M .refl m (.int _) q⟩⟩
  | _ => exact False.elim q
def b2I (g : Int → Int → Int) : List D → Mp → VK3 → Prop := fun ds M Q => match ds with
  | [.int i, .int j] => Q (.int (g i j)) M
  | _ => False
def bMax : List D → Mp → VK3 → Prop := b2I fun i j => if j > i then j else i
def bMin : List D → Mp → VK3 → Prop := b2I fun i j => if j < i then j else i
theorem c_2I {f : Value} {g : Int → Int → Int} (h : CallR X f (fun xs H Q => ∃ i j, xs = [V.int i, V.int j] ∧ Q (.int (g i j)) H)) : CallR X f (liftV X.K bs (b2I g)) := call3 fun ds xs H M Q Q3 r1 m q k => by
  unfold b2I at q
  split at q
  · rename_i i j
    cases r1 with
    | cons r rn =>
      cases rn with
      | cons r' rn =>
        cases rn
        cases r
        cases r'
        exact ⟨_, h, i, j, rfl, k _ _ _ M .refl m (.int _) q⟩
  · exact False.elim q
theorem c_max (hc : X.calm = true) : CallR X (.builtin "max") (liftV X.K bs bMax) := c_2I (call_max2 hc)
theorem c_min (hc : X.calm = true) : CallR X (.builtin "min") (liftV X.K bs bMin) := c_2I (call_min2 hc)
/-- a list of truths -/
def bls : List D → Option (List Bool)
  | [] => some []
  | .bl b :: r => (bls r).map (b :: ·)
  | _ :: _ => none
theorem bls_of {K : PySem.W.Frag} {H : Hp} : ∀ {ds : List D} {vs : List V} {l : List Bool}, bls ds = some l → RDs K H vs ds → vs = l.map V.bl
  | [], _, _, h, r => by cases r; cases h; rfl
  | d :: ds, _, l, h, r => by
    cases r with
    | cons r1 r2 =>
      cases d with
      | bl b =>
        cases r1
        simp only [bls] at h
        obtain ⟨l', h', rfl⟩ := Option.map_eq_some_iff.mp h
        rw [bls_of h' r2]; rfl
      | _ => cases h
mutual
def showOk : D → Bool
  | .int i => decide (i.natAbs.log2 < 1920)
  | .tup xs => showOks xs
  | .rol xs => showOks xs
  | _ => true
def showOks : List D → Bool
  | [] => true
  | d :: ds => showOk d && showOks ds
end
mutual
theorem show_pd : ∀ d : D, showOk d = true → (pdOf d).showable = true
  | .non, _ => by simp [pdOf, PyData.showable]
  | .bl _, _ => by simp [pdOf, PyData.showable]
  | .int _, h => by simpa [pdOf, PyData.showable, showOk] using h
  | .str _, _ => by simp [pdOf, PyData.showable]
  | .ref _, _ => by simp [pdOf, PyData.showable]
  | .ty _, _ => by simp [pdOf, PyData.showable]
  | .tup xs, h => by simpa [pdOf, PyData.showable] using show_pds xs (by simpa [showOk] using h)
  | .rol xs, h => by simpa [pdOf, PyData.showable] using show_pds xs (by simpa [showOk] using h)
theorem show_pds : ∀ ds : List D, showOks ds = true → PyData.showableAll (pdsOf ds) = true
  | [], _ => by simp [pdsOf, PyData.showableAll]
  | d :: ds, h => by
    have h' : showOk d = true ∧ showOks ds = true := by simpa [showOks] using h
    simp [pdsOf, PyData.showableAll, show_pd d h'.1, show_pds ds h'.2]
end
def shown (d : D) : Str := (pdOf d).shown
/-- data whose text fits -/
structure Sh (d : D) : Prop where
  pl : Pl d
  ok : showOk d = true
  sz : (shown d).length ≤ sizeLine
def bRepr : List D → Mp → VK3 → Prop := b1 fun d M Q => Sh (top M d) ∧ Q (.str (shown (top M d))) M
theorem c_repr (hG : X.A.guards = some []) (hu : X.A.units + 64 + 100 < cLine) : CallR X (.builtin "repr") (liftV X.K bs bRepr) := by
  rintro pins s σ H xs us Q I rx ⟨ds, M, Q3, r1, m, q, k⟩
  match ds, r1, rx, q with
  | [], _, _, q => exact False.elim q
  | _ :: _ :: _, _, _, q => exact False.elim q
  | [d], .cons r1 .nil, .cons rv .nil, q =>
    obtain ⟨sh, q⟩ := q
    rename_i v u
    have dp := dp_top m.m r1 sh.pl.p
    have sok := show_pd _ sh.ok
    have nd := PyData.hasDict_of_canLay _ (canLay_pd _ sh.pl.p)
    have kk : ∀ s', Inv X pins σ H s' → ∀ u', (∃ t, u' = Value.str (shown (top M d)) t) → EP X pins σ Q u' s' := fun s' I' u' e => ⟨.str _, H, I', e, k _ _ _ M .refl m (.str _) q⟩
    have rf : ∀ a, u = .ref a → wpAny (model X.prog X.w) X.A (call (.builtin "repr") [u]) (EP X pins σ Q) X.xe s := by
      rintro a rfl
      obtain ⟨as, rd⟩ := Dp.reads I _ _ _ dp rv
      refine repr_of_reads' (h₀ := s.heap) rd sok (PyData.noDict_hsm nd) hG ?_ (fun _ _ e => e) (fun h' t tk keep => kk _ (I.kept keep) _ ⟨t, rfl⟩) sh.sz
      rw [depth_pd]
      have := sh.pl.d
      omega
    cases d with
    | non => cases r1; cases rv; exact PySem.P.repr_of_none (kk _ (I.tok _) _ ⟨_, rfl⟩)
    | bl b => cases r1; cases rv; exact PySem.P.repr_of_bool (kk _ (I.tok _) _ ⟨_, rfl⟩)
    | int i =>
      cases r1
      obtain ⟨t, rfl⟩ := rv
      have hz : i.natAbs.log2 < 1920 := by simpa [top, showOk] using sh.ok
      exact PySem.P.repr_of_int hz (kk _ (I.tok _) _ ⟨_, rfl⟩)
    | str z =>
      cases r1
      obtain ⟨t, rfl⟩ := rv
      have hz : (reprText z).length ≤ sizeLine := by simpa [top, shown, pdOf, PyData.shown] using sh.sz
      exact PySem.P.repr_of_str (kk _ (I.tok _) _ ⟨_, rfl⟩) hz
    | tup ds => cases r1; cases rv; exact rf _ rfl
    | rol ds => cases r1; cases rv; exact rf _ rfl
    | ref a => cases r1; cases rv; exact rf _ rfl
    | ty n => exact absurd sh.pl.p (by simp [top, plain])
end
/-- what is wished of an exception: its class by name, its fields -/
abbrev XK3 := Str → List (Str × D) → Mp → Prop
abbrev Sp3 := List D → Mp → VK3 → XK3 → Prop
/-- an exception's own dict -/
def RXd (K : PySem.W.Frag) (H : Hp) : Option Addr → List (Str × D) → Prop
  | some a, fs => ∃ gs, H a = some (.xd gs) ∧ RKv K H gs fs
  | none, fs => fs = []
/-- its class c is the one called n, its own dict is a's -/
def RX (K : PySem.W.Frag) (H : Hp) (n : Str) (c : Value) (a : Option Addr) (fs : List (Str × D)) : Prop := Cl K n c ∧ RXd K H a fs
def liftSp (K : PySem.W.Frag) (sp : Sp3) : Sp := fun vs H Q E => ∃ ds M Q3 E3, RDs K H vs ds ∧ RM0 K H M ∧ sp ds M Q3 E3 ∧
  (∀ v H' d M', Ext M M' H H' → RM0 K H' M' → RD K H' v d → Q3 d M' → Q v H') ∧
  ∀ n c a H' fs M', Ext M M' H H' → RM0 K H' M' → RX K H' n c a fs → E3 n fs M' → E c a H'
structure FnG (P : Program) (w : World) (K : PySem.W.Frag) (mg : Str → Option Value) (base : Heap) (CX : CXT) (k : Nat) (f : Addr) (fd : FuncData) (ps : List Str) (sp : Sp) : Prop where
  len : ∀ vs H Q E, sp vs H Q E → vs.length = ps.length
  run : ∀ (A : Around) (outer : List Env) (s : Shared) (H : Hp) (args : Args) (us : List Value) (vs : List V) (Q : VK) (E : XK), A.guards = some [] → Room k A → Env0 P w K mg base A outer s H → BindsTo s fd args (ps.zip us) →
    Vals vs us → sp vs H Q E → codeAny (model P w) A (.call (.ref f) args) (CR CX outer P w H s Q E) s
theorem FnG.mono {P : Program} {w : World} {K : PySem.W.Frag} {mg : Str → Option Value} {base : Heap} {CX : CXT} {j k : Nat} {f : Addr} {fd : FuncData} {ps : List Str} {sp : Sp} (F : FnG P w K mg base CX j f fd ps sp) (h : j ≤ k) :
    FnG P w K mg base CX k f fd ps sp := ⟨F.len, fun A outer s H args us vs Q E hg hr => F.run A outer s H args us vs Q E hg (hr.mono h)⟩
/-- a def by its body -/
theorem fn_g {CX : CXT} {P : Program} {w : World} {K : PySem.W.Frag} {mg : Str → Option Value} {base : Heap} {k : Nat} {f : Addr} {x qual : Str} {st : Stmt} {fd : FuncData} {N ps : List Str} {sp : Sp} (F : Fun K x qual st f fd) (S : FnScope N ps (defScope st))
    (len : ∀ vs H Q E, sp vs H Q E → vs.length = ps.length)
    (body : ∀ (cdv : Value) (A : Around) (outer : List Env) (s : Shared) (H : Hp) (vs : List V) (Q : VK) (E : XK), A.guards = some [] → Room k (A.deeper (envOfC qual (defScope st) s.heap.objs.size f cdv)) → sp vs H Q E →
      ∃ t, PSs (cxOf CX P w K mg base N qual (defScope st) f cdv A outer s H E) (defBody st) t ∧ t { nx := fun _ H' => Q .non H', rt := Q } (L2.start N vs) H) :
    FnG P w K mg base CX (k + 1) f fd ps sp := by
  obtain ⟨oc, od, kV, doc, pm, an, cdv, ct, osl, rfl, lk, hcd⟩ := F.ex
  constructor
  · exact len
  intro A outer s H args us vs Q E hG hr e0 hb r hsp
  have sizes := len vs H Q E hsp
  have inK : K.In s.heap := e0.mod.kin.keeps (fun b o z => (e0.bs b o z).1)
  have noLim : s.heap.NoLimit := e0.mod.nolimit.keeps (fun b o z => (e0.bs b o z).1)
  have kinds : ∀ y ∈ ps.zip us, (defScope st).names.lookup y.1 = some .local ∨ ((defScope st).names.lookup y.1 = some .cell ∧ ((cellsFrom (s.heap.objs.size + 1) (defScope st).names []).lookup y.1).isSome = true) := by
    rintro ⟨n, v⟩ hy
    rcases S.par n (List.of_mem_zip hy).1 with z | z
    · exact .inl z
    · exact .inr ⟨z, PySem.W.cellsFrom_some _ _ _ (.inl z)⟩
  refine codeAny_call_function hr.depth (inK _ _ lk) rfl S.co S.gen rfl (PySem.W.codeRec_of inK hcd) (hb _ _ _ _ ?_)
  refine wpAny_newFunctionEnv_cells S.kind kinds ?_
  rintro env rfl s1 x
  refine ⟨noLim.keeps x.toInCall.keep, codeAny_func ?_⟩
  obtain ⟨t, ht, hq⟩ := body cdv A outer s H vs Q E hG (hr.deeper _) hsp
  have I := inv_start (CX := CX) (E := E) S hr.hd e0 sizes r x
  refine wpAny_mono (ht.run [] s1 (L2.start N vs) H _ I hq) ?_ (fun _ _ z => z)
  have done : ∀ (σ' : L2.St) (H' : Hp) (v : V) (u : Value) (s' : Shared), Inv (cxOf CX P w K mg base N qual (defScope st) f cdv A outer s H E) [] σ' H' s' → RelV v u → Q v H' → CE outer P w H s Q u s' :=
    fun σ' H' v u s' J rv q => ⟨v, H', J.os, J.bare, J.base, J.hok, rv, q⟩
  intro fl s' hs
  cases fl with
  | next =>
    obtain ⟨σ', H', J, q⟩ := hs
    exact done σ' H' .non .none s' J rfl q
  | ret u =>
    obtain ⟨v, σ', H', J, rv, q⟩ := hs
    exact done σ' H' v u s' J rv q
  | brk => obtain ⟨_, _, _, q⟩ := hs; cases q
  | cont => obtain ⟨_, _, _, q⟩ := hs; cases q
/-- what a def's body is read to -/
def start3 (n : Nat) (ds : List D) : St3 := ds.map some ++ List.replicate (n - ds.length) none
def spOf (np n : Nat) (t : XK3 → TS3) : Sp3 := fun ds M Q E => ds.length = np ∧ t E { nx := fun _ M' => Q .non M', rt := Q } (start3 n ds) M
theorem getS_app_l : ∀ (ds : List D) (r : St3) (i : Nat), i < ds.length → getS (ds.map some ++ r) i = ds[i]?
  | [], _, _, h => by simp at h
  | d :: ds, r, 0, _ => rfl
  | d :: ds, r, i + 1, h => by
    show getS (ds.map some ++ r) i = _
    rw [getS_app_l ds r i (by simpa using h)]
    simp
theorem getS_none (n i : Nat) : getS (List.replicate n none) i = none := by
  induction n generalizing i with
  | zero => rfl
  | succ n ih =>
    cases i with
    | zero => rfl
    | succ i => exact ih i
theorem getS_app_r : ∀ (ds : List D) (n i : Nat), ds.length ≤ i → getS (ds.map some ++ List.replicate n none) i = none
  | [], n, i, _ => getS_none n i
  | d :: ds, n, 0, h => by simp at h
  | d :: ds, n, i + 1, h => getS_app_r ds n i (by simpa using h)
theorem re_start {K : PySem.W.Frag} {H : Hp} {N : List Str} {vs : List V} {ds : List D} (r : RDs K H vs ds) : RE K H (L2.start N vs) (start3 N.length ds) := by
  have hl := r.length
  constructor
  · unfold L2.start start3
    simp [hl]
  · intro i d h
    unfold start3 at h
    by_cases hi : i < ds.length
    · rw [getS_app_l ds _ i hi] at h
      obtain ⟨v, hv, rv⟩ := r.get h
      refine ⟨v, ?_, rv⟩
      unfold L2.start
      rw [List.getElem?_append_left (by rw [List.length_map]; omega), List.getElem?_map, hv]
      rfl
    · rw [getS_app_r ds _ i (by omega)] at h
      cases h
/-- the def called x, with n parameters, keeps sp at so deep a level -/
def Def3 (P : Program) (w : World) (K : PySem.W.Frag) (mg : Str → Option Value) (base : Heap) (CX : CXT) (k : Nat) (x : Str) (sp : Sp3) : Prop :=
  ∃ f fd ps, mg x = some (.ref f) ∧ PySem.W.keepIn K (.ref f) = true ∧ Binds K fd ps [] ∧ FnG P w K mg base CX k f fd ps (liftSp K sp)
theorem Def3.mono {P : Program} {w : World} {K : PySem.W.Frag} {mg : Str → Option Value} {base : Heap} {CX : CXT} {j k : Nat} {x : Str} {sp : Sp3} (F : Def3 P w K mg base CX j x sp) (h : j ≤ k) : Def3 P w K mg base CX k x sp := by
  obtain ⟨f, fd, ps, a, b, c, d⟩ := F
  exact ⟨f, fd, ps, a, b, c, d.mono h⟩
/-- from its body's reading: E3 is the wish of the exceptions, bs the standing condition -/
theorem fng_of {CX : CXT} {P : Program} {w : World} {K : PySem.W.Frag} {mg : Str → Option Value} {base : Heap} {k : Nat} {f : Addr} {x qual : Str} {st : Stmt} {fd : FuncData} {N ps : List Str} {t : XK3 → TS3} (F : Fun K x qual st f fd) (S : FnScope N ps (defScope st))
    (body : ∀ (cdv : Value) (A : Around) (outer : List Env) (s : Shared) (H : Hp) (E : XK) (bs : BS) (E3 : XK3), A.guards = some [] → Room k (A.deeper (envOfC qual (defScope st) s.heap.objs.size f cdv)) →
      (∀ n c a H' fs M', RM0 K H' M' → bs.ok M' H' → RX K H' n c a fs → E3 n fs M' → E c a H') →
      PSs3 bs (cxOf CX P w K mg base N qual (defScope st) f cdv A outer s H E) (defBody st) (t E3)) :
    FnG P w K mg base CX (k + 1) f fd ps (liftSp K (spOf ps.length N.length t)) := by
  refine fn_g F S (fun vs H Q E h => ?_) fun cdv A outer s H vs Q E hG hr h => ?_
  · obtain ⟨ds, M, Q3, E3, r, m, ⟨l, q⟩, _⟩ := h
    rw [r.length]; exact l
  · obtain ⟨ds, M, Q3, E3, r, m, ⟨l, q⟩, kq, ke⟩ := h
    refine ⟨_, body cdv A outer s H E (bsOf M H) E3 hG hr (fun n c a H' fs M' m' x r' e => ke n c a H' fs M' x m' r' e), ?_⟩
    refine ⟨start3 N.length ds, M, _, re_start r, ⟨m, .refl⟩, q, fun σ' τ' H' M' x e m' q' => ?_, fun v d H' M' x m' r' q' => ?_, fun _ _ _ _ _ _ _ z => z.elim, fun _ _ _ _ _ _ _ z => z.elim⟩
    · exact kq .non H' .non M' x m'.m .non q'
    · exact kq v H' d M' x m'.m r' q'
theorem def_of {CX : CXT} {P : Program} {w : World} {K : PySem.W.Frag} {mg : Str → Option Value} {base : Heap} {k : Nat} {f : Addr} {x qual : Str} {st : Stmt} {fd : FuncData} {N ps : List Str} {t : XK3 → TS3} (hm : mg x = some (.ref f)) (F : Fun K x qual st f fd) (b : Binds K fd ps [])
    (S : FnScope N ps (defScope st))
    (body : ∀ (cdv : Value) (A : Around) (outer : List Env) (s : Shared) (H : Hp) (E : XK) (bs : BS) (E3 : XK3), A.guards = some [] → Room k (A.deeper (envOfC qual (defScope st) s.heap.objs.size f cdv)) →
      (∀ n c a H' fs M', RM0 K H' M' → bs.ok M' H' → RX K H' n c a fs → E3 n fs M' → E c a H') →
      PSs3 bs (cxOf CX P w K mg base N qual (defScope st) f cdv A outer s H E) (defBody st) (t E3)) :
    Def3 P w K mg base CX (k + 1) x (spOf ps.length N.length t) := ⟨f, fd, ps, hm, F.kp, b, fng_of F S body⟩
section
variable {bs : BS} {X : Cx} {CX : CXT} {k : Nat} {x : Str} {sp : Sp3} {E3 : XK3} {e : Expr} {es : List Expr} {t : TA3} {p pos : Pos}
def wCall (sp : Sp3) (E : XK3) (t : TA3) : TE3 := fun τ M Q => t τ M fun ds M1 => sp ds M1 Q E
/-- a def that leans on nothing in M, and whose answer does not either -/
def wCallP (sp : Sp3) (E : XK3) (t : TA3) : TE3 := fun τ M Q => t τ M fun ds M1 => sp ds M0 (fun d _ => Q d M1) (fun c fs _ => E c fs M1)
theorem run_g {f : Addr} {fd : FuncData} {ps : List Str} {spv : Sp} {E : XK} {pins : List (Addr × Obj)} {σ : L2.St} {H : Hp} {s : Shared} {Q : VK} {us : List Value} {vs : List V} (F : FnG X.prog X.w X.K X.mg X.base CX k f fd ps spv) (hG : X.A.guards = some []) (hr : Room k X.A)
    (hb : Binds X.K fd ps []) (hx : Passes CX X E) (I : Inv X pins σ H s) (r : Vals vs us) (h : spv vs H Q E) : wpAny (model X.prog X.w) X.A (call (.ref f) us) (EP X pins σ Q) X.xe s := by
  have hl : (us ++ []).length = ps.length := by rw [List.append_nil, ← r.length]; exact F.len _ _ _ _ h
  have bd := hb s us I.kIn hl
  rw [List.append_nil] at bd
  refine wpAny_call (codeAny_mono (F.run X.A X.stack s H ⟨us, []⟩ us vs Q E hG hr I.env0 bd r h) ?_)
  intro res s' hq
  cases res with
  | error z => exact hx pins σ H s z s' I hq
  | ok fl =>
    cases fl with
    | ret u => exact I.after hq
    | next => cases hq
    | brk => cases hq
    | cont => cases hq
theorem pe_g {f : Addr} {fd : FuncData} {ps : List Str} {spv : Sp} {E : XK} {ta : TA} (F : FnG X.prog X.w X.K X.mg X.base CX k f fd ps spv) (hG : X.A.guards = some []) (hr : Room k X.A) (hm : X.mg x = some (.ref f)) (hk : PySem.W.keepIn X.K (.ref f) = true) (hb : Binds X.K fd ps []) (hx : Passes CX X E)
    (ha : PA X (e :: es) ta) (hg : Gl X x) (hdb : (x == ("__debug__" : Str)) = false) (he : starEach (e :: es) X.env = (false, eval e X.env) :: starEach es X.env) (hpl : (backTo pos (starEach es X.env)).any (·.1) = false) :
    PE X (.Call (.Name x p) (e :: es) [] pos) (tCall spv [] E ta) := by
  constructor
  intro pins s σ H Q I h
  refine wpAny_Call_Name_kw (ld_glob I hg hm ?_ hdb)
  refine PySem.W.callWith_K (h₀ := X.base) I.ok.mod.kin hk (thn (ha.run pos pins s σ H _ I h) ?_) he hpl
  rintro us s1 ⟨vs, H1, I1, r, q⟩
  have q' : spv (vs ++ []) H1 Q E := q
  rw [List.append_nil] at q'
  exact ⟨I1.kIn, run_g F hG hr hb hx I1 r q'⟩
/-- how an exception of a callee passes on: what is wanted of it here -/
def PassX (bs : BS) (CX : CXT) (X : Cx) (E3 : XK3) : Prop := ∃ E : XK, Passes CX X E ∧ ∀ n c a H' fs M', RM0 X.K H' M' → bs.ok M' H' → RX X.K H' n c a fs → E3 n fs M' → E c a H'
theorem e_call (F : Def3 X.prog X.w X.K X.mg X.base CX k x sp) (hG : X.A.guards = some []) (hr : Room k X.A) (hx : PassX bs CX X E3) (ha : PA3 bs X (e :: es) t) (hg : Gl X x := by rfl) (hdb : (x == ("__debug__" : Str)) = false := by decide)
    (he : starEach (e :: es) X.env = (false, eval e X.env) :: starEach es X.env := by rfl) (hpl : (backTo pos (starEach es X.env)).any (·.1) = false := by rfl) : PE3 bs X (.Call (.Name x p) (e :: es) [] pos) (wCall sp E3 t) := by
  obtain ⟨f, fd, ps, hm, hk, hb, F⟩ := F
  obtain ⟨E, hp, he3⟩ := hx
  refine PE.weak (pe_g F hG hr hm hk hb hp ha hg hdb he hpl) ?_
  rintro σ H Q ⟨τ, M, Q3, e, m, q, kk⟩
  refine ⟨τ, M, _, e, m, q, fun vs H1 ds M1 x1 m1 r1 q1 => ?_⟩
  show liftSp X.K sp (vs ++ []) H1 Q E
  rw [List.append_nil]
  refine ⟨ds, M1, Q3, E3, r1, m1.m, q1, fun v H' d M' x2 m2 r2 q2 => kk v H' d M' (x1.trans x2) (m1.to x2 m2) r2 q2, fun n c a H' fs M' x2 m2 r2 q2 => he3 n c a H' fs M' m2 (bs.go m1.b x2) r2 q2⟩
/-- from nothing: all that stood is kept -/
theorem ext_all {M M' : Mp} {H H' : Hp} (x : Ext M0 M' H H') : Ext M M H H' := ⟨fun a o h _ => x.fr a o h rfl, fun _ h => .inl h⟩
theorem rm_all {K : PySem.W.Frag} {M M' : Mp} {H H' : Hp} (m : RM0 K H M) (x : Ext M0 M' H H') : RM0 K H' M := (m.keep fun a o h => x.fr a o h rfl).2
theorem e_callP (F : Def3 X.prog X.w X.K X.mg X.base CX k x sp) (hG : X.A.guards = some []) (hr : Room k X.A) (hx : PassX bs CX X E3) (ha : PA3 bs X (e :: es) t) (hg : Gl X x := by rfl) (hdb : (x == ("__debug__" : Str)) = false := by decide)
    (he : starEach (e :: es) X.env = (false, eval e X.env) :: starEach es X.env := by rfl) (hpl : (backTo pos (starEach es X.env)).any (·.1) = false := by rfl) : PE3 bs X (.Call (.Name x p) (e :: es) [] pos) (wCallP sp E3 t) := by
  obtain ⟨f, fd, ps, hm, hk, hb, F⟩ := F
  obtain ⟨E, hp, he3⟩ := hx
  refine PE.weak (pe_g F hG hr hm hk hb hp ha hg hdb he hpl) ?_
  rintro σ H Q ⟨τ, M, Q3, e, m, q, kk⟩
  refine ⟨τ, M, _, e, m, q, fun vs H1 ds M1 x1 m1 r1 q1 => ?_⟩
  show liftSp X.K sp (vs ++ []) H1 Q E
  rw [List.append_nil]
  refine ⟨ds, M0, _, _, r1, (fun a o h => nomatch h), q1, fun v H' d M' x2 m2 r2 q2 => ?_, fun n c a H' fs M' x2 m2 r2 q2 => ?_⟩
  · exact kk v H' d M1 (x1.trans (ext_all x2)) (m1.to (ext_all x2) (rm_all m1.m x2)) r2 q2
  · exact he3 n c a H' fs M1 (rm_all m1.m x2) (bs.go m1.b (ext_all x2)) r2 q2
end
end L3
set_option Elab.async false
set_option linter.all false
set_option maxRecDepth 100000
set_option maxHeartbeats 4000000
namespace L3
open PySem PySem.Spec PyProof.Rows L2
theorem law_at {P : Program} {w : World} {K : PySem.W.Frag} {mg mb : Str → Option Value} {CX : CXT} {k : Nat} {fa a : Addr} {fd : FuncData} {x : Str} {sp : Sp} {t : Shared} {vs : List Value} {ns : List Int}
    (inK : K.In t.heap) (nsM : t.heap.Ns mainGlobals mg) (nsB : t.heap.Ns builtinsNs mb) (boots : ∀ y : Str, y ≠ "__name__" → mb y = bootBuiltins y) (noLim : t.heap.NoLimit) (noGen : t.gens = #[])
    (obj : t.heap.get? a = some { cls := .type "list", data := .seq vs.toArray }) (hnt : IntsAre vs ns) (len : ns.length ≤ sizeLine) (room : Room k callerA)
    (F : ∀ base : Heap, K.In base → base.Ns mainGlobals mg → FnG P w K mg base CX k fa fd [x] sp) (bind : ∀ (s : Shared) (u : Value), BindsTo s fd ⟨[u], []⟩ [(x, u)])
    (said : ∀ H : Hp, RoL K H a (ns.map V.int) → sp [.ref a] H (fun v _ => v = .bl true) (fun _ _ _ => False)) (quiet : ∀ H e s', CX [] H t (fun _ _ _ => False) e s' → False) :
    codeAny (model P w) callerA (.call (.ref fa) ⟨[.ref a], []⟩) (fun r s' => r = .ok (.ret (.bool true)) ∧ OldK t.heap s'.heap ∧ s'.os = t.os ∧ AllBare s'.gens) t := by
  have vals := vals_ints hnt
  have lens := hnt.length
  -- H: nothing, or the script as a thing that nobody writes
  suffices main : ∀ H : Hp, RoL K H a (ns.map V.int) → HOk P w H t.heap → (∀ b u, H b = some u → b = a ∧ ∃ o xs, u = .frz o (.lst xs)) → (H a ≠ none → K.lookup a = none) →
      codeAny (model P w) callerA (.call (.ref fa) ⟨[.ref a], []⟩) (fun r s' => r = .ok (.ret (.bool true)) ∧ OldK t.heap s'.heap ∧ s'.os = t.os ∧ AllBare s'.gens) t by
    cases q : K.lookup a with
    | some o =>
      have z := inK a o q
      rw [obj] at z
      cases z
      exact main (fun _ => none) (.inr ⟨vs.toArray, _, q, by rw [List.size_toArray, lens]; exact len, by simpa using vals⟩) (fun _ _ z => nomatch z) (fun _ _ z => nomatch z) fun z => absurd rfl z
    | none =>
      refine main (upd (fun _ => none) a (.frz { cls := .type "list", data := .seq vs.toArray } (.lst (ns.map V.int)))) (.inl ⟨_, upd_same⟩) (fun b u z => ?_) (fun b u z => ?_) fun _ => q
      · by_cases e : b = a
        · subst e
          rw [upd_same] at z
          cases z
          exact ⟨obj, by rw [List.length_map]; exact len, vs, _, vals, obj⟩
        · rw [upd_ne e] at z; cases z
      · by_cases e : b = a
        · subst e
          rw [upd_same] at z
          cases z
          exact ⟨rfl, _, _, rfl⟩
        · rw [upd_ne e] at z; cases z
  intro H ro hok one out
  have dataH : ∀ {b : Addr} {o : Obj} {es : Array DictEntry} {n : Nat}, t.heap.get? b = some o → o.data = .dict es n → H b = none := by
    intro b o es n z d
    cases q : H b with
    | none => rfl
    | some u =>
      obtain ⟨rfl, _⟩ := one b u q
      rw [obj] at z
      cases z
      cases d
  have nsH : ∀ {b : Addr} {m : Str → Option Value}, t.heap.Ns b m → (hidT t.heap H).Ns b m := by
    rintro b m ⟨o, es, n, z, d, r⟩
    exact ⟨o, es, n, hidT_get z (dataH z d), d, r⟩
  have inH : K.In (hidT t.heap H) := by
    intro b o z
    refine hidT_get (inK b o z) ?_
    cases q : H b with
    | none => rfl
    | some u =>
      obtain ⟨rfl, _⟩ := one b u q
      rw [out (by rw [q]; exact fun z => nomatch z)] at z
      cases z
  have limH : (hidT t.heap H).NoLimit := by
    obtain ⟨mc, l1, l2⟩ := noLim
    exact ⟨mc, nsH l1, l2⟩
  have env : Env0 P w K mg (hidT t.heap H) callerA [] t H :=
    ⟨rfl, ⟨inH, nsH nsM, ⟨mb, nsH nsB, boots⟩, limH⟩, fun _ _ z => of_hidT z, Nat.le_of_eq (hidT_size _ _), True.intro, fun b z => (List.not_mem_nil (show b ∈ ([] : List Addr) from z)).elim, hok, .of_eq noGen⟩
  refine codeAny_mono ((F _ inH (nsH nsM)).run callerA [] t H ⟨[.ref a], []⟩ [.ref a] [.ref a] _ _ rfl room env (bind t (.ref a)) (.cons rfl .nil) (said H ro)) ?_
  intro r s' z
  cases r with
  | error e => exact (quiet H e s' z).elim
  | ok fl =>
    cases fl with
    | ret u =>
      obtain ⟨v, H', os, bare, un, hok', rv, e⟩ := z
      have e' : v = .bl true := e
      subst e'
      cases rv
      refine ⟨rfl, OldK.of_keep fun b o z => ?_, os, bare⟩
      cases q : H b with
      | none => exact un.keep b o z q (by simp [frs]) (by simp)
      | some u =>
        obtain ⟨rfl, ob, xs, rfl⟩ := one b u q
        obtain ⟨z1, _⟩ := hok b _ q
        obtain ⟨z2, _⟩ := hok' b _ (un.frzs b ob _ q)
        rw [z] at z1
        cases z1
        exact z2
    | next => cases z
    | brk => cases z
    | cont => cases z
theorem rm_nil {K : PySem.W.Frag} {H : Hp} : RM0 K H M0 := by
  intro a o h
  cases h
/-- the goal that k_head leaves, from the law's def -/
theorem law_end {l : PySem.W.OpenLaw} {k : Nat} {q : Program} {loose : List Str} {XP : (Str → Option Value) → Heap → Prop} {YP : World → Heap → Prop} {d : DefRec} {K : Params → PySem.W.Frag} {CX : Program → World → CXT} {sp : Sp3} {x : Str}
    (hn : l.most = some 63) (hdf : d.params.defaults = []) (room : Room k callerA) (hY : ∀ (w : World) (h : Heap), YP w h → (K w.params).In h)
    (F : ∀ (w : World) (mg : Str → Option Value) (fa : Addr) (h : Heap), (K w.params).In h → h.Ns mainGlobals mg → mg d.name = some (.ref fa) →
      ∃ fd : FuncData, (∀ (s : Shared) (u : Value), BindsTo s fd ⟨[u], []⟩ [(x, u)]) ∧
        ∀ base : Heap, (K w.params).In base → base.Ns mainGlobals mg → FnG l.prog w (K w.params) mg base (CX l.prog w) k fa fd [x] (liftSp (K w.params) sp))
    (said : ∀ ns : List Int, ns.length ≤ 63 → sp [.rol (ns.map D.int)] M0 (fun v _ => v = .bl true) (fun _ _ _ => False))
    (quiet : ∀ (P : Program) (w : World) (H : Hp) (s : Shared) (e : Value) (s' : Shared), CX P w [] H s (fun _ _ _ => False) e s' → False) :
    PySem.W.WalkO q loose XP YP l.row.toRowW d [] (fun f vs => PySem.call f vs) := by
  refine Att.attach_call hn hdf ?_
  intro w s0 t mg mb fa o pm cd doc a vs ns G Y ho hd hcd hmg hobj hints hlen hg
  have inK := hY w _ Y
  obtain ⟨fd, hb, hF⟩ := F w mg fa _ inK G.T.g hmg
  refine law_at inK G.T.g G.T.b G.T.builtins G.T.nolimit hg hobj hints (Nat.le_trans hlen (by decide)) room hF hb (fun H ro => ?_) fun H e s' => quiet l.prog w H t e s'
  refine ⟨[.rol (ns.map D.int)], M0, _, _, .cons (.rol ro (RDs.ofInts ns)) .nil, rm_nil, said ns hlen, fun v H' d' M' _ _ rd e => ?_, fun _ _ _ _ _ _ _ _ _ z => z⟩
  subst e
  cases rd
  rfl
end L3
set_option Elab.async false
set_option linter.all false
set_option maxRecDepth 100000
set_option maxHeartbeats 4000000
namespace L3
open PySem PySem.Spec PyProof.Rows L2
/-- no exception -/
def X0 : XK3 := fun _ _ _ => False
theorem passX1 {bs : BS} {X : Cx} : PassX bs (L2.CX X.prog X.w) X X0 := ⟨E0, passL, fun _ _ _ _ _ _ _ _ _ z => z.elim⟩
theorem passXE {bs : BS} {P : Program} {w : World} {K : PySem.W.Frag} {mg : Str → Option Value} {base : Heap} {N : List Str} {qual : Str} {scope : Scope} {f : Addr} {cd : Value} {A : Around} {outer : List Env} {s : Shared} {H : Hp} {E : XK} {E3 : XK3}
    (h : ∀ n c a H' fs M', RM0 K H' M' → bs.ok M' H' → RX K H' n c a fs → E3 n fs M' → E c a H') : PassX bs (L2.CX P w) (cxOf (L2.CX P w) P w K mg base N qual scope f cd A outer s H E) E3 :=
  ⟨E, passes_call (W := fun c a _ H => E c a H) (takes_of rfl rfl rfl rfl) (fun _ _ _ _ z => z), h⟩
theorem quietX : ∀ (P : Program) (w : World) (H : Hp) (s : Shared) (e : Value) (s' : Shared), L2.CX P w [] H s (fun _ _ _ => False) e s' → False := by
  intro P w H s e s' h
  obtain ⟨_, _, _, _, _, _, _, _, _, _, _, _, z⟩ := h
  exact z.elim
theorem hu_more {k : Nat} {A : Around} (r : Room k A) : A.units + 64 + 100 < cLine := by have := r.un; omega
def wgTupN (n : Nat) (t : TGs3) : TG3 := fun d τ M Q => match d with
  | .tup ds => ds.length = n ∧ t ds τ M Q
  | _ => False
section
variable {bs : BS} {X : Cx} {e b : Expr} {es : List Expr} {te tb : TE3} {pos : Pos}
theorem g_tupN {es : List Expr} {k n : Nat} {ix : List Nat} {t : TGs3} (hc : X.calm = true) (h : PGs3 bs X es ix t)
    (hn : (assignEach es X.env).length = n := by rfl) (hst : (assignEach es X.env).findIdx? (·.1) = none := by rfl) : PG3 bs X (.Tuple es k pos) ix (wgTupN n t) := g_tup hc h hn hst
/-- [e] * k: the list of one is forgotten -/
def wRep (te tb : TE3) : TE3 := fun τ M Q => te τ M fun d M1 => tb τ M1 fun i M2 => match i with
  | .int k => -(2 ^ 63) ≤ k ∧ k < 2 ^ 63 ∧ k.toNat ≤ sizeLine ∧ ∀ p, M2 p = none → Q (.ref p) (mset M2 p (.lst (List.replicate k.toNat d)))
  | _ => False
theorem flat_one (k : Nat) (d : D) : (List.replicate k [d]).flatten = List.replicate k d := by
  induction k with
  | zero => rfl
  | succ k ih => rw [List.replicate_succ, List.flatten_cons, ih, List.replicate_succ]; rfl
theorem e_rep {p1 : Pos} (he : PE3 bs X e te) (hb : PE3 bs X b tb) (hs : starEach [e] X.env = (false, eval e X.env) :: starEach [] X.env := by rfl) : PE3 bs X (.BinOp (.List [e] p1) .Mult b pos) (wRep te tb) := by
  refine PE.weak (pe_op op_rep (pe_lst (pa_cons he pa_nil hs)) hb) ?_
  rintro σ H Q ⟨τ, M, Q3, e, m, q, k⟩
  refine ⟨τ, M, _, e, m, q, fun v H1 d M1 x1 m1 r1 q1 => ⟨(by show 1 ≤ sizeLine; decide), fun p hp => ?_⟩⟩
  obtain ⟨x2, m2⟩ := m1.upNew (o := .lst [v]) hp
  have f2 : Fresh X.K (upd H1 p (.lst [v])) M1 p [d] := Fresh.laid m1.m hp (.cons r1 .nil)
  refine ⟨τ, M1, _, (e.go (x1.still m)).go (x2.still m1), m2, q1, fun y H2 dy M2 x3 m3 r3 q3 => ?_⟩
  have f3 := f2.go m2.m x3
  obtain ⟨vs, hv, rv⟩ := f3.lst
  cases dy with
  | int z =>
    cases r3
    obtain ⟨b1, b2, b3, q3⟩ := q3
    refine ⟨p, z, vs, rfl, rfl, hv, b1, b2, by rw [rv.length]; simpa using b3, fun p2 hp2 => ?_⟩
    obtain ⟨x4, m4⟩ := m3.newL hp2 (rv.rep z.toNat)
    rw [flat_one] at x4 m4
    exact k _ _ _ _ (x1.trans (x2.trans (x3.trans x4))) m4 (.ref p2) (q3 p2 (m3.free hp2))
  | _ => exact False.elim q3
end
end L3
set_option Elab.async false
set_option linter.all false
set_option maxRecDepth 100000
set_option maxHeartbeats 4000000
namespace L3
open PySem PySem.Spec PyProof.Rows L2
section
variable {bs : BS} {X : Cx} {a b : Expr} {ta tb : TE3} {pos p p2 pos2 : Pos}
theorem rds_rg {K : PySem.W.Frag} {H : Hp} (i j : Int) : RDs K H (rgV i j) (rgD i (j - i).toNat) := by
  unfold rgV rgD
  generalize List.range (j - i).toNat = l
  induction l with
  | nil => exact .nil
  | cons x r ih => exact .cons (.int _) ih
def wTupRg1 (ta : TE3) : TE3 := fun τ M Q => ta τ M fun d M1 => asI d fun n => (-(2 ^ 62) ≤ n ∧ n ≤ 16777216) ∧ Q (.tup (rgD 0 n.toNat)) M1
theorem rg1_ok {n : Int} (h : -(2 ^ 62) ≤ n ∧ n ≤ 16777216) : RgOk 0 n := ⟨by omega, by omega, by omega, by omega, by omega⟩
def zipD (xs ys : List D) : List D := List.zipWith (fun x y => .tup [x, y]) xs ys
theorem zipD_get {xs ys : List D} {i : Nat} {d : D} (h : (zipD xs ys)[i]? = some d) : ∃ x y, xs[i]? = some x ∧ ys[i]? = some y ∧ d = .tup [x, y] := by
  unfold zipD at h
  rw [List.getElem?_zipWith] at h
  cases hx : xs[i]? with
  | none => rw [hx] at h; simp at h
  | some x =>
    cases hy : ys[i]? with
    | none => rw [hx, hy] at h; simp at h
    | some y =>
      rw [hx, hy] at h
      exact ⟨x, y, rfl, rfl, (Option.some.inj h).symm⟩
theorem it_zipT {K : PySem.W.Frag} {a b : Addr} {vs ws : List V} {ds es : List D} : ItOk K (RZ.ItzT K a b) (fun H => (SqT K H a vs ∧ RDs K H vs ds) ∧ SqT K H b ws ∧ RDs K H ws es) (fun _ => True) (zipD ds es) where
  mono := fun M M' H H' m x p => ⟨⟨(x.still0 m).1 _ _ p.1.1, p.1.2.go (x.still0 m)⟩, (x.still0 m).1 _ _ p.2.1, p.2.2.go (x.still0 m)⟩
  stop := fun H M m p _ => ⟨vs, ws, p.1.1, p.2.1, by
    rw [p.1.2.length, p.2.2.length]
    unfold zipD
    rw [List.length_zipWith]
    omega⟩
  go := fun i d H M m p _ hd => by
    obtain ⟨x, y, hx, hy, rfl⟩ := zipD_get hd
    obtain ⟨v, hv, rv⟩ := p.1.2.get hx
    obtain ⟨w, hw, rw'⟩ := p.2.2.get hy
    refine ⟨⟨vs, ws, v, w, p.1.1, p.2.1, hv, hw⟩, ?_⟩
    rintro x' H' ⟨T, v', w', rfl, hT, rfl, e1, e2⟩
    have f1 := e1 vs p.1.1
    have f2 := e2 ws p.2.1
    rw [hv] at f1; cases f1
    rw [hw] at f2; cases f2
    obtain ⟨x2, m2⟩ := m.upNew (o := .tup [v, w]) hT
    exact ⟨x2, m2, .tup (SqT.of upd_same) (.cons (rv.go (x2.still0 m)) (.cons (rw'.go (x2.still0 m)) .nil))⟩
end
end L3
set_option Elab.async false
set_option linter.all false
set_option maxRecDepth 100000
set_option maxHeartbeats 4000000
namespace L3
open PySem PySem.Spec PyProof.Rows L2
section
variable {bs : BS} {X : Cx}
def enD (ds : List D) : List D := (List.range ds.length).map fun i => .tup [.int (i : Nat), ds.getD i .non]
def wEnum (t : TA3) : TI3 := fun τ M R => t τ M fun ds M1 => match ds with
  | [d] => asL (items M1 d) fun xs => R (enD xs) (keepG M1 d xs) M1
  | _ => False
end
section
variable {bs : BS} {X : Cx}
def wTupRg2 (ta tb : TE3) : TE3 := fun τ M Q => ta τ M fun d M1 => tb τ M1 fun e M2 => asI d fun i => asI e fun j => (-(2 ^ 60) ≤ i ∧ i < 2 ^ 60 ∧ -(2 ^ 60) ≤ j ∧ j < 2 ^ 60 ∧ j - i ≤ 16777216) ∧ Q (.tup (rgD i (j - i).toNat)) M2
end
end L3
set_option Elab.async false
set_option linter.all false
set_option maxRecDepth 100000
set_option maxHeartbeats 4000000
namespace L3
open PySem PySem.Spec PyProof.Rows L2
/-- a new list may be taken as a thing that nobody writes -/
def FQ (Q : VK) : VK := fun v H => Q v H ∨ ∃ p vs, H p = some (.lst vs) ∧ ∀ o, Q v (upd H p (.frz o (.lst vs)))
section
variable {X : Cx} {pins : List (Addr × Obj)} {σ : L2.St} {H : Hp} {s : Shared}
theorem inv_frz {p : Addr} {vs : List V} (I : Inv X pins σ H s) (h : H p = some (.lst vs)) : ∃ o, Inv X pins σ (upd H p (.frz o (.lst vs))) s := by
  obtain ⟨z, its, n, r, e⟩ := I.hok p _ h
  have hok : HOk X.prog X.w (upd H p (.frz { cls := .type "list", data := .seq its.toArray n } (.lst vs))) s.heap := by
    intro b u q
    by_cases hb : b = p
    · subst hb
      rw [upd_same] at q
      cases q
      exact ⟨e, z, its, n, r, e⟩
    · rw [upd_ne hb] at q
      refine (I.hok b u q).stay (fun _ _ _ w => w) (fun c w => ?_) fun c xs w => ?_
      · rw [upd_ne (by intro y; subst y; rw [h] at w; cases w)]; exact w
      · rw [upd_ne (by intro y; subst y; rw [h] at w; cases w)]; exact w
  refine ⟨_, I.un (h' := s.heap) (t' := s.toks) (H' := upd H p (.frz { cls := .type "list", data := .seq its.toArray n } (.lst vs))) ⟨fun _ _ q _ _ _ => q, fun b o q _ _ _ => ⟨o.slots, q⟩, fun b o q n' _ => ?_, fun b o q _ => ⟨o, q⟩, fun b xs q => ?_, fun b o u q => ?_, fun b ps q => ⟨#[], ?_⟩⟩ hok⟩
  · rw [upd_ne (by intro w; subst w; rw [n'] at h; cases h)]; exact n'
  · rw [upd_ne (by intro w; subst w; rw [h] at q; cases q)]; exact q
  · rw [upd_ne (by intro w; subst w; rw [h] at q; cases q)]; exact q
  · rw [upd_ne (by intro w; subst w; rw [h] at q; cases q), q]; simp
theorem ep_frz {Q : VK} {u : Value} (h : EP X pins σ (FQ Q) u s) : EP X pins σ Q u s := by
  obtain ⟨v, H', I, r, q | ⟨p, vs, hp, k⟩⟩ := h
  · exact ⟨v, H', I, r, q⟩
  · obtain ⟨o, I'⟩ := inv_frz I hp
    exact ⟨v, _, I', r, k o⟩
end
section
variable {X : Cx}
theorem PE_frz {e : Expr} {t : TE} (h : PE X e t) : PE X e fun σ H Q => t σ H (FQ Q) := ⟨fun pins s σ H Q I q => thn (h.run pins s σ H _ I q) fun _ _ => ep_frz⟩
theorem OpR_frz {f : Value → Value → Sem Value} {r : R2} (h : OpR X f r) : OpR X f fun x y H Q => r x y H (FQ Q) := fun pins s σ H x y v u Q I r1 r2 q => thn (h pins s σ H x y v u _ I r1 r2 q) fun _ _ => ep_frz
theorem CallR_frz {f : Value} {r : List V → Hp → VK → Prop} (h : CallR X f r) : CallR X f fun xs H Q => r xs H (FQ Q) := fun pins s σ H xs us Q I r1 q => thn (h pins s σ H xs us _ I r1 q) fun _ _ => ep_frz
def FD (D : Ends) : Ends := { nx := fun σ H => D.nx σ H ∨ ∃ p vs, H p = some (.lst vs) ∧ ∀ o, D.nx σ (upd H p (.frz o (.lst vs))), rt := D.rt, bk := D.bk, ct := D.ct }
theorem PS_frz {st : Stmt} {t : TS} (h : PS X st t) : PS X st fun D σ H => t (FD D) σ H := ⟨fun pins s σ H D I q => thn (h.run pins s σ H _ I q) fun f s' z => by
  cases f with
  | next =>
    obtain ⟨σ', H', J, q | ⟨p, vs, hp, k⟩⟩ := z
    · exact ⟨σ', H', J, q⟩
    · obtain ⟨o, J'⟩ := inv_frz J hp
      exact ⟨σ', _, J', k o⟩
  | brk => exact z
  | cont => exact z
  | ret u => exact z⟩
end
section
variable {K : PySem.W.Frag} {bs : BS} {M M1 : Mp} {H H1 : Hp} {p : Addr} {vs : List V} {ds : List D} {Q : VK}
theorem still_frz {o : Obj} (h : H p = some (.lst vs)) : Still K H (upd H p (.frz o (.lst vs))) := by
  refine ⟨fun a xs q => ?_, fun a xs q => ?_⟩
  · rcases q with (q | ⟨u, q⟩) | q
    · exact .inl (.inl (by rw [upd_ne (by intro z; subst z; rw [h] at q; cases q)]; exact q))
    · exact .inl (.inr ⟨u, by rw [upd_ne (by intro z; subst z; rw [h] at q; cases q)]; exact q⟩)
    · exact .inr q
  · rcases q with ⟨u, q⟩ | q
    · exact .inl ⟨u, by rw [upd_ne (by intro z; subst z; rw [h] at q; cases q)]; exact q⟩
    · exact .inr q
/-- a list just laid -/
theorem fq_new (m : RM K bs H M) (hp : H p = none) (r : RDs K H vs ds) (k : ∀ H', Ext M M H H' → RM K bs H' M → RD K H' (.ref p) (.rol ds) → Q (.ref p) H') : FQ Q (.ref p) (upd H p (.lst vs)) := by
  refine .inr ⟨p, vs, upd_same, fun o => ?_⟩
  rw [upd_upd]
  obtain ⟨x2, m2⟩ := m.upNew (o := .frz o (.lst vs)) hp
  exact k _ x2 m2 (.rol (.inl ⟨o, upd_same⟩) (r.go (x2.still m)))
end
/-- M without a -/
def mdel (M : Mp) (a : Addr) : Mp := fun b => if b = a then none else M b
/-- a list in M is taken out, as data -/
def frzK (Q : VK3) : VK3 := fun d M => match d with
  | .ref p => match M p with
    | some (.lst ds) => Q (.rol ds) (mdel M p)
    | _ => False
  | d => Q d M
def wFrz (te : TE3) : TE3 := fun τ M Q => te τ M (frzK Q)
section
variable {bs : BS} {X : Cx} {e a b : Expr} {te ta tb : TE3} {t : TA3} {es : List Expr} {pos : Pos}
def wLstF (t : TA3) : TE3 := fun τ M Q => t τ M fun xs M1 => xs.length ≤ sizeLine ∧ Q (.rol xs) M1
theorem e_lstF (h : PA3 bs X es t) : PE3 bs X (.List es pos) (wLstF t) := by
  refine PE.weak (PE_frz (pe_lst h)) ?_
  rintro σ H Q ⟨τ, M, Q3, e, m, q, k⟩
  refine ⟨τ, M, _, e, m, q, fun zs H1 ds M1 x1 m1 r1 q1 => ⟨by rw [r1.length]; exact q1.1, fun p hp => ?_⟩⟩
  exact fq_new m1 hp r1 fun H' x2 m2 r2 => k _ H' _ M1 (x1.trans x2) m2 r2 q1.2
def wRepF (te tb : TE3) : TE3 := fun τ M Q => te τ M fun d M1 => tb τ M1 fun i M2 => asI i fun k => -(2 ^ 63) ≤ k ∧ k < 2 ^ 63 ∧ k.toNat ≤ sizeLine ∧ Q (.rol (List.replicate k.toNat d)) M2
variable {p p2 pos2 : Pos}
def wLstRgF1 (ta : TE3) : TE3 := fun τ M Q => ta τ M fun d M1 => asI d fun n => (-(2 ^ 62) ≤ n ∧ n ≤ 16777216) ∧ Q (.rol (rgD 0 n.toNat)) M1
def wLstRgF2 (ta tb : TE3) : TE3 := fun τ M Q => ta τ M fun d M1 => tb τ M1 fun e M2 => asI d fun i => asI e fun j => (-(2 ^ 60) ≤ i ∧ i < 2 ^ 60 ∧ -(2 ^ 60) ≤ j ∧ j < 2 ^ 60 ∧ j - i ≤ 16777216) ∧ Q (.rol (rgD i (j - i).toNat)) M2
theorem e_listRgF1 (hc : X.calm = true) (zl : X.mg "list" = none) (zr : X.mg "range" = none) (ha : PE3 bs X a ta) (gl : Gl X "list" := by rfl) (gr : Gl X "range" := by rfl)
    (na : starEach [a] X.env = (false, eval a X.env) :: starEach [] X.env := by rfl) (nb : starEach [.Call (.Name "range" p2) [a] [] pos2] X.env = (false, eval (.Call (.Name "range" p2) [a] [] pos2) X.env) :: starEach [] X.env := by rfl) :
    PE3 bs X (.Call (.Name "list" p) [.Call (.Name "range" p2) [a] [] pos2] [] pos) (wLstRgF1 ta) := by
  refine PE.weak (PE_frz (pe_listRg hc gl zl (prg_1 gr zr ha na) nb)) ?_
  rintro σ H Q ⟨τ, M, Q3, e, m, q, k⟩
  refine ⟨τ, M, _, e, m, q, fun v H1 d M1 x1 m1 r1 q1 => ?_⟩
  cases d with
  | int n =>
    cases r1
    refine ⟨n, rfl, rg1_ok q1.1, fun p hp => ?_⟩
    have l := rds_rg (K := X.K) (H := H1) 0 n
    rw [Int.sub_zero] at l
    exact fq_new m1 hp l fun H' x2 m2 r2 => k _ H' _ M1 (x1.trans x2) m2 r2 q1.2
  | _ => exact False.elim q1
end
section
variable {bs : BS} {X : Cx} {elt tg iter : Expr} {ifs : List Expr} {scope : Scope} {own : List (Str × Nat)} {pos : Pos} {wi : TI3} {g : TG3} {tt : TT3} {te : TE3} {ix : List Nat}
def wLcF (wi : TI3) (g : TG3) (tt : TT3) (te : TE3) (vs : List Nat) : TE3 := fun τ M Q => wLcL wi g tt te vs τ M fun acc M2 => Q (.rol acc) M2
theorem ext_frz {M M' : Mp} {H H' : Hp} {L : Addr} {vs : List V} {o : Obj} (x : Ext M M' H H') (hv : H' L = some (.lst vs)) (hf : M' L = none) (z : M L ≠ none ∨ H L = none) : Ext M M' H (upd H' L (.frz o (.lst vs))) := by
  refine ⟨fun a u ha hm => ?_, x.dom⟩
  by_cases e : a = L
  · subst e
    rcases z with z | z
    · exact absurd hm z
    · rw [ha] at z; cases z
  · rw [upd_ne e]; exact x.fr a u ha hm
theorem lift_lcF (hix : ∀ i ∈ ix, i ∈ own.map (·.2)) : ∀ σ H (Q : VK), lift X.K bs (wLcF wi g tt te (own.map (·.2))) σ H Q → tLc (liftI X.K bs wi) (liftG X.K bs ix g) (liftT X.K bs tt) (lift X.K bs te) (own.map (·.2)) σ H (FQ Q) := by
  rintro σ H Q ⟨τ, M, Q3, e, m, q, k⟩
  refine lift_lcL hix σ H _ ⟨τ, M, _, e, m, q, fun L H' acc M' x m' f z q' => ?_⟩
  obtain ⟨vs, hv, r⟩ := f.lst
  refine .inr ⟨L, vs, hv, fun o => ?_⟩
  have st := still_frz (K := X.K) (o := o) hv
  have y := ext_frz (o := o) x hv f.free z
  refine k (.ref L) _ (.rol acc) M' y (m.to y fun a u h => (m'.m a u h).go st fun w hw => ?_) (.rol (.inl ⟨o, upd_same⟩) (r.go st)) q'
  rw [upd_ne (ne_m h f.free)]; exact hw
theorem e_lcF (hix : ∀ i ∈ ix, i ∈ own.map (·.2)) (hc : X.calm = true) (hN : X.N.Nodup) (hi : PI3 bs X tg iter wi) (ok : BlkOk X.N X.env.scope scope own)
    (hg : ∀ (s : Shared) (H : Hp) (C : Addr) (cl : List (Str × Addr)) (fp : List Addr), PG3 bs (X.blk s H scope (compEnvC scope cl C X.env) fp) tg ix g)
    (ht : ∀ (s : Shared) (H : Hp) (C : Addr) (cl : List (Str × Addr)) (fp : List Addr), PTs3 bs (X.blk s H scope (compEnvC scope cl C X.env) fp) ifs tt)
    (he : ∀ (s : Shared) (H : Hp) (C : Addr) (cl : List (Str × Addr)) (fp : List Addr), PE3 bs (X.blk s H scope (compEnvC scope cl C X.env) fp) elt te) (hs : ∀ x, foldedSetIterable iter X.env x = pure x := by intro _; rfl) :
    PE3 bs X (.ListComp elt [⟨tg, iter, ifs, 0⟩] scope pos) (wLcF wi g tt te (own.map (·.2))) :=
  PE.weak (PE_frz (pe_lc (g := liftG X.K bs ix g) (tt := liftT X.K bs tt) (te := lift X.K bs te) hc hN hi ok hg ht he hs)) (lift_lcF hix)
theorem s_setLcF (hix : ∀ i ∈ ix, i ∈ own.map (·.2)) {i : Nat} {y : Str} {py spos : Pos} (hc : X.calm = true) (hN : X.N.Nodup) (hy : X.N[i]? = some y) (hyl : X.env.scope.names.lookup y = some .local)
    (hsw : swapsWith (.ListComp elt [⟨tg, iter, ifs, 0⟩] scope pos) (some (.Name y py)) spos.line X.env = pure true) (hi : PI3 bs X tg iter wi) (ok : BlkOk X.N X.env.scope scope own)
    (hg : ∀ (s : Shared) (H : Hp) (C : Addr) (cl : List (Str × Addr)) (fp : List Addr), PG3 bs (X.blk s H scope (compEnvC scope cl C X.env) fp) tg ix g)
    (ht : ∀ (s : Shared) (H : Hp) (C : Addr) (cl : List (Str × Addr)) (fp : List Addr), PTs3 bs (X.blk s H scope (compEnvC scope cl C X.env) fp) ifs tt)
    (he : ∀ (s : Shared) (H : Hp) (C : Addr) (cl : List (Str × Addr)) (fp : List Addr), PE3 bs (X.blk s H scope (compEnvC scope cl C X.env) fp) elt te) (hs : ∀ x, foldedSetIterable iter X.env x = pure x := by intro _; rfl) :
    PS3 bs X (.Assign [.Name y py] (.ListComp elt [⟨tg, iter, ifs, 0⟩] scope pos) spos) (wSet i (wLcF wi g tt te (own.map (·.2)))) := by
  refine PS.weak (PS_frz (ps_setLc (g := liftG X.K bs ix g) (tt := liftT X.K bs tt) (te := lift X.K bs te) hc hN hy hyl hsw hi ok hg ht he hs)) ?_
  rintro D σ H ⟨τ, M, D3, e, m, q, kn, _⟩
  exact lift_lcF hix σ H (fun v H' => D.nx (σ.set i (some v)) H') ⟨τ, M, _, e, m, q, fun v H' d M' x m1 r q1 => kn _ _ H' M' x ((e.go (x.still m)).set r) m1 q1⟩
end
def LstV (K : PySem.W.Frag) (H : Hp) (a : Addr) (xs : List V) : Prop := H a = some (.lst xs) ∨ RoL K H a xs
theorem LstV.sq {K : PySem.W.Frag} {H : Hp} {a : Addr} {xs : List V} (h : LstV K H a xs) : SqL K H a xs := by
  rcases h with h | h
  · exact SqL.of h
  · exact h.sq
def lstI (M : Mp) : D → Option (List D)
  | .rol ds => some ds
  | .ref a => lstOf (M a)
  | _ => none
theorem lst_of {K : PySem.W.Frag} {H : Hp} {M : Mp} {v : V} {d : D} {ds : List D} (m : RM0 K H M) (r : RD K H v d) (h : lstI M d = some ds) : ∃ p vs, v = .ref p ∧ LstV K H p vs ∧ RDs K H vs ds := by
  cases d with
  | rol es =>
    cases r with
    | rol h1 h2 => cases h; exact ⟨_, _, rfl, .inr h1, h2⟩
  | ref a =>
    cases r
    obtain ⟨vs, hv, l⟩ := m a _ (lstOf_some h)
    exact ⟨_, _, rfl, .inl hv, l⟩
  | _ => cases h
theorem inv_lstV {X : Cx} {pins : List (Addr × Obj)} {σ : L2.St} {H : Hp} {s : Shared} {l : Addr} {xs : List V} (I : Inv X pins σ H s) (h : LstV X.K H l xs) :
    xs.length ≤ sizeLine ∧ ∃ (its : List Value) (n : Nat), Vals xs its ∧ xs.length = its.length ∧ s.heap.get? l = some { cls := .type "list", data := .seq its.toArray n } := by
  rcases h with h | ⟨o, h⟩ | ⟨its, n, h, z, v⟩
  · obtain ⟨z, its, n, r, e⟩ := I.hok l _ h
    exact ⟨z, its, n, r, r.length, e⟩
  · obtain ⟨_, z, its, n, r, e⟩ := I.hok l _ h
    exact ⟨z, its, n, r, r.length, e⟩
  · have e := I.kIn l _ h
    have hl := v.length
    exact ⟨by rw [hl, Array.length_toList]; exact z, its.toList, n, v, hl, by simpa using e⟩
section
variable {bs : BS} {X : Cx}
def rCatV (K : PySem.W.Frag) : R2 := fun x y H Q => ∃ l b xs zs, x = .ref l ∧ y = .ref b ∧ LstV K H l xs ∧ LstV K H b zs ∧ xs.length + zs.length ≤ sizeLine ∧ ∀ p, H p = none → Q (.ref p) (upd H p (.lst (xs ++ zs)))
theorem op_catV : OpR X (binaryOp .Add) (rCatV X.K) := by
  intro pins s σ H x y v u Q I rx ry h
  obtain ⟨l, b, xs, zs, rfl, rfl, hH, hB, hz, q⟩ := h
  cases rx
  cases ry
  obtain ⟨z, its, n, r, hl, e⟩ := inv_lstV I hH
  obtain ⟨z2, its2, n2, r2, hl2, e2⟩ := inv_lstV I hB
  refine PySem.P.add_list e e2 ?_ (by rw [List.size_toArray, List.size_toArray]; omega)
  have ea : its.toArray ++ its2.toArray = (its ++ its2).toArray := by simp
  rw [ea]
  exact ⟨.ref _, _, I.lnew (t' := s.toks) (r.append r2) (by rw [List.length_append]; omega), rfl, q _ I.fresh⟩
def catL (xs ys : List D) (M : Mp) (Q : VK3) : Prop := xs.length + ys.length ≤ sizeLine ∧ Q (.rol (xs ++ ys)) M
def catM (xs ys : List D) (M : Mp) (Q : VK3) : Prop := xs.length + ys.length ≤ sizeLine ∧ ∀ p, M p = none → Q (.ref p) (mset M p (.lst (xs ++ ys)))
/-- + whose list is data -/
def oAddF : R23 := fun d e M Q => match d with
  | .int _ => oAdd d e M Q
  | .str _ => oAdd d e M Q
  | .tup _ => oAdd d e M Q
  | d => asL (lstI M d) fun xs => asL (lstI M e) fun ys => catL xs ys M Q
/-- + whose list may be written -/
def oAddM : R23 := fun d e M Q => asL (lstI M d) fun xs => asL (lstI M e) fun ys => catM xs ys M Q
theorem op3w {f : Value → Value → Sem Value} {r : R23} {d e : D} {x y : V} {H : Hp} {M : Mp} {Q : VK} {Q3 : VK3} (ho : OpR X f (lift2 X.K bs r)) (r1 : RD X.K H x d) (r2 : RD X.K H y e) (m : RM X.K bs H M) (q : r d e M Q3)
    (k : ∀ v H' z M', Ext M M' H H' → RM X.K bs H' M' → RD X.K H' v z → Q3 z M' → Q v H') : ∃ r2 : R2, OpR X f r2 ∧ r2 x y H Q := ⟨_, ho, d, e, M, Q3, r1, r2, m, q, k⟩
theorem o_addF : OpR X (binaryOp .Add) (lift2 X.K bs oAddF) := op3 fun d e x y H M Q Q3 r1 r2 m q k => by
  have li : (asL (lstI M d) fun xs => asL (lstI M e) fun ys => catL xs ys M Q3) → ∃ r2 : R2, OpR X (binaryOp .Add) r2 ∧ r2 x y H Q := fun q => by
    unfold asL at q
    split at q
    · rename_i xs hx
      split at q
      · rename_i ys hy
        obtain ⟨a, vs, rfl, hv, l1⟩ := lst_of m.m r1 hx
        obtain ⟨b, ws, rfl, hw, l2⟩ := lst_of m.m r2 hy
        refine ⟨_, OpR_frz op_catV, a, b, vs, ws, rfl, rfl, hv, hw, by rw [l1.length, l2.length]; exact q.1, fun p hp => ?_⟩
        exact fq_new m hp (l1.app l2) fun H' x2 m2 r3 => k _ H' _ M x2 m2 r3 q.2
      · exact False.elim q
    · exact False.elim q
  cases d with
  | int _ => exact op3w o_add r1 r2 m q k
  | str _ => exact op3w o_add r1 r2 m q k
  | tup _ => exact op3w o_add r1 r2 m q k
  | _ => exact li q
def rRepV (K : PySem.W.Frag) : R2 := fun x y H Q => ∃ l k xs, x = .ref l ∧ y = .int k ∧ LstV K H l xs ∧ -(2 ^ 63) ≤ k ∧ k < 2 ^ 63 ∧ xs.length * k.toNat ≤ sizeLine ∧
  ∀ p, H p = none → Q (.ref p) (upd H p (.lst (List.replicate k.toNat xs).flatten))
theorem op_repV : OpR X (binaryOp .Mult) (rRepV X.K) := by
  intro pins s σ H x y v u Q I rx ry h
  obtain ⟨l, k, xs, rfl, rfl, hH, h1, h2, hz, q⟩ := h
  cases rx
  obtain ⟨t, rfl⟩ := ry
  obtain ⟨z, its, n, r, hl, e⟩ := inv_lstV I hH
  have hlen : its.toArray.size * k.toNat ≤ sizeLine := by rw [List.size_toArray, ← hl]; exact hz
  have hcap : ¬ its.toArray.size * k.toNat > (2 ^ 63 - 1) / 8 := by
    have : (sizeLine : Nat) ≤ (2 ^ 63 - 1) / 8 := by decide
    omega
  have hfit : ¬ (!Builtin.List.listFitsIndex k) = true := by
    rw [fitsIndex_both h1 h2]
    exact Bool.false_ne_true
  have hlong : ¬ Builtin.List.listTooLong (its.toArray.size * k.toNat) = true := by
    rw [notLongL hlen]
    exact Bool.false_ne_true
  have hnew : List.foldl (fun x1 x2 => x1 ++ x2) #[] (List.replicate (if its.toArray.isEmpty = true then 0 else k.toNat) its.toArray) = (List.replicate k.toNat its).flatten.toArray := by
    have f0 : ∀ m : Nat, List.foldl (fun x1 x2 => x1 ++ x2) #[] (List.replicate m its.toArray) = (List.replicate m its).flatten.toArray := fun m => by
      have := foldl_rep its m []
      rw [List.nil_append] at this
      exact this
    rw [f0]
    cases its with
    | nil => simp
    | cons a r' => rw [if_neg (by simp)]
  refine wpAny_binaryOp_repeat_ref (T := "list") (U := "int") (by decide) ⟨_, e, rfl⟩ (fun s' => typeIs_int s' k t) noFill_list_mul F.fills_int_mul F.slot_int_rmul repeat_list F.slot_int_index.lookup
    (call_meets F.slot_int_rmul (typeIs_int s k t) F.entry_int_rmul (F.args_int_rmul_2 _ _) (int___rmul___int_list k t l its.toArray n)
      ⟨e, rfl, ⟨_, e, rfl⟩, call_meets F.slot_list_mul ⟨_, e, rfl⟩ F.entry_list_mul (F.args_list_mul_2 _ _) (AutoListH.list___mul___list_int_3 l its.toArray n k t hfit hcap hlong) ⟨e, ?_⟩⟩)
  rw [hnew]
  exact ⟨.ref _, _, I.lnew (t' := s.toks) (r.rep k.toNat) (by rw [PyProof.Rows.lm_len_rep_flat, Nat.mul_comm]; exact hz), rfl, q _ I.fresh⟩
/-- * whose list is data -/
def repL (xs : List D) (e : D) (M : Mp) (Q : VK3) : Prop := asI e fun k => -(2 ^ 63) ≤ k ∧ k < 2 ^ 63 ∧ xs.length * k.toNat ≤ sizeLine ∧ Q (.rol (List.replicate k.toNat xs).flatten) M
def oMulF : R23 := fun d e M Q => match d with
  | .int _ => oMul d e M Q
  | d => asL (lstI M d) fun xs => repL xs e M Q
theorem o_mulF : OpR X (binaryOp .Mult) (lift2 X.K bs oMulF) := op3 fun d e x y H M Q Q3 r1 r2 m q k => by
  have li : (asL (lstI M d) fun xs => repL xs e M Q3) → ∃ r2 : R2, OpR X (binaryOp .Mult) r2 ∧ r2 x y H Q := fun q => by
    unfold asL at q
    split at q
    · rename_i xs hx
      cases e with
      | int n =>
        cases r2
        obtain ⟨a, vs, rfl, hv, l1⟩ := lst_of m.m r1 hx
        obtain ⟨q1, q2, q3, q4⟩ := q
        refine ⟨_, OpR_frz op_repV, a, n, vs, rfl, rfl, hv, q1, q2, by rw [l1.length]; exact q3, fun p hp => ?_⟩
        exact fq_new m hp (l1.rep n.toNat) fun H' x2 m2 r3 => k _ H' _ M x2 m2 r3 q4
      | _ => exact False.elim q
    · exact False.elim q
  cases d with
  | int _ => exact op3w o_mul r1 r2 m q k
  | _ => exact li q
def oSlF : D → Option Int → Option Int → Mp → VK3 → Prop := fun d lo hi M Q => match d with
  | .tup ds => Q (.tup (cutD ds lo hi)) M
  | d => asL (lstI M d) fun ds => Q (.rol (cutD ds lo hi)) M
def oSlM : D → Option Int → Option Int → Mp → VK3 → Prop := fun d lo hi M Q => asL (lstI M d) fun ds => ∀ p, M p = none → Q (.ref p) (mset M p (.lst (cutD ds lo hi)))
theorem s_slF : SlR X (fun x lo hi H Q => ∃ d M Q3, RD X.K H x d ∧ RM X.K bs H M ∧ oSlF d lo hi M Q3 ∧ ∀ v H' z M', Ext M M' H H' → RM X.K bs H' M' → RD X.K H' v z → Q3 z M' → Q v H') := by
  rintro pins s σ H x v vl vu lo hi sl Q I rx hs pl pu ⟨d, M, Q3, r, m, q, k⟩
  have li : (asL (lstI M d) fun ds => Q3 (.rol (cutD ds lo hi)) M) → ∃ T id, typeLookup (.type T) "__getitem__" = pure (some (.builtin id)) ∧ s.TypeIs v T ∧ wpAny (model X.prog X.w) X.A (getItem v (.ref sl)) (EP X pins σ Q) X.xe s := fun q => by
    unfold asL at q
    split at q
    · rename_i ds hd
      obtain ⟨a, vs, rfl, hv, l⟩ := lst_of m.m r hd
      obtain ⟨T, id, w1, w2, w3⟩ := sl_list pins s σ H _ v vl vu lo hi sl (FQ Q) I rx hs pl pu ⟨_, _, rfl, hv.sq, fun p hp => fq_new m hp (cut_rel l lo hi) fun H' x2 m2 r2 => k _ H' _ M x2 m2 r2 q⟩
      exact ⟨T, id, w1, w2, thn w3 fun _ _ => ep_frz⟩
    · exact False.elim q
  cases d with
  | tup ds => exact s_sl pins s σ H x v vl vu lo hi sl Q I rx hs pl pu ⟨_, M, Q3, r, m, q, k⟩
  | _ => exact li q
abbrev PT3o := St3 → Mp → (Option Int → Mp → Prop) → Prop
def wSlF (te : TE3) (tl th : PT3o) : TE3 := fun τ M Q => te τ M fun d M1 => tl τ M1 fun lo M2 => th τ M2 fun hi M3 => oSlF d lo hi M3 Q
def wSlM (te : TE3) (tl th : PT3o) : TE3 := fun τ M Q => te τ M fun d M1 => tl τ M1 fun lo M2 => th τ M2 fun hi M3 => oSlM d lo hi M3 Q
theorem e_sliceF {e : Expr} {lo hi : Option Expr} {te : TE3} {tl th : PT3o} {pos p2 : Pos} (he : PE3 bs X e te) (hl : PO3 bs X lo tl) (hh : PO3 bs X hi th) : PE3 bs X (.Subscript e (.Slice lo hi none p2) pos) (wSlF te tl th) := by
  refine PE.weak (pe_slice (s_slF (bs := bs)) he hl hh) ?_
  rintro σ H Q ⟨τ, M, Q3, e, m, q, k⟩
  refine ⟨τ, M, _, e, m, q, fun v H1 d M1 x1 m1 r1 q1 => ⟨τ, M1, _, e.go (x1.still m), m1, q1, fun lo H2 M2 x2 m2 q2 => ⟨τ, M2, _, (e.go (x1.still m)).go (x2.still m1), m2, q2, fun hi H3 M3 x3 m3 q3 => ?_⟩⟩⟩
  exact ⟨d, M3, Q3, (r1.go (x2.still m1)).go (x3.still m2), m3, q3, fun v H' z M' x4 m4 r4 q4 => k v H' z M' (x1.trans (x2.trans (x3.trans x4))) m4 r4 q4⟩
def bListF : List D → Mp → VK3 → Prop := b1 fun d M Q => asL (items M d) fun ds => Q (.rol ds) M
theorem c_listF : CallR X (.type "list") (liftV X.K bs bListF) := call1 fun d x H M Q Q3 r m q k => by
  unfold asL at q
  split at q
  · rename_i ds hd
    obtain ⟨p, vs, rfl, hs, l⟩ := items_of m.m r hd
    refine ⟨_, CallR_frz call_list_of, p, vs, rfl, hs, fun c hc => ?_⟩
    exact fq_new m hc l fun H' x2 m2 r2 => k _ H' _ M x2 m2 r2 q
  · exact False.elim q
def asT (o : Option (List Bool)) (k : List Bool → Prop) : Prop := match o with
  | some l => k l
  | none => False
def bAllF : List D → Mp → VK3 → Prop := b1 fun d M Q => asL (lstI M d) fun ds => asT (bls ds) fun l => Q (.bl (l.all id)) M
def bAnyF : List D → Mp → VK3 → Prop := b1 fun d M Q => asL (lstI M d) fun ds => asT (bls ds) fun l => Q (.bl (l.any id)) M
theorem c_anyF (hc : X.calm = true) : CallR X (.builtin "any") (liftV X.K bs bAnyF) := call1 fun d x H M Q Q3 r m q k => by
  unfold asL at q
  split at q
  · rename_i ds hd
    unfold asT at q
    split at q
    · rename_i l hl
      obtain ⟨a, vs, rfl, hv, rs⟩ := lst_of m.m r hd
      have e := bls_of hl rs
      subst e
      exact ⟨_, cr_any hc, a, l, rfl, hv.sq, k _ _ _ M .refl m (.bl _) q⟩
    · exact False.elim q
  · exact False.elim q
/-- a list of ints -/
def ils : List D → Option (List Int)
  | [] => some []
  | .int b :: r => (ils r).map (b :: ·)
  | _ :: _ => none
def asJ (o : Option (List Int)) (k : List Int → Prop) : Prop := match o with
  | some l => k l
  | none => False
theorem ils_of {K : PySem.W.Frag} {H : Hp} : ∀ {ds : List D} {vs : List V} {l : List Int}, ils ds = some l → RDs K H vs ds → vs = l.map V.int
  | [], _, _, h, r => by cases r; cases h; rfl
  | d :: ds, _, l, h, r => by
    cases r with
    | cons r1 r2 =>
      cases d with
      | int b =>
        cases r1
        simp only [ils] at h
        obtain ⟨l', h', rfl⟩ := Option.map_eq_some_iff.mp h
        rw [ils_of h' r2]; rfl
      | _ => cases h
def rExtendV (K : PySem.W.Frag) : V → List V → Hp → VK → Prop := fun x vs H Q => ∃ l b xs zs, x = .ref l ∧ vs = [.ref b] ∧ H l = some (.lst xs) ∧ LstV K H b zs ∧ xs.length + zs.length ≤ sizeLine ∧ Q .non (upd H l (.lst (xs ++ zs)))
theorem mt_extendV : MtR X "list.extend" (rExtendV X.K) := by
  intro pins s σ H x vs v us Q I rx rv h
  obtain ⟨l, b, xs, zs, rfl, rfl, hH, hB, hz, q⟩ := h
  cases rx
  obtain ⟨u, rfl, ru⟩ := rv.one
  cases ru
  obtain ⟨z, its, n, r, hl, e⟩ := I.lstM hH
  obtain ⟨z2, its2, n2, r2, hl2, e2⟩ := inv_lstV I hB
  have hsz : its.toArray.size + its2.toArray.size ≤ sizeLine := by rw [List.size_toArray, List.size_toArray]; omega
  have hlong : ¬ (!its.toArray.isEmpty && Builtin.List.listTooLong (its.toArray.size + its2.toArray.size)) = true := by
    rw [notLongL hsz, Bool.and_false]
    exact Bool.false_ne_true
  refine call_meets F.slot_list_extend ⟨_, e, rfl⟩ F.entry_list_extend (F.args_list_extend_2 _ _)
    (AutoSeq1.list_extend_list_list_0 l its.toArray n b its2.toArray n2 hlong (by rw [List.size_toArray]; omega) (by omega)) ⟨e, e2, ?_⟩
  refine ⟨.non, _, I.lset (its' := its ++ its2) hH e (by simp) (r.append r2) ?_, rfl, q⟩
  rw [List.length_append]
  omega
def oExtF : M23 := fun d ds M Q => match d, ds with
  | .ref a, [e] => asL (lstOf (M a)) fun xs => asL (lstI M e) fun ys => xs.length + ys.length ≤ sizeLine ∧ Q .non (mset M a (.lst (xs ++ ys)))
  | _, _ => False
theorem m_extF : MtR X "list.extend" (liftM X.K bs oExtF) := by
  rintro pins s σ H x xs v us Q I r1 r2 ⟨d, ds, M, Q3, rd, rs, m, q, k⟩
  unfold oExtF at q
  split at q
  · rename_i a b
    cases rd
    unfold asL at q
    split at q
    · rename_i zs hz
      split at q
      · rename_i ys hy
        have ha := lstOf_some hz
        obtain ⟨vs, hv, l⟩ := m.at ha
        cases rs with
        | cons ry rn =>
          cases rn
          obtain ⟨b, ws, rfl, hw, l2⟩ := lst_of m.m ry hy
          refine mt_extendV pins s σ H _ _ v us Q I r1 r2 ⟨a, b, vs, ws, rfl, rfl, hv, hw, by rw [l.length, l2.length]; exact q.1, ?_⟩
          obtain ⟨x2, m2⟩ := m.putL ha (l.app l2)
          exact k _ _ _ _ x2 m2 .non q.2
      · exact False.elim q
    · exact False.elim q
  · exact False.elim q
theorem e_extendF {o e : Expr} {to te : TE3} {apos cpos : Pos} (ho : PE3 bs X o to) (he : PE3 bs X e te) (hs1 : starEach [e] X.env = (false, eval e X.env) :: starEach [] X.env := by rfl)
    (hbase : attributeBase o "extend" X.env (eval o X.env) = eval o X.env := by rfl)
    (hfew : ((backTo cpos (starEach (e :: []) X.env)).all (fun x => !x.1) && (backToKw cpos (keywordEach [] X.env)).all (fun x => x.1.isSome)
      && decide ((e :: []).length + ([] : List Keyword).length + (if ([] : List Keyword).isEmpty then 0 else 1) < 30)) = true := by rfl)
    (hline : (apos.endLine == cpos.line) = true := by rfl) :
    PE3 bs X (.Call (.Attribute o "extend" apos) [e] [] cpos) (wBM oExtF to (wCons te wNil)) :=
  e_bm PySem.F.plainAttrs_list PySem.F.slot_list_extend PySem.F.type_list_extend m_extF ho (a_cons he a_nil hs1) hbase hfew hline hs1 rfl
theorem it_zipR {K : PySem.W.Frag} {a b : Addr} {vs ws : List V} {ds es : List D} : ItOk K (Itz K a b) (fun H => (RoL K H a vs ∧ RDs K H vs ds) ∧ RoL K H b ws ∧ RDs K H ws es) (fun _ => True) (zipD ds es) where
  mono := fun M M' H H' m x p => ⟨⟨(x.still0 m).2 _ _ p.1.1, p.1.2.go (x.still0 m)⟩, (x.still0 m).2 _ _ p.2.1, p.2.2.go (x.still0 m)⟩
  stop := fun H M m p _ => ⟨vs, ws, p.1.1.sq, p.2.1.sq, by
    rw [p.1.2.length, p.2.2.length]
    unfold zipD
    rw [List.length_zipWith]
    omega⟩
  go := fun i d H M m p _ hd => by
    obtain ⟨x, y, hx, hy, rfl⟩ := zipD_get hd
    obtain ⟨v, hv, rv⟩ := p.1.2.get hx
    obtain ⟨w, hw, rw'⟩ := p.2.2.get hy
    refine ⟨⟨vs, ws, v, w, p.1.1.sq, p.2.1.sq, hv, hw⟩, ?_⟩
    rintro x' H' ⟨T, v', w', rfl, hT, rfl, e1, e2⟩
    have f1 := e1 vs p.1.1.sq
    have f2 := e2 ws p.2.1.sq
    rw [hv] at f1; cases f1
    rw [hw] at f2; cases f2
    obtain ⟨x2, m2⟩ := m.upNew (o := .tup [v, w]) hT
    exact ⟨x2, m2, .tup (SqT.of upd_same) (.cons (rv.go (x2.still0 m)) (.cons (rw'.go (x2.still0 m)) .nil))⟩
def wZipF (t : TA3) : TI3 := fun τ M R => t τ M fun ds M1 => match ds with
  | [.tup xs, .tup ys] => R (zipD xs ys) (fun _ => True) M1
  | [.rol xs, .rol ys] => R (zipD xs ys) (fun _ => True) M1
  | _ => False
theorem w_zipF {tg a b : Expr} {ta : TA3} {p pos tpos : Pos} {elts : List Expr} {kk : Nat} (hm : X.mg "zip" = none) (ha : PA3 bs X [a, b] ta) (hg : Gl X "zip" := by rfl)
    (hs : starEach [a, b] X.env = (false, eval a X.env) :: starEach [b] X.env := by rfl) (hpl : (backTo pos (starEach [b] X.env)).any (·.1) = false := by rfl) :
    PI3 bs X (.Tuple elts kk tpos) (.Call (.Name "zip" p) [a, b] [] pos) (wZipF ta) := by
  refine PI.weak (RZ.pi_zipA hg hm ha hs hpl) ?_
  rintro σ H R ⟨τ, M, R3, e, m, q, k⟩
  refine ⟨τ, M, _, e, m, q, fun vs H1 ds M1 x1 m1 r1 q1 => ?_⟩
  split at q1
  · rename_i xs ys
    cases r1 with
    | cons r rn =>
      cases rn with
      | cons r' rn =>
        cases rn
        cases r with
        | tup h1 h2 =>
          cases r' with
          | tup h3 h4 => exact ⟨_, _, _, _, rfl, .inr ⟨h1, h3, k _ _ _ _ H1 M1 x1 m1 it_zipT ⟨⟨h1, h2⟩, h3, h4⟩ q1⟩⟩
  · rename_i xs ys
    cases r1 with
    | cons r rn =>
      cases rn with
      | cons r' rn =>
        cases rn
        cases r with
        | rol h1 h2 =>
          cases r' with
          | rol h3 h4 => exact ⟨_, _, _, _, rfl, .inl ⟨h1.sq, h3.sq, k _ _ _ _ H1 M1 x1 m1 it_zipR ⟨⟨h1, h2⟩, h3, h4⟩ q1⟩⟩
  · exact False.elim q1
end
end L3
set_option Elab.async false
set_option linter.all false
set_option maxRecDepth 100000
set_option maxHeartbeats 4000000
namespace RZ
open PySem
open PySem.Sem (wp)
section
variable {prog : Program} {w : World} {A : Around} {E : Value → Shared → Prop} {s : Shared}
theorem alive_any {M : Model} {a : Addr} {Q : Option Obj → Shared → Prop} (h : Q (s.heap.get? a) s) : wpAny M A (loadIfAlive a) Q E s := fun _ _ _ => h
/-- zip's own object, with what it says of the tuple that was handed out -/
abbrev ZipG (h : Heap) (z TI TO : Addr) (f0 : Value) (f1 : Bool) : Prop :=
  h.get? z = some { cls := .type "zip", dict := none, data := .fields #[f0, .bool f1, .bool false, .ref TI, .ref TO], slots := #[] }
def Told (f0 : Value) : Prop := f0 = .none ∨ ∃ a, f0 = rawInt a
theorem owned_free {z TI TO : Addr} {f0 : Value} {f1 : Bool} {Q : Bool → Shared → Prop} (hz : ZipG s.heap z TI TO f0 f1) (hf : Told f0)
    (hQ : ∀ b h' g, ZipG h' z TI TO f0 g → Heap.SameBut z s.heap h' → Q b { s with heap := h' }) : wpAny (model prog w) A (Builtin.SmallTypes.ownedTupleIsFree (.ref z)) Q E s := by
  unfold Builtin.SmallTypes.ownedTupleIsFree
  refine wpAny_bind (wpAny_field hz rfl (x := f0) rfl ?_)
  rcases hf with rfl | ⟨a, rfl⟩
  · exact wpAny_pure (hQ true s.heap f1 hz (.refl _ _))
  · show wpAny _ _ (loadIfAlive a.toNat >>= _) _ _ s
    refine wpAny_bind (alive_any ?_)
    cases ha : s.heap.get? a.toNat with
    | none => exact wpAny_pure (hQ true s.heap f1 hz (.refl _ _))
    | some o =>
      show wpAny _ _ (field (.ref z) 1 >>= _) _ _ s
      refine wpAny_bind (wpAny_field hz rfl (x := .bool f1) rfl ?_)
      cases f1 with
      | true => exact wpAny_pure (hQ false s.heap true hz (.refl _ _))
      | false =>
        show wpAny _ _ (setField (.ref z) 1 (.bool true) >>= _) _ _ s
        exact wpAny_bind (wpAny_setField_rec hz (by simp) fun h' hz' hs' => wpAny_pure (hQ false h' true hz' hs'))
/-- a turn of zip, wherever its own tuple is -/
theorem zipN_next_item {z TI TO i1 i2 l1 l2 : Addr} {k1 k2 : Nat} {xs ys : Array Value} {x y a b f0 : Value} {f1 : Bool} {Q : Value → Shared → Prop} (D : ZipApart z TI TO i1 i2 l1 l2)
    (hz : ZipG s.heap z TI TO f0 f1) (hf : Told f0) (hTI : IsPair s.heap TI (.ref i1) (.ref i2)) (hTO : IsPair s.heap TO a b)
    (h1 : s.heap.IsTupleIter i1 l1 k1) (h2 : s.heap.IsTupleIter i2 l2 k2) (hl1 : s.heap.IsTuple l1 xs) (hl2 : s.heap.IsTuple l2 ys) (hx : xs[k1]? = some x) (hy : ys[k2]? = some y)
    (hQ : ∀ h' g0 g1 a' b', ZipG h' z TI TO g0 g1 → Told g0 → IsPair h' TO a' b' → h'.IsTupleIter i1 l1 (k1 + 1) → h'.IsTupleIter i2 l2 (k2 + 1) → IsPair h' s.heap.objs.size x y → h'.objs.size = s.heap.objs.size + 1 →
      (∀ c o, c ≠ z → c ≠ TO → c ≠ i1 → c ≠ i2 → s.heap.get? c = some o → h'.get? c = some o) → Q (.ref s.heap.objs.size) { s with heap := h' }) :
    wpAny (model prog w) A (Builtin.«zip.__next__» ⟨[.ref z], []⟩) (fun fin s' => ∃ v, fin = .done (.ret v) ∧ Q v s') E s := by
  show wpAny _ _ (field (.ref z) 2 >>= _) _ _ _
  refine wpAny_bind (wpAny_field hz rfl (x := .bool false) rfl ?_)
  show wpAny _ _ (field (.ref z) 3 >>= _) _ _ _
  refine wpAny_bind (wpAny_field hz rfl (x := .ref TI) rfl ?_)
  refine wpAny_bind (wpAny_seqItems hTI rfl ?_)
  show wpAny _ _ (Builtin.SmallTypes.ownedTupleIsFree (.ref z) >>= _) _ _ _
  refine wpAny_bind (owned_free hz hf fun fr h₀ g hz₀ hs₀ => ?_)
  have k0 : ∀ c o, c ≠ z → s.heap.get? c = some o → h₀.get? c = some o := fun c o c1 e => hs₀.extBut _ _ c1 e
  have hTO₀ : IsPair h₀ TO a b := k0 _ _ D.TOz hTO
  have h1₀ : h₀.IsTupleIter i1 l1 k1 := h1.extBut hs₀.extBut D.i1z
  have h2₀ : h₀.IsTupleIter i2 l2 k2 := h2.extBut hs₀.extBut D.i2z
  have hl1₀ : h₀.IsTuple l1 xs := hl1.extBut hs₀.extBut D.l1z
  have hl2₀ : h₀.IsTuple l2 ys := hl2.extBut hs₀.extBut D.l2z
  have hs0 : h₀.objs.size = s.heap.objs.size := hs₀.1
  cases fr with
  | true =>
    simp only [if_true]
    refine wpAny_bind (wpAny_rule ?_)
    refine wpAny_bind (wpAny_field hz₀ rfl (x := .ref TO) rfl ?_)
    refine wpAny_bind (wpAny_setField_rec hz₀ (by simp) fun h₁ hz₁ hs₁ => ?_)
    replace hz₁ : ZipG h₁ z TI TO .ellipsis g := hz₁
    refine wpAny_bind ?_
    simp only [List.zipIdx_cons, List.zipIdx_nil, List.forIn_cons, List.forIn_nil]
    refine wpAny_bind (wpAny_bind (wpAny_onRaise ?_))
    show wpAny _ _ (Builtin.SmallTypes.nextOf (.ref i1) >>= _) _ _ _
    refine wpAny_bind (nextOf_tuple_item (h1₀.extBut hs₁.extBut D.i1z) (hl1₀.extBut hs₁.extBut D.l1z) hx fun h₂ h1₂ hs₂ => wpAny_pure ?_)
    have hTO₂ : IsPair h₂ TO a b := hs₂.extBut _ _ D.TOi1 (hs₁.extBut _ _ D.TOz hTO₀)
    refine wpAny_bind (wpAny_seqItems hTO₂ rfl ?_)
    refine wpAny_bind (wpAny_updateSeq_pair hTO₂ fun h₃ hTO₃ hs₃ => ?_)
    replace hTO₃ : IsPair h₃ TO x b := hTO₃
    refine wpAny_bind (wpAny_letGo (wpAny_pure ?_))
    refine wpAny_bind (wpAny_bind (wpAny_onRaise ?_))
    show wpAny _ _ (Builtin.SmallTypes.nextOf (.ref i2) >>= _) _ _ _
    refine wpAny_bind (nextOf_tuple_item (((h2₀.extBut hs₁.extBut D.i2z).extBut hs₂.extBut D.i12.symm).extBut hs₃.extBut D.TOi2.symm)
      (((hl2₀.extBut hs₁.extBut D.l2z).extBut hs₂.extBut D.l2i1).extBut hs₃.extBut D.l2TO) hy fun h₄ h2₄ hs₄ => wpAny_pure ?_)
    have hTO₄ : IsPair h₄ TO x b := hs₄.extBut _ _ D.TOi2 hTO₃
    refine wpAny_bind (wpAny_seqItems hTO₄ rfl ?_)
    refine wpAny_bind (wpAny_updateSeq_pair hTO₄ fun h₅ hTO₅ hs₅ => ?_)
    replace hTO₅ : IsPair h₅ TO x y := hTO₅
    refine wpAny_bind (wpAny_letGo (wpAny_pure (wpAny_pure ?_)))
    refine wpAny_bind (wpAny_seqItems hTO₅ rfl ?_)
    refine wpAny_bind (wpAny_newTuple ?_)
    have hsz : h₅.objs.size = s.heap.objs.size := by rw [hs₅.1, hs₄.1, hs₃.1, hs₂.1, hs₁.1, hs0]
    have hz₅ : ZipG h₅ z TI TO .ellipsis g := hs₅.extBut _ _ D.TOz.symm (hs₄.extBut _ _ D.i2z.symm (hs₃.extBut _ _ D.TOz.symm (hs₂.extBut _ _ D.i1z.symm hz₁)))
    have hk₅ : ∀ c o, c ≠ z → c ≠ TO → c ≠ i1 → c ≠ i2 → s.heap.get? c = some o → h₅.get? c = some o := fun c o c1 c2 c3 c4 e =>
      hs₅.extBut _ _ c2 (hs₄.extBut _ _ c4 (hs₃.extBut _ _ c2 (hs₂.extBut _ _ c3 (hs₁.extBut _ _ c1 (k0 c o c1 e)))))
    have h1₅ : h₅.IsTupleIter i1 l1 (k1 + 1) := ((h1₂.extBut hs₃.extBut D.TOi1.symm).extBut hs₄.extBut D.i12).extBut hs₅.extBut D.TOi1.symm
    have h2₅ : h₅.IsTupleIter i2 l2 (k2 + 1) := h2₄.extBut hs₅.extBut D.TOi2.symm
    have hzlt : z < h₅.objs.size := Heap.lt_size hz₅
    show wpAny _ _ (Builtin.SmallTypes.ownedTupleHandOut (.ref z) (.ref h₅.objs.size) >>= _) _ _ _
    refine wpAny_bind ?_
    unfold Builtin.SmallTypes.ownedTupleHandOut
    have hz₆ : ZipG (h₅.push { cls := .type "tuple", data := .seq #[x, y] }) z TI TO .ellipsis g := Heap.get?_push_of_some _ hz₅
    refine wpAny_bind (wpAny_setField_rec hz₆ (by simp) fun h₇ hz₇ hs₇ => ?_)
    replace hz₇ : ZipG h₇ z TI TO (rawInt h₅.objs.size) g := hz₇
    refine wpAny_setField_rec hz₇ (by simp) fun h₈ hz₈ hs₈ => ?_
    replace hz₈ : ZipG h₈ z TI TO (rawInt h₅.objs.size) false := hz₈
    have up : ∀ c o, c ≠ z → h₅.get? c = some o → h₈.get? c = some o := fun c o c1 e => hs₈.extBut _ _ c1 (hs₇.extBut _ _ c1 (Heap.get?_push_of_some _ e))
    have hT₈ : IsPair h₈ h₅.objs.size x y := hs₈.extBut _ _ (Nat.ne_of_gt hzlt) (hs₇.extBut _ _ (Nat.ne_of_gt hzlt) (Heap.get?_push_size _ rfl))
    have hz8 : h₈.objs.size = h₅.objs.size + 1 := by rw [hs₈.1, hs₇.1, Heap.size_push]
    rw [hsz] at hz₈ hT₈ hz8
    refine wpAny_pure ⟨_, rfl, ?_⟩
    show Q (.ref h₅.objs.size) _
    rw [hsz]
    exact hQ h₈ _ _ _ _ hz₈ (.inr ⟨_, rfl⟩) (up _ _ D.TOz hTO₅) (h1₅.at fun o e => up _ o D.i1z e) (h2₅.at fun o e => up _ o D.i2z e) hT₈ hz8 fun c o c1 c2 c3 c4 e => up c o c1 (hk₅ c o c1 c2 c3 c4 e)
  | false =>
    simp only [Bool.false_eq_true, if_false]
    refine wpAny_bind ?_
    rw [← Array.forIn_toList]
    simp only [List.forIn_cons, List.forIn_nil]
    refine wpAny_bind (wpAny_bind (wpAny_holding ?_))
    show wpAny _ _ (Builtin.SmallTypes.nextOf (.ref i1) >>= _) _ _ _
    refine wpAny_bind (nextOf_tuple_item h1₀ hl1₀ hx fun h₂ h1₂ hs₂ => wpAny_pure ?_)
    refine wpAny_pure ?_
    refine wpAny_bind (wpAny_bind (wpAny_holding ?_))
    show wpAny _ _ (Builtin.SmallTypes.nextOf (.ref i2) >>= _) _ _ _
    refine wpAny_bind (nextOf_tuple_item (h2₀.extBut hs₂.extBut D.i12.symm) (hl2₀.extBut hs₂.extBut D.l2i1) hy fun h₄ h2₄ hs₄ => wpAny_pure ?_)
    refine wpAny_pure (wpAny_pure ?_)
    have hsz : h₄.objs.size = s.heap.objs.size := by rw [hs₄.1, hs₂.1, hs0]
    have hk₄ : ∀ c o, c ≠ z → c ≠ TO → c ≠ i1 → c ≠ i2 → s.heap.get? c = some o → h₄.get? c = some o := fun c o c1 c2 c3 c4 e => hs₄.extBut _ _ c4 (hs₂.extBut _ _ c3 (k0 c o c1 e))
    have hz₄ : ZipG h₄ z TI TO f0 g := hs₄.extBut _ _ D.i2z.symm (hs₂.extBut _ _ D.i1z.symm hz₀)
    have hTO₄ : IsPair h₄ TO a b := hs₄.extBut _ _ D.TOi2 (hs₂.extBut _ _ D.TOi1 hTO₀)
    have h1₄ : h₄.IsTupleIter i1 l1 (k1 + 1) := h1₂.extBut hs₄.extBut D.i12
    show wpAny _ _ (newTuple [x, y] >>= _) _ _ _
    refine wpAny_bind (wpAny_newTuple ?_)
    have up : ∀ c o, h₄.get? c = some o → (h₄.push { cls := .type "tuple", data := .seq #[x, y] }).get? c = some o := fun c o e => Heap.get?_push_of_some _ e
    have hT₅ : IsPair (h₄.push { cls := .type "tuple", data := .seq #[x, y] }) h₄.objs.size x y := Heap.get?_push_size _ rfl
    refine wpAny_pure ⟨_, rfl, ?_⟩
    show Q (.ref h₄.objs.size) _
    rw [hsz] at hT₅ ⊢
    exact hQ (h₄.push { cls := .type "tuple", data := .seq #[x, y] }) _ _ _ _ (up _ _ hz₄) hf (up _ _ hTO₄) (h1₄.at fun o e => up _ o e) (h2₄.at fun o e => up _ o e) hT₅ (by rw [Heap.size_push, hsz]) fun c o c1 c2 c3 c4 e => up c o (hk₄ c o c1 c2 c3 c4 e)
theorem zipN_next_end {z TI TO i1 i2 l1 l2 : Addr} {k1 k2 : Nat} {xs ys : Array Value} {a b f0 : Value} {f1 : Bool} {Q : Fin → Shared → Prop} (hh : A.handled = none) (D : ZipApart z TI TO i1 i2 l1 l2)
    (hz : ZipG s.heap z TI TO f0 f1) (hf : Told f0) (hTI : IsPair s.heap TI (.ref i1) (.ref i2)) (hTO : IsPair s.heap TO a b)
    (h1 : s.heap.IsTupleIter i1 l1 k1) (h2 : s.heap.IsTupleIter i2 l2 k2) (hl1 : s.heap.IsTuple l1 xs) (hl2 : s.heap.IsTuple l2 ys) (hend : xs[k1]? = none ∨ ys[k2]? = none)
    (hE : ∀ h' e, (∀ c o, c ≠ z → c ≠ TO → c ≠ i1 → c ≠ i2 → s.heap.get? c = some o → h'.get? c = some o) → (∃ o, h'.get? e = some o ∧ o.cls = .type "StopIteration") → E (.ref e) { s with heap := h' }) :
    wpAny (model prog w) A (Builtin.«zip.__next__» ⟨[.ref z], []⟩) Q E s := by
  show wpAny _ _ (field (.ref z) 2 >>= _) _ _ _
  refine wpAny_bind (wpAny_field hz rfl (x := .bool false) rfl ?_)
  show wpAny _ _ (field (.ref z) 3 >>= _) _ _ _
  refine wpAny_bind (wpAny_field hz rfl (x := .ref TI) rfl ?_)
  refine wpAny_bind (wpAny_seqItems hTI rfl ?_)
  show wpAny _ _ (Builtin.SmallTypes.ownedTupleIsFree (.ref z) >>= _) _ _ _
  refine wpAny_bind (owned_free hz hf fun fr h₀ g hz₀ hs₀ => ?_)
  have k0 : ∀ c o, c ≠ z → s.heap.get? c = some o → h₀.get? c = some o := fun c o c1 e => hs₀.extBut _ _ c1 e
  have hTO₀ : IsPair h₀ TO a b := k0 _ _ D.TOz hTO
  have h1₀ : h₀.IsTupleIter i1 l1 k1 := h1.extBut hs₀.extBut D.i1z
  have h2₀ : h₀.IsTupleIter i2 l2 k2 := h2.extBut hs₀.extBut D.i2z
  have hl1₀ : h₀.IsTuple l1 xs := hl1.extBut hs₀.extBut D.l1z
  have hl2₀ : h₀.IsTuple l2 ys := hl2.extBut hs₀.extBut D.l2z
  cases fr with
  | true =>
    simp only [if_true]
    refine wpAny_bind (wpAny_rule ?_)
    refine wpAny_bind (wpAny_field hz₀ rfl (x := .ref TO) rfl ?_)
    refine wpAny_bind (wpAny_setField_rec hz₀ (by simp) fun h₁ hz₁ hs₁ => ?_)
    replace hz₁ : ZipG h₁ z TI TO .ellipsis g := hz₁
    refine wpAny_bind ?_
    simp only [List.zipIdx_cons, List.zipIdx_nil, List.forIn_cons, List.forIn_nil]
    refine wpAny_bind (wpAny_bind (wpAny_onRaise ?_))
    show wpAny _ _ (Builtin.SmallTypes.nextOf (.ref i1) >>= _) _ _ _
    cases hx : xs[k1]? with
    | none =>
      refine wpAny_bind (nextOf_tuple_end hh (h1₀.extBut hs₁.extBut D.i1z) (hl1₀.extBut hs₁.extBut D.l1z) hx fun h₂ e hs₂ he => ?_)
      obtain ⟨oe, hoe, hce⟩ := he
      have hz₂ : ZipG h₂ z TI TO .ellipsis g := hs₂ _ _ D.i1z.symm hz₁
      have hez : e ≠ z := fun x => by subst x; rw [hz₂] at hoe; cases hoe; simp at hce
      refine wpAny_setField_rec hz₂ (by simp) fun h₃ _ hs₃ => hE h₃ e (fun c o c1 _ c3 _ x => hs₃.extBut _ _ c1 (hs₂ _ _ c3 (hs₁.extBut _ _ c1 (k0 c o c1 x)))) ⟨oe, hs₃.extBut _ _ hez hoe, hce⟩
    | some x =>
      have hy : ys[k2]? = none := by rcases hend with h | h; rw [hx] at h; cases h; exact h
      refine wpAny_bind (nextOf_tuple_item (h1₀.extBut hs₁.extBut D.i1z) (hl1₀.extBut hs₁.extBut D.l1z) hx fun h₂ h1₂ hs₂ => wpAny_pure ?_)
      have hTO₂ : IsPair h₂ TO a b := hs₂.extBut _ _ D.TOi1 (hs₁.extBut _ _ D.TOz hTO₀)
      refine wpAny_bind (wpAny_seqItems hTO₂ rfl ?_)
      refine wpAny_bind (wpAny_updateSeq_pair hTO₂ fun h₃ hTO₃ hs₃ => ?_)
      refine wpAny_bind (wpAny_letGo (wpAny_pure ?_))
      refine wpAny_bind (wpAny_bind (wpAny_onRaise ?_))
      show wpAny _ _ (Builtin.SmallTypes.nextOf (.ref i2) >>= _) _ _ _
      refine wpAny_bind (nextOf_tuple_end hh (((h2₀.extBut hs₁.extBut D.i2z).extBut hs₂.extBut D.i12.symm).extBut hs₃.extBut D.TOi2.symm)
        (((hl2₀.extBut hs₁.extBut D.l2z).extBut hs₂.extBut D.l2i1).extBut hs₃.extBut D.l2TO) hy fun h₄ e hs₄ he => ?_)
      obtain ⟨oe, hoe, hce⟩ := he
      have hz₄ : ZipG h₄ z TI TO .ellipsis g := hs₄ _ _ D.i2z.symm (hs₃.extBut _ _ D.TOz.symm (hs₂.extBut _ _ D.i1z.symm hz₁))
      have hez : e ≠ z := fun x => by subst x; rw [hz₄] at hoe; cases hoe; simp at hce
      refine wpAny_setField_rec hz₄ (by simp) fun h₅ _ hs₅ => hE h₅ e (fun c o c1 c2 c3 c4 x => hs₅.extBut _ _ c1 (hs₄ _ _ c4 (hs₃.extBut _ _ c2 (hs₂.extBut _ _ c3 (hs₁.extBut _ _ c1 (k0 c o c1 x)))))) ⟨oe, hs₅.extBut _ _ hez hoe, hce⟩
  | false =>
    simp only [Bool.false_eq_true, if_false]
    refine wpAny_bind ?_
    rw [← Array.forIn_toList]
    simp only [List.forIn_cons, List.forIn_nil]
    refine wpAny_bind (wpAny_bind (wpAny_holding ?_))
    show wpAny _ _ (Builtin.SmallTypes.nextOf (.ref i1) >>= _) _ _ _
    cases hx : xs[k1]? with
    | none =>
      refine wpAny_bind (nextOf_tuple_end hh h1₀ hl1₀ hx fun h₂ e hs₂ he => ?_)
      exact hE h₂ e (fun c o c1 _ c3 _ x => hs₂ _ _ c3 (k0 c o c1 x)) he
    | some x =>
      have hy : ys[k2]? = none := by rcases hend with h | h; rw [hx] at h; cases h; exact h
      refine wpAny_bind (nextOf_tuple_item h1₀ hl1₀ hx fun h₂ h1₂ hs₂ => wpAny_pure ?_)
      refine wpAny_pure ?_
      refine wpAny_bind (wpAny_bind (wpAny_holding ?_))
      show wpAny _ _ (Builtin.SmallTypes.nextOf (.ref i2) >>= _) _ _ _
      refine wpAny_bind (nextOf_tuple_end hh (h2₀.extBut hs₂.extBut D.i12.symm) (hl2₀.extBut hs₂.extBut D.l2i1) hy fun h₄ e hs₄ he => ?_)
      exact hE h₄ e (fun c o c1 c2 c3 c4 x => hs₄ _ _ c4 (hs₂.extBut _ _ c3 (k0 c o c1 x))) he
theorem pyNext_zipN_item {z TI TO i1 i2 l1 l2 : Addr} {k1 k2 : Nat} {xs ys : Array Value} {x y a b f0 : Value} {f1 : Bool} {Q : Option Value → Shared → Prop} (D : ZipApart z TI TO i1 i2 l1 l2)
    (hz : ZipG s.heap z TI TO f0 f1) (hf : Told f0) (hTI : IsPair s.heap TI (.ref i1) (.ref i2)) (hTO : IsPair s.heap TO a b)
    (h1 : s.heap.IsTupleIter i1 l1 k1) (h2 : s.heap.IsTupleIter i2 l2 k2) (hl1 : s.heap.IsTuple l1 xs) (hl2 : s.heap.IsTuple l2 ys) (hx : xs[k1]? = some x) (hy : ys[k2]? = some y)
    (hQ : ∀ h' g0 g1 a' b', ZipG h' z TI TO g0 g1 → Told g0 → IsPair h' TO a' b' → h'.IsTupleIter i1 l1 (k1 + 1) → h'.IsTupleIter i2 l2 (k2 + 1) → IsPair h' s.heap.objs.size x y → h'.objs.size = s.heap.objs.size + 1 →
      (∀ c o, c ≠ z → c ≠ TO → c ≠ i1 → c ≠ i2 → s.heap.get? c = some o → h'.get? c = some o) → Q (some (.ref s.heap.objs.size)) { s with heap := h' }) :
    wpAny (model prog w) A (pyNext (.ref z)) Q E s := by
  have hT : s.TypeIs (.ref z) "zip" := ⟨_, hz, rfl⟩
  unfold pyNext
  exact wpAny_bind (wpAny_attempt (wpAny_callSpecial?_slot (name := Str.ofString "__next__") hT F.slot_zip_next
    (wpAny_call_entry F.slot_zip_next hT F.entry_zip_next
      (zipN_next_item D hz hf hTI hTO h1 h2 hl1 hl2 hx hy fun h' g0 g1 a' b' a1 a1' a2 a3 a4 a5 a6 a7 => wpAny_pure (hQ h' g0 g1 a' b' a1 a1' a2 a3 a4 a5 a6 a7)) (F.args_zip_next_1 _))))
theorem pyNext_zipN_end {z TI TO i1 i2 l1 l2 : Addr} {k1 k2 : Nat} {xs ys : Array Value} {a b f0 : Value} {f1 : Bool} {Q : Option Value → Shared → Prop} (hh : A.handled = none) (D : ZipApart z TI TO i1 i2 l1 l2)
    (hz : ZipG s.heap z TI TO f0 f1) (hf : Told f0) (hTI : IsPair s.heap TI (.ref i1) (.ref i2)) (hTO : IsPair s.heap TO a b)
    (h1 : s.heap.IsTupleIter i1 l1 k1) (h2 : s.heap.IsTupleIter i2 l2 k2) (hl1 : s.heap.IsTuple l1 xs) (hl2 : s.heap.IsTuple l2 ys) (hend : xs[k1]? = none ∨ ys[k2]? = none)
    (hQ : ∀ h', (∀ c o, c ≠ z → c ≠ TO → c ≠ i1 → c ≠ i2 → s.heap.get? c = some o → h'.get? c = some o) → Q none { s with heap := h' }) : wpAny (model prog w) A (pyNext (.ref z)) Q E s := by
  have hT : s.TypeIs (.ref z) "zip" := ⟨_, hz, rfl⟩
  unfold pyNext
  refine wpAny_bind (wpAny_attempt (wpAny_callSpecial?_slot (name := Str.ofString "__next__") hT F.slot_zip_next
    (wpAny_call_entry F.slot_zip_next hT F.entry_zip_next (zipN_next_end hh D hz hf hTI hTO h1 h2 hl1 hl2 hend fun h' e hk he => ?_) (F.args_zip_next_1 _))))
  obtain ⟨o, ho, hc⟩ := he
  refine wpAny_bind (wpAny_isInstance (T := "StopIteration") (b := true) ⟨o, ho, hc⟩ isSubtype_stop ?_)
  exact wpAny_pure (hQ _ hk)
end
open PySem.Spec PyProof.Rows L2
theorem turn_zipN {P : Program} {w : World} {K : PySem.W.Frag} {n : Str} {tpos : Pos} {a b z TI TO i1 i2 : Addr} (D : ZipApart z TI TO i1 i2 a b) :
    Turn P w K (.Name n tpos) (ItzT K a b) [z, TI, TO, i1, i2] z (fun i h => (∃ f0 f1, ZipG h z TI TO f0 f1 ∧ Told f0) ∧ IsPair h TI (.ref i1) (.ref i2) ∧ (∃ x y, IsPair h TO x y) ∧ h.IsTupleIter i1 a i ∧ h.IsTupleIter i2 b i) where
  mem := by simp
  obj := fun i h st c hc => by
    obtain ⟨⟨f0, f1, hz, _⟩, hTI, ⟨x, y, hTO⟩, ⟨o1, e1, _, d1⟩, ⟨o2, e2, _, d2⟩⟩ := st
    have e' : c = z ∨ c = TI ∨ c = TO ∨ c = i1 ∨ c = i2 := by simpa using hc
    rcases e' with q | q | q | q | q
    · rw [q]; exact ⟨_, hz, fun v q => nomatch q⟩
    · rw [q]; exact ⟨_, hTI, fun v q => nomatch q⟩
    · rw [q]; exact ⟨_, hTO, fun v q => nomatch q⟩
    · rw [q]; exact ⟨o1, e1, fun v q => by rw [d1] at q; cases q⟩
    · rw [q]; exact ⟨o2, e2, fun v q => by rw [d2] at q; cases q⟩
  keep := fun i h h' st k => by
    obtain ⟨⟨f0, f1, hz, hf⟩, hTI, ⟨x, y, hTO⟩, h1, h2⟩ := st
    exact ⟨⟨f0, f1, k z (by simp) _ hz, hf⟩, k TI (by simp) _ hTI, ⟨x, y, k TO (by simp) _ hTO⟩, h1.at fun o q => k i1 (by simp) o q, h2.at fun o q => k i2 (by simp) o q⟩
  item := by
    intro X hP hw hK hc i pins s σ H E I hf st hg
    subst hP hw hK
    obtain ⟨⟨f0, f1, hz, hfT⟩, hTI, ⟨x0, y0, hTO⟩, h1, h2⟩ := st
    obtain ⟨xs, ys, x, y, hqx, hqy, hx, hy⟩ := hg
    obtain ⟨its, rv, p, _⟩ := I.tuple hqx
    obtain ⟨its2, rv2, p2, _⟩ := I.tuple hqy
    obtain ⟨u, hu, ru⟩ := rv.get hx
    obtain ⟨u2, hu2, ru2⟩ := rv2.get hy
    have hzl : z < s.heap.objs.size := Heap.lt_size hz
    refine pyNext_zipN_item D hz hfT hTI hTO h1 h2 p p2 (x := u) (y := u2) (by simpa using hu) (by simpa using hu2) fun h' g0 g1 a' b' z' hg' TO' h1' h2' hT hsz hk => ?_
    refine ⟨_, rfl, ?_⟩
    unfold letOwnedTupleGo
    refine wpAny_pure ?_
    have new : ObjOk X.prog X.w (upd H s.heap.objs.size (.tup [x, y])) h' s.heap.objs.size (.tup [x, y]) :=
      ⟨by show 2 ≤ sizeLine; decide, [u, u2], .cons ru (.cons ru2 .nil), ⟨_, hT, rfl, _, rfl⟩⟩
    have I1 : Inv X pins σ (upd H s.heap.objs.size (.tup [x, y])) { s with heap := h' } :=
      I.turnedNew (t' := s.toks) (ch := [z, TI, TO, i1, i2]) (fun c o hb q => hk c o (fun q' => hb (by simp [q'])) (fun q' => hb (by simp [q'])) (fun q' => hb (by simp [q'])) (fun q' => hb (by simp [q'])) q) hf (Nat.le_refl _) new
    refine ⟨.ref s.heap.objs.size, _, I1, rfl, ⟨_, x, y, rfl, I.hok.fresh (Nat.le_refl _), rfl, fun l hl => by rw [I.tuple_inj hl hqx]; exact hx, fun l hl => by rw [I.tuple_inj hl hqy]; exact hy⟩, ⟨⟨g0, g1, z', hg'⟩, ?_, ⟨a', b', TO'⟩, h1', h2'⟩, fun c hcm => ?_⟩
    · exact hk _ _ D.TIz D.TITO D.TIi1 D.TIi2 hTI
    · have hlt : c < s.heap.objs.size := by
        have e' : c = z ∨ c = TI ∨ c = TO ∨ c = i1 ∨ c = i2 := by simpa using hcm
        rcases e' with q | q | q | q | q
        · rw [q]; exact hzl
        · rw [q]; exact Heap.lt_size hTI
        · rw [q]; exact Heap.lt_size hTO
        · rw [q]; obtain ⟨_, e1, _⟩ := h1; exact Heap.lt_size e1
        · rw [q]; obtain ⟨_, e2, _⟩ := h2; exact Heap.lt_size e2
      rw [upd_ne (Nat.ne_of_lt hlt)]
      exact (hf c hcm).1
  done := by
    intro X hP hw hK hc i pins s σ H E I hf st hg
    subst hP hw hK
    obtain ⟨⟨f0, f1, hz, hfT⟩, hTI, ⟨x0, y0, hTO⟩, h1, h2⟩ := st
    obtain ⟨xs, ys, hqx, hqy, hend⟩ := hg
    obtain ⟨its, rv, p, _⟩ := I.tuple hqx
    obtain ⟨its2, rv2, p2, _⟩ := I.tuple hqy
    have l1 := rv.length
    have l2 := rv2.length
    have he : its.toArray[i]? = none ∨ its2.toArray[i]? = none := by
      rcases hend with q | q
      · exact .inl (by simp; omega)
      · exact .inr (by simp; omega)
    exact pyNext_zipN_end (I.ok.hd hc) D hz hfT hTI hTO h1 h2 p p2 he fun h' hk => ⟨rfl, I.turnedL (t' := s.toks) (ch := [z, TI, TO, i1, i2]) (fun c o hb q =>
      hk c o (fun q' => hb (by simp [q'])) (fun q' => hb (by simp [q'])) (fun q' => hb (by simp [q'])) (fun q' => hb (by simp [q'])) q) hf⟩
  self := fun A i s Q E st h => by
    obtain ⟨⟨f0, f1, hz, _⟩, _⟩ := st
    have hT : s.TypeIs (.ref z) "zip" := ⟨_, hz, rfl⟩
    refine wpAny_pyIter_slot hT F.slot_zip_iter (wpAny_call_entry F.slot_zip_iter hT F.entry_zip_iter ?_ (F.args_zip_iter_1 _))
    show wpAny _ _ (ret (.ref z)) _ _ s
    exact wpAny_pure ⟨_, rfl, "zip", _, hT, F.slot_zip_next.lookup, h⟩
def iZipN (K : PySem.W.Frag) (ta : TA) : TI := fun σ H R => ta σ H fun vs H1 => ∃ a b xs ys, vs = [.ref a, .ref b] ∧ SqT K H1 a xs ∧ SqT K H1 b ys ∧ R (ItzT K a b) H1
theorem pi_zipN {X : Cx} {e e2 : Expr} {ta : TA} {p pos tpos : Pos} {n : Str} (hg : Gl X "zip") (hm : X.mg "zip" = none) (ha : PA X [e, e2] ta)
    (hs : starEach [e, e2] X.env = (false, eval e X.env) :: starEach [e2] X.env := by rfl) (hpl : (backTo pos (starEach [e2] X.env)).any (·.1) = false := by rfl) :
    PI X (.Name n tpos) (.Call (.Name "zip" p) [e, e2] [] pos) (iZipN X.K ta) := by
  refine ⟨fun pins s σ H R I h => ?_⟩
  refine Call_ (ld_blt I hg hm PyProof.Rows.boot_zip (PyProof.Rows.callWith_type1 (thn (ha.run pos pins s σ H _ I h) fun us s1 ⟨vs, H1, I1, r1, q1⟩ => ?_) hs hpl))
  obtain ⟨a, b, xs, ys, ex, hqx, hqy, q⟩ := q1
  subst ex
  cases r1 with
  | cons r rr =>
    cases rr with
    | cons r' rr =>
      cases rr
      cases r
      cases r'
      have fresh5 : ∀ c, c ∈ [s1.heap.objs.size + 4, s1.heap.objs.size + 2, s1.heap.objs.size + 3, s1.heap.objs.size, s1.heap.objs.size + 1] → FpOk X pins H1 c := fun c hcm => by
        have e' : c = s1.heap.objs.size + 4 ∨ c = s1.heap.objs.size + 2 ∨ c = s1.heap.objs.size + 3 ∨ c = s1.heap.objs.size ∨ c = s1.heap.objs.size + 1 := by simpa using hcm
        have hle : s1.heap.objs.size ≤ c := by
          rcases e' with z | z | z | z | z
          · rw [z]; exact Nat.le_add_right _ _
          · rw [z]; exact Nat.le_add_right _ _
          · rw [z]; exact Nat.le_add_right _ _
          · rw [z]; exact Nat.le_refl _
          · rw [z]; exact Nat.le_add_right _ _
        exact I1.fpOk hle (I1.hok.fresh hle)
      obtain ⟨its, rv, p1, _⟩ := I1.tuple hqx
      obtain ⟨its2, rv2, p2, _⟩ := I1.tuple hqy
      obtain ⟨o1, ho1, _⟩ := id p1
      obtain ⟨o2, ho2, _⟩ := id p2
      refine call_zipT (show s1.heap.IsTuple a its.toArray from p1) (show s1.heap.IsTuple b its2.toArray from p2) fun h' hz hTI hTO h1 h2 hsz hk => wpAny_pyIter_zip hz ?_
      have I2 : Inv X pins σ H1 { s1 with heap := h' } := I1.kept (t' := s1.toks) hk
      exact ⟨s1.heap.objs.size + 4, [s1.heap.objs.size + 4, s1.heap.objs.size + 2, s1.heap.objs.size + 3, s1.heap.objs.size, s1.heap.objs.size + 1], _, _, H1, rfl, I2, turn_zipN (PySem.W.ktu_apart s1.heap.objs.size a b (Heap.lt_size ho1) (Heap.lt_size ho2)), ⟨⟨_, _, hz, .inl rfl⟩, hTI, ⟨_, _, hTO⟩, h1, h2⟩, fresh5, q⟩
end RZ
namespace L3
open PySem PySem.Spec PyProof.Rows L2
section
variable {bs : BS} {X : Cx}
def wZipN (t : TA3) : TI3 := fun τ M R => t τ M fun ds M1 => match ds with
  | [.tup xs, .tup ys] => R (zipD xs ys) (fun _ => True) M1
  | _ => False
theorem w_zipN {a b : Expr} {ta : TA3} {p pos tpos : Pos} {n : Str} (hm : X.mg "zip" = none) (ha : PA3 bs X [a, b] ta) (hg : Gl X "zip" := by rfl)
    (hs : starEach [a, b] X.env = (false, eval a X.env) :: starEach [b] X.env := by rfl) (hpl : (backTo pos (starEach [b] X.env)).any (·.1) = false := by rfl) :
    PI3 bs X (.Name n tpos) (.Call (.Name "zip" p) [a, b] [] pos) (wZipN ta) := by
  refine PI.weak (RZ.pi_zipN hg hm ha hs hpl) ?_
  rintro σ H R ⟨τ, M, R3, e, m, q, k⟩
  refine ⟨τ, M, _, e, m, q, fun vs H1 ds M1 x1 m1 r1 q1 => ?_⟩
  split at q1
  · rename_i xs ys
    cases r1 with
    | cons r rn =>
      cases rn with
      | cons r' rn =>
        cases rn
        cases r with
        | tup h1 h2 =>
          cases r' with
          | tup h3 h4 => exact ⟨_, _, _, _, rfl, h1, h3, k _ _ _ _ H1 M1 x1 m1 it_zipT ⟨⟨h1, h2⟩, h3, h4⟩ q1⟩
  · exact False.elim q1
end
end L3
set_option Elab.async false
set_option linter.all false
set_option maxRecDepth 100000
set_option maxHeartbeats 4000000
namespace L3
open PySem PySem.Spec PyProof.Rows L2
variable {bs : BS} {X : Cx}
def oInD (neg : Bool) : R23 := fun d e M Q => match e with
  | .rol ds => Pl (top M d) ∧ Pl (.rol ds) ∧ Q (.bl (if neg then !(ds.any fun y => eqD y (top M d)) else ds.any fun y => eqD y (top M d))) M
  | e => oIn neg d e M Q
theorem any_pd {d : PyData} : ∀ ds : List D, ((pdsOf ds).any fun z => PyData.eqv z d) = ds.any fun y => PyData.eqv (pdOf y) d
  | [] => rfl
  | y :: ds => by simp [pdsOf, any_pd ds]
theorem o_inD (hu : X.A.units + 65 < cLine) : OpR X (compareOp .In) (lift2 X.K bs (oInD false)) := op3 fun d e x y H M Q Q3 r1 r2 m q k => by
  have flatCase : oIn false d e M Q3 → ∃ r, OpR X (compareOp .In) r ∧ r x y H Q := fun q => by
    unfold oIn asL at q
    split at q
    · rename_i ds hd
      obtain ⟨p, vs, rfl, hs, l⟩ := items_of m.m r2 hd
      refine ⟨_, op_in_seq, p, vs, rfl, hs, flat_of r1 q.1, flats_of l q.2.1, k _ _ _ M .refl m (.bl _) ?_⟩
      simp only [inV, any_of r1 q.1 l q.2.1]
      exact q.2.2
    · exact False.elim q
  unfold oInD at q
  cases e with
  | rol ds =>
    obtain ⟨p1, p2, q⟩ := q
    refine ⟨_, op_inD hu, _, _, dp_top m.m r1 p1.p, dp_top (M := M) m.m r2 p2.p, shaped_pl p1, shaped_pl p2, k _ _ _ M .refl m (.bl _) ?_⟩
    have e := any_pd (d := pdOf (top M d)) ds
    rw [e]
    exact q
  | _ => exact flatCase q
theorem o_inD' (hu : X.A.units + 64 + 100 < cLine) : OpR X (compareOp .In) (lift2 X.K bs (oInD false)) := o_inD (by omega)
/-- zip of two tables' rows -/
theorem w_zipG {a b : Expr} {ta : TA3} {p pos tpos : Pos} {elts : List Expr} {kk : Nat} (hm : X.mg "zip" = none) (ha : PA3 bs X [a, b] ta) (hg : Gl X "zip" := by rfl)
    (hs : starEach [a, b] X.env = (false, eval a X.env) :: starEach [b] X.env := by rfl) (hpl : (backTo pos (starEach [b] X.env)).any (·.1) = false := by rfl) :
    PI3 bs X (.Tuple elts kk tpos) (.Call (.Name "zip" p) [a, b] [] pos) (wZipF ta) := w_zipF (tg := a) hm ha hg hs hpl
end L3
set_option Elab.async false
set_option linter.all false
set_option maxRecDepth 100000
set_option maxHeartbeats 4000000
namespace L3
open PySem PySem.Spec PyProof.Rows L2 HT
variable {bs : BS} {X : Cx}
def bestI (lt : Int → Int → Bool) (x : Int) (xs : List Int) : Int := xs.foldl (fun a y => if lt a y = true then y else a) x
theorem best_ge : ∀ (xs : List Int) (x : Int), ∀ y ∈ x :: xs, y ≤ bestI (fun a b => decide (a < b)) x xs
  | [], x, y, hy => by simp at hy; rw [hy]; exact Int.le_refl _
  | z :: zs, x, y, hy => by
    have e : bestI (fun a b => decide (a < b)) x (z :: zs) = bestI (fun a b => decide (a < b)) (if decide (x < z) = true then z else x) zs := rfl
    rw [e]
    have h := best_ge zs (if decide (x < z) = true then z else x)
    have h0 := h _ (List.mem_cons_self ..)
    have hs : x ≤ (if decide (x < z) = true then z else x) ∧ z ≤ (if decide (x < z) = true then z else x) := by
      by_cases hxz : x < z <;> simp [hxz] <;> omega
    rcases List.mem_cons.mp hy with rfl | hy
    · exact Int.le_trans hs.1 h0
    · rcases List.mem_cons.mp hy with rfl | hy
      · exact Int.le_trans hs.2 h0
      · exact h y (by simp [hy])
theorem best_le : ∀ (xs : List Int) (x : Int), ∀ y ∈ x :: xs, bestI (fun a b => decide (b < a)) x xs ≤ y
  | [], x, y, hy => by simp at hy; rw [hy]; exact Int.le_refl _
  | z :: zs, x, y, hy => by
    have e : bestI (fun a b => decide (b < a)) x (z :: zs) = bestI (fun a b => decide (b < a)) (if decide (z < x) = true then z else x) zs := rfl
    rw [e]
    have h := best_le zs (if decide (z < x) = true then z else x)
    have h0 := h _ (List.mem_cons_self ..)
    have hs : (if decide (z < x) = true then z else x) ≤ x ∧ (if decide (z < x) = true then z else x) ≤ z := by
      by_cases hxz : z < x <;> simp [hxz] <;> omega
    rcases List.mem_cons.mp hy with rfl | hy
    · exact Int.le_trans h0 hs.1
    · rcases List.mem_cons.mp hy with rfl | hy
      · exact Int.le_trans h0 hs.2
      · exact h y (by simp [hy])
def rBestT (K : PySem.W.Frag) (le : Int → Int → Prop) : List V → Hp → VK → Prop := fun vs H Q => ∃ (a : Addr) (ns : List Int), vs = [V.ref a] ∧ SqT K H a (ns.map V.int) ∧ 0 < ns.length ∧ ∀ m, m ∈ ns → (∀ y, y ∈ ns → le y m) → Q (.int m) H
theorem hold_ints {h : Heap} : ∀ {ns : List Int} {its : List Value}, Vals (ns.map V.int) its → PySem.W.HoldAll h its ns
  | [], _, r => by cases r; exact .nil
  | n :: ns, _, r => by
    cases r with
    | cons r1 r2 =>
      obtain ⟨t, e⟩ := r1
      subst e
      exact .cons ⟨_, .int n t⟩ (hold_ints r2)
theorem held_int {h : Heap} {v : Value} {m n : Int} (H : PySem.W.Holds h v m) (r : RelV (.int n) v) : m = n := by
  obtain ⟨as, H⟩ := H
  obtain ⟨t, rfl⟩ := r
  cases H
  rfl
theorem vals_back {ns : List Int} {its : List Value} {i : Nat} {v : Value} (r : Vals (ns.map V.int) its) (h : its.toArray[i]? = some v) : ∃ n ∈ ns, RelV (.int n) v := by
  have h : its[i]? = some v := by simpa using h
  have hl := r.length
  rw [List.length_map] at hl
  have hi : i < ns.length := by have := (List.getElem?_eq_some_iff.mp h).1; omega
  obtain ⟨u, hu, ru⟩ := r.get (i := i) (x := V.int ns[i]) (by rw [List.getElem?_map, List.getElem?_eq_getElem hi]; rfl)
  rw [h] at hu
  cases hu
  exact ⟨ns[i], List.getElem_mem hi, ru⟩
theorem cr_maxT (hc : X.calm = true) (hu : X.A.units + 64 < cLine) : CallR X (.builtin "max") (rBestT X.K fun y m => y ≤ m) := by
  rintro pins s σ H vs us Q I r ⟨a, ns, rfl, hs, hne, q⟩
  rw [Vals.ref1 r]
  obtain ⟨its, rv, p, hz⟩ := I.tuple hs
  cases ns with
  | nil => exact absurd hne (Nat.lt_irrefl _)
  | cons n ns =>
    refine PySem.W.max_tuple_datum (α := Int) (x := n) (xs := ns) (I.ok.hd hc) p (hold_ints rv) (by show X.A.units + 1 + 0 < cLine; omega) fun i v h' tk hi hm hk => ?_
    obtain ⟨k, hk1, rk⟩ := vals_back rv hi
    have e : bestI (fun a b => decide (a < b)) n ns = k := held_int hm rk
    exact ⟨.int k, H, I.kept hk, rk, q k hk1 fun y hy => e ▸ best_ge ns n y hy⟩
theorem cr_minT (hc : X.calm = true) (hu : X.A.units + 64 < cLine) : CallR X (.builtin "min") (rBestT X.K fun y m => m ≤ y) := by
  rintro pins s σ H vs us Q I r ⟨a, ns, rfl, hs, hne, q⟩
  rw [Vals.ref1 r]
  obtain ⟨its, rv, p, hz⟩ := I.tuple hs
  cases ns with
  | nil => exact absurd hne (Nat.lt_irrefl _)
  | cons n ns =>
    refine PySem.W.min_tuple_datum (α := Int) (x := n) (xs := ns) (I.ok.hd hc) p (hold_ints rv) (by show X.A.units + 1 + 0 < cLine; omega) fun i v h' tk hi hm hk => ?_
    obtain ⟨k, hk1, rk⟩ := vals_back rv hi
    have e : bestI (fun a b => decide (b < a)) n ns = k := held_int hm rk
    exact ⟨.int k, H, I.kept hk, rk, q k hk1 fun y hy => e ▸ best_le ns n y hy⟩
/-- max of a list or of a tuple -/
def bMaxG : List D → Mp → VK3 → Prop := b1 fun d M Q => asL (items M d) fun ds => asJ (ils ds) fun l => 0 < l.length ∧ ∀ m, m ∈ l → (∀ y, y ∈ l → y ≤ m) → Q (.int m) M
def bMinG : List D → Mp → VK3 → Prop := b1 fun d M Q => asL (items M d) fun ds => asJ (ils ds) fun l => 0 < l.length ∧ ∀ m, m ∈ l → (∀ y, y ∈ l → m ≤ y) → Q (.int m) M
theorem c_maxG (hc : X.calm = true) (hu : X.A.units + 64 < cLine) : CallR X (.builtin "max") (liftV X.K bs bMaxG) := call1 fun d x H M Q Q3 r m q k => by
  unfold asL at q
  split at q
  · rename_i ds hd
    unfold asJ at q
    split at q
    · rename_i l hl
      obtain ⟨a, vs, rfl, hv, rs⟩ := items_of m.m r hd
      have e := ils_of hl rs
      subst e
      rcases hv with hv | hv
      · exact ⟨_, cr_max hc, a, l, rfl, hv, q.1, fun z h1 h2 => k _ _ _ M .refl m (.int _) (q.2 z h1 h2)⟩
      · exact ⟨_, cr_maxT hc hu, a, l, rfl, hv, q.1, fun z h1 h2 => k _ _ _ M .refl m (.int _) (q.2 z h1 h2)⟩
    · exact False.elim q
  · exact False.elim q
theorem c_minG (hc : X.calm = true) (hu : X.A.units + 64 < cLine) : CallR X (.builtin "min") (liftV X.K bs bMinG) := call1 fun d x H M Q Q3 r m q k => by
  unfold asL at q
  split at q
  · rename_i ds hd
    unfold asJ at q
    split at q
    · rename_i l hl
      obtain ⟨a, vs, rfl, hv, rs⟩ := items_of m.m r hd
      have e := ils_of hl rs
      subst e
      rcases hv with hv | hv
      · exact ⟨_, cr_min hc, a, l, rfl, hv, q.1, fun z h1 h2 => k _ _ _ M .refl m (.int _) (q.2 z h1 h2)⟩
      · exact ⟨_, cr_minT hc hu, a, l, rfl, hv, q.1, fun z h1 h2 => k _ _ _ M .refl m (.int _) (q.2 z h1 h2)⟩
    · exact False.elim q
  · exact False.elim q
end L3
set_option Elab.async false
set_option linter.all false
set_option maxRecDepth 100000
set_option maxHeartbeats 4000000
namespace L3
open PySem PySem.Spec PyProof.Rows L2
end L3
set_option Elab.async false
set_option linter.all false
set_option maxRecDepth 100000
set_option maxHeartbeats 4000000
namespace L3
open PySem PySem.Spec PyProof.Rows L2
end L3
set_option Elab.async false
set_option linter.all false
set_option maxRecDepth 100000
set_option maxHeartbeats 4000000
namespace L3
open PySem PySem.Spec PyProof.Rows L2
/-- all that M has, M' has -/
def Le (M M' : Mp) : Prop := ∀ a o, M a = some o → M' a = some o
theorem Le.refl {M : Mp} : Le M M := fun _ _ h => h
theorem Le.trans {M M1 M2 : Mp} (x : Le M M1) (y : Le M1 M2) : Le M M2 := fun a o h => y a o (x a o h)
theorem Le.new {M M1 : Mp} {p : Addr} {o : MO} (x : Le M M1) (h : M1 p = none) : Le M (mset M1 p o) := fun a u hu => by
  have z := x a u hu
  rw [mset_ne (ne_m z h)]; exact z
/-- an address that M does not know may be written -/
theorem Le.put {M M1 : Mp} {p : Addr} {o : MO} (x : Le M M1) (h : M p = none) : Le M (mset M1 p o) := fun a u hu => by
  rw [mset_ne (ne_m hu h)]; exact x a u hu
abbrev Ed := Option Int
abbrev Tab := List (List Ed)
def oD : Ed → D
  | none => .non
  | some i => .int i
def rowD (r : List Ed) : D := .tup (r.map oD)
def tabD (T : Tab) : D := .tup (T.map rowD)
theorem st_seq {t u : TS3} {D : Ends3} {τ : St3} {M : Mp} : wSeq t u D τ M = t { D with nx := u D } τ M := rfl
theorem st_next {D : Ends3} {τ : St3} {M : Mp} : wNext D τ M = D.nx τ M := rfl
theorem st_break {D : Ends3} {τ : St3} {M : Mp} : wBreak D τ M = D.bk τ M := rfl
theorem st_cont {D : Ends3} {τ : St3} {M : Mp} : wCont D τ M = D.ct τ M := rfl
theorem st_set {i : Nat} {te : TE3} {D : Ends3} {τ : St3} {M : Mp} : wSet i te D τ M = te τ M fun d M1 => D.nx (setS τ i (some d)) M1 := rfl
theorem st_ret {te : TE3} {D : Ends3} {τ : St3} {M : Mp} : wRet te D τ M = te τ M D.rt := rfl
theorem st_retN {D : Ends3} {τ : St3} {M : Mp} : wRetN D τ M = D.rt .non M := rfl
theorem st_drop {te : TE3} {D : Ends3} {τ : St3} {M : Mp} : wDrop te D τ M = te τ M fun _ M1 => D.nx τ M1 := rfl
theorem st_if {c : TT3} {t u : TS3} {D : Ends3} {τ : St3} {M : Mp} : wIfS c t u D τ M = c τ M fun b M1 => ite3 b (t D τ M1) (u D τ M1) := rfl
theorem st_asg {te : TE3} {g : TG3} {D : Ends3} {τ : St3} {M : Mp} : wAsg te g D τ M = te τ M fun d M1 => g d τ M1 D.nx := rfl
theorem st_par {i j : Nat} {ta : TA3} {D : Ends3} {τ : St3} {M : Mp} : wPar i j ta D τ M = ta τ M fun ds M1 => match ds with | [d, e] => D.nx (setS (setS τ i (some d)) j (some e)) M1 | _ => False := rfl
theorem st_for {wi : TI3} {g : TG3} {tb : TS3} {D : Ends3} {τ : St3} {M : Mp} : wFor wi g tb D τ M = wi τ M fun ds G M1 => forW G g tb D ds τ M1 := rfl
theorem ex_c {d : D} {τ : St3} {M : Mp} {Q : VK3} : wC d τ M Q = Q d M := rfl
theorem ex_var {i : Nat} {τ : St3} {M : Mp} {Q : VK3} : wVar i τ M Q = asS (getS τ i) fun d => Q d M := rfl
theorem ex_op {r : R23} {ta tb : TE3} {τ : St3} {M : Mp} {Q : VK3} : wOp r ta tb τ M Q = ta τ M fun x M1 => tb τ M1 fun y M2 => r x y M2 Q := rfl
theorem ex_un {r : D → Mp → VK3 → Prop} {ta : TE3} {τ : St3} {M : Mp} {Q : VK3} : wUn r ta τ M Q = ta τ M fun x M1 => r x M1 Q := rfl
theorem ex_b {t : TE3} {τ : St3} {M : Mp} {Q : Bool → Mp → Prop} : wB t τ M Q = t τ M fun d M' => asB d fun k => Q k M' := rfl
theorem ex_and {t u : TT3} {τ : St3} {M : Mp} {Q : Bool → Mp → Prop} : wAnd t u τ M Q = t τ M fun c M1 => ite3 c (u τ M1 Q) (Q false M1) := rfl
theorem ex_or {t u : TT3} {τ : St3} {M : Mp} {Q : Bool → Mp → Prop} : wOr t u τ M Q = t τ M fun c M1 => ite3 c (Q true M1) (u τ M1 Q) := rfl
theorem ex_not {t : TT3} {τ : St3} {M : Mp} {Q : Bool → Mp → Prop} : wNot t τ M Q = t τ M fun c M1 => Q (!c) M1 := rfl
theorem ex_andV {ta tb : TE3} {τ : St3} {M : Mp} {Q : VK3} : wAndV ta tb τ M Q = ta τ M fun x M1 => asB x fun c => ite3 c (tb τ M1 Q) (Q (.bl false) M1) := rfl
theorem ex_orV {ta tb : TE3} {τ : St3} {M : Mp} {Q : VK3} : wOrV ta tb τ M Q = ta τ M fun x M1 => asB x fun c => ite3 c (Q (.bl true) M1) (tb τ M1 Q) := rfl
theorem ex_notV {ta : TE3} {τ : St3} {M : Mp} {Q : VK3} : wNotV ta τ M Q = ta τ M fun x M1 => asB x fun c => Q (.bl (!c)) M1 := rfl
theorem ex_if {c : TT3} {ta tb : TE3} {τ : St3} {M : Mp} {Q : VK3} : wIf c ta tb τ M Q = c τ M fun z M1 => ite3 z (ta τ M1 Q) (tb τ M1 Q) := rfl
theorem ex_chain {r r' : R23} {ta tb tc : TE3} {τ : St3} {M : Mp} {Q : VK3} : wChain r r' ta tb tc τ M Q = ta τ M fun x M1 => tb τ M1 fun y M2 => r x y M2 fun z M3 => asB z fun c => ite3 c (tc τ M3 fun w M4 => r' y w M4 Q) (Q (.bl false) M3) := rfl
theorem ex_nil {τ : St3} {M : Mp} {Q : List D → Mp → Prop} : wNil τ M Q = Q [] M := rfl
theorem ex_cons {ta : TE3} {tr : TA3} {τ : St3} {M : Mp} {Q : List D → Mp → Prop} : wCons ta tr τ M Q = ta τ M fun x M1 => tr τ M1 fun xs M2 => Q (x :: xs) M2 := rfl
theorem ex_tup {t : TA3} {τ : St3} {M : Mp} {Q : VK3} : wTup t τ M Q = t τ M fun xs M1 => xs.length ≤ sizeLine ∧ Q (.tup xs) M1 := rfl
theorem ex_lst {t : TA3} {τ : St3} {M : Mp} {Q : VK3} : wLst t τ M Q = t τ M fun xs M1 => xs.length ≤ sizeLine ∧ ∀ p, M1 p = none → Q (.ref p) (mset M1 p (.lst xs)) := rfl
theorem ex_call {sp : Sp3} {E : XK3} {t : TA3} {τ : St3} {M : Mp} {Q : VK3} : wCall sp E t τ M Q = t τ M fun ds M1 => sp ds M1 Q E := rfl
theorem ex_callP {sp : Sp3} {E : XK3} {t : TA3} {τ : St3} {M : Mp} {Q : VK3} : wCallP sp E t τ M Q = t τ M fun ds M1 => sp ds M0 (fun d _ => Q d M1) (fun c fs _ => E c fs M1) := rfl
theorem ex_cb {r : List D → Mp → VK3 → Prop} {t : TA3} {τ : St3} {M : Mp} {Q : VK3} : wCB r t τ M Q = t τ M fun ds M1 => r ds M1 Q := rfl
theorem ex_bm {r : M23} {to : TE3} {t : TA3} {τ : St3} {M : Mp} {Q : VK3} : wBM r to t τ M Q = to τ M fun d M1 => (match d with | .ref a => ∃ ds, M1 a = some (.lst ds) | _ => False) ∧ t τ M1 fun ds M2 => r d ds M2 Q := rfl
theorem ex_rep {te tb : TE3} {τ : St3} {M : Mp} {Q : VK3} : wRep te tb τ M Q = te τ M fun d M1 => tb τ M1 fun i M2 => asI i fun k => -(2 ^ 63) ≤ k ∧ k < 2 ^ 63 ∧ k.toNat ≤ sizeLine ∧ ∀ p, M2 p = none → Q (.ref p) (mset M2 p (.lst (List.replicate k.toNat d))) := rfl
theorem ex_lc {wi : TI3} {g : TG3} {tt : TT3} {te : TE3} {vs : List Nat} {τ : St3} {M : Mp} {Q : VK3} : wLc wi g tt te vs τ M Q = wi τ M fun ds G M1 => lcW G g tt te (wipe3 τ vs) (fun acc M2 => ∀ p, M2 p = none → Q (.ref p) (mset M2 p (.lst acc))) ds [] M1 := rfl
theorem ex_sl {te : TE3} {tl th : St3 → Mp → (Option Int → Mp → Prop) → Prop} {τ : St3} {M : Mp} {Q : VK3} : wSl te tl th τ M Q = te τ M fun d M1 => tl τ M1 fun lo M2 => th τ M2 fun hi M3 => oSl d lo hi M3 Q := rfl
theorem ex_noPart {τ : St3} {M : Mp} {Q : Option Int → Mp → Prop} : wNoPart τ M Q = Q none M := rfl
theorem ex_part {t : TE3} {τ : St3} {M : Mp} {Q : Option Int → Mp → Prop} : wPart t τ M Q = t τ M fun d M1 => asI d fun i => Q (some i) M1 := rfl
theorem ex_yes {τ : St3} {M : Mp} {Q : Bool → Mp → Prop} : wYes τ M Q = Q true M := rfl
theorem it_items {tl : TE3} {τ : St3} {M : Mp} {R : List D → (Mp → Prop) → Mp → Prop} : wItems tl τ M R = tl τ M fun d M1 => asL (items M1 d) fun ds => R ds (keepG M1 d ds) M1 := rfl
theorem it_rng1 {t : TA3} {τ : St3} {M : Mp} {R : List D → (Mp → Prop) → Mp → Prop} : wRng1 t τ M R = t τ M fun ds M1 => match ds with | [.int j] => -(2 ^ 62) ≤ j ∧ j < 2 ^ 62 ∧ R (rgD 0 j.toNat) (fun _ => True) M1 | _ => False := rfl
theorem it_rng2 {t : TA3} {τ : St3} {M : Mp} {R : List D → (Mp → Prop) → Mp → Prop} : wRng2 t τ M R = t τ M fun ds M1 => match ds with | [.int i, .int j] => (-(2 ^ 62) ≤ i ∧ i < 2 ^ 62 ∧ -(2 ^ 62) ≤ j ∧ j < 2 ^ 62) ∧ R (rgD i (j - i).toNat) (fun _ => True) M1 | _ => False := rfl
theorem tg_name {i : Nat} {d : D} {τ : St3} {M : Mp} {Q : St3 → Mp → Prop} : wgName i d τ M Q = Q (setS τ i (some d)) M := rfl
theorem tg_sub {to ti : TE3} {t : TSet3} {d : D} {τ : St3} {M : Mp} {Q : St3 → Mp → Prop} : wgSub to ti t d τ M Q = to τ M fun o M1 => ti τ M1 fun i M2 => t o i d M2 fun M3 => Q τ M3 := rfl
theorem tg_tup {n : Nat} {t : TGs3} {ds : List D} {τ : St3} {M : Mp} {Q : St3 → Mp → Prop} : wgTupN n t (.tup ds) τ M Q = (ds.length = n ∧ t ds τ M Q) := rfl
theorem tg_cons {t : TG3} {u : TGs3} {d : D} {r : List D} {τ : St3} {M : Mp} {Q : St3 → Mp → Prop} : wgCons t u (d :: r) τ M Q = t d τ M fun τ' M' => u r τ' M' Q := rfl
theorem tg_nil {τ : St3} {M : Mp} {Q : St3 → Mp → Prop} : wgNil [] τ M Q = Q τ M := rfl
theorem gs_0 {d : Option D} {τ : St3} : getS (d :: τ) 0 = d := rfl
theorem gs_s {d : Option D} {τ : St3} {i : Nat} : getS (d :: τ) (i + 1) = getS τ i := rfl
theorem ss_0 {d e : Option D} {τ : St3} : setS (d :: τ) 0 e = e :: τ := rfl
theorem ss_s {d e : Option D} {τ : St3} {i : Nat} : setS (d :: τ) (i + 1) e = d :: setS τ i e := rfl
theorem op_ii {i j : Int} {M : Mp} {Q : VK3} : oAdd (.int i) (.int j) M Q = Q (.int (i + j)) M := rfl
theorem op_ss {i j : Str} {M : Mp} {Q : VK3} : oAdd (.str i) (.str j) M Q = (i.length + j.length ≤ sizeLine ∧ Q (.str (i ++ j)) M) := rfl
theorem op_tt {i j : List D} {M : Mp} {Q : VK3} : oAdd (.tup i) (.tup j) M Q = (i.length + j.length ≤ sizeLine ∧ Q (.tup (i ++ j)) M) := rfl
theorem op_mm {i j : Int} {M : Mp} {Q : VK3} : oMul (.int i) (.int j) M Q = (IntMulOk i j ∧ Q (.int (i * j)) M) := rfl
theorem op_sb {d e : D} {M : Mp} {Q : VK3} : oSub d e M Q = asI d fun i => asI e fun j => Q (.int (i - j)) M := rfl
theorem op_in {C : Int → Int → Prop} {g : Int → Int → Int} {d e : D} {M : Mp} {Q : VK3} : oInt C g d e M Q = asI d fun i => asI e fun j => C i j ∧ Q (.int (g i j)) M := rfl
theorem op_ng {d : D} {M : Mp} {Q : VK3} : oNeg d M Q = asI d fun i => Q (.int (-i)) M := rfl
theorem op_cp {p : Int → Int → Bool} {d e : D} {M : Mp} {Q : VK3} : oCmp p d e M Q = asI d fun i => asI e fun j => Q (.bl (p i j)) M := rfl
theorem op_iNf {d : D} {M : Mp} {Q : VK3} : oIsN false d .non M Q = Q (.bl (isN d)) M := rfl
theorem op_iNt {d : D} {M : Mp} {Q : VK3} : oIsN true d .non M Q = Q (.bl (!isN d)) M := rfl
theorem op_ixT {ds : List D} {e : D} {M : Mp} {Q : VK3} : oIx (.tup ds) e M Q = asI e fun i => asS (atI ds i) fun v => Q v M := rfl
theorem op_ixR {ds : List D} {e : D} {M : Mp} {Q : VK3} : oIx (.rol ds) e M Q = asI e fun i => asS (atI ds i) fun v => Q v M := rfl
theorem op_ixL {a : Addr} {e : D} {M : Mp} {Q : VK3} : oIx (.ref a) e M Q = asI e fun i => asL (lstOf (M a)) fun ds => asS (atI ds i) fun v => Q v M := rfl
theorem it_tupE {M : Mp} {ds : List D} : items M (.tup ds) = some ds := rfl
theorem it_rolE {M : Mp} {ds : List D} : items M (.rol ds) = some ds := rfl
theorem it_refE {M : Mp} {a : Addr} : items M (.ref a) = lstOf (M a) := rfl
theorem lstOf_l {ds : List D} : lstOf (some (.lst ds)) = some ds := rfl
theorem bl_1 {r : D → Mp → VK3 → Prop} {d : D} {M : Mp} {Q : VK3} : b1 r [d] M Q = r d M Q := rfl
theorem bl_lenT {M : Mp} {ds : List D} {Q : VK3} : bLen [.tup ds] M Q = Q (.int ds.length) M := rfl
theorem bl_lenR {M : Mp} {ds : List D} {Q : VK3} : bLen [.rol ds] M Q = Q (.int ds.length) M := rfl
theorem bl_lenL {M : Mp} {a : Addr} {Q : VK3} : bLen [.ref a] M Q = asL (lstOf (M a)) fun ds => Q (.int ds.length) M := rfl
theorem bl_lenS {M : Mp} {z : Str} {Q : VK3} : bLen [.str z] M Q = (z.length ≤ sizeLine ∧ Q (.int z.length) M) := rfl
theorem bl_tuple {M : Mp} {d : D} {Q : VK3} : bTuple [d] M Q = asL (items M d) fun ds => Q (.tup ds) M := rfl
theorem bl_list {M : Mp} {d : D} {Q : VK3} : bList [d] M Q = asL (items M d) fun ds => ∀ p, M p = none → Q (.ref p) (mset M p (.lst ds)) := rfl
theorem bl_abs {M : Mp} {d : D} {Q : VK3} : bAbs [d] M Q = asI d fun i => Q (.int (if i < 0 then -i else i)) M := rfl
theorem bl_intI {M : Mp} {i : Int} {Q : VK3} : bInt [.int i] M Q = Q (.int i) M := rfl
theorem bl_intB {M : Mp} {i : Bool} {Q : VK3} : bInt [.bl i] M Q = Q (.int (if i then 1 else 0)) M := rfl
theorem bl_max {M : Mp} {i j : Int} {Q : VK3} : bMax [.int i, .int j] M Q = Q (.int (if j > i then j else i)) M := rfl
theorem bl_min {M : Mp} {i j : Int} {Q : VK3} : bMin [.int i, .int j] M Q = Q (.int (if j < i then j else i)) M := rfl
theorem bl_repr {M : Mp} {d : D} {Q : VK3} : bRepr [d] M Q = (Sh (top M d) ∧ Q (.str (shown (top M d))) M) := rfl
theorem op_eqSf {x y : Str} {M : Mp} {Q : VK3} : oEq false (.str x) (.str y) M Q = Q (.bl (decide (x = y))) M := rfl
theorem op_eqSt {x y : Str} {M : Mp} {Q : VK3} : oEq true (.str x) (.str y) M Q = Q (.bl (!decide (x = y))) M := rfl
theorem op_eqIf {x : Int} {e : D} {M : Mp} {Q : VK3} : oEq false (.int x) e M Q = (Pl (.int x) ∧ Pl (top M e) ∧ Q (.bl (eqD (.int x) (top M e))) M) := rfl
theorem op_eqIt {x : Int} {e : D} {M : Mp} {Q : VK3} : oEq true (.int x) e M Q = (Pl (.int x) ∧ Pl (top M e) ∧ Q (.bl (!eqD (.int x) (top M e))) M) := rfl
theorem op_eqTf {x : List D} {e : D} {M : Mp} {Q : VK3} : oEq false (.tup x) e M Q = (Pl (.tup x) ∧ Pl (top M e) ∧ Q (.bl (eqD (.tup x) (top M e))) M) := rfl
theorem op_eqTt {x : List D} {e : D} {M : Mp} {Q : VK3} : oEq true (.tup x) e M Q = (Pl (.tup x) ∧ Pl (top M e) ∧ Q (.bl (!eqD (.tup x) (top M e))) M) := rfl
theorem op_eqRf {x : Addr} {e : D} {M : Mp} {Q : VK3} : oEq false (.ref x) e M Q = (Pl (top M (.ref x)) ∧ Pl (top M e) ∧ Q (.bl (eqD (top M (.ref x)) (top M e))) M) := rfl
theorem op_eqRt {x : Addr} {e : D} {M : Mp} {Q : VK3} : oEq true (.ref x) e M Q = (Pl (top M (.ref x)) ∧ Pl (top M e) ∧ Q (.bl (!eqD (top M (.ref x)) (top M e))) M) := rfl
theorem op_eqNf {e : D} {M : Mp} {Q : VK3} : oEq false .non e M Q = (Pl .non ∧ Pl (top M e) ∧ Q (.bl (eqD .non (top M e))) M) := rfl
theorem op_eqNt {e : D} {M : Mp} {Q : VK3} : oEq true .non e M Q = (Pl .non ∧ Pl (top M e) ∧ Q (.bl (!eqD .non (top M e))) M) := rfl
theorem eqD_int {i j : Int} : eqD (.int i) (.int j) = decide (i = j) := by
  simp only [eqD, pdOf, PyData.eqv]
  rw [Bool.eq_iff_iff]; simp
theorem eqD_nil {x : List D} : eqD (.tup x) (.tup []) = x.isEmpty := by
  cases x <;> simp only [eqD, pdOf, pdsOf, PyData.eqv, PyData.eqvAll, List.isEmpty]
theorem pl_int {i : Int} : Pl (.int i) = True := eq_true ⟨rfl, Nat.zero_le _⟩
theorem pl_nil : Pl (.tup []) = True := eq_true ⟨rfl, by decide⟩
theorem pl_non : Pl .non = True := eq_true ⟨rfl, by decide⟩
theorem pl_rnil : Pl (.rol []) = True := eq_true ⟨rfl, by decide⟩
theorem pl_bl {b : Bool} : Pl (.bl b) = True := eq_true ⟨rfl, Nat.zero_le _⟩
theorem op_lle {a b : Addr} {M : Mp} {Q : VK3} : oAdd (.ref a) (.ref b) M Q = asL (lstOf (M a)) fun xs => asL (lstOf (M b)) fun ys => xs.length + ys.length ≤ sizeLine ∧ ∀ p, M p = none → Q (.ref p) (mset M p (.lst (xs ++ ys))) := by
  simp only [oAdd]
  cases M a with
  | none => rfl
  | some o =>
    cases o with
    | lst xs =>
      cases M b with
      | none => rfl
      | some u => cases u <;> rfl
    | _ => cases M b <;> rfl
theorem sl_tupE {ds : List D} {lo hi : Option Int} {M : Mp} {Q : VK3} : oSl (.tup ds) lo hi M Q = Q (.tup (cutD ds lo hi)) M := rfl
theorem sl_rolE {ds : List D} {lo hi : Option Int} {M : Mp} {Q : VK3} : oSl (.rol ds) lo hi M Q = ∀ p, M p = none → Q (.ref p) (mset M p (.lst (cutD ds lo hi))) := rfl
/-- a comprehension by what holds of the turn, what is made, M -/
theorem lc_pv {G : Mp → Prop} {g : TG3} {tt : TT3} {te : TE3} {τ : St3} {Q : List D → Mp → Prop} {ds : List D} (Pv : Nat → List D → Mp → Prop)
    (step : ∀ i d acc M, ds[i]? = some d → Pv i acc M → ∀ X : List D → Mp → Prop, (∀ acc' M', Pv (i + 1) acc' M' → X acc' M') → G M ∧ g d τ M fun τ2 M2 => tt τ2 M2 fun b M3 => ite3 b (te τ2 M3 fun y M4 => acc.length < sizeLine ∧ X (acc ++ [y]) M4) (X acc M3))
    (fin : ∀ acc M, Pv ds.length acc M → G M ∧ Q acc M) {M : Mp} (h0 : Pv 0 [] M) : lcW G g tt te τ Q ds [] M := by
  have go : ∀ (k i : Nat) (acc : List D) (M : Mp), ds.length - i = k → i ≤ ds.length → Pv i acc M → lcW G g tt te τ Q (ds.drop i) acc M := by
    intro k
    induction k with
    | zero =>
      intro i acc M hk hi p
      have e : i = ds.length := by omega
      subst e
      rw [List.drop_length]
      exact fin acc M p
    | succ k ih =>
      intro i acc M hk hi p
      have hlt : i < ds.length := by omega
      rw [List.drop_eq_getElem_cons hlt]
      exact step i _ acc M (List.getElem?_eq_getElem hlt) p _ fun acc' M' p' => ih (i + 1) acc' M' (by omega) hlt p'
  exact go _ 0 [] M rfl (Nat.zero_le _) h0
/-- a for by what holds ahead of each turn -/
theorem for_pv {G : Mp → Prop} {g : TG3} {tb : TS3} {E : Ends3} {ds : List D} (Pv : Nat → St3 → Mp → Prop)
    (step : ∀ i d τ M, ds[i]? = some d → Pv i τ M → ∀ X : St3 → Mp → Prop, (∀ τ' M', Pv (i + 1) τ' M' → X τ' M') → G M ∧ g d τ M fun τ2 M2 => tb { E with nx := X, ct := X, bk := E.nx } τ2 M2)
    (fin : ∀ τ M, Pv ds.length τ M → G M ∧ E.nx τ M) {τ : St3} {M : Mp} (h0 : Pv 0 τ M) : forW G g tb E ds τ M := by
  have go : ∀ (k i : Nat) (τ : St3) (M : Mp), ds.length - i = k → i ≤ ds.length → Pv i τ M → forW G g tb E (ds.drop i) τ M := by
    intro k
    induction k with
    | zero =>
      intro i τ M hk hi p
      have e : i = ds.length := by omega
      subst e
      rw [List.drop_length]
      exact fin τ M p
    | succ k ih =>
      intro i τ M hk hi p
      have hlt : i < ds.length := by omega
      rw [List.drop_eq_getElem_cons hlt]
      exact step i _ τ M (List.getElem?_eq_getElem hlt) p _ fun τ' M' p' => ih (i + 1) τ' M' (by omega) hlt p'
  exact go _ 0 τ M rfl (Nat.zero_le _) h0
theorem rgD_len (lo : Int) (n : Nat) : (rgD lo n).length = n := by unfold rgD; simp
/-- over a range -/
theorem for_rg {g : TG3} {tb : TS3} {E : Ends3} {lo : Int} {n : Nat} (Pv : Nat → St3 → Mp → Prop)
    (step : ∀ i τ M, i < n → Pv i τ M → ∀ X : St3 → Mp → Prop, (∀ τ' M', Pv (i + 1) τ' M' → X τ' M') → g (.int (lo + (i : Nat))) τ M fun τ2 M2 => tb { E with nx := X, ct := X, bk := E.nx } τ2 M2)
    (fin : ∀ τ M, Pv n τ M → E.nx τ M) {τ : St3} {M : Mp} (h0 : Pv 0 τ M) : forW (fun _ => True) g tb E (rgD lo n) τ M :=
  for_pv Pv (fun i d τ M hd p X hX => by
    obtain ⟨hi, rfl⟩ := rgD_get hd
    exact ⟨True.intro, step i τ M hi p X hX⟩) (fun τ M p => ⟨True.intro, fin τ M (by rw [rgD_len] at p; exact p)⟩) h0
structure Mat (M : Mp) (e : Addr) (as : List Addr) (T : Tab) : Prop where
  top : M e = some (.lst (as.map D.ref))
  len : as.length = T.length
  row : ∀ (i : Nat) (a : Addr) (r : List Ed), as[i]? = some a → T[i]? = some r → M a = some (.lst (r.map oD))
  nd : as.Nodup
  ne : e ∉ as
theorem Mat.le {M M' : Mp} {e : Addr} {as : List Addr} {T : Tab} (m : Mat M e as T) (l : Le M M') : Mat M' e as T :=
  ⟨l _ _ m.top, m.len, fun i a r h1 h2 => l _ _ (m.row i a r h1 h2), m.nd, m.ne⟩
/-- so many rows laid, the list of them not yet -/
structure Rows (M M' : Mp) (as : List Addr) (T : Tab) : Prop where
  le : Le M M'
  len : as.length = T.length
  row : ∀ (i : Nat) (a : Addr) (r : List Ed), as[i]? = some a → T[i]? = some r → M' a = some (.lst (r.map oD))
  nd : as.Nodup
  new : ∀ a ∈ as, M a = none
theorem Rows.nil {M : Mp} : Rows M M [] [] := ⟨.refl, rfl, fun _ _ _ h => by simp at h, List.nodup_nil, fun _ h => by simp at h⟩
theorem Rows.snoc {M M' : Mp} {as : List Addr} {T : Tab} {p : Addr} {r : List Ed} (x : Rows M M' as T) (hp : M' p = none) : Rows M (mset M' p (.lst (r.map oD))) (as ++ [p]) (T ++ [r]) := by
  have np : ∀ a ∈ as, a ≠ p := fun a ha => by
    obtain ⟨i, hi, e⟩ := List.mem_iff_getElem.mp ha
    have hT : i < T.length := by rw [← x.len]; exact hi
    exact ne_m (x.row i a T[i] (by rw [List.getElem?_eq_getElem hi, e]) (List.getElem?_eq_getElem hT)) hp
  refine ⟨x.le.new hp, by simp [x.len], fun i a q h1 h2 => ?_, ?_, fun a ha => ?_⟩
  · by_cases hi : i < as.length
    · rw [List.getElem?_append_left hi] at h1
      rw [List.getElem?_append_left (by rw [← x.len]; exact hi)] at h2
      rw [mset_ne (np a (List.mem_of_getElem? h1))]
      exact x.row i a q h1 h2
    · have e : i = as.length := by
        have := (List.getElem?_eq_some_iff.mp h1).1
        simp at this; omega
      subst e
      have h1' : p = a := by simpa using h1
      rw [x.len] at h2
      have h2' : r = q := by simpa using h2
      rw [← h1', mset_same, h2']
  · rw [List.nodup_append]
    exact ⟨x.nd, by simp, fun a ha b hb => by rw [List.mem_singleton] at hb; rw [hb]; exact np a ha⟩
  · rcases List.mem_append.mp ha with h | h
    · exact x.new a h
    · rw [List.mem_singleton] at h; subst h
      cases q : M a with
      | none => rfl
      | some o => rw [x.le a o q] at hp; cases hp
/-- a matrix's end stored -/
theorem Mat.put {M : Mp} {e : Addr} {as : List Addr} {T : Tab} {p : Nat} {a : Addr} {r r' : List Ed} (m : Mat M e as T) (ha : as[p]? = some a) (hr : T[p]? = some r) : Mat (mset M a (.lst (r'.map oD))) e as (T.set p r') := by
  have nea : e ≠ a := fun h => m.ne (h ▸ List.mem_of_getElem? ha)
  refine ⟨by rw [mset_ne nea]; exact m.top, by rw [List.length_set]; exact m.len, fun i b q h1 h2 => ?_, m.nd, m.ne⟩
  by_cases hi : i = p
  · subst hi
    rw [ha] at h1; cases h1
    rw [List.getElem?_set_self (List.getElem?_eq_some_iff.mp hr).1] at h2
    cases h2
    exact mset_same
  · rw [List.getElem?_set_ne (Ne.symm hi)] at h2
    have : b ≠ a := fun h => by subst h; exact hi (nd_ix m.nd h1 ha)
    rw [mset_ne this]
    exact m.row i b q h1 h2
theorem Mat.at {M : Mp} {e : Addr} {as : List Addr} {T : Tab} {p : Nat} {r : List Ed} (m : Mat M e as T) (hr : T[p]? = some r) : ∃ a, as[p]? = some a ∧ M a = some (.lst (r.map oD)) := by
  have hp : p < as.length := by rw [m.len]; exact (List.getElem?_eq_some_iff.mp hr).1
  exact ⟨as[p], List.getElem?_eq_getElem hp, m.row p _ r (List.getElem?_eq_getElem hp) hr⟩
theorem items_ref {M : Mp} {a : Addr} {ds : List D} (h : M a = some (.lst ds)) : items M (.ref a) = some ds := by
  simp only [items, h]; rfl
theorem atI_nat' {α : Type} {xs : List α} {i : Int} {v : α} (h0 : 0 ≤ i) (h : xs[i.toNat]? = some v) : atI xs i = some v := by
  have e : i = ((i.toNat : Nat) : Int) := by omega
  rw [e]; exact atI_nat h
theorem ixN_nat {n : Nat} {i : Int} (h0 : 0 ≤ i) (h1 : i < n) : ixN n i = some i.toNat := by
  unfold ixN
  rw [if_pos h0, if_pos h1]
theorem ex_lstF {t : TA3} {τ : St3} {M : Mp} {Q : VK3} : wLstF t τ M Q = t τ M fun xs M1 => xs.length ≤ sizeLine ∧ Q (.rol xs) M1 := rfl
theorem ex_repF {te tb : TE3} {τ : St3} {M : Mp} {Q : VK3} : wRepF te tb τ M Q = te τ M fun d M1 => tb τ M1 fun i M2 => asI i fun k => -(2 ^ 63) ≤ k ∧ k < 2 ^ 63 ∧ k.toNat ≤ sizeLine ∧ Q (.rol (List.replicate k.toNat d)) M2 := rfl
theorem ex_lgF1 {ta : TE3} {τ : St3} {M : Mp} {Q : VK3} : wLstRgF1 ta τ M Q = ta τ M fun d M1 => asI d fun n => (-(2 ^ 62) ≤ n ∧ n ≤ 16777216) ∧ Q (.rol (rgD 0 n.toNat)) M1 := rfl
theorem ex_lgF2 {ta tb : TE3} {τ : St3} {M : Mp} {Q : VK3} : wLstRgF2 ta tb τ M Q = ta τ M fun d M1 => tb τ M1 fun e M2 => asI d fun i => asI e fun j => (-(2 ^ 60) ≤ i ∧ i < 2 ^ 60 ∧ -(2 ^ 60) ≤ j ∧ j < 2 ^ 60 ∧ j - i ≤ 16777216) ∧ Q (.rol (rgD i (j - i).toNat)) M2 := rfl
theorem ex_tupRg1 {ta : TE3} {τ : St3} {M : Mp} {Q : VK3} : wTupRg1 ta τ M Q = ta τ M fun d M1 => asI d fun n => (-(2 ^ 62) ≤ n ∧ n ≤ 16777216) ∧ Q (.tup (rgD 0 n.toNat)) M1 := rfl
theorem ex_tupRg2 {ta tb : TE3} {τ : St3} {M : Mp} {Q : VK3} : wTupRg2 ta tb τ M Q = ta τ M fun d M1 => tb τ M1 fun e M2 => asI d fun i => asI e fun j => (-(2 ^ 60) ≤ i ∧ i < 2 ^ 60 ∧ -(2 ^ 60) ≤ j ∧ j < 2 ^ 60 ∧ j - i ≤ 16777216) ∧ Q (.tup (rgD i (j - i).toNat)) M2 := rfl
theorem ex_lcF {wi : TI3} {g : TG3} {tt : TT3} {te : TE3} {vs : List Nat} {τ : St3} {M : Mp} {Q : VK3} : wLcF wi g tt te vs τ M Q = wi τ M fun ds G M1 => lcW G g tt te (wipe3 τ vs) (fun acc M2 => Q (.rol acc) M2) ds [] M1 := rfl
theorem ex_frz {te : TE3} {τ : St3} {M : Mp} {Q : VK3} : wFrz te τ M Q = te τ M (frzK Q) := rfl
theorem ex_slF {te : TE3} {tl th : PT3o} {τ : St3} {M : Mp} {Q : VK3} : wSlF te tl th τ M Q = te τ M fun d M1 => tl τ M1 fun lo M2 => th τ M2 fun hi M3 => oSlF d lo hi M3 Q := rfl
theorem ex_slM {te : TE3} {tl th : PT3o} {τ : St3} {M : Mp} {Q : VK3} : wSlM te tl th τ M Q = te τ M fun d M1 => tl τ M1 fun lo M2 => th τ M2 fun hi M3 => oSlM d lo hi M3 Q := rfl
theorem sl_tupF {ds : List D} {lo hi : Option Int} {M : Mp} {Q : VK3} : oSlF (.tup ds) lo hi M Q = Q (.tup (cutD ds lo hi)) M := rfl
theorem sl_rolF {ds : List D} {lo hi : Option Int} {M : Mp} {Q : VK3} : oSlF (.rol ds) lo hi M Q = Q (.rol (cutD ds lo hi)) M := rfl
theorem op_iiF {i j : Int} {M : Mp} {Q : VK3} : oAddF (.int i) (.int j) M Q = Q (.int (i + j)) M := rfl
theorem op_ssF {i j : Str} {M : Mp} {Q : VK3} : oAddF (.str i) (.str j) M Q = (i.length + j.length ≤ sizeLine ∧ Q (.str (i ++ j)) M) := rfl
theorem op_ttF {i j : List D} {M : Mp} {Q : VK3} : oAddF (.tup i) (.tup j) M Q = (i.length + j.length ≤ sizeLine ∧ Q (.tup (i ++ j)) M) := rfl
theorem op_rrF {i j : List D} {M : Mp} {Q : VK3} : oAddF (.rol i) (.rol j) M Q = (i.length + j.length ≤ sizeLine ∧ Q (.rol (i ++ j)) M) := rfl
theorem op_rrM {i j : List D} {M : Mp} {Q : VK3} : oAddM (.rol i) (.rol j) M Q = (i.length + j.length ≤ sizeLine ∧ ∀ p, M p = none → Q (.ref p) (mset M p (.lst (i ++ j)))) := rfl
theorem op_mmF {i j : Int} {M : Mp} {Q : VK3} : oMulF (.int i) (.int j) M Q = (IntMulOk i j ∧ Q (.int (i * j)) M) := rfl
theorem op_repF {xs : List D} {e : D} {M : Mp} {Q : VK3} : oMulF (.rol xs) e M Q = asI e fun k => -(2 ^ 63) ≤ k ∧ k < 2 ^ 63 ∧ xs.length * k.toNat ≤ sizeLine ∧ Q (.rol (List.replicate k.toNat xs).flatten) M := rfl
theorem rep2 {x : D} : List.replicate (Int.toNat 2) x = [x, x] := rfl
theorem li_rol {M : Mp} {ds : List D} : lstI M (.rol ds) = some ds := rfl
theorem li_ref {M : Mp} {a : Addr} : lstI M (.ref a) = lstOf (M a) := rfl
theorem bl_listF {M : Mp} {d : D} {Q : VK3} : bListF [d] M Q = asL (items M d) fun ds => Q (.rol ds) M := rfl
theorem bl_allF {M : Mp} {d : D} {Q : VK3} : bAllF [d] M Q = asL (lstI M d) fun ds => asT (bls ds) fun l => Q (.bl (l.all id)) M := rfl
theorem bl_anyF {M : Mp} {d : D} {Q : VK3} : bAnyF [d] M Q = asL (lstI M d) fun ds => asT (bls ds) fun l => Q (.bl (l.any id)) M := rfl
theorem asT_some {l : List Bool} {k : List Bool → Prop} : asT (some l) k = k l := rfl
theorem asJ_some {l : List Int} {k : List Int → Prop} : asJ (some l) k = k l := rfl
theorem op_extF {a : Addr} {e : D} {M : Mp} {Q : VK3} : oExtF (.ref a) [e] M Q = asL (lstOf (M a)) fun xs => asL (lstI M e) fun ys => xs.length + ys.length ≤ sizeLine ∧ Q .non (mset M a (.lst (xs ++ ys))) := rfl
theorem op_eqLf {x : List D} {e : D} {M : Mp} {Q : VK3} : oEq false (.rol x) e M Q = (Pl (.rol x) ∧ Pl (top M e) ∧ Q (.bl (eqD (.rol x) (top M e))) M) := rfl
theorem op_eqLt {x : List D} {e : D} {M : Mp} {Q : VK3} : oEq true (.rol x) e M Q = (Pl (.rol x) ∧ Pl (top M e) ∧ Q (.bl (!eqD (.rol x) (top M e))) M) := rfl
theorem op_eqBf {x : Bool} {e : D} {M : Mp} {Q : VK3} : oEq false (.bl x) e M Q = (Pl (.bl x) ∧ Pl (top M e) ∧ Q (.bl (eqD (.bl x) (top M e))) M) := rfl
theorem op_eqBt {x : Bool} {e : D} {M : Mp} {Q : VK3} : oEq true (.bl x) e M Q = (Pl (.bl x) ∧ Pl (top M e) ∧ Q (.bl (!eqD (.bl x) (top M e))) M) := rfl
theorem it_zipF {t : TA3} {τ : St3} {M : Mp} {R : List D → (Mp → Prop) → Mp → Prop} : wZipF t τ M R = t τ M fun ds M1 => match ds with
  | [.tup xs, .tup ys] => R (zipD xs ys) (fun _ => True) M1
  | [.rol xs, .rol ys] => R (zipD xs ys) (fun _ => True) M1
  | _ => False := rfl
theorem bls_map {α : Type} (g : α → Bool) : ∀ l : List α, bls (l.map fun x => D.bl (g x)) = some (l.map g)
  | [] => rfl
  | x :: r => by
    show (bls (r.map fun x => D.bl (g x))).map (g x :: ·) = _
    rw [bls_map g r]; rfl
/-- a comprehension over items by what they are made of -/
theorem lc_of {α : Type} {G : Mp → Prop} {g : TG3} {te : TE3} {τ : St3} {Q : List D → Mp → Prop} {M : Mp} (enc : α → D) (f : α → D) (hG : G M) (xs : List α) (hl : xs.length ≤ sizeLine)
    (h : ∀ x ∈ xs, ∀ k : D → Mp → Prop, k (f x) M → g (enc x) τ M fun τ2 M2 => te τ2 M2 k) (q : Q (xs.map f) M) : lcW G g wYes te τ Q (xs.map enc) [] M := by
  have go : ∀ (ys : List α) (acc : List D), acc.length + ys.length ≤ sizeLine → (∀ x ∈ ys, x ∈ xs) → Q (acc ++ ys.map f) M → lcW G g wYes te τ Q (ys.map enc) acc M := by
    intro ys
    induction ys with
    | nil => intro acc _ _ q; exact ⟨hG, by simpa using q⟩
    | cons y ys ih =>
      intro acc hl hm q
      refine ⟨hG, h y (hm y (by simp)) _ ⟨by simp at hl; omega, ih _ (by simp at hl ⊢; omega) (fun x hx => hm x (by simp [hx])) (by simpa using q)⟩⟩
  exact go xs [] (by simpa using hl) (fun _ h => h) (by simpa using q)
/-- .. some of them -/
theorem lc_if {α : Type} {G : Mp → Prop} {g : TG3} {tt : TT3} {te : TE3} {τ : St3} {Q : List D → Mp → Prop} {M : Mp} (enc : α → D) (c : α → Bool) (f : α → D) (hG : G M) (xs : List α) (hl : xs.length ≤ sizeLine)
    (h : ∀ x ∈ xs, ∀ k : D → Mp → Prop, ∀ k2 : Mp → Prop, (c x = true → k (f x) M) → (c x = false → k2 M) → g (enc x) τ M fun τ2 M2 => tt τ2 M2 fun b M3 => ite3 b (te τ2 M3 k) (k2 M3)) (q : Q ((xs.filter c).map f) M) : lcW G g tt te τ Q (xs.map enc) [] M := by
  have go : ∀ (ys : List α) (acc : List D), acc.length + ys.length ≤ sizeLine → (∀ x ∈ ys, x ∈ xs) → Q (acc ++ (ys.filter c).map f) M → lcW G g tt te τ Q (ys.map enc) acc M := by
    intro ys
    induction ys with
    | nil => intro acc _ _ q; exact ⟨hG, by simpa using q⟩
    | cons y ys ih =>
      intro acc hl hm q
      refine ⟨hG, h y (hm y (by simp)) _ _ (fun hc => ⟨by simp at hl; omega, ih _ (by simp at hl ⊢; omega) (fun x hx => hm x (by simp [hx])) ?_⟩) fun hc => ih _ (by simp at hl ⊢; omega) (fun x hx => hm x (by simp [hx])) ?_⟩
      · simpa [List.filter_cons, hc] using q
      · simpa [List.filter_cons, hc] using q
  exact go xs [] (by simpa using hl) (fun _ h => h) (by simpa using q)
/-- over items by what they are made of -/
theorem for_of {α : Type} {G : Mp → Prop} {g : TG3} {tb : TS3} {E : Ends3} {xs : List α} (enc : α → D) (Pv : Nat → St3 → Mp → Prop) (hG : ∀ i τ M, Pv i τ M → G M)
    (step : ∀ i x τ M, xs[i]? = some x → Pv i τ M → ∀ X : St3 → Mp → Prop, (∀ τ' M', Pv (i + 1) τ' M' → X τ' M') → g (enc x) τ M fun τ2 M2 => tb { E with nx := X, ct := X, bk := E.nx } τ2 M2)
    (fin : ∀ τ M, Pv xs.length τ M → E.nx τ M) {τ : St3} {M : Mp} (h0 : Pv 0 τ M) : forW G g tb E (xs.map enc) τ M :=
  for_pv Pv (fun i d τ M hd p X hX => by
    rw [List.getElem?_map] at hd
    obtain ⟨x, hx, rfl⟩ := Option.map_eq_some_iff.mp hd
    exact ⟨hG i τ M p, step i x τ M hx p X hX⟩) (fun τ M p => ⟨hG _ τ M p, fin τ M (by rw [List.length_map] at p; exact p)⟩) h0
end L3
set_option Elab.async false
set_option linter.all false
set_option maxRecDepth 100000
set_option maxHeartbeats 4000000
namespace L3
open PySem PySem.Spec PyProof.Rows L2
def asN (o : Option Nat) (k : Nat → Prop) : Prop := match o with
  | some n => k n
  | none => False
theorem asN_some {n : Nat} {k : Nat → Prop} : asN (some n) k = k n := rfl
theorem exL {xs : List D} : (∃ ds, some (MO.lst xs) = some (MO.lst ds)) = True := eq_true ⟨xs, rfl⟩
theorem op_putE {a : Addr} {k : Int} {v : D} {M : Mp} {Q : Mp → Prop} : oPut (.ref a) (.int k) v M Q = asL (lstOf (M a)) fun ds => asN (ixN ds.length k) fun j => Q (mset M a (.lst (ds.set j v))) := by
  simp only [oPut]
  cases M a with
  | none => rfl
  | some o =>
    cases o with
    | lst ds =>
      simp only [lstOf_l, asL_some]
      cases ixN ds.length k <;> rfl
    | _ => rfl
theorem op_appE {a : Addr} {y : D} {M : Mp} {Q : VK3} : oApp (.ref a) [y] M Q = asL (lstOf (M a)) fun xs => xs.length < sizeLine ∧ Q .non (mset M a (.lst (xs ++ [y]))) := by
  simp only [oApp]
  cases M a with
  | none => rfl
  | some o => cases o <;> rfl
theorem keep_ref {M : Mp} {a : Addr} {ds : List D} : keepG M (.ref a) ds = fun M' => M' a = some (.lst ds) := rfl
theorem keep_tup {M : Mp} {xs ds : List D} : keepG M (.tup xs) ds = fun _ => True := rfl
theorem keep_rol {M : Mp} {xs ds : List D} : keepG M (.rol xs) ds = fun _ => True := rfl
theorem tp_int {M : Mp} {i : Int} : top M (.int i) = .int i := rfl
theorem tp_tup {M : Mp} {i : List D} : top M (.tup i) = .tup i := rfl
theorem tp_rol {M : Mp} {i : List D} : top M (.rol i) = .rol i := rfl
theorem tp_str {M : Mp} {i : Str} : top M (.str i) = .str i := rfl
theorem tp_bl {M : Mp} {i : Bool} : top M (.bl i) = .bl i := rfl
theorem tp_non {M : Mp} : top M .non = .non := rfl
def topOf (a : Addr) : Option MO → D
  | some (.lst ds) => .rol ds
  | _ => .ref a
theorem topOf_l {a : Addr} {ds : List D} : topOf a (some (.lst ds)) = .rol ds := rfl
theorem tp_ref {M : Mp} {a : Addr} : top M (.ref a) = topOf a (M a) := by
  simp only [top]
  cases M a with
  | none => rfl
  | some o => cases o <;> rfl
theorem wipe_nil {τ : St3} : wipe3 τ [] = τ := rfl
theorem wipe_cons {τ : St3} {v : Nat} {vs : List Nat} : wipe3 τ (v :: vs) = setS (wipe3 τ vs) v none := rfl
theorem isN_int {i : Int} : isN (.int i) = false := rfl
theorem isN_non : isN .non = true := rfl
theorem sz_0 : (([] : List D).length ≤ sizeLine) = True := eq_true (by show 0 ≤ sizeLine; decide)
theorem sz_1 {x0 : D} : (([x0] : List D).length ≤ sizeLine) = True := eq_true (by show 1 ≤ sizeLine; decide)
theorem sz_2 {x0 x1 : D} : (([x0, x1] : List D).length ≤ sizeLine) = True := eq_true (by show 2 ≤ sizeLine; decide)
theorem sz_3 {x0 x1 x2 : D} : (([x0, x1, x2] : List D).length ≤ sizeLine) = True := eq_true (by show 3 ≤ sizeLine; decide)
theorem sz_4 {x0 x1 x2 x3 : D} : (([x0, x1, x2, x3] : List D).length ≤ sizeLine) = True := eq_true (by show 4 ≤ sizeLine; decide)
theorem sz_5 {x0 x1 x2 x3 x4 : D} : (([x0, x1, x2, x3, x4] : List D).length ≤ sizeLine) = True := eq_true (by show 5 ≤ sizeLine; decide)
theorem sz_6 {x0 x1 x2 x3 x4 x5 : D} : (([x0, x1, x2, x3, x4, x5] : List D).length ≤ sizeLine) = True := eq_true (by show 6 ≤ sizeLine; decide)
theorem sz_7 {x0 x1 x2 x3 x4 x5 x6 : D} : (([x0, x1, x2, x3, x4, x5, x6] : List D).length ≤ sizeLine) = True := eq_true (by show 7 ≤ sizeLine; decide)
theorem sz_8 {x0 x1 x2 x3 x4 x5 x6 x7 : D} : (([x0, x1, x2, x3, x4, x5, x6, x7] : List D).length ≤ sizeLine) = True := eq_true (by show 8 ≤ sizeLine; decide)
theorem sz_9 {x0 x1 x2 x3 x4 x5 x6 x7 x8 : D} : (([x0, x1, x2, x3, x4, x5, x6, x7, x8] : List D).length ≤ sizeLine) = True := eq_true (by show 9 ≤ sizeLine; decide)
theorem sz_10 {x0 x1 x2 x3 x4 x5 x6 x7 x8 x9 : D} : (([x0, x1, x2, x3, x4, x5, x6, x7, x8, x9] : List D).length ≤ sizeLine) = True := eq_true (by show 10 ≤ sizeLine; decide)
theorem sz_11 {x0 x1 x2 x3 x4 x5 x6 x7 x8 x9 x10 : D} : (([x0, x1, x2, x3, x4, x5, x6, x7, x8, x9, x10] : List D).length ≤ sizeLine) = True := eq_true (by show 11 ≤ sizeLine; decide)
theorem sz_12 {x0 x1 x2 x3 x4 x5 x6 x7 x8 x9 x10 x11 : D} : (([x0, x1, x2, x3, x4, x5, x6, x7, x8, x9, x10, x11] : List D).length ≤ sizeLine) = True := eq_true (by show 12 ≤ sizeLine; decide)
/-- a holds three numbers -/
def Feed (M : Mp) (a : Addr) : Prop := ∃ g m c : Int, M a = some (.lst [.int g, .int m, .int c])
/-- a alone was written -/
def Only (a : Addr) (M M' : Mp) : Prop := ∀ b, b ≠ a → M' b = M b
theorem Only.refl {a : Addr} {M : Mp} : Only a M M := fun _ _ => rfl
theorem Only.trans {a : Addr} {M M1 M2 : Mp} (x : Only a M M1) (y : Only a M1 M2) : Only a M M2 := fun b h => (y b h).trans (x b h)
theorem Only.set {a : Addr} {M M1 : Mp} {o : MO} (x : Only a M M1) : Only a M (mset M1 a o) := fun b h => by rw [mset_ne h]; exact x b h
theorem md_in {x n : Int} (h : 0 < n) : 0 ≤ x.fmod n ∧ x.fmod n < n := ⟨Int.fmod_nonneg_of_pos _ h, Int.fmod_lt_of_pos _ h⟩
theorem mulL {i j : Int} (h : 0 ≤ i) (h1 : i < 2 ^ 64) : IntMulOk i j := CMul.ok (.inl ⟨by omega, h1⟩)
theorem mulR {i j : Int} (h : 0 ≤ j) (h1 : j < 2 ^ 64) : IntMulOk i j := CMul.ok (.inr ⟨by omega, h1⟩)
end L3
set_option Elab.async false
set_option linter.all false
set_option maxRecDepth 100000
set_option maxHeartbeats 4000000
namespace L3
open PySem PySem.Spec PyProof.Rows L2
theorem st_parE {i j : Nat} {d e : D} {D1 : Ends3} {τ : St3} {M : Mp} {ta tb : TE3} : wPar i j (wCons ta (wCons tb wNil)) D1 τ M = ta τ M fun d M1 => tb τ M1 fun e M2 => D1.nx (setS (setS τ i (some d)) j (some e)) M2 := rfl
structure Tm (h n : Nat) (d : D) : Prop where
  p : plain d = true
  dp : deep d ≤ h
  ok : showOk d = true
  sh : (pdOf d).leavesShort 120 = true
  bk : (pdOf d).bulk ≤ n
theorem Tm.int {i : Int} (hi : i.natAbs < 10 ^ 100) : Tm 0 0 (.int i) := by
  refine ⟨rfl, Nat.le_refl _, ?_, ?_, Nat.le_refl _⟩
  · unfold showOk
    rw [decide_eq_true_eq]
    by_cases e : i.natAbs = 0
    · rw [e]; decide
    · exact (Nat.log2_lt e).mpr (Nat.lt_of_lt_of_le hi (by decide +kernel))
  · show decide ((PyData.shown (.int i)).length ≤ 120) = true
    rw [decide_eq_true_eq]
    have e := int_text_length_le10 (k := 100) (by decide) hi
    show (Str.ofString (toString i)).length ≤ 120
    rw [PySem.ofString_length]
    omega
theorem Tm.non : Tm 0 0 .non := ⟨rfl, Nat.le_refl _, rfl, rfl, Nat.le_refl _⟩
theorem Tm.bl {b : Bool} : Tm 0 0 (.bl b) := ⟨rfl, Nat.le_refl _, rfl, rfl, Nat.le_refl _⟩
theorem Tm.mono {h n h' n' : Nat} {d : D} (t : Tm h n d) (a : h ≤ h') (b : n ≤ n') : Tm h' n' d := ⟨t.p, Nat.le_trans t.dp a, t.ok, t.sh, Nat.le_trans t.bk b⟩
theorem tms {h n : Nat} : ∀ ds : List D, (∀ d ∈ ds, Tm h n d) → plains ds = true ∧ deeps ds ≤ h ∧ showOks ds = true ∧ PyData.leavesShortAll 120 (pdsOf ds) = true ∧ PyData.bulkAll (pdsOf ds) ≤ ds.length * (n + 1)
  | [], _ => ⟨rfl, Nat.zero_le _, rfl, rfl, by simp [pdsOf, PyData.bulkAll]⟩
  | d :: ds, a => by
    obtain ⟨h1, h2, h3, h4, h5⟩ := tms ds fun x hx => a x (by simp [hx])
    have t := a d (by simp)
    refine ⟨by simp [plains, t.p, h1], ?_, by simp [showOks, t.ok, h3], by simp [pdsOf, PyData.leavesShortAll, t.sh, h4], ?_⟩
    · simp only [deeps]
      exact Nat.max_le.mpr ⟨t.dp, h2⟩
    · simp only [pdsOf, PyData.bulkAll, List.length_cons]
      have := t.bk
      rw [Nat.add_mul]
      omega
theorem Tm.tup {h n m : Nat} {ds : List D} (a : ∀ d ∈ ds, Tm h n d) (l : ds.length ≤ m) : Tm (h + 1) (m * (n + 1)) (.tup ds) := by
  obtain ⟨h1, h2, h3, h4, h5⟩ := tms ds a
  refine ⟨by simpa [plain] using h1, by simp only [deep]; omega, by simpa [showOk] using h3, by simpa [pdOf, PyData.leavesShort] using h4, ?_⟩
  simp only [pdOf, PyData.bulk]
  exact Nat.le_trans h5 (Nat.mul_le_mul_right _ l)
theorem Tm.rol {h n m : Nat} {ds : List D} (a : ∀ d ∈ ds, Tm h n d) (l : ds.length ≤ m) : Tm (h + 1) (m * (n + 1)) (.rol ds) := by
  obtain ⟨h1, h2, h3, h4, h5⟩ := tms ds a
  refine ⟨by simpa [plain] using h1, by simp only [deep]; omega, by simpa [showOk] using h3, by simpa [pdOf, PyData.leavesShort] using h4, ?_⟩
  simp only [pdOf, PyData.bulk]
  exact Nat.le_trans h5 (Nat.mul_le_mul_right _ l)
theorem Tm.pl {h n : Nat} {d : D} (t : Tm h n d) (a : h ≤ 64) : Pl d := ⟨t.p, Nat.le_trans t.dp a⟩
theorem Tm.fits {h n : Nat} {d : D} (t : Tm h n d) (a : h ≤ 64) (b : n ≤ 130000) : Sh d := by
  refine ⟨t.pl a, t.ok, ?_⟩
  have := PyData.shown_le_bulk 120 (by decide) (pdOf d) t.sh
  have := t.bk
  show (pdOf d).shown.length ≤ sizeLine
  have : sizeLine = 16777216 := by decide
  omega
/-- an end within a bound -/
def EdB (B : Nat) (e : Ed) : Prop := ∀ i, e = some i → i.natAbs < B
/-- a table of so many rows and columns, its ends within a bound -/
structure TabB (B n : Nat) (T : Tab) : Prop where
  rows : T.length = n
  cols : ∀ r ∈ T, r.length = n
  ends : ∀ r ∈ T, ∀ e ∈ r, EdB B e
theorem Tm.ed {B : Nat} {e : Ed} (h : EdB B e) (hB : B ≤ 10 ^ 100) : Tm 0 0 (oD e) := by
  cases e with
  | none => exact .non
  | some i => exact .int (Nat.lt_of_lt_of_le (h i rfl) hB)
theorem Tm.tab {B n : Nat} {T : Tab} (h : TabB B n T) (hB : B ≤ 10 ^ 100) : Tm 2 (n * (n + 1)) (tabD T) := by
  refine (Tm.tup (h := 1) (n := n * 1) (m := n) (fun d hd => ?_) (by rw [List.length_map, h.rows]; exact Nat.le_refl _)).mono (Nat.le_refl _) (by rw [Nat.mul_one]; exact Nat.le_refl _)
  obtain ⟨r, hr, rfl⟩ := List.mem_map.mp hd
  refine Tm.tup (h := 0) (n := 0) (m := n) (fun e he => ?_) (by rw [List.length_map, h.cols r hr]; exact Nat.le_refl _)
  obtain ⟨x, hx, rfl⟩ := List.mem_map.mp he
  exact .ed (h.ends r hr x hx) hB
end L3
set_option Elab.async false
set_option linter.all false
set_option maxRecDepth 100000
set_option maxHeartbeats 4000000
namespace L3
open PySem PySem.Spec PyProof.Rows L2
def emptyT (n : Nat) : Tab := List.replicate n (List.replicate n none)
def at2 (T : Tab) (p q : Nat) : Ed := (T.getD p []).getD q none
def putT (T : Tab) (p q : Nat) (e : Ed) : Tab := T.set p ((T.getD p []).set q e)
/-- so many rows, so many columns -/
structure Sq (n : Nat) (T : Tab) : Prop where
  rows : T.length = n
  cols : ∀ r ∈ T, r.length = n
theorem Sq.empty {n : Nat} : Sq n (emptyT n) := ⟨by simp [emptyT], fun r hr => by
  rw [List.eq_of_mem_replicate hr]; simp⟩
theorem Sq.put {n p q : Nat} {T : Tab} {e : Ed} (s : Sq n T) : Sq n (putT T p q e) := by
  refine ⟨by simp [putT, s.rows], fun r hr => ?_⟩
  rcases List.mem_or_eq_of_mem_set hr with h | h
  · exact s.cols r h
  · by_cases hp : p < T.length
    · rw [h, List.length_set, List.getD_eq_getElem?_getD, List.getElem?_eq_getElem hp]
      exact s.cols _ (List.getElem_mem hp)
    · unfold putT at hr
      rw [List.set_eq_of_length_le (by omega)] at hr
      exact s.cols r hr
/-- ends within a bound -/
def Ends (B : Nat) (T : Tab) : Prop := ∀ r ∈ T, ∀ e ∈ r, EdB B e
theorem EdB.non {B : Nat} : EdB B none := fun _ h => nomatch h
theorem Ends.empty {B n : Nat} : Ends B (emptyT n) := fun r hr e he => by
  rw [List.eq_of_mem_replicate hr] at he
  rw [List.eq_of_mem_replicate he]; exact .non
theorem Ends.put {B p q : Nat} {T : Tab} {e : Ed} (s : Ends B T) (h : EdB B e) : Ends B (putT T p q e) := by
  intro r hr x hx
  rcases List.mem_or_eq_of_mem_set hr with h' | h'
  · exact s r h' x hx
  · rw [h'] at hx
    rcases List.mem_or_eq_of_mem_set hx with h2 | h2
    · by_cases hp : p < T.length
      · rw [List.getD_eq_getElem?_getD, List.getElem?_eq_getElem hp] at h2
        exact s _ (List.getElem_mem hp) x h2
      · rw [List.getD_eq_getElem?_getD, List.getElem?_eq_none (by omega)] at h2
        simp at h2
    · rw [h2]; exact h
theorem TabB.of {B n : Nat} {T : Tab} (s : Sq n T) (e : Ends B T) : TabB B n T := ⟨s.rows, s.cols, e⟩
theorem TabB.sq {B n : Nat} {T : Tab} (t : TabB B n T) : Sq n T := ⟨t.rows, t.cols⟩
/-- the row and the end there -/
theorem Sq.get {n : Nat} {T : Tab} (s : Sq n T) {p q : Int} (hp : 0 ≤ p) (hp1 : p < n) (hq : 0 ≤ q) (hq1 : q < n) :
    ∃ r, T[p.toNat]? = some r ∧ r[q.toNat]? = some (at2 T p.toNat q.toNat) ∧ atI (T.map rowD) p = some (.tup (r.map oD)) ∧ atI (r.map oD) q = some (oD (at2 T p.toNat q.toNat)) ∧ ixN (r.map oD).length q = some q.toNat ∧ T.getD p.toNat [] = r := by
  have h1 : p.toNat < T.length := by rw [s.rows]; omega
  have h2 : q.toNat < T[p.toNat].length := by rw [s.cols _ (List.getElem_mem h1)]; omega
  have e1 : T.getD p.toNat [] = T[p.toNat] := by rw [List.getD_eq_getElem?_getD, List.getElem?_eq_getElem h1]; rfl
  have e2 : T[p.toNat][q.toNat]? = some (at2 T p.toNat q.toNat) := by
    unfold at2
    rw [e1, List.getD_eq_getElem?_getD, List.getElem?_eq_getElem h2]; rfl
  refine ⟨_, List.getElem?_eq_getElem h1, e2, atI_nat' hp (by rw [List.getElem?_map, List.getElem?_eq_getElem h1]; rfl), atI_nat' hq (by rw [List.getElem?_map, e2]; rfl), ixN_nat hq ?_, e1⟩
  rw [List.length_map, s.cols _ (List.getElem_mem h1)]; exact hq1
section
variable {Ma M : Mp} {as : List Addr} {T : Tab} {n : Nat}
theorem Rows.len2 (m : Rows Ma M as T) (s : Sq n T) : as.length = n := m.len.trans s.rows
theorem Rows.putR {p q : Nat} {a : Addr} {r : List Ed} {x : Ed} (m : Rows Ma M as T) (ha : as[p]? = some a) (hr : T[p]? = some r) : Rows Ma (mset M a (.lst ((r.map oD).set q (oD x)))) as (putT T p q x) := by
  have e1 : T.getD p [] = r := by rw [List.getD_eq_getElem?_getD, hr]; rfl
  rw [← List.map_set]
  refine ⟨m.le.put (m.new a (List.mem_of_getElem? ha)), by unfold putT; rw [List.length_set]; exact m.len, fun i b q' h1 h2 => ?_, m.nd, m.new⟩
  unfold putT at h2
  rw [e1] at h2
  by_cases hi : i = p
  · subst hi
    rw [ha] at h1; cases h1
    rw [List.getElem?_set_self (List.getElem?_eq_some_iff.mp hr).1] at h2
    cases h2
    exact mset_same
  · rw [List.getElem?_set_ne (Ne.symm hi)] at h2
    have : b ≠ a := fun h => by subst h; exact hi (nd_ix m.nd h1 ha)
    rw [mset_ne this]
    exact m.row i b q' h1 h2
theorem Rows.atR (m : Rows Ma M as T) (s : Sq n T) {p : Int} (h0 : 0 ≤ p) (h1 : p < n) : ∃ a r, atI (as.map D.ref) p = some (.ref a) ∧ M a = some (.lst (r.map oD)) ∧ as[p.toNat]? = some a ∧ T[p.toNat]? = some r ∧ r.length = n := by
  have hp : p.toNat < as.length := by rw [m.len2 s]; omega
  have hT : p.toNat < T.length := by rw [s.rows]; omega
  exact ⟨as[p.toNat], T[p.toNat], atI_nat' h0 (by rw [List.getElem?_map, List.getElem?_eq_getElem hp]; rfl), m.row _ _ _ (List.getElem?_eq_getElem hp) (List.getElem?_eq_getElem hT), List.getElem?_eq_getElem hp, List.getElem?_eq_getElem hT, s.cols _ (List.getElem_mem hT)⟩
/-- what stands at a place -/
theorem Rows.at2R (m : Rows Ma M as T) (s : Sq n T) {p q : Int} (hp0 : 0 ≤ p) (hp : p < n) (hq0 : 0 ≤ q) (hq : q < n) :
    ∃ a r, atI (as.map D.ref) p = some (.ref a) ∧ M a = some (.lst (r.map oD)) ∧ atI (r.map oD) q = some (oD (at2 T p.toNat q.toNat)) ∧ ixN (r.map oD).length q = some q.toNat ∧ as[p.toNat]? = some a ∧ T[p.toNat]? = some r := by
  obtain ⟨a, r, g1, g2, g3, g4, g5⟩ := m.atR s hp0 hp
  obtain ⟨r', h1, h2, h3, h4, h5, h6⟩ := s.get hp0 hp hq0 hq
  rw [g4] at h1; cases h1
  exact ⟨a, r, g1, g2, h4, h5, g3, g4⟩
/-- [list(row) for row in table] -/
theorem lc_rowsF {τ : St3} {i j n : Nat} {T : Tab} {M : Mp} {Q : VK3} (hs : getS τ i = some (tabD T)) (hj : j < τ.length) (hij : i ≠ j) (sq : Sq n T) (hn : n ≤ 1000)
    (q : ∀ as M', Rows M M' as T → Q (.rol (as.map D.ref)) M') : wLcF (wItems (wVar i)) (wgName j) wYes (wCB bList (wCons (wVar j) wNil)) [j] τ M Q := by
  simp only [st_seq, st_next, st_break, st_cont, st_set, st_ret, st_retN, st_drop, st_if, st_asg, st_par, st_for, ex_c, ex_var, ex_op, ex_un, ex_b, ex_and, ex_or, ex_not, ex_andV, ex_orV, ex_notV, ex_if, ex_chain, ex_nil, ex_cons, ex_tup, ex_lst, ex_call, ex_callP, ex_cb, ex_bm, ex_rep, ex_lc, ex_sl, ex_noPart, ex_part, ex_yes, it_items, it_rng1, it_rng2, tg_name, tg_sub, tg_tup, tg_cons, tg_nil, gs_0, gs_s, ss_0, ss_s, op_ii, op_ss, op_tt, op_mm, op_sb, op_ng, op_iNf, op_iNt, op_lle, op_ixT, op_ixR, op_ixL, op_putE, op_appE, it_tupE, it_rolE, it_refE, lstOf_l, exL, asS_some, asI_int, asB_bl, asL_some, asN_some, ite3_t, ite3_f, bl_1, bl_lenT, bl_lenR, bl_lenL, bl_lenS, bl_tuple, bl_list, bl_abs, bl_intI, bl_intB, bl_max, bl_min, bl_repr, op_eqSf, op_eqSt, op_eqIf, op_eqIt, op_eqTf, op_eqTt, op_eqRf, op_eqRt, op_eqNf, op_eqNt, eqD_int, eqD_nil, pl_int, pl_nil, pl_non, pl_rnil, pl_bl, sl_tupE, sl_rolE, keep_ref, keep_tup, keep_rol, tp_int, tp_tup, tp_rol, tp_str, tp_bl, tp_non, tp_ref, oFd, oMd, oPw, oShl, oLt, oLe, oGt, oGe, op_in, op_cp, wipe_nil, wipe_cons, mset_same, true_and, and_true, isN_int, sz_0, sz_1, sz_2, sz_3, sz_4, sz_5, sz_6, sz_7, sz_8, sz_9, sz_10, sz_11, sz_12, ex_lstF, ex_repF, ex_lgF1, ex_lgF2, ex_tupRg1, ex_tupRg2, ex_lcF, ex_frz, ex_slF, ex_slM, sl_tupF, sl_rolF, op_iiF, op_ssF, op_ttF, op_rrF, op_rrM, op_mmF, op_repF, li_rol, li_ref, bl_listF, bl_allF, bl_anyF, asT_some, asJ_some, op_eqLf, op_eqLt, op_eqBf, op_eqBt, isN_non, Bool.not_true, Bool.not_false, hs, tabD]
  refine lc_pv (fun k acc M' => ∃ as, acc = as.map D.ref ∧ k ≤ T.length ∧ Rows M M' as (T.take k)) ?_ ?_ ⟨[], rfl, Nat.zero_le _, .nil⟩
  · rintro k d acc M' hd ⟨as, rfl, hk, hR⟩ X hX
    refine ⟨True.intro, ?_⟩
    rw [List.getElem?_map] at hd
    obtain ⟨r, hr, rfl⟩ := Option.map_eq_some_iff.mp hd
    have hlt := (List.getElem?_eq_some_iff.mp hr).1
    have gj : getS (setS (setS τ j none) j (some (rowD r))) j = some (rowD r) := by
      rw [getS_set, if_pos ⟨rfl, by rw [setS_len]; exact hj⟩]
    simp only [st_seq, st_next, st_break, st_cont, st_set, st_ret, st_retN, st_drop, st_if, st_asg, st_par, st_for, ex_c, ex_var, ex_op, ex_un, ex_b, ex_and, ex_or, ex_not, ex_andV, ex_orV, ex_notV, ex_if, ex_chain, ex_nil, ex_cons, ex_tup, ex_lst, ex_call, ex_callP, ex_cb, ex_bm, ex_rep, ex_lc, ex_sl, ex_noPart, ex_part, ex_yes, it_items, it_rng1, it_rng2, tg_name, tg_sub, tg_tup, tg_cons, tg_nil, gs_0, gs_s, ss_0, ss_s, op_ii, op_ss, op_tt, op_mm, op_sb, op_ng, op_iNf, op_iNt, op_lle, op_ixT, op_ixR, op_ixL, op_putE, op_appE, it_tupE, it_rolE, it_refE, lstOf_l, exL, asS_some, asI_int, asB_bl, asL_some, asN_some, ite3_t, ite3_f, bl_1, bl_lenT, bl_lenR, bl_lenL, bl_lenS, bl_tuple, bl_list, bl_abs, bl_intI, bl_intB, bl_max, bl_min, bl_repr, op_eqSf, op_eqSt, op_eqIf, op_eqIt, op_eqTf, op_eqTt, op_eqRf, op_eqRt, op_eqNf, op_eqNt, eqD_int, eqD_nil, pl_int, pl_nil, pl_non, pl_rnil, pl_bl, sl_tupE, sl_rolE, keep_ref, keep_tup, keep_rol, tp_int, tp_tup, tp_rol, tp_str, tp_bl, tp_non, tp_ref, oFd, oMd, oPw, oShl, oLt, oLe, oGt, oGe, op_in, op_cp, wipe_nil, wipe_cons, mset_same, true_and, and_true, isN_int, sz_0, sz_1, sz_2, sz_3, sz_4, sz_5, sz_6, sz_7, sz_8, sz_9, sz_10, sz_11, sz_12, ex_lstF, ex_repF, ex_lgF1, ex_lgF2, ex_tupRg1, ex_tupRg2, ex_lcF, ex_frz, ex_slF, ex_slM, sl_tupF, sl_rolF, op_iiF, op_ssF, op_ttF, op_rrF, op_rrM, op_mmF, op_repF, li_rol, li_ref, bl_listF, bl_allF, bl_anyF, asT_some, asJ_some, op_eqLf, op_eqLt, op_eqBf, op_eqBt, isN_non, Bool.not_true, Bool.not_false, gj, rowD]
    have gj' : getS (setS (setS τ j none) j (some (.tup (r.map oD)))) j = some (.tup (r.map oD)) := gj
    simp only [st_seq, st_next, st_break, st_cont, st_set, st_ret, st_retN, st_drop, st_if, st_asg, st_par, st_for, ex_c, ex_var, ex_op, ex_un, ex_b, ex_and, ex_or, ex_not, ex_andV, ex_orV, ex_notV, ex_if, ex_chain, ex_nil, ex_cons, ex_tup, ex_lst, ex_call, ex_callP, ex_cb, ex_bm, ex_rep, ex_lc, ex_sl, ex_noPart, ex_part, ex_yes, it_items, it_rng1, it_rng2, tg_name, tg_sub, tg_tup, tg_cons, tg_nil, gs_0, gs_s, ss_0, ss_s, op_ii, op_ss, op_tt, op_mm, op_sb, op_ng, op_iNf, op_iNt, op_lle, op_ixT, op_ixR, op_ixL, op_putE, op_appE, it_tupE, it_rolE, it_refE, lstOf_l, exL, asS_some, asI_int, asB_bl, asL_some, asN_some, ite3_t, ite3_f, bl_1, bl_lenT, bl_lenR, bl_lenL, bl_lenS, bl_tuple, bl_list, bl_abs, bl_intI, bl_intB, bl_max, bl_min, bl_repr, op_eqSf, op_eqSt, op_eqIf, op_eqIt, op_eqTf, op_eqTt, op_eqRf, op_eqRt, op_eqNf, op_eqNt, eqD_int, eqD_nil, pl_int, pl_nil, pl_non, pl_rnil, pl_bl, sl_tupE, sl_rolE, keep_ref, keep_tup, keep_rol, tp_int, tp_tup, tp_rol, tp_str, tp_bl, tp_non, tp_ref, oFd, oMd, oPw, oShl, oLt, oLe, oGt, oGe, op_in, op_cp, wipe_nil, wipe_cons, mset_same, true_and, and_true, isN_int, sz_0, sz_1, sz_2, sz_3, sz_4, sz_5, sz_6, sz_7, sz_8, sz_9, sz_10, sz_11, sz_12, ex_lstF, ex_repF, ex_lgF1, ex_lgF2, ex_tupRg1, ex_tupRg2, ex_lcF, ex_frz, ex_slF, ex_slM, sl_tupF, sl_rolF, op_iiF, op_ssF, op_ttF, op_rrF, op_rrM, op_mmF, op_repF, li_rol, li_ref, bl_listF, bl_allF, bl_anyF, asT_some, asJ_some, op_eqLf, op_eqLt, op_eqBf, op_eqBt, isN_non, Bool.not_true, Bool.not_false, gj']
    intro p hp
    have big : (1000 : Nat) ≤ sizeLine := by decide
    have hlen := hR.len
    rw [List.length_take] at hlen
    have := sq.rows
    refine ⟨by rw [List.length_map]; omega, hX _ _ ⟨as ++ [p], by simp, hlt, ?_⟩⟩
    rw [List.take_succ, hr]
    exact hR.snoc hp
  · rintro acc M' ⟨as, rfl, hk, hR⟩
    rw [List.length_map, List.take_length] at hR
    exact ⟨True.intro, q _ _ hR⟩
/-- tuple([tuple(row) for row in m]) -/
theorem tab_of_rows {τ : St3} {i j : Nat} {Q : VK3} (hs : getS τ i = some (.rol (as.map D.ref))) (hj : j < τ.length) (m : Rows Ma M as T) (hl : as.length ≤ sizeLine) (q : Q (tabD T) M) :
    wCB bTuple (wCons (wLcF (wItems (wVar i)) (wgName j) wYes (wCB bTuple (wCons (wVar j) wNil)) [j]) wNil) τ M Q := by
  simp only [ex_cb, ex_cons, ex_lcF, it_items, it_rolE, ex_var, hs, asS_some, asL_some, keepG, ex_nil]
  refine lc_pv (fun n acc M' => M' = M ∧ n ≤ T.length ∧ acc = (T.take n).map rowD) ?_ ?_ ⟨rfl, Nat.zero_le _, rfl⟩
  · rintro n d acc M' hd ⟨rfl, hn, rfl⟩ X hX
    refine ⟨True.intro, ?_⟩
    rw [List.getElem?_map] at hd
    obtain ⟨a, ha, rfl⟩ := Option.map_eq_some_iff.mp hd
    have hlt : n < T.length := by rw [← m.len]; exact (List.getElem?_eq_some_iff.mp ha).1
    have hT : T[n]? = some T[n] := List.getElem?_eq_getElem hlt
    have gj : getS (setS (wipe3 τ [j]) j (some (.ref a))) j = some (.ref a) := by
      rw [getS_set, if_pos ⟨rfl, by show j < (setS τ j none).length; rw [setS_len]; exact hj⟩]
    simp only [tg_name, ex_yes, ite3_t, ex_cb, ex_cons, ex_var, gj, asS_some, ex_nil, bl_tuple, items_ref (m.row n a _ ha hT), asL_some]
    refine ⟨?_, hX _ _ ⟨rfl, hlt, ?_⟩⟩
    · rw [List.length_map, List.length_take]
      have := m.len
      omega
    · rw [List.take_succ, hT, List.map_append]; rfl
  · rintro acc M' ⟨rfl, hn, rfl⟩
    refine ⟨True.intro, ?_⟩
    rw [List.length_map, m.len, List.take_length]
    exact q
end
end L3
set_option Elab.async false
set_option linter.all false
set_option maxRecDepth 100000
set_option maxHeartbeats 4000000
namespace L3
open PySem PySem.Spec PyProof.Rows L2
abbrev Trip := Int × Int × Int
def tripD (t : Trip) : D := .tup [.int t.1, .int t.2.1, .int t.2.2]
def stepT (T : Tab) (t : Trip) : Tab := match at2 T t.1.toNat t.2.1.toNat with
  | none => putT T t.1.toNat t.2.1.toNat (some t.2.2)
  | some d => if t.2.2 < d then putT T t.1.toNat t.2.1.toNat (some t.2.2) else T
theorem Sq.step {n : Nat} {T : Tab} {t : Trip} (s : Sq n T) : Sq n (stepT T t) := by
  unfold stepT
  split
  · exact s.put
  · split
    · exact s.put
    · exact s
theorem Ends.step {B : Nat} {T : Tab} {t : Trip} (s : Ends B T) (h : t.2.2.natAbs < B) : Ends B (stepT T t) := by
  have e : EdB B (some t.2.2) := fun i hi => by cases hi; exact h
  unfold stepT
  split
  · exact s.put e
  · split
    · exact s.put e
    · exact s
/-- within the table -/
def In2 (n : Int) (t : Trip) : Prop := 0 ≤ t.1 ∧ t.1 < n ∧ 0 ≤ t.2.1 ∧ t.2.1 < n
end L3
set_option Elab.async false
set_option linter.all false
set_option maxRecDepth 100000
set_option maxHeartbeats 4000000
namespace L3
def eLe : Ed → Ed → Prop
  | _, none => True
  | some x, some y => x ≤ y
  | none, some _ => False
def eAdd : Ed → Ed → Ed
  | some x, some y => some (x + y)
  | _, _ => none
def eMin : Ed → Ed → Ed
  | none, b => b
  | a, none => a
  | some x, some y => some (if y < x then y else x)
section
variable {a b c d : Ed}
theorem eLe.rfl' : eLe a a := by cases a <;> simp [eLe]
theorem eLe_none : eLe a none := by cases a <;> simp [eLe]
theorem eLe_trans (h : eLe a b) (h2 : eLe b c) : eLe a c := by
  cases a <;> cases b <;> cases c <;> simp [eLe] at * <;> omega
theorem eLe_anti (h : eLe a b) (h2 : eLe b a) : a = b := by
  cases a <;> cases b <;> simp [eLe] at * <;> omega
theorem eMin_l : eLe (eMin a b) a := by
  cases a <;> cases b <;> simp [eLe, eMin] <;> split <;> omega
theorem eMin_r : eLe (eMin a b) b := by
  cases a <;> cases b <;> simp [eLe, eMin] <;> split <;> omega
theorem le_eMin (h : eLe c a) (h2 : eLe c b) : eLe c (eMin a b) := by
  cases a <;> cases b <;> cases c <;> simp [eLe, eMin] at * <;> (try split) <;> omega
theorem eMin_or : eMin a b = a ∨ eMin a b = b := by
  cases a with
  | none => exact .inr rfl
  | some x =>
    cases b with
    | none => exact .inl rfl
    | some y =>
      by_cases h : y < x
      · exact .inr (by simp only [eMin, if_pos h])
      · exact .inl (by simp only [eMin, if_neg h])
theorem eAdd_mono (h : eLe a b) (h2 : eLe c d) : eLe (eAdd a c) (eAdd b d) := by
  cases a <;> cases b <;> cases c <;> cases d <;> simp [eLe, eAdd] at * <;> omega
theorem eAdd_assoc : eAdd (eAdd a b) c = eAdd a (eAdd b c) := by
  cases a <;> cases b <;> cases c <;> simp [eAdd] <;> omega
theorem eAdd_0 : eAdd a (some 0) = a := by cases a <;> simp [eAdd]
theorem eAdd_0l : eAdd (some 0) a = a := by cases a <;> simp [eAdd]
theorem eMin_id (h : eLe a b) : eMin a b = a := by
  cases a <;> cases b <;> simp [eLe, eMin] at * <;> omega
theorem le_add_min (h1 : eLe a (eAdd b d)) (h2 : eLe a (eAdd c d)) : eLe a (eAdd (eMin b c) d) := by
  rcases eMin_or (a := b) (b := c) with e | e <;> rw [e] <;> assumption
theorem le_add_minr (h1 : eLe a (eAdd d b)) (h2 : eLe a (eAdd d c)) : eLe a (eAdd d (eMin b c)) := by
  rcases eMin_or (a := b) (b := c) with e | e <;> rw [e] <;> assumption
end
abbrev Fn := Nat → Nat → Ed
def Stable (n : Nat) (F : Fn) (s : Nat → Ed) : Prop := ∀ q, q < n → ∀ r, r < n → eLe (s r) (eAdd (s q) (F q r))
/-- S is T closed -/
structure IsCl (n : Nat) (T S : Fn) : Prop where
  diag : ∀ p, p < n → S p p = some 0
  tri : ∀ p q m, p < n → q < n → m < n → eLe (S p q) (eAdd (S p m) (S m q))
  le : ∀ p q, p < n → q < n → eLe (S p q) (T p q)
  st : ∀ s, Stable n T s → Stable n S s
/-- sums fall for ever -/
def Bad (n : Nat) (T : Fn) : Prop := ∃ m, m < n ∧ ∀ s, Stable n T s → s m = none
theorem IsCl.row {n m : Nat} {T S : Fn} (c : IsCl n T S) (hm : m < n) : Stable n T (S m) := fun q hq r hr =>
  eLe_trans (c.tri m r q hm hr hq) (eAdd_mono eLe.rfl' (c.le q r hq hr))
theorem IsCl.least {n : Nat} {T S : Fn} (c : IsCl n T S) {s : Nat → Ed} (h : Stable n T s) {p r : Nat} (hp : p < n) (hr : r < n) (h0 : eLe (s p) (some 0)) : eLe (s r) (S p r) := by
  have := c.st s h p hp r hr
  refine eLe_trans this ?_
  have := eAdd_mono (c := S p r) (d := S p r) h0 eLe.rfl'
  rwa [eAdd_0l] at this
theorem IsCl.uniq {n : Nat} {T S S' : Fn} (c : IsCl n T S) (c' : IsCl n T S') {p q : Nat} (hp : p < n) (hq : q < n) : S p q = S' p q := by
  refine eLe_anti (c'.least (c.row hp) hp hq ?_) (c.least (c'.row hp) hp hq ?_)
  · rw [c.diag p hp]; exact eLe.rfl'
  · rw [c'.diag p hp]; exact eLe.rfl'
theorem IsCl.good {n : Nat} {T S : Fn} (c : IsCl n T S) : ¬ Bad n T := by
  rintro ⟨m, hm, h⟩
  have := h _ (c.row hm)
  rw [c.diag m hm] at this
  cases this
def Neg (n : Nat) (f : Fn) : Prop := ∃ p, p < n ∧ ∃ x, f p p = some x ∧ x < 0
/-- what holds at all times: nothing is lost, nothing grows -/
structure Run (n : Nat) (T f : Fn) : Prop where
  st : ∀ s, Stable n T s → Stable n f s
  le : ∀ p q, p < n → q < n → eLe (f p q) (T p q)
  dg : ∀ p, p < n → eLe (f p p) (some 0)
/-- ahead of round m -/
structure Cm (n m B : Nat) (F : Fn) : Prop where
  diag : ∀ p, p < n → F p p = some 0
  tri : ∀ p q k, p < n → q < n → k < m → eLe (F p q) (eAdd (F p k) (F k q))
  bd : ∀ p q, p < n → q < n → EdB (2 ^ m * B) (F p q)
def rnd (F : Fn) (m : Nat) : Fn := fun p q => eMin (F p q) (eAdd (F p m) (F m q))
/-- in round m, rows ahead of i done, in row i columns ahead of j -/
def Mid (n m : Nat) (F f : Fn) (i j : Nat) : Prop := ∀ p q, p < n → q < n → f p q = if p < i ∨ (p = i ∧ q < j) then rnd F m p q else F p q
def updF (f : Fn) (i j : Nat) (e : Ed) : Fn := fun p q => if p = i ∧ q = j then e else f p q
def RunM (n m B : Nat) (T f : Fn) (i j : Nat) : Prop := Run n T f ∧ (Neg n f ∨ ∃ F, Cm n m B F ∧ Mid n m F f i j)
theorem rnd_l {n m B : Nat} {F : Fn} (c : Cm n m B F) (hm : m < n) {p : Nat} : rnd F m p m = F p m := by
  unfold rnd
  rw [c.diag m hm, eAdd_0]
  exact eMin_id eLe.rfl'
theorem rnd_r {n m B : Nat} {F : Fn} (c : Cm n m B F) (hm : m < n) {q : Nat} : rnd F m m q = F m q := by
  unfold rnd
  rw [c.diag m hm, eAdd_0l]
  exact eMin_id eLe.rfl'
theorem Run.upd {n m : Nat} {T f : Fn} (r : Run n T f) {i j : Nat} (hi : i < n) (hj : j < n) (hm : m < n) : Run n T (updF f i j (eMin (f i j) (eAdd (f i m) (f m j)))) := by
  refine ⟨fun s hs q hq t ht => ?_, fun p q hp hq => ?_, fun p hp => ?_⟩
  · unfold updF
    split
    · rename_i h
      obtain ⟨rfl, rfl⟩ := h
      refine le_add_minr (r.st s hs q hq t ht) ?_
      rw [← eAdd_assoc]
      exact eLe_trans (r.st s hs m hm t ht) (eAdd_mono (r.st s hs q hq m hm) eLe.rfl')
    · exact r.st s hs q hq t ht
  · unfold updF
    split
    · rename_i h
      obtain ⟨rfl, rfl⟩ := h
      exact eLe_trans eMin_l (r.le p q hp hq)
    · exact r.le p q hp hq
  · unfold updF
    split
    · rename_i h
      obtain ⟨rfl, e⟩ := h
      subst e
      exact eLe_trans eMin_l (r.dg p hp)
    · exact r.dg p hp
theorem Neg.upd {n : Nat} {f : Fn} {i j : Nat} {e : Ed} (h : Neg n f) (he : eLe e (f i j)) : Neg n (updF f i j e) := by
  obtain ⟨p, hp, x, hx, h0⟩ := h
  by_cases hij : p = i ∧ p = j
  · obtain ⟨h1, h2⟩ := hij
    subst h1
    subst h2
    rw [hx] at he
    cases e with
    | none => exact he.elim
    | some y => exact ⟨p, hp, y, by simp [updF], by simp [eLe] at he; omega⟩
  · exact ⟨p, hp, x, by unfold updF; rw [if_neg hij]; exact hx, h0⟩
theorem RunM.step {n m B : Nat} {T f : Fn} {i j : Nat} (r : RunM n m B T f i j) (hi : i < n) (hj : j < n) (hm : m < n) : RunM n m B T (updF f i j (eMin (f i j) (eAdd (f i m) (f m j)))) i (j + 1) := by
  refine ⟨r.1.upd hi hj hm, ?_⟩
  rcases r.2 with h | ⟨F, c, h⟩
  · exact .inl (h.upd eMin_l)
  · refine .inr ⟨F, c, fun p q hp hq => ?_⟩
    have e1 : f i j = F i j := by
      rw [h i j hi hj, if_neg]
      rintro (h | h)
      · exact Nat.lt_irrefl _ h
      · exact Nat.lt_irrefl _ h.2
    have e2 : f i m = F i m := by
      rw [h i m hi hm]
      split
      · exact rnd_l c hm
      · rfl
    have e3 : f m j = F m j := by
      rw [h m j hm hj]
      split
      · exact rnd_r c hm
      · rfl
    unfold updF
    by_cases e : p = i ∧ q = j
    · obtain ⟨rfl, rfl⟩ := e
      rw [if_pos ⟨rfl, rfl⟩, if_pos (.inr ⟨rfl, Nat.lt_succ_self _⟩), e1, e2, e3]
      rfl
    · rw [if_neg e, h p q hp hq]
      have : (p < i ∨ p = i ∧ q < j) ↔ (p < i ∨ p = i ∧ q < j + 1) := by
        constructor
        · rintro (h | h)
          · exact .inl h
          · exact .inr ⟨h.1, by omega⟩
        · rintro (h | h)
          · exact .inl h
          · refine .inr ⟨h.1, ?_⟩
            have : q ≠ j := fun z => e ⟨h.1, z⟩
            omega
      simp only [this]
theorem RunM.row {n m B : Nat} {T f : Fn} {i : Nat} (r : RunM n m B T f i n) : RunM n m B T f (i + 1) 0 := by
  refine ⟨r.1, ?_⟩
  rcases r.2 with h | ⟨F, c, h⟩
  · exact .inl h
  · refine .inr ⟨F, c, fun p q hp hq => ?_⟩
    rw [h p q hp hq]
    have : (p < i ∨ p = i ∧ q < n) ↔ (p < i + 1 ∨ p = i + 1 ∧ q < 0) := by omega
    simp only [this]
theorem Cm.next {n m B : Nat} {F f : Fn} (c : Cm n m B F) (hm : m < n) (he : ∀ p q, p < n → q < n → f p q = rnd F m p q) (hd : ∀ p, p < n → f p p = some 0) : Cm n (m + 1) B f := by
  refine ⟨hd, fun p q k hp hq hk => ?_, fun p q hp hq => ?_⟩
  · by_cases e : k = m
    · subst e
      rw [he p q hp hq, he p k hp hm, he k q hm hq, rnd_l c hm, rnd_r c hm]
      exact eMin_r
    · have hk' : k < m := by omega
      have hkn : k < n := by omega
      rw [he p q hp hq, he p k hp hkn, he k q hkn hq]
      unfold rnd
      refine le_add_min (le_add_minr ?_ ?_) (le_add_minr ?_ ?_)
      · exact eLe_trans eMin_l (c.tri p q k hp hq hk')
      · refine eLe_trans eMin_r ?_
        rw [← eAdd_assoc]
        exact eAdd_mono (c.tri p m k hp hm hk') eLe.rfl'
      · refine eLe_trans eMin_r ?_
        rw [eAdd_assoc]
        exact eAdd_mono eLe.rfl' (c.tri m q k hm hq hk')
      · refine eLe_trans eMin_r ?_
        have h1 := c.tri m m k hm hm hk'
        rw [c.diag m hm] at h1
        have h2 := eAdd_mono (eAdd_mono (eLe.rfl' (a := F p m)) h1) (eLe.rfl' (a := F m q))
        rw [eAdd_0] at h2
        rw [← eAdd_assoc, eAdd_assoc (a := F p m)]
        exact h2
  · rw [he p q hp hq]
    have b1 := c.bd p q hp hq
    have b2 := c.bd p m hp hm
    have b3 := c.bd m q hm hq
    have e : 2 ^ (m + 1) * B = 2 ^ m * B + 2 ^ m * B := by rw [Nat.pow_succ, Nat.mul_assoc, Nat.mul_comm 2 B, ← Nat.mul_assoc, Nat.mul_two]
    unfold rnd
    rcases eMin_or (a := F p q) (b := eAdd (F p m) (F m q)) with z | z <;> rw [z]
    · intro x hx
      have := b1 x hx
      omega
    · intro x hx
      cases h1 : F p m with
      | none => rw [h1] at hx; cases hx
      | some y =>
        cases h2 : F m q with
        | none => rw [h1, h2] at hx; cases hx
        | some w =>
          rw [h1, h2] at hx
          have e1 := b2 y h1
          have e2 := b3 w h2
          have : x = y + w := by simpa [eAdd] using hx.symm
          omega
def RunC (n m B : Nat) (T f : Fn) : Prop := Run n T f ∧ (Neg n f ∨ Cm n m B f)
theorem RunC.start {n m B : Nat} {T f : Fn} (r : RunC n m B T f) : RunM n m B T f 0 0 := by
  refine ⟨r.1, ?_⟩
  rcases r.2 with h | h
  · exact .inl h
  · refine .inr ⟨f, h, fun p q _ _ => ?_⟩
    rw [if_neg (by omega)]
theorem RunM.round {n m B : Nat} {T f : Fn} (r : RunM n m B T f n 0) (hm : m < n) : RunC n (m + 1) B T f := by
  refine ⟨r.1, ?_⟩
  by_cases hn : Neg n f
  · exact .inl hn
  · rcases r.2 with h | ⟨F, c, h⟩
    · exact .inl h
    · refine .inr (c.next hm (fun p q hp hq => ?_) fun p hp => ?_)
      · rw [h p q hp hq, if_pos (.inl hp)]
      · have h0 := r.1.dg p hp
        cases e : f p p with
        | none => rw [e] at h0; exact h0.elim
        | some x =>
          rw [e] at h0
          have : ¬ x < 0 := fun z => hn ⟨p, hp, x, e, z⟩
          simp [eLe] at h0
          have : x = 0 := by omega
          rw [this]
theorem RunC.bad {n m B : Nat} {T f : Fn} (r : RunC n m B T f) (h : Neg n f) : Bad n T := by
  obtain ⟨p, hp, x, hx, h0⟩ := h
  refine ⟨p, hp, fun s hs => ?_⟩
  have := r.1.st s hs p hp p hp
  rw [hx] at this
  cases e : s p with
  | none => rfl
  | some y => rw [e] at this; simp [eLe, eAdd] at this; omega
theorem RunC.cl {n B : Nat} {T f : Fn} (r : RunC n n B T f) (h : ¬ Neg n f) : IsCl n T f ∧ ∀ p q, p < n → q < n → EdB (2 ^ n * B) (f p q) := by
  rcases r.2 with z | c
  · exact absurd z h
  · exact ⟨⟨c.diag, fun p q m hp hq hm => c.tri p q m hp hq hm, r.1.le, r.1.st⟩, c.bd⟩
/-- the diagonal lessened: rows ahead of i done -/
def Dg (n : Nat) (T f : Fn) (i : Nat) : Prop := ∀ p q, p < n → q < n → f p q = if p = q ∧ p < i then eMin (T p q) (some 0) else T p q
theorem Dg.step {n : Nat} {T f : Fn} {i : Nat} (d : Dg n T f i) (hi : i < n) : Dg n T (updF f i i (eMin (f i i) (some 0))) (i + 1) := by
  intro p q hp hq
  unfold updF
  by_cases e : p = i ∧ q = i
  · obtain ⟨rfl, rfl⟩ := e
    rw [if_pos ⟨rfl, rfl⟩, if_pos ⟨rfl, Nat.lt_succ_self _⟩, d q q hq hq, if_neg (by omega)]
  · rw [if_neg e, d p q hp hq]
    have : (p = q ∧ p < i) ↔ (p = q ∧ p < i + 1) := by omega
    simp only [this]
theorem Dg.run {n B : Nat} {T f : Fn} (d : Dg n T f n) (hB : ∀ p q, p < n → q < n → EdB B (T p q)) (h0 : 0 < B) : RunC n 0 B T f := by
  have dg : ∀ p, p < n → eLe (f p p) (some 0) := fun p hp => by
    rw [d p p hp hp, if_pos ⟨rfl, hp⟩]; exact eMin_r
  refine ⟨⟨fun s hs q hq r hr => ?_, fun p q hp hq => ?_, dg⟩, ?_⟩
  · rw [d q r hq hr]
    split
    · rename_i h
      obtain ⟨rfl, _⟩ := h
      refine le_add_minr (hs q hq q hq) ?_
      rw [eAdd_0]; exact eLe.rfl'
    · exact hs q hq r hr
  · rw [d p q hp hq]
    split
    · exact eMin_l
    · exact eLe.rfl'
  · by_cases hn : Neg n f
    · exact .inl hn
    · refine .inr ⟨fun p hp => ?_, fun p q k _ _ hk => absurd hk (Nat.not_lt_zero _), fun p q hp hq => ?_⟩
      · have h1 := dg p hp
        cases e : f p p with
        | none => rw [e] at h1; exact h1.elim
        | some x =>
          rw [e] at h1
          have : ¬ x < 0 := fun z => hn ⟨p, hp, x, e, z⟩
          simp [eLe] at h1
          have : x = 0 := by omega
          rw [this]
      · rw [d p q hp hq]
        have hb := hB p q hp hq
        have e2 : 2 ^ 0 * B = B := by simp
        rw [e2]
        split
        · rcases eMin_or (a := T p q) (b := some 0) with z | z <;> rw [z]
          · exact hb
          · intro x hx
            cases hx
            exact h0
        · exact hb
end L3
set_option Elab.async false
set_option linter.all false
set_option maxRecDepth 100000
set_option maxHeartbeats 4000000
namespace L3
open PySem PySem.Spec PyProof.Rows L2
def SLesser (sp : Sp3) : Prop := ∀ (a b : Ed) (Q : VK3) (E : XK3), (∀ M, Q (oD (eMin a b)) M) → sp [oD a, oD b] M0 Q E
def SJoined (sp : Sp3) : Prop := ∀ (a b : Ed) (Q : VK3) (E : XK3), (∀ M, Q (oD (eAdd a b)) M) → sp [oD a, oD b] M0 Q E
def lesserR : XK3 → TS3 := fun E =>
  (wSeq (wIfS (wOr (wB (wOp (oIsN false) (wVar 0) (wC .non))) (wB (wOp (oIsN false) (wVar 1) (wC .non)))) (wRet (wIf (wB (wOp (oIsN false) (wVar 0) (wC .non))) (wVar 1) (wVar 0))) wNext)
  (wRet (wCB bMin (wCons (wVar 0) (wCons (wVar 1) wNil)))))
def joinedR : XK3 → TS3 := fun E =>
  (wRet (wIf (wOr (wB (wOp (oIsN false) (wVar 0) (wC .non))) (wB (wOp (oIsN false) (wVar 1) (wC .non)))) (wC .non) (wOp oAddF (wVar 0) (wVar 1))))
theorem s_lesser : SLesser (spOf 2 2 lesserR) := by
  refine fun a b Q E h => ⟨rfl, ?_⟩
  show lesserR E _ [some (oD a), some (oD b)] M0
  unfold lesserR
  cases a <;> cases b <;> simp only [st_seq, st_next, st_break, st_cont, st_set, st_ret, st_retN, st_drop, st_if, st_asg, st_par, st_for, ex_c, ex_var, ex_op, ex_un, ex_b, ex_and, ex_or, ex_not, ex_andV, ex_orV, ex_notV, ex_if, ex_chain, ex_nil, ex_cons, ex_tup, ex_lst, ex_call, ex_callP, ex_cb, ex_bm, ex_rep, ex_lc, ex_sl, ex_noPart, ex_part, ex_yes, it_items, it_rng1, it_rng2, tg_name, tg_sub, tg_tup, tg_cons, tg_nil, gs_0, gs_s, ss_0, ss_s, op_ii, op_ss, op_tt, op_mm, op_sb, op_ng, op_iNf, op_iNt, op_lle, op_ixT, op_ixR, op_ixL, op_putE, op_appE, it_tupE, it_rolE, it_refE, lstOf_l, exL, asS_some, asI_int, asB_bl, asL_some, asN_some, ite3_t, ite3_f, bl_1, bl_lenT, bl_lenR, bl_lenL, bl_lenS, bl_tuple, bl_list, bl_abs, bl_intI, bl_intB, bl_max, bl_min, bl_repr, op_eqSf, op_eqSt, op_eqIf, op_eqIt, op_eqTf, op_eqTt, op_eqRf, op_eqRt, op_eqNf, op_eqNt, eqD_int, eqD_nil, pl_int, pl_nil, pl_non, pl_rnil, pl_bl, sl_tupE, sl_rolE, keep_ref, keep_tup, keep_rol, tp_int, tp_tup, tp_rol, tp_str, tp_bl, tp_non, tp_ref, oFd, oMd, oPw, oShl, oLt, oLe, oGt, oGe, op_in, op_cp, wipe_nil, wipe_cons, mset_same, true_and, and_true, isN_int, sz_0, sz_1, sz_2, sz_3, sz_4, sz_5, sz_6, sz_7, sz_8, sz_9, sz_10, sz_11, sz_12, ex_lstF, ex_repF, ex_lgF1, ex_lgF2, ex_tupRg1, ex_tupRg2, ex_lcF, ex_frz, ex_slF, ex_slM, sl_tupF, sl_rolF, op_iiF, op_ssF, op_ttF, op_rrF, op_rrM, op_mmF, op_repF, li_rol, li_ref, bl_listF, bl_allF, bl_anyF, asT_some, asJ_some, op_eqLf, op_eqLt, op_eqBf, op_eqBt, isN_non, Bool.not_true, Bool.not_false, oD] <;> exact h M0
theorem s_joined : SJoined (spOf 2 2 joinedR) := by
  refine fun a b Q E h => ⟨rfl, ?_⟩
  show joinedR E _ [some (oD a), some (oD b)] M0
  unfold joinedR
  cases a <;> cases b <;> simp only [st_seq, st_next, st_break, st_cont, st_set, st_ret, st_retN, st_drop, st_if, st_asg, st_par, st_for, ex_c, ex_var, ex_op, ex_un, ex_b, ex_and, ex_or, ex_not, ex_andV, ex_orV, ex_notV, ex_if, ex_chain, ex_nil, ex_cons, ex_tup, ex_lst, ex_call, ex_callP, ex_cb, ex_bm, ex_rep, ex_lc, ex_sl, ex_noPart, ex_part, ex_yes, it_items, it_rng1, it_rng2, tg_name, tg_sub, tg_tup, tg_cons, tg_nil, gs_0, gs_s, ss_0, ss_s, op_ii, op_ss, op_tt, op_mm, op_sb, op_ng, op_iNf, op_iNt, op_lle, op_ixT, op_ixR, op_ixL, op_putE, op_appE, it_tupE, it_rolE, it_refE, lstOf_l, exL, asS_some, asI_int, asB_bl, asL_some, asN_some, ite3_t, ite3_f, bl_1, bl_lenT, bl_lenR, bl_lenL, bl_lenS, bl_tuple, bl_list, bl_abs, bl_intI, bl_intB, bl_max, bl_min, bl_repr, op_eqSf, op_eqSt, op_eqIf, op_eqIt, op_eqTf, op_eqTt, op_eqRf, op_eqRt, op_eqNf, op_eqNt, eqD_int, eqD_nil, pl_int, pl_nil, pl_non, pl_rnil, pl_bl, sl_tupE, sl_rolE, keep_ref, keep_tup, keep_rol, tp_int, tp_tup, tp_rol, tp_str, tp_bl, tp_non, tp_ref, oFd, oMd, oPw, oShl, oLt, oLe, oGt, oGe, op_in, op_cp, wipe_nil, wipe_cons, mset_same, true_and, and_true, isN_int, sz_0, sz_1, sz_2, sz_3, sz_4, sz_5, sz_6, sz_7, sz_8, sz_9, sz_10, sz_11, sz_12, ex_lstF, ex_repF, ex_lgF1, ex_lgF2, ex_tupRg1, ex_tupRg2, ex_lcF, ex_frz, ex_slF, ex_slM, sl_tupF, sl_rolF, op_iiF, op_ssF, op_ttF, op_rrF, op_rrM, op_mmF, op_repF, li_rol, li_ref, bl_listF, bl_allF, bl_anyF, asT_some, asJ_some, op_eqLf, op_eqLt, op_eqBf, op_eqBt, isN_non, Bool.not_true, Bool.not_false, oD] <;> exact h M0
theorem at2_put {n p q : Nat} {T : Tab} {e : Ed} (s : Sq n T) (hp : p < n) (hq : q < n) : at2 (putT T p q e) = updF (at2 T) p q e := by
  have h1 : p < T.length := by rw [s.rows]; exact hp
  have h2 : q < (T.getD p []).length := by
    rw [List.getD_eq_getElem?_getD, List.getElem?_eq_getElem h1]
    show q < T[p].length
    rw [s.cols _ (List.getElem_mem h1)]; exact hq
  funext i j
  unfold updF at2 putT
  by_cases hi : i = p
  · subst hi
    rw [List.getD_eq_getElem?_getD (l := T.set i _), List.getElem?_set_self h1]
    show ((T.getD i []).set q e).getD j none = _
    by_cases hj : j = q
    · subst hj
      rw [if_pos ⟨rfl, rfl⟩, List.getD_eq_getElem?_getD, List.getElem?_set_self h2]; rfl
    · rw [if_neg (fun h => hj h.2), List.getD_eq_getElem?_getD, List.getElem?_set_ne (Ne.symm hj), ← List.getD_eq_getElem?_getD]
  · rw [if_neg (fun h => hi h.1), List.getD_eq_getElem?_getD (l := T.set p _), List.getElem?_set_ne (Ne.symm hi), ← List.getD_eq_getElem?_getD]
theorem ends_at' {B n p q : Nat} {T : Tab} (t : TabB B n T) : EdB B (at2 T p q) := by
  unfold at2
  by_cases hp : p < T.length
  · rw [List.getD_eq_getElem?_getD, List.getD_eq_getElem?_getD, List.getElem?_eq_getElem hp]
    by_cases hq : q < T[p].length
    · have e : (some T[p]).getD [] = T[p] := rfl
      rw [e, List.getElem?_eq_getElem hq]
      exact t.ends _ (List.getElem_mem hp) _ (List.getElem_mem hq)
    · have e : (some T[p]).getD [] = T[p] := rfl
      rw [e, List.getElem?_eq_none (by omega)]
      exact .non
  · have e : T[p]? = none := List.getElem?_eq_none (by omega)
    rw [List.getD_eq_getElem?_getD, List.getD_eq_getElem?_getD, e]
    exact .non
theorem ends_of {B n : Nat} {T : Tab} (h : ∀ p q, p < n → q < n → EdB B (at2 T p q)) (s : Sq n T) : ∀ r ∈ T, ∀ e ∈ r, EdB B e := by
  intro r hr e he
  obtain ⟨p, hp, e1⟩ := List.mem_iff_getElem.mp hr
  obtain ⟨q, hq, e2⟩ := List.mem_iff_getElem.mp he
  have b := h p q (by rw [← s.rows]; exact hp) (by rw [← s.cols r hr]; exact hq)
  have : at2 T p q = e := by
    unfold at2
    rw [List.getD_eq_getElem?_getD, List.getD_eq_getElem?_getD, List.getElem?_eq_getElem hp]
    show (T[p][q]?).getD none = e
    rw [e1, List.getElem?_eq_getElem hq, e2]; rfl
  rw [this] at b
  exact b
def Closes (n B : Nat) (T : Tab) (d : D) : Prop := (Bad n (at2 T) ∧ d = .tup []) ∨ ∃ S : Tab, TabB (2 ^ n * B) n S ∧ IsCl n (at2 T) (at2 S) ∧ d = tabD S
def SClosed (sp : Sp3) : Prop := ∀ (n B : Nat) (T : Tab) (Q : VK3) (E : XK3), n ≤ 1000 → TabB B n T → 0 < B → (∀ d M, Closes n B T d → Q d M) → sp [tabD T] M0 Q E
def closedR (sp_lesser : Sp3) (sp_joined : Sp3) : XK3 → TS3 := fun E =>
  (wSeq (wSet 1 (wLstRgF1 (wCB bLen (wCons (wVar 0) wNil))))
  (wSeq (wSet 2 (wLcF (wItems (wVar 0)) (wgName 3) wYes (wCB bList (wCons (wVar 3) wNil)) [3]))
  (wSeq (wFor (wItems (wVar 1)) (wgName 4) (wAsg (wCallP sp_lesser E (wCons (wOp oIx (wOp oIx (wVar 2) (wVar 4)) (wVar 4)) (wCons (wC (.int 0)) wNil))) (wgSub (wOp oIx (wVar 2) (wVar 4)) (wVar 4) oPut)))
  (wSeq (wFor (wItems (wVar 1)) (wgName 5) (wFor (wItems (wVar 1)) (wgName 4) (wFor (wItems (wVar 1)) (wgName 6) (wAsg (wCallP sp_lesser E (wCons (wOp oIx (wOp oIx (wVar 2) (wVar 4)) (wVar 6)) (wCons (wCallP sp_joined E (wCons (wOp oIx (wOp oIx (wVar 2) (wVar 4)) (wVar 5)) (wCons (wOp oIx (wOp oIx (wVar 2) (wVar 5)) (wVar 6)) wNil))) wNil))) (wgSub (wOp oIx (wVar 2) (wVar 4)) (wVar 6) oPut)))))
  (wSeq (wIfS (wB (wCB bAnyF (wCons (wLcF (wItems (wVar 1)) (wgName 4) wYes (wOp oLt (wOp oIx (wOp oIx (wVar 2) (wVar 4)) (wVar 4)) (wC (.int 0))) [4]) wNil))) (wRet (wTup wNil)) wNext)
  (wRet (wCB bTuple (wCons (wLcF (wItems (wVar 2)) (wgName 3) wYes (wCB bTuple (wCons (wVar 3) wNil)) [3]) wNil))))))))
def negB (f : Fn) (p : Nat) : Bool := match f p p with
  | some x => decide (x < 0)
  | none => false
theorem neg_any {n : Nat} {f : Fn} : ((List.range n).map (negB f)).any id = true ↔ Neg n f := by
  rw [List.any_map, List.any_eq_true]
  constructor
  · rintro ⟨p, hp, h⟩
    rw [List.mem_range] at hp
    unfold negB at h
    refine ⟨p, hp, ?_⟩
    cases e : f p p with
    | none => simp [e] at h
    | some x => simp [e] at h; exact ⟨x, rfl, h⟩
  · rintro ⟨p, hp, x, hx, h0⟩
    refine ⟨p, List.mem_range.mpr hp, ?_⟩
    simp [negB, hx, h0]
/-- over a list of 0 .. n - 1 -/
theorem for_pts {g : TG3} {tb : TS3} {E : Ends3} {n : Nat} (Pv : Nat → St3 → Mp → Prop)
    (step : ∀ i τ M, i < n → Pv i τ M → ∀ X : St3 → Mp → Prop, (∀ τ' M', Pv (i + 1) τ' M' → X τ' M') → g (.int (0 + (i : Nat))) τ M fun τ2 M2 => tb { E with nx := X, ct := X, bk := E.nx } τ2 M2)
    (fin : ∀ τ M, Pv n τ M → E.nx τ M) {τ : St3} {M : Mp} (h0 : Pv 0 τ M) : forW (fun _ => True) g tb E (rgD 0 n) τ M := for_rg Pv step fin h0
theorem s_closed {sl sj : Sp3} (kl : SLesser sl) (kj : SJoined sj) : SClosed (spOf 1 7 (closedR sl sj)) := by
  refine fun n B T Q E hn tb hB h => ⟨rfl, ?_⟩
  show closedR sl sj E _ [some (tabD T), none, none, none, none, none, none] M0
  unfold closedR
  rw [st_seq, st_set]
  simp only [ex_c, ex_var, ex_op, ex_un, ex_b, ex_and, ex_or, ex_not, ex_andV, ex_orV, ex_notV, ex_if, ex_chain, ex_nil, ex_cons, ex_tup, ex_lst, ex_call, ex_callP, ex_cb, ex_bm, ex_rep, ex_sl, ex_noPart, ex_part, ex_yes, it_items, it_rng1, it_rng2, tg_name, tg_sub, tg_tup, tg_cons, tg_nil, gs_0, gs_s, ss_0, ss_s, op_ii, op_ss, op_tt, op_mm, op_sb, op_ng, op_iNf, op_iNt, op_lle, op_ixT, op_ixR, op_ixL, op_putE, op_appE, it_tupE, it_rolE, it_refE, lstOf_l, exL, asS_some, asI_int, asB_bl, asL_some, asN_some, ite3_t, ite3_f, bl_1, bl_lenT, bl_lenR, bl_lenL, bl_lenS, bl_tuple, bl_list, bl_abs, bl_intI, bl_intB, bl_max, bl_min, bl_repr, op_eqSf, op_eqSt, op_eqIf, op_eqIt, op_eqTf, op_eqTt, op_eqRf, op_eqRt, op_eqNf, op_eqNt, eqD_int, eqD_nil, pl_int, pl_nil, pl_non, pl_rnil, pl_bl, sl_tupE, sl_rolE, keep_ref, keep_tup, keep_rol, tp_int, tp_tup, tp_rol, tp_str, tp_bl, tp_non, tp_ref, oFd, oMd, oPw, oShl, oLt, oLe, oGt, oGe, op_in, op_cp, wipe_nil, wipe_cons, mset_same, true_and, and_true, isN_int, sz_0, sz_1, sz_2, sz_3, sz_4, sz_5, sz_6, sz_7, sz_8, sz_9, sz_10, sz_11, sz_12, ex_lstF, ex_repF, ex_lgF1, ex_lgF2, ex_tupRg1, ex_tupRg2, ex_frz, ex_slF, ex_slM, sl_tupF, sl_rolF, op_iiF, op_ssF, op_ttF, op_rrF, op_rrM, op_mmF, op_repF, li_rol, li_ref, bl_listF, bl_allF, bl_anyF, asT_some, asJ_some, op_eqLf, op_eqLt, op_eqBf, op_eqBt, isN_non, Bool.not_true, Bool.not_false, tabD, List.length_map, tb.rows, Int.toNat_natCast]
  refine ⟨⟨by omega, by omega⟩, ?_⟩
  rw [st_seq, st_set]
  refine lc_rowsF (n := n) rfl (by simp) (by decide) tb.sq hn fun as M1 m1 => ?_
  have eB := fun p q (_ : p < n) (_ : q < n) => ends_at' (p := p) (q := q) tb
  have e0 : ∀ i : Nat, (0 + (i : Int)).toNat = i := fun i => by omega
  have big : (1000 : Nat) ≤ sizeLine := by decide
  dsimp only
  rw [st_seq, st_for]
  simp only [ex_c, ex_var, ex_op, ex_un, ex_b, ex_and, ex_or, ex_not, ex_andV, ex_orV, ex_notV, ex_if, ex_chain, ex_nil, ex_cons, ex_tup, ex_lst, ex_call, ex_callP, ex_cb, ex_bm, ex_rep, ex_sl, ex_noPart, ex_part, ex_yes, it_items, it_rng1, it_rng2, tg_name, tg_sub, tg_tup, tg_cons, tg_nil, gs_0, gs_s, ss_0, ss_s, op_ii, op_ss, op_tt, op_mm, op_sb, op_ng, op_iNf, op_iNt, op_lle, op_ixT, op_ixR, op_ixL, op_putE, op_appE, it_tupE, it_rolE, it_refE, lstOf_l, exL, asS_some, asI_int, asB_bl, asL_some, asN_some, ite3_t, ite3_f, bl_1, bl_lenT, bl_lenR, bl_lenL, bl_lenS, bl_tuple, bl_list, bl_abs, bl_intI, bl_intB, bl_max, bl_min, bl_repr, op_eqSf, op_eqSt, op_eqIf, op_eqIt, op_eqTf, op_eqTt, op_eqRf, op_eqRt, op_eqNf, op_eqNt, eqD_int, eqD_nil, pl_int, pl_nil, pl_non, pl_rnil, pl_bl, sl_tupE, sl_rolE, keep_ref, keep_tup, keep_rol, tp_int, tp_tup, tp_rol, tp_str, tp_bl, tp_non, tp_ref, oFd, oMd, oPw, oShl, oLt, oLe, oGt, oGe, op_in, op_cp, wipe_nil, wipe_cons, mset_same, true_and, and_true, isN_int, sz_0, sz_1, sz_2, sz_3, sz_4, sz_5, sz_6, sz_7, sz_8, sz_9, sz_10, sz_11, sz_12, ex_lstF, ex_repF, ex_lgF1, ex_lgF2, ex_tupRg1, ex_tupRg2, ex_frz, ex_slF, ex_slM, sl_tupF, sl_rolF, op_iiF, op_ssF, op_ttF, op_rrF, op_rrM, op_mmF, op_repF, li_rol, li_ref, bl_listF, bl_allF, bl_anyF, asT_some, asJ_some, op_eqLf, op_eqLt, op_eqBf, op_eqBt, isN_non, Bool.not_true, Bool.not_false]
  -- the diagonal
  refine for_pts (fun i τ M' => i ≤ n ∧ (∃ f, Rows M0 M' as f ∧ Sq n f ∧ Dg n (at2 T) (at2 f) i) ∧ ∃ x3 x4 x5 x6, τ = [some (tabD T), some (.rol (rgD 0 n)), some (.rol (as.map D.ref)), x3, x4, x5, x6])
    ?_ ?_ ⟨Nat.zero_le _, ⟨T, m1, tb.sq, fun p q hp hq => by rw [if_neg (by omega)]⟩, _, _, _, _, rfl⟩
  · rintro i τ M' hi ⟨_, ⟨f, m, sq, dg⟩, x3, x4, x5, x6, rfl⟩ X hX
    obtain ⟨b, r, g1, g2, g3, g4, g5, g6⟩ := m.at2R sq (p := 0 + (i : Int)) (q := 0 + (i : Int)) (by omega) (by omega) (by omega) (by omega)
    rw [e0] at g3 g4 g5 g6
    simp only [st_seq, st_next, st_break, st_cont, st_set, st_ret, st_retN, st_drop, st_if, st_asg, st_par, st_for, ex_c, ex_var, ex_op, ex_un, ex_b, ex_and, ex_or, ex_not, ex_andV, ex_orV, ex_notV, ex_if, ex_chain, ex_nil, ex_cons, ex_tup, ex_lst, ex_call, ex_callP, ex_cb, ex_bm, ex_rep, ex_lc, ex_sl, ex_noPart, ex_part, ex_yes, it_items, it_rng1, it_rng2, tg_name, tg_sub, tg_tup, tg_cons, tg_nil, gs_0, gs_s, ss_0, ss_s, op_ii, op_ss, op_tt, op_mm, op_sb, op_ng, op_iNf, op_iNt, op_lle, op_ixT, op_ixR, op_ixL, op_putE, op_appE, it_tupE, it_rolE, it_refE, lstOf_l, exL, asS_some, asI_int, asB_bl, asL_some, asN_some, ite3_t, ite3_f, bl_1, bl_lenT, bl_lenR, bl_lenL, bl_lenS, bl_tuple, bl_list, bl_abs, bl_intI, bl_intB, bl_max, bl_min, bl_repr, op_eqSf, op_eqSt, op_eqIf, op_eqIt, op_eqTf, op_eqTt, op_eqRf, op_eqRt, op_eqNf, op_eqNt, eqD_int, eqD_nil, pl_int, pl_nil, pl_non, pl_rnil, pl_bl, sl_tupE, sl_rolE, keep_ref, keep_tup, keep_rol, tp_int, tp_tup, tp_rol, tp_str, tp_bl, tp_non, tp_ref, oFd, oMd, oPw, oShl, oLt, oLe, oGt, oGe, op_in, op_cp, wipe_nil, wipe_cons, mset_same, true_and, and_true, isN_int, sz_0, sz_1, sz_2, sz_3, sz_4, sz_5, sz_6, sz_7, sz_8, sz_9, sz_10, sz_11, sz_12, ex_lstF, ex_repF, ex_lgF1, ex_lgF2, ex_tupRg1, ex_tupRg2, ex_lcF, ex_frz, ex_slF, ex_slM, sl_tupF, sl_rolF, op_iiF, op_ssF, op_ttF, op_rrF, op_rrM, op_mmF, op_repF, li_rol, li_ref, bl_listF, bl_allF, bl_anyF, asT_some, asJ_some, op_eqLf, op_eqLt, op_eqBf, op_eqBt, isN_non, Bool.not_true, Bool.not_false, g1, g2, g3]
    refine kl _ (some 0) _ _ fun M2 => ?_
    simp only [st_seq, st_next, st_break, st_cont, st_set, st_ret, st_retN, st_drop, st_if, st_asg, st_par, st_for, ex_c, ex_var, ex_op, ex_un, ex_b, ex_and, ex_or, ex_not, ex_andV, ex_orV, ex_notV, ex_if, ex_chain, ex_nil, ex_cons, ex_tup, ex_lst, ex_call, ex_callP, ex_cb, ex_bm, ex_rep, ex_lc, ex_sl, ex_noPart, ex_part, ex_yes, it_items, it_rng1, it_rng2, tg_name, tg_sub, tg_tup, tg_cons, tg_nil, gs_0, gs_s, ss_0, ss_s, op_ii, op_ss, op_tt, op_mm, op_sb, op_ng, op_iNf, op_iNt, op_lle, op_ixT, op_ixR, op_ixL, op_putE, op_appE, it_tupE, it_rolE, it_refE, lstOf_l, exL, asS_some, asI_int, asB_bl, asL_some, asN_some, ite3_t, ite3_f, bl_1, bl_lenT, bl_lenR, bl_lenL, bl_lenS, bl_tuple, bl_list, bl_abs, bl_intI, bl_intB, bl_max, bl_min, bl_repr, op_eqSf, op_eqSt, op_eqIf, op_eqIt, op_eqTf, op_eqTt, op_eqRf, op_eqRt, op_eqNf, op_eqNt, eqD_int, eqD_nil, pl_int, pl_nil, pl_non, pl_rnil, pl_bl, sl_tupE, sl_rolE, keep_ref, keep_tup, keep_rol, tp_int, tp_tup, tp_rol, tp_str, tp_bl, tp_non, tp_ref, oFd, oMd, oPw, oShl, oLt, oLe, oGt, oGe, op_in, op_cp, wipe_nil, wipe_cons, mset_same, true_and, and_true, isN_int, sz_0, sz_1, sz_2, sz_3, sz_4, sz_5, sz_6, sz_7, sz_8, sz_9, sz_10, sz_11, sz_12, ex_lstF, ex_repF, ex_lgF1, ex_lgF2, ex_tupRg1, ex_tupRg2, ex_lcF, ex_frz, ex_slF, ex_slM, sl_tupF, sl_rolF, op_iiF, op_ssF, op_ttF, op_rrF, op_rrM, op_mmF, op_repF, li_rol, li_ref, bl_listF, bl_allF, bl_anyF, asT_some, asJ_some, op_eqLf, op_eqLt, op_eqBf, op_eqBt, isN_non, Bool.not_true, Bool.not_false, g1, g2, g4]
    have m2 := m.putR (q := i) (x := eMin (at2 f i i) (some 0)) g5 g6
    refine hX _ _ ⟨hi, ⟨_, m2, sq.put, ?_⟩, _, _, _, _, rfl⟩
    rw [at2_put sq hi hi]
    exact dg.step hi
  · rintro τ M' ⟨_, ⟨f, m, sq, dg⟩, x3, x4, x5, x6, rfl⟩
    have rc := dg.run eB hB
    dsimp only
    rw [st_seq, st_for]
    simp only [ex_c, ex_var, ex_op, ex_un, ex_b, ex_and, ex_or, ex_not, ex_andV, ex_orV, ex_notV, ex_if, ex_chain, ex_nil, ex_cons, ex_tup, ex_lst, ex_call, ex_callP, ex_cb, ex_bm, ex_rep, ex_sl, ex_noPart, ex_part, ex_yes, it_items, it_rng1, it_rng2, tg_name, tg_sub, tg_tup, tg_cons, tg_nil, gs_0, gs_s, ss_0, ss_s, op_ii, op_ss, op_tt, op_mm, op_sb, op_ng, op_iNf, op_iNt, op_lle, op_ixT, op_ixR, op_ixL, op_putE, op_appE, it_tupE, it_rolE, it_refE, lstOf_l, exL, asS_some, asI_int, asB_bl, asL_some, asN_some, ite3_t, ite3_f, bl_1, bl_lenT, bl_lenR, bl_lenL, bl_lenS, bl_tuple, bl_list, bl_abs, bl_intI, bl_intB, bl_max, bl_min, bl_repr, op_eqSf, op_eqSt, op_eqIf, op_eqIt, op_eqTf, op_eqTt, op_eqRf, op_eqRt, op_eqNf, op_eqNt, eqD_int, eqD_nil, pl_int, pl_nil, pl_non, pl_rnil, pl_bl, sl_tupE, sl_rolE, keep_ref, keep_tup, keep_rol, tp_int, tp_tup, tp_rol, tp_str, tp_bl, tp_non, tp_ref, oFd, oMd, oPw, oShl, oLt, oLe, oGt, oGe, op_in, op_cp, wipe_nil, wipe_cons, mset_same, true_and, and_true, isN_int, sz_0, sz_1, sz_2, sz_3, sz_4, sz_5, sz_6, sz_7, sz_8, sz_9, sz_10, sz_11, sz_12, ex_lstF, ex_repF, ex_lgF1, ex_lgF2, ex_tupRg1, ex_tupRg2, ex_frz, ex_slF, ex_slM, sl_tupF, sl_rolF, op_iiF, op_ssF, op_ttF, op_rrF, op_rrM, op_mmF, op_repF, li_rol, li_ref, bl_listF, bl_allF, bl_anyF, asT_some, asJ_some, op_eqLf, op_eqLt, op_eqBf, op_eqBt, isN_non, Bool.not_true, Bool.not_false]
    refine for_pts (fun i τ M' => i ≤ n ∧ (∃ f, Rows M0 M' as f ∧ Sq n f ∧ RunC n i B (at2 T) (at2 f)) ∧ ∃ x3 x4 x5 x6, τ = [some (tabD T), some (.rol (rgD 0 n)), some (.rol (as.map D.ref)), x3, x4, x5, x6])
      ?_ ?_ ⟨Nat.zero_le _, ⟨f, m, sq, rc⟩, _, _, _, _, rfl⟩
    · rintro k τ M' hk ⟨_, ⟨f, m, sq, rc⟩, x3, x4, x5, x6, rfl⟩ X hX
      rw [tg_name, st_for]
      simp only [ex_c, ex_var, ex_op, ex_un, ex_b, ex_and, ex_or, ex_not, ex_andV, ex_orV, ex_notV, ex_if, ex_chain, ex_nil, ex_cons, ex_tup, ex_lst, ex_call, ex_callP, ex_cb, ex_bm, ex_rep, ex_sl, ex_noPart, ex_part, ex_yes, it_items, it_rng1, it_rng2, tg_name, tg_sub, tg_tup, tg_cons, tg_nil, gs_0, gs_s, ss_0, ss_s, op_ii, op_ss, op_tt, op_mm, op_sb, op_ng, op_iNf, op_iNt, op_lle, op_ixT, op_ixR, op_ixL, op_putE, op_appE, it_tupE, it_rolE, it_refE, lstOf_l, exL, asS_some, asI_int, asB_bl, asL_some, asN_some, ite3_t, ite3_f, bl_1, bl_lenT, bl_lenR, bl_lenL, bl_lenS, bl_tuple, bl_list, bl_abs, bl_intI, bl_intB, bl_max, bl_min, bl_repr, op_eqSf, op_eqSt, op_eqIf, op_eqIt, op_eqTf, op_eqTt, op_eqRf, op_eqRt, op_eqNf, op_eqNt, eqD_int, eqD_nil, pl_int, pl_nil, pl_non, pl_rnil, pl_bl, sl_tupE, sl_rolE, keep_ref, keep_tup, keep_rol, tp_int, tp_tup, tp_rol, tp_str, tp_bl, tp_non, tp_ref, oFd, oMd, oPw, oShl, oLt, oLe, oGt, oGe, op_in, op_cp, wipe_nil, wipe_cons, mset_same, true_and, and_true, isN_int, sz_0, sz_1, sz_2, sz_3, sz_4, sz_5, sz_6, sz_7, sz_8, sz_9, sz_10, sz_11, sz_12, ex_lstF, ex_repF, ex_lgF1, ex_lgF2, ex_tupRg1, ex_tupRg2, ex_frz, ex_slF, ex_slM, sl_tupF, sl_rolF, op_iiF, op_ssF, op_ttF, op_rrF, op_rrM, op_mmF, op_repF, li_rol, li_ref, bl_listF, bl_allF, bl_anyF, asT_some, asJ_some, op_eqLf, op_eqLt, op_eqBf, op_eqBt, isN_non, Bool.not_true, Bool.not_false]
      refine for_pts (fun i τ M' => i ≤ n ∧ (∃ f, Rows M0 M' as f ∧ Sq n f ∧ RunM n k B (at2 T) (at2 f) i 0) ∧ ∃ x3 x4 x6, τ = [some (tabD T), some (.rol (rgD 0 n)), some (.rol (as.map D.ref)), x3, x4, some (.int (0 + (k : Nat))), x6])
        ?_ ?_ ⟨Nat.zero_le _, ⟨f, m, sq, rc.start⟩, _, _, _, rfl⟩
      · rintro i τ M' hi ⟨_, ⟨f, m, sq, rm⟩, x3, x4, x6, rfl⟩ X2 hX2
        rw [tg_name, st_for]
        simp only [ex_c, ex_var, ex_op, ex_un, ex_b, ex_and, ex_or, ex_not, ex_andV, ex_orV, ex_notV, ex_if, ex_chain, ex_nil, ex_cons, ex_tup, ex_lst, ex_call, ex_callP, ex_cb, ex_bm, ex_rep, ex_sl, ex_noPart, ex_part, ex_yes, it_items, it_rng1, it_rng2, tg_name, tg_sub, tg_tup, tg_cons, tg_nil, gs_0, gs_s, ss_0, ss_s, op_ii, op_ss, op_tt, op_mm, op_sb, op_ng, op_iNf, op_iNt, op_lle, op_ixT, op_ixR, op_ixL, op_putE, op_appE, it_tupE, it_rolE, it_refE, lstOf_l, exL, asS_some, asI_int, asB_bl, asL_some, asN_some, ite3_t, ite3_f, bl_1, bl_lenT, bl_lenR, bl_lenL, bl_lenS, bl_tuple, bl_list, bl_abs, bl_intI, bl_intB, bl_max, bl_min, bl_repr, op_eqSf, op_eqSt, op_eqIf, op_eqIt, op_eqTf, op_eqTt, op_eqRf, op_eqRt, op_eqNf, op_eqNt, eqD_int, eqD_nil, pl_int, pl_nil, pl_non, pl_rnil, pl_bl, sl_tupE, sl_rolE, keep_ref, keep_tup, keep_rol, tp_int, tp_tup, tp_rol, tp_str, tp_bl, tp_non, tp_ref, oFd, oMd, oPw, oShl, oLt, oLe, oGt, oGe, op_in, op_cp, wipe_nil, wipe_cons, mset_same, true_and, and_true, isN_int, sz_0, sz_1, sz_2, sz_3, sz_4, sz_5, sz_6, sz_7, sz_8, sz_9, sz_10, sz_11, sz_12, ex_lstF, ex_repF, ex_lgF1, ex_lgF2, ex_tupRg1, ex_tupRg2, ex_frz, ex_slF, ex_slM, sl_tupF, sl_rolF, op_iiF, op_ssF, op_ttF, op_rrF, op_rrM, op_mmF, op_repF, li_rol, li_ref, bl_listF, bl_allF, bl_anyF, asT_some, asJ_some, op_eqLf, op_eqLt, op_eqBf, op_eqBt, isN_non, Bool.not_true, Bool.not_false]
        refine for_pts (fun j τ M' => j ≤ n ∧ (∃ f, Rows M0 M' as f ∧ Sq n f ∧ RunM n k B (at2 T) (at2 f) i j) ∧ ∃ x3 x6, τ = [some (tabD T), some (.rol (rgD 0 n)), some (.rol (as.map D.ref)), x3, some (.int (0 + (i : Nat))), some (.int (0 + (k : Nat))), x6])
          ?_ ?_ ⟨Nat.zero_le _, ⟨f, m, sq, rm⟩, _, _, rfl⟩
        · rintro j τ M' hj ⟨_, ⟨f, m, sq, rm⟩, x3, x6, rfl⟩ X3 hX3
          obtain ⟨b, r, g1, g2, g3, g4, g5, g6⟩ := m.at2R sq (p := 0 + (i : Int)) (q := 0 + (j : Int)) (by omega) (by omega) (by omega) (by omega)
          obtain ⟨b', r', k1, k2, k3, _, k5, k6⟩ := m.at2R sq (p := 0 + (i : Int)) (q := 0 + (k : Int)) (by omega) (by omega) (by omega) (by omega)
          obtain ⟨c, t, l1, l2, l3, _, _, _⟩ := m.at2R sq (p := 0 + (k : Int)) (q := 0 + (j : Int)) (by omega) (by omega) (by omega) (by omega)
          rw [e0, e0] at g3 k3 l3
          rw [e0] at g4 g5 g6 k5 k6
          have eb : b' = b := by rw [g5] at k5; exact (Option.some.inj k5).symm
          have er : r' = r := by rw [g6] at k6; exact (Option.some.inj k6).symm
          rw [er] at k3
          simp only [st_seq, st_next, st_break, st_cont, st_set, st_ret, st_retN, st_drop, st_if, st_asg, st_par, st_for, ex_c, ex_var, ex_op, ex_un, ex_b, ex_and, ex_or, ex_not, ex_andV, ex_orV, ex_notV, ex_if, ex_chain, ex_nil, ex_cons, ex_tup, ex_lst, ex_call, ex_callP, ex_cb, ex_bm, ex_rep, ex_lc, ex_sl, ex_noPart, ex_part, ex_yes, it_items, it_rng1, it_rng2, tg_name, tg_sub, tg_tup, tg_cons, tg_nil, gs_0, gs_s, ss_0, ss_s, op_ii, op_ss, op_tt, op_mm, op_sb, op_ng, op_iNf, op_iNt, op_lle, op_ixT, op_ixR, op_ixL, op_putE, op_appE, it_tupE, it_rolE, it_refE, lstOf_l, exL, asS_some, asI_int, asB_bl, asL_some, asN_some, ite3_t, ite3_f, bl_1, bl_lenT, bl_lenR, bl_lenL, bl_lenS, bl_tuple, bl_list, bl_abs, bl_intI, bl_intB, bl_max, bl_min, bl_repr, op_eqSf, op_eqSt, op_eqIf, op_eqIt, op_eqTf, op_eqTt, op_eqRf, op_eqRt, op_eqNf, op_eqNt, eqD_int, eqD_nil, pl_int, pl_nil, pl_non, pl_rnil, pl_bl, sl_tupE, sl_rolE, keep_ref, keep_tup, keep_rol, tp_int, tp_tup, tp_rol, tp_str, tp_bl, tp_non, tp_ref, oFd, oMd, oPw, oShl, oLt, oLe, oGt, oGe, op_in, op_cp, wipe_nil, wipe_cons, mset_same, true_and, and_true, isN_int, sz_0, sz_1, sz_2, sz_3, sz_4, sz_5, sz_6, sz_7, sz_8, sz_9, sz_10, sz_11, sz_12, ex_lstF, ex_repF, ex_lgF1, ex_lgF2, ex_tupRg1, ex_tupRg2, ex_lcF, ex_frz, ex_slF, ex_slM, sl_tupF, sl_rolF, op_iiF, op_ssF, op_ttF, op_rrF, op_rrM, op_mmF, op_repF, li_rol, li_ref, bl_listF, bl_allF, bl_anyF, asT_some, asJ_some, op_eqLf, op_eqLt, op_eqBf, op_eqBt, isN_non, Bool.not_true, Bool.not_false, g1, g2, g3, k3, l1, l2, l3]
          refine kj _ _ _ _ fun M2 => kl _ _ _ _ fun M3 => ?_
          simp only [st_seq, st_next, st_break, st_cont, st_set, st_ret, st_retN, st_drop, st_if, st_asg, st_par, st_for, ex_c, ex_var, ex_op, ex_un, ex_b, ex_and, ex_or, ex_not, ex_andV, ex_orV, ex_notV, ex_if, ex_chain, ex_nil, ex_cons, ex_tup, ex_lst, ex_call, ex_callP, ex_cb, ex_bm, ex_rep, ex_lc, ex_sl, ex_noPart, ex_part, ex_yes, it_items, it_rng1, it_rng2, tg_name, tg_sub, tg_tup, tg_cons, tg_nil, gs_0, gs_s, ss_0, ss_s, op_ii, op_ss, op_tt, op_mm, op_sb, op_ng, op_iNf, op_iNt, op_lle, op_ixT, op_ixR, op_ixL, op_putE, op_appE, it_tupE, it_rolE, it_refE, lstOf_l, exL, asS_some, asI_int, asB_bl, asL_some, asN_some, ite3_t, ite3_f, bl_1, bl_lenT, bl_lenR, bl_lenL, bl_lenS, bl_tuple, bl_list, bl_abs, bl_intI, bl_intB, bl_max, bl_min, bl_repr, op_eqSf, op_eqSt, op_eqIf, op_eqIt, op_eqTf, op_eqTt, op_eqRf, op_eqRt, op_eqNf, op_eqNt, eqD_int, eqD_nil, pl_int, pl_nil, pl_non, pl_rnil, pl_bl, sl_tupE, sl_rolE, keep_ref, keep_tup, keep_rol, tp_int, tp_tup, tp_rol, tp_str, tp_bl, tp_non, tp_ref, oFd, oMd, oPw, oShl, oLt, oLe, oGt, oGe, op_in, op_cp, wipe_nil, wipe_cons, mset_same, true_and, and_true, isN_int, sz_0, sz_1, sz_2, sz_3, sz_4, sz_5, sz_6, sz_7, sz_8, sz_9, sz_10, sz_11, sz_12, ex_lstF, ex_repF, ex_lgF1, ex_lgF2, ex_tupRg1, ex_tupRg2, ex_lcF, ex_frz, ex_slF, ex_slM, sl_tupF, sl_rolF, op_iiF, op_ssF, op_ttF, op_rrF, op_rrM, op_mmF, op_repF, li_rol, li_ref, bl_listF, bl_allF, bl_anyF, asT_some, asJ_some, op_eqLf, op_eqLt, op_eqBf, op_eqBt, isN_non, Bool.not_true, Bool.not_false, g1, g2, g4]
          have m2 := m.putR (q := j) (x := eMin (at2 f i j) (eAdd (at2 f i k) (at2 f k j))) g5 g6
          refine hX3 _ _ ⟨hj, ⟨_, m2, sq.put, ?_⟩, _, _, rfl⟩
          rw [at2_put sq hi hj]
          exact rm.step hi hj hk
        · rintro τ M' ⟨_, ⟨f, m, sq, rm⟩, x3, x6, rfl⟩
          exact hX2 _ _ ⟨hi, ⟨f, m, sq, rm.row⟩, _, _, _, rfl⟩
      · rintro τ M' ⟨_, ⟨f, m, sq, rm⟩, x3, x4, x6, rfl⟩
        exact hX _ _ ⟨hk, ⟨f, m, sq, rm.round hk⟩, _, _, _, _, rfl⟩
    · rintro τ M' ⟨_, ⟨f, m, sq, rc⟩, x3, x4, x5, x6, rfl⟩
      dsimp only
      rw [st_seq, st_if]
      simp only [ex_c, ex_var, ex_op, ex_un, ex_b, ex_and, ex_or, ex_not, ex_andV, ex_orV, ex_notV, ex_if, ex_chain, ex_nil, ex_cons, ex_tup, ex_lst, ex_call, ex_callP, ex_cb, ex_bm, ex_rep, ex_sl, ex_noPart, ex_part, ex_yes, it_items, it_rng1, it_rng2, tg_name, tg_sub, tg_tup, tg_cons, tg_nil, gs_0, gs_s, ss_0, ss_s, op_ii, op_ss, op_tt, op_mm, op_sb, op_ng, op_iNf, op_iNt, op_lle, op_ixT, op_ixR, op_ixL, op_putE, op_appE, it_tupE, it_rolE, it_refE, lstOf_l, exL, asS_some, asI_int, asB_bl, asL_some, asN_some, ite3_t, ite3_f, bl_1, bl_lenT, bl_lenR, bl_lenL, bl_lenS, bl_tuple, bl_list, bl_abs, bl_intI, bl_intB, bl_max, bl_min, bl_repr, op_eqSf, op_eqSt, op_eqIf, op_eqIt, op_eqTf, op_eqTt, op_eqRf, op_eqRt, op_eqNf, op_eqNt, eqD_int, eqD_nil, pl_int, pl_nil, pl_non, pl_rnil, pl_bl, sl_tupE, sl_rolE, keep_ref, keep_tup, keep_rol, tp_int, tp_tup, tp_rol, tp_str, tp_bl, tp_non, tp_ref, oFd, oMd, oPw, oShl, oLt, oLe, oGt, oGe, op_in, op_cp, wipe_nil, wipe_cons, mset_same, true_and, and_true, isN_int, sz_0, sz_1, sz_2, sz_3, sz_4, sz_5, sz_6, sz_7, sz_8, sz_9, sz_10, sz_11, sz_12, ex_lstF, ex_repF, ex_lgF1, ex_lgF2, ex_tupRg1, ex_tupRg2, ex_frz, ex_slF, ex_slM, sl_tupF, sl_rolF, op_iiF, op_ssF, op_ttF, op_rrF, op_rrM, op_mmF, op_repF, li_rol, li_ref, bl_listF, bl_allF, bl_anyF, asT_some, asJ_some, op_eqLf, op_eqLt, op_eqBf, op_eqBt, isN_non, Bool.not_true, Bool.not_false, ex_lcF]
      refine lc_of (fun i : Nat => D.int (0 + (i : Int))) (fun i => D.bl (negB (at2 f) i)) True.intro (List.range n) (by rw [List.length_range]; omega) (fun k hk K q => ?_) ?_
      · rw [List.mem_range] at hk
        obtain ⟨b, r, g1, g2, g3, g4, g5, g6⟩ := m.at2R sq (p := 0 + (k : Int)) (q := 0 + (k : Int)) (by omega) (by omega) (by omega) (by omega)
        rw [e0] at g3
        have hd := rc.1.dg k hk
        cases ex : at2 f k k with
        | none => rw [ex] at hd; exact hd.elim
        | some x =>
          rw [ex] at g3
          simp only [ex_c, ex_var, ex_op, ex_un, ex_b, ex_and, ex_or, ex_not, ex_andV, ex_orV, ex_notV, ex_if, ex_chain, ex_nil, ex_cons, ex_tup, ex_lst, ex_call, ex_callP, ex_cb, ex_bm, ex_rep, ex_sl, ex_noPart, ex_part, ex_yes, it_items, it_rng1, it_rng2, tg_name, tg_sub, tg_tup, tg_cons, tg_nil, gs_0, gs_s, ss_0, ss_s, op_ii, op_ss, op_tt, op_mm, op_sb, op_ng, op_iNf, op_iNt, op_lle, op_ixT, op_ixR, op_ixL, op_putE, op_appE, it_tupE, it_rolE, it_refE, lstOf_l, exL, asS_some, asI_int, asB_bl, asL_some, asN_some, ite3_t, ite3_f, bl_1, bl_lenT, bl_lenR, bl_lenL, bl_lenS, bl_tuple, bl_list, bl_abs, bl_intI, bl_intB, bl_max, bl_min, bl_repr, op_eqSf, op_eqSt, op_eqIf, op_eqIt, op_eqTf, op_eqTt, op_eqRf, op_eqRt, op_eqNf, op_eqNt, eqD_int, eqD_nil, pl_int, pl_nil, pl_non, pl_rnil, pl_bl, sl_tupE, sl_rolE, keep_ref, keep_tup, keep_rol, tp_int, tp_tup, tp_rol, tp_str, tp_bl, tp_non, tp_ref, oFd, oMd, oPw, oShl, oLt, oLe, oGt, oGe, op_in, op_cp, wipe_nil, wipe_cons, mset_same, true_and, and_true, isN_int, sz_0, sz_1, sz_2, sz_3, sz_4, sz_5, sz_6, sz_7, sz_8, sz_9, sz_10, sz_11, sz_12, ex_lstF, ex_repF, ex_lgF1, ex_lgF2, ex_tupRg1, ex_tupRg2, ex_frz, ex_slF, ex_slM, sl_tupF, sl_rolF, op_iiF, op_ssF, op_ttF, op_rrF, op_rrM, op_mmF, op_repF, li_rol, li_ref, bl_listF, bl_allF, bl_anyF, asT_some, asJ_some, op_eqLf, op_eqLt, op_eqBf, op_eqBt, isN_non, Bool.not_true, Bool.not_false, g1, g2, g3, oD]
          simpa [negB, ex] using q
      · simp only [ex_c, ex_var, ex_op, ex_un, ex_b, ex_and, ex_or, ex_not, ex_andV, ex_orV, ex_notV, ex_if, ex_chain, ex_nil, ex_cons, ex_tup, ex_lst, ex_call, ex_callP, ex_cb, ex_bm, ex_rep, ex_sl, ex_noPart, ex_part, ex_yes, it_items, it_rng1, it_rng2, tg_name, tg_sub, tg_tup, tg_cons, tg_nil, gs_0, gs_s, ss_0, ss_s, op_ii, op_ss, op_tt, op_mm, op_sb, op_ng, op_iNf, op_iNt, op_lle, op_ixT, op_ixR, op_ixL, op_putE, op_appE, it_tupE, it_rolE, it_refE, lstOf_l, exL, asS_some, asI_int, asB_bl, asL_some, asN_some, ite3_t, ite3_f, bl_1, bl_lenT, bl_lenR, bl_lenL, bl_lenS, bl_tuple, bl_list, bl_abs, bl_intI, bl_intB, bl_max, bl_min, bl_repr, op_eqSf, op_eqSt, op_eqIf, op_eqIt, op_eqTf, op_eqTt, op_eqRf, op_eqRt, op_eqNf, op_eqNt, eqD_int, eqD_nil, pl_int, pl_nil, pl_non, pl_rnil, pl_bl, sl_tupE, sl_rolE, keep_ref, keep_tup, keep_rol, tp_int, tp_tup, tp_rol, tp_str, tp_bl, tp_non, tp_ref, oFd, oMd, oPw, oShl, oLt, oLe, oGt, oGe, op_in, op_cp, wipe_nil, wipe_cons, mset_same, true_and, and_true, isN_int, sz_0, sz_1, sz_2, sz_3, sz_4, sz_5, sz_6, sz_7, sz_8, sz_9, sz_10, sz_11, sz_12, ex_lstF, ex_repF, ex_lgF1, ex_lgF2, ex_tupRg1, ex_tupRg2, ex_frz, ex_slF, ex_slM, sl_tupF, sl_rolF, op_iiF, op_ssF, op_ttF, op_rrF, op_rrM, op_mmF, op_repF, li_rol, li_ref, bl_listF, bl_allF, bl_anyF, asT_some, asJ_some, op_eqLf, op_eqLt, op_eqBf, op_eqBt, isN_non, Bool.not_true, Bool.not_false, bls_map]
        refine ite3_by (fun hc => ?_) (fun hc => ?_)
        · simp only [st_seq, st_next, st_break, st_cont, st_set, st_ret, st_retN, st_drop, st_if, st_asg, st_par, st_for, ex_c, ex_var, ex_op, ex_un, ex_b, ex_and, ex_or, ex_not, ex_andV, ex_orV, ex_notV, ex_if, ex_chain, ex_nil, ex_cons, ex_tup, ex_lst, ex_call, ex_callP, ex_cb, ex_bm, ex_rep, ex_lc, ex_sl, ex_noPart, ex_part, ex_yes, it_items, it_rng1, it_rng2, tg_name, tg_sub, tg_tup, tg_cons, tg_nil, gs_0, gs_s, ss_0, ss_s, op_ii, op_ss, op_tt, op_mm, op_sb, op_ng, op_iNf, op_iNt, op_lle, op_ixT, op_ixR, op_ixL, op_putE, op_appE, it_tupE, it_rolE, it_refE, lstOf_l, exL, asS_some, asI_int, asB_bl, asL_some, asN_some, ite3_t, ite3_f, bl_1, bl_lenT, bl_lenR, bl_lenL, bl_lenS, bl_tuple, bl_list, bl_abs, bl_intI, bl_intB, bl_max, bl_min, bl_repr, op_eqSf, op_eqSt, op_eqIf, op_eqIt, op_eqTf, op_eqTt, op_eqRf, op_eqRt, op_eqNf, op_eqNt, eqD_int, eqD_nil, pl_int, pl_nil, pl_non, pl_rnil, pl_bl, sl_tupE, sl_rolE, keep_ref, keep_tup, keep_rol, tp_int, tp_tup, tp_rol, tp_str, tp_bl, tp_non, tp_ref, oFd, oMd, oPw, oShl, oLt, oLe, oGt, oGe, op_in, op_cp, wipe_nil, wipe_cons, mset_same, true_and, and_true, isN_int, sz_0, sz_1, sz_2, sz_3, sz_4, sz_5, sz_6, sz_7, sz_8, sz_9, sz_10, sz_11, sz_12, ex_lstF, ex_repF, ex_lgF1, ex_lgF2, ex_tupRg1, ex_tupRg2, ex_lcF, ex_frz, ex_slF, ex_slM, sl_tupF, sl_rolF, op_iiF, op_ssF, op_ttF, op_rrF, op_rrM, op_mmF, op_repF, li_rol, li_ref, bl_listF, bl_allF, bl_anyF, asT_some, asJ_some, op_eqLf, op_eqLt, op_eqBf, op_eqBt, isN_non, Bool.not_true, Bool.not_false]
          exact h _ _ (.inl ⟨rc.bad (neg_any.mp hc), rfl⟩)
        · have hng : ¬ Neg n (at2 f) := fun z => by
            rw [neg_any.mpr z] at hc; cases hc
          obtain ⟨cl, bd⟩ := rc.cl hng
          simp only [ite3_f, st_next, st_ret]
          refine tab_of_rows rfl (by simp) m (by rw [m.len2 sq]; omega) (h _ _ (.inr ⟨f, ⟨sq.rows, sq.cols, ?_⟩, cl, rfl⟩))
          exact ends_of bd sq
end L3
set_option Elab.async false
set_option linter.all false
set_option maxRecDepth 100000
set_option maxHeartbeats 4000000
namespace L3
theorem closes_ex {n B : Nat} {T : Tab} (tb : TabB B n T) (hB : 0 < B) : ∃ d, Closes n B T d := by
  have d1 : ∀ i, i ≤ n → ∃ f, Dg n (at2 T) f i := by
    intro i
    induction i with
    | zero => exact fun _ => ⟨at2 T, fun p q _ _ => by rw [if_neg (by omega)]⟩
    | succ i ih => exact fun h => let ⟨f, d⟩ := ih (by omega); ⟨_, d.step (by omega)⟩
  have d2 : ∀ m, m ≤ n → ∃ f, RunC n m B (at2 T) f := by
    intro m
    induction m with
    | zero => exact fun _ => let ⟨f, d⟩ := d1 n (Nat.le_refl _); ⟨f, d.run (fun p q _ _ => ends_at' tb) hB⟩
    | succ m ih =>
      intro hm
      obtain ⟨f, r⟩ := ih (by omega)
      have d3 : ∀ i, i ≤ n → ∃ f, RunM n m B (at2 T) f i 0 := by
        intro i
        induction i with
        | zero => exact fun _ => ⟨f, r.start⟩
        | succ i ih =>
          intro hi
          obtain ⟨f, r⟩ := ih (by omega)
          have d4 : ∀ j, j ≤ n → ∃ f, RunM n m B (at2 T) f i j := by
            intro j
            induction j with
            | zero => exact fun _ => ⟨f, r⟩
            | succ j ih => exact fun hj => let ⟨f, r⟩ := ih (by omega); ⟨_, r.step (by omega) (by omega) (by omega)⟩
          obtain ⟨f, r⟩ := d4 n (Nat.le_refl _)
          exact ⟨f, r.row⟩
      obtain ⟨f, r⟩ := d3 n (Nat.le_refl _)
      exact ⟨f, r.round (by omega)⟩
  obtain ⟨f, r⟩ := d2 n (Nat.le_refl _)
  by_cases h : Neg n f
  · exact ⟨_, .inl ⟨r.bad h, rfl⟩⟩
  · obtain ⟨cl, bd⟩ := r.cl h
    let S : Tab := (List.range n).map fun p => (List.range n).map (f p)
    have sq : Sq n S := ⟨by simp [S], fun r hr => by
      obtain ⟨p, _, rfl⟩ := List.mem_map.mp hr
      simp⟩
    have e : ∀ p q, p < n → q < n → at2 S p q = f p q := fun p q hp hq => by
      simp [at2, S, hp, hq]
    refine ⟨tabD S, .inr ⟨S, .of sq (ends_of (fun p q hp hq => by rw [e p q hp hq]; exact bd p q hp hq) sq), ⟨fun p hp => ?_, fun p q m hp hq hm => ?_, fun p q hp hq => ?_, fun s hs q hq r hr => ?_⟩, rfl⟩⟩
    · rw [e p p hp hp]; exact cl.diag p hp
    · rw [e p q hp hq, e p m hp hm, e m q hm hq]; exact cl.tri p q m hp hq hm
    · rw [e p q hp hq]; exact cl.le p q hp hq
    · rw [e q r hq hr]; exact cl.st s hs q hq r hr
theorem tab_ext {n : Nat} {S S' : Tab} (s : Sq n S) (s' : Sq n S') (h : ∀ p q, p < n → q < n → at2 S p q = at2 S' p q) : S = S' := by
  apply List.ext_getElem (by rw [s.rows, s'.rows])
  intro p h1 h2
  have c1 := s.cols _ (List.getElem_mem h1)
  have c2 := s'.cols _ (List.getElem_mem h2)
  apply List.ext_getElem (by rw [c1, c2])
  intro q h3 h4
  have := h p q (by rw [← s.rows]; exact h1) (by rw [← c1]; exact h3)
  simpa [at2, h1, h2, h3, h4] using this
theorem Closes.uniq {n B B' : Nat} {T : Tab} {d d' : D} (c : Closes n B T d) (c' : Closes n B' T d') : d = d' := by
  rcases c with ⟨b, rfl⟩ | ⟨S, tb, cl, rfl⟩
  · rcases c' with ⟨_, rfl⟩ | ⟨S', _, cl', _⟩
    · rfl
    · exact absurd b cl'.good
  · rcases c' with ⟨b, _⟩ | ⟨S', tb', cl', rfl⟩
    · exact absurd b cl.good
    · rw [tab_ext tb.sq tb'.sq fun p q hp hq => cl.uniq cl' hp hq]
abbrev Edge := Nat × Nat × Int
def at1 (l : List Ed) (i : Nat) : Ed := l.getD i none
def StE (es : List Edge) (s : Nat → Ed) : Prop := ∀ e ∈ es, eLe (s e.2.1) (eAdd (s e.1) (some e.2.2))
/-- es say what T says -/
structure Es (n : Nat) (T : Fn) (es : List Edge) : Prop where
  st : ∀ s, Stable n T s ↔ StE es s
  rg : ∀ e ∈ es, e.1 < n ∧ e.2.1 < n
def loos1 (l : List Ed) (e : Edge) : List Ed := l.set e.2.1 (eMin (at1 l e.2.1) (eAdd (at1 l e.1) (some e.2.2)))
def loosL (l : List Ed) (es : List Edge) : List Ed := es.foldl loos1 l
theorem at1_set {l : List Ed} {r i : Nat} {e : Ed} (h : r < l.length) : at1 (l.set r e) i = if i = r then e else at1 l i := by
  unfold at1
  by_cases hi : i = r
  · subst hi
    rw [if_pos rfl, List.getD_eq_getElem?_getD, List.getElem?_set_self h]; rfl
  · rw [if_neg hi, List.getD_eq_getElem?_getD, List.getElem?_set_ne (Ne.symm hi), ← List.getD_eq_getElem?_getD]
theorem loos1_len {l : List Ed} {e : Edge} : (loos1 l e).length = l.length := by simp [loos1]
theorem loosL_len : ∀ {es : List Edge} {l : List Ed}, (loosL l es).length = l.length
  | [], _ => rfl
  | e :: es, l => (loosL_len (es := es) (l := loos1 l e)).trans loos1_len
theorem loos1_le {l : List Ed} {e : Edge} (i : Nat) : eLe (at1 (loos1 l e) i) (at1 l i) := by
  unfold loos1
  by_cases h : e.2.1 < l.length
  · rw [at1_set h]
    split
    · rename_i z; rw [z]; exact eMin_l
    · exact eLe.rfl'
  · rw [List.set_eq_of_length_le (by omega)]; exact eLe.rfl'
theorem loosL_le : ∀ {es : List Edge} {l : List Ed} (i : Nat), eLe (at1 (loosL l es) i) (at1 l i)
  | [], _, _ => eLe.rfl'
  | e :: es, l, i => eLe_trans (loosL_le (es := es) (l := loos1 l e) i) (loos1_le i)
theorem loos1_ge {l : List Ed} {e : Edge} {s : Nat → Ed} (h : ∀ i, i < l.length → eLe (s i) (at1 l i)) (h1 : e.1 < l.length) (he : eLe (s e.2.1) (eAdd (s e.1) (some e.2.2))) : ∀ i, i < l.length → eLe (s i) (at1 (loos1 l e) i) := by
  intro i hi
  unfold loos1
  by_cases hr : e.2.1 < l.length
  · rw [at1_set hr]
    split
    · rename_i z
      subst z
      exact le_eMin (h _ hi) (eLe_trans he (eAdd_mono (h _ h1) eLe.rfl'))
    · exact h i hi
  · rw [List.set_eq_of_length_le (by omega)]; exact h i hi
theorem loosL_ge : ∀ {es : List Edge} {l : List Ed} {s : Nat → Ed}, (∀ i, i < l.length → eLe (s i) (at1 l i)) → (∀ e ∈ es, e.1 < l.length) → StE es s → ∀ i, i < l.length → eLe (s i) (at1 (loosL l es) i)
  | [], _, _, h, _, _ => h
  | e :: es, l, s, h, h1, st => by
    have := loosL_ge (es := es) (l := loos1 l e) (s := s) (by rw [loos1_len]; exact loos1_ge h (h1 e (by simp)) (st e (by simp))) (fun x hx => by rw [loos1_len]; exact h1 x (by simp [hx])) fun x hx => st x (by simp [hx])
    rw [loos1_len] at this
    exact this
theorem loos_hit {l : List Ed} {e : Edge} (h : e.2.1 < l.length) : eLe (at1 (loos1 l e) e.2.1) (eAdd (at1 l e.1) (some e.2.2)) := by
  unfold loos1
  rw [at1_set h, if_pos rfl]
  exact eMin_r
/-- where a round changes nothing, all edges hold -/
theorem loos_st {l : List Ed} {es : List Edge} (h : loosL l es = l) (h1 : ∀ e ∈ es, e.1 < l.length ∧ e.2.1 < l.length) : StE es (at1 l) := by
  intro e he
  obtain ⟨a, b, rfl⟩ := List.append_of_mem he
  have e1 : loosL l (a ++ e :: b) = loosL (loos1 (loosL l a) e) b := by simp [loosL, List.foldl_append]
  rw [e1] at h
  have q1 := fun i => loosL_le (es := b) (l := loos1 (loosL l a) e) i
  rw [h] at q1
  have q2 := loos_hit (l := loosL l a) (e := e) (by rw [loosL_len]; exact (h1 e he).2)
  exact eLe_trans (eLe_trans (q1 _) q2) (eAdd_mono (loosL_le _) eLe.rfl')
/-- a tight edge from a place that is right makes its end right -/
theorem loos_tight {l : List Ed} {es : List Edge} {s : Nat → Ed} (h : ∀ i, i < l.length → eLe (s i) (at1 l i)) (h1 : ∀ e ∈ es, e.1 < l.length ∧ e.2.1 < l.length) (st : StE es s) {e : Edge} (he : e ∈ es) (hq : at1 l e.1 = s e.1) (ht : s e.2.1 = eAdd (s e.1) (some e.2.2)) : at1 (loosL l es) e.2.1 = s e.2.1 := by
  refine eLe_anti ?_ (loosL_ge h (fun x hx => (h1 x hx).1) st _ (h1 e he).2)
  obtain ⟨a, b, rfl⟩ := List.append_of_mem he
  have e1 : loosL l (a ++ e :: b) = loosL (loos1 (loosL l a) e) b := by simp [loosL, List.foldl_append]
  rw [e1, ht]
  refine eLe_trans (loosL_le _) (eLe_trans (loos_hit (by rw [loosL_len]; exact (h1 e he).2)) (eAdd_mono ?_ eLe.rfl'))
  rw [← hq]
  exact loosL_le _
/-- how many are wrong -/
def bads (P : Nat → Bool) : Nat → Nat
  | 0 => 0
  | n + 1 => bads P n + if P n then 0 else 1
theorem bads_mono {P R : Nat → Bool} : ∀ n, (∀ i, i < n → P i = true → R i = true) → bads R n ≤ bads P n
  | 0, _ => Nat.le_refl _
  | n + 1, h => by
    have := bads_mono n fun i hi => h i (by omega)
    have hn := h n (Nat.lt_succ_self _)
    unfold bads
    cases hp : P n <;> cases hr : R n <;> simp_all <;> omega
theorem bads_lt {P R : Nat → Bool} : ∀ n, (∀ i, i < n → P i = true → R i = true) → (∃ i, i < n ∧ P i = false ∧ R i = true) → bads R n < bads P n
  | 0, _, ⟨i, hi, _⟩ => absurd hi (Nat.not_lt_zero _)
  | n + 1, h, ⟨i, hi, h1, h2⟩ => by
    unfold bads
    by_cases e : i = n
    · subst e
      have := bads_mono i fun j hj => h j (by omega)
      rw [h1, h2]
      simp; omega
    · have := bads_lt n (fun j hj => h j (by omega)) ⟨i, by omega, h1, h2⟩
      have hn := h n (Nat.lt_succ_self _)
      cases hp : P n <;> cases hr : R n <;> simp_all <;> omega
theorem bads_0 {P : Nat → Bool} : ∀ {n}, bads P n = 0 → ∀ i, i < n → P i = true
  | 0, _, i, hi => absurd hi (Nat.not_lt_zero _)
  | n + 1, h, i, hi => by
    unfold bads at h
    by_cases e : i = n
    · subst e
      cases hp : P i with
      | true => rfl
      | false => rw [hp] at h; simp at h
    · exact bads_0 (n := n) (by omega) i (by omega)
theorem bads_le {P : Nat → Bool} : ∀ n, bads P n ≤ n
  | 0 => Nat.le_refl _
  | n + 1 => by
    have := bads_le (P := P) n
    unfold bads
    split <;> omega
theorem bads_some {P : Nat → Bool} : ∀ n, ∀ i, i < n → P i = true → bads P n < n
  | 0, i, hi, _ => absurd hi (Nat.not_lt_zero _)
  | n + 1, i, hi, h => by
    unfold bads
    by_cases e : i = n
    · subst e
      have := bads_le (P := P) i
      rw [h]; simp; omega
    · have := bads_some n i (by omega) h
      split <;> omega
instance : DecidableEq Ed := inferInstanceAs (DecidableEq (Option Int))
def bump : Ed → Ed
  | none => none
  | some x => some (x + 1)
section
variable {n p : Nat} {T S : Fn} {es : List Edge} {l : List Ed}
def okAt (S : Fn) (p : Nat) (l : List Ed) (r : Nat) : Bool := decide (at1 l r = S p r)
/-- a sum row on its way -/
structure Way (n p : Nat) (S : Fn) (l : List Ed) : Prop where
  len : l.length = n
  ge : ∀ i, i < n → eLe (S p i) (at1 l i)
  at0 : at1 l p = some 0
theorem Way.loos (c : IsCl n T S) (E : Es n T es) (hp : p < n) (w : Way n p S l) : Way n p S (loosL l es) := by
  have g := loosL_ge (es := es) (l := l) (s := S p) (by rw [w.len]; exact w.ge) (fun e he => by rw [w.len]; exact (E.rg e he).1) ((E.st _).mp (c.row hp))
  rw [w.len] at g
  refine ⟨by rw [loosL_len, w.len], g, ?_⟩
  refine eLe_anti ?_ ?_
  · rw [← w.at0]; exact loosL_le _
  · rw [← c.diag p hp]; exact g p hp
/-- as long as something is wrong, a round makes something right -/
theorem Way.less (c : IsCl n T S) (E : Es n T es) (hp : p < n) (w : Way n p S l) (h : bads (okAt S p l) n ≠ 0) : bads (okAt S p (loosL l es)) n < bads (okAt S p l) n := by
  have hl : ∀ i, i < l.length → eLe (S p i) (at1 l i) := by rw [w.len]; exact w.ge
  have hrg : ∀ e ∈ es, e.1 < l.length ∧ e.2.1 < l.length := by rw [w.len]; exact E.rg
  have st := (E.st _).mp (c.row hp)
  have w' := w.loos c E hp
  refine bads_lt n (fun i hi h1 => ?_) ?_
  · have h1' : at1 l i = S p i := of_decide_eq_true h1
    refine decide_eq_true (eLe_anti ?_ (w'.ge i hi))
    rw [← h1']; exact loosL_le _
  · -- there is a tight edge out of what is right
    have : ∃ e ∈ es, at1 l e.1 = S p e.1 ∧ at1 l e.2.1 ≠ S p e.2.1 ∧ S p e.2.1 = eAdd (S p e.1) (some e.2.2) := by
      apply Classical.byContradiction
      intro no
      have no' : ∀ e ∈ es, at1 l e.1 = S p e.1 → at1 l e.2.1 ≠ S p e.2.1 → S p e.2.1 ≠ eAdd (S p e.1) (some e.2.2) := fun e he h1 h2 h3 => no ⟨e, he, h1, h2, h3⟩
      have hs : Stable n T (fun r => if at1 l r = S p r then S p r else bump (S p r)) := by
        rw [E.st]
        intro e he
        have h0 := st e he
        have hn := no' e he
        show eLe (if at1 l e.2.1 = S p e.2.1 then S p e.2.1 else bump (S p e.2.1)) (eAdd (if at1 l e.1 = S p e.1 then S p e.1 else bump (S p e.1)) (some e.2.2))
        by_cases g1 : at1 l e.1 = S p e.1 <;> by_cases g2 : at1 l e.2.1 = S p e.2.1
        · rw [if_pos g1, if_pos g2]; exact h0
        · rw [if_pos g1, if_neg g2]
          have h2 := hn g1 g2
          cases x : S p e.2.1 <;> cases y : S p e.1 <;> rw [x, y] at h0 h2 <;> simp [eLe, eAdd, bump] at * <;> omega
        · rw [if_neg g1, if_pos g2]
          cases x : S p e.2.1 <;> cases y : S p e.1 <;> rw [x, y] at h0 <;> simp [eLe, eAdd, bump] at * <;> omega
        · rw [if_neg g1, if_neg g2]
          cases x : S p e.2.1 <;> cases y : S p e.1 <;> rw [x, y] at h0 <;> simp [eLe, eAdd, bump] at * <;> omega
      have h0 : ∃ r, r < n ∧ at1 l r ≠ S p r := by
        apply Classical.byContradiction
        intro z
        apply h
        have all : ∀ i, i < n → okAt S p l i = true := fun i hi => decide_eq_true (Classical.byContradiction fun y => z ⟨i, hi, y⟩)
        have go : ∀ k, k ≤ n → bads (okAt S p l) k = 0 := by
          intro k
          induction k with
          | zero => exact fun _ => rfl
          | succ k ih => intro hk; unfold bads; rw [ih (by omega), all k (by omega)]; rfl
        exact go n (Nat.le_refl _)
      obtain ⟨r, hr, hne⟩ := h0
      have := c.least hs hp hr (by
        show eLe (if at1 l p = S p p then S p p else bump (S p p)) (some 0)
        rw [if_pos (by rw [w.at0, c.diag p hp]), c.diag p hp]
        exact eLe.rfl')
      have this : eLe (if at1 l r = S p r then S p r else bump (S p r)) (S p r) := this
      rw [if_neg hne] at this
      have g := w.ge r hr
      cases x : S p r with
      | none =>
        rw [x] at g hne
        cases y : at1 l r with
        | none => exact hne y
        | some z => rw [y] at g; exact g
      | some z => rw [x] at this; simp [eLe, bump] at this; omega
    obtain ⟨e, he, h1, h2, h3⟩ := this
    exact ⟨e.2.1, (E.rg e he).2, decide_eq_false h2, decide_eq_true (loos_tight hl hrg st he h1 h3)⟩
def loosN (es : List Edge) (l : List Ed) : Nat → List Ed
  | 0 => l
  | k + 1 => loosL (loosN es l k) es
theorem Way.many (c : IsCl n T S) (E : Es n T es) (hp : p < n) (w : Way n p S l) : ∀ k, Way n p S (loosN es l k) ∧ (bads (okAt S p (loosN es l k)) n = 0 ∨ bads (okAt S p (loosN es l k)) n + k < n)
  | 0 => ⟨w, .inr (bads_some n p hp (decide_eq_true (by show at1 l p = _; rw [w.at0, c.diag p hp])))⟩
  | k + 1 => by
    obtain ⟨w', h⟩ := Way.many c E hp w k
    refine ⟨w'.loos c E hp, ?_⟩
    by_cases z : bads (okAt S p (loosN es l k)) n = 0
    · left
      have := bads_mono (P := okAt S p (loosN es l k)) (R := okAt S p (loosN es l (k + 1))) n fun i hi _ => by
        have e := bads_0 z i hi
        have e' : at1 (loosN es l k) i = S p i := of_decide_eq_true e
        refine decide_eq_true (eLe_anti ?_ ((w'.loos c E hp).ge i hi))
        rw [← e']; exact loosL_le _
      omega
    · have := w'.less c E hp z
      show bads (okAt S p (loosL (loosN es l k) es)) n = 0 ∨ _
      right
      show bads (okAt S p (loosL (loosN es l k) es)) n + (k + 1) < n
      rcases h with h | h
      · exact absurd h z
      · omega
theorem Way.done (c : IsCl n T S) (E : Es n T es) (hp : p < n) (w : Way n p S l) {k : Nat} (hk : n ≤ k + 1) : ∀ i, i < n → at1 (loosN es l k) i = S p i := by
  obtain ⟨_, h⟩ := Way.many c E hp w k
  have z : bads (okAt S p (loosN es l k)) n = 0 := by omega
  intro i hi
  exact of_decide_eq_true (bads_0 z i hi)
end
end L3
set_option Elab.async false
set_option linter.all false
set_option maxRecDepth 100000
set_option maxHeartbeats 4000000
namespace L3
open PySem PySem.Spec PyProof.Rows L2
def edgeOf (t : Trip) : Edge := (t.1.toNat, t.2.1.toNat, t.2.2)
theorem pl_row {l : List Ed} : Pl (.rol (l.map oD)) := by
  refine ⟨?_, ?_⟩
  · show plains (l.map oD) = true
    induction l with
    | nil => rfl
    | cons a r ih => cases a <;> simp [plains, oD, plain, ih]
  · show deeps (l.map oD) + 1 ≤ 64
    have : deeps (l.map oD) = 0 := by
      induction l with
      | nil => rfl
      | cons a r ih => cases a <;> simp [deeps, oD, deep, ih]
    omega
theorem eqv_oD {a b : Ed} : PyData.eqv (pdOf (oD a)) (pdOf (oD b)) = decide (a = b) := by
  cases a <;> cases b <;> simp [oD, pdOf, PyData.eqv]
  rename_i x y
  by_cases h : x = y <;> simp [h]
theorem eqv_row : ∀ {l k : List Ed}, PyData.eqvAll (pdsOf (l.map oD)) (pdsOf (k.map oD)) = decide (l = k)
  | [], [] => by simp [pdsOf, PyData.eqvAll]
  | [], b :: k => by simp [pdsOf, PyData.eqvAll]
  | a :: l, [] => by simp [pdsOf, PyData.eqvAll]
  | a :: l, b :: k => by
    simp only [List.map_cons, pdsOf, PyData.eqvAll, eqv_oD, eqv_row (l := l) (k := k)]
    by_cases h : a = b <;> by_cases h2 : l = k <;> simp [h, h2]
theorem eqD_row {l k : List Ed} : eqD (.rol (l.map oD)) (.rol (k.map oD)) = decide (l = k) := by
  simp only [eqD, pdOf, PyData.eqv, eqv_row]
theorem at1_get {l : List Ed} {i : Int} (h0 : 0 ≤ i) (h1 : i < l.length) : atI (l.map oD) i = some (oD (at1 l i.toNat)) := by
  have h : i.toNat < l.length := by omega
  refine atI_nat' h0 ?_
  rw [List.getElem?_map, List.getElem?_eq_getElem h]
  unfold at1
  rw [List.getD_eq_getElem?_getD, List.getElem?_eq_getElem h]
  rfl
theorem ix_get {l : List Ed} {i : Int} (h0 : 0 ≤ i) (h1 : i < l.length) : ixN (l.map oD).length i = some i.toNat := ixN_nat h0 (by rw [List.length_map]; exact h1)
theorem set_at1 {l : List Ed} {i : Nat} (h : i < l.length) : l.set i (at1 l i) = l := by
  unfold at1
  rw [List.getD_eq_getElem?_getD, List.getElem?_eq_getElem h]
  exact List.set_getElem_self h
def SLeast (sp : Sp3) : Prop := ∀ (n : Int) (B : Nat) (T : Tab) (ts : List Trip) (Q : VK3) (E : XK3), 0 ≤ n → n ≤ 1000 → 0 < B → TabB B n.toNat T → (∀ t ∈ ts, In2 n t) → Es n.toNat (at2 T) (ts.map edgeOf) →
  (∀ d M, Closes n.toNat B T d → Q d M) → sp [.int n, .rol (ts.map tripD)] M0 Q E
def row0 (n i : Nat) : List Ed := List.replicate i none ++ [some 0] ++ List.replicate (n - 1 - i) none
theorem row0_len {n i : Nat} (h : i < n) : (row0 n i).length = n := by simp [row0]; omega
theorem row0_at {n i j : Nat} (h : i < n) (hj : j < n) : at1 (row0 n i) j = if j = i then some 0 else none := by
  unfold at1 row0
  rw [List.getD_eq_getElem?_getD]
  by_cases h1 : j < i
  · rw [List.append_assoc, List.getElem?_append_left (by simpa using h1), if_neg (by omega)]
    simp [List.getElem?_replicate, h1]
  · by_cases h2 : j = i
    · subst h2; simp
    · rw [if_neg h2, List.getElem?_append_right (by simp; omega)]
      simp only [List.getElem?_replicate]
      split <;> rfl
theorem way0 {n i : Nat} {T S : Fn} (c : IsCl n T S) (h : i < n) : Way n i S (row0 n i) := by
  refine ⟨row0_len h, fun j hj => ?_, ?_⟩
  · rw [row0_at h hj]
    split
    · rename_i z; rw [z, c.diag i h]; exact eLe.rfl'
    · exact eLe_none
  · rw [row0_at h h, if_pos rfl]
end L3
set_option Elab.async false
set_option linter.all false
set_option maxRecDepth 100000
set_option maxHeartbeats 4000000
namespace L3
open PySem PySem.Spec PyProof.Rows L2
theorem cl_tm {n B : Nat} {T : Tab} {d : D} (c : Closes n B T d) (hB : 2 ^ n * B ≤ 10 ^ 100) : Tm 2 (n * (n + 1)) d := by
  rcases c with ⟨_, rfl⟩ | ⟨S, tb, _, rfl⟩
  · exact (Tm.tup (h := 0) (n := 0) (m := 0) (ds := []) (fun d h => nomatch h) (Nat.le_refl _)).mono (by decide) (Nat.zero_le _)
  · exact Tm.tab tb hB
def stepM (T : Tab) (t : Trip) : Tab := putT T t.1.toNat t.2.1.toNat (eMin (at2 T t.1.toNat t.2.1.toNat) (some t.2.2))
def mtab (n : Nat) (ts : List Trip) : Tab := ts.foldl stepM (emptyT n)
theorem Sq.foldM {n : Nat} : ∀ {ts : List Trip} {T : Tab}, Sq n T → Sq n (ts.foldl stepM T)
  | [], _, s => s
  | _ :: ts, _, s => Sq.foldM (ts := ts) s.put
theorem EdB.min {B : Nat} {a b : Ed} (h : EdB B a) (h2 : EdB B b) : EdB B (eMin a b) := by
  rcases eMin_or (a := a) (b := b) with e | e <;> rw [e] <;> assumption
theorem at2_b {B n : Nat} {T : Tab} (s : Sq n T) (e : Ends B T) {p q : Nat} : EdB B (at2 T p q) := ends_at' (n := n) ⟨s.rows, s.cols, e⟩
theorem Ends.foldM {B n : Nat} : ∀ {ts : List Trip} {T : Tab}, Sq n T → Ends B T → (∀ t ∈ ts, t.2.2.natAbs < B) → Ends B (ts.foldl stepM T)
  | [], _, _, s, _ => s
  | t :: ts, _, q, s, h => Ends.foldM (ts := ts) q.put (s.put ((at2_b q s).min fun i hi => by cases hi; exact h t (by simp))) fun x hx => h x (by simp [hx])
theorem mtab_b {B n : Nat} {ts : List Trip} (h : ∀ t ∈ ts, t.2.2.natAbs < B) : TabB B n (mtab n ts) := TabB.of (Sq.foldM .empty) (Ends.foldM .empty .empty h)
theorem es_step {n p q : Nat} {F : Fn} {c : Int} {s : Nat → Ed} (hp : p < n) (hq : q < n) : Stable n (updF F p q (eMin (F p q) (some c))) s ↔ Stable n F s ∧ eLe (s q) (eAdd (s p) (some c)) := by
  constructor
  · intro h
    refine ⟨fun i hi j hj => ?_, ?_⟩
    · have := h i hi j hj
      unfold updF at this
      by_cases e : i = p ∧ j = q
      · rw [if_pos e] at this
        obtain ⟨rfl, rfl⟩ := e
        exact eLe_trans this (eAdd_mono eLe.rfl' eMin_l)
      · rw [if_neg e] at this; exact this
    · have := h p hp q hq
      unfold updF at this
      rw [if_pos ⟨rfl, rfl⟩] at this
      exact eLe_trans this (eAdd_mono eLe.rfl' eMin_r)
  · rintro ⟨h, h2⟩ i hi j hj
    unfold updF
    by_cases e : i = p ∧ j = q
    · rw [if_pos e]
      obtain ⟨rfl, rfl⟩ := e
      exact le_add_minr (h i hi j hj) h2
    · rw [if_neg e]; exact h i hi j hj
theorem es_fold {n : Nat} (hn : 0 ≤ (n : Int)) : ∀ (ts : List Trip) (T : Tab), Sq n T → (∀ t ∈ ts, In2 n t) → ∀ s, Stable n (at2 (ts.foldl stepM T)) s ↔ Stable n (at2 T) s ∧ StE (ts.map edgeOf) s
  | [], T, _, _, s => ⟨fun h => ⟨h, fun e he => nomatch he⟩, fun h => h.1⟩
  | t :: ts, T, sq, h, s => by
    obtain ⟨b1, b2, b3, b4⟩ := h t (by simp)
    show Stable n (at2 (ts.foldl stepM (stepM T t))) s ↔ _
    rw [es_fold hn ts (stepM T t) sq.put (fun x hx => h x (by simp [hx])) s]
    unfold stepM
    rw [at2_put sq (by omega) (by omega), es_step (by omega) (by omega)]
    constructor
    · rintro ⟨⟨h1, h2⟩, h3⟩
      refine ⟨h1, fun e he => ?_⟩
      rcases List.mem_cons.mp he with rfl | he
      · exact h2
      · exact h3 e he
    · rintro ⟨h1, h2⟩
      exact ⟨⟨h1, h2 (edgeOf t) (by simp)⟩, fun e he => h2 e (by simp [he])⟩
theorem at2_empty' {n p q : Nat} : at2 (emptyT n) p q = none := by
  unfold at2 emptyT
  by_cases hp : p < n
  · rw [List.getD_eq_getElem?_getD, List.getD_eq_getElem?_getD, List.getElem?_replicate, if_pos hp]
    by_cases hq : q < n
    · simp [List.getElem?_replicate, hq]
    · simp [List.getElem?_replicate, hq]
  · simp [List.getD_eq_getElem?_getD, List.getElem?_replicate, hp]
theorem es_mtab {n : Nat} {ts : List Trip} (h : ∀ t ∈ ts, In2 n t) : Es n (at2 (mtab n ts)) (ts.map edgeOf) := by
  refine ⟨fun s => ?_, fun e he => ?_⟩
  · rw [show mtab n ts = ts.foldl stepM (emptyT n) from rfl, es_fold (by omega) ts _ .empty h s]
    refine ⟨fun h => h.2, fun h => ⟨fun q _ r _ => ?_, h⟩⟩
    rw [at2_empty']
    cases s q <;> exact eLe_none
  · obtain ⟨t, ht, rfl⟩ := List.mem_map.mp he
    obtain ⟨b1, b2, b3, b4⟩ := h t ht
    show t.1.toNat < n ∧ t.2.1.toNat < n
    omega
/-- a tuple or a list that nobody writes -/
def IsSeq (d : D) (ds : List D) : Prop := d = .tup ds ∨ d = .rol ds
theorem IsSeq.t {ds : List D} : IsSeq (.tup ds) ds := .inl rfl
theorem IsSeq.keep {d : D} {ds : List D} (h : IsSeq d ds) {M : Mp} {es : List D} : keepG M d es = fun _ => True := by rcases h with rfl | rfl <;> rfl
theorem IsSeq.len {d : D} {ds : List D} (h : IsSeq d ds) {M : Mp} {Q : VK3} : bLen [d] M Q = Q (.int ds.length) M := by rcases h with rfl | rfl <;> rfl
theorem cl_top {n B : Nat} {T : Tab} {d : D} {M : Mp} (c : Closes n B T d) : top M d = d := by
  rcases c with ⟨_, rfl⟩ | ⟨S, _, _, rfl⟩ <;> rfl
end L3
set_option Elab.async false
set_option linter.all false
set_option maxRecDepth 100000
set_option maxHeartbeats 4000000
namespace L3
open PySem PySem.Spec PyProof.Rows L2
abbrev Part := Tab × List Nat
/-- a part's table is square and its places lie within -/
structure PartOk (B many : Nat) (x : Part) : Prop where
  tb : TabB B x.1.length x.1
  len : x.1.length ≤ x.2.length
  inn : ∀ i ∈ x.2, i < many
def Pull (x : Part) (s : Nat → Ed) : Prop := Stable x.1.length (at2 x.1) fun i => s (x.2.getD i 0)
/-- what is put together of the parts -/
structure PutIs (B many : Nat) (xs : List Part) (X : Tab) : Prop where
  tb : TabB B many X
  st : ∀ s, Stable many (at2 X) s ↔ ∀ x ∈ xs, Pull x s
def putR (sp_lesser : Sp3) : XK3 → TS3 := fun E =>
  (wSeq (wSet 2 (wLcF (wRng1 (wCons (wVar 0) wNil)) (wgName 3) wYes (wRep (wC .non) (wVar 0)) [3]))
  (wSeq (wFor (wItems (wVar 1)) (wgTupN 2 (wgCons (wgName 4) (wgCons (wgName 5) wgNil))) (wFor (wEnum (wCons (wVar 4) wNil)) (wgTupN 2 (wgCons (wgName 6) (wgCons (wgName 7) wgNil))) (wFor (wEnum (wCons (wVar 7) wNil)) (wgTupN 2 (wgCons (wgName 8) (wgCons (wgName 9) wgNil))) (wAsg (wCallP sp_lesser E (wCons (wOp oIx (wOp oIx (wVar 2) (wOp oIx (wVar 5) (wVar 6))) (wOp oIx (wVar 5) (wVar 8))) (wCons (wVar 9) wNil))) (wgSub (wOp oIx (wVar 2) (wOp oIx (wVar 5) (wVar 6))) (wOp oIx (wVar 5) (wVar 8)) oPut)))))
  (wRet (wCB bTuple (wCons (wLcF (wItems (wVar 2)) (wgName 7) wYes (wCB bTuple (wCons (wVar 7) wNil)) [7]) wNil)))))
/-- one end put in -/
theorem st_put {n i j : Nat} {F : Fn} {e : Ed} {s : Nat → Ed} (hi : i < n) (hj : j < n) : Stable n (updF F i j (eMin (F i j) e)) s ↔ Stable n F s ∧ eLe (s j) (eAdd (s i) e) := by
  constructor
  · intro h
    refine ⟨fun p hp q hq => ?_, ?_⟩
    · have z := h p hp q hq
      unfold updF at z
      by_cases w : p = i ∧ q = j
      · rw [if_pos w] at z
        obtain ⟨rfl, rfl⟩ := w
        exact eLe_trans z (eAdd_mono eLe.rfl' eMin_l)
      · rw [if_neg w] at z; exact z
    · have z := h i hi j hj
      unfold updF at z
      rw [if_pos ⟨rfl, rfl⟩] at z
      exact eLe_trans z (eAdd_mono eLe.rfl' eMin_r)
  · rintro ⟨h, h2⟩ p hp q hq
    unfold updF
    by_cases w : p = i ∧ q = j
    · rw [if_pos w]
      obtain ⟨rfl, rfl⟩ := w
      exact le_add_minr (h p hp q hq) h2
    · rw [if_neg w]; exact h p hp q hq
/-- so far: the parts ahead, of this one the rows ahead of p, of row p the ends ahead of q -/
structure Puts (B many : Nat) (xs : List Part) (x : Part) (p q : Nat) (X : Tab) : Prop where
  sq : Sq many X
  en : Ends B X
  st : ∀ s, Stable many (at2 X) s ↔ (∀ y ∈ xs, Pull y s) ∧ ∀ i j, i < x.1.length → j < x.1.length → (i < p ∨ (i = p ∧ j < q)) → eLe (s (x.2.getD j 0)) (eAdd (s (x.2.getD i 0)) (at2 x.1 i j))
theorem Puts.step {B many p q : Nat} {xs : List Part} {x : Part} {X : Tab} (h : Puts B many xs x p q X) (ok : PartOk B many x) (hp : p < x.1.length) (hq : q < x.1.length) :
    Puts B many xs x p (q + 1) (putT X (x.2.getD p 0) (x.2.getD q 0) (eMin (at2 X (x.2.getD p 0) (x.2.getD q 0)) (at2 x.1 p q))) := by
  have inn : ∀ i, i < x.1.length → x.2.getD i 0 < many := fun i hi => by
    have : i < x.2.length := Nat.lt_of_lt_of_le hi ok.len
    rw [List.getD_eq_getElem?_getD, List.getElem?_eq_getElem this]
    exact ok.inn _ (List.getElem_mem this)
  refine ⟨h.sq.put, h.en.put ((at2_b h.sq h.en).min (ends_at' ok.tb)), fun s => ?_⟩
  rw [at2_put h.sq (inn p hp) (inn q hq), st_put (inn p hp) (inn q hq), h.st]
  constructor
  · rintro ⟨⟨h1, h2⟩, h3⟩
    refine ⟨h1, fun i j hi hj hij => ?_⟩
    by_cases w : i = p ∧ j = q
    · obtain ⟨rfl, rfl⟩ := w; exact h3
    · exact h2 i j hi hj (by omega)
  · rintro ⟨h1, h2⟩
    exact ⟨⟨h1, fun i j hi hj hij => h2 i j hi hj (by omega)⟩, h2 p q hp hq (by omega)⟩
theorem Puts.row {B many p : Nat} {xs : List Part} {x : Part} {X : Tab} (h : Puts B many xs x p x.1.length X) : Puts B many xs x (p + 1) 0 X :=
  ⟨h.sq, h.en, fun s => by
    rw [h.st]
    have e : ∀ i j, j < x.1.length → ((i < p ∨ (i = p ∧ j < x.1.length)) ↔ (i < p + 1 ∨ (i = p + 1 ∧ j < 0))) := fun i j hj => by omega
    constructor
    · rintro ⟨a, b⟩; exact ⟨a, fun i j hi hj z => b i j hi hj ((e i j hj).mpr z)⟩
    · rintro ⟨a, b⟩; exact ⟨a, fun i j hi hj z => b i j hi hj ((e i j hj).mp z)⟩⟩
end L3
set_option Elab.async false
set_option linter.all false
set_option maxRecDepth 100000
set_option maxHeartbeats 4000000
namespace L3
open PySem PySem.Spec PyProof.Rows L2
/-- trips of places, ends within a bound -/
def TripsOk (many B : Nat) (ts : List Trip) : Prop := ∀ t ∈ ts, In2 many t ∧ t.2.2.natAbs < B
/-- edges of the rows ahead of p, of row p those ahead of q -/
def Edg (many B : Nat) (x : Part) (p q : Nat) (ts : List Trip) : Prop := TripsOk many B ts ∧ ts.length ≤ 100 * p + q ∧
  ∀ s, StE (ts.map edgeOf) s ↔ ∀ i j, i < x.1.length → j < x.1.length → (i < p ∨ (i = p ∧ j < q)) → eLe (s (x.2.getD j 0)) (eAdd (s (x.2.getD i 0)) (at2 x.1 i j))
theorem StE.app {es fs : List Edge} {s : Nat → Ed} : StE (es ++ fs) s ↔ StE es s ∧ StE fs s :=
  ⟨fun h => ⟨fun e he => h e (by simp [he]), fun e he => h e (by simp [he])⟩, fun h e he => (List.mem_append.mp he).elim (h.1 e) (h.2 e)⟩
theorem Edg.skip {many B p q : Nat} {x : Part} {ts : List Trip} (h : Edg many B x p q ts) (hn : at2 x.1 p q = none) : Edg many B x p (q + 1) ts :=
  ⟨h.1, by have := h.2.1; omega, fun s => by
    rw [h.2.2]
    constructor
    · intro a i j hi hj z
      by_cases w : i = p ∧ j = q
      · obtain ⟨rfl, rfl⟩ := w
        rw [hn]
        cases s (x.2.getD i 0) <;> exact eLe_none
      · exact a i j hi hj (by omega)
    · exact fun a i j hi hj z => a i j hi hj (by omega)⟩
theorem Edg.add {many B p q : Nat} {x : Part} {ts : List Trip} {c : Int} (h : Edg many B x p q ts) (ok : PartOk B many x) (hp : p < x.1.length) (hq : q < x.1.length) (hc : at2 x.1 p q = some c) :
    Edg many B x p (q + 1) (ts ++ [(((x.2.getD p 0 : Nat) : Int), ((x.2.getD q 0 : Nat) : Int), c)]) := by
  have inn : ∀ i, i < x.1.length → x.2.getD i 0 < many := fun i hi => by
    have : i < x.2.length := Nat.lt_of_lt_of_le hi ok.len
    rw [List.getD_eq_getElem?_getD, List.getElem?_eq_getElem this]
    exact ok.inn _ (List.getElem_mem this)
  refine ⟨fun t ht => ?_, by rw [List.length_append]; have := h.2.1; simp only [List.length_cons, List.length_nil]; omega, fun s => ?_⟩
  · rcases List.mem_append.mp ht with ht | ht
    · exact h.1 t ht
    · rw [List.mem_singleton] at ht
      subst ht
      have i1 := inn p hp
      have i2 := inn q hq
      exact ⟨⟨by simp only; omega, by simp only; omega, by simp only; omega, by simp only; omega⟩, ends_at' ok.tb c hc⟩
  · rw [List.map_append, StE.app, h.2.2]
    have e1 : StE ([(((x.2.getD p 0 : Nat) : Int), ((x.2.getD q 0 : Nat) : Int), c)].map edgeOf) s ↔ eLe (s (x.2.getD q 0)) (eAdd (s (x.2.getD p 0)) (some c)) := by
      simp [StE, edgeOf]
    rw [e1]
    constructor
    · rintro ⟨a, b⟩ i j hi hj z
      by_cases w : i = p ∧ j = q
      · obtain ⟨rfl, rfl⟩ := w
        rw [hc]; exact b
      · exact a i j hi hj (by omega)
    · intro a
      refine ⟨fun i j hi hj z => a i j hi hj (by omega), ?_⟩
      rw [← hc]
      exact a p q hp hq (by omega)
theorem Edg.row {many B p : Nat} {x : Part} {ts : List Trip} (h : Edg many B x p x.1.length ts) (hl : x.1.length ≤ 100) : Edg many B x (p + 1) 0 ts :=
  ⟨h.1, by have := h.2.1; omega, fun s => by
    rw [h.2.2]
    exact ⟨fun a i j hi hj z => a i j hi hj (by omega), fun a i j hi hj z => a i j hi hj (by omega)⟩⟩
end L3
set_option Elab.async false
set_option linter.all false
set_option maxRecDepth 100000
set_option maxHeartbeats 4000000
namespace L3
open PySem PySem.Spec PyProof.Rows L2
def SClosed100 (sp : Sp3) : Prop := ∀ (n B : Nat) (T : Tab) (Q : VK3) (E : XK3), n ≤ 100 → TabB B n T → 0 < B → (∀ d M, Closes n B T d → Q d M) → sp [tabD T] M0 Q E
theorem range_getD {n i : Nat} (h : i < n) : (List.range n).getD i 0 = i := by
  rw [List.getD_eq_getElem?_getD, List.getElem?_range h]; rfl
/-- a table's part: rows and columns at these places -/
def partT (S : Tab) (ps : List Nat) : Tab := ps.map fun p => ps.map fun q => at2 S p q
end L3
set_option Elab.async false
set_option linter.all false
set_option maxRecDepth 100000
set_option maxHeartbeats 4000000
namespace L3
open PySem PySem.Spec PyProof.Rows L2
end L3
set_option Elab.async false
set_option linter.all false
set_option maxRecDepth 100000
set_option maxHeartbeats 4000000
namespace L3
open PySem PySem.Spec PyProof.Rows L2
end L3
set_option Elab.async false
set_option linter.all false
set_option maxRecDepth 100000
set_option maxHeartbeats 4000000
namespace L3
open PySem PySem.Spec PyProof.Rows L2
end L3
set_option Elab.async false
set_option linter.all false
set_option maxRecDepth 100000
set_option maxHeartbeats 4000000
namespace L3
open PySem PySem.Spec PyProof.Rows L2
theorem tab_ne {n : Nat} {S : Tab} (sq : Sq n S) (hn : 0 < n) : (S.map rowD).isEmpty = false := by
  have := sq.rows
  cases S with
  | nil => simp at this; omega
  | cons a b => rfl
end L3
set_option Elab.async false
set_option linter.all false
set_option maxRecDepth 100000
set_option maxHeartbeats 4000000
namespace L3
open PySem PySem.Spec PyProof.Rows L2
theorem IsCl.congr {n : Nat} {T T' S : Fn} (h : ∀ s, Stable n T s ↔ Stable n T' s) (c : IsCl n T S) : IsCl n T' S :=
  ⟨c.diag, c.tri, fun p q hp hq => by
    have z := (h _).mp (c.row hp) p hp q hq
    rw [c.diag p hp, eAdd_0l] at z
    exact z, fun s hs => c.st s ((h s).mpr hs)⟩
theorem Bad.congr {n : Nat} {T T' : Fn} (h : ∀ s, Stable n T s ↔ Stable n T' s) (b : Bad n T) : Bad n T' := by
  obtain ⟨m, hm, z⟩ := b
  exact ⟨m, hm, fun s hs => z s ((h s).mpr hs)⟩
theorem Closes.congr {n B B' : Nat} {T T' : Tab} {d d' : D} (h : ∀ s, Stable n (at2 T) s ↔ Stable n (at2 T') s) (c : Closes n B T d) (c' : Closes n B' T' d') : d = d' := by
  rcases c with ⟨b, rfl⟩ | ⟨S, tb, cl, rfl⟩
  · rcases c' with ⟨_, rfl⟩ | ⟨S', _, cl', _⟩
    · rfl
    · exact absurd (b.congr h) cl'.good
  · rcases c' with ⟨b, _⟩ | ⟨S', tb', cl', rfl⟩
    · exact absurd b (cl.congr h).good
    · rw [tab_ext tb.sq tb'.sq fun p q hp hq => (cl.congr h).uniq cl' hp hq]
/-- some points of a table closed -/
def OnlyOf (n B : Nat) (X : Tab) (ps : List Nat) (d : D) : Prop := (Bad n (at2 X) ∧ d = .tup []) ∨ ∃ S : Tab, TabB (2 ^ n * B) n S ∧ IsCl n (at2 X) (at2 S) ∧ d = tabD (partT S ps)
theorem part_ext {n : Nat} {S S' : Tab} {ps : List Nat} (h : ∀ p q, p < n → q < n → at2 S p q = at2 S' p q) (hp : ∀ p ∈ ps, p < n) : partT S ps = partT S' ps := by
  unfold partT
  exact List.map_congr_left fun p h1 => List.map_congr_left fun q h2 => h p q (hp p h1) (hp q h2)
theorem OnlyOf.congr {n B B' : Nat} {X X' : Tab} {ps : List Nat} {d d' : D} (h : ∀ s, Stable n (at2 X) s ↔ Stable n (at2 X') s) (hp : ∀ p ∈ ps, p < n) (c : OnlyOf n B X ps d) (c' : OnlyOf n B' X' ps d') : d = d' := by
  rcases c with ⟨b, rfl⟩ | ⟨S, tb, cl, rfl⟩
  · rcases c' with ⟨_, rfl⟩ | ⟨S', _, cl', _⟩
    · rfl
    · exact absurd (b.congr h) cl'.good
  · rcases c' with ⟨b, _⟩ | ⟨S', tb', cl', rfl⟩
    · exact absurd b (cl.congr h).good
    · rw [part_ext (fun p q hp hq => (cl.congr h).uniq cl' hp hq) hp]
theorem partT_b {B n : Nat} {S : Tab} {ps : List Nat} (t : TabB B n S) : TabB B ps.length (partT S ps) := by
  refine ⟨by simp [partT], fun r hr => ?_, fun r hr e he => ?_⟩
  · obtain ⟨p, _, rfl⟩ := List.mem_map.mp hr; simp
  · obtain ⟨p, _, rfl⟩ := List.mem_map.mp hr
    obtain ⟨q, _, rfl⟩ := List.mem_map.mp he
    exact ends_at' t
theorem OnlyOf.tm {n B : Nat} {X : Tab} {ps : List Nat} {d : D} (c : OnlyOf n B X ps d) (hB : 2 ^ n * B ≤ 10 ^ 100) : Tm 2 (ps.length * (ps.length + 1)) d := by
  rcases c with ⟨_, rfl⟩ | ⟨S, tb, _, rfl⟩
  · exact (Tm.tup (h := 0) (n := 0) (m := 0) (ds := []) (fun d h => nomatch h) (Nat.le_refl _)).mono (by decide) (Nat.zero_le _)
  · exact Tm.tab (partT_b tb) hB
theorem OnlyOf.top {n B : Nat} {X : Tab} {ps : List Nat} {d : D} {M : Mp} (c : OnlyOf n B X ps d) : L3.top M d = d := by
  rcases c with ⟨_, rfl⟩ | ⟨S, _, _, rfl⟩ <;> rfl
/-- from closing and taking a part -/
theorem OnlyOf.of {n B : Nat} {X : Tab} {ps : List Nat} {d : D} (c : Closes n B X d) : ∃ d', OnlyOf n B X ps d' ∧ ((d = .tup [] ∧ d' = .tup []) ∨ ∃ S, d = tabD S ∧ d' = tabD (partT S ps)) := by
  rcases c with ⟨b, rfl⟩ | ⟨S, tb, cl, rfl⟩
  · exact ⟨_, .inl ⟨b, rfl⟩, .inl ⟨rfl, rfl⟩⟩
  · exact ⟨_, .inr ⟨S, tb, cl, rfl⟩, .inr ⟨S, rfl, rfl⟩⟩
theorem pl_tab {T : Tab} : Pl (tabD T) := by
  refine ⟨?_, ?_⟩
  · show plains (T.map rowD) = true
    induction T with
    | nil => rfl
    | cons r T ih =>
      have hr : plain (rowD r) = true := by
        show plains (r.map oD) = true
        induction r with
        | nil => rfl
        | cons a r ih => cases a <;> simp [plains, oD, plain, ih]
      simp [plains, hr, ih]
  · show deeps (T.map rowD) + 1 ≤ 64
    have : deeps (T.map rowD) ≤ 1 := by
      induction T with
      | nil => simp [deeps]
      | cons r T ih =>
        have hr : deep (rowD r) ≤ 1 := by
          show deeps (r.map oD) + 1 ≤ 1
          have : deeps (r.map oD) = 0 := by
            clear ih
            induction r with
            | nil => rfl
            | cons a r ih => cases a <;> simp [deeps, oD, deep, ih]
          omega
        simp only [List.map_cons, deeps]
        exact Nat.max_le.mpr ⟨hr, ih⟩
    omega
theorem pl_tabT {T : Tab} : Pl (.tup (T.map rowD)) := pl_tab
/-- a table == () -/
theorem eq_tab {n : Nat} {T : Tab} (sq : Sq n T) (hn : 0 < n) {M : Mp} {Q : VK3} : oEq false (tabD T) (.tup []) M Q = Q (.bl false) M := by
  unfold tabD
  rw [op_eqTf, tp_tup, eqD_nil, tab_ne sq hn]
  exact propext ⟨fun h => h.2.2, fun h => ⟨pl_tabT, by rw [pl_nil]; trivial, h⟩⟩
theorem eq_nil {M : Mp} {Q : VK3} : oEq false (.tup []) (.tup []) M Q = Q (.bl true) M := by
  rw [op_eqTf, tp_tup, eqD_nil]
  exact propext ⟨fun h => h.2.2, fun h => ⟨by rw [pl_nil]; trivial, by rw [pl_nil]; trivial, h⟩⟩
theorem len_tab {n : Nat} {T : Tab} (sq : Sq n T) {M : Mp} {Q : VK3} : bLen [tabD T] M Q = Q (.int n) M := by
  unfold tabD
  rw [bl_lenT, List.length_map, sq.rows]
/-- an end of a table -/
theorem ix_tab {n : Nat} {T : Tab} (sq : Sq n T) {p q : Int} (hp : 0 ≤ p) (hp1 : p < n) (hq : 0 ≤ q) (hq1 : q < n) : ∃ r, (∀ (M : Mp) (Q : VK3), oIx (tabD T) (.int p) M Q = Q (rowD r) M) ∧ ∀ (M : Mp) (Q : VK3), oIx (rowD r) (.int q) M Q = Q (oD (at2 T p.toNat q.toNat)) M := by
  obtain ⟨r, h1, h2, h3, h4, h5, h6⟩ := sq.get hp hp1 hq hq1
  refine ⟨r, fun M Q => ?_, fun M Q => ?_⟩
  · unfold tabD; rw [op_ixT, asI_int, h3, asS_some]; rfl
  · unfold rowD; rw [op_ixT, asI_int, h4, asS_some]
end L3
set_option Elab.async false
set_option linter.all false
set_option maxRecDepth 100000
set_option maxHeartbeats 4000000
namespace L3
open PySem PySem.Spec PyProof.Rows L2
theorem part_ok {B n many : Nat} {T : Tab} {ps : List Nat} (t : TabB B n T) (h : ps.length = n) (hi : ∀ p ∈ ps, p < many) : PartOk B many (T, ps) :=
  ⟨by rw [show (T, ps).1 = T from rfl, t.rows]; exact t, by show T.length ≤ ps.length; rw [t.rows, h]; exact Nat.le_refl _, hi⟩
/-- () or a table -/
def NilOr (d : D) : Prop := d = .tup [] ∨ ∃ n T, d = tabD T ∧ Sq n T ∧ 0 < n
end L3
set_option Elab.async false
set_option linter.all false
set_option maxRecDepth 100000
set_option maxHeartbeats 4000000
namespace L3
open PySem PySem.Spec PyProof.Rows L2
/-- a grown M: a's draws aside -/
def Gr (a : Addr) (M M' : Mp) : Prop := ∀ b o, b ≠ a → M b = some o → M' b = some o
theorem Gr.refl {a : Addr} {M : Mp} : Gr a M M := fun _ _ _ h => h
theorem Gr.trans {a : Addr} {M M1 M2 : Mp} (x : Gr a M M1) (y : Gr a M1 M2) : Gr a M M2 := fun b o h z => y b o h (x b o h z)
theorem Only.gr {a : Addr} {M M' : Mp} (x : Only a M M') : Gr a M M' := fun b o h z => (x b h).trans z
theorem Gr.put {a f : Addr} {M M' : Mp} {o : MO} (x : Gr a M M') (h : M f = none) : Gr a M (mset M' f o) := fun b u hb z => by
  rw [mset_ne (ne_m z h)]; exact x b u hb z
theorem Feed.put {a f : Addr} {M : Mp} {o : MO} (x : Feed M a) (h : f ≠ a) : Feed (mset M f o) a := by
  obtain ⟨g, m, c, e⟩ := x
  exact ⟨g, m, c, by rw [mset_ne (Ne.symm h)]; exact e⟩
theorem Feed.ne {a f : Addr} {M : Mp} (x : Feed M a) (h : M f = none) : f ≠ a := by
  obtain ⟨g, m, c, e⟩ := x
  exact fun z => by rw [z, e] at h; cases h
/-- rows of a drawn table -/
def TsOk (n : Nat) (ts : List Trip) : Prop := ∀ t ∈ ts, In2 n t ∧ t.2.2.natAbs < 100
theorem TsOk.nil {n : Nat} : TsOk n [] := fun _ h => nomatch h
theorem TsOk.app {n : Nat} {ts us : List Trip} (h : TsOk n ts) (h2 : TsOk n us) : TsOk n (ts ++ us) := fun t ht => (List.mem_append.mp ht).elim (h t) (h2 t)
theorem TsOk.rep {n k : Nat} {t : Trip} (h : In2 n t ∧ t.2.2.natAbs < 100) : TsOk n (List.replicate k t) := fun x hx => by rw [List.eq_of_mem_replicate hx]; exact h
end L3
set_option Elab.async false
set_option linter.all false
set_option maxRecDepth 100000
set_option maxHeartbeats 4000000
namespace L3
open PySem PySem.Spec PyProof.Rows L2
theorem only_sh {n B : Nat} {X : Tab} {ps : List Nat} {d : D} (c : OnlyOf n B X ps d) (hB : 2 ^ n * B ≤ 10 ^ 100) (hp : ps.length ≤ 100) : Sh d := (c.tm hB).fits (by decide) (Nat.le_trans (Nat.mul_le_mul hp (Nat.add_le_add_right hp 1)) (by decide))
theorem b7 {n B : Nat} (hn : n ≤ 12) (hB : B ≤ 10 ^ 40) : 2 ^ n * B ≤ 10 ^ 100 := Nat.le_trans (Nat.mul_le_mul (Nat.pow_le_pow_right (by decide) hn) hB) (by decide)
theorem bl_reprE {M : Mp} {d : D} {Q : VK3} (h : L3.top M d = d) (s : Sh d) : bRepr [d] M Q = Q (.str (shown d)) M := by
  rw [bl_repr, h]
  exact propext ⟨fun x => x.2, fun x => ⟨s, x⟩⟩
theorem bl_reprT {M : Mp} {T : Tab} {Q : VK3} (s : Sh (tabD T)) : bRepr [tabD T] M Q = Q (.str (shown (tabD T))) M := bl_reprE rfl s
end L3
set_option Elab.async false
set_option linter.all false
set_option maxRecDepth 100000
set_option maxHeartbeats 4000000
namespace L3
open PySem PySem.Spec PyProof.Rows L2
/-- what a chain comes to -/
def ChainIs (B n : Nat) (xs : List Part) (d : D) : Prop := ∃ X, PutIs B n xs X ∧ Closes n B X d
/-- edges of some parts -/
structure PEdges (B n : Nat) (xs : List Part) (ts : List Trip) : Prop where
  ok : TripsOk n B ts
  st : ∀ s, StE (ts.map edgeOf) s ↔ ∀ x ∈ xs, Pull x s
theorem PEdges.app {B n : Nat} {xs ys : List Part} {ts us : List Trip} (h : PEdges B n xs ts) (h2 : PEdges B n ys us) : PEdges B n (xs ++ ys) (ts ++ us) :=
  ⟨fun t ht => (List.mem_append.mp ht).elim (h.ok t) (h2.ok t), fun s => by
    rw [List.map_append, StE.app, h.st, h2.st]
    exact ⟨fun a x hx => (List.mem_append.mp hx).elim (a.1 x) (a.2 x), fun a => ⟨fun x hx => a x (List.mem_append_left _ hx), fun x hx => a x (List.mem_append_right _ hx)⟩⟩⟩
theorem PEdges.one {B n : Nat} {x : Part} {ts : List Trip} (h : TripsOk n B ts) (h2 : ∀ s, StE (ts.map edgeOf) s ↔ Pull x s) : PEdges B n [x] ts :=
  ⟨h, fun s => by rw [h2]; exact ⟨fun a y hy => by rw [List.mem_singleton] at hy; rw [hy]; exact a, fun a => a x (by simp)⟩⟩
/-- closing what edges say -/
theorem PEdges.put {B n : Nat} {xs : List Part} {ts : List Trip} (h : PEdges B n xs ts) : PutIs B n xs (mtab n ts) :=
  ⟨mtab_b fun t ht => (h.ok t ht).2, fun s => by rw [(es_mtab fun t ht => (h.ok t ht).1).st, h.st]⟩
theorem PEdges.least {B n : Nat} {xs : List Part} {ts : List Trip} (h : PEdges B n xs ts) {sp : Sp3} (k : SLeast sp) (hn : n ≤ 1000) (hB : 0 < B) {Q : VK3} {E : XK3} (q : ∀ d M, ChainIs B n xs d → Q d M) : sp [.int (n : Int), .rol (ts.map tripD)] M0 Q E := by
  refine k (n : Int) B (mtab n ts) ts Q E (by omega) (by omega) hB (by rw [Int.toNat_natCast]; exact h.put.tb) (fun t ht => (h.ok t ht).1) (by rw [Int.toNat_natCast]; exact es_mtab fun t ht => (h.ok t ht).1) fun d M hd => ?_
  rw [Int.toNat_natCast] at hd
  exact q d M ⟨_, h.put, hd⟩
theorem ChainIs.uniq {B B' n : Nat} {xs : List Part} {d d' : D} (h : ChainIs B n xs d) (h' : ChainIs B' n xs d') : d = d' := by
  obtain ⟨X, hX, c⟩ := h
  obtain ⟨X', hX', c'⟩ := h'
  exact c.congr (fun s => by rw [hX.st, hX'.st]) c'
/-- some points of a chain -/
def RowIs (B n : Nat) (xs : List Part) (ps : List Nat) (d : D) : Prop := ∃ X, PutIs B n xs X ∧ OnlyOf n B X ps d
theorem RowIs.uniq {B B' n : Nat} {xs : List Part} {ps : List Nat} {d d' : D} (hp : ∀ p ∈ ps, p < n) (h : RowIs B n xs ps d) (h' : RowIs B' n xs ps d') : d = d' := by
  obtain ⟨X, hX, c⟩ := h
  obtain ⟨X', hX', c'⟩ := h'
  exact c.congr (fun s => by rw [hX.st, hX'.st]) hp c'
theorem eqD_rnil {x : List D} : eqD (.rol x) (.rol []) = x.isEmpty := by
  cases x <;> simp only [eqD, pdOf, pdsOf, PyData.eqv, PyData.eqvAll, List.isEmpty]
theorem RowIs.sh {B n : Nat} {xs : List Part} {ps : List Nat} {d : D} (h : RowIs B n xs ps d) (hB : 2 ^ n * B ≤ 10 ^ 100) (hp : ps.length ≤ 100) : Sh d := by
  obtain ⟨X, hX, c⟩ := h; exact only_sh c hB hp
theorem RowIs.top {B n : Nat} {xs : List Part} {ps : List Nat} {d : D} (h : RowIs B n xs ps d) {M : Mp} : L3.top M d = d := by
  obtain ⟨X, hX, c⟩ := h; exact c.top
end L3
set_option Elab.async false
set_option linter.all false
set_option maxRecDepth 100000
set_option maxHeartbeats 4000000
namespace L3
open PySem PySem.Spec PyProof.Rows L2
def Meets (n : Nat) (F : Fn) (v : Nat → Int) : Prop := ∀ p q, p < n → q < n → ∀ e, F p q = some e → v p - v q ≤ e
theorem meets_st {n : Nat} {F : Fn} {v : Nat → Int} : Meets n F v ↔ Stable n F fun p => some (- v p) := by
  constructor
  · intro h p hp q hq
    cases e : F p q with
    | none => exact eLe_none
    | some x => have := h p q hp hq x e; show _ ≤ _; omega
  · intro h p q hp hq x e
    have := h p hp q hq
    rw [e] at this
    have this : - v q ≤ - v p + x := this
    omega
theorem Bad.none {n : Nat} {T : Fn} (b : Bad n T) (v : Nat → Int) : ¬ Meets n T v := fun h => by
  obtain ⟨m, hm, z⟩ := b
  have := z _ (meets_st.mp h)
  cases this
/-- between some lowest and some greatest ones -/
theorem between (L U : List Int) (h : ∀ l ∈ L, ∀ u ∈ U, l ≤ u) : ∃ x, (∀ l ∈ L, l ≤ x) ∧ (∀ u ∈ U, x ≤ u) ∧ (x ∈ L ∨ x ∈ U ∨ x = 0) := by
  have mx : ∀ L : List Int, L = [] ∨ ∃ m ∈ L, ∀ l ∈ L, l ≤ m := by
    intro L
    induction L with
    | nil => exact .inl rfl
    | cons a L ih =>
      right
      rcases ih with rfl | ⟨m, hm, h⟩
      · exact ⟨a, by simp, fun l hl => by simp at hl; omega⟩
      · by_cases z : a ≤ m
        · exact ⟨m, by simp [hm], fun l hl => by
            rcases List.mem_cons.mp hl with rfl | hl
            · exact z
            · exact h l hl⟩
        · exact ⟨a, by simp, fun l hl => by
            rcases List.mem_cons.mp hl with rfl | hl
            · omega
            · have := h l hl; omega⟩
  have mn : ∀ L : List Int, L = [] ∨ ∃ m ∈ L, ∀ l ∈ L, m ≤ l := by
    intro L
    induction L with
    | nil => exact .inl rfl
    | cons a L ih =>
      right
      rcases ih with rfl | ⟨m, hm, h⟩
      · exact ⟨a, by simp, fun l hl => by simp at hl; omega⟩
      · by_cases z : m ≤ a
        · exact ⟨m, by simp [hm], fun l hl => by
            rcases List.mem_cons.mp hl with rfl | hl
            · exact z
            · exact h l hl⟩
        · exact ⟨a, by simp, fun l hl => by
            rcases List.mem_cons.mp hl with rfl | hl
            · omega
            · have := h l hl; omega⟩
  rcases mn U with rfl | ⟨u, hu, hU⟩
  · rcases mx L with rfl | ⟨l, hl, hL⟩
    · exact ⟨0, by simp, by simp, .inr (.inr rfl)⟩
    · exact ⟨l, hL, by simp, .inl hl⟩
  · exact ⟨u, fun l hl => h l hl u hu, hU, .inr (.inl hu)⟩
def setV (v : Nat → Int) (r : Nat) (x : Int) : Nat → Int := fun i => if i = r then x else v i
/-- meeting a table on some points alone -/
def MeetsOn (n : Nat) (A : Nat → Bool) (F : Fn) (v : Nat → Int) : Prop := ∀ p q, p < n → q < n → A p = true → A q = true → ∀ e, F p q = some e → v p - v q ≤ e
theorem ext_one {n : Nat} {T S : Fn} (c : IsCl n T S) {A : Nat → Bool} {v : Nat → Int} (h : MeetsOn n A S v) {r : Nat} (hr : r < n) : ∃ v', MeetsOn n (fun i => A i || decide (i = r)) S v' ∧ ∀ i, A i = true → v' i = v i := by
  by_cases hA : A r = true
  · refine ⟨v, fun p q hp hq h1 h2 => h p q hp hq ?_ ?_, fun _ _ => rfl⟩
    · rcases Bool.or_eq_true _ _ ▸ h1 with z | z
      · exact z
      · have := of_decide_eq_true z; subst this; exact hA
    · rcases Bool.or_eq_true _ _ ▸ h2 with z | z
      · exact z
      · have := of_decide_eq_true z; subst this; exact hA
  · let ix := (List.range n).filter A
    let U := ix.filterMap fun q => (S r q).map fun e => v q + e
    let L := ix.filterMap fun q => (S q r).map fun e => v q - e
    have mU : ∀ u, u ∈ U ↔ ∃ q e, q < n ∧ A q = true ∧ S r q = some e ∧ u = v q + e := fun u => by
      simp only [U, ix, List.mem_filterMap, List.mem_filter, List.mem_range, Option.map_eq_some_iff]
      constructor
      · rintro ⟨q, ⟨h1, h2⟩, e, h3, rfl⟩; exact ⟨q, e, h1, h2, h3, rfl⟩
      · rintro ⟨q, e, h1, h2, h3, rfl⟩; exact ⟨q, ⟨h1, h2⟩, e, h3, rfl⟩
    have mL : ∀ u, u ∈ L ↔ ∃ q e, q < n ∧ A q = true ∧ S q r = some e ∧ u = v q - e := fun u => by
      simp only [L, ix, List.mem_filterMap, List.mem_filter, List.mem_range, Option.map_eq_some_iff]
      constructor
      · rintro ⟨q, ⟨h1, h2⟩, e, h3, rfl⟩; exact ⟨q, e, h1, h2, h3, rfl⟩
      · rintro ⟨q, e, h1, h2, h3, rfl⟩; exact ⟨q, ⟨h1, h2⟩, e, h3, rfl⟩
    obtain ⟨x, hL, hU, _⟩ := between L U (fun l hl u hu => by
      obtain ⟨p, e, hp, ap, he, rfl⟩ := (mL l).mp hl
      obtain ⟨q, f, hq, aq, hf, rfl⟩ := (mU u).mp hu
      have t := c.tri p q r hp hq hr
      rw [he, hf] at t
      cases g : S p q with
      | none => rw [g] at t; exact t.elim
      | some y =>
        rw [g] at t
        have t : y ≤ e + f := t
        have := h p q hp hq ap aq y g
        omega)
    refine ⟨setV v r x, fun p q hp hq h1 h2 e he => ?_, fun i hi => ?_⟩
    · unfold setV
      have c1 : A p = true ∨ p = r := (Bool.or_eq_true _ _ ▸ h1).imp id of_decide_eq_true
      have c2 : A q = true ∨ q = r := (Bool.or_eq_true _ _ ▸ h2).imp id of_decide_eq_true
      by_cases e1 : p = r
      · subst e1
        by_cases e2 : q = p
        · subst e2
          rw [c.diag q hp] at he; cases he; omega
        · rw [if_pos rfl, if_neg e2]
          have := hU _ ((mU _).mpr ⟨q, e, hq, c2.resolve_right e2, he, rfl⟩)
          omega
      · rw [if_neg e1]
        by_cases e2 : q = r
        · subst e2
          rw [if_pos rfl]
          have := hL _ ((mL _).mpr ⟨p, e, hp, c1.resolve_right e1, he, rfl⟩)
          omega
        · rw [if_neg e2]
          exact h p q hp hq (c1.resolve_right e1) (c2.resolve_right e2) e he
    · unfold setV
      rw [if_neg (fun z => hA (by rw [← z]; exact hi))]
/-- what meets a closed table at some points can be completed -/
theorem ext_all' {n : Nat} {T S : Fn} (c : IsCl n T S) {A : Nat → Bool} {v : Nat → Int} (h : MeetsOn n A S v) : ∃ v', Meets n S v' ∧ ∀ i, A i = true → v' i = v i := by
  have go : ∀ k, k ≤ n → ∃ v', MeetsOn n (fun i => A i || decide (i < k)) S v' ∧ ∀ i, A i = true → v' i = v i := by
    intro k
    induction k with
    | zero => exact fun _ => ⟨v, fun p q hp hq h1 h2 => h p q hp hq (by simpa using h1) (by simpa using h2), fun _ _ => rfl⟩
    | succ k ih =>
      intro hk
      obtain ⟨v1, h1, e1⟩ := ih (by omega)
      obtain ⟨v2, h2, e2⟩ := ext_one c h1 (r := k) (by omega)
      refine ⟨v2, fun p q hp hq a b => h2 p q hp hq ?_ ?_, fun i hi => (e2 i (by simp [hi])).trans (e1 i hi)⟩
      · simp only [Bool.or_eq_true, decide_eq_true_eq] at a ⊢
        rcases a with a | a
        · exact .inl (.inl a)
        · by_cases z : p < k
          · exact .inl (.inr z)
          · exact .inr (by omega)
      · simp only [Bool.or_eq_true, decide_eq_true_eq] at b ⊢
        rcases b with b | b
        · exact .inl (.inl b)
        · by_cases z : q < k
          · exact .inl (.inr z)
          · exact .inr (by omega)
  obtain ⟨v', h1, h2⟩ := go n (Nat.le_refl _)
  exact ⟨v', fun p q hp hq => h1 p q hp hq (by simp [hp]) (by simp [hq]), h2⟩
/-- each end is reached -/
theorem reach {n : Nat} {T S : Fn} (c : IsCl n T S) {p q : Nat} (hp : p < n) (hq : q < n) : (∀ e, S p q = some e → ∃ v, Meets n S v ∧ v p - v q = e) ∧ (S p q = none → ∀ N : Int, ∃ v, Meets n S v ∧ N ≤ v p - v q) := by
  have mk : ∀ x : Int, (∀ e, S p q = some e → x ≤ e) → (∀ e, S q p = some e → - x ≤ e) → (p = q → x = 0) → ∃ v, Meets n S v ∧ v p - v q = x := by
    intro x h1 h2 h3
    have on : MeetsOn n (fun i => decide (i = p) || decide (i = q)) S (fun i => if i = p then x else 0) := by
      intro i j hi hj a b e he
      simp only [Bool.or_eq_true, decide_eq_true_eq] at a b
      by_cases e1 : i = p <;> by_cases e2 : j = p
      · subst e1; subst e2
        rw [c.diag _ hi] at he; cases he; simp
      · subst e1
        have : j = q := by omega
        subst this
        dsimp only
        rw [if_pos rfl, if_neg e2]
        have := h1 e he; omega
      · subst e2
        have : i = q := by omega
        subst this
        dsimp only
        rw [if_pos rfl, if_neg e1]
        have := h2 e he; omega
      · have a1 : i = q := by omega
        have a2 : j = q := by omega
        subst a1; subst a2
        rw [c.diag _ hi] at he; cases he; dsimp only; rw [if_neg e1]; omega
    obtain ⟨v', m, ag⟩ := ext_all' c on
    refine ⟨v', m, ?_⟩
    rw [ag p (by simp), ag q (by simp), if_pos rfl]
    by_cases z : q = p
    · subst z; rw [if_pos rfl, h3 rfl]; omega
    · rw [if_neg z]; omega
  have tr : ∀ e f, S p q = some e → S q p = some f → - e ≤ f := fun e f h1 h2 => by
    have t := c.tri p p q hp hp hq
    rw [c.diag p hp, h1, h2] at t
    have t : (0 : Int) ≤ e + f := t
    omega
  constructor
  · intro e he
    exact mk e (fun x hx => by rw [he] at hx; cases hx; omega) (fun f hf => tr e f he hf) fun z => by subst z; rw [c.diag p hp] at he; cases he; rfl
  · intro hn N
    have pq : p ≠ q := fun z => by subst z; rw [c.diag p hp] at hn; cases hn
    cases g : S q p with
    | none =>
      obtain ⟨v, m, e⟩ := mk N (fun x hx => by rw [hn] at hx; cases hx) (fun x hx => by rw [g] at hx; cases hx) (fun z => absurd z pq)
      exact ⟨v, m, by omega⟩
    | some f =>
      obtain ⟨v, m, e⟩ := mk (max N (- f)) (fun x hx => by rw [hn] at hx; cases hx) (fun x hx => by rw [g] at hx; cases hx; omega) (fun z => absurd z pq)
      exact ⟨v, m, by omega⟩
/-- closed tables met by the same values are the same -/
theorem cl_same {n : Nat} {T S T' S' : Fn} (c : IsCl n T S) (c' : IsCl n T' S') (h : ∀ v, Meets n S v ↔ Meets n S' v) {p q : Nat} (hp : p < n) (hq : q < n) : S p q = S' p q := by
  have one : ∀ {T S T' S' : Fn}, IsCl n T S → IsCl n T' S' → (∀ v, Meets n S v ↔ Meets n S' v) → eLe (S p q) (S' p q) := by
    intro T S T' S' c c' h
    cases e' : S' p q with
    | none => exact eLe_none
    | some y =>
      cases e : S p q with
      | none =>
        obtain ⟨v, m, hv⟩ := (reach c hp hq).2 e (y + 1)
        have := (h v).mp m p q hp hq y e'
        omega
      | some x =>
        obtain ⟨v, m, hv⟩ := (reach c hp hq).1 x e
        have := (h v).mp m p q hp hq y e'
        show x ≤ y
        omega
  exact eLe_anti (one c c' h) (one c' c fun v => (h v).symm)
theorem IsCl.some {n : Nat} {T S : Fn} (c : IsCl n T S) : ∃ v, Meets n S v := by
  obtain ⟨v, m, _⟩ := ext_all' c (A := fun _ => false) (v := fun _ => 0) (fun p q _ _ h => by cases h)
  exact ⟨v, m⟩
/-- d is a table, closed, met by just P, or () -/
def Den (n : Nat) (d : D) (P : (Nat → Int) → Prop) : Prop := (d = .tup [] ∧ ∀ v, ¬ P v) ∨ ∃ S : Tab, d = tabD S ∧ Sq n S ∧ IsCl n (at2 S) (at2 S) ∧ ∀ v, P v ↔ Meets n (at2 S) v
theorem Den.uniq {n : Nat} {d d' : D} {P P' : (Nat → Int) → Prop} (h : Den n d P) (h' : Den n d' P') (e : ∀ v, P v ↔ P' v) : d = d' := by
  rcases h with ⟨rfl, h⟩ | ⟨S, rfl, sq, c, h⟩
  · rcases h' with ⟨rfl, _⟩ | ⟨S', rfl, sq', c', h'⟩
    · rfl
    · obtain ⟨v, m⟩ := c'.some
      exact absurd ((e v).mpr ((h' v).mpr m)) (h v)
  · rcases h' with ⟨rfl, h'⟩ | ⟨S', rfl, sq', c', h'⟩
    · obtain ⟨v, m⟩ := c.some
      exact absurd ((e v).mp ((h v).mpr m)) (h' v)
    · rw [tab_ext sq sq' fun p q hp hq => cl_same c c' (fun v => by rw [← h, ← h', e]) hp hq]
theorem Den.congr {n : Nat} {d : D} {P P' : (Nat → Int) → Prop} (h : Den n d P) (e : ∀ v, P v ↔ P' v) : Den n d P' := by
  rcases h with ⟨rfl, h⟩ | ⟨S, rfl, sq, c, h⟩
  · exact .inl ⟨rfl, fun v z => h v ((e v).mpr z)⟩
  · exact .inr ⟨S, rfl, sq, c, fun v => by rw [← e, h]⟩
end L3
set_option Elab.async false
set_option linter.all false
set_option maxRecDepth 100000
set_option maxHeartbeats 4000000
namespace L3
open PySem PySem.Spec PyProof.Rows L2
abbrev Vl := Nat → Int
abbrev Rel := Vl → Vl → Prop
/-- old, new, zero -/
def enc (w : Nat) (a b : Vl) : Vl := fun i => if i < w then a i else if i < 2 * w then b (i - w) else 0
def encF (w : Nat) (a : Vl) : Vl := fun i => if i < w then a i else 0
theorem Meets.shift {n : Nat} {F : Fn} {v u : Vl} (c : Int) (h : ∀ i, i < n → u i = v i + c) : Meets n F v ↔ Meets n F u := by
  constructor
  · intro m p q hp hq e he
    have := m p q hp hq e he
    rw [h p hp, h q hq]; omega
  · intro m p q hp hq e he
    have := m p q hp hq e he
    rw [h p hp, h q hq] at this; omega
theorem enc_of {w : Nat} (v : Vl) : ∃ a b, ∀ i, i < 2 * w + 1 → v i = enc w a b i + v (2 * w) := by
  refine ⟨fun i => v i - v (2 * w), fun i => v (w + i) - v (2 * w), fun i hi => ?_⟩
  unfold enc
  by_cases h : i < w
  · rw [if_pos h]; dsimp only; omega
  · rw [if_neg h]
    by_cases h2 : i < 2 * w
    · rw [if_pos h2]
      have : w + (i - w) = i := by omega
      dsimp only
      rw [this]; omega
    · have : i = 2 * w := by omega
      rw [if_neg h2, this]; omega
theorem encF_of {w : Nat} (v : Vl) : ∃ a, ∀ i, i < w + 1 → v i = encF w a i + v w := by
  refine ⟨fun i => v i - v w, fun i hi => ?_⟩
  unfold encF
  by_cases h : i < w
  · rw [if_pos h]; dsimp only; omega
  · have : i = w := by omega
    rw [if_neg h, this]; omega
/-- a step as it stands, its ends within B -/
def RepS (B w : Nat) (d : D) (R : Rel) : Prop := (d = .tup [] ∧ ∀ a b, ¬ R a b) ∨ ∃ T : Tab, d = tabD T ∧ TabB B (2 * w + 1) T ∧ ∀ a b, R a b ↔ Meets (2 * w + 1) (at2 T) (enc w a b)
def RepF (B w : Nat) (d : D) (P : Vl → Prop) : Prop := (d = .tup [] ∧ ∀ a, ¬ P a) ∨ ∃ T : Tab, d = tabD T ∧ TabB B (w + 1) T ∧ ∀ a, P a ↔ Meets (w + 1) (at2 T) (encF w a)
/-- a step closed -/
def DenS (B w : Nat) (d : D) (R : Rel) : Prop := (d = .tup [] ∧ ∀ a b, ¬ R a b) ∨ ∃ S : Tab, d = tabD S ∧ TabB B (2 * w + 1) S ∧ IsCl (2 * w + 1) (at2 S) (at2 S) ∧ ∀ a b, R a b ↔ Meets (2 * w + 1) (at2 S) (enc w a b)
def DenF (B w : Nat) (d : D) (P : Vl → Prop) : Prop := (d = .tup [] ∧ ∀ a, ¬ P a) ∨ ∃ S : Tab, d = tabD S ∧ TabB B (w + 1) S ∧ IsCl (w + 1) (at2 S) (at2 S) ∧ ∀ a, P a ↔ Meets (w + 1) (at2 S) (encF w a)
section
variable {B B' w : Nat} {d d' : D} {R R' : Rel} {P P' : Vl → Prop}
theorem TabB.mono {n : Nat} {T : Tab} (t : TabB B n T) (h : B ≤ B') : TabB B' n T := ⟨t.rows, t.cols, fun r hr e he i hi => Nat.lt_of_lt_of_le (t.ends r hr e he i hi) h⟩
theorem DenS.rep (h : DenS B w d R) : RepS B w d R := by
  rcases h with h | ⟨S, h1, h2, _, h3⟩
  · exact .inl h
  · exact .inr ⟨S, h1, h2, h3⟩
theorem DenF.rep (h : DenF B w d P) : RepF B w d P := by
  rcases h with h | ⟨S, h1, h2, _, h3⟩
  · exact .inl h
  · exact .inr ⟨S, h1, h2, h3⟩
theorem RepS.mono (h : RepS B w d R) (hB : B ≤ B') : RepS B' w d R := by
  rcases h with h | ⟨S, h1, h2, h3⟩
  · exact .inl h
  · exact .inr ⟨S, h1, h2.mono hB, h3⟩
theorem RepF.mono (h : RepF B w d P) (hB : B ≤ B') : RepF B' w d P := by
  rcases h with h | ⟨S, h1, h2, h3⟩
  · exact .inl h
  · exact .inr ⟨S, h1, h2.mono hB, h3⟩
theorem DenS.mono (h : DenS B w d R) (hB : B ≤ B') : DenS B' w d R := by
  rcases h with h | ⟨S, h1, h2, c, h3⟩
  · exact .inl h
  · exact .inr ⟨S, h1, h2.mono hB, c, h3⟩
theorem DenF.mono (h : DenF B w d P) (hB : B ≤ B') : DenF B' w d P := by
  rcases h with h | ⟨S, h1, h2, c, h3⟩
  · exact .inl h
  · exact .inr ⟨S, h1, h2.mono hB, c, h3⟩
theorem DenS.congr (h : DenS B w d R) (e : ∀ a b, R a b ↔ R' a b) : DenS B w d R' := by
  rcases h with ⟨h, g⟩ | ⟨S, h1, h2, c, h3⟩
  · exact .inl ⟨h, fun a b z => g a b ((e a b).mpr z)⟩
  · exact .inr ⟨S, h1, h2, c, fun a b => by rw [← e, h3]⟩
theorem DenF.congr (h : DenF B w d P) (e : ∀ a, P a ↔ P' a) : DenF B w d P' := by
  rcases h with ⟨h, g⟩ | ⟨S, h1, h2, c, h3⟩
  · exact .inl ⟨h, fun a z => g a ((e a).mpr z)⟩
  · exact .inr ⟨S, h1, h2, c, fun a => by rw [← e, h3]⟩
theorem RepS.congr (h : RepS B w d R) (e : ∀ a b, R a b ↔ R' a b) : RepS B w d R' := by
  rcases h with ⟨h, g⟩ | ⟨S, h1, h2, h3⟩
  · exact .inl ⟨h, fun a b z => g a b ((e a b).mpr z)⟩
  · exact .inr ⟨S, h1, h2, fun a b => by rw [← e, h3]⟩
theorem RepF.congr (h : RepF B w d P) (e : ∀ a, P a ↔ P' a) : RepF B w d P' := by
  rcases h with ⟨h, g⟩ | ⟨S, h1, h2, h3⟩
  · exact .inl ⟨h, fun a z => g a ((e a).mpr z)⟩
  · exact .inr ⟨S, h1, h2, fun a => by rw [← e, h3]⟩
theorem meets_all {n : Nat} {F G : Fn} (h : ∀ a b, Meets (2 * w + 1) F (enc w a b) ↔ Meets (2 * w + 1) G (enc w a b)) (v : Vl) : Meets (2 * w + 1) F v ↔ Meets (2 * w + 1) G v := by
  obtain ⟨a, b, e⟩ := enc_of (w := w) v
  rw [← Meets.shift (v (2 * w)) e, ← Meets.shift (v (2 * w)) e]
  exact h a b
theorem meets_allF {n : Nat} {F G : Fn} (h : ∀ a, Meets (w + 1) F (encF w a) ↔ Meets (w + 1) G (encF w a)) (v : Vl) : Meets (w + 1) F v ↔ Meets (w + 1) G v := by
  obtain ⟨a, e⟩ := encF_of (w := w) v
  rw [← Meets.shift (v w) e, ← Meets.shift (v w) e]
  exact h a
theorem some_enc {F : Fn} (h : ∃ v, Meets (2 * w + 1) F v) : ∃ a b, Meets (2 * w + 1) F (enc w a b) := by
  obtain ⟨v, m⟩ := h
  obtain ⟨a, b, e⟩ := enc_of (w := w) v
  exact ⟨a, b, (Meets.shift (v (2 * w)) e).mpr m⟩
theorem some_encF {F : Fn} (h : ∃ v, Meets (w + 1) F v) : ∃ a, Meets (w + 1) F (encF w a) := by
  obtain ⟨v, m⟩ := h
  obtain ⟨a, e⟩ := encF_of (w := w) v
  exact ⟨a, (Meets.shift (v w) e).mpr m⟩
theorem DenS.uniq (h : DenS B w d R) (h' : DenS B' w d' R') (e : ∀ a b, R a b ↔ R' a b) : d = d' := by
  rcases h with ⟨rfl, h⟩ | ⟨S, rfl, sq, c, h⟩
  · rcases h' with ⟨rfl, _⟩ | ⟨S', rfl, sq', c', h'⟩
    · rfl
    · obtain ⟨a, b, m⟩ := some_enc c'.some
      exact absurd ((e a b).mpr ((h' a b).mpr m)) (h a b)
  · rcases h' with ⟨rfl, h'⟩ | ⟨S', rfl, sq', c', h'⟩
    · obtain ⟨a, b, m⟩ := some_enc c.some
      exact absurd ((e a b).mp ((h a b).mpr m)) (h' a b)
    · rw [tab_ext sq.sq sq'.sq fun p q hp hq => cl_same c c' (meets_all (n := 0) fun a b => by rw [← h, ← h', e]) hp hq]
theorem DenF.uniq (h : DenF B w d P) (h' : DenF B' w d' P') (e : ∀ a, P a ↔ P' a) : d = d' := by
  rcases h with ⟨rfl, h⟩ | ⟨S, rfl, sq, c, h⟩
  · rcases h' with ⟨rfl, _⟩ | ⟨S', rfl, sq', c', h'⟩
    · rfl
    · obtain ⟨a, m⟩ := some_encF c'.some
      exact absurd ((e a).mpr ((h' a).mpr m)) (h a)
  · rcases h' with ⟨rfl, h'⟩ | ⟨S', rfl, sq', c', h'⟩
    · obtain ⟨a, m⟩ := some_encF c.some
      exact absurd ((e a).mp ((h a).mpr m)) (h' a)
    · rw [tab_ext sq.sq sq'.sq fun p q hp hq => cl_same c c' (meets_allF (n := 0) fun a => by rw [← h, ← h', e]) hp hq]
theorem DenS.tm (h : DenS B w d R) (hB : B ≤ 10 ^ 100) : Tm 2 ((2 * w + 1) * (2 * w + 1 + 1)) d := by
  rcases h with ⟨rfl, _⟩ | ⟨S, rfl, t, _⟩
  · exact (Tm.tup (h := 0) (n := 0) (m := 0) (ds := []) (fun d h => nomatch h) (Nat.le_refl _)).mono (by decide) (Nat.zero_le _)
  · exact Tm.tab t hB
theorem DenF.tm (h : DenF B w d P) (hB : B ≤ 10 ^ 100) : Tm 2 ((w + 1) * (w + 1 + 1)) d := by
  rcases h with ⟨rfl, _⟩ | ⟨S, rfl, t, _⟩
  · exact (Tm.tup (h := 0) (n := 0) (m := 0) (ds := []) (fun d h => nomatch h) (Nat.le_refl _)).mono (by decide) (Nat.zero_le _)
  · exact Tm.tab t hB
theorem DenS.top (h : DenS B w d R) {M : Mp} : L3.top M d = d := by
  rcases h with ⟨rfl, _⟩ | ⟨S, rfl, t, _⟩ <;> rfl
theorem DenF.top (h : DenF B w d P) {M : Mp} : L3.top M d = d := by
  rcases h with ⟨rfl, _⟩ | ⟨S, rfl, t, _⟩ <;> rfl
/-- a step's relation looks at its own values alone -/
def Loc (w : Nat) (R : Rel) : Prop := ∀ a a' b b', (∀ i, i < w → a i = a' i) → (∀ i, i < w → b i = b' i) → R a b → R a' b'
end
/-- first R, then R' -/
def comp (R R' : Rel) : Rel := fun a b => ∃ m, R a m ∧ R' m b
def eqW (w : Nat) : Rel := fun a b => ∀ i, i < w → a i = b i
def iter (w : Nat) (R : Rel) : Nat → Rel
  | 0 => eqW w
  | n + 1 => comp R (iter w R n)
end L3
set_option Elab.async false
set_option linter.all false
set_option maxRecDepth 100000
set_option maxHeartbeats 4000000
namespace L3
open PySem PySem.Spec PyProof.Rows L2
end L3
set_option Elab.async false
set_option linter.all false
set_option maxRecDepth 100000
set_option maxHeartbeats 4000000
namespace L3
open PySem PySem.Spec PyProof.Rows L2
end L3
set_option Elab.async false
set_option linter.all false
set_option maxRecDepth 100000
set_option maxHeartbeats 4000000
namespace L3
open PySem PySem.Spec PyProof.Rows L2
end L3
set_option Elab.async false
set_option linter.all false
set_option maxRecDepth 100000
set_option maxHeartbeats 4000000
namespace L3
open PySem PySem.Spec PyProof.Rows L2
theorem NilOr.pl {d : D} (h : NilOr d) : Pl d := by
  rcases h with rfl | ⟨n, T, rfl, _, _⟩
  · rw [pl_nil]; trivial
  · exact pl_tab
theorem DenS.nil {B w : Nat} {d : D} {R : Rel} (h : DenS B w d R) (no : ∀ a b, ¬ R a b) : d = .tup [] := by
  rcases h with ⟨rfl, _⟩ | ⟨S, _, _, cl, h⟩
  · rfl
  · obtain ⟨a, b, m⟩ := some_enc cl.some
    exact absurd ((h a b).mpr m) (no a b)
theorem DenF.nil {B w : Nat} {d : D} {P : Vl → Prop} (h : DenF B w d P) (no : ∀ a, ¬ P a) : d = .tup [] := by
  rcases h with ⟨rfl, _⟩ | ⟨S, _, _, cl, h⟩
  · rfl
  · obtain ⟨a, m⟩ := some_encF cl.some
    exact absurd ((h a).mpr m) (no a)
theorem DenS.sh {B w : Nat} {d : D} {R : Rel} (h : DenS B w d R) (hB : B ≤ 10 ^ 100) (hw : w ≤ 40) : Sh d := (h.tm hB).fits (by decide) (Nat.le_trans (Nat.mul_le_mul (show 2 * w + 1 ≤ 81 by omega) (show 2 * w + 1 + 1 ≤ 82 by omega)) (by decide))
theorem DenF.sh {B w : Nat} {d : D} {P : Vl → Prop} (h : DenF B w d P) (hB : B ≤ 10 ^ 100) (hw : w ≤ 40) : Sh d := (h.tm hB).fits (by decide) (Nat.le_trans (Nat.mul_le_mul (show w + 1 ≤ 41 by omega) (show w + 1 + 1 ≤ 42 by omega)) (by decide))
end L3
set_option Elab.async false
set_option linter.all false
set_option maxRecDepth 100000
set_option maxHeartbeats 4000000
namespace L3
open PySem PySem.Spec PyProof.Rows L2
def TsB (n b : Nat) (ts : List Trip) : Prop := ∀ t ∈ ts, In2 n t ∧ t.2.2.natAbs ≤ b
theorem TsB.ok {n b : Nat} {ts : List Trip} (h : TsB n b ts) (hb : b < 100) : TsOk n ts := fun t ht => ⟨(h t ht).1, by have := (h t ht).2; omega⟩
theorem TsB.app {n b : Nat} {ts us : List Trip} (h : TsB n b ts) (h2 : TsB n b us) : TsB n b (ts ++ us) := fun t ht => (List.mem_append.mp ht).elim (h t) (h2 t)
theorem TsB.rep {n b k : Nat} {t : Trip} (h : In2 n t ∧ t.2.2.natAbs ≤ b) : TsB n b (List.replicate k t) := fun x hx => by rw [List.eq_of_mem_replicate hx]; exact h
end L3
set_option Elab.async false
set_option linter.all false
set_option maxRecDepth 100000
set_option maxHeartbeats 4000000
namespace L3
open PySem PySem.Spec PyProof.Rows L2
end L3
set_option Elab.async false
set_option linter.all false
set_option maxRecDepth 100000
set_option maxHeartbeats 4000000
namespace L3
open PySem PySem.Spec PyProof.Rows L2
end L3
set_option Elab.async false
set_option linter.all false
set_option maxRecDepth 100000
set_option maxHeartbeats 4000000
namespace L3
open PySem PySem.Spec PyProof.Rows L2
/-- a holds cells and three numbers, the last one at most b -/
def Fd (b : Nat) (M : Mp) (a : Addr) : Prop := ∃ (cs : List Int) (i : Nat) (g : Int) (n : Nat), n ≤ b ∧ M a = some (.lst [.rol (cs.map D.int), .int i, .int g, .int n])
theorem Fd.mono {b c : Nat} {M : Mp} {a : Addr} (f : Fd b M a) (h : b ≤ c) : Fd c M a := by
  obtain ⟨cs, i, g, n, hn, e⟩ := f
  exact ⟨cs, i, g, n, by omega, e⟩
theorem Fd.put {b : Nat} {a f : Addr} {M : Mp} {o : MO} (x : Fd b M a) (h : f ≠ a) : Fd b (mset M f o) a := by
  obtain ⟨cs, i, g, n, hn, e⟩ := x
  exact ⟨cs, i, g, n, hn, by rw [mset_ne (Ne.symm h)]; exact e⟩
theorem Fd.ne {b : Nat} {a f : Addr} {M : Mp} (x : Fd b M a) (h : M f = none) : f ≠ a := by
  obtain ⟨cs, i, g, n, hn, e⟩ := x
  exact fun z => by rw [z, e] at h; cases h
def feedR : XK3 → TS3 := fun E =>
  (wRet (wLst (wCons (wSlF (wVar 0) wNoPart (wPart (wC (.int 63)))) (wCons (wC (.int 0)) (wCons (wC (.int 0)) (wCons (wC (.int 0)) wNil))))))
def SFeed7 (sp : Sp3) : Prop := ∀ (ns : List Int) (M : Mp) (Q : VK3) (E : XK3), (∀ a M', M a = none → Fd 0 M' a → Only a M M' → Q (.ref a) M') → sp [.rol (ns.map D.int)] M Q E
theorem cut_map {ns : List Int} {lo hi : Option Int} : cutD (ns.map D.int) lo hi = ((ns.drop (HT.sIx ns.length 0 lo)).take (HT.sIx ns.length ns.length hi - HT.sIx ns.length 0 lo)).map D.int := by
  unfold cutD; rw [List.length_map, List.map_take, List.map_drop]
theorem s_feed7 : SFeed7 (spOf 1 1 feedR) := by
  refine fun ns M Q E q => ⟨rfl, ?_⟩
  show feedR E _ [some (.rol (ns.map D.int))] M
  unfold feedR
  rw [st_ret]
  simp only [ex_c, ex_var, ex_op, ex_un, ex_b, ex_and, ex_or, ex_not, ex_andV, ex_orV, ex_notV, ex_if, ex_chain, ex_nil, ex_cons, ex_tup, ex_lst, ex_call, ex_callP, ex_cb, ex_bm, ex_rep, ex_sl, ex_noPart, ex_part, ex_yes, it_items, it_rng1, it_rng2, tg_name, tg_sub, tg_tup, tg_cons, tg_nil, gs_0, gs_s, ss_0, ss_s, op_ii, op_ss, op_tt, op_mm, op_sb, op_ng, op_iNf, op_iNt, op_lle, op_ixT, op_ixR, op_ixL, op_putE, op_appE, it_tupE, it_rolE, it_refE, lstOf_l, exL, asS_some, asI_int, asB_bl, asL_some, asN_some, ite3_t, ite3_f, bl_1, bl_lenT, bl_lenR, bl_lenL, bl_lenS, bl_tuple, bl_list, bl_abs, bl_intI, bl_intB, bl_max, bl_min, op_eqSf, op_eqSt, op_eqIf, op_eqIt, op_eqTf, op_eqTt, op_eqRf, op_eqRt, op_eqNf, op_eqNt, eqD_int, eqD_nil, pl_int, pl_nil, pl_non, pl_rnil, pl_bl, sl_tupE, sl_rolE, keep_ref, keep_tup, keep_rol, tp_int, tp_tup, tp_rol, tp_str, tp_bl, tp_non, tp_ref, oFd, oMd, oPw, oShl, oLt, oLe, oGt, oGe, op_in, op_cp, wipe_nil, wipe_cons, mset_same, true_and, and_true, isN_int, ex_lstF, ex_repF, ex_lgF1, ex_lgF2, ex_tupRg1, ex_tupRg2, ex_frz, ex_slF, ex_slM, sl_tupF, sl_rolF, op_iiF, op_ssF, op_ttF, op_rrF, op_rrM, op_mmF, op_repF, li_rol, li_ref, bl_listF, bl_allF, bl_anyF, asT_some, asJ_some, op_eqBf, op_eqBt, isN_non, Bool.not_true, Bool.not_false, rep2]
  obtain ⟨cs, hc⟩ : ∃ cs : List Int, cutD (ns.map D.int) none (some 63) = cs.map D.int := ⟨_, cut_map⟩
  rw [hc]
  exact ⟨by show 4 ≤ sizeLine; decide, fun p hp => q p _ hp ⟨cs, 0, 0, 0, Nat.le_refl _, mset_same⟩ (Only.refl.set)⟩
def drawR : XK3 → TS3 := fun E =>
  (wSeq (wAsg (wOp oAddF (wOp oIx (wVar 0) (wC (.int 3))) (wC (.int 1))) (wgSub (wVar 0) (wC (.int 3)) oPut))
  (wSeq (wIfS (wB (wOp oGt (wOp oIx (wVar 0) (wC (.int 2))) (wC (.int 0)))) (wSeq (wSet 2 (wOp oMd (wOp oIx (wVar 0) (wC (.int 2))) (wVar 1)))
  (wSeq (wAsg (wOp oFd (wOp oIx (wVar 0) (wC (.int 2))) (wVar 1)) (wgSub (wVar 0) (wC (.int 2)) oPut))
  (wRet (wVar 2)))) wNext)
  (wSeq (wSet 3 (wC (.int 17)))
  (wSeq (wIfS (wB (wOp (oEq true) (wOp oIx (wVar 0) (wC (.int 0))) (wLstF wNil))) (wSet 3 (wOp oIx (wOp oIx (wVar 0) (wC (.int 0))) (wOp oMd (wOp oIx (wVar 0) (wC (.int 1))) (wCB bLen (wCons (wOp oIx (wVar 0) (wC (.int 0))) wNil))))) wNext)
  (wSeq (wAsg (wOp oAddF (wOp oIx (wVar 0) (wC (.int 1))) (wC (.int 1))) (wgSub (wVar 0) (wC (.int 1)) oPut))
  (wSeq (wIfS (wAnd (wB (wOp oGe (wVar 3) (wOp oPw (wC (.int 10)) (wC (.int 18))))) (wB (wOp oLe (wOp oIx (wVar 0) (wC (.int 1))) (wCB bLen (wCons (wOp oIx (wVar 0) (wC (.int 0))) wNil))))) (wSeq (wAsg (wOp oFd (wVar 3) (wVar 1)) (wgSub (wVar 0) (wC (.int 2)) oPut))
  (wRet (wOp oMd (wVar 3) (wVar 1)))) wNext)
  (wSeq (wSet 4 (wOp oMd (wOp oPw (wOp oAddF (wOp oMd (wVar 3) (wC (.int 2147483629))) (wOp oMulF (wC (.int 104729)) (wOp oIx (wVar 0) (wC (.int 3))))) (wC (.int 5))) (wC (.int 2147483647))))
  (wSeq (wSet 4 (wOp oMd (wOp oPw (wOp oAddF (wOp oMulF (wVar 4) (wOp oAddF (wOp oMulF (wC (.int 2)) (wOp oIx (wVar 0) (wC (.int 3)))) (wC (.int 1)))) (wC (.int 7919))) (wC (.int 3))) (wC (.int 2147483587))))
  (wRet (wOp oMd (wOp oFd (wVar 4) (wC (.int 64))) (wVar 1)))))))))))
def SDraw7 (sp : Sp3) : Prop := ∀ (a : Addr) (b : Nat) (n : Int) (M : Mp) (Q : VK3) (E : XK3), Fd b M a → b < 2 ^ 30 → 0 < n → n < 2 ^ 200 → (∀ r M', 0 ≤ r → r < n → Fd (b + 1) M' a → Only a M M' → Q (.int r) M') → sp [.ref a, .int n] M Q E
theorem at_40 {x y z w : D} : atI [x, y, z, w] 0 = some x := rfl
theorem at_41 {x y z w : D} : atI [x, y, z, w] 1 = some y := rfl
theorem at_42 {x y z w : D} : atI [x, y, z, w] 2 = some z := rfl
theorem at_43 {x y z w : D} : atI [x, y, z, w] 3 = some w := rfl
theorem ix_41 {x y z w : D} : ixN [x, y, z, w].length 1 = some 1 := rfl
theorem ix_42 {x y z w : D} : ixN [x, y, z, w].length 2 = some 2 := rfl
theorem ix_43 {x y z w : D} : ixN [x, y, z, w].length 3 = some 3 := rfl
theorem set_41 {x y z w v : D} : [x, y, z, w].set 1 v = [x, v, z, w] := rfl
theorem set_42 {x y z w v : D} : [x, y, z, w].set 2 v = [x, y, v, w] := rfl
theorem set_43 {x y z w v : D} : [x, y, z, w].set 3 v = [x, y, z, v] := rfl
theorem ints_row (cs : List Int) : cs.map D.int = (cs.map some).map oD := by rw [List.map_map]; rfl
theorem pl_ints {cs : List Int} : Pl (.rol (cs.map D.int)) := by rw [ints_row]; exact pl_row
/-- where the draw ends by powers -/
theorem draw_end {a : Addr} {b : Nat} {n : Int} {cs : List Int} {i k : Nat} {g x : Int} {M0 M : Mp} {Q : VK3} {x2 x4 : Option D} (hb : k ≤ b) (hb1 : b ≤ 2 ^ 30) (h0 : 0 < n) (hn : n < 2 ^ 200) (hM : M a = some (.lst [.rol (cs.map D.int), .int i, .int g, .int k])) (o : Only a M0 M)
    (q : ∀ r M', 0 ≤ r → r < n → Fd b M' a → Only a M0 M' → Q (.int r) M') {K : Ends3} (hK : K.rt = Q) :
    (wSeq (wSet 4 (wOp oMd (wOp oPw (wOp oAddF (wOp oMd (wVar 3) (wC (.int 2147483629))) (wOp oMulF (wC (.int 104729)) (wOp oIx (wVar 0) (wC (.int 3))))) (wC (.int 5))) (wC (.int 2147483647))))
      (wSeq (wSet 4 (wOp oMd (wOp oPw (wOp oAddF (wOp oMulF (wVar 4) (wOp oAddF (wOp oMulF (wC (.int 2)) (wOp oIx (wVar 0) (wC (.int 3)))) (wC (.int 1)))) (wC (.int 7919))) (wC (.int 3))) (wC (.int 2147483587))))
      (wRet (wOp oMd (wOp oFd (wVar 4) (wC (.int 64))) (wVar 1))))) K [some (.ref a), some (.int n), x2, some (.int x), x4] M := by
  have b1 := md_in (x := x) (n := 2147483629) (by decide)
  rw [st_seq, st_set]
  simp only [ex_c, ex_var, ex_op, ex_un, ex_b, ex_and, ex_or, ex_not, ex_andV, ex_orV, ex_notV, ex_if, ex_chain, ex_nil, ex_cons, ex_tup, ex_lst, ex_call, ex_callP, ex_cb, ex_bm, ex_rep, ex_sl, ex_noPart, ex_part, ex_yes, it_items, it_rng1, it_rng2, tg_name, tg_sub, tg_tup, tg_cons, tg_nil, gs_0, gs_s, ss_0, ss_s, op_ii, op_ss, op_tt, op_mm, op_sb, op_ng, op_iNf, op_iNt, op_lle, op_ixT, op_ixR, op_ixL, op_putE, op_appE, it_tupE, it_rolE, it_refE, lstOf_l, exL, asS_some, asI_int, asB_bl, asL_some, asN_some, ite3_t, ite3_f, bl_1, bl_lenT, bl_lenR, bl_lenL, bl_lenS, bl_tuple, bl_list, bl_abs, bl_intI, bl_intB, bl_max, bl_min, op_eqSf, op_eqSt, op_eqIf, op_eqIt, op_eqTf, op_eqTt, op_eqRf, op_eqRt, op_eqNf, op_eqNt, eqD_int, eqD_nil, pl_int, pl_nil, pl_non, pl_rnil, pl_bl, sl_tupE, sl_rolE, keep_ref, keep_tup, keep_rol, tp_int, tp_tup, tp_rol, tp_str, tp_bl, tp_non, tp_ref, oFd, oMd, oPw, oShl, oLt, oLe, oGt, oGe, op_in, op_cp, wipe_nil, wipe_cons, mset_same, true_and, and_true, isN_int, ex_lstF, ex_repF, ex_lgF1, ex_lgF2, ex_tupRg1, ex_tupRg2, ex_frz, ex_slF, ex_slM, sl_tupF, sl_rolF, op_iiF, op_ssF, op_ttF, op_rrF, op_rrM, op_mmF, op_repF, li_rol, li_ref, bl_listF, bl_allF, bl_anyF, asT_some, asJ_some, op_eqBf, op_eqBt, isN_non, Bool.not_true, Bool.not_false, rep2, hM, at_43]
  refine ⟨by decide, mulR (by omega) (by omega), ⟨by decide, by decide, by omega⟩, by decide, ?_⟩
  generalize (x.fmod 2147483629 + 104729 * (k : Int)) ^ (5 : Int).toNat = y
  have b2 := md_in (x := y) (n := 2147483647) (by decide)
  try dsimp only
  rw [st_seq, st_set]
  simp only [ex_c, ex_var, ex_op, ex_un, ex_b, ex_and, ex_or, ex_not, ex_andV, ex_orV, ex_notV, ex_if, ex_chain, ex_nil, ex_cons, ex_tup, ex_lst, ex_call, ex_callP, ex_cb, ex_bm, ex_rep, ex_sl, ex_noPart, ex_part, ex_yes, it_items, it_rng1, it_rng2, tg_name, tg_sub, tg_tup, tg_cons, tg_nil, gs_0, gs_s, ss_0, ss_s, op_ii, op_ss, op_tt, op_mm, op_sb, op_ng, op_iNf, op_iNt, op_lle, op_ixT, op_ixR, op_ixL, op_putE, op_appE, it_tupE, it_rolE, it_refE, lstOf_l, exL, asS_some, asI_int, asB_bl, asL_some, asN_some, ite3_t, ite3_f, bl_1, bl_lenT, bl_lenR, bl_lenL, bl_lenS, bl_tuple, bl_list, bl_abs, bl_intI, bl_intB, bl_max, bl_min, op_eqSf, op_eqSt, op_eqIf, op_eqIt, op_eqTf, op_eqTt, op_eqRf, op_eqRt, op_eqNf, op_eqNt, eqD_int, eqD_nil, pl_int, pl_nil, pl_non, pl_rnil, pl_bl, sl_tupE, sl_rolE, keep_ref, keep_tup, keep_rol, tp_int, tp_tup, tp_rol, tp_str, tp_bl, tp_non, tp_ref, oFd, oMd, oPw, oShl, oLt, oLe, oGt, oGe, op_in, op_cp, wipe_nil, wipe_cons, mset_same, true_and, and_true, isN_int, ex_lstF, ex_repF, ex_lgF1, ex_lgF2, ex_tupRg1, ex_tupRg2, ex_frz, ex_slF, ex_slM, sl_tupF, sl_rolF, op_iiF, op_ssF, op_ttF, op_rrF, op_rrM, op_mmF, op_repF, li_rol, li_ref, bl_listF, bl_allF, bl_anyF, asT_some, asJ_some, op_eqBf, op_eqBt, isN_non, Bool.not_true, Bool.not_false, rep2, hM, at_43]
  generalize hy : y.fmod 2147483647 = z at b2
  have b4 : z * (2 * (k : Int) + 1) ≤ 2147483647 * (2 * 2 ^ 30 + 1) := Int.mul_le_mul (by omega) (by omega) (by omega) (by decide)
  have b5 : 0 ≤ z * (2 * (k : Int) + 1) := Int.mul_nonneg b2.1 (by omega)
  refine ⟨mulR (by omega) (by omega), mulL b2.1 (by omega), ⟨by decide, by decide, by omega⟩, by decide, ?_⟩
  generalize (z * (2 * (k : Int) + 1) + 7919) ^ (3 : Int).toNat = u
  try dsimp only
  rw [st_ret]
  simp only [ex_c, ex_var, ex_op, ex_un, ex_b, ex_and, ex_or, ex_not, ex_andV, ex_orV, ex_notV, ex_if, ex_chain, ex_nil, ex_cons, ex_tup, ex_lst, ex_call, ex_callP, ex_cb, ex_bm, ex_rep, ex_sl, ex_noPart, ex_part, ex_yes, it_items, it_rng1, it_rng2, tg_name, tg_sub, tg_tup, tg_cons, tg_nil, gs_0, gs_s, ss_0, ss_s, op_ii, op_ss, op_tt, op_mm, op_sb, op_ng, op_iNf, op_iNt, op_lle, op_ixT, op_ixR, op_ixL, op_putE, op_appE, it_tupE, it_rolE, it_refE, lstOf_l, exL, asS_some, asI_int, asB_bl, asL_some, asN_some, ite3_t, ite3_f, bl_1, bl_lenT, bl_lenR, bl_lenL, bl_lenS, bl_tuple, bl_list, bl_abs, bl_intI, bl_intB, bl_max, bl_min, op_eqSf, op_eqSt, op_eqIf, op_eqIt, op_eqTf, op_eqTt, op_eqRf, op_eqRt, op_eqNf, op_eqNt, eqD_int, eqD_nil, pl_int, pl_nil, pl_non, pl_rnil, pl_bl, sl_tupE, sl_rolE, keep_ref, keep_tup, keep_rol, tp_int, tp_tup, tp_rol, tp_str, tp_bl, tp_non, tp_ref, oFd, oMd, oPw, oShl, oLt, oLe, oGt, oGe, op_in, op_cp, wipe_nil, wipe_cons, mset_same, true_and, and_true, isN_int, ex_lstF, ex_repF, ex_lgF1, ex_lgF2, ex_tupRg1, ex_tupRg2, ex_frz, ex_slF, ex_slM, sl_tupF, sl_rolF, op_iiF, op_ssF, op_ttF, op_rrF, op_rrM, op_mmF, op_repF, li_rol, li_ref, bl_listF, bl_allF, bl_anyF, asT_some, asJ_some, op_eqBf, op_eqBt, isN_non, Bool.not_true, Bool.not_false, rep2]
  rw [hK]
  exact ⟨⟨by decide, by decide⟩, by omega, q _ _ (md_in h0).1 (md_in h0).2 ⟨_, _, _, _, hb, hM⟩ o⟩
theorem s_draw7 : SDraw7 (spOf 2 5 drawR) := by
  intro a b n M Q E f hb h0 hn q
  obtain ⟨cs, i, g, k, hk, hM⟩ := f
  refine ⟨rfl, ?_⟩
  show drawR E _ [some (.ref a), some (.int n), none, none, none] M
  unfold drawR
  have hn0 : n ≠ 0 := by omega
  have fo : ∀ x, CFd x n := fun x => by
    have e : n.natAbs ≠ 0 := by omega
    have h2 : n.natAbs < 2 ^ 200 := by omega
    have := (Nat.log2_lt e (k := 200)).mpr h2
    exact ⟨hn0, by omega⟩
  have ek : (k : Int) + 1 = ((k + 1 : Nat) : Int) := by omega
  rw [st_seq, st_asg]
  simp only [ex_c, ex_var, ex_op, ex_un, ex_b, ex_and, ex_or, ex_not, ex_andV, ex_orV, ex_notV, ex_if, ex_chain, ex_nil, ex_cons, ex_tup, ex_lst, ex_call, ex_callP, ex_cb, ex_bm, ex_rep, ex_sl, ex_noPart, ex_part, ex_yes, it_items, it_rng1, it_rng2, tg_name, tg_sub, tg_tup, tg_cons, tg_nil, gs_0, gs_s, ss_0, ss_s, op_ii, op_ss, op_tt, op_mm, op_sb, op_ng, op_iNf, op_iNt, op_lle, op_ixT, op_ixR, op_ixL, op_putE, op_appE, it_tupE, it_rolE, it_refE, lstOf_l, exL, asS_some, asI_int, asB_bl, asL_some, asN_some, ite3_t, ite3_f, bl_1, bl_lenT, bl_lenR, bl_lenL, bl_lenS, bl_tuple, bl_list, bl_abs, bl_intI, bl_intB, bl_max, bl_min, op_eqSf, op_eqSt, op_eqIf, op_eqIt, op_eqTf, op_eqTt, op_eqRf, op_eqRt, op_eqNf, op_eqNt, eqD_int, eqD_nil, pl_int, pl_nil, pl_non, pl_rnil, pl_bl, sl_tupE, sl_rolE, keep_ref, keep_tup, keep_rol, tp_int, tp_tup, tp_rol, tp_str, tp_bl, tp_non, tp_ref, oFd, oMd, oPw, oShl, oLt, oLe, oGt, oGe, op_in, op_cp, wipe_nil, wipe_cons, mset_same, true_and, and_true, isN_int, ex_lstF, ex_repF, ex_lgF1, ex_lgF2, ex_tupRg1, ex_tupRg2, ex_frz, ex_slF, ex_slM, sl_tupF, sl_rolF, op_iiF, op_ssF, op_ttF, op_rrF, op_rrM, op_mmF, op_repF, li_rol, li_ref, bl_listF, bl_allF, bl_anyF, asT_some, asJ_some, op_eqBf, op_eqBt, isN_non, Bool.not_true, Bool.not_false, rep2, hM, at_43, ek, ix_43, set_43]
  have hM1 : mset M a (MO.lst [.rol (cs.map D.int), .int i, .int g, .int ((k + 1 : Nat) : Int)]) a = some (.lst [.rol (cs.map D.int), .int i, .int g, .int ((k + 1 : Nat) : Int)]) := mset_same
  have o1 : Only a M (mset M a (MO.lst [.rol (cs.map D.int), .int i, .int g, .int ((k + 1 : Nat) : Int)])) := Only.refl.set
  generalize mset M a (MO.lst [.rol (cs.map D.int), .int i, .int g, .int ((k + 1 : Nat) : Int)]) = M1 at hM1 o1
  try dsimp only
  rw [st_seq, st_if]
  simp only [ex_c, ex_var, ex_op, ex_un, ex_b, ex_and, ex_or, ex_not, ex_andV, ex_orV, ex_notV, ex_if, ex_chain, ex_nil, ex_cons, ex_tup, ex_lst, ex_call, ex_callP, ex_cb, ex_bm, ex_rep, ex_sl, ex_noPart, ex_part, ex_yes, it_items, it_rng1, it_rng2, tg_name, tg_sub, tg_tup, tg_cons, tg_nil, gs_0, gs_s, ss_0, ss_s, op_ii, op_ss, op_tt, op_mm, op_sb, op_ng, op_iNf, op_iNt, op_lle, op_ixT, op_ixR, op_ixL, op_putE, op_appE, it_tupE, it_rolE, it_refE, lstOf_l, exL, asS_some, asI_int, asB_bl, asL_some, asN_some, ite3_t, ite3_f, bl_1, bl_lenT, bl_lenR, bl_lenL, bl_lenS, bl_tuple, bl_list, bl_abs, bl_intI, bl_intB, bl_max, bl_min, op_eqSf, op_eqSt, op_eqIf, op_eqIt, op_eqTf, op_eqTt, op_eqRf, op_eqRt, op_eqNf, op_eqNt, eqD_int, eqD_nil, pl_int, pl_nil, pl_non, pl_rnil, pl_bl, sl_tupE, sl_rolE, keep_ref, keep_tup, keep_rol, tp_int, tp_tup, tp_rol, tp_str, tp_bl, tp_non, tp_ref, oFd, oMd, oPw, oShl, oLt, oLe, oGt, oGe, op_in, op_cp, wipe_nil, wipe_cons, mset_same, true_and, and_true, isN_int, ex_lstF, ex_repF, ex_lgF1, ex_lgF2, ex_tupRg1, ex_tupRg2, ex_frz, ex_slF, ex_slM, sl_tupF, sl_rolF, op_iiF, op_ssF, op_ttF, op_rrF, op_rrM, op_mmF, op_repF, li_rol, li_ref, bl_listF, bl_allF, bl_anyF, asT_some, asJ_some, op_eqBf, op_eqBt, isN_non, Bool.not_true, Bool.not_false, rep2, hM1, at_42]
  refine ite3_by (fun hg => ?_) (fun hg => ?_)
  · rw [st_seq, st_set]
    simp only [ex_c, ex_var, ex_op, ex_un, ex_b, ex_and, ex_or, ex_not, ex_andV, ex_orV, ex_notV, ex_if, ex_chain, ex_nil, ex_cons, ex_tup, ex_lst, ex_call, ex_callP, ex_cb, ex_bm, ex_rep, ex_sl, ex_noPart, ex_part, ex_yes, it_items, it_rng1, it_rng2, tg_name, tg_sub, tg_tup, tg_cons, tg_nil, gs_0, gs_s, ss_0, ss_s, op_ii, op_ss, op_tt, op_mm, op_sb, op_ng, op_iNf, op_iNt, op_lle, op_ixT, op_ixR, op_ixL, op_putE, op_appE, it_tupE, it_rolE, it_refE, lstOf_l, exL, asS_some, asI_int, asB_bl, asL_some, asN_some, ite3_t, ite3_f, bl_1, bl_lenT, bl_lenR, bl_lenL, bl_lenS, bl_tuple, bl_list, bl_abs, bl_intI, bl_intB, bl_max, bl_min, op_eqSf, op_eqSt, op_eqIf, op_eqIt, op_eqTf, op_eqTt, op_eqRf, op_eqRt, op_eqNf, op_eqNt, eqD_int, eqD_nil, pl_int, pl_nil, pl_non, pl_rnil, pl_bl, sl_tupE, sl_rolE, keep_ref, keep_tup, keep_rol, tp_int, tp_tup, tp_rol, tp_str, tp_bl, tp_non, tp_ref, oFd, oMd, oPw, oShl, oLt, oLe, oGt, oGe, op_in, op_cp, wipe_nil, wipe_cons, mset_same, true_and, and_true, isN_int, ex_lstF, ex_repF, ex_lgF1, ex_lgF2, ex_tupRg1, ex_tupRg2, ex_frz, ex_slF, ex_slM, sl_tupF, sl_rolF, op_iiF, op_ssF, op_ttF, op_rrF, op_rrM, op_mmF, op_repF, li_rol, li_ref, bl_listF, bl_allF, bl_anyF, asT_some, asJ_some, op_eqBf, op_eqBt, isN_non, Bool.not_true, Bool.not_false, rep2, hM1, at_42]
    refine ⟨hn0, ?_⟩
    try dsimp only
    rw [st_seq, st_asg]
    simp only [ex_c, ex_var, ex_op, ex_un, ex_b, ex_and, ex_or, ex_not, ex_andV, ex_orV, ex_notV, ex_if, ex_chain, ex_nil, ex_cons, ex_tup, ex_lst, ex_call, ex_callP, ex_cb, ex_bm, ex_rep, ex_sl, ex_noPart, ex_part, ex_yes, it_items, it_rng1, it_rng2, tg_name, tg_sub, tg_tup, tg_cons, tg_nil, gs_0, gs_s, ss_0, ss_s, op_ii, op_ss, op_tt, op_mm, op_sb, op_ng, op_iNf, op_iNt, op_lle, op_ixT, op_ixR, op_ixL, op_putE, op_appE, it_tupE, it_rolE, it_refE, lstOf_l, exL, asS_some, asI_int, asB_bl, asL_some, asN_some, ite3_t, ite3_f, bl_1, bl_lenT, bl_lenR, bl_lenL, bl_lenS, bl_tuple, bl_list, bl_abs, bl_intI, bl_intB, bl_max, bl_min, op_eqSf, op_eqSt, op_eqIf, op_eqIt, op_eqTf, op_eqTt, op_eqRf, op_eqRt, op_eqNf, op_eqNt, eqD_int, eqD_nil, pl_int, pl_nil, pl_non, pl_rnil, pl_bl, sl_tupE, sl_rolE, keep_ref, keep_tup, keep_rol, tp_int, tp_tup, tp_rol, tp_str, tp_bl, tp_non, tp_ref, oFd, oMd, oPw, oShl, oLt, oLe, oGt, oGe, op_in, op_cp, wipe_nil, wipe_cons, mset_same, true_and, and_true, isN_int, ex_lstF, ex_repF, ex_lgF1, ex_lgF2, ex_tupRg1, ex_tupRg2, ex_frz, ex_slF, ex_slM, sl_tupF, sl_rolF, op_iiF, op_ssF, op_ttF, op_rrF, op_rrM, op_mmF, op_repF, li_rol, li_ref, bl_listF, bl_allF, bl_anyF, asT_some, asJ_some, op_eqBf, op_eqBt, isN_non, Bool.not_true, Bool.not_false, rep2, hM1, at_42, ix_42, set_42]
    refine ⟨fo _, ?_⟩
    try dsimp only
    rw [st_ret]
    simp only [ex_c, ex_var, ex_op, ex_un, ex_b, ex_and, ex_or, ex_not, ex_andV, ex_orV, ex_notV, ex_if, ex_chain, ex_nil, ex_cons, ex_tup, ex_lst, ex_call, ex_callP, ex_cb, ex_bm, ex_rep, ex_sl, ex_noPart, ex_part, ex_yes, it_items, it_rng1, it_rng2, tg_name, tg_sub, tg_tup, tg_cons, tg_nil, gs_0, gs_s, ss_0, ss_s, op_ii, op_ss, op_tt, op_mm, op_sb, op_ng, op_iNf, op_iNt, op_lle, op_ixT, op_ixR, op_ixL, op_putE, op_appE, it_tupE, it_rolE, it_refE, lstOf_l, exL, asS_some, asI_int, asB_bl, asL_some, asN_some, ite3_t, ite3_f, bl_1, bl_lenT, bl_lenR, bl_lenL, bl_lenS, bl_tuple, bl_list, bl_abs, bl_intI, bl_intB, bl_max, bl_min, op_eqSf, op_eqSt, op_eqIf, op_eqIt, op_eqTf, op_eqTt, op_eqRf, op_eqRt, op_eqNf, op_eqNt, eqD_int, eqD_nil, pl_int, pl_nil, pl_non, pl_rnil, pl_bl, sl_tupE, sl_rolE, keep_ref, keep_tup, keep_rol, tp_int, tp_tup, tp_rol, tp_str, tp_bl, tp_non, tp_ref, oFd, oMd, oPw, oShl, oLt, oLe, oGt, oGe, op_in, op_cp, wipe_nil, wipe_cons, mset_same, true_and, and_true, isN_int, ex_lstF, ex_repF, ex_lgF1, ex_lgF2, ex_tupRg1, ex_tupRg2, ex_frz, ex_slF, ex_slM, sl_tupF, sl_rolF, op_iiF, op_ssF, op_ttF, op_rrF, op_rrM, op_mmF, op_repF, li_rol, li_ref, bl_listF, bl_allF, bl_anyF, asT_some, asJ_some, op_eqBf, op_eqBt, isN_non, Bool.not_true, Bool.not_false, rep2]
    exact q _ _ (md_in h0).1 (md_in h0).2 ⟨cs, i, _, k + 1, by omega, mset_same⟩ (o1.trans Only.refl.set)
  · rw [st_next]
    try dsimp only
    rw [st_seq, st_set]
    simp only [ex_c, ex_var, ex_op, ex_un, ex_b, ex_and, ex_or, ex_not, ex_andV, ex_orV, ex_notV, ex_if, ex_chain, ex_nil, ex_cons, ex_tup, ex_lst, ex_call, ex_callP, ex_cb, ex_bm, ex_rep, ex_sl, ex_noPart, ex_part, ex_yes, it_items, it_rng1, it_rng2, tg_name, tg_sub, tg_tup, tg_cons, tg_nil, gs_0, gs_s, ss_0, ss_s, op_ii, op_ss, op_tt, op_mm, op_sb, op_ng, op_iNf, op_iNt, op_lle, op_ixT, op_ixR, op_ixL, op_putE, op_appE, it_tupE, it_rolE, it_refE, lstOf_l, exL, asS_some, asI_int, asB_bl, asL_some, asN_some, ite3_t, ite3_f, bl_1, bl_lenT, bl_lenR, bl_lenL, bl_lenS, bl_tuple, bl_list, bl_abs, bl_intI, bl_intB, bl_max, bl_min, op_eqSf, op_eqSt, op_eqIf, op_eqIt, op_eqTf, op_eqTt, op_eqRf, op_eqRt, op_eqNf, op_eqNt, eqD_int, eqD_nil, pl_int, pl_nil, pl_non, pl_rnil, pl_bl, sl_tupE, sl_rolE, keep_ref, keep_tup, keep_rol, tp_int, tp_tup, tp_rol, tp_str, tp_bl, tp_non, tp_ref, oFd, oMd, oPw, oShl, oLt, oLe, oGt, oGe, op_in, op_cp, wipe_nil, wipe_cons, mset_same, true_and, and_true, isN_int, ex_lstF, ex_repF, ex_lgF1, ex_lgF2, ex_tupRg1, ex_tupRg2, ex_frz, ex_slF, ex_slM, sl_tupF, sl_rolF, op_iiF, op_ssF, op_ttF, op_rrF, op_rrM, op_mmF, op_repF, li_rol, li_ref, bl_listF, bl_allF, bl_anyF, asT_some, asJ_some, op_eqBf, op_eqBt, isN_non, Bool.not_true, Bool.not_false, rep2]
    try dsimp only
    -- from the cell on
    have rest : ∀ x : Int, wSeq (wAsg (wOp oAddF (wOp oIx (wVar 0) (wC (.int 1))) (wC (.int 1))) (wgSub (wVar 0) (wC (.int 1)) oPut))
        (wSeq (wIfS (wAnd (wB (wOp oGe (wVar 3) (wOp oPw (wC (.int 10)) (wC (.int 18))))) (wB (wOp oLe (wOp oIx (wVar 0) (wC (.int 1))) (wCB bLen (wCons (wOp oIx (wVar 0) (wC (.int 0))) wNil))))) (wSeq (wAsg (wOp oFd (wVar 3) (wVar 1)) (wgSub (wVar 0) (wC (.int 2)) oPut))
        (wRet (wOp oMd (wVar 3) (wVar 1)))) wNext)
        (wSeq (wSet 4 (wOp oMd (wOp oPw (wOp oAddF (wOp oMd (wVar 3) (wC (.int 2147483629))) (wOp oMulF (wC (.int 104729)) (wOp oIx (wVar 0) (wC (.int 3))))) (wC (.int 5))) (wC (.int 2147483647))))
        (wSeq (wSet 4 (wOp oMd (wOp oPw (wOp oAddF (wOp oMulF (wVar 4) (wOp oAddF (wOp oMulF (wC (.int 2)) (wOp oIx (wVar 0) (wC (.int 3)))) (wC (.int 1)))) (wC (.int 7919))) (wC (.int 3))) (wC (.int 2147483587))))
        (wRet (wOp oMd (wOp oFd (wVar 4) (wC (.int 64))) (wVar 1)))))) { nx := fun _ M' => Q .non M', rt := Q } [some (.ref a), some (.int n), none, some (.int x), none] M1 := fun x => by
      have ei : (i : Int) + 1 = ((i + 1 : Nat) : Int) := by omega
      rw [st_seq, st_asg]
      simp only [ex_c, ex_var, ex_op, ex_un, ex_b, ex_and, ex_or, ex_not, ex_andV, ex_orV, ex_notV, ex_if, ex_chain, ex_nil, ex_cons, ex_tup, ex_lst, ex_call, ex_callP, ex_cb, ex_bm, ex_rep, ex_sl, ex_noPart, ex_part, ex_yes, it_items, it_rng1, it_rng2, tg_name, tg_sub, tg_tup, tg_cons, tg_nil, gs_0, gs_s, ss_0, ss_s, op_ii, op_ss, op_tt, op_mm, op_sb, op_ng, op_iNf, op_iNt, op_lle, op_ixT, op_ixR, op_ixL, op_putE, op_appE, it_tupE, it_rolE, it_refE, lstOf_l, exL, asS_some, asI_int, asB_bl, asL_some, asN_some, ite3_t, ite3_f, bl_1, bl_lenT, bl_lenR, bl_lenL, bl_lenS, bl_tuple, bl_list, bl_abs, bl_intI, bl_intB, bl_max, bl_min, op_eqSf, op_eqSt, op_eqIf, op_eqIt, op_eqTf, op_eqTt, op_eqRf, op_eqRt, op_eqNf, op_eqNt, eqD_int, eqD_nil, pl_int, pl_nil, pl_non, pl_rnil, pl_bl, sl_tupE, sl_rolE, keep_ref, keep_tup, keep_rol, tp_int, tp_tup, tp_rol, tp_str, tp_bl, tp_non, tp_ref, oFd, oMd, oPw, oShl, oLt, oLe, oGt, oGe, op_in, op_cp, wipe_nil, wipe_cons, mset_same, true_and, and_true, isN_int, ex_lstF, ex_repF, ex_lgF1, ex_lgF2, ex_tupRg1, ex_tupRg2, ex_frz, ex_slF, ex_slM, sl_tupF, sl_rolF, op_iiF, op_ssF, op_ttF, op_rrF, op_rrM, op_mmF, op_repF, li_rol, li_ref, bl_listF, bl_allF, bl_anyF, asT_some, asJ_some, op_eqBf, op_eqBt, isN_non, Bool.not_true, Bool.not_false, rep2, hM1, at_41, ix_41, set_41, ei]
      have hM2 : mset M1 a (MO.lst [.rol (cs.map D.int), .int ((i + 1 : Nat) : Int), .int g, .int ((k + 1 : Nat) : Int)]) a = some (.lst [.rol (cs.map D.int), .int ((i + 1 : Nat) : Int), .int g, .int ((k + 1 : Nat) : Int)]) := mset_same
      have o2 : Only a M (mset M1 a (MO.lst [.rol (cs.map D.int), .int ((i + 1 : Nat) : Int), .int g, .int ((k + 1 : Nat) : Int)])) := o1.trans Only.refl.set
      generalize mset M1 a (MO.lst [.rol (cs.map D.int), .int ((i + 1 : Nat) : Int), .int g, .int ((k + 1 : Nat) : Int)]) = M2 at hM2 o2
      have fin : ∀ x2 x4, wSeq (wSet 4 (wOp oMd (wOp oPw (wOp oAddF (wOp oMd (wVar 3) (wC (.int 2147483629))) (wOp oMulF (wC (.int 104729)) (wOp oIx (wVar 0) (wC (.int 3))))) (wC (.int 5))) (wC (.int 2147483647))))
        (wSeq (wSet 4 (wOp oMd (wOp oPw (wOp oAddF (wOp oMulF (wVar 4) (wOp oAddF (wOp oMulF (wC (.int 2)) (wOp oIx (wVar 0) (wC (.int 3)))) (wC (.int 1)))) (wC (.int 7919))) (wC (.int 3))) (wC (.int 2147483587))))
        (wRet (wOp oMd (wOp oFd (wVar 4) (wC (.int 64))) (wVar 1)))) { nx := fun _ M' => Q .non M', rt := Q } [some (.ref a), some (.int n), x2, some (.int x), x4] M2 := fun x2 x4 =>
        draw_end (b := b + 1) (by omega) (by omega) h0 hn hM2 o2 q rfl
      try dsimp only
      rw [st_seq, st_if]
      simp only [ex_c, ex_var, ex_op, ex_un, ex_b, ex_and, ex_or, ex_not, ex_andV, ex_orV, ex_notV, ex_if, ex_chain, ex_nil, ex_cons, ex_tup, ex_lst, ex_call, ex_callP, ex_cb, ex_bm, ex_rep, ex_sl, ex_noPart, ex_part, ex_yes, it_items, it_rng1, it_rng2, tg_name, tg_sub, tg_tup, tg_cons, tg_nil, gs_0, gs_s, ss_0, ss_s, op_ii, op_ss, op_tt, op_mm, op_sb, op_ng, op_iNf, op_iNt, op_lle, op_ixT, op_ixR, op_ixL, op_putE, op_appE, it_tupE, it_rolE, it_refE, lstOf_l, exL, asS_some, asI_int, asB_bl, asL_some, asN_some, ite3_t, ite3_f, bl_1, bl_lenT, bl_lenR, bl_lenL, bl_lenS, bl_tuple, bl_list, bl_abs, bl_intI, bl_intB, bl_max, bl_min, op_eqSf, op_eqSt, op_eqIf, op_eqIt, op_eqTf, op_eqTt, op_eqRf, op_eqRt, op_eqNf, op_eqNt, eqD_int, eqD_nil, pl_int, pl_nil, pl_non, pl_rnil, pl_bl, sl_tupE, sl_rolE, keep_ref, keep_tup, keep_rol, tp_int, tp_tup, tp_rol, tp_str, tp_bl, tp_non, tp_ref, oFd, oMd, oPw, oShl, oLt, oLe, oGt, oGe, op_in, op_cp, wipe_nil, wipe_cons, mset_same, true_and, and_true, isN_int, ex_lstF, ex_repF, ex_lgF1, ex_lgF2, ex_tupRg1, ex_tupRg2, ex_frz, ex_slF, ex_slM, sl_tupF, sl_rolF, op_iiF, op_ssF, op_ttF, op_rrF, op_rrM, op_mmF, op_repF, li_rol, li_ref, bl_listF, bl_allF, bl_anyF, asT_some, asJ_some, op_eqBf, op_eqBt, isN_non, Bool.not_true, Bool.not_false, rep2, hM2, at_40, at_41]
      refine ⟨⟨by decide, by decide, by decide⟩, ite3_by (fun hx => ?_) (fun hx => ?_)⟩
      · refine ite3_by (fun hy => ?_) (fun hy => ?_)
        · rw [st_seq, st_asg]
          simp only [ex_c, ex_var, ex_op, ex_un, ex_b, ex_and, ex_or, ex_not, ex_andV, ex_orV, ex_notV, ex_if, ex_chain, ex_nil, ex_cons, ex_tup, ex_lst, ex_call, ex_callP, ex_cb, ex_bm, ex_rep, ex_sl, ex_noPart, ex_part, ex_yes, it_items, it_rng1, it_rng2, tg_name, tg_sub, tg_tup, tg_cons, tg_nil, gs_0, gs_s, ss_0, ss_s, op_ii, op_ss, op_tt, op_mm, op_sb, op_ng, op_iNf, op_iNt, op_lle, op_ixT, op_ixR, op_ixL, op_putE, op_appE, it_tupE, it_rolE, it_refE, lstOf_l, exL, asS_some, asI_int, asB_bl, asL_some, asN_some, ite3_t, ite3_f, bl_1, bl_lenT, bl_lenR, bl_lenL, bl_lenS, bl_tuple, bl_list, bl_abs, bl_intI, bl_intB, bl_max, bl_min, op_eqSf, op_eqSt, op_eqIf, op_eqIt, op_eqTf, op_eqTt, op_eqRf, op_eqRt, op_eqNf, op_eqNt, eqD_int, eqD_nil, pl_int, pl_nil, pl_non, pl_rnil, pl_bl, sl_tupE, sl_rolE, keep_ref, keep_tup, keep_rol, tp_int, tp_tup, tp_rol, tp_str, tp_bl, tp_non, tp_ref, oFd, oMd, oPw, oShl, oLt, oLe, oGt, oGe, op_in, op_cp, wipe_nil, wipe_cons, mset_same, true_and, and_true, isN_int, ex_lstF, ex_repF, ex_lgF1, ex_lgF2, ex_tupRg1, ex_tupRg2, ex_frz, ex_slF, ex_slM, sl_tupF, sl_rolF, op_iiF, op_ssF, op_ttF, op_rrF, op_rrM, op_mmF, op_repF, li_rol, li_ref, bl_listF, bl_allF, bl_anyF, asT_some, asJ_some, op_eqBf, op_eqBt, isN_non, Bool.not_true, Bool.not_false, rep2, hM2, at_42, ix_42, set_42]
          refine ⟨fo _, ?_⟩
          try dsimp only
          rw [st_ret]
          simp only [ex_c, ex_var, ex_op, ex_un, ex_b, ex_and, ex_or, ex_not, ex_andV, ex_orV, ex_notV, ex_if, ex_chain, ex_nil, ex_cons, ex_tup, ex_lst, ex_call, ex_callP, ex_cb, ex_bm, ex_rep, ex_sl, ex_noPart, ex_part, ex_yes, it_items, it_rng1, it_rng2, tg_name, tg_sub, tg_tup, tg_cons, tg_nil, gs_0, gs_s, ss_0, ss_s, op_ii, op_ss, op_tt, op_mm, op_sb, op_ng, op_iNf, op_iNt, op_lle, op_ixT, op_ixR, op_ixL, op_putE, op_appE, it_tupE, it_rolE, it_refE, lstOf_l, exL, asS_some, asI_int, asB_bl, asL_some, asN_some, ite3_t, ite3_f, bl_1, bl_lenT, bl_lenR, bl_lenL, bl_lenS, bl_tuple, bl_list, bl_abs, bl_intI, bl_intB, bl_max, bl_min, op_eqSf, op_eqSt, op_eqIf, op_eqIt, op_eqTf, op_eqTt, op_eqRf, op_eqRt, op_eqNf, op_eqNt, eqD_int, eqD_nil, pl_int, pl_nil, pl_non, pl_rnil, pl_bl, sl_tupE, sl_rolE, keep_ref, keep_tup, keep_rol, tp_int, tp_tup, tp_rol, tp_str, tp_bl, tp_non, tp_ref, oFd, oMd, oPw, oShl, oLt, oLe, oGt, oGe, op_in, op_cp, wipe_nil, wipe_cons, mset_same, true_and, and_true, isN_int, ex_lstF, ex_repF, ex_lgF1, ex_lgF2, ex_tupRg1, ex_tupRg2, ex_frz, ex_slF, ex_slM, sl_tupF, sl_rolF, op_iiF, op_ssF, op_ttF, op_rrF, op_rrM, op_mmF, op_repF, li_rol, li_ref, bl_listF, bl_allF, bl_anyF, asT_some, asJ_some, op_eqBf, op_eqBt, isN_non, Bool.not_true, Bool.not_false, rep2]
          exact ⟨hn0, q _ _ (md_in h0).1 (md_in h0).2 ⟨cs, i + 1, _, k + 1, by omega, mset_same⟩ (o2.trans Only.refl.set)⟩
        · rw [st_next]
          exact fin _ _
      · rw [st_next]
        exact fin _ _
    rw [st_seq, st_if]
    simp only [ex_c, ex_var, ex_op, ex_un, ex_b, ex_and, ex_or, ex_not, ex_andV, ex_orV, ex_notV, ex_if, ex_chain, ex_nil, ex_cons, ex_tup, ex_lst, ex_call, ex_callP, ex_cb, ex_bm, ex_rep, ex_sl, ex_noPart, ex_part, ex_yes, it_items, it_rng1, it_rng2, tg_name, tg_sub, tg_tup, tg_cons, tg_nil, gs_0, gs_s, ss_0, ss_s, op_ii, op_ss, op_tt, op_mm, op_sb, op_ng, op_iNf, op_iNt, op_lle, op_ixT, op_ixR, op_ixL, op_putE, op_appE, it_tupE, it_rolE, it_refE, lstOf_l, exL, asS_some, asI_int, asB_bl, asL_some, asN_some, ite3_t, ite3_f, bl_1, bl_lenT, bl_lenR, bl_lenL, bl_lenS, bl_tuple, bl_list, bl_abs, bl_intI, bl_intB, bl_max, bl_min, op_eqSf, op_eqSt, op_eqIf, op_eqIt, op_eqTf, op_eqTt, op_eqRf, op_eqRt, op_eqNf, op_eqNt, eqD_int, eqD_nil, pl_int, pl_nil, pl_non, pl_rnil, pl_bl, sl_tupE, sl_rolE, keep_ref, keep_tup, keep_rol, tp_int, tp_tup, tp_rol, tp_str, tp_bl, tp_non, tp_ref, oFd, oMd, oPw, oShl, oLt, oLe, oGt, oGe, op_in, op_cp, wipe_nil, wipe_cons, mset_same, true_and, and_true, isN_int, ex_lstF, ex_repF, ex_lgF1, ex_lgF2, ex_tupRg1, ex_tupRg2, ex_frz, ex_slF, ex_slM, sl_tupF, sl_rolF, op_iiF, op_ssF, op_ttF, op_rrF, op_rrM, op_mmF, op_repF, li_rol, li_ref, bl_listF, bl_allF, bl_anyF, asT_some, asJ_some, op_eqBf, op_eqBt, isN_non, Bool.not_true, Bool.not_false, rep2, hM1, at_40, op_eqLt, tp_rol, eqD_rnil, pl_rnil]
    refine ⟨Nat.zero_le _, pl_ints, ite3_by (fun hc => ?_) (fun hc => ?_)⟩
    · rw [st_set]
      simp only [ex_c, ex_var, ex_op, ex_un, ex_b, ex_and, ex_or, ex_not, ex_andV, ex_orV, ex_notV, ex_if, ex_chain, ex_nil, ex_cons, ex_tup, ex_lst, ex_call, ex_callP, ex_cb, ex_bm, ex_rep, ex_sl, ex_noPart, ex_part, ex_yes, it_items, it_rng1, it_rng2, tg_name, tg_sub, tg_tup, tg_cons, tg_nil, gs_0, gs_s, ss_0, ss_s, op_ii, op_ss, op_tt, op_mm, op_sb, op_ng, op_iNf, op_iNt, op_lle, op_ixT, op_ixR, op_ixL, op_putE, op_appE, it_tupE, it_rolE, it_refE, lstOf_l, exL, asS_some, asI_int, asB_bl, asL_some, asN_some, ite3_t, ite3_f, bl_1, bl_lenT, bl_lenR, bl_lenL, bl_lenS, bl_tuple, bl_list, bl_abs, bl_intI, bl_intB, bl_max, bl_min, op_eqSf, op_eqSt, op_eqIf, op_eqIt, op_eqTf, op_eqTt, op_eqRf, op_eqRt, op_eqNf, op_eqNt, eqD_int, eqD_nil, pl_int, pl_nil, pl_non, pl_rnil, pl_bl, sl_tupE, sl_rolE, keep_ref, keep_tup, keep_rol, tp_int, tp_tup, tp_rol, tp_str, tp_bl, tp_non, tp_ref, oFd, oMd, oPw, oShl, oLt, oLe, oGt, oGe, op_in, op_cp, wipe_nil, wipe_cons, mset_same, true_and, and_true, isN_int, ex_lstF, ex_repF, ex_lgF1, ex_lgF2, ex_tupRg1, ex_tupRg2, ex_frz, ex_slF, ex_slM, sl_tupF, sl_rolF, op_iiF, op_ssF, op_ttF, op_rrF, op_rrM, op_mmF, op_repF, li_rol, li_ref, bl_listF, bl_allF, bl_anyF, asT_some, asJ_some, op_eqBf, op_eqBt, isN_non, Bool.not_true, Bool.not_false, rep2, hM1, at_40, at_41]
      have hl : 0 < cs.length := by cases cs with
        | nil => simp at hc
        | cons x y => exact Nat.succ_pos _
      rw [List.length_map]
      have hm := md_in (x := (i : Int)) (n := (cs.length : Int)) (by omega)
      obtain ⟨j, hj⟩ : ∃ j : Nat, (i : Int).fmod (cs.length : Int) = j := ⟨((i : Int).fmod (cs.length : Int)).toNat, by omega⟩
      rw [hj] at hm ⊢
      have hjl : j < cs.length := by omega
      have hat : atI (cs.map D.int) (j : Int) = some (.int cs[j]) := atI_nat (by rw [List.getElem?_map, List.getElem?_eq_getElem hjl]; rfl)
      rw [hat]
      exact ⟨by omega, rest _⟩
    · rw [st_next]
      exact rest _
end L3
set_option Elab.async false
set_option linter.all false
set_option maxRecDepth 100000
set_option maxHeartbeats 4000000
namespace L3
open PySem PySem.Spec PyProof.Rows L2
def end7R (sp__law_draw : Sp3) : XK3 → TS3 := fun E =>
  (wSeq (wIfS (wB (wOp oLt (wCall sp__law_draw E (wCons (wVar 0) (wCons (wC (.int 5)) wNil))) (wC (.int 2)))) (wRet (wC .non)) wNext)
  (wSeq (wIfS (wB (wOp oLt (wVar 1) (wC (.int 4)))) (wRet (wCB bMax (wCons (wUn oNeg (wC (.int 12))) (wCons (wCB bMin (wCons (wC (.int 12)) (wCons (wOp oAddF (wVar 2) (wOp oIx (wLstF (wCons (wC (.int 0)) (wCons (wC (.int 0)) (wCons (wC (.int 1)) (wCons (wCall sp__law_draw E (wCons (wVar 0) (wCons (wC (.int 7)) wNil))) wNil))))) (wCall sp__law_draw E (wCons (wVar 0) (wCons (wC (.int 4)) wNil))))) wNil))) wNil)))) wNext)
  (wRet (wOp oIx (wLstF (wCons (wOp oSub (wCall sp__law_draw E (wCons (wVar 0) (wCons (wC (.int 25)) wNil))) (wC (.int 12))) (wCons (wOp oSub (wCall sp__law_draw E (wCons (wVar 0) (wCons (wC (.int 4)) wNil))) (wC (.int 1))) wNil))) (wOp oMd (wVar 1) (wC (.int 2)))))))
def SEnd7 (sp : Sp3) : Prop := ∀ (a : Addr) (b : Nat) (way gap : Int) (M : Mp) (Q : VK3) (E : XK3), Fd b M a → b < 2 ^ 29 → (∀ e M', EdB 13 e → Fd (b + 3) M' a → Only a M M' → Q (oD e) M') → sp [.ref a, .int way, .int gap] M Q E
theorem edb {i : Int} (h : -12 ≤ i) (h1 : i ≤ 12) : EdB 13 (some i) := fun j hj => by cases hj; omega
theorem s_end7 {sd : Sp3} (kd : SDraw7 sd) : SEnd7 (spOf 3 3 (end7R sd)) := by
  refine fun a b way gap M Q E f hb q => ⟨rfl, ?_⟩
  show end7R sd E _ [some (.ref a), some (.int way), some (.int gap)] M
  unfold end7R
  rw [st_seq, st_if]
  simp only [ex_c, ex_var, ex_op, ex_un, ex_b, ex_and, ex_or, ex_not, ex_andV, ex_orV, ex_notV, ex_if, ex_chain, ex_nil, ex_cons, ex_tup, ex_lst, ex_call, ex_callP, ex_cb, ex_bm, ex_rep, ex_sl, ex_noPart, ex_part, ex_yes, it_items, it_rng1, it_rng2, tg_name, tg_sub, tg_tup, tg_cons, tg_nil, gs_0, gs_s, ss_0, ss_s, op_ii, op_ss, op_tt, op_mm, op_sb, op_ng, op_iNf, op_iNt, op_lle, op_ixT, op_ixR, op_ixL, op_putE, op_appE, it_tupE, it_rolE, it_refE, lstOf_l, exL, asS_some, asI_int, asB_bl, asL_some, asN_some, ite3_t, ite3_f, bl_1, bl_lenT, bl_lenR, bl_lenL, bl_lenS, bl_tuple, bl_list, bl_abs, bl_intI, bl_intB, bl_max, bl_min, op_eqSf, op_eqSt, op_eqIf, op_eqIt, op_eqTf, op_eqTt, op_eqRf, op_eqRt, op_eqNf, op_eqNt, eqD_int, eqD_nil, pl_int, pl_nil, pl_non, pl_rnil, pl_bl, sl_tupE, sl_rolE, keep_ref, keep_tup, keep_rol, tp_int, tp_tup, tp_rol, tp_str, tp_bl, tp_non, tp_ref, oFd, oMd, oPw, oShl, oLt, oLe, oGt, oGe, op_in, op_cp, wipe_nil, wipe_cons, mset_same, true_and, and_true, isN_int, ex_lstF, ex_repF, ex_lgF1, ex_lgF2, ex_tupRg1, ex_tupRg2, ex_frz, ex_slF, ex_slM, sl_tupF, sl_rolF, op_iiF, op_ssF, op_ttF, op_rrF, op_rrM, op_mmF, op_repF, li_rol, li_ref, bl_listF, bl_allF, bl_anyF, asT_some, asJ_some, op_eqBf, op_eqBt, isN_non, Bool.not_true, Bool.not_false, rep2]
  refine kd _ b _ _ _ _ f (by omega) (by decide) (by decide) fun r M1 r0 r1 f1 o1 => ?_
  (try simp only [ex_c, ex_var, ex_op, ex_un, ex_b, ex_and, ex_or, ex_not, ex_andV, ex_orV, ex_notV, ex_if, ex_chain, ex_nil, ex_cons, ex_tup, ex_lst, ex_call, ex_callP, ex_cb, ex_bm, ex_rep, ex_sl, ex_noPart, ex_part, ex_yes, it_items, it_rng1, it_rng2, tg_name, tg_sub, tg_tup, tg_cons, tg_nil, gs_0, gs_s, ss_0, ss_s, op_ii, op_ss, op_tt, op_mm, op_sb, op_ng, op_iNf, op_iNt, op_lle, op_ixT, op_ixR, op_ixL, op_putE, op_appE, it_tupE, it_rolE, it_refE, lstOf_l, exL, asS_some, asI_int, asB_bl, asL_some, asN_some, ite3_t, ite3_f, bl_1, bl_lenT, bl_lenR, bl_lenL, bl_lenS, bl_tuple, bl_list, bl_abs, bl_intI, bl_intB, bl_max, bl_min, op_eqSf, op_eqSt, op_eqIf, op_eqIt, op_eqTf, op_eqTt, op_eqRf, op_eqRt, op_eqNf, op_eqNt, eqD_int, eqD_nil, pl_int, pl_nil, pl_non, pl_rnil, pl_bl, sl_tupE, sl_rolE, keep_ref, keep_tup, keep_rol, tp_int, tp_tup, tp_rol, tp_str, tp_bl, tp_non, tp_ref, oFd, oMd, oPw, oShl, oLt, oLe, oGt, oGe, op_in, op_cp, wipe_nil, wipe_cons, mset_same, true_and, and_true, isN_int, ex_lstF, ex_repF, ex_lgF1, ex_lgF2, ex_tupRg1, ex_tupRg2, ex_frz, ex_slF, ex_slM, sl_tupF, sl_rolF, op_iiF, op_ssF, op_ttF, op_rrF, op_rrM, op_mmF, op_repF, li_rol, li_ref, bl_listF, bl_allF, bl_anyF, asT_some, asJ_some, op_eqBf, op_eqBt, isN_non, Bool.not_true, Bool.not_false, rep2])
  refine ite3_by (fun h => ?_) (fun h => ?_)
  · rw [st_ret]
    simp only [ex_c, ex_var, ex_op, ex_un, ex_b, ex_and, ex_or, ex_not, ex_andV, ex_orV, ex_notV, ex_if, ex_chain, ex_nil, ex_cons, ex_tup, ex_lst, ex_call, ex_callP, ex_cb, ex_bm, ex_rep, ex_sl, ex_noPart, ex_part, ex_yes, it_items, it_rng1, it_rng2, tg_name, tg_sub, tg_tup, tg_cons, tg_nil, gs_0, gs_s, ss_0, ss_s, op_ii, op_ss, op_tt, op_mm, op_sb, op_ng, op_iNf, op_iNt, op_lle, op_ixT, op_ixR, op_ixL, op_putE, op_appE, it_tupE, it_rolE, it_refE, lstOf_l, exL, asS_some, asI_int, asB_bl, asL_some, asN_some, ite3_t, ite3_f, bl_1, bl_lenT, bl_lenR, bl_lenL, bl_lenS, bl_tuple, bl_list, bl_abs, bl_intI, bl_intB, bl_max, bl_min, op_eqSf, op_eqSt, op_eqIf, op_eqIt, op_eqTf, op_eqTt, op_eqRf, op_eqRt, op_eqNf, op_eqNt, eqD_int, eqD_nil, pl_int, pl_nil, pl_non, pl_rnil, pl_bl, sl_tupE, sl_rolE, keep_ref, keep_tup, keep_rol, tp_int, tp_tup, tp_rol, tp_str, tp_bl, tp_non, tp_ref, oFd, oMd, oPw, oShl, oLt, oLe, oGt, oGe, op_in, op_cp, wipe_nil, wipe_cons, mset_same, true_and, and_true, isN_int, ex_lstF, ex_repF, ex_lgF1, ex_lgF2, ex_tupRg1, ex_tupRg2, ex_frz, ex_slF, ex_slM, sl_tupF, sl_rolF, op_iiF, op_ssF, op_ttF, op_rrF, op_rrM, op_mmF, op_repF, li_rol, li_ref, bl_listF, bl_allF, bl_anyF, asT_some, asJ_some, op_eqBf, op_eqBt, isN_non, Bool.not_true, Bool.not_false, rep2]
    exact q none _ (fun j hj => nomatch hj) (f1.mono (by omega)) o1
  rw [st_next]
  try dsimp only
  rw [st_seq, st_if]
  simp only [ex_c, ex_var, ex_op, ex_un, ex_b, ex_and, ex_or, ex_not, ex_andV, ex_orV, ex_notV, ex_if, ex_chain, ex_nil, ex_cons, ex_tup, ex_lst, ex_call, ex_callP, ex_cb, ex_bm, ex_rep, ex_sl, ex_noPart, ex_part, ex_yes, it_items, it_rng1, it_rng2, tg_name, tg_sub, tg_tup, tg_cons, tg_nil, gs_0, gs_s, ss_0, ss_s, op_ii, op_ss, op_tt, op_mm, op_sb, op_ng, op_iNf, op_iNt, op_lle, op_ixT, op_ixR, op_ixL, op_putE, op_appE, it_tupE, it_rolE, it_refE, lstOf_l, exL, asS_some, asI_int, asB_bl, asL_some, asN_some, ite3_t, ite3_f, bl_1, bl_lenT, bl_lenR, bl_lenL, bl_lenS, bl_tuple, bl_list, bl_abs, bl_intI, bl_intB, bl_max, bl_min, op_eqSf, op_eqSt, op_eqIf, op_eqIt, op_eqTf, op_eqTt, op_eqRf, op_eqRt, op_eqNf, op_eqNt, eqD_int, eqD_nil, pl_int, pl_nil, pl_non, pl_rnil, pl_bl, sl_tupE, sl_rolE, keep_ref, keep_tup, keep_rol, tp_int, tp_tup, tp_rol, tp_str, tp_bl, tp_non, tp_ref, oFd, oMd, oPw, oShl, oLt, oLe, oGt, oGe, op_in, op_cp, wipe_nil, wipe_cons, mset_same, true_and, and_true, isN_int, ex_lstF, ex_repF, ex_lgF1, ex_lgF2, ex_tupRg1, ex_tupRg2, ex_frz, ex_slF, ex_slM, sl_tupF, sl_rolF, op_iiF, op_ssF, op_ttF, op_rrF, op_rrM, op_mmF, op_repF, li_rol, li_ref, bl_listF, bl_allF, bl_anyF, asT_some, asJ_some, op_eqBf, op_eqBt, isN_non, Bool.not_true, Bool.not_false, rep2]
  refine ite3_by (fun h => ?_) (fun h => ?_)
  · rw [st_ret]
    simp only [ex_c, ex_var, ex_op, ex_un, ex_b, ex_and, ex_or, ex_not, ex_andV, ex_orV, ex_notV, ex_if, ex_chain, ex_nil, ex_cons, ex_tup, ex_lst, ex_call, ex_callP, ex_cb, ex_bm, ex_rep, ex_sl, ex_noPart, ex_part, ex_yes, it_items, it_rng1, it_rng2, tg_name, tg_sub, tg_tup, tg_cons, tg_nil, gs_0, gs_s, ss_0, ss_s, op_ii, op_ss, op_tt, op_mm, op_sb, op_ng, op_iNf, op_iNt, op_lle, op_ixT, op_ixR, op_ixL, op_putE, op_appE, it_tupE, it_rolE, it_refE, lstOf_l, exL, asS_some, asI_int, asB_bl, asL_some, asN_some, ite3_t, ite3_f, bl_1, bl_lenT, bl_lenR, bl_lenL, bl_lenS, bl_tuple, bl_list, bl_abs, bl_intI, bl_intB, bl_max, bl_min, op_eqSf, op_eqSt, op_eqIf, op_eqIt, op_eqTf, op_eqTt, op_eqRf, op_eqRt, op_eqNf, op_eqNt, eqD_int, eqD_nil, pl_int, pl_nil, pl_non, pl_rnil, pl_bl, sl_tupE, sl_rolE, keep_ref, keep_tup, keep_rol, tp_int, tp_tup, tp_rol, tp_str, tp_bl, tp_non, tp_ref, oFd, oMd, oPw, oShl, oLt, oLe, oGt, oGe, op_in, op_cp, wipe_nil, wipe_cons, mset_same, true_and, and_true, isN_int, ex_lstF, ex_repF, ex_lgF1, ex_lgF2, ex_tupRg1, ex_tupRg2, ex_frz, ex_slF, ex_slM, sl_tupF, sl_rolF, op_iiF, op_ssF, op_ttF, op_rrF, op_rrM, op_mmF, op_repF, li_rol, li_ref, bl_listF, bl_allF, bl_anyF, asT_some, asJ_some, op_eqBf, op_eqBt, isN_non, Bool.not_true, Bool.not_false, rep2]
    refine kd _ (b + 1) _ _ _ _ f1 (by omega) (by decide) (by decide) fun x M2 x0 x1 f2 o2 => ?_
    (try simp only [ex_c, ex_var, ex_op, ex_un, ex_b, ex_and, ex_or, ex_not, ex_andV, ex_orV, ex_notV, ex_if, ex_chain, ex_nil, ex_cons, ex_tup, ex_lst, ex_call, ex_callP, ex_cb, ex_bm, ex_rep, ex_sl, ex_noPart, ex_part, ex_yes, it_items, it_rng1, it_rng2, tg_name, tg_sub, tg_tup, tg_cons, tg_nil, gs_0, gs_s, ss_0, ss_s, op_ii, op_ss, op_tt, op_mm, op_sb, op_ng, op_iNf, op_iNt, op_lle, op_ixT, op_ixR, op_ixL, op_putE, op_appE, it_tupE, it_rolE, it_refE, lstOf_l, exL, asS_some, asI_int, asB_bl, asL_some, asN_some, ite3_t, ite3_f, bl_1, bl_lenT, bl_lenR, bl_lenL, bl_lenS, bl_tuple, bl_list, bl_abs, bl_intI, bl_intB, bl_max, bl_min, op_eqSf, op_eqSt, op_eqIf, op_eqIt, op_eqTf, op_eqTt, op_eqRf, op_eqRt, op_eqNf, op_eqNt, eqD_int, eqD_nil, pl_int, pl_nil, pl_non, pl_rnil, pl_bl, sl_tupE, sl_rolE, keep_ref, keep_tup, keep_rol, tp_int, tp_tup, tp_rol, tp_str, tp_bl, tp_non, tp_ref, oFd, oMd, oPw, oShl, oLt, oLe, oGt, oGe, op_in, op_cp, wipe_nil, wipe_cons, mset_same, true_and, and_true, isN_int, ex_lstF, ex_repF, ex_lgF1, ex_lgF2, ex_tupRg1, ex_tupRg2, ex_frz, ex_slF, ex_slM, sl_tupF, sl_rolF, op_iiF, op_ssF, op_ttF, op_rrF, op_rrM, op_mmF, op_repF, li_rol, li_ref, bl_listF, bl_allF, bl_anyF, asT_some, asJ_some, op_eqBf, op_eqBt, isN_non, Bool.not_true, Bool.not_false, rep2])
    refine ⟨by show 4 ≤ sizeLine; decide, kd _ (b + 2) _ _ _ _ f2 (by omega) (by decide) (by decide) fun y M3 y0 y1 f3 o3 => ?_⟩
    have hat : ∃ z : Int, atI [D.int 0, D.int 0, D.int 1, D.int x] y = some (.int z) := by
      have : y = 0 ∨ y = 1 ∨ y = 2 ∨ y = 3 := by omega
      rcases this with rfl | rfl | rfl | rfl <;> exact ⟨_, rfl⟩
    obtain ⟨z, hat⟩ := hat
    simp only [ex_c, ex_var, ex_op, ex_un, ex_b, ex_and, ex_or, ex_not, ex_andV, ex_orV, ex_notV, ex_if, ex_chain, ex_nil, ex_cons, ex_tup, ex_lst, ex_call, ex_callP, ex_cb, ex_bm, ex_rep, ex_sl, ex_noPart, ex_part, ex_yes, it_items, it_rng1, it_rng2, tg_name, tg_sub, tg_tup, tg_cons, tg_nil, gs_0, gs_s, ss_0, ss_s, op_ii, op_ss, op_tt, op_mm, op_sb, op_ng, op_iNf, op_iNt, op_lle, op_ixT, op_ixR, op_ixL, op_putE, op_appE, it_tupE, it_rolE, it_refE, lstOf_l, exL, asS_some, asI_int, asB_bl, asL_some, asN_some, ite3_t, ite3_f, bl_1, bl_lenT, bl_lenR, bl_lenL, bl_lenS, bl_tuple, bl_list, bl_abs, bl_intI, bl_intB, bl_max, bl_min, op_eqSf, op_eqSt, op_eqIf, op_eqIt, op_eqTf, op_eqTt, op_eqRf, op_eqRt, op_eqNf, op_eqNt, eqD_int, eqD_nil, pl_int, pl_nil, pl_non, pl_rnil, pl_bl, sl_tupE, sl_rolE, keep_ref, keep_tup, keep_rol, tp_int, tp_tup, tp_rol, tp_str, tp_bl, tp_non, tp_ref, oFd, oMd, oPw, oShl, oLt, oLe, oGt, oGe, op_in, op_cp, wipe_nil, wipe_cons, mset_same, true_and, and_true, isN_int, ex_lstF, ex_repF, ex_lgF1, ex_lgF2, ex_tupRg1, ex_tupRg2, ex_frz, ex_slF, ex_slM, sl_tupF, sl_rolF, op_iiF, op_ssF, op_ttF, op_rrF, op_rrM, op_mmF, op_repF, li_rol, li_ref, bl_listF, bl_allF, bl_anyF, asT_some, asJ_some, op_eqBf, op_eqBt, isN_non, Bool.not_true, Bool.not_false, rep2, hat]
    have key : ∀ u : Int, -12 ≤ (if (if u < 12 then u else 12) > -12 then (if u < 12 then u else 12) else -12 : Int) ∧ (if (if u < 12 then u else 12) > -12 then (if u < 12 then u else 12) else -12 : Int) ≤ 12 := fun u => by
      split <;> split at * <;> omega
    exact q (some _) _ (edb (key _).1 (key _).2) f3 ((o1.trans o2).trans o3)
  · rw [st_next]
    try dsimp only
    rw [st_ret]
    simp only [ex_c, ex_var, ex_op, ex_un, ex_b, ex_and, ex_or, ex_not, ex_andV, ex_orV, ex_notV, ex_if, ex_chain, ex_nil, ex_cons, ex_tup, ex_lst, ex_call, ex_callP, ex_cb, ex_bm, ex_rep, ex_sl, ex_noPart, ex_part, ex_yes, it_items, it_rng1, it_rng2, tg_name, tg_sub, tg_tup, tg_cons, tg_nil, gs_0, gs_s, ss_0, ss_s, op_ii, op_ss, op_tt, op_mm, op_sb, op_ng, op_iNf, op_iNt, op_lle, op_ixT, op_ixR, op_ixL, op_putE, op_appE, it_tupE, it_rolE, it_refE, lstOf_l, exL, asS_some, asI_int, asB_bl, asL_some, asN_some, ite3_t, ite3_f, bl_1, bl_lenT, bl_lenR, bl_lenL, bl_lenS, bl_tuple, bl_list, bl_abs, bl_intI, bl_intB, bl_max, bl_min, op_eqSf, op_eqSt, op_eqIf, op_eqIt, op_eqTf, op_eqTt, op_eqRf, op_eqRt, op_eqNf, op_eqNt, eqD_int, eqD_nil, pl_int, pl_nil, pl_non, pl_rnil, pl_bl, sl_tupE, sl_rolE, keep_ref, keep_tup, keep_rol, tp_int, tp_tup, tp_rol, tp_str, tp_bl, tp_non, tp_ref, oFd, oMd, oPw, oShl, oLt, oLe, oGt, oGe, op_in, op_cp, wipe_nil, wipe_cons, mset_same, true_and, and_true, isN_int, ex_lstF, ex_repF, ex_lgF1, ex_lgF2, ex_tupRg1, ex_tupRg2, ex_frz, ex_slF, ex_slM, sl_tupF, sl_rolF, op_iiF, op_ssF, op_ttF, op_rrF, op_rrM, op_mmF, op_repF, li_rol, li_ref, bl_listF, bl_allF, bl_anyF, asT_some, asJ_some, op_eqBf, op_eqBt, isN_non, Bool.not_true, Bool.not_false, rep2]
    refine kd _ (b + 1) _ _ _ _ f1 (by omega) (by decide) (by decide) fun x M2 x0 x1 f2 o2 => ?_
    (try simp only [ex_c, ex_var, ex_op, ex_un, ex_b, ex_and, ex_or, ex_not, ex_andV, ex_orV, ex_notV, ex_if, ex_chain, ex_nil, ex_cons, ex_tup, ex_lst, ex_call, ex_callP, ex_cb, ex_bm, ex_rep, ex_sl, ex_noPart, ex_part, ex_yes, it_items, it_rng1, it_rng2, tg_name, tg_sub, tg_tup, tg_cons, tg_nil, gs_0, gs_s, ss_0, ss_s, op_ii, op_ss, op_tt, op_mm, op_sb, op_ng, op_iNf, op_iNt, op_lle, op_ixT, op_ixR, op_ixL, op_putE, op_appE, it_tupE, it_rolE, it_refE, lstOf_l, exL, asS_some, asI_int, asB_bl, asL_some, asN_some, ite3_t, ite3_f, bl_1, bl_lenT, bl_lenR, bl_lenL, bl_lenS, bl_tuple, bl_list, bl_abs, bl_intI, bl_intB, bl_max, bl_min, op_eqSf, op_eqSt, op_eqIf, op_eqIt, op_eqTf, op_eqTt, op_eqRf, op_eqRt, op_eqNf, op_eqNt, eqD_int, eqD_nil, pl_int, pl_nil, pl_non, pl_rnil, pl_bl, sl_tupE, sl_rolE, keep_ref, keep_tup, keep_rol, tp_int, tp_tup, tp_rol, tp_str, tp_bl, tp_non, tp_ref, oFd, oMd, oPw, oShl, oLt, oLe, oGt, oGe, op_in, op_cp, wipe_nil, wipe_cons, mset_same, true_and, and_true, isN_int, ex_lstF, ex_repF, ex_lgF1, ex_lgF2, ex_tupRg1, ex_tupRg2, ex_frz, ex_slF, ex_slM, sl_tupF, sl_rolF, op_iiF, op_ssF, op_ttF, op_rrF, op_rrM, op_mmF, op_repF, li_rol, li_ref, bl_listF, bl_allF, bl_anyF, asT_some, asJ_some, op_eqBf, op_eqBt, isN_non, Bool.not_true, Bool.not_false, rep2])
    refine kd _ (b + 2) _ _ _ _ f2 (by omega) (by decide) (by decide) fun y M3 y0 y1 f3 o3 => ?_
    (try simp only [ex_c, ex_var, ex_op, ex_un, ex_b, ex_and, ex_or, ex_not, ex_andV, ex_orV, ex_notV, ex_if, ex_chain, ex_nil, ex_cons, ex_tup, ex_lst, ex_call, ex_callP, ex_cb, ex_bm, ex_rep, ex_sl, ex_noPart, ex_part, ex_yes, it_items, it_rng1, it_rng2, tg_name, tg_sub, tg_tup, tg_cons, tg_nil, gs_0, gs_s, ss_0, ss_s, op_ii, op_ss, op_tt, op_mm, op_sb, op_ng, op_iNf, op_iNt, op_lle, op_ixT, op_ixR, op_ixL, op_putE, op_appE, it_tupE, it_rolE, it_refE, lstOf_l, exL, asS_some, asI_int, asB_bl, asL_some, asN_some, ite3_t, ite3_f, bl_1, bl_lenT, bl_lenR, bl_lenL, bl_lenS, bl_tuple, bl_list, bl_abs, bl_intI, bl_intB, bl_max, bl_min, op_eqSf, op_eqSt, op_eqIf, op_eqIt, op_eqTf, op_eqTt, op_eqRf, op_eqRt, op_eqNf, op_eqNt, eqD_int, eqD_nil, pl_int, pl_nil, pl_non, pl_rnil, pl_bl, sl_tupE, sl_rolE, keep_ref, keep_tup, keep_rol, tp_int, tp_tup, tp_rol, tp_str, tp_bl, tp_non, tp_ref, oFd, oMd, oPw, oShl, oLt, oLe, oGt, oGe, op_in, op_cp, wipe_nil, wipe_cons, mset_same, true_and, and_true, isN_int, ex_lstF, ex_repF, ex_lgF1, ex_lgF2, ex_tupRg1, ex_tupRg2, ex_frz, ex_slF, ex_slM, sl_tupF, sl_rolF, op_iiF, op_ssF, op_ttF, op_rrF, op_rrM, op_mmF, op_repF, li_rol, li_ref, bl_listF, bl_allF, bl_anyF, asT_some, asJ_some, op_eqBf, op_eqBt, isN_non, Bool.not_true, Bool.not_false, rep2])
    have hm := md_in (x := way) (n := 2) (by decide)
    have hat : ∃ z : Int, atI [D.int (x - 12), D.int (y - 1)] (way.fmod 2) = some (.int z) ∧ -12 ≤ z ∧ z ≤ 12 := by
      have : way.fmod 2 = 0 ∨ way.fmod 2 = 1 := by omega
      rcases this with e | e <;> rw [e]
      · exact ⟨x - 12, rfl, by omega, by omega⟩
      · exact ⟨y - 1, rfl, by omega, by omega⟩
    obtain ⟨z, hat, z0, z1⟩ := hat
    rw [hat]
    exact ⟨by show 2 ≤ sizeLine; decide, by decide, q (some z) _ (edb z0 z1) f3 ((o1.trans o2).trans o3)⟩
def table7R (sp__law_draw : Sp3) (sp__law_end : Sp3) : XK3 → TS3 := fun E =>
  (wSeq (wSet 2 (wCall sp__law_draw E (wCons (wVar 0) (wCons (wC (.int 6)) wNil))))
  (wSeq (wSet 3 (wOp oAddF (wLcF (wRng1 (wCons (wOp oSub (wVar 1) (wC (.int 1))) wNil)) (wgName 4) wYes (wOp oSub (wCall sp__law_draw X0 (wCons (wVar 0) (wCons (wC (.int 9)) wNil))) (wC (.int 4))) [4]) (wLstF (wCons (wC (.int 0)) wNil))))
  (wSeq (wSet 5 (wLst wNil))
  (wSeq (wFor (wRng1 (wCons (wVar 1) wNil)) (wgName 4) (wSeq (wSet 6 (wLc (wRng1 (wCons (wVar 1) wNil)) (wgName 7) wYes (wCall sp__law_end X0 (wCons (wVar 0) (wCons (wVar 2) (wCons (wOp oSub (wOp oIx (wVar 3) (wVar 4)) (wOp oIx (wVar 3) (wVar 7))) wNil)))) [7]))
  (wSeq (wAsg (wOp oIx (wLstF (wCons (wC .non) (wCons (wC (.int 0)) (wCons (wC .non) (wCons (wC (.int 3)) (wCons (wC (.int 0)) (wCons (wC .non) (wCons (wC (.int 12)) (wCons (wOp oMulF (wUn oNeg (wC (.int 1))) (wCB bInt (wCons (wOp (oEq false) (wVar 2) (wC (.int 5))) wNil))) wNil))))))))) (wCall sp__law_draw E (wCons (wVar 0) (wCons (wC (.int 8)) wNil)))) (wgSub (wVar 6) (wVar 4) oPut))
  (wDrop (wBM oApp (wVar 5) (wCons (wCB bTuple (wCons (wVar 6) wNil)) wNil))))))
  (wRet (wCB bTuple (wCons (wVar 5) wNil)))))))
def STab7 (sp : Sp3) : Prop := ∀ (a : Addr) (b n : Nat) (M : Mp) (Q : VK3) (E : XK3), Fd b M a → b < 2 ^ 28 → 0 < n → n ≤ 7 → (∀ T M', TabB 13 n T → Fd (b + 200) M' a → Gr a M M' → Q (tabD T) M') → sp [.ref a, .int n] M Q E
theorem Gr.none {a b : Addr} {M M' : Mp} (x : Gr a M M') (h : M' b = none) (hb : b ≠ a) : M b = none := by
  cases e : M b with
  | none => rfl
  | some o => rw [x b o hb e] at h; cases h
theorem s_tab7 {sd se : Sp3} (kd : SDraw7 sd) (ke : SEnd7 se) : STab7 (spOf 2 8 (table7R sd se)) := by
  refine fun a b n Ma Q E f hb hn hn1 q => ⟨rfl, ?_⟩
  show table7R sd se E _ [some (.ref a), some (.int n), none, none, none, none, none, none] Ma
  unfold table7R
  have big : (1000 : Nat) ≤ sizeLine := by decide
  rw [st_seq, st_set]
  simp only [ex_c, ex_var, ex_op, ex_un, ex_b, ex_and, ex_or, ex_not, ex_andV, ex_orV, ex_notV, ex_if, ex_chain, ex_nil, ex_cons, ex_tup, ex_lst, ex_call, ex_callP, ex_cb, ex_bm, ex_rep, ex_sl, ex_noPart, ex_part, ex_yes, it_items, it_rng1, it_rng2, tg_name, tg_sub, tg_tup, tg_cons, tg_nil, gs_0, gs_s, ss_0, ss_s, op_ii, op_ss, op_tt, op_mm, op_sb, op_ng, op_iNf, op_iNt, op_lle, op_ixT, op_ixR, op_ixL, op_putE, op_appE, it_tupE, it_rolE, it_refE, lstOf_l, exL, asS_some, asI_int, asB_bl, asL_some, asN_some, ite3_t, ite3_f, bl_1, bl_lenT, bl_lenR, bl_lenL, bl_lenS, bl_tuple, bl_list, bl_abs, bl_intI, bl_intB, bl_max, bl_min, op_eqSf, op_eqSt, op_eqIf, op_eqIt, op_eqTf, op_eqTt, op_eqRf, op_eqRt, op_eqNf, op_eqNt, eqD_int, eqD_nil, pl_int, pl_nil, pl_non, pl_rnil, pl_bl, sl_tupE, sl_rolE, keep_ref, keep_tup, keep_rol, tp_int, tp_tup, tp_rol, tp_str, tp_bl, tp_non, tp_ref, oFd, oMd, oPw, oShl, oLt, oLe, oGt, oGe, op_in, op_cp, wipe_nil, wipe_cons, mset_same, true_and, and_true, isN_int, ex_lstF, ex_repF, ex_lgF1, ex_lgF2, ex_tupRg1, ex_tupRg2, ex_frz, ex_slF, ex_slM, sl_tupF, sl_rolF, op_iiF, op_ssF, op_ttF, op_rrF, op_rrM, op_mmF, op_repF, li_rol, li_ref, bl_listF, bl_allF, bl_anyF, asT_some, asJ_some, op_eqBf, op_eqBt, isN_non, Bool.not_true, Bool.not_false, rep2]
  refine kd _ b _ _ _ _ f (by omega) (by decide) (by decide) fun way M1 way0 way1 f1 o1 => ?_
  try dsimp only
  rw [st_seq, st_set]
  simp only [ex_c, ex_var, ex_op, ex_un, ex_b, ex_and, ex_or, ex_not, ex_andV, ex_orV, ex_notV, ex_if, ex_chain, ex_nil, ex_cons, ex_tup, ex_lst, ex_call, ex_callP, ex_cb, ex_bm, ex_rep, ex_sl, ex_noPart, ex_part, ex_yes, it_items, it_rng1, it_rng2, tg_name, tg_sub, tg_tup, tg_cons, tg_nil, gs_0, gs_s, ss_0, ss_s, op_ii, op_ss, op_tt, op_mm, op_sb, op_ng, op_iNf, op_iNt, op_lle, op_ixT, op_ixR, op_ixL, op_putE, op_appE, it_tupE, it_rolE, it_refE, lstOf_l, exL, asS_some, asI_int, asB_bl, asL_some, asN_some, ite3_t, ite3_f, bl_1, bl_lenT, bl_lenR, bl_lenL, bl_lenS, bl_tuple, bl_list, bl_abs, bl_intI, bl_intB, bl_max, bl_min, op_eqSf, op_eqSt, op_eqIf, op_eqIt, op_eqTf, op_eqTt, op_eqRf, op_eqRt, op_eqNf, op_eqNt, eqD_int, eqD_nil, pl_int, pl_nil, pl_non, pl_rnil, pl_bl, sl_tupE, sl_rolE, keep_ref, keep_tup, keep_rol, tp_int, tp_tup, tp_rol, tp_str, tp_bl, tp_non, tp_ref, oFd, oMd, oPw, oShl, oLt, oLe, oGt, oGe, op_in, op_cp, wipe_nil, wipe_cons, mset_same, true_and, and_true, isN_int, ex_lstF, ex_repF, ex_lgF1, ex_lgF2, ex_tupRg1, ex_tupRg2, ex_frz, ex_slF, ex_slM, sl_tupF, sl_rolF, op_iiF, op_ssF, op_ttF, op_rrF, op_rrM, op_mmF, op_repF, li_rol, li_ref, bl_listF, bl_allF, bl_anyF, asT_some, asJ_some, op_eqBf, op_eqBt, isN_non, Bool.not_true, Bool.not_false, rep2, ex_lcF]
  refine ⟨by omega, by omega, ?_⟩
  refine lc_pv (fun i acc M => ∃ vs : List Int, acc = vs.map D.int ∧ vs.length = i ∧ i ≤ 6 ∧ Fd (b + 1 + i) M a ∧ Only a Ma M) ?_ ?_ ⟨[], rfl, rfl, by decide, f1, o1⟩
  · rintro i d acc M hd ⟨vs, rfl, hl, hi, f, o⟩ X hX
    obtain ⟨hlt, rfl⟩ := rgD_get hd
    refine ⟨True.intro, ?_⟩
    simp only [ex_c, ex_var, ex_op, ex_un, ex_b, ex_and, ex_or, ex_not, ex_andV, ex_orV, ex_notV, ex_if, ex_chain, ex_nil, ex_cons, ex_tup, ex_lst, ex_call, ex_callP, ex_cb, ex_bm, ex_rep, ex_sl, ex_noPart, ex_part, ex_yes, it_items, it_rng1, it_rng2, tg_name, tg_sub, tg_tup, tg_cons, tg_nil, gs_0, gs_s, ss_0, ss_s, op_ii, op_ss, op_tt, op_mm, op_sb, op_ng, op_iNf, op_iNt, op_lle, op_ixT, op_ixR, op_ixL, op_putE, op_appE, it_tupE, it_rolE, it_refE, lstOf_l, exL, asS_some, asI_int, asB_bl, asL_some, asN_some, ite3_t, ite3_f, bl_1, bl_lenT, bl_lenR, bl_lenL, bl_lenS, bl_tuple, bl_list, bl_abs, bl_intI, bl_intB, bl_max, bl_min, op_eqSf, op_eqSt, op_eqIf, op_eqIt, op_eqTf, op_eqTt, op_eqRf, op_eqRt, op_eqNf, op_eqNt, eqD_int, eqD_nil, pl_int, pl_nil, pl_non, pl_rnil, pl_bl, sl_tupE, sl_rolE, keep_ref, keep_tup, keep_rol, tp_int, tp_tup, tp_rol, tp_str, tp_bl, tp_non, tp_ref, oFd, oMd, oPw, oShl, oLt, oLe, oGt, oGe, op_in, op_cp, wipe_nil, wipe_cons, mset_same, true_and, and_true, isN_int, ex_lstF, ex_repF, ex_lgF1, ex_lgF2, ex_tupRg1, ex_tupRg2, ex_frz, ex_slF, ex_slM, sl_tupF, sl_rolF, op_iiF, op_ssF, op_ttF, op_rrF, op_rrM, op_mmF, op_repF, li_rol, li_ref, bl_listF, bl_allF, bl_anyF, asT_some, asJ_some, op_eqBf, op_eqBt, isN_non, Bool.not_true, Bool.not_false, rep2]
    refine kd _ (b + 1 + i) _ _ _ _ f (by omega) (by decide) (by decide) fun x M2 x0 x1 f2 o2 => ?_
    (try simp only [ex_c, ex_var, ex_op, ex_un, ex_b, ex_and, ex_or, ex_not, ex_andV, ex_orV, ex_notV, ex_if, ex_chain, ex_nil, ex_cons, ex_tup, ex_lst, ex_call, ex_callP, ex_cb, ex_bm, ex_rep, ex_sl, ex_noPart, ex_part, ex_yes, it_items, it_rng1, it_rng2, tg_name, tg_sub, tg_tup, tg_cons, tg_nil, gs_0, gs_s, ss_0, ss_s, op_ii, op_ss, op_tt, op_mm, op_sb, op_ng, op_iNf, op_iNt, op_lle, op_ixT, op_ixR, op_ixL, op_putE, op_appE, it_tupE, it_rolE, it_refE, lstOf_l, exL, asS_some, asI_int, asB_bl, asL_some, asN_some, ite3_t, ite3_f, bl_1, bl_lenT, bl_lenR, bl_lenL, bl_lenS, bl_tuple, bl_list, bl_abs, bl_intI, bl_intB, bl_max, bl_min, op_eqSf, op_eqSt, op_eqIf, op_eqIt, op_eqTf, op_eqTt, op_eqRf, op_eqRt, op_eqNf, op_eqNt, eqD_int, eqD_nil, pl_int, pl_nil, pl_non, pl_rnil, pl_bl, sl_tupE, sl_rolE, keep_ref, keep_tup, keep_rol, tp_int, tp_tup, tp_rol, tp_str, tp_bl, tp_non, tp_ref, oFd, oMd, oPw, oShl, oLt, oLe, oGt, oGe, op_in, op_cp, wipe_nil, wipe_cons, mset_same, true_and, and_true, isN_int, ex_lstF, ex_repF, ex_lgF1, ex_lgF2, ex_tupRg1, ex_tupRg2, ex_frz, ex_slF, ex_slM, sl_tupF, sl_rolF, op_iiF, op_ssF, op_ttF, op_rrF, op_rrM, op_mmF, op_repF, li_rol, li_ref, bl_listF, bl_allF, bl_anyF, asT_some, asJ_some, op_eqBf, op_eqBt, isN_non, Bool.not_true, Bool.not_false, rep2])
    refine ⟨by rw [List.length_map]; omega, hX _ _ ⟨vs ++ [x - 4], by rw [List.map_append]; rfl, by rw [List.length_append, hl]; rfl, by omega, f2.mono (by omega), o.trans o2⟩⟩
  rintro acc M ⟨vs, rfl, hl, hi, f, o⟩
  rw [rgD_len] at hl
  refine ⟨True.intro, ?_⟩
  (try simp only [ex_c, ex_var, ex_op, ex_un, ex_b, ex_and, ex_or, ex_not, ex_andV, ex_orV, ex_notV, ex_if, ex_chain, ex_nil, ex_cons, ex_tup, ex_lst, ex_call, ex_callP, ex_cb, ex_bm, ex_rep, ex_sl, ex_noPart, ex_part, ex_yes, it_items, it_rng1, it_rng2, tg_name, tg_sub, tg_tup, tg_cons, tg_nil, gs_0, gs_s, ss_0, ss_s, op_ii, op_ss, op_tt, op_mm, op_sb, op_ng, op_iNf, op_iNt, op_lle, op_ixT, op_ixR, op_ixL, op_putE, op_appE, it_tupE, it_rolE, it_refE, lstOf_l, exL, asS_some, asI_int, asB_bl, asL_some, asN_some, ite3_t, ite3_f, bl_1, bl_lenT, bl_lenR, bl_lenL, bl_lenS, bl_tuple, bl_list, bl_abs, bl_intI, bl_intB, bl_max, bl_min, op_eqSf, op_eqSt, op_eqIf, op_eqIt, op_eqTf, op_eqTt, op_eqRf, op_eqRt, op_eqNf, op_eqNt, eqD_int, eqD_nil, pl_int, pl_nil, pl_non, pl_rnil, pl_bl, sl_tupE, sl_rolE, keep_ref, keep_tup, keep_rol, tp_int, tp_tup, tp_rol, tp_str, tp_bl, tp_non, tp_ref, oFd, oMd, oPw, oShl, oLt, oLe, oGt, oGe, op_in, op_cp, wipe_nil, wipe_cons, mset_same, true_and, and_true, isN_int, ex_lstF, ex_repF, ex_lgF1, ex_lgF2, ex_tupRg1, ex_tupRg2, ex_frz, ex_slF, ex_slM, sl_tupF, sl_rolF, op_iiF, op_ssF, op_ttF, op_rrF, op_rrM, op_mmF, op_repF, li_rol, li_ref, bl_listF, bl_allF, bl_anyF, asT_some, asJ_some, op_eqBf, op_eqBt, isN_non, Bool.not_true, Bool.not_false, rep2])
  have e1 : vs.map D.int ++ [D.int 0] = (vs ++ [0]).map D.int := by simp
  rw [e1]
  refine ⟨by show 1 ≤ sizeLine; omega, by rw [List.length_map]; show _ + 1 ≤ sizeLine; omega, ?_⟩
  have wl : (vs ++ [0]).length = n := by rw [List.length_append]; show _ + 1 = _; omega
  generalize vs ++ [0] = ws at wl
  have at' : ∀ i : Nat, i < n → ∃ x : Int, atI (ws.map D.int) (0 + (i : Int)) = some (.int x) := fun i hi => by
    rw [Int.zero_add]
    exact ⟨ws[i], atI_nat (by rw [List.getElem?_map, List.getElem?_eq_getElem (by omega)]; rfl)⟩
  try dsimp only
  rw [st_seq, st_set]
  simp only [ex_c, ex_var, ex_op, ex_un, ex_b, ex_and, ex_or, ex_not, ex_andV, ex_orV, ex_notV, ex_if, ex_chain, ex_nil, ex_cons, ex_tup, ex_lst, ex_call, ex_callP, ex_cb, ex_bm, ex_rep, ex_sl, ex_noPart, ex_part, ex_yes, it_items, it_rng1, it_rng2, tg_name, tg_sub, tg_tup, tg_cons, tg_nil, gs_0, gs_s, ss_0, ss_s, op_ii, op_ss, op_tt, op_mm, op_sb, op_ng, op_iNf, op_iNt, op_lle, op_ixT, op_ixR, op_ixL, op_putE, op_appE, it_tupE, it_rolE, it_refE, lstOf_l, exL, asS_some, asI_int, asB_bl, asL_some, asN_some, ite3_t, ite3_f, bl_1, bl_lenT, bl_lenR, bl_lenL, bl_lenS, bl_tuple, bl_list, bl_abs, bl_intI, bl_intB, bl_max, bl_min, op_eqSf, op_eqSt, op_eqIf, op_eqIt, op_eqTf, op_eqTt, op_eqRf, op_eqRt, op_eqNf, op_eqNt, eqD_int, eqD_nil, pl_int, pl_nil, pl_non, pl_rnil, pl_bl, sl_tupE, sl_rolE, keep_ref, keep_tup, keep_rol, tp_int, tp_tup, tp_rol, tp_str, tp_bl, tp_non, tp_ref, oFd, oMd, oPw, oShl, oLt, oLe, oGt, oGe, op_in, op_cp, wipe_nil, wipe_cons, mset_same, true_and, and_true, isN_int, ex_lstF, ex_repF, ex_lgF1, ex_lgF2, ex_tupRg1, ex_tupRg2, ex_frz, ex_slF, ex_slM, sl_tupF, sl_rolF, op_iiF, op_ssF, op_ttF, op_rrF, op_rrM, op_mmF, op_repF, li_rol, li_ref, bl_listF, bl_allF, bl_anyF, asT_some, asJ_some, op_eqBf, op_eqBt, isN_non, Bool.not_true, Bool.not_false, rep2]
  refine ⟨Nat.zero_le _, fun l hl => ?_⟩
  have hla := f.ne hl
  try dsimp only
  rw [st_seq, st_for]
  simp only [ex_c, ex_var, ex_op, ex_un, ex_b, ex_and, ex_or, ex_not, ex_andV, ex_orV, ex_notV, ex_if, ex_chain, ex_nil, ex_cons, ex_tup, ex_lst, ex_call, ex_callP, ex_cb, ex_bm, ex_rep, ex_sl, ex_noPart, ex_part, ex_yes, it_items, it_rng1, it_rng2, tg_name, tg_sub, tg_tup, tg_cons, tg_nil, gs_0, gs_s, ss_0, ss_s, op_ii, op_ss, op_tt, op_mm, op_sb, op_ng, op_iNf, op_iNt, op_lle, op_ixT, op_ixR, op_ixL, op_putE, op_appE, it_tupE, it_rolE, it_refE, lstOf_l, exL, asS_some, asI_int, asB_bl, asL_some, asN_some, ite3_t, ite3_f, bl_1, bl_lenT, bl_lenR, bl_lenL, bl_lenS, bl_tuple, bl_list, bl_abs, bl_intI, bl_intB, bl_max, bl_min, op_eqSf, op_eqSt, op_eqIf, op_eqIt, op_eqTf, op_eqTt, op_eqRf, op_eqRt, op_eqNf, op_eqNt, eqD_int, eqD_nil, pl_int, pl_nil, pl_non, pl_rnil, pl_bl, sl_tupE, sl_rolE, keep_ref, keep_tup, keep_rol, tp_int, tp_tup, tp_rol, tp_str, tp_bl, tp_non, tp_ref, oFd, oMd, oPw, oShl, oLt, oLe, oGt, oGe, op_in, op_cp, wipe_nil, wipe_cons, mset_same, true_and, and_true, isN_int, ex_lstF, ex_repF, ex_lgF1, ex_lgF2, ex_tupRg1, ex_tupRg2, ex_frz, ex_slF, ex_slM, sl_tupF, sl_rolF, op_iiF, op_ssF, op_ttF, op_rrF, op_rrM, op_mmF, op_repF, li_rol, li_ref, bl_listF, bl_allF, bl_anyF, asT_some, asJ_some, op_eqBf, op_eqBt, isN_non, Bool.not_true, Bool.not_false, rep2]
  refine ⟨by omega, by omega, ?_⟩
  rw [Int.toNat_natCast]
  refine for_rg (fun p τ M => p ≤ n ∧ (∃ T : Tab, M l = some (.lst (T.map rowD)) ∧ T.length = p ∧ (∀ r ∈ T, r.length = n ∧ ∀ e ∈ r, EdB 13 e) ∧ Fd (b + 7 + 22 * p) M a ∧ Gr a Ma M) ∧ ∃ x4 x6 x7, τ = [some (.ref a), some (.int n), some (.int way), some (.rol (ws.map D.int)), x4, some (.ref l), x6, x7]) ?_ ?_
    ⟨Nat.zero_le _, ⟨[], mset_same, rfl, (fun r hr => nomatch hr), (f.put hla).mono (by omega), o.gr.put (o.gr.none hl hla)⟩, _, _, _, rfl⟩
  · rintro p τ M2 hp ⟨_, ⟨T, hM, hTl, hT, f, g⟩, x4, x6, x7, rfl⟩ X hX
    obtain ⟨xp, hxp⟩ := at' p hp
    rw [tg_name, st_seq, st_set]
    simp only [ex_c, ex_var, ex_op, ex_un, ex_b, ex_and, ex_or, ex_not, ex_andV, ex_orV, ex_notV, ex_if, ex_chain, ex_nil, ex_cons, ex_tup, ex_lst, ex_call, ex_callP, ex_cb, ex_bm, ex_rep, ex_sl, ex_noPart, ex_part, ex_yes, it_items, it_rng1, it_rng2, tg_name, tg_sub, tg_tup, tg_cons, tg_nil, gs_0, gs_s, ss_0, ss_s, op_ii, op_ss, op_tt, op_mm, op_sb, op_ng, op_iNf, op_iNt, op_lle, op_ixT, op_ixR, op_ixL, op_putE, op_appE, it_tupE, it_rolE, it_refE, lstOf_l, exL, asS_some, asI_int, asB_bl, asL_some, asN_some, ite3_t, ite3_f, bl_1, bl_lenT, bl_lenR, bl_lenL, bl_lenS, bl_tuple, bl_list, bl_abs, bl_intI, bl_intB, bl_max, bl_min, op_eqSf, op_eqSt, op_eqIf, op_eqIt, op_eqTf, op_eqTt, op_eqRf, op_eqRt, op_eqNf, op_eqNt, eqD_int, eqD_nil, pl_int, pl_nil, pl_non, pl_rnil, pl_bl, sl_tupE, sl_rolE, keep_ref, keep_tup, keep_rol, tp_int, tp_tup, tp_rol, tp_str, tp_bl, tp_non, tp_ref, oFd, oMd, oPw, oShl, oLt, oLe, oGt, oGe, op_in, op_cp, wipe_nil, wipe_cons, mset_same, true_and, and_true, isN_int, ex_lstF, ex_repF, ex_lgF1, ex_lgF2, ex_tupRg1, ex_tupRg2, ex_frz, ex_slF, ex_slM, sl_tupF, sl_rolF, op_iiF, op_ssF, op_ttF, op_rrF, op_rrM, op_mmF, op_repF, li_rol, li_ref, bl_listF, bl_allF, bl_anyF, asT_some, asJ_some, op_eqBf, op_eqBt, isN_non, Bool.not_true, Bool.not_false, rep2, ex_lc]
    refine ⟨by omega, by omega, ?_⟩
    rw [Int.toNat_natCast]
    refine lc_pv (fun i acc M => ∃ r : List Ed, acc = r.map oD ∧ r.length = i ∧ (∀ e ∈ r, EdB 13 e) ∧ i ≤ n ∧ Fd (b + 7 + 22 * p + 3 * i) M a ∧ Only a M2 M) ?_ ?_ ⟨[], rfl, rfl, (fun e he => nomatch he), Nat.zero_le _, f, .refl⟩
    · rintro i d acc M3 hd ⟨r, rfl, hrl, hr, hi, f3, o3⟩ Y hY
      obtain ⟨hlt, rfl⟩ := rgD_get hd
      obtain ⟨xi, hxi⟩ := at' i hlt
      refine ⟨True.intro, ?_⟩
      simp only [ex_c, ex_var, ex_op, ex_un, ex_b, ex_and, ex_or, ex_not, ex_andV, ex_orV, ex_notV, ex_if, ex_chain, ex_nil, ex_cons, ex_tup, ex_lst, ex_call, ex_callP, ex_cb, ex_bm, ex_rep, ex_sl, ex_noPart, ex_part, ex_yes, it_items, it_rng1, it_rng2, tg_name, tg_sub, tg_tup, tg_cons, tg_nil, gs_0, gs_s, ss_0, ss_s, op_ii, op_ss, op_tt, op_mm, op_sb, op_ng, op_iNf, op_iNt, op_lle, op_ixT, op_ixR, op_ixL, op_putE, op_appE, it_tupE, it_rolE, it_refE, lstOf_l, exL, asS_some, asI_int, asB_bl, asL_some, asN_some, ite3_t, ite3_f, bl_1, bl_lenT, bl_lenR, bl_lenL, bl_lenS, bl_tuple, bl_list, bl_abs, bl_intI, bl_intB, bl_max, bl_min, op_eqSf, op_eqSt, op_eqIf, op_eqIt, op_eqTf, op_eqTt, op_eqRf, op_eqRt, op_eqNf, op_eqNt, eqD_int, eqD_nil, pl_int, pl_nil, pl_non, pl_rnil, pl_bl, sl_tupE, sl_rolE, keep_ref, keep_tup, keep_rol, tp_int, tp_tup, tp_rol, tp_str, tp_bl, tp_non, tp_ref, oFd, oMd, oPw, oShl, oLt, oLe, oGt, oGe, op_in, op_cp, wipe_nil, wipe_cons, mset_same, true_and, and_true, isN_int, ex_lstF, ex_repF, ex_lgF1, ex_lgF2, ex_tupRg1, ex_tupRg2, ex_frz, ex_slF, ex_slM, sl_tupF, sl_rolF, op_iiF, op_ssF, op_ttF, op_rrF, op_rrM, op_mmF, op_repF, li_rol, li_ref, bl_listF, bl_allF, bl_anyF, asT_some, asJ_some, op_eqBf, op_eqBt, isN_non, Bool.not_true, Bool.not_false, rep2, hxp, hxi]
      refine ke _ (b + 7 + 22 * p + 3 * i) _ _ _ _ _ f3 (by omega) fun e M4 he f4 o4 => ?_
      refine ⟨by rw [List.length_map]; omega, hY _ _ ⟨r ++ [e], by rw [List.map_append]; rfl, by rw [List.length_append, hrl]; rfl, fun x hx => ?_, hlt, f4.mono (by omega), o3.trans o4⟩⟩
      rcases List.mem_append.mp hx with h | h
      · exact hr x h
      · rw [List.mem_singleton] at h; rw [h]; exact he
    rintro acc M3 ⟨r, rfl, hrl, hr, hi, f3, o3⟩
    rw [rgD_len] at hrl
    refine ⟨True.intro, fun e he => ?_⟩
    have hM3 : M3 l = some (.lst (T.map rowD)) := (o3 l hla).trans hM
    have hel : l ≠ e := fun z => by rw [z, he] at hM3; cases hM3
    have hea := f3.ne he
    try dsimp only
    rw [st_seq, st_asg]
    simp only [ex_c, ex_var, ex_op, ex_un, ex_b, ex_and, ex_or, ex_not, ex_andV, ex_orV, ex_notV, ex_if, ex_chain, ex_nil, ex_cons, ex_tup, ex_lst, ex_call, ex_callP, ex_cb, ex_bm, ex_rep, ex_sl, ex_noPart, ex_part, ex_yes, it_items, it_rng1, it_rng2, tg_name, tg_sub, tg_tup, tg_cons, tg_nil, gs_0, gs_s, ss_0, ss_s, op_ii, op_ss, op_tt, op_mm, op_sb, op_ng, op_iNf, op_iNt, op_lle, op_ixT, op_ixR, op_ixL, op_putE, op_appE, it_tupE, it_rolE, it_refE, lstOf_l, exL, asS_some, asI_int, asB_bl, asL_some, asN_some, ite3_t, ite3_f, bl_1, bl_lenT, bl_lenR, bl_lenL, bl_lenS, bl_tuple, bl_list, bl_abs, bl_intI, bl_intB, bl_max, bl_min, op_eqSf, op_eqSt, op_eqIf, op_eqIt, op_eqTf, op_eqTt, op_eqRf, op_eqRt, op_eqNf, op_eqNt, eqD_int, eqD_nil, pl_int, pl_nil, pl_non, pl_rnil, pl_bl, sl_tupE, sl_rolE, keep_ref, keep_tup, keep_rol, tp_int, tp_tup, tp_rol, tp_str, tp_bl, tp_non, tp_ref, oFd, oMd, oPw, oShl, oLt, oLe, oGt, oGe, op_in, op_cp, wipe_nil, wipe_cons, mset_same, true_and, and_true, isN_int, ex_lstF, ex_repF, ex_lgF1, ex_lgF2, ex_tupRg1, ex_tupRg2, ex_frz, ex_slF, ex_slM, sl_tupF, sl_rolF, op_iiF, op_ssF, op_ttF, op_rrF, op_rrM, op_mmF, op_repF, li_rol, li_ref, bl_listF, bl_allF, bl_anyF, asT_some, asJ_some, op_eqBf, op_eqBt, isN_non, Bool.not_true, Bool.not_false, rep2, tp_int]
    have hd : ∃ z : Int, (-1 * if decide (way = 5) = true then 1 else 0 : Int) = z ∧ -1 ≤ z ∧ z ≤ 0 := ⟨_, rfl, by split <;> decide, by split <;> decide⟩
    obtain ⟨z, hz, z0, z1⟩ := hd
    rw [hz]
    refine ⟨CMul.ok (.inl ⟨by decide, by decide⟩), by show 8 ≤ sizeLine; omega, kd _ (b + 7 + 22 * p + 3 * 7) _ _ _ _ ((f3.mono (by omega)).put hea) (by omega) (by decide) (by decide) fun x M4 x0 x1 f4 o4 => ?_⟩
    have hat : ∃ y, atI [D.non, D.int 0, D.non, D.int 3, D.int 0, D.non, D.int 12, D.int z] x = some (oD y) ∧ EdB 13 y := by
      have : x = 0 ∨ x = 1 ∨ x = 2 ∨ x = 3 ∨ x = 4 ∨ x = 5 ∨ x = 6 ∨ x = 7 := by omega
      rcases this with rfl | rfl | rfl | rfl | rfl | rfl | rfl | rfl
      · exact ⟨none, rfl, fun j hj => nomatch hj⟩
      · exact ⟨some 0, rfl, edb (by decide) (by decide)⟩
      · exact ⟨none, rfl, fun j hj => nomatch hj⟩
      · exact ⟨some 3, rfl, edb (by decide) (by decide)⟩
      · exact ⟨some 0, rfl, edb (by decide) (by decide)⟩
      · exact ⟨none, rfl, fun j hj => nomatch hj⟩
      · exact ⟨some 12, rfl, edb (by decide) (by decide)⟩
      · exact ⟨some z, rfl, edb (by omega) (by omega)⟩
    obtain ⟨y, hat, hy⟩ := hat
    have hM4 : M4 e = some (.lst (r.map oD)) := (o4 e hea).trans mset_same
    have hM4l : M4 l = some (.lst (T.map rowD)) := ((o4 l hla).trans (mset_ne hel)).trans hM3
    have hix : ixN (r.map oD).length (0 + (p : Int)) = some p := by
      unfold ixN
      rw [List.length_map, if_pos (by omega), if_pos (by omega), Int.zero_add, Int.toNat_natCast]
    simp only [ex_c, ex_var, ex_op, ex_un, ex_b, ex_and, ex_or, ex_not, ex_andV, ex_orV, ex_notV, ex_if, ex_chain, ex_nil, ex_cons, ex_tup, ex_lst, ex_call, ex_callP, ex_cb, ex_bm, ex_rep, ex_sl, ex_noPart, ex_part, ex_yes, it_items, it_rng1, it_rng2, tg_name, tg_sub, tg_tup, tg_cons, tg_nil, gs_0, gs_s, ss_0, ss_s, op_ii, op_ss, op_tt, op_mm, op_sb, op_ng, op_iNf, op_iNt, op_lle, op_ixT, op_ixR, op_ixL, op_putE, op_appE, it_tupE, it_rolE, it_refE, lstOf_l, exL, asS_some, asI_int, asB_bl, asL_some, asN_some, ite3_t, ite3_f, bl_1, bl_lenT, bl_lenR, bl_lenL, bl_lenS, bl_tuple, bl_list, bl_abs, bl_intI, bl_intB, bl_max, bl_min, op_eqSf, op_eqSt, op_eqIf, op_eqIt, op_eqTf, op_eqTt, op_eqRf, op_eqRt, op_eqNf, op_eqNt, eqD_int, eqD_nil, pl_int, pl_nil, pl_non, pl_rnil, pl_bl, sl_tupE, sl_rolE, keep_ref, keep_tup, keep_rol, tp_int, tp_tup, tp_rol, tp_str, tp_bl, tp_non, tp_ref, oFd, oMd, oPw, oShl, oLt, oLe, oGt, oGe, op_in, op_cp, wipe_nil, wipe_cons, mset_same, true_and, and_true, isN_int, ex_lstF, ex_repF, ex_lgF1, ex_lgF2, ex_tupRg1, ex_tupRg2, ex_frz, ex_slF, ex_slM, sl_tupF, sl_rolF, op_iiF, op_ssF, op_ttF, op_rrF, op_rrM, op_mmF, op_repF, li_rol, li_ref, bl_listF, bl_allF, bl_anyF, asT_some, asJ_some, op_eqBf, op_eqBt, isN_non, Bool.not_true, Bool.not_false, rep2, hat, hM4, hix]
    try dsimp only
    rw [st_drop]
    simp only [ex_c, ex_var, ex_op, ex_un, ex_b, ex_and, ex_or, ex_not, ex_andV, ex_orV, ex_notV, ex_if, ex_chain, ex_nil, ex_cons, ex_tup, ex_lst, ex_call, ex_callP, ex_cb, ex_bm, ex_rep, ex_sl, ex_noPart, ex_part, ex_yes, it_items, it_rng1, it_rng2, tg_name, tg_sub, tg_tup, tg_cons, tg_nil, gs_0, gs_s, ss_0, ss_s, op_ii, op_ss, op_tt, op_mm, op_sb, op_ng, op_iNf, op_iNt, op_lle, op_ixT, op_ixR, op_ixL, op_putE, op_appE, it_tupE, it_rolE, it_refE, lstOf_l, exL, asS_some, asI_int, asB_bl, asL_some, asN_some, ite3_t, ite3_f, bl_1, bl_lenT, bl_lenR, bl_lenL, bl_lenS, bl_tuple, bl_list, bl_abs, bl_intI, bl_intB, bl_max, bl_min, op_eqSf, op_eqSt, op_eqIf, op_eqIt, op_eqTf, op_eqTt, op_eqRf, op_eqRt, op_eqNf, op_eqNt, eqD_int, eqD_nil, pl_int, pl_nil, pl_non, pl_rnil, pl_bl, sl_tupE, sl_rolE, keep_ref, keep_tup, keep_rol, tp_int, tp_tup, tp_rol, tp_str, tp_bl, tp_non, tp_ref, oFd, oMd, oPw, oShl, oLt, oLe, oGt, oGe, op_in, op_cp, wipe_nil, wipe_cons, mset_same, true_and, and_true, isN_int, ex_lstF, ex_repF, ex_lgF1, ex_lgF2, ex_tupRg1, ex_tupRg2, ex_frz, ex_slF, ex_slM, sl_tupF, sl_rolF, op_iiF, op_ssF, op_ttF, op_rrF, op_rrM, op_mmF, op_repF, li_rol, li_ref, bl_listF, bl_allF, bl_anyF, asT_some, asJ_some, op_eqBf, op_eqBt, isN_non, Bool.not_true, Bool.not_false, rep2]
    have hM5 : mset M4 e (.lst ((r.map oD).set p (oD y))) l = some (.lst (T.map rowD)) := (mset_ne hel).trans hM4l
    refine ⟨⟨_, hM5⟩, ?_⟩
    rw [hM5]
    have hle : T.length < sizeLine := by omega
    (try simp only [ex_c, ex_var, ex_op, ex_un, ex_b, ex_and, ex_or, ex_not, ex_andV, ex_orV, ex_notV, ex_if, ex_chain, ex_nil, ex_cons, ex_tup, ex_lst, ex_call, ex_callP, ex_cb, ex_bm, ex_rep, ex_sl, ex_noPart, ex_part, ex_yes, it_items, it_rng1, it_rng2, tg_name, tg_sub, tg_tup, tg_cons, tg_nil, gs_0, gs_s, ss_0, ss_s, op_ii, op_ss, op_tt, op_mm, op_sb, op_ng, op_iNf, op_iNt, op_lle, op_ixT, op_ixR, op_ixL, op_putE, op_appE, it_tupE, it_rolE, it_refE, lstOf_l, exL, asS_some, asI_int, asB_bl, asL_some, asN_some, ite3_t, ite3_f, bl_1, bl_lenT, bl_lenR, bl_lenL, bl_lenS, bl_tuple, bl_list, bl_abs, bl_intI, bl_intB, bl_max, bl_min, op_eqSf, op_eqSt, op_eqIf, op_eqIt, op_eqTf, op_eqTt, op_eqRf, op_eqRt, op_eqNf, op_eqNt, eqD_int, eqD_nil, pl_int, pl_nil, pl_non, pl_rnil, pl_bl, sl_tupE, sl_rolE, keep_ref, keep_tup, keep_rol, tp_int, tp_tup, tp_rol, tp_str, tp_bl, tp_non, tp_ref, oFd, oMd, oPw, oShl, oLt, oLe, oGt, oGe, op_in, op_cp, wipe_nil, wipe_cons, mset_same, true_and, and_true, isN_int, ex_lstF, ex_repF, ex_lgF1, ex_lgF2, ex_tupRg1, ex_tupRg2, ex_frz, ex_slF, ex_slM, sl_tupF, sl_rolF, op_iiF, op_ssF, op_ttF, op_rrF, op_rrM, op_mmF, op_repF, li_rol, li_ref, bl_listF, bl_allF, bl_anyF, asT_some, asJ_some, op_eqBf, op_eqBt, isN_non, Bool.not_true, Bool.not_false, rep2, List.length_map])
    have he0 : Ma e = none := (g.trans o3.gr).none he hea
    have hl0 : Ma l = none := o.gr.none hl hla
    refine ⟨hle, hX _ _ ⟨hp, ⟨T ++ [r.set p y], ?_, by rw [List.length_append, hTl]; rfl, fun r' hr' => ?_, ((f4.put hea).put hla).mono (by omega), ((((g.trans o3.gr).put he0).trans o4.gr).put he0).put hl0⟩, _, _, _, rfl⟩⟩
    · rw [mset_same, List.map_append, ← List.map_set]; rfl
    · rcases List.mem_append.mp hr' with h | h
      · exact hT r' h
      · rw [List.mem_singleton] at h
        subst h
        refine ⟨by rw [List.length_set]; exact hrl, fun x hx => ?_⟩
        rcases List.mem_or_eq_of_mem_set hx with h | h
        · exact hr x h
        · rw [h]; exact hy
  · rintro τ M ⟨_, ⟨T, hM, hTl, hT, f, g⟩, x4, x6, x7, rfl⟩
    try dsimp only
    rw [st_ret]
    simp only [ex_c, ex_var, ex_op, ex_un, ex_b, ex_and, ex_or, ex_not, ex_andV, ex_orV, ex_notV, ex_if, ex_chain, ex_nil, ex_cons, ex_tup, ex_lst, ex_call, ex_callP, ex_cb, ex_bm, ex_rep, ex_sl, ex_noPart, ex_part, ex_yes, it_items, it_rng1, it_rng2, tg_name, tg_sub, tg_tup, tg_cons, tg_nil, gs_0, gs_s, ss_0, ss_s, op_ii, op_ss, op_tt, op_mm, op_sb, op_ng, op_iNf, op_iNt, op_lle, op_ixT, op_ixR, op_ixL, op_putE, op_appE, it_tupE, it_rolE, it_refE, lstOf_l, exL, asS_some, asI_int, asB_bl, asL_some, asN_some, ite3_t, ite3_f, bl_1, bl_lenT, bl_lenR, bl_lenL, bl_lenS, bl_tuple, bl_list, bl_abs, bl_intI, bl_intB, bl_max, bl_min, op_eqSf, op_eqSt, op_eqIf, op_eqIt, op_eqTf, op_eqTt, op_eqRf, op_eqRt, op_eqNf, op_eqNt, eqD_int, eqD_nil, pl_int, pl_nil, pl_non, pl_rnil, pl_bl, sl_tupE, sl_rolE, keep_ref, keep_tup, keep_rol, tp_int, tp_tup, tp_rol, tp_str, tp_bl, tp_non, tp_ref, oFd, oMd, oPw, oShl, oLt, oLe, oGt, oGe, op_in, op_cp, wipe_nil, wipe_cons, mset_same, true_and, and_true, isN_int, ex_lstF, ex_repF, ex_lgF1, ex_lgF2, ex_tupRg1, ex_tupRg2, ex_frz, ex_slF, ex_slM, sl_tupF, sl_rolF, op_iiF, op_ssF, op_ttF, op_rrF, op_rrM, op_mmF, op_repF, li_rol, li_ref, bl_listF, bl_allF, bl_anyF, asT_some, asJ_some, op_eqBf, op_eqBt, isN_non, Bool.not_true, Bool.not_false, rep2, hM]
    exact q T _ ⟨hTl, fun r hr => (hT r hr).1, fun r hr e he => (hT r hr).2 e he⟩ (f.mono (by omega)) g
end L3
set_option Elab.async false
set_option linter.all false
set_option maxRecDepth 100000
set_option maxHeartbeats 4000000
namespace L3
open PySem PySem.Spec PyProof.Rows L2
def least7R : XK3 → TS3 := fun E =>
  (wSeq (wSet 2 (wRep (wC .non) (wCB bLen (wCons (wVar 0) wNil))))
  (wSeq (wAsg (wC (.int 0)) (wgSub (wVar 2) (wVar 1) oPut))
  (wSeq (wSet 3 (wLst wNil))
  (wSeq (wFor (wRng1 (wCons (wCB bLen (wCons (wVar 0) wNil)) wNil)) (wgName 4) (wDrop (wBM oExtF (wVar 3) (wCons (wLcF (wRng1 (wCons (wCB bLen (wCons (wVar 0) wNil)) wNil)) (wgName 5) (wB (wOp (oIsN true) (wOp oIx (wOp oIx (wVar 0) (wVar 4)) (wVar 5)) (wC .non))) (wTup (wCons (wVar 4) (wCons (wVar 5) (wCons (wOp oIx (wOp oIx (wVar 0) (wVar 4)) (wVar 5)) wNil)))) [5]) wNil))))
  (wSeq (wFor (wRng1 (wCons (wOp oAddF (wCB bLen (wCons (wVar 0) wNil)) (wC (.int 1))) wNil)) (wgName 6) (wSeq (wSet 7 (wCB bListF (wCons (wVar 2) wNil)))
  (wSeq (wFor (wItems (wVar 3)) (wgTupN 3 (wgCons (wgName 4) (wgCons (wgName 5) (wgCons (wgName 8) wgNil)))) (wIfS (wAnd (wB (wOp (oIsN true) (wOp oIx (wVar 2) (wVar 4)) (wC .non))) (wOr (wB (wOp (oIsN false) (wOp oIx (wVar 2) (wVar 5)) (wC .non))) (wB (wOp oLt (wOp oAddF (wOp oIx (wVar 2) (wVar 4)) (wVar 8)) (wOp oIx (wVar 2) (wVar 5)))))) (wAsg (wOp oAddF (wOp oIx (wVar 2) (wVar 4)) (wVar 8)) (wgSub (wVar 2) (wVar 5) oPut)) wNext))
  (wIfS (wB (wOp (oEq false) (wVar 2) (wVar 7))) (wRet (wCB bTuple (wCons (wVar 2) wNil))) wNext))))
  (wRet (wC .non)))))))
def RowFrom (n : Nat) (T : Tab) (p : Nat) (d : D) : Prop := (d = .non ∧ ∀ S, ¬ IsCl n (at2 T) S) ∨ ∃ l : List Ed, d = rowD l ∧ l.length = n ∧ Stable n (at2 T) (at1 l) ∧ eLe (at1 l p) (some 0) ∧ ∀ S, IsCl n (at2 T) S → ∀ i, i < n → at1 l i = S p i
def SLeast7 (sp : Sp3) : Prop := ∀ (n B p : Nat) (T : Tab) (Q : VK3) (E : XK3), n ≤ 100 → TabB B n T → p < n → (∀ d M, RowFrom n T p d → Q d M) → sp [tabD T, .int p] M0 Q E
theorem loosN_fix {es : List Edge} {l : List Ed} {k : Nat} (h : loosN es l (k + 1) = loosN es l k) : ∀ m, loosN es l (k + m) = loosN es l k
  | 0 => rfl
  | m + 1 => by
    show loosL (loosN es l (k + m)) es = _
    rw [loosN_fix h m]; exact h
theorem loosN_len {n i : Nat} {es : List Edge} (h : i < n) : ∀ k, (loosN es (row0 n i) k).length = n
  | 0 => row0_len h
  | k + 1 => by
    show (loosL (loosN es (row0 n i) k) es).length = n
    rw [loosL_len, loosN_len h k]
theorem loosN_low {n i : Nat} {es : List Edge} (h : i < n) : ∀ k, eLe (at1 (loosN es (row0 n i) k) i) (some 0)
  | 0 => by show eLe (at1 (row0 n i) i) _; rw [row0_at h h, if_pos rfl]; exact eLe.rfl'
  | k + 1 => eLe_trans (loosL_le i) (loosN_low h k)
/-- what stands still is a row -/
theorem row_found {n p k : Nat} {T : Tab} {es : List Edge} (hp : p < n) (hE : Es n (at2 T) es) (h : loosN es (row0 n p) (k + 1) = loosN es (row0 n p) k) : RowFrom n T p (rowD (loosN es (row0 n p) (k + 1))) := by
  refine .inr ⟨_, rfl, loosN_len hp _, ?_, loosN_low hp _, fun S c i hi => ?_⟩
  · rw [hE.st, h]
    refine loos_st h fun x hx => ?_
    rw [loosN_len hp]
    exact hE.rg x hx
  · have d := (way0 c hp).done c hE hp (k := k + n) (by omega) i hi
    rw [loosN_fix h] at d
    rw [h]; exact d
theorem row_lost {n p : Nat} {T : Tab} {es : List Edge} (hp : p < n) (hE : Es n (at2 T) es) (h : ∀ k, k < n + 1 → loosN es (row0 n p) (k + 1) ≠ loosN es (row0 n p) k) : RowFrom n T p .non := by
  refine .inl ⟨rfl, fun S c => h n (by omega) ?_⟩
  have w := way0 c hp
  have d1 := w.done c hE hp (k := n + 1) (by omega)
  have d2 := w.done c hE hp (k := n) (by omega)
  apply List.ext_getElem (by rw [loosN_len hp, loosN_len hp])
  intro j g1 g2
  have hj : j < n := by rw [loosN_len hp] at g1; exact g1
  have e := (d1 j hj).trans (d2 j hj).symm
  simpa [at1, g1, g2] using e
theorem edg_es {n B : Nat} {T : Tab} {ts : List Trip} (t : TabB B n T) (h : Edg n B (T, List.range n) n 0 ts) : Es n (at2 T) (ts.map edgeOf) := by
  refine ⟨fun s => ?_, fun e he => ?_⟩
  · rw [h.2.2 s]
    have hl : (T, List.range n).1.length = n := t.rows
    rw [hl]
    constructor
    · intro z i j hi hj _
      show eLe (s ((List.range n).getD j 0)) (eAdd (s ((List.range n).getD i 0)) _)
      rw [range_getD hi, range_getD hj]; exact z i hi j hj
    · intro z i hi j hj
      have := z i j hi hj (.inl hi)
      have this : eLe (s ((List.range n).getD j 0)) (eAdd (s ((List.range n).getD i 0)) (at2 T i j)) := this
      rw [range_getD hi, range_getD hj] at this; exact this
  · obtain ⟨u, hu, rfl⟩ := List.mem_map.mp he
    obtain ⟨⟨b1, b2, b3, b4⟩, _⟩ := h.1 u hu
    show u.1.toNat < n ∧ u.2.1.toNat < n
    omega
theorem s_least7 : SLeast7 (spOf 2 9 least7R) := by
  refine fun n B p T Q E hn tT hp q => ⟨rfl, ?_⟩
  show least7R E _ [some (tabD T), some (.int p), none, none, none, none, none, none, none] M0
  unfold least7R
  have big : (1000000 : Nat) ≤ sizeLine := by decide
  rw [st_seq, st_set]
  simp only [ex_c, ex_var, ex_op, ex_un, ex_b, ex_and, ex_or, ex_not, ex_andV, ex_orV, ex_notV, ex_if, ex_chain, ex_nil, ex_cons, ex_tup, ex_lst, ex_call, ex_callP, ex_cb, ex_bm, ex_rep, ex_sl, ex_noPart, ex_part, ex_yes, it_items, it_rng1, it_rng2, tg_name, tg_sub, tg_tup, tg_cons, tg_nil, gs_0, gs_s, ss_0, ss_s, op_ii, op_ss, op_tt, op_mm, op_sb, op_ng, op_iNf, op_iNt, op_lle, op_ixT, op_ixR, op_ixL, op_putE, op_appE, it_tupE, it_rolE, it_refE, lstOf_l, exL, asS_some, asI_int, asB_bl, asL_some, asN_some, ite3_t, ite3_f, bl_1, bl_lenT, bl_lenR, bl_lenL, bl_lenS, bl_tuple, bl_list, bl_abs, bl_intI, bl_intB, bl_max, bl_min, op_eqSf, op_eqSt, op_eqIf, op_eqIt, op_eqTf, op_eqTt, op_eqRf, op_eqRt, op_eqNf, op_eqNt, eqD_int, eqD_nil, pl_int, pl_nil, pl_non, pl_rnil, pl_bl, sl_tupE, sl_rolE, keep_ref, keep_tup, keep_rol, tp_int, tp_tup, tp_rol, tp_str, tp_bl, tp_non, tp_ref, oFd, oMd, oPw, oShl, oLt, oLe, oGt, oGe, op_in, op_cp, wipe_nil, wipe_cons, mset_same, true_and, and_true, isN_int, ex_lstF, ex_repF, ex_lgF1, ex_lgF2, ex_tupRg1, ex_tupRg2, ex_frz, ex_slF, ex_slM, sl_tupF, sl_rolF, op_iiF, op_ssF, op_ttF, op_rrF, op_rrM, op_mmF, op_repF, li_rol, li_ref, bl_listF, bl_allF, bl_anyF, asT_some, asJ_some, op_eqBf, op_eqBt, isN_non, Bool.not_true, Bool.not_false, rep2, len_tab tT.sq, ex_rep, Int.toNat_natCast]
  refine ⟨by omega, by omega, by omega, fun s hs => ?_⟩
  have hix : ixN (List.replicate n D.non).length (p : Int) = some p := by
    unfold ixN
    rw [List.length_replicate, if_pos (by omega), if_pos (by omega), Int.toNat_natCast]
  try dsimp only
  rw [st_seq, st_asg]
  simp only [ex_c, ex_var, ex_op, ex_un, ex_b, ex_and, ex_or, ex_not, ex_andV, ex_orV, ex_notV, ex_if, ex_chain, ex_nil, ex_cons, ex_tup, ex_lst, ex_call, ex_callP, ex_cb, ex_bm, ex_rep, ex_sl, ex_noPart, ex_part, ex_yes, it_items, it_rng1, it_rng2, tg_name, tg_sub, tg_tup, tg_cons, tg_nil, gs_0, gs_s, ss_0, ss_s, op_ii, op_ss, op_tt, op_mm, op_sb, op_ng, op_iNf, op_iNt, op_lle, op_ixT, op_ixR, op_ixL, op_putE, op_appE, it_tupE, it_rolE, it_refE, lstOf_l, exL, asS_some, asI_int, asB_bl, asL_some, asN_some, ite3_t, ite3_f, bl_1, bl_lenT, bl_lenR, bl_lenL, bl_lenS, bl_tuple, bl_list, bl_abs, bl_intI, bl_intB, bl_max, bl_min, op_eqSf, op_eqSt, op_eqIf, op_eqIt, op_eqTf, op_eqTt, op_eqRf, op_eqRt, op_eqNf, op_eqNt, eqD_int, eqD_nil, pl_int, pl_nil, pl_non, pl_rnil, pl_bl, sl_tupE, sl_rolE, keep_ref, keep_tup, keep_rol, tp_int, tp_tup, tp_rol, tp_str, tp_bl, tp_non, tp_ref, oFd, oMd, oPw, oShl, oLt, oLe, oGt, oGe, op_in, op_cp, wipe_nil, wipe_cons, mset_same, true_and, and_true, isN_int, ex_lstF, ex_repF, ex_lgF1, ex_lgF2, ex_tupRg1, ex_tupRg2, ex_frz, ex_slF, ex_slM, sl_tupF, sl_rolF, op_iiF, op_ssF, op_ttF, op_rrF, op_rrM, op_mmF, op_repF, li_rol, li_ref, bl_listF, bl_allF, bl_anyF, asT_some, asJ_some, op_eqBf, op_eqBt, isN_non, Bool.not_true, Bool.not_false, rep2, hix]
  have e0 : (List.replicate n D.non).set p (.int 0) = (row0 n p).map oD := by
    apply List.ext_getElem? 
    intro i
    by_cases hi : i < n
    · have hi2 : i < (row0 n p).length := by rw [row0_len hp]; exact hi
      have h0 := row0_at hp hi
      unfold at1 at h0
      rw [List.getD_eq_getElem?_getD, List.getElem?_eq_getElem hi2] at h0
      have h0 : (row0 n p)[i] = if i = p then some 0 else none := h0
      rw [List.getElem?_map, List.getElem?_eq_getElem hi2, h0]
      rw [List.getElem?_set]
      by_cases hip : p = i
      · subst hip; simp [hi, oD]
      · simp [hip, Ne.symm hip, hi, oD]
    · rw [List.getElem?_eq_none (by simpa using hi), List.getElem?_eq_none (by rw [List.length_map, row0_len hp]; omega)]
  rw [e0]
  have hMs : mset (mset M0 s (.lst (List.replicate n D.non))) s (.lst ((row0 n p).map oD)) s = some (.lst ((row0 n p).map oD)) := mset_same
  generalize mset (mset M0 s (.lst (List.replicate n D.non))) s (.lst ((row0 n p).map oD)) = M1 at hMs
  try dsimp only
  rw [st_seq, st_set]
  simp only [ex_c, ex_var, ex_op, ex_un, ex_b, ex_and, ex_or, ex_not, ex_andV, ex_orV, ex_notV, ex_if, ex_chain, ex_nil, ex_cons, ex_tup, ex_lst, ex_call, ex_callP, ex_cb, ex_bm, ex_rep, ex_sl, ex_noPart, ex_part, ex_yes, it_items, it_rng1, it_rng2, tg_name, tg_sub, tg_tup, tg_cons, tg_nil, gs_0, gs_s, ss_0, ss_s, op_ii, op_ss, op_tt, op_mm, op_sb, op_ng, op_iNf, op_iNt, op_lle, op_ixT, op_ixR, op_ixL, op_putE, op_appE, it_tupE, it_rolE, it_refE, lstOf_l, exL, asS_some, asI_int, asB_bl, asL_some, asN_some, ite3_t, ite3_f, bl_1, bl_lenT, bl_lenR, bl_lenL, bl_lenS, bl_tuple, bl_list, bl_abs, bl_intI, bl_intB, bl_max, bl_min, op_eqSf, op_eqSt, op_eqIf, op_eqIt, op_eqTf, op_eqTt, op_eqRf, op_eqRt, op_eqNf, op_eqNt, eqD_int, eqD_nil, pl_int, pl_nil, pl_non, pl_rnil, pl_bl, sl_tupE, sl_rolE, keep_ref, keep_tup, keep_rol, tp_int, tp_tup, tp_rol, tp_str, tp_bl, tp_non, tp_ref, oFd, oMd, oPw, oShl, oLt, oLe, oGt, oGe, op_in, op_cp, wipe_nil, wipe_cons, mset_same, true_and, and_true, isN_int, ex_lstF, ex_repF, ex_lgF1, ex_lgF2, ex_tupRg1, ex_tupRg2, ex_frz, ex_slF, ex_slM, sl_tupF, sl_rolF, op_iiF, op_ssF, op_ttF, op_rrF, op_rrM, op_mmF, op_repF, li_rol, li_ref, bl_listF, bl_allF, bl_anyF, asT_some, asJ_some, op_eqBf, op_eqBt, isN_non, Bool.not_true, Bool.not_false, rep2]
  refine ⟨Nat.zero_le _, fun f hf => ?_⟩
  have hsf : s ≠ f := fun z => by rw [z, hf] at hMs; cases hMs
  have pk : PartOk B n (T, List.range n) := part_ok tT List.length_range fun i hi => List.mem_range.mp hi
  have hl0 : (T, List.range n).1.length = n := tT.rows
  try dsimp only
  rw [st_seq, st_for]
  simp only [ex_c, ex_var, ex_op, ex_un, ex_b, ex_and, ex_or, ex_not, ex_andV, ex_orV, ex_notV, ex_if, ex_chain, ex_nil, ex_cons, ex_tup, ex_lst, ex_call, ex_callP, ex_cb, ex_bm, ex_rep, ex_sl, ex_noPart, ex_part, ex_yes, it_items, it_rng1, it_rng2, tg_name, tg_sub, tg_tup, tg_cons, tg_nil, gs_0, gs_s, ss_0, ss_s, op_ii, op_ss, op_tt, op_mm, op_sb, op_ng, op_iNf, op_iNt, op_lle, op_ixT, op_ixR, op_ixL, op_putE, op_appE, it_tupE, it_rolE, it_refE, lstOf_l, exL, asS_some, asI_int, asB_bl, asL_some, asN_some, ite3_t, ite3_f, bl_1, bl_lenT, bl_lenR, bl_lenL, bl_lenS, bl_tuple, bl_list, bl_abs, bl_intI, bl_intB, bl_max, bl_min, op_eqSf, op_eqSt, op_eqIf, op_eqIt, op_eqTf, op_eqTt, op_eqRf, op_eqRt, op_eqNf, op_eqNt, eqD_int, eqD_nil, pl_int, pl_nil, pl_non, pl_rnil, pl_bl, sl_tupE, sl_rolE, keep_ref, keep_tup, keep_rol, tp_int, tp_tup, tp_rol, tp_str, tp_bl, tp_non, tp_ref, oFd, oMd, oPw, oShl, oLt, oLe, oGt, oGe, op_in, op_cp, wipe_nil, wipe_cons, mset_same, true_and, and_true, isN_int, ex_lstF, ex_repF, ex_lgF1, ex_lgF2, ex_tupRg1, ex_tupRg2, ex_frz, ex_slF, ex_slM, sl_tupF, sl_rolF, op_iiF, op_ssF, op_ttF, op_rrF, op_rrM, op_mmF, op_repF, li_rol, li_ref, bl_listF, bl_allF, bl_anyF, asT_some, asJ_some, op_eqBf, op_eqBt, isN_non, Bool.not_true, Bool.not_false, rep2, len_tab tT.sq, Int.toNat_natCast]
  refine ⟨by omega, by omega, ?_⟩
  refine for_rg (fun i τ M => i ≤ n ∧ M s = some (.lst ((row0 n p).map oD)) ∧ (∃ ts, M f = some (.lst (ts.map tripD)) ∧ Edg n B (T, List.range n) i 0 ts) ∧ ∃ x4 x5, τ = [some (tabD T), some (.int p), some (.ref s), some (.ref f), x4, x5, none, none, none]) ?_ ?_
    ⟨Nat.zero_le _, (mset_ne hsf).trans hMs, ⟨[], mset_same, ⟨(fun t ht => nomatch ht), Nat.zero_le _, fun s => ⟨fun _ i j _ _ z => by omega, fun _ e he => nomatch he⟩⟩⟩, _, _, rfl⟩
  · rintro i τ M hi ⟨_, hs1, ⟨ts, hM, hE⟩, x4, x5, rfl⟩ X hX
    rw [tg_name, st_drop]
    simp only [ex_c, ex_var, ex_op, ex_un, ex_b, ex_and, ex_or, ex_not, ex_andV, ex_orV, ex_notV, ex_if, ex_chain, ex_nil, ex_cons, ex_tup, ex_lst, ex_call, ex_callP, ex_cb, ex_bm, ex_rep, ex_sl, ex_noPart, ex_part, ex_yes, it_items, it_rng1, it_rng2, tg_name, tg_sub, tg_tup, tg_cons, tg_nil, gs_0, gs_s, ss_0, ss_s, op_ii, op_ss, op_tt, op_mm, op_sb, op_ng, op_iNf, op_iNt, op_lle, op_ixT, op_ixR, op_ixL, op_putE, op_appE, it_tupE, it_rolE, it_refE, lstOf_l, exL, asS_some, asI_int, asB_bl, asL_some, asN_some, ite3_t, ite3_f, bl_1, bl_lenT, bl_lenR, bl_lenL, bl_lenS, bl_tuple, bl_list, bl_abs, bl_intI, bl_intB, bl_max, bl_min, op_eqSf, op_eqSt, op_eqIf, op_eqIt, op_eqTf, op_eqTt, op_eqRf, op_eqRt, op_eqNf, op_eqNt, eqD_int, eqD_nil, pl_int, pl_nil, pl_non, pl_rnil, pl_bl, sl_tupE, sl_rolE, keep_ref, keep_tup, keep_rol, tp_int, tp_tup, tp_rol, tp_str, tp_bl, tp_non, tp_ref, oFd, oMd, oPw, oShl, oLt, oLe, oGt, oGe, op_in, op_cp, wipe_nil, wipe_cons, mset_same, true_and, and_true, isN_int, ex_lstF, ex_repF, ex_lgF1, ex_lgF2, ex_tupRg1, ex_tupRg2, ex_frz, ex_slF, ex_slM, sl_tupF, sl_rolF, op_iiF, op_ssF, op_ttF, op_rrF, op_rrM, op_mmF, op_repF, li_rol, li_ref, bl_listF, bl_allF, bl_anyF, asT_some, asJ_some, op_eqBf, op_eqBt, isN_non, Bool.not_true, Bool.not_false, rep2, ex_lcF, len_tab tT.sq, Int.toNat_natCast, hM]
    refine ⟨by omega, by omega, ?_⟩
    refine lc_pv (fun j acc M2 => M2 = M ∧ j ≤ n ∧ ∃ us : List Trip, acc = us.map tripD ∧ us.length ≤ j ∧ Edg n B (T, List.range n) i j (ts ++ us)) ?_ ?_ ⟨rfl, Nat.zero_le _, [], rfl, Nat.le_refl _, by rw [List.append_nil]; exact hE⟩
    · rintro j d acc M2 hd ⟨rfl, hj, us, rfl, hul, hE2⟩ Y hY
      obtain ⟨hjl, rfl⟩ := rgD_get hd
      refine ⟨True.intro, ?_⟩
      obtain ⟨r, h3, h4⟩ := ix_tab tT.sq (p := 0 + (i : Int)) (q := 0 + (j : Int)) (by omega) (by omega) (by omega) (by omega)
      have ei : (0 + (i : Int)).toNat = i := by omega
      have ej : (0 + (j : Int)).toNat = j := by omega
      rw [ei, ej] at h4
      simp only [ex_c, ex_var, ex_op, ex_un, ex_b, ex_and, ex_or, ex_not, ex_andV, ex_orV, ex_notV, ex_if, ex_chain, ex_nil, ex_cons, ex_tup, ex_lst, ex_call, ex_callP, ex_cb, ex_bm, ex_rep, ex_sl, ex_noPart, ex_part, ex_yes, it_items, it_rng1, it_rng2, tg_name, tg_sub, tg_tup, tg_cons, tg_nil, gs_0, gs_s, ss_0, ss_s, op_ii, op_ss, op_tt, op_mm, op_sb, op_ng, op_iNf, op_iNt, op_lle, op_ixT, op_ixR, op_ixL, op_putE, op_appE, it_tupE, it_rolE, it_refE, lstOf_l, exL, asS_some, asI_int, asB_bl, asL_some, asN_some, ite3_t, ite3_f, bl_1, bl_lenT, bl_lenR, bl_lenL, bl_lenS, bl_tuple, bl_list, bl_abs, bl_intI, bl_intB, bl_max, bl_min, op_eqSf, op_eqSt, op_eqIf, op_eqIt, op_eqTf, op_eqTt, op_eqRf, op_eqRt, op_eqNf, op_eqNt, eqD_int, eqD_nil, pl_int, pl_nil, pl_non, pl_rnil, pl_bl, sl_tupE, sl_rolE, keep_ref, keep_tup, keep_rol, tp_int, tp_tup, tp_rol, tp_str, tp_bl, tp_non, tp_ref, oFd, oMd, oPw, oShl, oLt, oLe, oGt, oGe, op_in, op_cp, wipe_nil, wipe_cons, mset_same, true_and, and_true, isN_int, ex_lstF, ex_repF, ex_lgF1, ex_lgF2, ex_tupRg1, ex_tupRg2, ex_frz, ex_slF, ex_slM, sl_tupF, sl_rolF, op_iiF, op_ssF, op_ttF, op_rrF, op_rrM, op_mmF, op_repF, li_rol, li_ref, bl_listF, bl_allF, bl_anyF, asT_some, asJ_some, op_eqBf, op_eqBt, isN_non, Bool.not_true, Bool.not_false, rep2, h3, h4]
      cases hc : at2 T i j with
      | none =>
        simp only [ex_c, ex_var, ex_op, ex_un, ex_b, ex_and, ex_or, ex_not, ex_andV, ex_orV, ex_notV, ex_if, ex_chain, ex_nil, ex_cons, ex_tup, ex_lst, ex_call, ex_callP, ex_cb, ex_bm, ex_rep, ex_sl, ex_noPart, ex_part, ex_yes, it_items, it_rng1, it_rng2, tg_name, tg_sub, tg_tup, tg_cons, tg_nil, gs_0, gs_s, ss_0, ss_s, op_ii, op_ss, op_tt, op_mm, op_sb, op_ng, op_iNf, op_iNt, op_lle, op_ixT, op_ixR, op_ixL, op_putE, op_appE, it_tupE, it_rolE, it_refE, lstOf_l, exL, asS_some, asI_int, asB_bl, asL_some, asN_some, ite3_t, ite3_f, bl_1, bl_lenT, bl_lenR, bl_lenL, bl_lenS, bl_tuple, bl_list, bl_abs, bl_intI, bl_intB, bl_max, bl_min, op_eqSf, op_eqSt, op_eqIf, op_eqIt, op_eqTf, op_eqTt, op_eqRf, op_eqRt, op_eqNf, op_eqNt, eqD_int, eqD_nil, pl_int, pl_nil, pl_non, pl_rnil, pl_bl, sl_tupE, sl_rolE, keep_ref, keep_tup, keep_rol, tp_int, tp_tup, tp_rol, tp_str, tp_bl, tp_non, tp_ref, oFd, oMd, oPw, oShl, oLt, oLe, oGt, oGe, op_in, op_cp, wipe_nil, wipe_cons, mset_same, true_and, and_true, isN_int, ex_lstF, ex_repF, ex_lgF1, ex_lgF2, ex_tupRg1, ex_tupRg2, ex_frz, ex_slF, ex_slM, sl_tupF, sl_rolF, op_iiF, op_ssF, op_ttF, op_rrF, op_rrM, op_mmF, op_repF, li_rol, li_ref, bl_listF, bl_allF, bl_anyF, asT_some, asJ_some, op_eqBf, op_eqBt, isN_non, Bool.not_true, Bool.not_false, rep2, oD]
        exact hY _ _ ⟨rfl, hjl, us, rfl, by omega, hE2.skip hc⟩
      | some c =>
        rw [hc] at h4
        simp only [ex_c, ex_var, ex_op, ex_un, ex_b, ex_and, ex_or, ex_not, ex_andV, ex_orV, ex_notV, ex_if, ex_chain, ex_nil, ex_cons, ex_tup, ex_lst, ex_call, ex_callP, ex_cb, ex_bm, ex_rep, ex_sl, ex_noPart, ex_part, ex_yes, it_items, it_rng1, it_rng2, tg_name, tg_sub, tg_tup, tg_cons, tg_nil, gs_0, gs_s, ss_0, ss_s, op_ii, op_ss, op_tt, op_mm, op_sb, op_ng, op_iNf, op_iNt, op_lle, op_ixT, op_ixR, op_ixL, op_putE, op_appE, it_tupE, it_rolE, it_refE, lstOf_l, exL, asS_some, asI_int, asB_bl, asL_some, asN_some, ite3_t, ite3_f, bl_1, bl_lenT, bl_lenR, bl_lenL, bl_lenS, bl_tuple, bl_list, bl_abs, bl_intI, bl_intB, bl_max, bl_min, op_eqSf, op_eqSt, op_eqIf, op_eqIt, op_eqTf, op_eqTt, op_eqRf, op_eqRt, op_eqNf, op_eqNt, eqD_int, eqD_nil, pl_int, pl_nil, pl_non, pl_rnil, pl_bl, sl_tupE, sl_rolE, keep_ref, keep_tup, keep_rol, tp_int, tp_tup, tp_rol, tp_str, tp_bl, tp_non, tp_ref, oFd, oMd, oPw, oShl, oLt, oLe, oGt, oGe, op_in, op_cp, wipe_nil, wipe_cons, mset_same, true_and, and_true, isN_int, ex_lstF, ex_repF, ex_lgF1, ex_lgF2, ex_tupRg1, ex_tupRg2, ex_frz, ex_slF, ex_slM, sl_tupF, sl_rolF, op_iiF, op_ssF, op_ttF, op_rrF, op_rrM, op_mmF, op_repF, li_rol, li_ref, bl_listF, bl_allF, bl_anyF, asT_some, asJ_some, op_eqBf, op_eqBt, isN_non, Bool.not_true, Bool.not_false, rep2, oD, h3, h4]
        have hE3 := hE2.add pk (by rw [hl0]; exact hi) (by rw [hl0]; exact hjl) hc
        have g1 : (T, List.range n).2.getD i 0 = i := range_getD hi
        have g2 : (T, List.range n).2.getD j 0 = j := range_getD hjl
        rw [g1, g2, List.append_assoc] at hE3
        refine ⟨by show 3 ≤ sizeLine; omega, by rw [List.length_map]; omega, hY _ _ ⟨rfl, hjl, us ++ [((i : Int), (j : Int), c)], ?_, by rw [List.length_append]; simp only [List.length_cons, List.length_nil]; omega, hE3⟩⟩
        rw [List.map_append, Int.zero_add, Int.zero_add]; rfl
    · rintro acc M2 ⟨rfl, hj, us, rfl, hul, hE2⟩
      rw [rgD_len] at hE2
      refine ⟨True.intro, ?_⟩
      simp only [ex_c, ex_var, ex_op, ex_un, ex_b, ex_and, ex_or, ex_not, ex_andV, ex_orV, ex_notV, ex_if, ex_chain, ex_nil, ex_cons, ex_tup, ex_lst, ex_call, ex_callP, ex_cb, ex_bm, ex_rep, ex_sl, ex_noPart, ex_part, ex_yes, it_items, it_rng1, it_rng2, tg_name, tg_sub, tg_tup, tg_cons, tg_nil, gs_0, gs_s, ss_0, ss_s, op_ii, op_ss, op_tt, op_mm, op_sb, op_ng, op_iNf, op_iNt, op_lle, op_ixT, op_ixR, op_ixL, op_putE, op_appE, it_tupE, it_rolE, it_refE, lstOf_l, exL, asS_some, asI_int, asB_bl, asL_some, asN_some, ite3_t, ite3_f, bl_1, bl_lenT, bl_lenR, bl_lenL, bl_lenS, bl_tuple, bl_list, bl_abs, bl_intI, bl_intB, bl_max, bl_min, op_eqSf, op_eqSt, op_eqIf, op_eqIt, op_eqTf, op_eqTt, op_eqRf, op_eqRt, op_eqNf, op_eqNt, eqD_int, eqD_nil, pl_int, pl_nil, pl_non, pl_rnil, pl_bl, sl_tupE, sl_rolE, keep_ref, keep_tup, keep_rol, tp_int, tp_tup, tp_rol, tp_str, tp_bl, tp_non, tp_ref, oFd, oMd, oPw, oShl, oLt, oLe, oGt, oGe, op_in, op_cp, wipe_nil, wipe_cons, mset_same, true_and, and_true, isN_int, ex_lstF, ex_repF, ex_lgF1, ex_lgF2, ex_tupRg1, ex_tupRg2, ex_frz, ex_slF, ex_slM, sl_tupF, sl_rolF, op_iiF, op_ssF, op_ttF, op_rrF, op_rrM, op_mmF, op_repF, li_rol, li_ref, bl_listF, bl_allF, bl_anyF, asT_some, asJ_some, op_eqBf, op_eqBt, isN_non, Bool.not_true, Bool.not_false, rep2, op_extF, hM]
      have hlen := hE2.2.1
      rw [List.length_append] at hlen
      have hE4 : Edg n B (T, List.range n) i (T, List.range n).1.length (ts ++ us) := by rw [hl0]; exact hE2
      refine ⟨by rw [List.length_map, List.length_map]; omega, hX _ _ ⟨hi, (mset_ne hsf).trans hs1, ⟨ts ++ us, by rw [mset_same, List.map_append], hE4.row (by rw [hl0]; exact hn)⟩, _, _, rfl⟩⟩
  · rintro τ M ⟨_, hs1, ⟨ts, hM, hE⟩, x4, x5, rfl⟩
    have hes := edg_es tT hE
    have tl := hE.2.1
    have tin : ∀ t ∈ ts, In2 n t := fun t ht => (hE.1 t ht).1
    clear hE
    try dsimp only
    rw [st_seq, st_for]
    simp only [ex_c, ex_var, ex_op, ex_un, ex_b, ex_and, ex_or, ex_not, ex_andV, ex_orV, ex_notV, ex_if, ex_chain, ex_nil, ex_cons, ex_tup, ex_lst, ex_call, ex_callP, ex_cb, ex_bm, ex_rep, ex_sl, ex_noPart, ex_part, ex_yes, it_items, it_rng1, it_rng2, tg_name, tg_sub, tg_tup, tg_cons, tg_nil, gs_0, gs_s, ss_0, ss_s, op_ii, op_ss, op_tt, op_mm, op_sb, op_ng, op_iNf, op_iNt, op_lle, op_ixT, op_ixR, op_ixL, op_putE, op_appE, it_tupE, it_rolE, it_refE, lstOf_l, exL, asS_some, asI_int, asB_bl, asL_some, asN_some, ite3_t, ite3_f, bl_1, bl_lenT, bl_lenR, bl_lenL, bl_lenS, bl_tuple, bl_list, bl_abs, bl_intI, bl_intB, bl_max, bl_min, op_eqSf, op_eqSt, op_eqIf, op_eqIt, op_eqTf, op_eqTt, op_eqRf, op_eqRt, op_eqNf, op_eqNt, eqD_int, eqD_nil, pl_int, pl_nil, pl_non, pl_rnil, pl_bl, sl_tupE, sl_rolE, keep_ref, keep_tup, keep_rol, tp_int, tp_tup, tp_rol, tp_str, tp_bl, tp_non, tp_ref, oFd, oMd, oPw, oShl, oLt, oLe, oGt, oGe, op_in, op_cp, wipe_nil, wipe_cons, mset_same, true_and, and_true, isN_int, ex_lstF, ex_repF, ex_lgF1, ex_lgF2, ex_tupRg1, ex_tupRg2, ex_frz, ex_slF, ex_slM, sl_tupF, sl_rolF, op_iiF, op_ssF, op_ttF, op_rrF, op_rrM, op_mmF, op_repF, li_rol, li_ref, bl_listF, bl_allF, bl_anyF, asT_some, asJ_some, op_eqBf, op_eqBt, isN_non, Bool.not_true, Bool.not_false, rep2, len_tab tT.sq]
    have en : ((n : Int) + 1).toNat = n + 1 := by omega
    rw [en]
    refine ⟨by omega, by omega, ?_⟩
    refine for_rg (fun k τ M => k ≤ n + 1 ∧ M s = some (.lst ((loosN (ts.map edgeOf) (row0 n p) k).map oD)) ∧ M f = some (.lst (ts.map tripD)) ∧ (∀ j, j < k → loosN (ts.map edgeOf) (row0 n p) (j + 1) ≠ loosN (ts.map edgeOf) (row0 n p) j) ∧ ∃ x4 x5 x6 x7 x8, τ = [some (tabD T), some (.int p), some (.ref s), some (.ref f), x4, x5, x6, x7, x8]) ?_ ?_
      ⟨Nat.zero_le _, hs1, hM, (fun j hj => absurd hj (Nat.not_lt_zero _)), _, _, _, _, _, rfl⟩
    · rintro k τ M hk ⟨_, hs1, hM, hne, x4, x5, x6, x7, x8, rfl⟩ X hX
      rw [tg_name, st_seq, st_set]
      simp only [ex_c, ex_var, ex_op, ex_un, ex_b, ex_and, ex_or, ex_not, ex_andV, ex_orV, ex_notV, ex_if, ex_chain, ex_nil, ex_cons, ex_tup, ex_lst, ex_call, ex_callP, ex_cb, ex_bm, ex_rep, ex_sl, ex_noPart, ex_part, ex_yes, it_items, it_rng1, it_rng2, tg_name, tg_sub, tg_tup, tg_cons, tg_nil, gs_0, gs_s, ss_0, ss_s, op_ii, op_ss, op_tt, op_mm, op_sb, op_ng, op_iNf, op_iNt, op_lle, op_ixT, op_ixR, op_ixL, op_putE, op_appE, it_tupE, it_rolE, it_refE, lstOf_l, exL, asS_some, asI_int, asB_bl, asL_some, asN_some, ite3_t, ite3_f, bl_1, bl_lenT, bl_lenR, bl_lenL, bl_lenS, bl_tuple, bl_list, bl_abs, bl_intI, bl_intB, bl_max, bl_min, op_eqSf, op_eqSt, op_eqIf, op_eqIt, op_eqTf, op_eqTt, op_eqRf, op_eqRt, op_eqNf, op_eqNt, eqD_int, eqD_nil, pl_int, pl_nil, pl_non, pl_rnil, pl_bl, sl_tupE, sl_rolE, keep_ref, keep_tup, keep_rol, tp_int, tp_tup, tp_rol, tp_str, tp_bl, tp_non, tp_ref, oFd, oMd, oPw, oShl, oLt, oLe, oGt, oGe, op_in, op_cp, wipe_nil, wipe_cons, mset_same, true_and, and_true, isN_int, ex_lstF, ex_repF, ex_lgF1, ex_lgF2, ex_tupRg1, ex_tupRg2, ex_frz, ex_slF, ex_slM, sl_tupF, sl_rolF, op_iiF, op_ssF, op_ttF, op_rrF, op_rrM, op_mmF, op_repF, li_rol, li_ref, bl_listF, bl_allF, bl_anyF, asT_some, asJ_some, op_eqBf, op_eqBt, isN_non, Bool.not_true, Bool.not_false, rep2, hs1]
      have hL : (loosN (ts.map edgeOf) (row0 n p) k).length = n := loosN_len hp k
      have nx : loosN (ts.map edgeOf) (row0 n p) (k + 1) = loosL (loosN (ts.map edgeOf) (row0 n p) k) (ts.map edgeOf) := rfl
      have found := row_found (k := k) hp hes
      generalize hLk : loosN (ts.map edgeOf) (row0 n p) k = L at hs1 hL nx found
      try dsimp only
      rw [st_seq, st_for]
      simp only [ex_c, ex_var, ex_op, ex_un, ex_b, ex_and, ex_or, ex_not, ex_andV, ex_orV, ex_notV, ex_if, ex_chain, ex_nil, ex_cons, ex_tup, ex_lst, ex_call, ex_callP, ex_cb, ex_bm, ex_rep, ex_sl, ex_noPart, ex_part, ex_yes, it_items, it_rng1, it_rng2, tg_name, tg_sub, tg_tup, tg_cons, tg_nil, gs_0, gs_s, ss_0, ss_s, op_ii, op_ss, op_tt, op_mm, op_sb, op_ng, op_iNf, op_iNt, op_lle, op_ixT, op_ixR, op_ixL, op_putE, op_appE, it_tupE, it_rolE, it_refE, lstOf_l, exL, asS_some, asI_int, asB_bl, asL_some, asN_some, ite3_t, ite3_f, bl_1, bl_lenT, bl_lenR, bl_lenL, bl_lenS, bl_tuple, bl_list, bl_abs, bl_intI, bl_intB, bl_max, bl_min, op_eqSf, op_eqSt, op_eqIf, op_eqIt, op_eqTf, op_eqTt, op_eqRf, op_eqRt, op_eqNf, op_eqNt, eqD_int, eqD_nil, pl_int, pl_nil, pl_non, pl_rnil, pl_bl, sl_tupE, sl_rolE, keep_ref, keep_tup, keep_rol, tp_int, tp_tup, tp_rol, tp_str, tp_bl, tp_non, tp_ref, oFd, oMd, oPw, oShl, oLt, oLe, oGt, oGe, op_in, op_cp, wipe_nil, wipe_cons, mset_same, true_and, and_true, isN_int, ex_lstF, ex_repF, ex_lgF1, ex_lgF2, ex_tupRg1, ex_tupRg2, ex_frz, ex_slF, ex_slM, sl_tupF, sl_rolF, op_iiF, op_ssF, op_ttF, op_rrF, op_rrM, op_mmF, op_repF, li_rol, li_ref, bl_listF, bl_allF, bl_anyF, asT_some, asJ_some, op_eqBf, op_eqBt, isN_non, Bool.not_true, Bool.not_false, rep2, hM]
      refine for_of tripD (fun i τ M' => i ≤ ts.length ∧ M' s = some (.lst ((loosL L ((ts.take i).map edgeOf)).map oD)) ∧ M' f = some (.lst (ts.map tripD)) ∧ ∃ x4 x5 x8, τ = [some (tabD T), some (.int p), some (.ref s), some (.ref f), x4, x5, some (.int (0 + (k : Nat))), some (.rol (L.map oD)), x8]) (fun _ _ _ h => h.2.2.1) ?_ ?_ ⟨Nat.zero_le _, hs1, hM, _, _, _, rfl⟩
      · rintro i t τ M' ht ⟨hi, hs2, hM2, y4, y5, y8, rfl⟩ Y hY
        have hlt := (List.getElem?_eq_some_iff.mp ht).1
        obtain ⟨u, r, z⟩ := t
        obtain ⟨b1, b2, b3, b4⟩ := tin _ (List.mem_of_getElem? ht)
        simp only at b1 b2 b3 b4
        have ny : loosL L ((ts.take (i + 1)).map edgeOf) = loos1 (loosL L ((ts.take i).map edgeOf)) (edgeOf (u, r, z)) := by
          rw [List.take_succ, ht, List.map_append]
          simp [loosL, List.foldl_append]
        have hlen : (loosL L ((ts.take i).map edgeOf)).length = n := loosL_len.trans hL
        generalize loosL L ((ts.take i).map edgeOf) = m at ny hs2 hlen
        have g1 := at1_get (l := m) b1 (by omega)
        have g2 := at1_get (l := m) b3 (by omega)
        have g3 := ix_get (l := m) b3 (by omega)
        have hr : r.toNat < m.length := by omega
        have fin0 : ∀ M2, M2 s = some (.lst ((loos1 m (edgeOf (u, r, z))).map oD)) → M2 f = some (.lst (ts.map tripD)) → Y [some (tabD T), some (.int p), some (.ref s), some (.ref f), some (.int u), some (.int r), some (.int (0 + (k : Nat))), some (.rol (L.map oD)), some (.int z)] M2 := fun M2 h2 h3 => hY _ _ ⟨hlt, by rw [ny]; exact h2, h3, _, _, _, rfl⟩
        have fin1 : ∀ e, loos1 m (edgeOf (u, r, z)) = m.set r.toNat e → Y [some (tabD T), some (.int p), some (.ref s), some (.ref f), some (.int u), some (.int r), some (.int (0 + (k : Nat))), some (.rol (L.map oD)), some (.int z)] (mset M' s (.lst ((m.map oD).set r.toNat (oD e)))) := fun e he => by
          refine fin0 _ ?_ ((mset_ne hsf.symm).trans hM2)
          rw [mset_same, he, List.map_set]
        have fin2 : loos1 m (edgeOf (u, r, z)) = m → Y [some (tabD T), some (.int p), some (.ref s), some (.ref f), some (.int u), some (.int r), some (.int (0 + (k : Nat))), some (.rol (L.map oD)), some (.int z)] M' := fun he => fin0 _ (by rw [he]; exact hs2) hM2
        have eq0 : ∀ e, eMin (at1 m r.toNat) (eAdd (at1 m u.toNat) (some z)) = e → loos1 m (edgeOf (u, r, z)) = m.set r.toNat e := fun e he => by rw [← he]; rfl
        have eq1 : eMin (at1 m r.toNat) (eAdd (at1 m u.toNat) (some z)) = at1 m r.toNat → loos1 m (edgeOf (u, r, z)) = m := fun he => (eq0 _ he).trans (set_at1 hr)
        simp only [st_seq, st_next, st_break, st_cont, st_set, st_ret, st_retN, st_drop, st_if, st_asg, st_par, st_for, ex_c, ex_var, ex_op, ex_un, ex_b, ex_and, ex_or, ex_not, ex_andV, ex_orV, ex_notV, ex_if, ex_chain, ex_nil, ex_cons, ex_tup, ex_lst, ex_call, ex_callP, ex_cb, ex_bm, ex_rep, ex_lc, ex_sl, ex_noPart, ex_part, ex_yes, it_items, it_rng1, it_rng2, tg_name, tg_sub, tg_tup, tg_cons, tg_nil, gs_0, gs_s, ss_0, ss_s, op_ii, op_ss, op_tt, op_mm, op_sb, op_ng, op_iNf, op_iNt, op_lle, op_ixT, op_ixR, op_ixL, op_putE, op_appE, it_tupE, it_rolE, it_refE, lstOf_l, exL, asS_some, asI_int, asB_bl, asL_some, asN_some, ite3_t, ite3_f, bl_1, bl_lenT, bl_lenR, bl_lenL, bl_lenS, bl_tuple, bl_list, bl_abs, bl_intI, bl_intB, bl_max, bl_min, bl_repr, op_eqSf, op_eqSt, op_eqIf, op_eqIt, op_eqTf, op_eqTt, op_eqRf, op_eqRt, op_eqNf, op_eqNt, eqD_int, eqD_nil, pl_int, pl_nil, pl_non, pl_rnil, pl_bl, sl_tupE, sl_rolE, keep_ref, keep_tup, keep_rol, tp_int, tp_tup, tp_rol, tp_str, tp_bl, tp_non, tp_ref, oFd, oMd, oPw, oShl, oLt, oLe, oGt, oGe, op_in, op_cp, wipe_nil, wipe_cons, mset_same, true_and, and_true, isN_int, sz_0, sz_1, sz_2, sz_3, sz_4, sz_5, sz_6, sz_7, sz_8, sz_9, sz_10, sz_11, sz_12, ex_lstF, ex_repF, ex_lgF1, ex_lgF2, ex_tupRg1, ex_tupRg2, ex_lcF, ex_frz, ex_slF, ex_slM, sl_tupF, sl_rolF, op_iiF, op_ssF, op_ttF, op_rrF, op_rrM, op_mmF, op_repF, li_rol, li_ref, bl_listF, bl_allF, bl_anyF, asT_some, asJ_some, op_eqLf, op_eqLt, op_eqBf, op_eqBt, isN_non, Bool.not_true, Bool.not_false, tripD, List.length_cons, List.length_nil, hs2, g1, g2, g3]
        cases hx : at1 m u.toNat with
        | none =>
          simp only [st_seq, st_next, st_break, st_cont, st_set, st_ret, st_retN, st_drop, st_if, st_asg, st_par, st_for, ex_c, ex_var, ex_op, ex_un, ex_b, ex_and, ex_or, ex_not, ex_andV, ex_orV, ex_notV, ex_if, ex_chain, ex_nil, ex_cons, ex_tup, ex_lst, ex_call, ex_callP, ex_cb, ex_bm, ex_rep, ex_lc, ex_sl, ex_noPart, ex_part, ex_yes, it_items, it_rng1, it_rng2, tg_name, tg_sub, tg_tup, tg_cons, tg_nil, gs_0, gs_s, ss_0, ss_s, op_ii, op_ss, op_tt, op_mm, op_sb, op_ng, op_iNf, op_iNt, op_lle, op_ixT, op_ixR, op_ixL, op_putE, op_appE, it_tupE, it_rolE, it_refE, lstOf_l, exL, asS_some, asI_int, asB_bl, asL_some, asN_some, ite3_t, ite3_f, bl_1, bl_lenT, bl_lenR, bl_lenL, bl_lenS, bl_tuple, bl_list, bl_abs, bl_intI, bl_intB, bl_max, bl_min, bl_repr, op_eqSf, op_eqSt, op_eqIf, op_eqIt, op_eqTf, op_eqTt, op_eqRf, op_eqRt, op_eqNf, op_eqNt, eqD_int, eqD_nil, pl_int, pl_nil, pl_non, pl_rnil, pl_bl, sl_tupE, sl_rolE, keep_ref, keep_tup, keep_rol, tp_int, tp_tup, tp_rol, tp_str, tp_bl, tp_non, tp_ref, oFd, oMd, oPw, oShl, oLt, oLe, oGt, oGe, op_in, op_cp, wipe_nil, wipe_cons, mset_same, true_and, and_true, isN_int, sz_0, sz_1, sz_2, sz_3, sz_4, sz_5, sz_6, sz_7, sz_8, sz_9, sz_10, sz_11, sz_12, ex_lstF, ex_repF, ex_lgF1, ex_lgF2, ex_tupRg1, ex_tupRg2, ex_lcF, ex_frz, ex_slF, ex_slM, sl_tupF, sl_rolF, op_iiF, op_ssF, op_ttF, op_rrF, op_rrM, op_mmF, op_repF, li_rol, li_ref, bl_listF, bl_allF, bl_anyF, asT_some, asJ_some, op_eqLf, op_eqLt, op_eqBf, op_eqBt, isN_non, Bool.not_true, Bool.not_false, oD]
          exact fin2 (eq1 (by rw [hx]; cases at1 m r.toNat <;> rfl))
        | some x =>
          rw [hx] at g1
          cases hy : at1 m r.toNat with
          | none =>
            rw [hy] at g2
            simp only [st_seq, st_next, st_break, st_cont, st_set, st_ret, st_retN, st_drop, st_if, st_asg, st_par, st_for, ex_c, ex_var, ex_op, ex_un, ex_b, ex_and, ex_or, ex_not, ex_andV, ex_orV, ex_notV, ex_if, ex_chain, ex_nil, ex_cons, ex_tup, ex_lst, ex_call, ex_callP, ex_cb, ex_bm, ex_rep, ex_lc, ex_sl, ex_noPart, ex_part, ex_yes, it_items, it_rng1, it_rng2, tg_name, tg_sub, tg_tup, tg_cons, tg_nil, gs_0, gs_s, ss_0, ss_s, op_ii, op_ss, op_tt, op_mm, op_sb, op_ng, op_iNf, op_iNt, op_lle, op_ixT, op_ixR, op_ixL, op_putE, op_appE, it_tupE, it_rolE, it_refE, lstOf_l, exL, asS_some, asI_int, asB_bl, asL_some, asN_some, ite3_t, ite3_f, bl_1, bl_lenT, bl_lenR, bl_lenL, bl_lenS, bl_tuple, bl_list, bl_abs, bl_intI, bl_intB, bl_max, bl_min, bl_repr, op_eqSf, op_eqSt, op_eqIf, op_eqIt, op_eqTf, op_eqTt, op_eqRf, op_eqRt, op_eqNf, op_eqNt, eqD_int, eqD_nil, pl_int, pl_nil, pl_non, pl_rnil, pl_bl, sl_tupE, sl_rolE, keep_ref, keep_tup, keep_rol, tp_int, tp_tup, tp_rol, tp_str, tp_bl, tp_non, tp_ref, oFd, oMd, oPw, oShl, oLt, oLe, oGt, oGe, op_in, op_cp, wipe_nil, wipe_cons, mset_same, true_and, and_true, isN_int, sz_0, sz_1, sz_2, sz_3, sz_4, sz_5, sz_6, sz_7, sz_8, sz_9, sz_10, sz_11, sz_12, ex_lstF, ex_repF, ex_lgF1, ex_lgF2, ex_tupRg1, ex_tupRg2, ex_lcF, ex_frz, ex_slF, ex_slM, sl_tupF, sl_rolF, op_iiF, op_ssF, op_ttF, op_rrF, op_rrM, op_mmF, op_repF, li_rol, li_ref, bl_listF, bl_allF, bl_anyF, asT_some, asJ_some, op_eqLf, op_eqLt, op_eqBf, op_eqBt, isN_non, Bool.not_true, Bool.not_false, oD, hs2, g1, g2, g3]
            exact fin1 (some (x + z)) (eq0 _ (by rw [hx, hy]; rfl))
          | some y =>
            rw [hy] at g2
            simp only [st_seq, st_next, st_break, st_cont, st_set, st_ret, st_retN, st_drop, st_if, st_asg, st_par, st_for, ex_c, ex_var, ex_op, ex_un, ex_b, ex_and, ex_or, ex_not, ex_andV, ex_orV, ex_notV, ex_if, ex_chain, ex_nil, ex_cons, ex_tup, ex_lst, ex_call, ex_callP, ex_cb, ex_bm, ex_rep, ex_lc, ex_sl, ex_noPart, ex_part, ex_yes, it_items, it_rng1, it_rng2, tg_name, tg_sub, tg_tup, tg_cons, tg_nil, gs_0, gs_s, ss_0, ss_s, op_ii, op_ss, op_tt, op_mm, op_sb, op_ng, op_iNf, op_iNt, op_lle, op_ixT, op_ixR, op_ixL, op_putE, op_appE, it_tupE, it_rolE, it_refE, lstOf_l, exL, asS_some, asI_int, asB_bl, asL_some, asN_some, ite3_t, ite3_f, bl_1, bl_lenT, bl_lenR, bl_lenL, bl_lenS, bl_tuple, bl_list, bl_abs, bl_intI, bl_intB, bl_max, bl_min, bl_repr, op_eqSf, op_eqSt, op_eqIf, op_eqIt, op_eqTf, op_eqTt, op_eqRf, op_eqRt, op_eqNf, op_eqNt, eqD_int, eqD_nil, pl_int, pl_nil, pl_non, pl_rnil, pl_bl, sl_tupE, sl_rolE, keep_ref, keep_tup, keep_rol, tp_int, tp_tup, tp_rol, tp_str, tp_bl, tp_non, tp_ref, oFd, oMd, oPw, oShl, oLt, oLe, oGt, oGe, op_in, op_cp, wipe_nil, wipe_cons, mset_same, true_and, and_true, isN_int, sz_0, sz_1, sz_2, sz_3, sz_4, sz_5, sz_6, sz_7, sz_8, sz_9, sz_10, sz_11, sz_12, ex_lstF, ex_repF, ex_lgF1, ex_lgF2, ex_tupRg1, ex_tupRg2, ex_lcF, ex_frz, ex_slF, ex_slM, sl_tupF, sl_rolF, op_iiF, op_ssF, op_ttF, op_rrF, op_rrM, op_mmF, op_repF, li_rol, li_ref, bl_listF, bl_allF, bl_anyF, asT_some, asJ_some, op_eqLf, op_eqLt, op_eqBf, op_eqBt, isN_non, Bool.not_true, Bool.not_false, oD, hs2, g1, g2, g3]
            refine ite3_by (fun hlt => ?_) (fun hge => ?_)
            · exact fin1 (some (x + z)) (eq0 _ (by rw [hx, hy]; simp only [eAdd, eMin]; rw [if_pos (of_decide_eq_true hlt)]))
            · exact fin2 (eq1 (by rw [hx, hy]; simp only [eAdd, eMin]; rw [if_neg (of_decide_eq_false hge)]))
      · rintro τ M' ⟨hi, hs2, hM2, y4, y5, y8, rfl⟩
        rw [List.take_length, ← nx] at hs2
        try dsimp only
        rw [st_if]
        simp only [ex_c, ex_var, ex_op, ex_un, ex_b, ex_and, ex_or, ex_not, ex_andV, ex_orV, ex_notV, ex_if, ex_chain, ex_nil, ex_cons, ex_tup, ex_lst, ex_call, ex_callP, ex_cb, ex_bm, ex_rep, ex_sl, ex_noPart, ex_part, ex_yes, it_items, it_rng1, it_rng2, tg_name, tg_sub, tg_tup, tg_cons, tg_nil, gs_0, gs_s, ss_0, ss_s, op_ii, op_ss, op_tt, op_mm, op_sb, op_ng, op_iNf, op_iNt, op_lle, op_ixT, op_ixR, op_ixL, op_putE, op_appE, it_tupE, it_rolE, it_refE, lstOf_l, exL, asS_some, asI_int, asB_bl, asL_some, asN_some, ite3_t, ite3_f, bl_1, bl_lenT, bl_lenR, bl_lenL, bl_lenS, bl_tuple, bl_list, bl_abs, bl_intI, bl_intB, bl_max, bl_min, op_eqSf, op_eqSt, op_eqIf, op_eqIt, op_eqTf, op_eqTt, op_eqRf, op_eqRt, op_eqNf, op_eqNt, eqD_int, eqD_nil, pl_int, pl_nil, pl_non, pl_rnil, pl_bl, sl_tupE, sl_rolE, keep_ref, keep_tup, keep_rol, tp_int, tp_tup, tp_rol, tp_str, tp_bl, tp_non, tp_ref, oFd, oMd, oPw, oShl, oLt, oLe, oGt, oGe, op_in, op_cp, wipe_nil, wipe_cons, mset_same, true_and, and_true, isN_int, ex_lstF, ex_repF, ex_lgF1, ex_lgF2, ex_tupRg1, ex_tupRg2, ex_frz, ex_slF, ex_slM, sl_tupF, sl_rolF, op_iiF, op_ssF, op_ttF, op_rrF, op_rrM, op_mmF, op_repF, li_rol, li_ref, bl_listF, bl_allF, bl_anyF, asT_some, asJ_some, op_eqBf, op_eqBt, isN_non, Bool.not_true, Bool.not_false, rep2, hs2, topOf_l, eqD_row]
        refine ⟨pl_row, pl_row, ite3_by (fun he => ?_) (fun he => ?_)⟩
        · have he : loosN (ts.map edgeOf) (row0 n p) (k + 1) = L := of_decide_eq_true he
          rw [st_ret]
          simp only [ex_c, ex_var, ex_op, ex_un, ex_b, ex_and, ex_or, ex_not, ex_andV, ex_orV, ex_notV, ex_if, ex_chain, ex_nil, ex_cons, ex_tup, ex_lst, ex_call, ex_callP, ex_cb, ex_bm, ex_rep, ex_sl, ex_noPart, ex_part, ex_yes, it_items, it_rng1, it_rng2, tg_name, tg_sub, tg_tup, tg_cons, tg_nil, gs_0, gs_s, ss_0, ss_s, op_ii, op_ss, op_tt, op_mm, op_sb, op_ng, op_iNf, op_iNt, op_lle, op_ixT, op_ixR, op_ixL, op_putE, op_appE, it_tupE, it_rolE, it_refE, lstOf_l, exL, asS_some, asI_int, asB_bl, asL_some, asN_some, ite3_t, ite3_f, bl_1, bl_lenT, bl_lenR, bl_lenL, bl_lenS, bl_tuple, bl_list, bl_abs, bl_intI, bl_intB, bl_max, bl_min, op_eqSf, op_eqSt, op_eqIf, op_eqIt, op_eqTf, op_eqTt, op_eqRf, op_eqRt, op_eqNf, op_eqNt, eqD_int, eqD_nil, pl_int, pl_nil, pl_non, pl_rnil, pl_bl, sl_tupE, sl_rolE, keep_ref, keep_tup, keep_rol, tp_int, tp_tup, tp_rol, tp_str, tp_bl, tp_non, tp_ref, oFd, oMd, oPw, oShl, oLt, oLe, oGt, oGe, op_in, op_cp, wipe_nil, wipe_cons, mset_same, true_and, and_true, isN_int, ex_lstF, ex_repF, ex_lgF1, ex_lgF2, ex_tupRg1, ex_tupRg2, ex_frz, ex_slF, ex_slM, sl_tupF, sl_rolF, op_iiF, op_ssF, op_ttF, op_rrF, op_rrM, op_mmF, op_repF, li_rol, li_ref, bl_listF, bl_allF, bl_anyF, asT_some, asJ_some, op_eqBf, op_eqBt, isN_non, Bool.not_true, Bool.not_false, rep2, hs2]
          exact q _ _ (found he)
        · have he : ¬ loosN (ts.map edgeOf) (row0 n p) (k + 1) = L := of_decide_eq_false he
          rw [st_next]
          refine hX _ _ ⟨hk, hs2, hM2, fun j hj => ?_, _, _, _, _, _, rfl⟩
          by_cases z : j = k
          · subst z; rw [hLk]; exact he
          · exact hne j (by omega)
    · rintro τ M ⟨_, hs1, hM, hne, x4, x5, x6, x7, x8, rfl⟩
      try dsimp only
      rw [st_ret]
      simp only [ex_c, ex_var, ex_op, ex_un, ex_b, ex_and, ex_or, ex_not, ex_andV, ex_orV, ex_notV, ex_if, ex_chain, ex_nil, ex_cons, ex_tup, ex_lst, ex_call, ex_callP, ex_cb, ex_bm, ex_rep, ex_sl, ex_noPart, ex_part, ex_yes, it_items, it_rng1, it_rng2, tg_name, tg_sub, tg_tup, tg_cons, tg_nil, gs_0, gs_s, ss_0, ss_s, op_ii, op_ss, op_tt, op_mm, op_sb, op_ng, op_iNf, op_iNt, op_lle, op_ixT, op_ixR, op_ixL, op_putE, op_appE, it_tupE, it_rolE, it_refE, lstOf_l, exL, asS_some, asI_int, asB_bl, asL_some, asN_some, ite3_t, ite3_f, bl_1, bl_lenT, bl_lenR, bl_lenL, bl_lenS, bl_tuple, bl_list, bl_abs, bl_intI, bl_intB, bl_max, bl_min, op_eqSf, op_eqSt, op_eqIf, op_eqIt, op_eqTf, op_eqTt, op_eqRf, op_eqRt, op_eqNf, op_eqNt, eqD_int, eqD_nil, pl_int, pl_nil, pl_non, pl_rnil, pl_bl, sl_tupE, sl_rolE, keep_ref, keep_tup, keep_rol, tp_int, tp_tup, tp_rol, tp_str, tp_bl, tp_non, tp_ref, oFd, oMd, oPw, oShl, oLt, oLe, oGt, oGe, op_in, op_cp, wipe_nil, wipe_cons, mset_same, true_and, and_true, isN_int, ex_lstF, ex_repF, ex_lgF1, ex_lgF2, ex_tupRg1, ex_tupRg2, ex_frz, ex_slF, ex_slM, sl_tupF, sl_rolF, op_iiF, op_ssF, op_ttF, op_rrF, op_rrM, op_mmF, op_repF, li_rol, li_ref, bl_listF, bl_allF, bl_anyF, asT_some, asJ_some, op_eqBf, op_eqBt, isN_non, Bool.not_true, Bool.not_false, rep2]
      exact q _ _ (row_lost hp hes hne)
end L3
set_option Elab.async false
set_option linter.all false
set_option maxRecDepth 100000
set_option maxHeartbeats 4000000
namespace L3
open PySem PySem.Spec PyProof.Rows L2
def closed7R (sp__law_least : Sp3) : XK3 → TS3 := fun E =>
  (wSeq (wSet 1 (wLcF (wRng1 (wCons (wCB bLen (wCons (wVar 0) wNil)) wNil)) (wgName 2) wYes (wCallP sp__law_least X0 (wCons (wVar 0) (wCons (wVar 2) wNil))) [2]))
  (wRet (wIf (wB (wOp (oInD false) (wC .non) (wVar 1))) (wTup wNil) (wCB bTuple (wCons (wVar 1) wNil)))))
theorem op_inDR {d : D} {ds : List D} {M : Mp} {Q : VK3} : oInD false d (.rol ds) M Q = (Pl (top M d) ∧ Pl (.rol ds) ∧ Q (.bl (ds.any fun y => eqD y (top M d))) M) := rfl
theorem RowFrom.pl {n p : Nat} {T : Tab} {d : D} (h : RowFrom n T p d) : plain d = true ∧ deep d ≤ 1 := by
  rcases h with ⟨rfl, _⟩ | ⟨l, rfl, _⟩
  · exact ⟨rfl, by simp [deep]⟩
  · have p := pl_row (l := l)
    refine ⟨p.p, ?_⟩
    show deeps (l.map oD) + 1 ≤ 1
    have : deeps (l.map oD) = 0 := by
      clear p
      rename_i hh; clear hh
      induction l with
      | nil => rfl
      | cons a r ih => cases a <;> simp [deeps, oD, deep, ih]
    omega
theorem pl_all : ∀ {ds : List D}, (∀ d ∈ ds, plain d = true ∧ deep d ≤ 1) → plains ds = true ∧ deeps ds ≤ 1
  | [], _ => ⟨rfl, Nat.zero_le _⟩
  | d :: ds, h => by
    have h1 := h d (by simp)
    have h2 := pl_all (ds := ds) fun e he => h e (by simp [he])
    refine ⟨by simp [plains, h1.1, h2.1], ?_⟩
    simp only [deeps]
    exact Nat.max_le.mpr ⟨h1.2, h2.2⟩
theorem eqD_rowN {l : List Ed} : eqD (rowD l) .non = false := by simp [eqD, rowD, pdOf, PyData.eqv]
theorem eqD_nn : eqD .non .non = true := by simp [eqD, pdOf, PyData.eqv]
/-- rows from all points: the closing -/
theorem rows_closed {n B : Nat} {T : Tab} {ds : List D} (tT : TabB B n T) (hB : 0 < B) (hl : ds.length = n) (h : ∀ j d, ds[j]? = some d → RowFrom n T j d) : Closes n B T (if (ds.any fun y => eqD y .non) = true then .tup [] else .tup ds) := by
  obtain ⟨d', c⟩ := closes_ex tT hB
  have c0 := c
  rcases c with ⟨⟨m, hm, bd⟩, rfl⟩ | ⟨S, tS, cl, rfl⟩
  · have e : (ds.any fun y => eqD y .non) = true := by
      have hm' : m < ds.length := by omega
      rw [List.any_eq_true]
      refine ⟨ds[m], List.getElem_mem hm', ?_⟩
      rcases h m ds[m] (List.getElem?_eq_getElem hm') with ⟨e, _⟩ | ⟨l, e, _, st, low, _⟩
      · rw [e]; exact eqD_nn
      · have z := bd _ st
        rw [z] at low
        exact low.elim
    rw [if_pos e]
    exact c0
  · have rows : ∀ j, (hj : j < n) → ∃ l : List Ed, ds[j]? = some (rowD l) ∧ l.length = n ∧ ∀ i, i < n → at1 l i = at2 S j i := fun j hj => by
      have hj' : j < ds.length := by omega
      rcases h j ds[j] (List.getElem?_eq_getElem hj') with ⟨_, no⟩ | ⟨l, e, hl, _, _, g⟩
      · exact absurd cl (no _)
      · exact ⟨l, by rw [List.getElem?_eq_getElem hj', e], hl, g _ cl⟩
    have e : (ds.any fun y => eqD y .non) = false := by
      rw [List.any_eq_false]
      intro y hy
      obtain ⟨j, hj, rfl⟩ := List.mem_iff_getElem.mp hy
      obtain ⟨l, e, _⟩ := rows j (by omega)
      rw [List.getElem?_eq_getElem hj] at e
      rw [Option.some.inj e, eqD_rowN]; simp
    rw [if_neg (by rw [e]; simp)]
    have e2 : ds = S.map rowD := by
      apply List.ext_getElem?
      intro j
      by_cases hj : j < n
      · obtain ⟨l, e, hl, g⟩ := rows j hj
        have hjS : j < S.length := by rw [tS.rows]; exact hj
        rw [e, List.getElem?_map, List.getElem?_eq_getElem hjS]
        have : l = S[j] := by
          have hc : S[j].length = n := tS.cols _ (List.getElem_mem hjS)
          apply List.ext_getElem (by rw [hl, hc])
          intro i g1 g2
          have := g i (by omega)
          unfold at1 at2 at this
          rw [List.getD_eq_getElem?_getD, List.getElem?_eq_getElem g1, List.getD_eq_getElem?_getD, List.getD_eq_getElem?_getD, List.getElem?_eq_getElem hjS] at this
          simpa [g2] using this
        rw [this]; rfl
      · rw [List.getElem?_eq_none (by omega), List.getElem?_eq_none (by rw [List.length_map, tS.rows]; omega)]
    rw [e2]
    exact c0
theorem s_closed7 {sl : Sp3} (kl : SLeast7 sl) : SClosed100 (spOf 1 3 (closed7R sl)) := by
  refine fun n B T Q E hn tT hB q => ⟨rfl, ?_⟩
  show closed7R sl E _ [some (tabD T), none, none] M0
  unfold closed7R
  have big : (1000000 : Nat) ≤ sizeLine := by decide
  rw [st_seq, st_set]
  simp only [ex_c, ex_var, ex_op, ex_un, ex_b, ex_and, ex_or, ex_not, ex_andV, ex_orV, ex_notV, ex_if, ex_chain, ex_nil, ex_cons, ex_tup, ex_lst, ex_call, ex_callP, ex_cb, ex_bm, ex_rep, ex_sl, ex_noPart, ex_part, ex_yes, it_items, it_rng1, it_rng2, tg_name, tg_sub, tg_tup, tg_cons, tg_nil, gs_0, gs_s, ss_0, ss_s, op_ii, op_ss, op_tt, op_mm, op_sb, op_ng, op_iNf, op_iNt, op_lle, op_ixT, op_ixR, op_ixL, op_putE, op_appE, it_tupE, it_rolE, it_refE, lstOf_l, exL, asS_some, asI_int, asB_bl, asL_some, asN_some, ite3_t, ite3_f, bl_1, bl_lenT, bl_lenR, bl_lenL, bl_lenS, bl_tuple, bl_list, bl_abs, bl_intI, bl_intB, bl_max, bl_min, op_eqSf, op_eqSt, op_eqIf, op_eqIt, op_eqTf, op_eqTt, op_eqRf, op_eqRt, op_eqNf, op_eqNt, eqD_int, eqD_nil, pl_int, pl_nil, pl_non, pl_rnil, pl_bl, sl_tupE, sl_rolE, keep_ref, keep_tup, keep_rol, tp_int, tp_tup, tp_rol, tp_str, tp_bl, tp_non, tp_ref, oFd, oMd, oPw, oShl, oLt, oLe, oGt, oGe, op_in, op_cp, wipe_nil, wipe_cons, mset_same, true_and, and_true, isN_int, ex_lstF, ex_repF, ex_lgF1, ex_lgF2, ex_tupRg1, ex_tupRg2, ex_frz, ex_slF, ex_slM, sl_tupF, sl_rolF, op_iiF, op_ssF, op_ttF, op_rrF, op_rrM, op_mmF, op_repF, li_rol, li_ref, bl_listF, bl_allF, bl_anyF, asT_some, asJ_some, op_eqBf, op_eqBt, isN_non, Bool.not_true, Bool.not_false, rep2, ex_lcF, len_tab tT.sq, Int.toNat_natCast]
  refine ⟨by omega, by omega, ?_⟩
  refine lc_pv (fun i acc M => i ≤ n ∧ M = M0 ∧ acc.length = i ∧ ∀ j d, acc[j]? = some d → RowFrom n T j d) ?_ ?_ ⟨Nat.zero_le _, rfl, rfl, fun j d h => by simp at h⟩
  · rintro i d acc M hd ⟨hi, rfl, hl, h⟩ X hX
    obtain ⟨hlt, rfl⟩ := rgD_get hd
    refine ⟨True.intro, ?_⟩
    simp only [ex_c, ex_var, ex_op, ex_un, ex_b, ex_and, ex_or, ex_not, ex_andV, ex_orV, ex_notV, ex_if, ex_chain, ex_nil, ex_cons, ex_tup, ex_lst, ex_call, ex_callP, ex_cb, ex_bm, ex_rep, ex_sl, ex_noPart, ex_part, ex_yes, it_items, it_rng1, it_rng2, tg_name, tg_sub, tg_tup, tg_cons, tg_nil, gs_0, gs_s, ss_0, ss_s, op_ii, op_ss, op_tt, op_mm, op_sb, op_ng, op_iNf, op_iNt, op_lle, op_ixT, op_ixR, op_ixL, op_putE, op_appE, it_tupE, it_rolE, it_refE, lstOf_l, exL, asS_some, asI_int, asB_bl, asL_some, asN_some, ite3_t, ite3_f, bl_1, bl_lenT, bl_lenR, bl_lenL, bl_lenS, bl_tuple, bl_list, bl_abs, bl_intI, bl_intB, bl_max, bl_min, op_eqSf, op_eqSt, op_eqIf, op_eqIt, op_eqTf, op_eqTt, op_eqRf, op_eqRt, op_eqNf, op_eqNt, eqD_int, eqD_nil, pl_int, pl_nil, pl_non, pl_rnil, pl_bl, sl_tupE, sl_rolE, keep_ref, keep_tup, keep_rol, tp_int, tp_tup, tp_rol, tp_str, tp_bl, tp_non, tp_ref, oFd, oMd, oPw, oShl, oLt, oLe, oGt, oGe, op_in, op_cp, wipe_nil, wipe_cons, mset_same, true_and, and_true, isN_int, ex_lstF, ex_repF, ex_lgF1, ex_lgF2, ex_tupRg1, ex_tupRg2, ex_frz, ex_slF, ex_slM, sl_tupF, sl_rolF, op_iiF, op_ssF, op_ttF, op_rrF, op_rrM, op_mmF, op_repF, li_rol, li_ref, bl_listF, bl_allF, bl_anyF, asT_some, asJ_some, op_eqBf, op_eqBt, isN_non, Bool.not_true, Bool.not_false, rep2, Int.zero_add]
    refine kl n B i T _ _ hn tT hlt fun d _ hd => ?_
    refine ⟨by omega, hX _ _ ⟨hlt, rfl, by rw [List.length_append, hl]; rfl, fun j e he => ?_⟩⟩
    by_cases hj : j < acc.length
    · rw [List.getElem?_append_left hj] at he; exact h j e he
    · rw [List.getElem?_append_right (by omega)] at he
      have : j = i := by
        have := (List.getElem?_eq_some_iff.mp he).1
        simp at this; omega
      subst this
      rw [hl, Nat.sub_self] at he
      cases he
      exact hd
  · rintro acc M ⟨hi, rfl, hl, h⟩
    rw [rgD_len] at hl
    refine ⟨True.intro, ?_⟩
    have pl := pl_all (ds := acc) fun d hd => by
      obtain ⟨j, hj, rfl⟩ := List.mem_iff_getElem.mp hd
      exact (h j _ (List.getElem?_eq_getElem hj)).pl
    have c := rows_closed tT hB hl h
    try dsimp only
    rw [st_ret]
    simp only [ex_c, ex_var, ex_op, ex_un, ex_b, ex_and, ex_or, ex_not, ex_andV, ex_orV, ex_notV, ex_if, ex_chain, ex_nil, ex_cons, ex_tup, ex_lst, ex_call, ex_callP, ex_cb, ex_bm, ex_rep, ex_sl, ex_noPart, ex_part, ex_yes, it_items, it_rng1, it_rng2, tg_name, tg_sub, tg_tup, tg_cons, tg_nil, gs_0, gs_s, ss_0, ss_s, op_ii, op_ss, op_tt, op_mm, op_sb, op_ng, op_iNf, op_iNt, op_lle, op_ixT, op_ixR, op_ixL, op_putE, op_appE, it_tupE, it_rolE, it_refE, lstOf_l, exL, asS_some, asI_int, asB_bl, asL_some, asN_some, ite3_t, ite3_f, bl_1, bl_lenT, bl_lenR, bl_lenL, bl_lenS, bl_tuple, bl_list, bl_abs, bl_intI, bl_intB, bl_max, bl_min, op_eqSf, op_eqSt, op_eqIf, op_eqIt, op_eqTf, op_eqTt, op_eqRf, op_eqRt, op_eqNf, op_eqNt, eqD_int, eqD_nil, pl_int, pl_nil, pl_non, pl_rnil, pl_bl, sl_tupE, sl_rolE, keep_ref, keep_tup, keep_rol, tp_int, tp_tup, tp_rol, tp_str, tp_bl, tp_non, tp_ref, oFd, oMd, oPw, oShl, oLt, oLe, oGt, oGe, op_in, op_cp, wipe_nil, wipe_cons, mset_same, true_and, and_true, isN_int, ex_lstF, ex_repF, ex_lgF1, ex_lgF2, ex_tupRg1, ex_tupRg2, ex_frz, ex_slF, ex_slM, sl_tupF, sl_rolF, op_iiF, op_ssF, op_ttF, op_rrF, op_rrM, op_mmF, op_repF, li_rol, li_ref, bl_listF, bl_allF, bl_anyF, asT_some, asJ_some, op_eqBf, op_eqBt, isN_non, Bool.not_true, Bool.not_false, rep2, op_inDR]
    refine ⟨⟨pl.1, by show deeps acc + 1 ≤ 64; omega⟩, ?_⟩
    refine ite3_by (fun e => ?_) (fun e => ?_)
    · rw [if_pos e] at c
      exact ⟨Nat.zero_le _, q _ _ c⟩
    · rw [if_neg (by rw [e]; simp)] at c
      (try simp only [ex_c, ex_var, ex_op, ex_un, ex_b, ex_and, ex_or, ex_not, ex_andV, ex_orV, ex_notV, ex_if, ex_chain, ex_nil, ex_cons, ex_tup, ex_lst, ex_call, ex_callP, ex_cb, ex_bm, ex_rep, ex_sl, ex_noPart, ex_part, ex_yes, it_items, it_rng1, it_rng2, tg_name, tg_sub, tg_tup, tg_cons, tg_nil, gs_0, gs_s, ss_0, ss_s, op_ii, op_ss, op_tt, op_mm, op_sb, op_ng, op_iNf, op_iNt, op_lle, op_ixT, op_ixR, op_ixL, op_putE, op_appE, it_tupE, it_rolE, it_refE, lstOf_l, exL, asS_some, asI_int, asB_bl, asL_some, asN_some, ite3_t, ite3_f, bl_1, bl_lenT, bl_lenR, bl_lenL, bl_lenS, bl_tuple, bl_list, bl_abs, bl_intI, bl_intB, bl_max, bl_min, op_eqSf, op_eqSt, op_eqIf, op_eqIt, op_eqTf, op_eqTt, op_eqRf, op_eqRt, op_eqNf, op_eqNt, eqD_int, eqD_nil, pl_int, pl_nil, pl_non, pl_rnil, pl_bl, sl_tupE, sl_rolE, keep_ref, keep_tup, keep_rol, tp_int, tp_tup, tp_rol, tp_str, tp_bl, tp_non, tp_ref, oFd, oMd, oPw, oShl, oLt, oLe, oGt, oGe, op_in, op_cp, wipe_nil, wipe_cons, mset_same, true_and, and_true, isN_int, ex_lstF, ex_repF, ex_lgF1, ex_lgF2, ex_tupRg1, ex_tupRg2, ex_frz, ex_slF, ex_slM, sl_tupF, sl_rolF, op_iiF, op_ssF, op_ttF, op_rrF, op_rrM, op_mmF, op_repF, li_rol, li_ref, bl_listF, bl_allF, bl_anyF, asT_some, asJ_some, op_eqBf, op_eqBt, isN_non, Bool.not_true, Bool.not_false, rep2])
      exact q _ _ c
end L3
set_option Elab.async false
set_option linter.all false
set_option maxRecDepth 100000
set_option maxHeartbeats 4000000
namespace L3
open PySem PySem.Spec PyProof.Rows L2
theorem Le.gr {a : Addr} {M M' : Mp} (h : Le M M') : Gr a M M' := fun b o _ e => h b o e
theorem Fd.le {b : Nat} {a : Addr} {M M' : Mp} (x : Fd b M a) (h : Le M M') : Fd b M' a := by
  obtain ⟨cs, i, g, n, hn, e⟩ := x
  exact ⟨cs, i, g, n, hn, h _ _ e⟩
end L3
set_option Elab.async false
set_option linter.all false
set_option maxRecDepth 100000
set_option maxHeartbeats 4000000
namespace L3
open PySem PySem.Spec PyProof.Rows L2
def zipT (f : Ed → Ed → Ed) (T U : Tab) : Tab := List.zipWith (fun r s => List.zipWith f r s) T U
theorem zipD_map {α β : Type} {f : α → D} {g : β → D} {xs : List α} {ys : List β} : zipD (xs.map f) (ys.map g) = (xs.zip ys).map fun x => .tup [f x.1, g x.2] := by
  unfold zipD
  rw [List.zipWith_map, List.zip, List.map_zipWith]
theorem zipT_b {B n : Nat} {f : Ed → Ed → Ed} {T U : Tab} (t : TabB B n T) (u : TabB B n U) (h : ∀ a b, EdB B a → EdB B b → EdB B (f a b)) : TabB B n (zipT f T U) := by
  refine ⟨by unfold zipT; rw [List.length_zipWith, t.rows, u.rows, Nat.min_self], fun r hr => ?_, fun r hr e he => ?_⟩
  · obtain ⟨i, hi, rfl⟩ := List.mem_iff_getElem.mp hr
    unfold zipT at hi ⊢
    rw [List.length_zipWith] at hi
    rw [List.getElem_zipWith, List.length_zipWith, t.cols _ (List.getElem_mem (by omega)), u.cols _ (List.getElem_mem (by omega)), Nat.min_self]
  · obtain ⟨i, hi, rfl⟩ := List.mem_iff_getElem.mp hr
    unfold zipT at hi he
    rw [List.length_zipWith] at hi
    rw [List.getElem_zipWith] at he
    obtain ⟨j, hj, rfl⟩ := List.mem_iff_getElem.mp he
    rw [List.length_zipWith] at hj
    rw [List.getElem_zipWith]
    exact h _ _ (t.ends _ (List.getElem_mem (by omega)) _ (List.getElem_mem (by omega))) (u.ends _ (List.getElem_mem (by omega)) _ (List.getElem_mem (by omega)))
theorem zip_take {f : Ed → Ed → Ed} {T U : Tab} {i : Nat} {x : List Ed × List Ed} (h : (T.zip U)[i]? = some x) : ((T.zip U).take (i + 1)).map (fun x => rowD (List.zipWith f x.1 x.2)) = ((T.zip U).take i).map (fun x => rowD (List.zipWith f x.1 x.2)) ++ [rowD (List.zipWith f x.1 x.2)] := by
  rw [List.take_succ, h, List.map_append]; rfl
theorem zip_all {f : Ed → Ed → Ed} {T U : Tab} : (T.zip U).map (fun x => rowD (List.zipWith f x.1 x.2)) = (zipT f T U).map rowD := by
  unfold zipT
  rw [List.map_zipWith, List.zip, List.map_zipWith]
/-- one row by pairs -/
theorem row_zip {f : Ed → Ed → Ed} {r s : List Ed} : (r.zip s).map (fun x => oD (f x.1 x.2)) = (List.zipWith f r s).map oD := by
  rw [List.map_zipWith, List.zip, List.map_zipWith]
def bothR (sp_lesser : Sp3) (sp_closed : Sp3) : XK3 → TS3 := fun E =>
  (wSeq (wIfS (wOr (wB (wOp (oEq false) (wVar 0) (wTup wNil))) (wB (wOp (oEq false) (wVar 1) (wTup wNil)))) (wRet (wTup wNil)) wNext)
  (wSeq (wSet 2 (wLst wNil))
  (wSeq (wFor (wZipF (wCons (wVar 0) (wCons (wVar 1) wNil))) (wgTupN 2 (wgCons (wgName 3) (wgCons (wgName 4) wgNil))) (wDrop (wBM oApp (wVar 2) (wCons (wCB bTuple (wCons (wLcF (wZipF (wCons (wVar 3) (wCons (wVar 4) wNil))) (wgTupN 2 (wgCons (wgName 5) (wgCons (wgName 6) wgNil))) wYes (wCallP sp_lesser X0 (wCons (wVar 5) (wCons (wVar 6) wNil))) [5, 6]) wNil)) wNil))))
  (wRet (wCallP sp_closed E (wCons (wCB bTuple (wCons (wVar 2) wNil)) wNil))))))
structure SBoth (sp : Sp3) : Prop where
  t : ∀ (n B : Nat) (T U : Tab) (Q : VK3) (E : XK3), 0 < n → n ≤ 100 → 0 < B → TabB B n T → TabB B n U → (∀ d M, Closes n B (zipT eMin T U) d → Q d M) → sp [tabD T, tabD U] M0 Q E
  n1 : ∀ (d : D) (Q : VK3) (E : XK3), NilOr d → (∀ M, Q (.tup []) M) → sp [.tup [], d] M0 Q E
  n2 : ∀ (d : D) (Q : VK3) (E : XK3), NilOr d → (∀ M, Q (.tup []) M) → sp [d, .tup []] M0 Q E
theorem min_b {B : Nat} (a b : Ed) (h : EdB B a) (h2 : EdB B b) : EdB B (eMin a b) := by
  cases a with
  | none => exact h2
  | some x =>
    cases b with
    | none => exact h
    | some y =>
      show EdB B (some (if y < x then y else x))
      split
      · exact h2
      · exact h
theorem s_both {sl sc : Sp3} (kl : SLesser sl) (kc : SClosed sc) : SBoth (spOf 2 7 (bothR sl sc)) := by
  have big : (1000000 : Nat) ≤ sizeLine := by decide
  refine ⟨fun n B T U Q E hn hn1 hB tT tU q => ⟨rfl, ?_⟩, fun d Q E hd q => ⟨rfl, ?_⟩, fun d Q E hd q => ⟨rfl, ?_⟩⟩
  · show bothR sl sc E _ [some (tabD T), some (tabD U), none, none, none, none, none] M0
    unfold bothR
    rw [st_seq, st_if]
    simp only [ex_c, ex_var, ex_op, ex_un, ex_b, ex_and, ex_or, ex_not, ex_andV, ex_orV, ex_notV, ex_if, ex_chain, ex_nil, ex_cons, ex_tup, ex_lst, ex_call, ex_callP, ex_cb, ex_bm, ex_rep, ex_sl, ex_noPart, ex_part, ex_yes, it_items, it_rng1, it_rng2, tg_name, tg_sub, tg_tup, tg_cons, tg_nil, gs_0, gs_s, ss_0, ss_s, op_ii, op_ss, op_tt, op_mm, op_sb, op_ng, op_iNf, op_iNt, op_lle, op_ixT, op_ixR, op_ixL, op_putE, op_appE, it_tupE, it_rolE, it_refE, lstOf_l, exL, asS_some, asI_int, asB_bl, asL_some, asN_some, ite3_t, ite3_f, bl_1, bl_lenT, bl_lenR, bl_lenL, bl_lenS, bl_tuple, bl_list, bl_abs, bl_intI, bl_intB, bl_max, bl_min, op_eqSf, op_eqSt, op_eqIf, op_eqIt, op_eqTf, op_eqTt, op_eqRf, op_eqRt, op_eqNf, op_eqNt, eqD_int, eqD_nil, pl_int, pl_nil, pl_non, pl_rnil, pl_bl, sl_tupE, sl_rolE, keep_ref, keep_tup, keep_rol, tp_int, tp_tup, tp_rol, tp_str, tp_bl, tp_non, tp_ref, oFd, oMd, oPw, oShl, oLt, oLe, oGt, oGe, op_in, op_cp, wipe_nil, wipe_cons, mset_same, true_and, and_true, isN_int, ex_lstF, ex_repF, ex_lgF1, ex_lgF2, ex_tupRg1, ex_tupRg2, ex_frz, ex_slF, ex_slM, sl_tupF, sl_rolF, op_iiF, op_ssF, op_ttF, op_rrF, op_rrM, op_mmF, op_repF, li_rol, li_ref, bl_listF, bl_allF, bl_anyF, asT_some, asJ_some, op_eqBf, op_eqBt, isN_non, Bool.not_true, Bool.not_false, rep2, eq_tab tT.sq hn, eq_tab tU.sq hn]
    refine ⟨Nat.zero_le _, Nat.zero_le _, ?_⟩
    rw [st_next]
    try dsimp only
    rw [st_seq, st_set]
    simp only [ex_c, ex_var, ex_op, ex_un, ex_b, ex_and, ex_or, ex_not, ex_andV, ex_orV, ex_notV, ex_if, ex_chain, ex_nil, ex_cons, ex_tup, ex_lst, ex_call, ex_callP, ex_cb, ex_bm, ex_rep, ex_sl, ex_noPart, ex_part, ex_yes, it_items, it_rng1, it_rng2, tg_name, tg_sub, tg_tup, tg_cons, tg_nil, gs_0, gs_s, ss_0, ss_s, op_ii, op_ss, op_tt, op_mm, op_sb, op_ng, op_iNf, op_iNt, op_lle, op_ixT, op_ixR, op_ixL, op_putE, op_appE, it_tupE, it_rolE, it_refE, lstOf_l, exL, asS_some, asI_int, asB_bl, asL_some, asN_some, ite3_t, ite3_f, bl_1, bl_lenT, bl_lenR, bl_lenL, bl_lenS, bl_tuple, bl_list, bl_abs, bl_intI, bl_intB, bl_max, bl_min, op_eqSf, op_eqSt, op_eqIf, op_eqIt, op_eqTf, op_eqTt, op_eqRf, op_eqRt, op_eqNf, op_eqNt, eqD_int, eqD_nil, pl_int, pl_nil, pl_non, pl_rnil, pl_bl, sl_tupE, sl_rolE, keep_ref, keep_tup, keep_rol, tp_int, tp_tup, tp_rol, tp_str, tp_bl, tp_non, tp_ref, oFd, oMd, oPw, oShl, oLt, oLe, oGt, oGe, op_in, op_cp, wipe_nil, wipe_cons, mset_same, true_and, and_true, isN_int, ex_lstF, ex_repF, ex_lgF1, ex_lgF2, ex_tupRg1, ex_tupRg2, ex_frz, ex_slF, ex_slM, sl_tupF, sl_rolF, op_iiF, op_ssF, op_ttF, op_rrF, op_rrM, op_mmF, op_repF, li_rol, li_ref, bl_listF, bl_allF, bl_anyF, asT_some, asJ_some, op_eqBf, op_eqBt, isN_non, Bool.not_true, Bool.not_false, rep2]
    refine ⟨Nat.zero_le _, fun l hl => ?_⟩
    try dsimp only
    rw [st_seq, st_for]
    simp only [ex_c, ex_var, ex_op, ex_un, ex_b, ex_and, ex_or, ex_not, ex_andV, ex_orV, ex_notV, ex_if, ex_chain, ex_nil, ex_cons, ex_tup, ex_lst, ex_call, ex_callP, ex_cb, ex_bm, ex_rep, ex_sl, ex_noPart, ex_part, ex_yes, it_items, it_rng1, it_rng2, tg_name, tg_sub, tg_tup, tg_cons, tg_nil, gs_0, gs_s, ss_0, ss_s, op_ii, op_ss, op_tt, op_mm, op_sb, op_ng, op_iNf, op_iNt, op_lle, op_ixT, op_ixR, op_ixL, op_putE, op_appE, it_tupE, it_rolE, it_refE, lstOf_l, exL, asS_some, asI_int, asB_bl, asL_some, asN_some, ite3_t, ite3_f, bl_1, bl_lenT, bl_lenR, bl_lenL, bl_lenS, bl_tuple, bl_list, bl_abs, bl_intI, bl_intB, bl_max, bl_min, op_eqSf, op_eqSt, op_eqIf, op_eqIt, op_eqTf, op_eqTt, op_eqRf, op_eqRt, op_eqNf, op_eqNt, eqD_int, eqD_nil, pl_int, pl_nil, pl_non, pl_rnil, pl_bl, sl_tupE, sl_rolE, keep_ref, keep_tup, keep_rol, tp_int, tp_tup, tp_rol, tp_str, tp_bl, tp_non, tp_ref, oFd, oMd, oPw, oShl, oLt, oLe, oGt, oGe, op_in, op_cp, wipe_nil, wipe_cons, mset_same, true_and, and_true, isN_int, ex_lstF, ex_repF, ex_lgF1, ex_lgF2, ex_tupRg1, ex_tupRg2, ex_frz, ex_slF, ex_slM, sl_tupF, sl_rolF, op_iiF, op_ssF, op_ttF, op_rrF, op_rrM, op_mmF, op_repF, li_rol, li_ref, bl_listF, bl_allF, bl_anyF, asT_some, asJ_some, op_eqBf, op_eqBt, isN_non, Bool.not_true, Bool.not_false, rep2, it_zipF, tabD]
    rw [zipD_map]
    have hzl : (T.zip U).length = n := by rw [List.length_zip, tT.rows, tU.rows, Nat.min_self]
    refine for_of (fun x : List Ed × List Ed => D.tup [rowD x.1, rowD x.2]) (fun i τ M => M l = some (.lst (((T.zip U).take i).map fun x => rowD (List.zipWith eMin x.1 x.2))) ∧ ∃ x3 x4, τ = [some (tabD T), some (tabD U), some (.ref l), x3, x4, none, none]) (fun _ _ _ _ => True.intro) ?_ ?_ ⟨mset_same, _, _, rfl⟩
    · rintro i x τ M hx ⟨hM, x3, x4, rfl⟩ X hX
      have hi := (List.getElem?_eq_some_iff.mp hx).1
      have hm := List.mem_of_getElem? hx
      obtain ⟨r, s⟩ := x
      have hr := tT.cols r (List.of_mem_zip hm).1
      have hs := tU.cols s (List.of_mem_zip hm).2
      try dsimp only
      simp only [ex_c, ex_var, ex_op, ex_un, ex_b, ex_and, ex_or, ex_not, ex_andV, ex_orV, ex_notV, ex_if, ex_chain, ex_nil, ex_cons, ex_tup, ex_lst, ex_call, ex_callP, ex_cb, ex_bm, ex_rep, ex_sl, ex_noPart, ex_part, ex_yes, it_items, it_rng1, it_rng2, tg_name, tg_sub, tg_tup, tg_cons, tg_nil, gs_0, gs_s, ss_0, ss_s, op_ii, op_ss, op_tt, op_mm, op_sb, op_ng, op_iNf, op_iNt, op_lle, op_ixT, op_ixR, op_ixL, op_putE, op_appE, it_tupE, it_rolE, it_refE, lstOf_l, exL, asS_some, asI_int, asB_bl, asL_some, asN_some, ite3_t, ite3_f, bl_1, bl_lenT, bl_lenR, bl_lenL, bl_lenS, bl_tuple, bl_list, bl_abs, bl_intI, bl_intB, bl_max, bl_min, op_eqSf, op_eqSt, op_eqIf, op_eqIt, op_eqTf, op_eqTt, op_eqRf, op_eqRt, op_eqNf, op_eqNt, eqD_int, eqD_nil, pl_int, pl_nil, pl_non, pl_rnil, pl_bl, sl_tupE, sl_rolE, keep_ref, keep_tup, keep_rol, tp_int, tp_tup, tp_rol, tp_str, tp_bl, tp_non, tp_ref, oFd, oMd, oPw, oShl, oLt, oLe, oGt, oGe, op_in, op_cp, wipe_nil, wipe_cons, mset_same, true_and, and_true, isN_int, ex_lstF, ex_repF, ex_lgF1, ex_lgF2, ex_tupRg1, ex_tupRg2, ex_frz, ex_slF, ex_slM, sl_tupF, sl_rolF, op_iiF, op_ssF, op_ttF, op_rrF, op_rrM, op_mmF, op_repF, li_rol, li_ref, bl_listF, bl_allF, bl_anyF, asT_some, asJ_some, op_eqBf, op_eqBt, isN_non, Bool.not_true, Bool.not_false, rep2, List.length_cons, List.length_nil]
      rw [st_drop]
      simp only [ex_c, ex_var, ex_op, ex_un, ex_b, ex_and, ex_or, ex_not, ex_andV, ex_orV, ex_notV, ex_if, ex_chain, ex_nil, ex_cons, ex_tup, ex_lst, ex_call, ex_callP, ex_cb, ex_bm, ex_rep, ex_sl, ex_noPart, ex_part, ex_yes, it_items, it_rng1, it_rng2, tg_name, tg_sub, tg_tup, tg_cons, tg_nil, gs_0, gs_s, ss_0, ss_s, op_ii, op_ss, op_tt, op_mm, op_sb, op_ng, op_iNf, op_iNt, op_lle, op_ixT, op_ixR, op_ixL, op_putE, op_appE, it_tupE, it_rolE, it_refE, lstOf_l, exL, asS_some, asI_int, asB_bl, asL_some, asN_some, ite3_t, ite3_f, bl_1, bl_lenT, bl_lenR, bl_lenL, bl_lenS, bl_tuple, bl_list, bl_abs, bl_intI, bl_intB, bl_max, bl_min, op_eqSf, op_eqSt, op_eqIf, op_eqIt, op_eqTf, op_eqTt, op_eqRf, op_eqRt, op_eqNf, op_eqNt, eqD_int, eqD_nil, pl_int, pl_nil, pl_non, pl_rnil, pl_bl, sl_tupE, sl_rolE, keep_ref, keep_tup, keep_rol, tp_int, tp_tup, tp_rol, tp_str, tp_bl, tp_non, tp_ref, oFd, oMd, oPw, oShl, oLt, oLe, oGt, oGe, op_in, op_cp, wipe_nil, wipe_cons, mset_same, true_and, and_true, isN_int, ex_lstF, ex_repF, ex_lgF1, ex_lgF2, ex_tupRg1, ex_tupRg2, ex_frz, ex_slF, ex_slM, sl_tupF, sl_rolF, op_iiF, op_ssF, op_ttF, op_rrF, op_rrM, op_mmF, op_repF, li_rol, li_ref, bl_listF, bl_allF, bl_anyF, asT_some, asJ_some, op_eqBf, op_eqBt, isN_non, Bool.not_true, Bool.not_false, rep2, ex_lcF, it_zipF, rowD]
      rw [zipD_map]
      refine ⟨⟨_, hM⟩, ?_⟩
      refine lc_of (fun x : Ed × Ed => D.tup [oD x.1, oD x.2]) (fun x => oD (eMin x.1 x.2)) True.intro (r.zip s) (by rw [List.length_zip]; omega) (fun x hx K q => ?_) ?_
      · simp only [ex_c, ex_var, ex_op, ex_un, ex_b, ex_and, ex_or, ex_not, ex_andV, ex_orV, ex_notV, ex_if, ex_chain, ex_nil, ex_cons, ex_tup, ex_lst, ex_call, ex_callP, ex_cb, ex_bm, ex_rep, ex_sl, ex_noPart, ex_part, ex_yes, it_items, it_rng1, it_rng2, tg_name, tg_sub, tg_tup, tg_cons, tg_nil, gs_0, gs_s, ss_0, ss_s, op_ii, op_ss, op_tt, op_mm, op_sb, op_ng, op_iNf, op_iNt, op_lle, op_ixT, op_ixR, op_ixL, op_putE, op_appE, it_tupE, it_rolE, it_refE, lstOf_l, exL, asS_some, asI_int, asB_bl, asL_some, asN_some, ite3_t, ite3_f, bl_1, bl_lenT, bl_lenR, bl_lenL, bl_lenS, bl_tuple, bl_list, bl_abs, bl_intI, bl_intB, bl_max, bl_min, op_eqSf, op_eqSt, op_eqIf, op_eqIt, op_eqTf, op_eqTt, op_eqRf, op_eqRt, op_eqNf, op_eqNt, eqD_int, eqD_nil, pl_int, pl_nil, pl_non, pl_rnil, pl_bl, sl_tupE, sl_rolE, keep_ref, keep_tup, keep_rol, tp_int, tp_tup, tp_rol, tp_str, tp_bl, tp_non, tp_ref, oFd, oMd, oPw, oShl, oLt, oLe, oGt, oGe, op_in, op_cp, wipe_nil, wipe_cons, mset_same, true_and, and_true, isN_int, ex_lstF, ex_repF, ex_lgF1, ex_lgF2, ex_tupRg1, ex_tupRg2, ex_frz, ex_slF, ex_slM, sl_tupF, sl_rolF, op_iiF, op_ssF, op_ttF, op_rrF, op_rrM, op_mmF, op_repF, li_rol, li_ref, bl_listF, bl_allF, bl_anyF, asT_some, asJ_some, op_eqBf, op_eqBt, isN_non, Bool.not_true, Bool.not_false, rep2, List.length_cons, List.length_nil]
        exact kl x.1 x.2 _ _ fun _ => q
      rw [row_zip, hM]
      (try simp only [ex_c, ex_var, ex_op, ex_un, ex_b, ex_and, ex_or, ex_not, ex_andV, ex_orV, ex_notV, ex_if, ex_chain, ex_nil, ex_cons, ex_tup, ex_lst, ex_call, ex_callP, ex_cb, ex_bm, ex_rep, ex_sl, ex_noPart, ex_part, ex_yes, it_items, it_rng1, it_rng2, tg_name, tg_sub, tg_tup, tg_cons, tg_nil, gs_0, gs_s, ss_0, ss_s, op_ii, op_ss, op_tt, op_mm, op_sb, op_ng, op_iNf, op_iNt, op_lle, op_ixT, op_ixR, op_ixL, op_putE, op_appE, it_tupE, it_rolE, it_refE, lstOf_l, exL, asS_some, asI_int, asB_bl, asL_some, asN_some, ite3_t, ite3_f, bl_1, bl_lenT, bl_lenR, bl_lenL, bl_lenS, bl_tuple, bl_list, bl_abs, bl_intI, bl_intB, bl_max, bl_min, op_eqSf, op_eqSt, op_eqIf, op_eqIt, op_eqTf, op_eqTt, op_eqRf, op_eqRt, op_eqNf, op_eqNt, eqD_int, eqD_nil, pl_int, pl_nil, pl_non, pl_rnil, pl_bl, sl_tupE, sl_rolE, keep_ref, keep_tup, keep_rol, tp_int, tp_tup, tp_rol, tp_str, tp_bl, tp_non, tp_ref, oFd, oMd, oPw, oShl, oLt, oLe, oGt, oGe, op_in, op_cp, wipe_nil, wipe_cons, mset_same, true_and, and_true, isN_int, ex_lstF, ex_repF, ex_lgF1, ex_lgF2, ex_tupRg1, ex_tupRg2, ex_frz, ex_slF, ex_slM, sl_tupF, sl_rolF, op_iiF, op_ssF, op_ttF, op_rrF, op_rrM, op_mmF, op_repF, li_rol, li_ref, bl_listF, bl_allF, bl_anyF, asT_some, asJ_some, op_eqBf, op_eqBt, isN_non, Bool.not_true, Bool.not_false, rep2])
      refine ⟨by rw [List.length_map, List.length_take]; omega, hX _ _ ⟨?_, _, _, rfl⟩⟩
      rw [mset_same, zip_take hx]; rfl
    · rintro τ M ⟨hM, x3, x4, rfl⟩
      rw [List.take_length, zip_all] at hM
      try dsimp only
      rw [st_ret]
      simp only [ex_c, ex_var, ex_op, ex_un, ex_b, ex_and, ex_or, ex_not, ex_andV, ex_orV, ex_notV, ex_if, ex_chain, ex_nil, ex_cons, ex_tup, ex_lst, ex_call, ex_callP, ex_cb, ex_bm, ex_rep, ex_sl, ex_noPart, ex_part, ex_yes, it_items, it_rng1, it_rng2, tg_name, tg_sub, tg_tup, tg_cons, tg_nil, gs_0, gs_s, ss_0, ss_s, op_ii, op_ss, op_tt, op_mm, op_sb, op_ng, op_iNf, op_iNt, op_lle, op_ixT, op_ixR, op_ixL, op_putE, op_appE, it_tupE, it_rolE, it_refE, lstOf_l, exL, asS_some, asI_int, asB_bl, asL_some, asN_some, ite3_t, ite3_f, bl_1, bl_lenT, bl_lenR, bl_lenL, bl_lenS, bl_tuple, bl_list, bl_abs, bl_intI, bl_intB, bl_max, bl_min, op_eqSf, op_eqSt, op_eqIf, op_eqIt, op_eqTf, op_eqTt, op_eqRf, op_eqRt, op_eqNf, op_eqNt, eqD_int, eqD_nil, pl_int, pl_nil, pl_non, pl_rnil, pl_bl, sl_tupE, sl_rolE, keep_ref, keep_tup, keep_rol, tp_int, tp_tup, tp_rol, tp_str, tp_bl, tp_non, tp_ref, oFd, oMd, oPw, oShl, oLt, oLe, oGt, oGe, op_in, op_cp, wipe_nil, wipe_cons, mset_same, true_and, and_true, isN_int, ex_lstF, ex_repF, ex_lgF1, ex_lgF2, ex_tupRg1, ex_tupRg2, ex_frz, ex_slF, ex_slM, sl_tupF, sl_rolF, op_iiF, op_ssF, op_ttF, op_rrF, op_rrM, op_mmF, op_repF, li_rol, li_ref, bl_listF, bl_allF, bl_anyF, asT_some, asJ_some, op_eqBf, op_eqBt, isN_non, Bool.not_true, Bool.not_false, rep2, hM]
      exact kc n B (zipT eMin T U) _ _ (by omega) (zipT_b tT tU min_b) hB fun d M hd => q d _ hd
  · show bothR sl sc E _ [some (.tup []), some d, none, none, none, none, none] M0
    unfold bothR
    rw [st_seq, st_if]
    simp only [ex_c, ex_var, ex_op, ex_un, ex_b, ex_and, ex_or, ex_not, ex_andV, ex_orV, ex_notV, ex_if, ex_chain, ex_nil, ex_cons, ex_tup, ex_lst, ex_call, ex_callP, ex_cb, ex_bm, ex_rep, ex_sl, ex_noPart, ex_part, ex_yes, it_items, it_rng1, it_rng2, tg_name, tg_sub, tg_tup, tg_cons, tg_nil, gs_0, gs_s, ss_0, ss_s, op_ii, op_ss, op_tt, op_mm, op_sb, op_ng, op_iNf, op_iNt, op_lle, op_ixT, op_ixR, op_ixL, op_putE, op_appE, it_tupE, it_rolE, it_refE, lstOf_l, exL, asS_some, asI_int, asB_bl, asL_some, asN_some, ite3_t, ite3_f, bl_1, bl_lenT, bl_lenR, bl_lenL, bl_lenS, bl_tuple, bl_list, bl_abs, bl_intI, bl_intB, bl_max, bl_min, op_eqSf, op_eqSt, op_eqIf, op_eqIt, op_eqTf, op_eqTt, op_eqRf, op_eqRt, op_eqNf, op_eqNt, eqD_int, eqD_nil, pl_int, pl_nil, pl_non, pl_rnil, pl_bl, sl_tupE, sl_rolE, keep_ref, keep_tup, keep_rol, tp_int, tp_tup, tp_rol, tp_str, tp_bl, tp_non, tp_ref, oFd, oMd, oPw, oShl, oLt, oLe, oGt, oGe, op_in, op_cp, wipe_nil, wipe_cons, mset_same, true_and, and_true, isN_int, ex_lstF, ex_repF, ex_lgF1, ex_lgF2, ex_tupRg1, ex_tupRg2, ex_frz, ex_slF, ex_slM, sl_tupF, sl_rolF, op_iiF, op_ssF, op_ttF, op_rrF, op_rrM, op_mmF, op_repF, li_rol, li_ref, bl_listF, bl_allF, bl_anyF, asT_some, asJ_some, op_eqBf, op_eqBt, isN_non, Bool.not_true, Bool.not_false, rep2, eq_nil]
    rw [st_ret]
    simp only [ex_c, ex_var, ex_op, ex_un, ex_b, ex_and, ex_or, ex_not, ex_andV, ex_orV, ex_notV, ex_if, ex_chain, ex_nil, ex_cons, ex_tup, ex_lst, ex_call, ex_callP, ex_cb, ex_bm, ex_rep, ex_sl, ex_noPart, ex_part, ex_yes, it_items, it_rng1, it_rng2, tg_name, tg_sub, tg_tup, tg_cons, tg_nil, gs_0, gs_s, ss_0, ss_s, op_ii, op_ss, op_tt, op_mm, op_sb, op_ng, op_iNf, op_iNt, op_lle, op_ixT, op_ixR, op_ixL, op_putE, op_appE, it_tupE, it_rolE, it_refE, lstOf_l, exL, asS_some, asI_int, asB_bl, asL_some, asN_some, ite3_t, ite3_f, bl_1, bl_lenT, bl_lenR, bl_lenL, bl_lenS, bl_tuple, bl_list, bl_abs, bl_intI, bl_intB, bl_max, bl_min, op_eqSf, op_eqSt, op_eqIf, op_eqIt, op_eqTf, op_eqTt, op_eqRf, op_eqRt, op_eqNf, op_eqNt, eqD_int, eqD_nil, pl_int, pl_nil, pl_non, pl_rnil, pl_bl, sl_tupE, sl_rolE, keep_ref, keep_tup, keep_rol, tp_int, tp_tup, tp_rol, tp_str, tp_bl, tp_non, tp_ref, oFd, oMd, oPw, oShl, oLt, oLe, oGt, oGe, op_in, op_cp, wipe_nil, wipe_cons, mset_same, true_and, and_true, isN_int, ex_lstF, ex_repF, ex_lgF1, ex_lgF2, ex_tupRg1, ex_tupRg2, ex_frz, ex_slF, ex_slM, sl_tupF, sl_rolF, op_iiF, op_ssF, op_ttF, op_rrF, op_rrM, op_mmF, op_repF, li_rol, li_ref, bl_listF, bl_allF, bl_anyF, asT_some, asJ_some, op_eqBf, op_eqBt, isN_non, Bool.not_true, Bool.not_false, rep2]
    exact ⟨Nat.zero_le _, Nat.zero_le _, q _⟩
  · show bothR sl sc E _ [some d, some (.tup []), none, none, none, none, none] M0
    unfold bothR
    rw [st_seq, st_if]
    rcases hd with rfl | ⟨n, T, rfl, sq, hn⟩
    · simp only [ex_c, ex_var, ex_op, ex_un, ex_b, ex_and, ex_or, ex_not, ex_andV, ex_orV, ex_notV, ex_if, ex_chain, ex_nil, ex_cons, ex_tup, ex_lst, ex_call, ex_callP, ex_cb, ex_bm, ex_rep, ex_sl, ex_noPart, ex_part, ex_yes, it_items, it_rng1, it_rng2, tg_name, tg_sub, tg_tup, tg_cons, tg_nil, gs_0, gs_s, ss_0, ss_s, op_ii, op_ss, op_tt, op_mm, op_sb, op_ng, op_iNf, op_iNt, op_lle, op_ixT, op_ixR, op_ixL, op_putE, op_appE, it_tupE, it_rolE, it_refE, lstOf_l, exL, asS_some, asI_int, asB_bl, asL_some, asN_some, ite3_t, ite3_f, bl_1, bl_lenT, bl_lenR, bl_lenL, bl_lenS, bl_tuple, bl_list, bl_abs, bl_intI, bl_intB, bl_max, bl_min, op_eqSf, op_eqSt, op_eqIf, op_eqIt, op_eqTf, op_eqTt, op_eqRf, op_eqRt, op_eqNf, op_eqNt, eqD_int, eqD_nil, pl_int, pl_nil, pl_non, pl_rnil, pl_bl, sl_tupE, sl_rolE, keep_ref, keep_tup, keep_rol, tp_int, tp_tup, tp_rol, tp_str, tp_bl, tp_non, tp_ref, oFd, oMd, oPw, oShl, oLt, oLe, oGt, oGe, op_in, op_cp, wipe_nil, wipe_cons, mset_same, true_and, and_true, isN_int, ex_lstF, ex_repF, ex_lgF1, ex_lgF2, ex_tupRg1, ex_tupRg2, ex_frz, ex_slF, ex_slM, sl_tupF, sl_rolF, op_iiF, op_ssF, op_ttF, op_rrF, op_rrM, op_mmF, op_repF, li_rol, li_ref, bl_listF, bl_allF, bl_anyF, asT_some, asJ_some, op_eqBf, op_eqBt, isN_non, Bool.not_true, Bool.not_false, rep2, eq_nil]
      rw [st_ret]
      simp only [ex_c, ex_var, ex_op, ex_un, ex_b, ex_and, ex_or, ex_not, ex_andV, ex_orV, ex_notV, ex_if, ex_chain, ex_nil, ex_cons, ex_tup, ex_lst, ex_call, ex_callP, ex_cb, ex_bm, ex_rep, ex_sl, ex_noPart, ex_part, ex_yes, it_items, it_rng1, it_rng2, tg_name, tg_sub, tg_tup, tg_cons, tg_nil, gs_0, gs_s, ss_0, ss_s, op_ii, op_ss, op_tt, op_mm, op_sb, op_ng, op_iNf, op_iNt, op_lle, op_ixT, op_ixR, op_ixL, op_putE, op_appE, it_tupE, it_rolE, it_refE, lstOf_l, exL, asS_some, asI_int, asB_bl, asL_some, asN_some, ite3_t, ite3_f, bl_1, bl_lenT, bl_lenR, bl_lenL, bl_lenS, bl_tuple, bl_list, bl_abs, bl_intI, bl_intB, bl_max, bl_min, op_eqSf, op_eqSt, op_eqIf, op_eqIt, op_eqTf, op_eqTt, op_eqRf, op_eqRt, op_eqNf, op_eqNt, eqD_int, eqD_nil, pl_int, pl_nil, pl_non, pl_rnil, pl_bl, sl_tupE, sl_rolE, keep_ref, keep_tup, keep_rol, tp_int, tp_tup, tp_rol, tp_str, tp_bl, tp_non, tp_ref, oFd, oMd, oPw, oShl, oLt, oLe, oGt, oGe, op_in, op_cp, wipe_nil, wipe_cons, mset_same, true_and, and_true, isN_int, ex_lstF, ex_repF, ex_lgF1, ex_lgF2, ex_tupRg1, ex_tupRg2, ex_frz, ex_slF, ex_slM, sl_tupF, sl_rolF, op_iiF, op_ssF, op_ttF, op_rrF, op_rrM, op_mmF, op_repF, li_rol, li_ref, bl_listF, bl_allF, bl_anyF, asT_some, asJ_some, op_eqBf, op_eqBt, isN_non, Bool.not_true, Bool.not_false, rep2]
      exact ⟨Nat.zero_le _, Nat.zero_le _, q _⟩
    · simp only [ex_c, ex_var, ex_op, ex_un, ex_b, ex_and, ex_or, ex_not, ex_andV, ex_orV, ex_notV, ex_if, ex_chain, ex_nil, ex_cons, ex_tup, ex_lst, ex_call, ex_callP, ex_cb, ex_bm, ex_rep, ex_sl, ex_noPart, ex_part, ex_yes, it_items, it_rng1, it_rng2, tg_name, tg_sub, tg_tup, tg_cons, tg_nil, gs_0, gs_s, ss_0, ss_s, op_ii, op_ss, op_tt, op_mm, op_sb, op_ng, op_iNf, op_iNt, op_lle, op_ixT, op_ixR, op_ixL, op_putE, op_appE, it_tupE, it_rolE, it_refE, lstOf_l, exL, asS_some, asI_int, asB_bl, asL_some, asN_some, ite3_t, ite3_f, bl_1, bl_lenT, bl_lenR, bl_lenL, bl_lenS, bl_tuple, bl_list, bl_abs, bl_intI, bl_intB, bl_max, bl_min, op_eqSf, op_eqSt, op_eqIf, op_eqIt, op_eqTf, op_eqTt, op_eqRf, op_eqRt, op_eqNf, op_eqNt, eqD_int, eqD_nil, pl_int, pl_nil, pl_non, pl_rnil, pl_bl, sl_tupE, sl_rolE, keep_ref, keep_tup, keep_rol, tp_int, tp_tup, tp_rol, tp_str, tp_bl, tp_non, tp_ref, oFd, oMd, oPw, oShl, oLt, oLe, oGt, oGe, op_in, op_cp, wipe_nil, wipe_cons, mset_same, true_and, and_true, isN_int, ex_lstF, ex_repF, ex_lgF1, ex_lgF2, ex_tupRg1, ex_tupRg2, ex_frz, ex_slF, ex_slM, sl_tupF, sl_rolF, op_iiF, op_ssF, op_ttF, op_rrF, op_rrM, op_mmF, op_repF, li_rol, li_ref, bl_listF, bl_allF, bl_anyF, asT_some, asJ_some, op_eqBf, op_eqBt, isN_non, Bool.not_true, Bool.not_false, rep2, eq_tab sq hn, eq_nil]
      rw [st_ret]
      simp only [ex_c, ex_var, ex_op, ex_un, ex_b, ex_and, ex_or, ex_not, ex_andV, ex_orV, ex_notV, ex_if, ex_chain, ex_nil, ex_cons, ex_tup, ex_lst, ex_call, ex_callP, ex_cb, ex_bm, ex_rep, ex_sl, ex_noPart, ex_part, ex_yes, it_items, it_rng1, it_rng2, tg_name, tg_sub, tg_tup, tg_cons, tg_nil, gs_0, gs_s, ss_0, ss_s, op_ii, op_ss, op_tt, op_mm, op_sb, op_ng, op_iNf, op_iNt, op_lle, op_ixT, op_ixR, op_ixL, op_putE, op_appE, it_tupE, it_rolE, it_refE, lstOf_l, exL, asS_some, asI_int, asB_bl, asL_some, asN_some, ite3_t, ite3_f, bl_1, bl_lenT, bl_lenR, bl_lenL, bl_lenS, bl_tuple, bl_list, bl_abs, bl_intI, bl_intB, bl_max, bl_min, op_eqSf, op_eqSt, op_eqIf, op_eqIt, op_eqTf, op_eqTt, op_eqRf, op_eqRt, op_eqNf, op_eqNt, eqD_int, eqD_nil, pl_int, pl_nil, pl_non, pl_rnil, pl_bl, sl_tupE, sl_rolE, keep_ref, keep_tup, keep_rol, tp_int, tp_tup, tp_rol, tp_str, tp_bl, tp_non, tp_ref, oFd, oMd, oPw, oShl, oLt, oLe, oGt, oGe, op_in, op_cp, wipe_nil, wipe_cons, mset_same, true_and, and_true, isN_int, ex_lstF, ex_repF, ex_lgF1, ex_lgF2, ex_tupRg1, ex_tupRg2, ex_frz, ex_slF, ex_slM, sl_tupF, sl_rolF, op_iiF, op_ssF, op_ttF, op_rrF, op_rrM, op_mmF, op_repF, li_rol, li_ref, bl_listF, bl_allF, bl_anyF, asT_some, asJ_some, op_eqBf, op_eqBt, isN_non, Bool.not_true, Bool.not_false, rep2]
      exact ⟨Nat.zero_le _, Nat.zero_le _, Nat.zero_le _, q _⟩
def eMx : Ed → Ed → Ed
  | some x, some y => some (if y > x then y else x)
  | _, _ => none
def arT (S V : Tab) : Tab := if S = [] then V else if V = [] then S else zipT eMx S V
def greaterR : XK3 → TS3 := fun E =>
  (wRet (wIf (wOr (wB (wOp (oIsN false) (wVar 0) (wC .non))) (wB (wOp (oIsN false) (wVar 1) (wC .non)))) (wC .non) (wCB bMax (wCons (wVar 0) (wCons (wVar 1) wNil)))))
def SGreater (sp : Sp3) : Prop := ∀ (a b : Ed) (Q : VK3) (E : XK3), (∀ M, Q (oD (eMx a b)) M) → sp [oD a, oD b] M0 Q E
theorem s_greater : SGreater (spOf 2 2 greaterR) := by
  refine fun a b Q E q => ⟨rfl, ?_⟩
  show greaterR E _ [some (oD a), some (oD b)] M0
  unfold greaterR
  rw [st_ret]
  cases a with
  | none =>
    simp only [ex_c, ex_var, ex_op, ex_un, ex_b, ex_and, ex_or, ex_not, ex_andV, ex_orV, ex_notV, ex_if, ex_chain, ex_nil, ex_cons, ex_tup, ex_lst, ex_call, ex_callP, ex_cb, ex_bm, ex_rep, ex_sl, ex_noPart, ex_part, ex_yes, it_items, it_rng1, it_rng2, tg_name, tg_sub, tg_tup, tg_cons, tg_nil, gs_0, gs_s, ss_0, ss_s, op_ii, op_ss, op_tt, op_mm, op_sb, op_ng, op_iNf, op_iNt, op_lle, op_ixT, op_ixR, op_ixL, op_putE, op_appE, it_tupE, it_rolE, it_refE, lstOf_l, exL, asS_some, asI_int, asB_bl, asL_some, asN_some, ite3_t, ite3_f, bl_1, bl_lenT, bl_lenR, bl_lenL, bl_lenS, bl_tuple, bl_list, bl_abs, bl_intI, bl_intB, bl_max, bl_min, op_eqSf, op_eqSt, op_eqIf, op_eqIt, op_eqTf, op_eqTt, op_eqRf, op_eqRt, op_eqNf, op_eqNt, eqD_int, eqD_nil, pl_int, pl_nil, pl_non, pl_rnil, pl_bl, sl_tupE, sl_rolE, keep_ref, keep_tup, keep_rol, tp_int, tp_tup, tp_rol, tp_str, tp_bl, tp_non, tp_ref, oFd, oMd, oPw, oShl, oLt, oLe, oGt, oGe, op_in, op_cp, wipe_nil, wipe_cons, mset_same, true_and, and_true, isN_int, ex_lstF, ex_repF, ex_lgF1, ex_lgF2, ex_tupRg1, ex_tupRg2, ex_frz, ex_slF, ex_slM, sl_tupF, sl_rolF, op_iiF, op_ssF, op_ttF, op_rrF, op_rrM, op_mmF, op_repF, li_rol, li_ref, bl_listF, bl_allF, bl_anyF, asT_some, asJ_some, op_eqBf, op_eqBt, isN_non, Bool.not_true, Bool.not_false, rep2, oD, isN_non]
    exact q _
  | some x =>
    cases b with
    | none =>
      simp only [ex_c, ex_var, ex_op, ex_un, ex_b, ex_and, ex_or, ex_not, ex_andV, ex_orV, ex_notV, ex_if, ex_chain, ex_nil, ex_cons, ex_tup, ex_lst, ex_call, ex_callP, ex_cb, ex_bm, ex_rep, ex_sl, ex_noPart, ex_part, ex_yes, it_items, it_rng1, it_rng2, tg_name, tg_sub, tg_tup, tg_cons, tg_nil, gs_0, gs_s, ss_0, ss_s, op_ii, op_ss, op_tt, op_mm, op_sb, op_ng, op_iNf, op_iNt, op_lle, op_ixT, op_ixR, op_ixL, op_putE, op_appE, it_tupE, it_rolE, it_refE, lstOf_l, exL, asS_some, asI_int, asB_bl, asL_some, asN_some, ite3_t, ite3_f, bl_1, bl_lenT, bl_lenR, bl_lenL, bl_lenS, bl_tuple, bl_list, bl_abs, bl_intI, bl_intB, bl_max, bl_min, op_eqSf, op_eqSt, op_eqIf, op_eqIt, op_eqTf, op_eqTt, op_eqRf, op_eqRt, op_eqNf, op_eqNt, eqD_int, eqD_nil, pl_int, pl_nil, pl_non, pl_rnil, pl_bl, sl_tupE, sl_rolE, keep_ref, keep_tup, keep_rol, tp_int, tp_tup, tp_rol, tp_str, tp_bl, tp_non, tp_ref, oFd, oMd, oPw, oShl, oLt, oLe, oGt, oGe, op_in, op_cp, wipe_nil, wipe_cons, mset_same, true_and, and_true, isN_int, ex_lstF, ex_repF, ex_lgF1, ex_lgF2, ex_tupRg1, ex_tupRg2, ex_frz, ex_slF, ex_slM, sl_tupF, sl_rolF, op_iiF, op_ssF, op_ttF, op_rrF, op_rrM, op_mmF, op_repF, li_rol, li_ref, bl_listF, bl_allF, bl_anyF, asT_some, asJ_some, op_eqBf, op_eqBt, isN_non, Bool.not_true, Bool.not_false, rep2, oD, isN_non, isN_int]
      exact q _
    | some y =>
      simp only [ex_c, ex_var, ex_op, ex_un, ex_b, ex_and, ex_or, ex_not, ex_andV, ex_orV, ex_notV, ex_if, ex_chain, ex_nil, ex_cons, ex_tup, ex_lst, ex_call, ex_callP, ex_cb, ex_bm, ex_rep, ex_sl, ex_noPart, ex_part, ex_yes, it_items, it_rng1, it_rng2, tg_name, tg_sub, tg_tup, tg_cons, tg_nil, gs_0, gs_s, ss_0, ss_s, op_ii, op_ss, op_tt, op_mm, op_sb, op_ng, op_iNf, op_iNt, op_lle, op_ixT, op_ixR, op_ixL, op_putE, op_appE, it_tupE, it_rolE, it_refE, lstOf_l, exL, asS_some, asI_int, asB_bl, asL_some, asN_some, ite3_t, ite3_f, bl_1, bl_lenT, bl_lenR, bl_lenL, bl_lenS, bl_tuple, bl_list, bl_abs, bl_intI, bl_intB, bl_max, bl_min, op_eqSf, op_eqSt, op_eqIf, op_eqIt, op_eqTf, op_eqTt, op_eqRf, op_eqRt, op_eqNf, op_eqNt, eqD_int, eqD_nil, pl_int, pl_nil, pl_non, pl_rnil, pl_bl, sl_tupE, sl_rolE, keep_ref, keep_tup, keep_rol, tp_int, tp_tup, tp_rol, tp_str, tp_bl, tp_non, tp_ref, oFd, oMd, oPw, oShl, oLt, oLe, oGt, oGe, op_in, op_cp, wipe_nil, wipe_cons, mset_same, true_and, and_true, isN_int, ex_lstF, ex_repF, ex_lgF1, ex_lgF2, ex_tupRg1, ex_tupRg2, ex_frz, ex_slF, ex_slM, sl_tupF, sl_rolF, op_iiF, op_ssF, op_ttF, op_rrF, op_rrM, op_mmF, op_repF, li_rol, li_ref, bl_listF, bl_allF, bl_anyF, asT_some, asJ_some, op_eqBf, op_eqBt, isN_non, Bool.not_true, Bool.not_false, rep2, oD, isN_int]
      exact q _
def aroundR (sp_closed : Sp3) (sp_greater : Sp3) : XK3 → TS3 := fun E =>
  (wSeq (wPar 2 3 (wCons (wCallP sp_closed E (wCons (wVar 0) wNil)) (wCons (wCallP sp_closed E (wCons (wVar 1) wNil)) wNil)))
  (wSeq (wIfS (wOr (wB (wOp (oEq false) (wVar 2) (wTup wNil))) (wB (wOp (oEq false) (wVar 3) (wTup wNil)))) (wRet (wIf (wB (wOp (oEq false) (wVar 2) (wTup wNil))) (wVar 3) (wVar 2))) wNext)
  (wSeq (wSet 4 (wLst wNil))
  (wSeq (wFor (wZipF (wCons (wVar 2) (wCons (wVar 3) wNil))) (wgTupN 2 (wgCons (wgName 5) (wgCons (wgName 6) wgNil))) (wDrop (wBM oApp (wVar 4) (wCons (wCB bTuple (wCons (wLcF (wZipF (wCons (wVar 5) (wCons (wVar 6) wNil))) (wgTupN 2 (wgCons (wgName 7) (wgCons (wgName 8) wgNil))) wYes (wCallP sp_greater X0 (wCons (wVar 7) (wCons (wVar 8) wNil))) [7, 8]) wNil)) wNil))))
  (wRet (wCB bTuple (wCons (wVar 4) wNil)))))))
theorem tab_cases {n : Nat} {S : Tab} (h : S = [] ∨ (Sq n S ∧ 0 < n)) : (S = []) ∨ (S ≠ [] ∧ Sq n S ∧ 0 < n) := by
  rcases h with h | ⟨sq, hn⟩
  · exact .inl h
  · exact .inr ⟨fun e => by have := sq.rows; rw [e] at this; simp at this; omega, sq, hn⟩
def SAround (sp : Sp3) : Prop := ∀ (k n m B C : Nat) (T U S V : Tab) (Q : VK3) (E : XK3), n ≤ 100 → m ≤ 100 → k ≤ 100 → 0 < B → 0 < C → TabB B n T → TabB C m U → Closes n B T (tabD S) → Closes m C U (tabD V) → (S = [] ∨ (Sq k S ∧ 0 < k)) → (V = [] ∨ (Sq k V ∧ 0 < k)) → (∀ M, Q (tabD (arT S V)) M) → sp [tabD T, tabD U] M0 Q E
theorem s_around {sc sg : Sp3} (kc : SClosed sc) (kg : SGreater sg) : SAround (spOf 2 9 (aroundR sc sg)) := by
  refine fun k n m B C T U S V Q E hn hm hk hB hC tT tU c1 c2 hS hV q => ⟨rfl, ?_⟩
  have big : (1000000 : Nat) ≤ sizeLine := by decide
  show aroundR sc sg E _ [some (tabD T), some (tabD U), none, none, none, none, none, none, none] M0
  unfold aroundR
  rw [st_seq, st_parE (d := .non) (e := .non)]
  simp only [ex_c, ex_var, ex_op, ex_un, ex_b, ex_and, ex_or, ex_not, ex_andV, ex_orV, ex_notV, ex_if, ex_chain, ex_nil, ex_cons, ex_tup, ex_lst, ex_call, ex_callP, ex_cb, ex_bm, ex_rep, ex_sl, ex_noPart, ex_part, ex_yes, it_items, it_rng1, it_rng2, tg_name, tg_sub, tg_tup, tg_cons, tg_nil, gs_0, gs_s, ss_0, ss_s, op_ii, op_ss, op_tt, op_mm, op_sb, op_ng, op_iNf, op_iNt, op_lle, op_ixT, op_ixR, op_ixL, op_putE, op_appE, it_tupE, it_rolE, it_refE, lstOf_l, exL, asS_some, asI_int, asB_bl, asL_some, asN_some, ite3_t, ite3_f, bl_1, bl_lenT, bl_lenR, bl_lenL, bl_lenS, bl_tuple, bl_list, bl_abs, bl_intI, bl_intB, bl_max, bl_min, op_eqSf, op_eqSt, op_eqIf, op_eqIt, op_eqTf, op_eqTt, op_eqRf, op_eqRt, op_eqNf, op_eqNt, eqD_int, eqD_nil, pl_int, pl_nil, pl_non, pl_rnil, pl_bl, sl_tupE, sl_rolE, keep_ref, keep_tup, keep_rol, tp_int, tp_tup, tp_rol, tp_str, tp_bl, tp_non, tp_ref, oFd, oMd, oPw, oShl, oLt, oLe, oGt, oGe, op_in, op_cp, wipe_nil, wipe_cons, mset_same, true_and, and_true, isN_int, ex_lstF, ex_repF, ex_lgF1, ex_lgF2, ex_tupRg1, ex_tupRg2, ex_frz, ex_slF, ex_slM, sl_tupF, sl_rolF, op_iiF, op_ssF, op_ttF, op_rrF, op_rrM, op_mmF, op_repF, li_rol, li_ref, bl_listF, bl_allF, bl_anyF, asT_some, asJ_some, op_eqBf, op_eqBt, isN_non, Bool.not_true, Bool.not_false, rep2]
  refine kc n B T _ _ (by omega) tT hB fun d _ hd => ?_
  rw [hd.uniq c1]
  (try simp only [ex_c, ex_var, ex_op, ex_un, ex_b, ex_and, ex_or, ex_not, ex_andV, ex_orV, ex_notV, ex_if, ex_chain, ex_nil, ex_cons, ex_tup, ex_lst, ex_call, ex_callP, ex_cb, ex_bm, ex_rep, ex_sl, ex_noPart, ex_part, ex_yes, it_items, it_rng1, it_rng2, tg_name, tg_sub, tg_tup, tg_cons, tg_nil, gs_0, gs_s, ss_0, ss_s, op_ii, op_ss, op_tt, op_mm, op_sb, op_ng, op_iNf, op_iNt, op_lle, op_ixT, op_ixR, op_ixL, op_putE, op_appE, it_tupE, it_rolE, it_refE, lstOf_l, exL, asS_some, asI_int, asB_bl, asL_some, asN_some, ite3_t, ite3_f, bl_1, bl_lenT, bl_lenR, bl_lenL, bl_lenS, bl_tuple, bl_list, bl_abs, bl_intI, bl_intB, bl_max, bl_min, op_eqSf, op_eqSt, op_eqIf, op_eqIt, op_eqTf, op_eqTt, op_eqRf, op_eqRt, op_eqNf, op_eqNt, eqD_int, eqD_nil, pl_int, pl_nil, pl_non, pl_rnil, pl_bl, sl_tupE, sl_rolE, keep_ref, keep_tup, keep_rol, tp_int, tp_tup, tp_rol, tp_str, tp_bl, tp_non, tp_ref, oFd, oMd, oPw, oShl, oLt, oLe, oGt, oGe, op_in, op_cp, wipe_nil, wipe_cons, mset_same, true_and, and_true, isN_int, ex_lstF, ex_repF, ex_lgF1, ex_lgF2, ex_tupRg1, ex_tupRg2, ex_frz, ex_slF, ex_slM, sl_tupF, sl_rolF, op_iiF, op_ssF, op_ttF, op_rrF, op_rrM, op_mmF, op_repF, li_rol, li_ref, bl_listF, bl_allF, bl_anyF, asT_some, asJ_some, op_eqBf, op_eqBt, isN_non, Bool.not_true, Bool.not_false, rep2])
  refine kc m C U _ _ (by omega) tU hC fun d _ hd => ?_
  rw [hd.uniq c2]
  try dsimp only
  rw [st_seq, st_if]
  rcases tab_cases hS with rfl | ⟨nS, sS, hk0⟩
  · have e0 : tabD [] = .tup [] := rfl
    rw [e0]
    simp only [ex_c, ex_var, ex_op, ex_un, ex_b, ex_and, ex_or, ex_not, ex_andV, ex_orV, ex_notV, ex_if, ex_chain, ex_nil, ex_cons, ex_tup, ex_lst, ex_call, ex_callP, ex_cb, ex_bm, ex_rep, ex_sl, ex_noPart, ex_part, ex_yes, it_items, it_rng1, it_rng2, tg_name, tg_sub, tg_tup, tg_cons, tg_nil, gs_0, gs_s, ss_0, ss_s, op_ii, op_ss, op_tt, op_mm, op_sb, op_ng, op_iNf, op_iNt, op_lle, op_ixT, op_ixR, op_ixL, op_putE, op_appE, it_tupE, it_rolE, it_refE, lstOf_l, exL, asS_some, asI_int, asB_bl, asL_some, asN_some, ite3_t, ite3_f, bl_1, bl_lenT, bl_lenR, bl_lenL, bl_lenS, bl_tuple, bl_list, bl_abs, bl_intI, bl_intB, bl_max, bl_min, op_eqSf, op_eqSt, op_eqIf, op_eqIt, op_eqTf, op_eqTt, op_eqRf, op_eqRt, op_eqNf, op_eqNt, eqD_int, eqD_nil, pl_int, pl_nil, pl_non, pl_rnil, pl_bl, sl_tupE, sl_rolE, keep_ref, keep_tup, keep_rol, tp_int, tp_tup, tp_rol, tp_str, tp_bl, tp_non, tp_ref, oFd, oMd, oPw, oShl, oLt, oLe, oGt, oGe, op_in, op_cp, wipe_nil, wipe_cons, mset_same, true_and, and_true, isN_int, ex_lstF, ex_repF, ex_lgF1, ex_lgF2, ex_tupRg1, ex_tupRg2, ex_frz, ex_slF, ex_slM, sl_tupF, sl_rolF, op_iiF, op_ssF, op_ttF, op_rrF, op_rrM, op_mmF, op_repF, li_rol, li_ref, bl_listF, bl_allF, bl_anyF, asT_some, asJ_some, op_eqBf, op_eqBt, isN_non, Bool.not_true, Bool.not_false, rep2, eq_nil]
    rw [st_ret]
    simp only [ex_c, ex_var, ex_op, ex_un, ex_b, ex_and, ex_or, ex_not, ex_andV, ex_orV, ex_notV, ex_if, ex_chain, ex_nil, ex_cons, ex_tup, ex_lst, ex_call, ex_callP, ex_cb, ex_bm, ex_rep, ex_sl, ex_noPart, ex_part, ex_yes, it_items, it_rng1, it_rng2, tg_name, tg_sub, tg_tup, tg_cons, tg_nil, gs_0, gs_s, ss_0, ss_s, op_ii, op_ss, op_tt, op_mm, op_sb, op_ng, op_iNf, op_iNt, op_lle, op_ixT, op_ixR, op_ixL, op_putE, op_appE, it_tupE, it_rolE, it_refE, lstOf_l, exL, asS_some, asI_int, asB_bl, asL_some, asN_some, ite3_t, ite3_f, bl_1, bl_lenT, bl_lenR, bl_lenL, bl_lenS, bl_tuple, bl_list, bl_abs, bl_intI, bl_intB, bl_max, bl_min, op_eqSf, op_eqSt, op_eqIf, op_eqIt, op_eqTf, op_eqTt, op_eqRf, op_eqRt, op_eqNf, op_eqNt, eqD_int, eqD_nil, pl_int, pl_nil, pl_non, pl_rnil, pl_bl, sl_tupE, sl_rolE, keep_ref, keep_tup, keep_rol, tp_int, tp_tup, tp_rol, tp_str, tp_bl, tp_non, tp_ref, oFd, oMd, oPw, oShl, oLt, oLe, oGt, oGe, op_in, op_cp, wipe_nil, wipe_cons, mset_same, true_and, and_true, isN_int, ex_lstF, ex_repF, ex_lgF1, ex_lgF2, ex_tupRg1, ex_tupRg2, ex_frz, ex_slF, ex_slM, sl_tupF, sl_rolF, op_iiF, op_ssF, op_ttF, op_rrF, op_rrM, op_mmF, op_repF, li_rol, li_ref, bl_listF, bl_allF, bl_anyF, asT_some, asJ_some, op_eqBf, op_eqBt, isN_non, Bool.not_true, Bool.not_false, rep2, eq_nil]
    refine ⟨Nat.zero_le _, Nat.zero_le _, ?_⟩
    unfold arT at q
    rw [if_pos rfl] at q
    exact q _
  rcases tab_cases hV with rfl | ⟨nV, sV, _⟩
  · have e0 : tabD [] = .tup [] := rfl
    rw [e0]
    simp only [ex_c, ex_var, ex_op, ex_un, ex_b, ex_and, ex_or, ex_not, ex_andV, ex_orV, ex_notV, ex_if, ex_chain, ex_nil, ex_cons, ex_tup, ex_lst, ex_call, ex_callP, ex_cb, ex_bm, ex_rep, ex_sl, ex_noPart, ex_part, ex_yes, it_items, it_rng1, it_rng2, tg_name, tg_sub, tg_tup, tg_cons, tg_nil, gs_0, gs_s, ss_0, ss_s, op_ii, op_ss, op_tt, op_mm, op_sb, op_ng, op_iNf, op_iNt, op_lle, op_ixT, op_ixR, op_ixL, op_putE, op_appE, it_tupE, it_rolE, it_refE, lstOf_l, exL, asS_some, asI_int, asB_bl, asL_some, asN_some, ite3_t, ite3_f, bl_1, bl_lenT, bl_lenR, bl_lenL, bl_lenS, bl_tuple, bl_list, bl_abs, bl_intI, bl_intB, bl_max, bl_min, op_eqSf, op_eqSt, op_eqIf, op_eqIt, op_eqTf, op_eqTt, op_eqRf, op_eqRt, op_eqNf, op_eqNt, eqD_int, eqD_nil, pl_int, pl_nil, pl_non, pl_rnil, pl_bl, sl_tupE, sl_rolE, keep_ref, keep_tup, keep_rol, tp_int, tp_tup, tp_rol, tp_str, tp_bl, tp_non, tp_ref, oFd, oMd, oPw, oShl, oLt, oLe, oGt, oGe, op_in, op_cp, wipe_nil, wipe_cons, mset_same, true_and, and_true, isN_int, ex_lstF, ex_repF, ex_lgF1, ex_lgF2, ex_tupRg1, ex_tupRg2, ex_frz, ex_slF, ex_slM, sl_tupF, sl_rolF, op_iiF, op_ssF, op_ttF, op_rrF, op_rrM, op_mmF, op_repF, li_rol, li_ref, bl_listF, bl_allF, bl_anyF, asT_some, asJ_some, op_eqBf, op_eqBt, isN_non, Bool.not_true, Bool.not_false, rep2, eq_tab sS hk0, eq_nil]
    rw [st_ret]
    simp only [ex_c, ex_var, ex_op, ex_un, ex_b, ex_and, ex_or, ex_not, ex_andV, ex_orV, ex_notV, ex_if, ex_chain, ex_nil, ex_cons, ex_tup, ex_lst, ex_call, ex_callP, ex_cb, ex_bm, ex_rep, ex_sl, ex_noPart, ex_part, ex_yes, it_items, it_rng1, it_rng2, tg_name, tg_sub, tg_tup, tg_cons, tg_nil, gs_0, gs_s, ss_0, ss_s, op_ii, op_ss, op_tt, op_mm, op_sb, op_ng, op_iNf, op_iNt, op_lle, op_ixT, op_ixR, op_ixL, op_putE, op_appE, it_tupE, it_rolE, it_refE, lstOf_l, exL, asS_some, asI_int, asB_bl, asL_some, asN_some, ite3_t, ite3_f, bl_1, bl_lenT, bl_lenR, bl_lenL, bl_lenS, bl_tuple, bl_list, bl_abs, bl_intI, bl_intB, bl_max, bl_min, op_eqSf, op_eqSt, op_eqIf, op_eqIt, op_eqTf, op_eqTt, op_eqRf, op_eqRt, op_eqNf, op_eqNt, eqD_int, eqD_nil, pl_int, pl_nil, pl_non, pl_rnil, pl_bl, sl_tupE, sl_rolE, keep_ref, keep_tup, keep_rol, tp_int, tp_tup, tp_rol, tp_str, tp_bl, tp_non, tp_ref, oFd, oMd, oPw, oShl, oLt, oLe, oGt, oGe, op_in, op_cp, wipe_nil, wipe_cons, mset_same, true_and, and_true, isN_int, ex_lstF, ex_repF, ex_lgF1, ex_lgF2, ex_tupRg1, ex_tupRg2, ex_frz, ex_slF, ex_slM, sl_tupF, sl_rolF, op_iiF, op_ssF, op_ttF, op_rrF, op_rrM, op_mmF, op_repF, li_rol, li_ref, bl_listF, bl_allF, bl_anyF, asT_some, asJ_some, op_eqBf, op_eqBt, isN_non, Bool.not_true, Bool.not_false, rep2, eq_tab sS hk0]
    refine ⟨Nat.zero_le _, Nat.zero_le _, Nat.zero_le _, ?_⟩
    unfold arT at q
    rw [if_neg nS, if_pos rfl] at q
    exact q _
  simp only [ex_c, ex_var, ex_op, ex_un, ex_b, ex_and, ex_or, ex_not, ex_andV, ex_orV, ex_notV, ex_if, ex_chain, ex_nil, ex_cons, ex_tup, ex_lst, ex_call, ex_callP, ex_cb, ex_bm, ex_rep, ex_sl, ex_noPart, ex_part, ex_yes, it_items, it_rng1, it_rng2, tg_name, tg_sub, tg_tup, tg_cons, tg_nil, gs_0, gs_s, ss_0, ss_s, op_ii, op_ss, op_tt, op_mm, op_sb, op_ng, op_iNf, op_iNt, op_lle, op_ixT, op_ixR, op_ixL, op_putE, op_appE, it_tupE, it_rolE, it_refE, lstOf_l, exL, asS_some, asI_int, asB_bl, asL_some, asN_some, ite3_t, ite3_f, bl_1, bl_lenT, bl_lenR, bl_lenL, bl_lenS, bl_tuple, bl_list, bl_abs, bl_intI, bl_intB, bl_max, bl_min, op_eqSf, op_eqSt, op_eqIf, op_eqIt, op_eqTf, op_eqTt, op_eqRf, op_eqRt, op_eqNf, op_eqNt, eqD_int, eqD_nil, pl_int, pl_nil, pl_non, pl_rnil, pl_bl, sl_tupE, sl_rolE, keep_ref, keep_tup, keep_rol, tp_int, tp_tup, tp_rol, tp_str, tp_bl, tp_non, tp_ref, oFd, oMd, oPw, oShl, oLt, oLe, oGt, oGe, op_in, op_cp, wipe_nil, wipe_cons, mset_same, true_and, and_true, isN_int, ex_lstF, ex_repF, ex_lgF1, ex_lgF2, ex_tupRg1, ex_tupRg2, ex_frz, ex_slF, ex_slM, sl_tupF, sl_rolF, op_iiF, op_ssF, op_ttF, op_rrF, op_rrM, op_mmF, op_repF, li_rol, li_ref, bl_listF, bl_allF, bl_anyF, asT_some, asJ_some, op_eqBf, op_eqBt, isN_non, Bool.not_true, Bool.not_false, rep2, eq_tab sS hk0, eq_tab sV hk0]
  refine ⟨Nat.zero_le _, Nat.zero_le _, ?_⟩
  unfold arT at q
  rw [if_neg nS, if_neg nV] at q
  rw [st_next]
  try dsimp only
  rw [st_seq, st_set]
  simp only [ex_c, ex_var, ex_op, ex_un, ex_b, ex_and, ex_or, ex_not, ex_andV, ex_orV, ex_notV, ex_if, ex_chain, ex_nil, ex_cons, ex_tup, ex_lst, ex_call, ex_callP, ex_cb, ex_bm, ex_rep, ex_sl, ex_noPart, ex_part, ex_yes, it_items, it_rng1, it_rng2, tg_name, tg_sub, tg_tup, tg_cons, tg_nil, gs_0, gs_s, ss_0, ss_s, op_ii, op_ss, op_tt, op_mm, op_sb, op_ng, op_iNf, op_iNt, op_lle, op_ixT, op_ixR, op_ixL, op_putE, op_appE, it_tupE, it_rolE, it_refE, lstOf_l, exL, asS_some, asI_int, asB_bl, asL_some, asN_some, ite3_t, ite3_f, bl_1, bl_lenT, bl_lenR, bl_lenL, bl_lenS, bl_tuple, bl_list, bl_abs, bl_intI, bl_intB, bl_max, bl_min, op_eqSf, op_eqSt, op_eqIf, op_eqIt, op_eqTf, op_eqTt, op_eqRf, op_eqRt, op_eqNf, op_eqNt, eqD_int, eqD_nil, pl_int, pl_nil, pl_non, pl_rnil, pl_bl, sl_tupE, sl_rolE, keep_ref, keep_tup, keep_rol, tp_int, tp_tup, tp_rol, tp_str, tp_bl, tp_non, tp_ref, oFd, oMd, oPw, oShl, oLt, oLe, oGt, oGe, op_in, op_cp, wipe_nil, wipe_cons, mset_same, true_and, and_true, isN_int, ex_lstF, ex_repF, ex_lgF1, ex_lgF2, ex_tupRg1, ex_tupRg2, ex_frz, ex_slF, ex_slM, sl_tupF, sl_rolF, op_iiF, op_ssF, op_ttF, op_rrF, op_rrM, op_mmF, op_repF, li_rol, li_ref, bl_listF, bl_allF, bl_anyF, asT_some, asJ_some, op_eqBf, op_eqBt, isN_non, Bool.not_true, Bool.not_false, rep2]
  refine ⟨Nat.zero_le _, fun l hl => ?_⟩
  try dsimp only
  rw [st_seq, st_for]
  simp only [ex_c, ex_var, ex_op, ex_un, ex_b, ex_and, ex_or, ex_not, ex_andV, ex_orV, ex_notV, ex_if, ex_chain, ex_nil, ex_cons, ex_tup, ex_lst, ex_call, ex_callP, ex_cb, ex_bm, ex_rep, ex_sl, ex_noPart, ex_part, ex_yes, it_items, it_rng1, it_rng2, tg_name, tg_sub, tg_tup, tg_cons, tg_nil, gs_0, gs_s, ss_0, ss_s, op_ii, op_ss, op_tt, op_mm, op_sb, op_ng, op_iNf, op_iNt, op_lle, op_ixT, op_ixR, op_ixL, op_putE, op_appE, it_tupE, it_rolE, it_refE, lstOf_l, exL, asS_some, asI_int, asB_bl, asL_some, asN_some, ite3_t, ite3_f, bl_1, bl_lenT, bl_lenR, bl_lenL, bl_lenS, bl_tuple, bl_list, bl_abs, bl_intI, bl_intB, bl_max, bl_min, op_eqSf, op_eqSt, op_eqIf, op_eqIt, op_eqTf, op_eqTt, op_eqRf, op_eqRt, op_eqNf, op_eqNt, eqD_int, eqD_nil, pl_int, pl_nil, pl_non, pl_rnil, pl_bl, sl_tupE, sl_rolE, keep_ref, keep_tup, keep_rol, tp_int, tp_tup, tp_rol, tp_str, tp_bl, tp_non, tp_ref, oFd, oMd, oPw, oShl, oLt, oLe, oGt, oGe, op_in, op_cp, wipe_nil, wipe_cons, mset_same, true_and, and_true, isN_int, ex_lstF, ex_repF, ex_lgF1, ex_lgF2, ex_tupRg1, ex_tupRg2, ex_frz, ex_slF, ex_slM, sl_tupF, sl_rolF, op_iiF, op_ssF, op_ttF, op_rrF, op_rrM, op_mmF, op_repF, li_rol, li_ref, bl_listF, bl_allF, bl_anyF, asT_some, asJ_some, op_eqBf, op_eqBt, isN_non, Bool.not_true, Bool.not_false, rep2, it_zipF, tabD]
  rw [zipD_map]
  have hzl : (S.zip V).length = k := by rw [List.length_zip, sS.rows, sV.rows, Nat.min_self]
  refine for_of (fun x : List Ed × List Ed => D.tup [rowD x.1, rowD x.2]) (fun i τ M => M l = some (.lst (((S.zip V).take i).map fun x => rowD (List.zipWith eMx x.1 x.2))) ∧ ∃ x3 x4, τ = [some (tabD T), some (tabD U), some (tabD S), some (tabD V), some (.ref l), x3, x4, none, none]) (fun _ _ _ _ => True.intro) ?_ ?_ ⟨mset_same, _, _, rfl⟩
  · rintro i x τ M hx ⟨hM, x3, x4, rfl⟩ X hX
    have hi := (List.getElem?_eq_some_iff.mp hx).1
    have hmm := List.mem_of_getElem? hx
    obtain ⟨r, s⟩ := x
    have hr := sS.cols r (List.of_mem_zip hmm).1
    have hs := sV.cols s (List.of_mem_zip hmm).2
    try dsimp only
    simp only [ex_c, ex_var, ex_op, ex_un, ex_b, ex_and, ex_or, ex_not, ex_andV, ex_orV, ex_notV, ex_if, ex_chain, ex_nil, ex_cons, ex_tup, ex_lst, ex_call, ex_callP, ex_cb, ex_bm, ex_rep, ex_sl, ex_noPart, ex_part, ex_yes, it_items, it_rng1, it_rng2, tg_name, tg_sub, tg_tup, tg_cons, tg_nil, gs_0, gs_s, ss_0, ss_s, op_ii, op_ss, op_tt, op_mm, op_sb, op_ng, op_iNf, op_iNt, op_lle, op_ixT, op_ixR, op_ixL, op_putE, op_appE, it_tupE, it_rolE, it_refE, lstOf_l, exL, asS_some, asI_int, asB_bl, asL_some, asN_some, ite3_t, ite3_f, bl_1, bl_lenT, bl_lenR, bl_lenL, bl_lenS, bl_tuple, bl_list, bl_abs, bl_intI, bl_intB, bl_max, bl_min, op_eqSf, op_eqSt, op_eqIf, op_eqIt, op_eqTf, op_eqTt, op_eqRf, op_eqRt, op_eqNf, op_eqNt, eqD_int, eqD_nil, pl_int, pl_nil, pl_non, pl_rnil, pl_bl, sl_tupE, sl_rolE, keep_ref, keep_tup, keep_rol, tp_int, tp_tup, tp_rol, tp_str, tp_bl, tp_non, tp_ref, oFd, oMd, oPw, oShl, oLt, oLe, oGt, oGe, op_in, op_cp, wipe_nil, wipe_cons, mset_same, true_and, and_true, isN_int, ex_lstF, ex_repF, ex_lgF1, ex_lgF2, ex_tupRg1, ex_tupRg2, ex_frz, ex_slF, ex_slM, sl_tupF, sl_rolF, op_iiF, op_ssF, op_ttF, op_rrF, op_rrM, op_mmF, op_repF, li_rol, li_ref, bl_listF, bl_allF, bl_anyF, asT_some, asJ_some, op_eqBf, op_eqBt, isN_non, Bool.not_true, Bool.not_false, rep2, List.length_cons, List.length_nil]
    rw [st_drop]
    simp only [ex_c, ex_var, ex_op, ex_un, ex_b, ex_and, ex_or, ex_not, ex_andV, ex_orV, ex_notV, ex_if, ex_chain, ex_nil, ex_cons, ex_tup, ex_lst, ex_call, ex_callP, ex_cb, ex_bm, ex_rep, ex_sl, ex_noPart, ex_part, ex_yes, it_items, it_rng1, it_rng2, tg_name, tg_sub, tg_tup, tg_cons, tg_nil, gs_0, gs_s, ss_0, ss_s, op_ii, op_ss, op_tt, op_mm, op_sb, op_ng, op_iNf, op_iNt, op_lle, op_ixT, op_ixR, op_ixL, op_putE, op_appE, it_tupE, it_rolE, it_refE, lstOf_l, exL, asS_some, asI_int, asB_bl, asL_some, asN_some, ite3_t, ite3_f, bl_1, bl_lenT, bl_lenR, bl_lenL, bl_lenS, bl_tuple, bl_list, bl_abs, bl_intI, bl_intB, bl_max, bl_min, op_eqSf, op_eqSt, op_eqIf, op_eqIt, op_eqTf, op_eqTt, op_eqRf, op_eqRt, op_eqNf, op_eqNt, eqD_int, eqD_nil, pl_int, pl_nil, pl_non, pl_rnil, pl_bl, sl_tupE, sl_rolE, keep_ref, keep_tup, keep_rol, tp_int, tp_tup, tp_rol, tp_str, tp_bl, tp_non, tp_ref, oFd, oMd, oPw, oShl, oLt, oLe, oGt, oGe, op_in, op_cp, wipe_nil, wipe_cons, mset_same, true_and, and_true, isN_int, ex_lstF, ex_repF, ex_lgF1, ex_lgF2, ex_tupRg1, ex_tupRg2, ex_frz, ex_slF, ex_slM, sl_tupF, sl_rolF, op_iiF, op_ssF, op_ttF, op_rrF, op_rrM, op_mmF, op_repF, li_rol, li_ref, bl_listF, bl_allF, bl_anyF, asT_some, asJ_some, op_eqBf, op_eqBt, isN_non, Bool.not_true, Bool.not_false, rep2, ex_lcF, it_zipF, rowD]
    rw [zipD_map]
    refine ⟨⟨_, hM⟩, ?_⟩
    refine lc_of (fun x : Ed × Ed => D.tup [oD x.1, oD x.2]) (fun x => oD (eMx x.1 x.2)) True.intro (r.zip s) (by rw [List.length_zip]; omega) (fun x hx K q => ?_) ?_
    · simp only [ex_c, ex_var, ex_op, ex_un, ex_b, ex_and, ex_or, ex_not, ex_andV, ex_orV, ex_notV, ex_if, ex_chain, ex_nil, ex_cons, ex_tup, ex_lst, ex_call, ex_callP, ex_cb, ex_bm, ex_rep, ex_sl, ex_noPart, ex_part, ex_yes, it_items, it_rng1, it_rng2, tg_name, tg_sub, tg_tup, tg_cons, tg_nil, gs_0, gs_s, ss_0, ss_s, op_ii, op_ss, op_tt, op_mm, op_sb, op_ng, op_iNf, op_iNt, op_lle, op_ixT, op_ixR, op_ixL, op_putE, op_appE, it_tupE, it_rolE, it_refE, lstOf_l, exL, asS_some, asI_int, asB_bl, asL_some, asN_some, ite3_t, ite3_f, bl_1, bl_lenT, bl_lenR, bl_lenL, bl_lenS, bl_tuple, bl_list, bl_abs, bl_intI, bl_intB, bl_max, bl_min, op_eqSf, op_eqSt, op_eqIf, op_eqIt, op_eqTf, op_eqTt, op_eqRf, op_eqRt, op_eqNf, op_eqNt, eqD_int, eqD_nil, pl_int, pl_nil, pl_non, pl_rnil, pl_bl, sl_tupE, sl_rolE, keep_ref, keep_tup, keep_rol, tp_int, tp_tup, tp_rol, tp_str, tp_bl, tp_non, tp_ref, oFd, oMd, oPw, oShl, oLt, oLe, oGt, oGe, op_in, op_cp, wipe_nil, wipe_cons, mset_same, true_and, and_true, isN_int, ex_lstF, ex_repF, ex_lgF1, ex_lgF2, ex_tupRg1, ex_tupRg2, ex_frz, ex_slF, ex_slM, sl_tupF, sl_rolF, op_iiF, op_ssF, op_ttF, op_rrF, op_rrM, op_mmF, op_repF, li_rol, li_ref, bl_listF, bl_allF, bl_anyF, asT_some, asJ_some, op_eqBf, op_eqBt, isN_non, Bool.not_true, Bool.not_false, rep2, List.length_cons, List.length_nil]
      exact kg x.1 x.2 _ _ fun _ => q
    rw [row_zip, hM]
    (try simp only [ex_c, ex_var, ex_op, ex_un, ex_b, ex_and, ex_or, ex_not, ex_andV, ex_orV, ex_notV, ex_if, ex_chain, ex_nil, ex_cons, ex_tup, ex_lst, ex_call, ex_callP, ex_cb, ex_bm, ex_rep, ex_sl, ex_noPart, ex_part, ex_yes, it_items, it_rng1, it_rng2, tg_name, tg_sub, tg_tup, tg_cons, tg_nil, gs_0, gs_s, ss_0, ss_s, op_ii, op_ss, op_tt, op_mm, op_sb, op_ng, op_iNf, op_iNt, op_lle, op_ixT, op_ixR, op_ixL, op_putE, op_appE, it_tupE, it_rolE, it_refE, lstOf_l, exL, asS_some, asI_int, asB_bl, asL_some, asN_some, ite3_t, ite3_f, bl_1, bl_lenT, bl_lenR, bl_lenL, bl_lenS, bl_tuple, bl_list, bl_abs, bl_intI, bl_intB, bl_max, bl_min, op_eqSf, op_eqSt, op_eqIf, op_eqIt, op_eqTf, op_eqTt, op_eqRf, op_eqRt, op_eqNf, op_eqNt, eqD_int, eqD_nil, pl_int, pl_nil, pl_non, pl_rnil, pl_bl, sl_tupE, sl_rolE, keep_ref, keep_tup, keep_rol, tp_int, tp_tup, tp_rol, tp_str, tp_bl, tp_non, tp_ref, oFd, oMd, oPw, oShl, oLt, oLe, oGt, oGe, op_in, op_cp, wipe_nil, wipe_cons, mset_same, true_and, and_true, isN_int, ex_lstF, ex_repF, ex_lgF1, ex_lgF2, ex_tupRg1, ex_tupRg2, ex_frz, ex_slF, ex_slM, sl_tupF, sl_rolF, op_iiF, op_ssF, op_ttF, op_rrF, op_rrM, op_mmF, op_repF, li_rol, li_ref, bl_listF, bl_allF, bl_anyF, asT_some, asJ_some, op_eqBf, op_eqBt, isN_non, Bool.not_true, Bool.not_false, rep2])
    refine ⟨by rw [List.length_map, List.length_take]; omega, hX _ _ ⟨?_, _, _, rfl⟩⟩
    rw [mset_same, zip_take hx]; rfl
  · rintro τ M ⟨hM, x3, x4, rfl⟩
    rw [List.take_length, zip_all] at hM
    try dsimp only
    rw [st_ret]
    simp only [ex_c, ex_var, ex_op, ex_un, ex_b, ex_and, ex_or, ex_not, ex_andV, ex_orV, ex_notV, ex_if, ex_chain, ex_nil, ex_cons, ex_tup, ex_lst, ex_call, ex_callP, ex_cb, ex_bm, ex_rep, ex_sl, ex_noPart, ex_part, ex_yes, it_items, it_rng1, it_rng2, tg_name, tg_sub, tg_tup, tg_cons, tg_nil, gs_0, gs_s, ss_0, ss_s, op_ii, op_ss, op_tt, op_mm, op_sb, op_ng, op_iNf, op_iNt, op_lle, op_ixT, op_ixR, op_ixL, op_putE, op_appE, it_tupE, it_rolE, it_refE, lstOf_l, exL, asS_some, asI_int, asB_bl, asL_some, asN_some, ite3_t, ite3_f, bl_1, bl_lenT, bl_lenR, bl_lenL, bl_lenS, bl_tuple, bl_list, bl_abs, bl_intI, bl_intB, bl_max, bl_min, op_eqSf, op_eqSt, op_eqIf, op_eqIt, op_eqTf, op_eqTt, op_eqRf, op_eqRt, op_eqNf, op_eqNt, eqD_int, eqD_nil, pl_int, pl_nil, pl_non, pl_rnil, pl_bl, sl_tupE, sl_rolE, keep_ref, keep_tup, keep_rol, tp_int, tp_tup, tp_rol, tp_str, tp_bl, tp_non, tp_ref, oFd, oMd, oPw, oShl, oLt, oLe, oGt, oGe, op_in, op_cp, wipe_nil, wipe_cons, mset_same, true_and, and_true, isN_int, ex_lstF, ex_repF, ex_lgF1, ex_lgF2, ex_tupRg1, ex_tupRg2, ex_frz, ex_slF, ex_slM, sl_tupF, sl_rolF, op_iiF, op_ssF, op_ttF, op_rrF, op_rrM, op_mmF, op_repF, li_rol, li_ref, bl_listF, bl_allF, bl_anyF, asT_some, asJ_some, op_eqBf, op_eqBt, isN_non, Bool.not_true, Bool.not_false, rep2, hM]
    exact q _
end L3
set_option Elab.async false
set_option linter.all false
set_option maxRecDepth 100000
set_option maxHeartbeats 4000000
namespace L3
open PySem PySem.Spec PyProof.Rows L2
theorem it_zipN {t : TA3} {τ : St3} {M : Mp} {R : List D → (Mp → Prop) → Mp → Prop} : wZipN t τ M R = t τ M fun ds M1 => match ds with
  | [.tup xs, .tup ys] => R (zipD xs ys) (fun _ => True) M1
  | _ => False := rfl
theorem in_pair {u v : Ed} {M : Mp} {Q : VK3} : oInD false .non (.tup [oD u, oD v]) M Q = Q (.bl (u.isNone || v.isNone)) M := by
  cases u <;> cases v <;> simp [oInD, oIn, items, asL, oD, flat, eqF]
theorem max_pair {x y : Int} {M : Mp} {Q : VK3} (q : Q (.int (if y > x then y else x)) M) : bMaxG [.tup [.int x, .int y]] M Q := by
  show 0 < [x, y].length ∧ ∀ m, m ∈ [x, y] → (∀ z, z ∈ [x, y] → z ≤ m) → Q (.int m) M
  refine ⟨Nat.zero_lt_succ _, fun m hm hy => ?_⟩
  have h1 := hy x (by simp)
  have h2 := hy y (by simp)
  have e : (if y > x then y else x) = m := by
    simp only [List.mem_cons, List.not_mem_nil, or_false] at hm
    split <;> omega
  rw [← e]; exact q
/-- what is there of a pair -/
def someD (u v : Ed) : List D := match u, v with
  | none, none => []
  | some x, none => [.int x]
  | none, some y => [.int y]
  | some x, some y => [.int x, .int y]
theorem min_some {x : Int} {M : Mp} {Q : VK3} (q : Q (.int x) M) : bMinG [.rol [.int x]] M Q := by
  show 0 < [x].length ∧ ∀ m, m ∈ [x] → (∀ z, z ∈ [x] → m ≤ z) → Q (.int m) M
  refine ⟨Nat.zero_lt_succ _, fun m hm hy => ?_⟩
  rw [List.mem_singleton.mp hm]; exact q
theorem min_pair {x y : Int} {M : Mp} {Q : VK3} (q : Q (.int (if y < x then y else x)) M) : bMinG [.rol [.int x, .int y]] M Q := by
  show 0 < [x, y].length ∧ ∀ m, m ∈ [x, y] → (∀ z, z ∈ [x, y] → m ≤ z) → Q (.int m) M
  refine ⟨Nat.zero_lt_succ _, fun m hm hy => ?_⟩
  have h1 := hy x (by simp)
  have h2 := hy y (by simp)
  have e : (if y < x then y else x) = m := by
    simp only [List.mem_cons, List.not_mem_nil, or_false] at hm
    split <;> omega
  rw [← e]; exact q
theorem pl_some {u v : Ed} : Pl (.rol (someD u v)) := by
  cases u <;> cases v <;> refine ⟨rfl, ?_⟩ <;> simp [someD, deep, deeps]
theorem ne_some {u v : Ed} {M : Mp} {Q : VK3} : oEq true (.rol (someD u v)) (.rol []) M Q = Q (.bl (u.isSome || v.isSome)) M := by
  rw [op_eqLt, tp_rol]
  have e : eqD (.rol (someD u v)) (.rol []) = !(u.isSome || v.isSome) := by
    cases u <;> cases v <;> simp [someD, eqD, pdOf, pdsOf, PyData.eqv, PyData.eqvAll]
  rw [e, Bool.not_not]
  exact propext ⟨fun h => h.2.2, fun h => ⟨pl_some, by rw [pl_rnil]; trivial, h⟩⟩
def greatestR : XK3 → TS3 := fun E =>
  (wSeq (wIfS (wOr (wB (wOp (oEq false) (wVar 0) (wTup wNil))) (wB (wOp (oEq false) (wVar 1) (wTup wNil)))) (wRet (wIf (wB (wOp (oEq false) (wVar 0) (wTup wNil))) (wVar 1) (wVar 0))) wNext)
  (wSeq (wSet 2 (wLst wNil))
  (wSeq (wFor (wZipF (wCons (wVar 0) (wCons (wVar 1) wNil))) (wgTupN 2 (wgCons (wgName 3) (wgCons (wgName 4) wgNil))) (wDrop (wBM oApp (wVar 2) (wCons (wCB bTuple (wCons (wLcF (wZipN (wCons (wVar 3) (wCons (wVar 4) wNil))) (wgName 5) wYes (wIf (wB (wOp (oInD false) (wC .non) (wVar 5))) (wC .non) (wCB bMaxG (wCons (wVar 5) wNil))) [5]) wNil)) wNil))))
  (wRet (wCB bTuple (wCons (wVar 2) wNil))))))
def leastER : XK3 → TS3 := fun E =>
  (wSeq (wIfS (wOr (wB (wOp (oEq false) (wVar 0) (wTup wNil))) (wB (wOp (oEq false) (wVar 1) (wTup wNil)))) (wRet (wTup wNil)) wNext)
  (wSeq (wSet 2 (wLst wNil))
  (wSeq (wFor (wZipF (wCons (wVar 0) (wCons (wVar 1) wNil))) (wgTupN 2 (wgCons (wgName 3) (wgCons (wgName 4) wgNil))) (wSeq (wSet 5 (wLcF (wZipN (wCons (wVar 3) (wCons (wVar 4) wNil))) (wgName 6) wYes (wLcF (wItems (wVar 6)) (wgName 7) (wB (wOp (oIsN true) (wVar 7) (wC .non))) (wVar 7) [7]) [6]))
  (wDrop (wBM oApp (wVar 2) (wCons (wCB bTuple (wCons (wLcF (wItems (wVar 5)) (wgName 6) wYes (wIf (wB (wOp (oEq true) (wVar 6) (wLstF wNil))) (wCB bMinG (wCons (wVar 6) wNil)) (wC .non)) [6]) wNil)) wNil)))))
  (wRet (wCB bTuple (wCons (wVar 2) wNil))))))
def SGreatest (sp : Sp3) : Prop := ∀ (k : Nat) (S V : Tab) (Q : VK3) (E : XK3), k ≤ 100 → (S = [] ∨ (Sq k S ∧ 0 < k)) → (V = [] ∨ (Sq k V ∧ 0 < k)) → (∀ M, Q (tabD (arT S V)) M) → sp [tabD S, tabD V] M0 Q E
theorem s_greatest : SGreatest (spOf 2 6 greatestR) := by
  refine fun k S V Q E hk hS hV q => ⟨rfl, ?_⟩
  have big : (1000000 : Nat) ≤ sizeLine := by decide
  show greatestR E _ [some (tabD S), some (tabD V), none, none, none, none] M0
  unfold greatestR
  rw [st_seq, st_if]
  rcases tab_cases hS with rfl | ⟨nS, sS, hk0⟩
  · have e0 : tabD [] = .tup [] := rfl
    rw [e0]
    simp only [ex_c, ex_var, ex_op, ex_un, ex_b, ex_and, ex_or, ex_not, ex_andV, ex_orV, ex_notV, ex_if, ex_chain, ex_nil, ex_cons, ex_tup, ex_lst, ex_call, ex_callP, ex_cb, ex_bm, ex_rep, ex_sl, ex_noPart, ex_part, ex_yes, it_items, it_rng1, it_rng2, tg_name, tg_sub, tg_tup, tg_cons, tg_nil, gs_0, gs_s, ss_0, ss_s, op_ii, op_ss, op_tt, op_mm, op_sb, op_ng, op_iNf, op_iNt, op_lle, op_ixT, op_ixR, op_ixL, op_putE, op_appE, it_tupE, it_rolE, it_refE, lstOf_l, exL, asS_some, asI_int, asB_bl, asL_some, asN_some, ite3_t, ite3_f, bl_1, bl_lenT, bl_lenR, bl_lenL, bl_lenS, bl_tuple, bl_list, bl_abs, bl_intI, bl_intB, bl_max, bl_min, op_eqSf, op_eqSt, op_eqIf, op_eqIt, op_eqTf, op_eqTt, op_eqRf, op_eqRt, op_eqNf, op_eqNt, eqD_int, eqD_nil, pl_int, pl_nil, pl_non, pl_rnil, pl_bl, sl_tupE, sl_rolE, keep_ref, keep_tup, keep_rol, tp_int, tp_tup, tp_rol, tp_str, tp_bl, tp_non, tp_ref, oFd, oMd, oPw, oShl, oLt, oLe, oGt, oGe, op_in, op_cp, wipe_nil, wipe_cons, mset_same, true_and, and_true, isN_int, ex_lstF, ex_repF, ex_lgF1, ex_lgF2, ex_tupRg1, ex_tupRg2, ex_frz, ex_slF, ex_slM, sl_tupF, sl_rolF, op_iiF, op_ssF, op_ttF, op_rrF, op_rrM, op_mmF, op_repF, li_rol, li_ref, bl_listF, bl_allF, bl_anyF, asT_some, asJ_some, op_eqBf, op_eqBt, isN_non, Bool.not_true, Bool.not_false, rep2, eq_nil]
    rw [st_ret]
    simp only [ex_c, ex_var, ex_op, ex_un, ex_b, ex_and, ex_or, ex_not, ex_andV, ex_orV, ex_notV, ex_if, ex_chain, ex_nil, ex_cons, ex_tup, ex_lst, ex_call, ex_callP, ex_cb, ex_bm, ex_rep, ex_sl, ex_noPart, ex_part, ex_yes, it_items, it_rng1, it_rng2, tg_name, tg_sub, tg_tup, tg_cons, tg_nil, gs_0, gs_s, ss_0, ss_s, op_ii, op_ss, op_tt, op_mm, op_sb, op_ng, op_iNf, op_iNt, op_lle, op_ixT, op_ixR, op_ixL, op_putE, op_appE, it_tupE, it_rolE, it_refE, lstOf_l, exL, asS_some, asI_int, asB_bl, asL_some, asN_some, ite3_t, ite3_f, bl_1, bl_lenT, bl_lenR, bl_lenL, bl_lenS, bl_tuple, bl_list, bl_abs, bl_intI, bl_intB, bl_max, bl_min, op_eqSf, op_eqSt, op_eqIf, op_eqIt, op_eqTf, op_eqTt, op_eqRf, op_eqRt, op_eqNf, op_eqNt, eqD_int, eqD_nil, pl_int, pl_nil, pl_non, pl_rnil, pl_bl, sl_tupE, sl_rolE, keep_ref, keep_tup, keep_rol, tp_int, tp_tup, tp_rol, tp_str, tp_bl, tp_non, tp_ref, oFd, oMd, oPw, oShl, oLt, oLe, oGt, oGe, op_in, op_cp, wipe_nil, wipe_cons, mset_same, true_and, and_true, isN_int, ex_lstF, ex_repF, ex_lgF1, ex_lgF2, ex_tupRg1, ex_tupRg2, ex_frz, ex_slF, ex_slM, sl_tupF, sl_rolF, op_iiF, op_ssF, op_ttF, op_rrF, op_rrM, op_mmF, op_repF, li_rol, li_ref, bl_listF, bl_allF, bl_anyF, asT_some, asJ_some, op_eqBf, op_eqBt, isN_non, Bool.not_true, Bool.not_false, rep2, eq_nil]
    refine ⟨Nat.zero_le _, Nat.zero_le _, ?_⟩
    unfold arT at q
    rw [if_pos rfl] at q
    exact q _
  rcases tab_cases hV with rfl | ⟨nV, sV, _⟩
  · have e0 : tabD [] = .tup [] := rfl
    rw [e0]
    simp only [ex_c, ex_var, ex_op, ex_un, ex_b, ex_and, ex_or, ex_not, ex_andV, ex_orV, ex_notV, ex_if, ex_chain, ex_nil, ex_cons, ex_tup, ex_lst, ex_call, ex_callP, ex_cb, ex_bm, ex_rep, ex_sl, ex_noPart, ex_part, ex_yes, it_items, it_rng1, it_rng2, tg_name, tg_sub, tg_tup, tg_cons, tg_nil, gs_0, gs_s, ss_0, ss_s, op_ii, op_ss, op_tt, op_mm, op_sb, op_ng, op_iNf, op_iNt, op_lle, op_ixT, op_ixR, op_ixL, op_putE, op_appE, it_tupE, it_rolE, it_refE, lstOf_l, exL, asS_some, asI_int, asB_bl, asL_some, asN_some, ite3_t, ite3_f, bl_1, bl_lenT, bl_lenR, bl_lenL, bl_lenS, bl_tuple, bl_list, bl_abs, bl_intI, bl_intB, bl_max, bl_min, op_eqSf, op_eqSt, op_eqIf, op_eqIt, op_eqTf, op_eqTt, op_eqRf, op_eqRt, op_eqNf, op_eqNt, eqD_int, eqD_nil, pl_int, pl_nil, pl_non, pl_rnil, pl_bl, sl_tupE, sl_rolE, keep_ref, keep_tup, keep_rol, tp_int, tp_tup, tp_rol, tp_str, tp_bl, tp_non, tp_ref, oFd, oMd, oPw, oShl, oLt, oLe, oGt, oGe, op_in, op_cp, wipe_nil, wipe_cons, mset_same, true_and, and_true, isN_int, ex_lstF, ex_repF, ex_lgF1, ex_lgF2, ex_tupRg1, ex_tupRg2, ex_frz, ex_slF, ex_slM, sl_tupF, sl_rolF, op_iiF, op_ssF, op_ttF, op_rrF, op_rrM, op_mmF, op_repF, li_rol, li_ref, bl_listF, bl_allF, bl_anyF, asT_some, asJ_some, op_eqBf, op_eqBt, isN_non, Bool.not_true, Bool.not_false, rep2, eq_tab sS hk0, eq_nil]
    rw [st_ret]
    simp only [ex_c, ex_var, ex_op, ex_un, ex_b, ex_and, ex_or, ex_not, ex_andV, ex_orV, ex_notV, ex_if, ex_chain, ex_nil, ex_cons, ex_tup, ex_lst, ex_call, ex_callP, ex_cb, ex_bm, ex_rep, ex_sl, ex_noPart, ex_part, ex_yes, it_items, it_rng1, it_rng2, tg_name, tg_sub, tg_tup, tg_cons, tg_nil, gs_0, gs_s, ss_0, ss_s, op_ii, op_ss, op_tt, op_mm, op_sb, op_ng, op_iNf, op_iNt, op_lle, op_ixT, op_ixR, op_ixL, op_putE, op_appE, it_tupE, it_rolE, it_refE, lstOf_l, exL, asS_some, asI_int, asB_bl, asL_some, asN_some, ite3_t, ite3_f, bl_1, bl_lenT, bl_lenR, bl_lenL, bl_lenS, bl_tuple, bl_list, bl_abs, bl_intI, bl_intB, bl_max, bl_min, op_eqSf, op_eqSt, op_eqIf, op_eqIt, op_eqTf, op_eqTt, op_eqRf, op_eqRt, op_eqNf, op_eqNt, eqD_int, eqD_nil, pl_int, pl_nil, pl_non, pl_rnil, pl_bl, sl_tupE, sl_rolE, keep_ref, keep_tup, keep_rol, tp_int, tp_tup, tp_rol, tp_str, tp_bl, tp_non, tp_ref, oFd, oMd, oPw, oShl, oLt, oLe, oGt, oGe, op_in, op_cp, wipe_nil, wipe_cons, mset_same, true_and, and_true, isN_int, ex_lstF, ex_repF, ex_lgF1, ex_lgF2, ex_tupRg1, ex_tupRg2, ex_frz, ex_slF, ex_slM, sl_tupF, sl_rolF, op_iiF, op_ssF, op_ttF, op_rrF, op_rrM, op_mmF, op_repF, li_rol, li_ref, bl_listF, bl_allF, bl_anyF, asT_some, asJ_some, op_eqBf, op_eqBt, isN_non, Bool.not_true, Bool.not_false, rep2, eq_tab sS hk0]
    refine ⟨Nat.zero_le _, Nat.zero_le _, Nat.zero_le _, ?_⟩
    unfold arT at q
    rw [if_neg nS, if_pos rfl] at q
    exact q _
  simp only [ex_c, ex_var, ex_op, ex_un, ex_b, ex_and, ex_or, ex_not, ex_andV, ex_orV, ex_notV, ex_if, ex_chain, ex_nil, ex_cons, ex_tup, ex_lst, ex_call, ex_callP, ex_cb, ex_bm, ex_rep, ex_sl, ex_noPart, ex_part, ex_yes, it_items, it_rng1, it_rng2, tg_name, tg_sub, tg_tup, tg_cons, tg_nil, gs_0, gs_s, ss_0, ss_s, op_ii, op_ss, op_tt, op_mm, op_sb, op_ng, op_iNf, op_iNt, op_lle, op_ixT, op_ixR, op_ixL, op_putE, op_appE, it_tupE, it_rolE, it_refE, lstOf_l, exL, asS_some, asI_int, asB_bl, asL_some, asN_some, ite3_t, ite3_f, bl_1, bl_lenT, bl_lenR, bl_lenL, bl_lenS, bl_tuple, bl_list, bl_abs, bl_intI, bl_intB, bl_max, bl_min, op_eqSf, op_eqSt, op_eqIf, op_eqIt, op_eqTf, op_eqTt, op_eqRf, op_eqRt, op_eqNf, op_eqNt, eqD_int, eqD_nil, pl_int, pl_nil, pl_non, pl_rnil, pl_bl, sl_tupE, sl_rolE, keep_ref, keep_tup, keep_rol, tp_int, tp_tup, tp_rol, tp_str, tp_bl, tp_non, tp_ref, oFd, oMd, oPw, oShl, oLt, oLe, oGt, oGe, op_in, op_cp, wipe_nil, wipe_cons, mset_same, true_and, and_true, isN_int, ex_lstF, ex_repF, ex_lgF1, ex_lgF2, ex_tupRg1, ex_tupRg2, ex_frz, ex_slF, ex_slM, sl_tupF, sl_rolF, op_iiF, op_ssF, op_ttF, op_rrF, op_rrM, op_mmF, op_repF, li_rol, li_ref, bl_listF, bl_allF, bl_anyF, asT_some, asJ_some, op_eqBf, op_eqBt, isN_non, Bool.not_true, Bool.not_false, rep2, eq_tab sS hk0, eq_tab sV hk0]
  refine ⟨Nat.zero_le _, Nat.zero_le _, ?_⟩
  unfold arT at q
  rw [if_neg nS, if_neg nV] at q
  rw [st_next]
  try dsimp only
  rw [st_seq, st_set]
  simp only [ex_c, ex_var, ex_op, ex_un, ex_b, ex_and, ex_or, ex_not, ex_andV, ex_orV, ex_notV, ex_if, ex_chain, ex_nil, ex_cons, ex_tup, ex_lst, ex_call, ex_callP, ex_cb, ex_bm, ex_rep, ex_sl, ex_noPart, ex_part, ex_yes, it_items, it_rng1, it_rng2, tg_name, tg_sub, tg_tup, tg_cons, tg_nil, gs_0, gs_s, ss_0, ss_s, op_ii, op_ss, op_tt, op_mm, op_sb, op_ng, op_iNf, op_iNt, op_lle, op_ixT, op_ixR, op_ixL, op_putE, op_appE, it_tupE, it_rolE, it_refE, lstOf_l, exL, asS_some, asI_int, asB_bl, asL_some, asN_some, ite3_t, ite3_f, bl_1, bl_lenT, bl_lenR, bl_lenL, bl_lenS, bl_tuple, bl_list, bl_abs, bl_intI, bl_intB, bl_max, bl_min, op_eqSf, op_eqSt, op_eqIf, op_eqIt, op_eqTf, op_eqTt, op_eqRf, op_eqRt, op_eqNf, op_eqNt, eqD_int, eqD_nil, pl_int, pl_nil, pl_non, pl_rnil, pl_bl, sl_tupE, sl_rolE, keep_ref, keep_tup, keep_rol, tp_int, tp_tup, tp_rol, tp_str, tp_bl, tp_non, tp_ref, oFd, oMd, oPw, oShl, oLt, oLe, oGt, oGe, op_in, op_cp, wipe_nil, wipe_cons, mset_same, true_and, and_true, isN_int, ex_lstF, ex_repF, ex_lgF1, ex_lgF2, ex_tupRg1, ex_tupRg2, ex_frz, ex_slF, ex_slM, sl_tupF, sl_rolF, op_iiF, op_ssF, op_ttF, op_rrF, op_rrM, op_mmF, op_repF, li_rol, li_ref, bl_listF, bl_allF, bl_anyF, asT_some, asJ_some, op_eqBf, op_eqBt, isN_non, Bool.not_true, Bool.not_false, rep2]
  refine ⟨Nat.zero_le _, fun l hl => ?_⟩
  try dsimp only
  rw [st_seq, st_for]
  simp only [ex_c, ex_var, ex_op, ex_un, ex_b, ex_and, ex_or, ex_not, ex_andV, ex_orV, ex_notV, ex_if, ex_chain, ex_nil, ex_cons, ex_tup, ex_lst, ex_call, ex_callP, ex_cb, ex_bm, ex_rep, ex_sl, ex_noPart, ex_part, ex_yes, it_items, it_rng1, it_rng2, tg_name, tg_sub, tg_tup, tg_cons, tg_nil, gs_0, gs_s, ss_0, ss_s, op_ii, op_ss, op_tt, op_mm, op_sb, op_ng, op_iNf, op_iNt, op_lle, op_ixT, op_ixR, op_ixL, op_putE, op_appE, it_tupE, it_rolE, it_refE, lstOf_l, exL, asS_some, asI_int, asB_bl, asL_some, asN_some, ite3_t, ite3_f, bl_1, bl_lenT, bl_lenR, bl_lenL, bl_lenS, bl_tuple, bl_list, bl_abs, bl_intI, bl_intB, bl_max, bl_min, op_eqSf, op_eqSt, op_eqIf, op_eqIt, op_eqTf, op_eqTt, op_eqRf, op_eqRt, op_eqNf, op_eqNt, eqD_int, eqD_nil, pl_int, pl_nil, pl_non, pl_rnil, pl_bl, sl_tupE, sl_rolE, keep_ref, keep_tup, keep_rol, tp_int, tp_tup, tp_rol, tp_str, tp_bl, tp_non, tp_ref, oFd, oMd, oPw, oShl, oLt, oLe, oGt, oGe, op_in, op_cp, wipe_nil, wipe_cons, mset_same, true_and, and_true, isN_int, ex_lstF, ex_repF, ex_lgF1, ex_lgF2, ex_tupRg1, ex_tupRg2, ex_frz, ex_slF, ex_slM, sl_tupF, sl_rolF, op_iiF, op_ssF, op_ttF, op_rrF, op_rrM, op_mmF, op_repF, li_rol, li_ref, bl_listF, bl_allF, bl_anyF, asT_some, asJ_some, op_eqBf, op_eqBt, isN_non, Bool.not_true, Bool.not_false, rep2, it_zipF, tabD]
  rw [zipD_map]
  have hzl : (S.zip V).length = k := by rw [List.length_zip, sS.rows, sV.rows, Nat.min_self]
  refine for_of (fun x : List Ed × List Ed => D.tup [rowD x.1, rowD x.2]) (fun i τ M => M l = some (.lst (((S.zip V).take i).map fun x => rowD (List.zipWith eMx x.1 x.2))) ∧ ∃ x3 x4, τ = [some (tabD S), some (tabD V), some (.ref l), x3, x4, none]) (fun _ _ _ _ => True.intro) ?_ ?_ ⟨mset_same, _, _, rfl⟩
  · rintro i x τ M hx ⟨hM, x3, x4, rfl⟩ X hX
    have hi := (List.getElem?_eq_some_iff.mp hx).1
    have hmm := List.mem_of_getElem? hx
    obtain ⟨r, s⟩ := x
    have hr := sS.cols r (List.of_mem_zip hmm).1
    have hs := sV.cols s (List.of_mem_zip hmm).2
    try dsimp only
    simp only [ex_c, ex_var, ex_op, ex_un, ex_b, ex_and, ex_or, ex_not, ex_andV, ex_orV, ex_notV, ex_if, ex_chain, ex_nil, ex_cons, ex_tup, ex_lst, ex_call, ex_callP, ex_cb, ex_bm, ex_rep, ex_sl, ex_noPart, ex_part, ex_yes, it_items, it_rng1, it_rng2, tg_name, tg_sub, tg_tup, tg_cons, tg_nil, gs_0, gs_s, ss_0, ss_s, op_ii, op_ss, op_tt, op_mm, op_sb, op_ng, op_iNf, op_iNt, op_lle, op_ixT, op_ixR, op_ixL, op_putE, op_appE, it_tupE, it_rolE, it_refE, lstOf_l, exL, asS_some, asI_int, asB_bl, asL_some, asN_some, ite3_t, ite3_f, bl_1, bl_lenT, bl_lenR, bl_lenL, bl_lenS, bl_tuple, bl_list, bl_abs, bl_intI, bl_intB, bl_max, bl_min, op_eqSf, op_eqSt, op_eqIf, op_eqIt, op_eqTf, op_eqTt, op_eqRf, op_eqRt, op_eqNf, op_eqNt, eqD_int, eqD_nil, pl_int, pl_nil, pl_non, pl_rnil, pl_bl, sl_tupE, sl_rolE, keep_ref, keep_tup, keep_rol, tp_int, tp_tup, tp_rol, tp_str, tp_bl, tp_non, tp_ref, oFd, oMd, oPw, oShl, oLt, oLe, oGt, oGe, op_in, op_cp, wipe_nil, wipe_cons, mset_same, true_and, and_true, isN_int, ex_lstF, ex_repF, ex_lgF1, ex_lgF2, ex_tupRg1, ex_tupRg2, ex_frz, ex_slF, ex_slM, sl_tupF, sl_rolF, op_iiF, op_ssF, op_ttF, op_rrF, op_rrM, op_mmF, op_repF, li_rol, li_ref, bl_listF, bl_allF, bl_anyF, asT_some, asJ_some, op_eqBf, op_eqBt, isN_non, Bool.not_true, Bool.not_false, rep2, List.length_cons, List.length_nil]
    rw [st_drop]
    simp only [ex_c, ex_var, ex_op, ex_un, ex_b, ex_and, ex_or, ex_not, ex_andV, ex_orV, ex_notV, ex_if, ex_chain, ex_nil, ex_cons, ex_tup, ex_lst, ex_call, ex_callP, ex_cb, ex_bm, ex_rep, ex_sl, ex_noPart, ex_part, ex_yes, it_items, it_rng1, it_rng2, tg_name, tg_sub, tg_tup, tg_cons, tg_nil, gs_0, gs_s, ss_0, ss_s, op_ii, op_ss, op_tt, op_mm, op_sb, op_ng, op_iNf, op_iNt, op_lle, op_ixT, op_ixR, op_ixL, op_putE, op_appE, it_tupE, it_rolE, it_refE, lstOf_l, exL, asS_some, asI_int, asB_bl, asL_some, asN_some, ite3_t, ite3_f, bl_1, bl_lenT, bl_lenR, bl_lenL, bl_lenS, bl_tuple, bl_list, bl_abs, bl_intI, bl_intB, bl_max, bl_min, op_eqSf, op_eqSt, op_eqIf, op_eqIt, op_eqTf, op_eqTt, op_eqRf, op_eqRt, op_eqNf, op_eqNt, eqD_int, eqD_nil, pl_int, pl_nil, pl_non, pl_rnil, pl_bl, sl_tupE, sl_rolE, keep_ref, keep_tup, keep_rol, tp_int, tp_tup, tp_rol, tp_str, tp_bl, tp_non, tp_ref, oFd, oMd, oPw, oShl, oLt, oLe, oGt, oGe, op_in, op_cp, wipe_nil, wipe_cons, mset_same, true_and, and_true, isN_int, ex_lstF, ex_repF, ex_lgF1, ex_lgF2, ex_tupRg1, ex_tupRg2, ex_frz, ex_slF, ex_slM, sl_tupF, sl_rolF, op_iiF, op_ssF, op_ttF, op_rrF, op_rrM, op_mmF, op_repF, li_rol, li_ref, bl_listF, bl_allF, bl_anyF, asT_some, asJ_some, op_eqBf, op_eqBt, isN_non, Bool.not_true, Bool.not_false, rep2, ex_lcF, it_zipN, rowD]
    rw [zipD_map]
    refine ⟨⟨_, hM⟩, ?_⟩
    refine lc_of (fun x : Ed × Ed => D.tup [oD x.1, oD x.2]) (fun x => oD (eMx x.1 x.2)) True.intro (r.zip s) (by rw [List.length_zip]; omega) (fun x hx K q => ?_) ?_
    · obtain ⟨u, v⟩ := x
      simp only [ex_c, ex_var, ex_op, ex_un, ex_b, ex_and, ex_or, ex_not, ex_andV, ex_orV, ex_notV, ex_if, ex_chain, ex_nil, ex_cons, ex_tup, ex_lst, ex_call, ex_callP, ex_cb, ex_bm, ex_rep, ex_sl, ex_noPart, ex_part, ex_yes, it_items, it_rng1, it_rng2, tg_name, tg_sub, tg_tup, tg_cons, tg_nil, gs_0, gs_s, ss_0, ss_s, op_ii, op_ss, op_tt, op_mm, op_sb, op_ng, op_iNf, op_iNt, op_lle, op_ixT, op_ixR, op_ixL, op_putE, op_appE, it_tupE, it_rolE, it_refE, lstOf_l, exL, asS_some, asI_int, asB_bl, asL_some, asN_some, ite3_t, ite3_f, bl_1, bl_lenT, bl_lenR, bl_lenL, bl_lenS, bl_tuple, bl_list, bl_abs, bl_intI, bl_intB, bl_max, bl_min, op_eqSf, op_eqSt, op_eqIf, op_eqIt, op_eqTf, op_eqTt, op_eqRf, op_eqRt, op_eqNf, op_eqNt, eqD_int, eqD_nil, pl_int, pl_nil, pl_non, pl_rnil, pl_bl, sl_tupE, sl_rolE, keep_ref, keep_tup, keep_rol, tp_int, tp_tup, tp_rol, tp_str, tp_bl, tp_non, tp_ref, oFd, oMd, oPw, oShl, oLt, oLe, oGt, oGe, op_in, op_cp, wipe_nil, wipe_cons, mset_same, true_and, and_true, isN_int, ex_lstF, ex_repF, ex_lgF1, ex_lgF2, ex_tupRg1, ex_tupRg2, ex_frz, ex_slF, ex_slM, sl_tupF, sl_rolF, op_iiF, op_ssF, op_ttF, op_rrF, op_rrM, op_mmF, op_repF, li_rol, li_ref, bl_listF, bl_allF, bl_anyF, asT_some, asJ_some, op_eqBf, op_eqBt, isN_non, Bool.not_true, Bool.not_false, rep2, in_pair]
      cases u with
      | none =>
        simp only [ex_c, ex_var, ex_op, ex_un, ex_b, ex_and, ex_or, ex_not, ex_andV, ex_orV, ex_notV, ex_if, ex_chain, ex_nil, ex_cons, ex_tup, ex_lst, ex_call, ex_callP, ex_cb, ex_bm, ex_rep, ex_sl, ex_noPart, ex_part, ex_yes, it_items, it_rng1, it_rng2, tg_name, tg_sub, tg_tup, tg_cons, tg_nil, gs_0, gs_s, ss_0, ss_s, op_ii, op_ss, op_tt, op_mm, op_sb, op_ng, op_iNf, op_iNt, op_lle, op_ixT, op_ixR, op_ixL, op_putE, op_appE, it_tupE, it_rolE, it_refE, lstOf_l, exL, asS_some, asI_int, asB_bl, asL_some, asN_some, ite3_t, ite3_f, bl_1, bl_lenT, bl_lenR, bl_lenL, bl_lenS, bl_tuple, bl_list, bl_abs, bl_intI, bl_intB, bl_max, bl_min, op_eqSf, op_eqSt, op_eqIf, op_eqIt, op_eqTf, op_eqTt, op_eqRf, op_eqRt, op_eqNf, op_eqNt, eqD_int, eqD_nil, pl_int, pl_nil, pl_non, pl_rnil, pl_bl, sl_tupE, sl_rolE, keep_ref, keep_tup, keep_rol, tp_int, tp_tup, tp_rol, tp_str, tp_bl, tp_non, tp_ref, oFd, oMd, oPw, oShl, oLt, oLe, oGt, oGe, op_in, op_cp, wipe_nil, wipe_cons, mset_same, true_and, and_true, isN_int, ex_lstF, ex_repF, ex_lgF1, ex_lgF2, ex_tupRg1, ex_tupRg2, ex_frz, ex_slF, ex_slM, sl_tupF, sl_rolF, op_iiF, op_ssF, op_ttF, op_rrF, op_rrM, op_mmF, op_repF, li_rol, li_ref, bl_listF, bl_allF, bl_anyF, asT_some, asJ_some, op_eqBf, op_eqBt, isN_non, Bool.not_true, Bool.not_false, rep2, oD, Option.isNone]
        exact q
      | some u =>
        cases v with
        | none =>
          simp only [ex_c, ex_var, ex_op, ex_un, ex_b, ex_and, ex_or, ex_not, ex_andV, ex_orV, ex_notV, ex_if, ex_chain, ex_nil, ex_cons, ex_tup, ex_lst, ex_call, ex_callP, ex_cb, ex_bm, ex_rep, ex_sl, ex_noPart, ex_part, ex_yes, it_items, it_rng1, it_rng2, tg_name, tg_sub, tg_tup, tg_cons, tg_nil, gs_0, gs_s, ss_0, ss_s, op_ii, op_ss, op_tt, op_mm, op_sb, op_ng, op_iNf, op_iNt, op_lle, op_ixT, op_ixR, op_ixL, op_putE, op_appE, it_tupE, it_rolE, it_refE, lstOf_l, exL, asS_some, asI_int, asB_bl, asL_some, asN_some, ite3_t, ite3_f, bl_1, bl_lenT, bl_lenR, bl_lenL, bl_lenS, bl_tuple, bl_list, bl_abs, bl_intI, bl_intB, bl_max, bl_min, op_eqSf, op_eqSt, op_eqIf, op_eqIt, op_eqTf, op_eqTt, op_eqRf, op_eqRt, op_eqNf, op_eqNt, eqD_int, eqD_nil, pl_int, pl_nil, pl_non, pl_rnil, pl_bl, sl_tupE, sl_rolE, keep_ref, keep_tup, keep_rol, tp_int, tp_tup, tp_rol, tp_str, tp_bl, tp_non, tp_ref, oFd, oMd, oPw, oShl, oLt, oLe, oGt, oGe, op_in, op_cp, wipe_nil, wipe_cons, mset_same, true_and, and_true, isN_int, ex_lstF, ex_repF, ex_lgF1, ex_lgF2, ex_tupRg1, ex_tupRg2, ex_frz, ex_slF, ex_slM, sl_tupF, sl_rolF, op_iiF, op_ssF, op_ttF, op_rrF, op_rrM, op_mmF, op_repF, li_rol, li_ref, bl_listF, bl_allF, bl_anyF, asT_some, asJ_some, op_eqBf, op_eqBt, isN_non, Bool.not_true, Bool.not_false, rep2, oD, Option.isNone, Bool.or_true]
          exact q
        | some v =>
          simp only [ex_c, ex_var, ex_op, ex_un, ex_b, ex_and, ex_or, ex_not, ex_andV, ex_orV, ex_notV, ex_if, ex_chain, ex_nil, ex_cons, ex_tup, ex_lst, ex_call, ex_callP, ex_cb, ex_bm, ex_rep, ex_sl, ex_noPart, ex_part, ex_yes, it_items, it_rng1, it_rng2, tg_name, tg_sub, tg_tup, tg_cons, tg_nil, gs_0, gs_s, ss_0, ss_s, op_ii, op_ss, op_tt, op_mm, op_sb, op_ng, op_iNf, op_iNt, op_lle, op_ixT, op_ixR, op_ixL, op_putE, op_appE, it_tupE, it_rolE, it_refE, lstOf_l, exL, asS_some, asI_int, asB_bl, asL_some, asN_some, ite3_t, ite3_f, bl_1, bl_lenT, bl_lenR, bl_lenL, bl_lenS, bl_tuple, bl_list, bl_abs, bl_intI, bl_intB, bl_max, bl_min, op_eqSf, op_eqSt, op_eqIf, op_eqIt, op_eqTf, op_eqTt, op_eqRf, op_eqRt, op_eqNf, op_eqNt, eqD_int, eqD_nil, pl_int, pl_nil, pl_non, pl_rnil, pl_bl, sl_tupE, sl_rolE, keep_ref, keep_tup, keep_rol, tp_int, tp_tup, tp_rol, tp_str, tp_bl, tp_non, tp_ref, oFd, oMd, oPw, oShl, oLt, oLe, oGt, oGe, op_in, op_cp, wipe_nil, wipe_cons, mset_same, true_and, and_true, isN_int, ex_lstF, ex_repF, ex_lgF1, ex_lgF2, ex_tupRg1, ex_tupRg2, ex_frz, ex_slF, ex_slM, sl_tupF, sl_rolF, op_iiF, op_ssF, op_ttF, op_rrF, op_rrM, op_mmF, op_repF, li_rol, li_ref, bl_listF, bl_allF, bl_anyF, asT_some, asJ_some, op_eqBf, op_eqBt, isN_non, Bool.not_true, Bool.not_false, rep2, oD, Option.isNone, Bool.or_false]
          exact max_pair q
    rw [row_zip, hM]
    (try simp only [ex_c, ex_var, ex_op, ex_un, ex_b, ex_and, ex_or, ex_not, ex_andV, ex_orV, ex_notV, ex_if, ex_chain, ex_nil, ex_cons, ex_tup, ex_lst, ex_call, ex_callP, ex_cb, ex_bm, ex_rep, ex_sl, ex_noPart, ex_part, ex_yes, it_items, it_rng1, it_rng2, tg_name, tg_sub, tg_tup, tg_cons, tg_nil, gs_0, gs_s, ss_0, ss_s, op_ii, op_ss, op_tt, op_mm, op_sb, op_ng, op_iNf, op_iNt, op_lle, op_ixT, op_ixR, op_ixL, op_putE, op_appE, it_tupE, it_rolE, it_refE, lstOf_l, exL, asS_some, asI_int, asB_bl, asL_some, asN_some, ite3_t, ite3_f, bl_1, bl_lenT, bl_lenR, bl_lenL, bl_lenS, bl_tuple, bl_list, bl_abs, bl_intI, bl_intB, bl_max, bl_min, op_eqSf, op_eqSt, op_eqIf, op_eqIt, op_eqTf, op_eqTt, op_eqRf, op_eqRt, op_eqNf, op_eqNt, eqD_int, eqD_nil, pl_int, pl_nil, pl_non, pl_rnil, pl_bl, sl_tupE, sl_rolE, keep_ref, keep_tup, keep_rol, tp_int, tp_tup, tp_rol, tp_str, tp_bl, tp_non, tp_ref, oFd, oMd, oPw, oShl, oLt, oLe, oGt, oGe, op_in, op_cp, wipe_nil, wipe_cons, mset_same, true_and, and_true, isN_int, ex_lstF, ex_repF, ex_lgF1, ex_lgF2, ex_tupRg1, ex_tupRg2, ex_frz, ex_slF, ex_slM, sl_tupF, sl_rolF, op_iiF, op_ssF, op_ttF, op_rrF, op_rrM, op_mmF, op_repF, li_rol, li_ref, bl_listF, bl_allF, bl_anyF, asT_some, asJ_some, op_eqBf, op_eqBt, isN_non, Bool.not_true, Bool.not_false, rep2])
    refine ⟨by rw [List.length_map, List.length_take]; omega, hX _ _ ⟨?_, _, _, rfl⟩⟩
    rw [mset_same, zip_take hx]; rfl
  · rintro τ M ⟨hM, x3, x4, rfl⟩
    rw [List.take_length, zip_all] at hM
    try dsimp only
    rw [st_ret]
    simp only [ex_c, ex_var, ex_op, ex_un, ex_b, ex_and, ex_or, ex_not, ex_andV, ex_orV, ex_notV, ex_if, ex_chain, ex_nil, ex_cons, ex_tup, ex_lst, ex_call, ex_callP, ex_cb, ex_bm, ex_rep, ex_sl, ex_noPart, ex_part, ex_yes, it_items, it_rng1, it_rng2, tg_name, tg_sub, tg_tup, tg_cons, tg_nil, gs_0, gs_s, ss_0, ss_s, op_ii, op_ss, op_tt, op_mm, op_sb, op_ng, op_iNf, op_iNt, op_lle, op_ixT, op_ixR, op_ixL, op_putE, op_appE, it_tupE, it_rolE, it_refE, lstOf_l, exL, asS_some, asI_int, asB_bl, asL_some, asN_some, ite3_t, ite3_f, bl_1, bl_lenT, bl_lenR, bl_lenL, bl_lenS, bl_tuple, bl_list, bl_abs, bl_intI, bl_intB, bl_max, bl_min, op_eqSf, op_eqSt, op_eqIf, op_eqIt, op_eqTf, op_eqTt, op_eqRf, op_eqRt, op_eqNf, op_eqNt, eqD_int, eqD_nil, pl_int, pl_nil, pl_non, pl_rnil, pl_bl, sl_tupE, sl_rolE, keep_ref, keep_tup, keep_rol, tp_int, tp_tup, tp_rol, tp_str, tp_bl, tp_non, tp_ref, oFd, oMd, oPw, oShl, oLt, oLe, oGt, oGe, op_in, op_cp, wipe_nil, wipe_cons, mset_same, true_and, and_true, isN_int, ex_lstF, ex_repF, ex_lgF1, ex_lgF2, ex_tupRg1, ex_tupRg2, ex_frz, ex_slF, ex_slM, sl_tupF, sl_rolF, op_iiF, op_ssF, op_ttF, op_rrF, op_rrM, op_mmF, op_repF, li_rol, li_ref, bl_listF, bl_allF, bl_anyF, asT_some, asJ_some, op_eqBf, op_eqBt, isN_non, Bool.not_true, Bool.not_false, rep2, hM]
    exact q _
def SLeastE (sp : Sp3) : Prop := ∀ (k : Nat) (S V : Tab) (Q : VK3) (E : XK3), k ≤ 100 → (S = [] ∨ (Sq k S ∧ 0 < k)) → (V = [] ∨ (Sq k V ∧ 0 < k)) → (∀ M, Q (if S = [] ∨ V = [] then .tup [] else tabD (zipT eMin S V)) M) → sp [tabD S, tabD V] M0 Q E
theorem s_leastE : SLeastE (spOf 2 8 leastER) := by
  refine fun k S V Q E hk hS hV q => ⟨rfl, ?_⟩
  have big : (1000000 : Nat) ≤ sizeLine := by decide
  show leastER E _ [some (tabD S), some (tabD V), none, none, none, none, none, none] M0
  unfold leastER
  rw [st_seq, st_if]
  rcases tab_cases hS with rfl | ⟨nS, sS, hk0⟩
  · have e0 : tabD [] = .tup [] := rfl
    rw [e0]
    simp only [ex_c, ex_var, ex_op, ex_un, ex_b, ex_and, ex_or, ex_not, ex_andV, ex_orV, ex_notV, ex_if, ex_chain, ex_nil, ex_cons, ex_tup, ex_lst, ex_call, ex_callP, ex_cb, ex_bm, ex_rep, ex_sl, ex_noPart, ex_part, ex_yes, it_items, it_rng1, it_rng2, tg_name, tg_sub, tg_tup, tg_cons, tg_nil, gs_0, gs_s, ss_0, ss_s, op_ii, op_ss, op_tt, op_mm, op_sb, op_ng, op_iNf, op_iNt, op_lle, op_ixT, op_ixR, op_ixL, op_putE, op_appE, it_tupE, it_rolE, it_refE, lstOf_l, exL, asS_some, asI_int, asB_bl, asL_some, asN_some, ite3_t, ite3_f, bl_1, bl_lenT, bl_lenR, bl_lenL, bl_lenS, bl_tuple, bl_list, bl_abs, bl_intI, bl_intB, bl_max, bl_min, op_eqSf, op_eqSt, op_eqIf, op_eqIt, op_eqTf, op_eqTt, op_eqRf, op_eqRt, op_eqNf, op_eqNt, eqD_int, eqD_nil, pl_int, pl_nil, pl_non, pl_rnil, pl_bl, sl_tupE, sl_rolE, keep_ref, keep_tup, keep_rol, tp_int, tp_tup, tp_rol, tp_str, tp_bl, tp_non, tp_ref, oFd, oMd, oPw, oShl, oLt, oLe, oGt, oGe, op_in, op_cp, wipe_nil, wipe_cons, mset_same, true_and, and_true, isN_int, ex_lstF, ex_repF, ex_lgF1, ex_lgF2, ex_tupRg1, ex_tupRg2, ex_frz, ex_slF, ex_slM, sl_tupF, sl_rolF, op_iiF, op_ssF, op_ttF, op_rrF, op_rrM, op_mmF, op_repF, li_rol, li_ref, bl_listF, bl_allF, bl_anyF, asT_some, asJ_some, op_eqBf, op_eqBt, isN_non, Bool.not_true, Bool.not_false, rep2, eq_nil]
    rw [st_ret]
    simp only [ex_c, ex_var, ex_op, ex_un, ex_b, ex_and, ex_or, ex_not, ex_andV, ex_orV, ex_notV, ex_if, ex_chain, ex_nil, ex_cons, ex_tup, ex_lst, ex_call, ex_callP, ex_cb, ex_bm, ex_rep, ex_sl, ex_noPart, ex_part, ex_yes, it_items, it_rng1, it_rng2, tg_name, tg_sub, tg_tup, tg_cons, tg_nil, gs_0, gs_s, ss_0, ss_s, op_ii, op_ss, op_tt, op_mm, op_sb, op_ng, op_iNf, op_iNt, op_lle, op_ixT, op_ixR, op_ixL, op_putE, op_appE, it_tupE, it_rolE, it_refE, lstOf_l, exL, asS_some, asI_int, asB_bl, asL_some, asN_some, ite3_t, ite3_f, bl_1, bl_lenT, bl_lenR, bl_lenL, bl_lenS, bl_tuple, bl_list, bl_abs, bl_intI, bl_intB, bl_max, bl_min, op_eqSf, op_eqSt, op_eqIf, op_eqIt, op_eqTf, op_eqTt, op_eqRf, op_eqRt, op_eqNf, op_eqNt, eqD_int, eqD_nil, pl_int, pl_nil, pl_non, pl_rnil, pl_bl, sl_tupE, sl_rolE, keep_ref, keep_tup, keep_rol, tp_int, tp_tup, tp_rol, tp_str, tp_bl, tp_non, tp_ref, oFd, oMd, oPw, oShl, oLt, oLe, oGt, oGe, op_in, op_cp, wipe_nil, wipe_cons, mset_same, true_and, and_true, isN_int, ex_lstF, ex_repF, ex_lgF1, ex_lgF2, ex_tupRg1, ex_tupRg2, ex_frz, ex_slF, ex_slM, sl_tupF, sl_rolF, op_iiF, op_ssF, op_ttF, op_rrF, op_rrM, op_mmF, op_repF, li_rol, li_ref, bl_listF, bl_allF, bl_anyF, asT_some, asJ_some, op_eqBf, op_eqBt, isN_non, Bool.not_true, Bool.not_false, rep2]
    rw [if_pos (.inl rfl)] at q
    exact ⟨Nat.zero_le _, Nat.zero_le _, q _⟩
  rcases tab_cases hV with rfl | ⟨nV, sV, _⟩
  · have e0 : tabD [] = .tup [] := rfl
    rw [e0]
    simp only [ex_c, ex_var, ex_op, ex_un, ex_b, ex_and, ex_or, ex_not, ex_andV, ex_orV, ex_notV, ex_if, ex_chain, ex_nil, ex_cons, ex_tup, ex_lst, ex_call, ex_callP, ex_cb, ex_bm, ex_rep, ex_sl, ex_noPart, ex_part, ex_yes, it_items, it_rng1, it_rng2, tg_name, tg_sub, tg_tup, tg_cons, tg_nil, gs_0, gs_s, ss_0, ss_s, op_ii, op_ss, op_tt, op_mm, op_sb, op_ng, op_iNf, op_iNt, op_lle, op_ixT, op_ixR, op_ixL, op_putE, op_appE, it_tupE, it_rolE, it_refE, lstOf_l, exL, asS_some, asI_int, asB_bl, asL_some, asN_some, ite3_t, ite3_f, bl_1, bl_lenT, bl_lenR, bl_lenL, bl_lenS, bl_tuple, bl_list, bl_abs, bl_intI, bl_intB, bl_max, bl_min, op_eqSf, op_eqSt, op_eqIf, op_eqIt, op_eqTf, op_eqTt, op_eqRf, op_eqRt, op_eqNf, op_eqNt, eqD_int, eqD_nil, pl_int, pl_nil, pl_non, pl_rnil, pl_bl, sl_tupE, sl_rolE, keep_ref, keep_tup, keep_rol, tp_int, tp_tup, tp_rol, tp_str, tp_bl, tp_non, tp_ref, oFd, oMd, oPw, oShl, oLt, oLe, oGt, oGe, op_in, op_cp, wipe_nil, wipe_cons, mset_same, true_and, and_true, isN_int, ex_lstF, ex_repF, ex_lgF1, ex_lgF2, ex_tupRg1, ex_tupRg2, ex_frz, ex_slF, ex_slM, sl_tupF, sl_rolF, op_iiF, op_ssF, op_ttF, op_rrF, op_rrM, op_mmF, op_repF, li_rol, li_ref, bl_listF, bl_allF, bl_anyF, asT_some, asJ_some, op_eqBf, op_eqBt, isN_non, Bool.not_true, Bool.not_false, rep2, eq_tab sS hk0, eq_nil]
    rw [st_ret]
    simp only [ex_c, ex_var, ex_op, ex_un, ex_b, ex_and, ex_or, ex_not, ex_andV, ex_orV, ex_notV, ex_if, ex_chain, ex_nil, ex_cons, ex_tup, ex_lst, ex_call, ex_callP, ex_cb, ex_bm, ex_rep, ex_sl, ex_noPart, ex_part, ex_yes, it_items, it_rng1, it_rng2, tg_name, tg_sub, tg_tup, tg_cons, tg_nil, gs_0, gs_s, ss_0, ss_s, op_ii, op_ss, op_tt, op_mm, op_sb, op_ng, op_iNf, op_iNt, op_lle, op_ixT, op_ixR, op_ixL, op_putE, op_appE, it_tupE, it_rolE, it_refE, lstOf_l, exL, asS_some, asI_int, asB_bl, asL_some, asN_some, ite3_t, ite3_f, bl_1, bl_lenT, bl_lenR, bl_lenL, bl_lenS, bl_tuple, bl_list, bl_abs, bl_intI, bl_intB, bl_max, bl_min, op_eqSf, op_eqSt, op_eqIf, op_eqIt, op_eqTf, op_eqTt, op_eqRf, op_eqRt, op_eqNf, op_eqNt, eqD_int, eqD_nil, pl_int, pl_nil, pl_non, pl_rnil, pl_bl, sl_tupE, sl_rolE, keep_ref, keep_tup, keep_rol, tp_int, tp_tup, tp_rol, tp_str, tp_bl, tp_non, tp_ref, oFd, oMd, oPw, oShl, oLt, oLe, oGt, oGe, op_in, op_cp, wipe_nil, wipe_cons, mset_same, true_and, and_true, isN_int, ex_lstF, ex_repF, ex_lgF1, ex_lgF2, ex_tupRg1, ex_tupRg2, ex_frz, ex_slF, ex_slM, sl_tupF, sl_rolF, op_iiF, op_ssF, op_ttF, op_rrF, op_rrM, op_mmF, op_repF, li_rol, li_ref, bl_listF, bl_allF, bl_anyF, asT_some, asJ_some, op_eqBf, op_eqBt, isN_non, Bool.not_true, Bool.not_false, rep2]
    rw [if_pos (.inr rfl)] at q
    exact ⟨Nat.zero_le _, Nat.zero_le _, Nat.zero_le _, q _⟩
  simp only [ex_c, ex_var, ex_op, ex_un, ex_b, ex_and, ex_or, ex_not, ex_andV, ex_orV, ex_notV, ex_if, ex_chain, ex_nil, ex_cons, ex_tup, ex_lst, ex_call, ex_callP, ex_cb, ex_bm, ex_rep, ex_sl, ex_noPart, ex_part, ex_yes, it_items, it_rng1, it_rng2, tg_name, tg_sub, tg_tup, tg_cons, tg_nil, gs_0, gs_s, ss_0, ss_s, op_ii, op_ss, op_tt, op_mm, op_sb, op_ng, op_iNf, op_iNt, op_lle, op_ixT, op_ixR, op_ixL, op_putE, op_appE, it_tupE, it_rolE, it_refE, lstOf_l, exL, asS_some, asI_int, asB_bl, asL_some, asN_some, ite3_t, ite3_f, bl_1, bl_lenT, bl_lenR, bl_lenL, bl_lenS, bl_tuple, bl_list, bl_abs, bl_intI, bl_intB, bl_max, bl_min, op_eqSf, op_eqSt, op_eqIf, op_eqIt, op_eqTf, op_eqTt, op_eqRf, op_eqRt, op_eqNf, op_eqNt, eqD_int, eqD_nil, pl_int, pl_nil, pl_non, pl_rnil, pl_bl, sl_tupE, sl_rolE, keep_ref, keep_tup, keep_rol, tp_int, tp_tup, tp_rol, tp_str, tp_bl, tp_non, tp_ref, oFd, oMd, oPw, oShl, oLt, oLe, oGt, oGe, op_in, op_cp, wipe_nil, wipe_cons, mset_same, true_and, and_true, isN_int, ex_lstF, ex_repF, ex_lgF1, ex_lgF2, ex_tupRg1, ex_tupRg2, ex_frz, ex_slF, ex_slM, sl_tupF, sl_rolF, op_iiF, op_ssF, op_ttF, op_rrF, op_rrM, op_mmF, op_repF, li_rol, li_ref, bl_listF, bl_allF, bl_anyF, asT_some, asJ_some, op_eqBf, op_eqBt, isN_non, Bool.not_true, Bool.not_false, rep2, eq_tab sS hk0, eq_tab sV hk0]
  refine ⟨Nat.zero_le _, Nat.zero_le _, ?_⟩
  rw [if_neg (fun h => h.elim nS nV)] at q
  rw [st_next]
  try dsimp only
  rw [st_seq, st_set]
  simp only [ex_c, ex_var, ex_op, ex_un, ex_b, ex_and, ex_or, ex_not, ex_andV, ex_orV, ex_notV, ex_if, ex_chain, ex_nil, ex_cons, ex_tup, ex_lst, ex_call, ex_callP, ex_cb, ex_bm, ex_rep, ex_sl, ex_noPart, ex_part, ex_yes, it_items, it_rng1, it_rng2, tg_name, tg_sub, tg_tup, tg_cons, tg_nil, gs_0, gs_s, ss_0, ss_s, op_ii, op_ss, op_tt, op_mm, op_sb, op_ng, op_iNf, op_iNt, op_lle, op_ixT, op_ixR, op_ixL, op_putE, op_appE, it_tupE, it_rolE, it_refE, lstOf_l, exL, asS_some, asI_int, asB_bl, asL_some, asN_some, ite3_t, ite3_f, bl_1, bl_lenT, bl_lenR, bl_lenL, bl_lenS, bl_tuple, bl_list, bl_abs, bl_intI, bl_intB, bl_max, bl_min, op_eqSf, op_eqSt, op_eqIf, op_eqIt, op_eqTf, op_eqTt, op_eqRf, op_eqRt, op_eqNf, op_eqNt, eqD_int, eqD_nil, pl_int, pl_nil, pl_non, pl_rnil, pl_bl, sl_tupE, sl_rolE, keep_ref, keep_tup, keep_rol, tp_int, tp_tup, tp_rol, tp_str, tp_bl, tp_non, tp_ref, oFd, oMd, oPw, oShl, oLt, oLe, oGt, oGe, op_in, op_cp, wipe_nil, wipe_cons, mset_same, true_and, and_true, isN_int, ex_lstF, ex_repF, ex_lgF1, ex_lgF2, ex_tupRg1, ex_tupRg2, ex_frz, ex_slF, ex_slM, sl_tupF, sl_rolF, op_iiF, op_ssF, op_ttF, op_rrF, op_rrM, op_mmF, op_repF, li_rol, li_ref, bl_listF, bl_allF, bl_anyF, asT_some, asJ_some, op_eqBf, op_eqBt, isN_non, Bool.not_true, Bool.not_false, rep2]
  refine ⟨Nat.zero_le _, fun l hl => ?_⟩
  try dsimp only
  rw [st_seq, st_for]
  simp only [ex_c, ex_var, ex_op, ex_un, ex_b, ex_and, ex_or, ex_not, ex_andV, ex_orV, ex_notV, ex_if, ex_chain, ex_nil, ex_cons, ex_tup, ex_lst, ex_call, ex_callP, ex_cb, ex_bm, ex_rep, ex_sl, ex_noPart, ex_part, ex_yes, it_items, it_rng1, it_rng2, tg_name, tg_sub, tg_tup, tg_cons, tg_nil, gs_0, gs_s, ss_0, ss_s, op_ii, op_ss, op_tt, op_mm, op_sb, op_ng, op_iNf, op_iNt, op_lle, op_ixT, op_ixR, op_ixL, op_putE, op_appE, it_tupE, it_rolE, it_refE, lstOf_l, exL, asS_some, asI_int, asB_bl, asL_some, asN_some, ite3_t, ite3_f, bl_1, bl_lenT, bl_lenR, bl_lenL, bl_lenS, bl_tuple, bl_list, bl_abs, bl_intI, bl_intB, bl_max, bl_min, op_eqSf, op_eqSt, op_eqIf, op_eqIt, op_eqTf, op_eqTt, op_eqRf, op_eqRt, op_eqNf, op_eqNt, eqD_int, eqD_nil, pl_int, pl_nil, pl_non, pl_rnil, pl_bl, sl_tupE, sl_rolE, keep_ref, keep_tup, keep_rol, tp_int, tp_tup, tp_rol, tp_str, tp_bl, tp_non, tp_ref, oFd, oMd, oPw, oShl, oLt, oLe, oGt, oGe, op_in, op_cp, wipe_nil, wipe_cons, mset_same, true_and, and_true, isN_int, ex_lstF, ex_repF, ex_lgF1, ex_lgF2, ex_tupRg1, ex_tupRg2, ex_frz, ex_slF, ex_slM, sl_tupF, sl_rolF, op_iiF, op_ssF, op_ttF, op_rrF, op_rrM, op_mmF, op_repF, li_rol, li_ref, bl_listF, bl_allF, bl_anyF, asT_some, asJ_some, op_eqBf, op_eqBt, isN_non, Bool.not_true, Bool.not_false, rep2, it_zipF, tabD]
  rw [zipD_map]
  have hzl : (S.zip V).length = k := by rw [List.length_zip, sS.rows, sV.rows, Nat.min_self]
  refine for_of (fun x : List Ed × List Ed => D.tup [rowD x.1, rowD x.2]) (fun i τ M => M l = some (.lst (((S.zip V).take i).map fun x => rowD (List.zipWith eMin x.1 x.2))) ∧ ∃ x3 x4 x5, τ = [some (tabD S), some (tabD V), some (.ref l), x3, x4, x5, none, none]) (fun _ _ _ _ => True.intro) ?_ ?_ ⟨mset_same, _, _, _, rfl⟩
  · rintro i x τ M hx ⟨hM, x3, x4, x5, rfl⟩ X hX
    have hi := (List.getElem?_eq_some_iff.mp hx).1
    have hmm := List.mem_of_getElem? hx
    obtain ⟨r, s⟩ := x
    have hr := sS.cols r (List.of_mem_zip hmm).1
    have hs := sV.cols s (List.of_mem_zip hmm).2
    try dsimp only
    simp only [ex_c, ex_var, ex_op, ex_un, ex_b, ex_and, ex_or, ex_not, ex_andV, ex_orV, ex_notV, ex_if, ex_chain, ex_nil, ex_cons, ex_tup, ex_lst, ex_call, ex_callP, ex_cb, ex_bm, ex_rep, ex_sl, ex_noPart, ex_part, ex_yes, it_items, it_rng1, it_rng2, tg_name, tg_sub, tg_tup, tg_cons, tg_nil, gs_0, gs_s, ss_0, ss_s, op_ii, op_ss, op_tt, op_mm, op_sb, op_ng, op_iNf, op_iNt, op_lle, op_ixT, op_ixR, op_ixL, op_putE, op_appE, it_tupE, it_rolE, it_refE, lstOf_l, exL, asS_some, asI_int, asB_bl, asL_some, asN_some, ite3_t, ite3_f, bl_1, bl_lenT, bl_lenR, bl_lenL, bl_lenS, bl_tuple, bl_list, bl_abs, bl_intI, bl_intB, bl_max, bl_min, op_eqSf, op_eqSt, op_eqIf, op_eqIt, op_eqTf, op_eqTt, op_eqRf, op_eqRt, op_eqNf, op_eqNt, eqD_int, eqD_nil, pl_int, pl_nil, pl_non, pl_rnil, pl_bl, sl_tupE, sl_rolE, keep_ref, keep_tup, keep_rol, tp_int, tp_tup, tp_rol, tp_str, tp_bl, tp_non, tp_ref, oFd, oMd, oPw, oShl, oLt, oLe, oGt, oGe, op_in, op_cp, wipe_nil, wipe_cons, mset_same, true_and, and_true, isN_int, ex_lstF, ex_repF, ex_lgF1, ex_lgF2, ex_tupRg1, ex_tupRg2, ex_frz, ex_slF, ex_slM, sl_tupF, sl_rolF, op_iiF, op_ssF, op_ttF, op_rrF, op_rrM, op_mmF, op_repF, li_rol, li_ref, bl_listF, bl_allF, bl_anyF, asT_some, asJ_some, op_eqBf, op_eqBt, isN_non, Bool.not_true, Bool.not_false, rep2, List.length_cons, List.length_nil]
    rw [st_seq, st_set]
    simp only [ex_c, ex_var, ex_op, ex_un, ex_b, ex_and, ex_or, ex_not, ex_andV, ex_orV, ex_notV, ex_if, ex_chain, ex_nil, ex_cons, ex_tup, ex_lst, ex_call, ex_callP, ex_cb, ex_bm, ex_rep, ex_sl, ex_noPart, ex_part, ex_yes, it_items, it_rng1, it_rng2, tg_name, tg_sub, tg_tup, tg_cons, tg_nil, gs_0, gs_s, ss_0, ss_s, op_ii, op_ss, op_tt, op_mm, op_sb, op_ng, op_iNf, op_iNt, op_lle, op_ixT, op_ixR, op_ixL, op_putE, op_appE, it_tupE, it_rolE, it_refE, lstOf_l, exL, asS_some, asI_int, asB_bl, asL_some, asN_some, ite3_t, ite3_f, bl_1, bl_lenT, bl_lenR, bl_lenL, bl_lenS, bl_tuple, bl_list, bl_abs, bl_intI, bl_intB, bl_max, bl_min, op_eqSf, op_eqSt, op_eqIf, op_eqIt, op_eqTf, op_eqTt, op_eqRf, op_eqRt, op_eqNf, op_eqNt, eqD_int, eqD_nil, pl_int, pl_nil, pl_non, pl_rnil, pl_bl, sl_tupE, sl_rolE, keep_ref, keep_tup, keep_rol, tp_int, tp_tup, tp_rol, tp_str, tp_bl, tp_non, tp_ref, oFd, oMd, oPw, oShl, oLt, oLe, oGt, oGe, op_in, op_cp, wipe_nil, wipe_cons, mset_same, true_and, and_true, isN_int, ex_lstF, ex_repF, ex_lgF1, ex_lgF2, ex_tupRg1, ex_tupRg2, ex_frz, ex_slF, ex_slM, sl_tupF, sl_rolF, op_iiF, op_ssF, op_ttF, op_rrF, op_rrM, op_mmF, op_repF, li_rol, li_ref, bl_listF, bl_allF, bl_anyF, asT_some, asJ_some, op_eqBf, op_eqBt, isN_non, Bool.not_true, Bool.not_false, rep2, ex_lcF, it_zipN, rowD]
    rw [zipD_map]
    refine lc_of (fun x : Ed × Ed => D.tup [oD x.1, oD x.2]) (fun x => .rol (someD x.1 x.2)) True.intro (r.zip s) (by rw [List.length_zip]; omega) (fun x hx K q => ?_) ?_
    · obtain ⟨u, v⟩ := x
      simp only [ex_c, ex_var, ex_op, ex_un, ex_b, ex_and, ex_or, ex_not, ex_andV, ex_orV, ex_notV, ex_if, ex_chain, ex_nil, ex_cons, ex_tup, ex_lst, ex_call, ex_callP, ex_cb, ex_bm, ex_rep, ex_sl, ex_noPart, ex_part, ex_yes, it_items, it_rng1, it_rng2, tg_name, tg_sub, tg_tup, tg_cons, tg_nil, gs_0, gs_s, ss_0, ss_s, op_ii, op_ss, op_tt, op_mm, op_sb, op_ng, op_iNf, op_iNt, op_lle, op_ixT, op_ixR, op_ixL, op_putE, op_appE, it_tupE, it_rolE, it_refE, lstOf_l, exL, asS_some, asI_int, asB_bl, asL_some, asN_some, ite3_t, ite3_f, bl_1, bl_lenT, bl_lenR, bl_lenL, bl_lenS, bl_tuple, bl_list, bl_abs, bl_intI, bl_intB, bl_max, bl_min, op_eqSf, op_eqSt, op_eqIf, op_eqIt, op_eqTf, op_eqTt, op_eqRf, op_eqRt, op_eqNf, op_eqNt, eqD_int, eqD_nil, pl_int, pl_nil, pl_non, pl_rnil, pl_bl, sl_tupE, sl_rolE, keep_ref, keep_tup, keep_rol, tp_int, tp_tup, tp_rol, tp_str, tp_bl, tp_non, tp_ref, oFd, oMd, oPw, oShl, oLt, oLe, oGt, oGe, op_in, op_cp, wipe_nil, wipe_cons, mset_same, true_and, and_true, isN_int, ex_lstF, ex_repF, ex_lgF1, ex_lgF2, ex_tupRg1, ex_tupRg2, ex_frz, ex_slF, ex_slM, sl_tupF, sl_rolF, op_iiF, op_ssF, op_ttF, op_rrF, op_rrM, op_mmF, op_repF, li_rol, li_ref, bl_listF, bl_allF, bl_anyF, asT_some, asJ_some, op_eqBf, op_eqBt, isN_non, Bool.not_true, Bool.not_false, rep2, ex_lcF]
      show lcW _ _ _ _ _ _ ([u, v].map oD) [] _
      refine lc_if oD (fun e => e.isSome) oD True.intro [u, v] (by show 2 ≤ sizeLine; omega) (fun e he k k2 h1 h2 => ?_) ?_
      · cases e with
        | none =>
          simp only [ex_c, ex_var, ex_op, ex_un, ex_b, ex_and, ex_or, ex_not, ex_andV, ex_orV, ex_notV, ex_if, ex_chain, ex_nil, ex_cons, ex_tup, ex_lst, ex_call, ex_callP, ex_cb, ex_bm, ex_rep, ex_sl, ex_noPart, ex_part, ex_yes, it_items, it_rng1, it_rng2, tg_name, tg_sub, tg_tup, tg_cons, tg_nil, gs_0, gs_s, ss_0, ss_s, op_ii, op_ss, op_tt, op_mm, op_sb, op_ng, op_iNf, op_iNt, op_lle, op_ixT, op_ixR, op_ixL, op_putE, op_appE, it_tupE, it_rolE, it_refE, lstOf_l, exL, asS_some, asI_int, asB_bl, asL_some, asN_some, ite3_t, ite3_f, bl_1, bl_lenT, bl_lenR, bl_lenL, bl_lenS, bl_tuple, bl_list, bl_abs, bl_intI, bl_intB, bl_max, bl_min, op_eqSf, op_eqSt, op_eqIf, op_eqIt, op_eqTf, op_eqTt, op_eqRf, op_eqRt, op_eqNf, op_eqNt, eqD_int, eqD_nil, pl_int, pl_nil, pl_non, pl_rnil, pl_bl, sl_tupE, sl_rolE, keep_ref, keep_tup, keep_rol, tp_int, tp_tup, tp_rol, tp_str, tp_bl, tp_non, tp_ref, oFd, oMd, oPw, oShl, oLt, oLe, oGt, oGe, op_in, op_cp, wipe_nil, wipe_cons, mset_same, true_and, and_true, isN_int, ex_lstF, ex_repF, ex_lgF1, ex_lgF2, ex_tupRg1, ex_tupRg2, ex_frz, ex_slF, ex_slM, sl_tupF, sl_rolF, op_iiF, op_ssF, op_ttF, op_rrF, op_rrM, op_mmF, op_repF, li_rol, li_ref, bl_listF, bl_allF, bl_anyF, asT_some, asJ_some, op_eqBf, op_eqBt, isN_non, Bool.not_true, Bool.not_false, rep2, oD, isN_non]
          exact h2 rfl
        | some e =>
          simp only [ex_c, ex_var, ex_op, ex_un, ex_b, ex_and, ex_or, ex_not, ex_andV, ex_orV, ex_notV, ex_if, ex_chain, ex_nil, ex_cons, ex_tup, ex_lst, ex_call, ex_callP, ex_cb, ex_bm, ex_rep, ex_sl, ex_noPart, ex_part, ex_yes, it_items, it_rng1, it_rng2, tg_name, tg_sub, tg_tup, tg_cons, tg_nil, gs_0, gs_s, ss_0, ss_s, op_ii, op_ss, op_tt, op_mm, op_sb, op_ng, op_iNf, op_iNt, op_lle, op_ixT, op_ixR, op_ixL, op_putE, op_appE, it_tupE, it_rolE, it_refE, lstOf_l, exL, asS_some, asI_int, asB_bl, asL_some, asN_some, ite3_t, ite3_f, bl_1, bl_lenT, bl_lenR, bl_lenL, bl_lenS, bl_tuple, bl_list, bl_abs, bl_intI, bl_intB, bl_max, bl_min, op_eqSf, op_eqSt, op_eqIf, op_eqIt, op_eqTf, op_eqTt, op_eqRf, op_eqRt, op_eqNf, op_eqNt, eqD_int, eqD_nil, pl_int, pl_nil, pl_non, pl_rnil, pl_bl, sl_tupE, sl_rolE, keep_ref, keep_tup, keep_rol, tp_int, tp_tup, tp_rol, tp_str, tp_bl, tp_non, tp_ref, oFd, oMd, oPw, oShl, oLt, oLe, oGt, oGe, op_in, op_cp, wipe_nil, wipe_cons, mset_same, true_and, and_true, isN_int, ex_lstF, ex_repF, ex_lgF1, ex_lgF2, ex_tupRg1, ex_tupRg2, ex_frz, ex_slF, ex_slM, sl_tupF, sl_rolF, op_iiF, op_ssF, op_ttF, op_rrF, op_rrM, op_mmF, op_repF, li_rol, li_ref, bl_listF, bl_allF, bl_anyF, asT_some, asJ_some, op_eqBf, op_eqBt, isN_non, Bool.not_true, Bool.not_false, rep2, oD, isN_int]
          exact h1 rfl
      · have e : (([u, v].filter fun e => e.isSome).map oD) = someD u v := by cases u <;> cases v <;> rfl
        rw [e]
        exact q
    try dsimp only
    rw [st_drop]
    simp only [ex_c, ex_var, ex_op, ex_un, ex_b, ex_and, ex_or, ex_not, ex_andV, ex_orV, ex_notV, ex_if, ex_chain, ex_nil, ex_cons, ex_tup, ex_lst, ex_call, ex_callP, ex_cb, ex_bm, ex_rep, ex_sl, ex_noPart, ex_part, ex_yes, it_items, it_rng1, it_rng2, tg_name, tg_sub, tg_tup, tg_cons, tg_nil, gs_0, gs_s, ss_0, ss_s, op_ii, op_ss, op_tt, op_mm, op_sb, op_ng, op_iNf, op_iNt, op_lle, op_ixT, op_ixR, op_ixL, op_putE, op_appE, it_tupE, it_rolE, it_refE, lstOf_l, exL, asS_some, asI_int, asB_bl, asL_some, asN_some, ite3_t, ite3_f, bl_1, bl_lenT, bl_lenR, bl_lenL, bl_lenS, bl_tuple, bl_list, bl_abs, bl_intI, bl_intB, bl_max, bl_min, op_eqSf, op_eqSt, op_eqIf, op_eqIt, op_eqTf, op_eqTt, op_eqRf, op_eqRt, op_eqNf, op_eqNt, eqD_int, eqD_nil, pl_int, pl_nil, pl_non, pl_rnil, pl_bl, sl_tupE, sl_rolE, keep_ref, keep_tup, keep_rol, tp_int, tp_tup, tp_rol, tp_str, tp_bl, tp_non, tp_ref, oFd, oMd, oPw, oShl, oLt, oLe, oGt, oGe, op_in, op_cp, wipe_nil, wipe_cons, mset_same, true_and, and_true, isN_int, ex_lstF, ex_repF, ex_lgF1, ex_lgF2, ex_tupRg1, ex_tupRg2, ex_frz, ex_slF, ex_slM, sl_tupF, sl_rolF, op_iiF, op_ssF, op_ttF, op_rrF, op_rrM, op_mmF, op_repF, li_rol, li_ref, bl_listF, bl_allF, bl_anyF, asT_some, asJ_some, op_eqBf, op_eqBt, isN_non, Bool.not_true, Bool.not_false, rep2, ex_lcF]
    refine ⟨⟨_, hM⟩, ?_⟩
    refine lc_of (fun x : Ed × Ed => D.rol (someD x.1 x.2)) (fun x => oD (eMin x.1 x.2)) True.intro (r.zip s) (by rw [List.length_zip]; omega) (fun x hx K q => ?_) ?_
    · obtain ⟨u, v⟩ := x
      simp only [ex_c, ex_var, ex_op, ex_un, ex_b, ex_and, ex_or, ex_not, ex_andV, ex_orV, ex_notV, ex_if, ex_chain, ex_nil, ex_cons, ex_tup, ex_lst, ex_call, ex_callP, ex_cb, ex_bm, ex_rep, ex_sl, ex_noPart, ex_part, ex_yes, it_items, it_rng1, it_rng2, tg_name, tg_sub, tg_tup, tg_cons, tg_nil, gs_0, gs_s, ss_0, ss_s, op_ii, op_ss, op_tt, op_mm, op_sb, op_ng, op_iNf, op_iNt, op_lle, op_ixT, op_ixR, op_ixL, op_putE, op_appE, it_tupE, it_rolE, it_refE, lstOf_l, exL, asS_some, asI_int, asB_bl, asL_some, asN_some, ite3_t, ite3_f, bl_1, bl_lenT, bl_lenR, bl_lenL, bl_lenS, bl_tuple, bl_list, bl_abs, bl_intI, bl_intB, bl_max, bl_min, op_eqSf, op_eqSt, op_eqIf, op_eqIt, op_eqTf, op_eqTt, op_eqRf, op_eqRt, op_eqNf, op_eqNt, eqD_int, eqD_nil, pl_int, pl_nil, pl_non, pl_rnil, pl_bl, sl_tupE, sl_rolE, keep_ref, keep_tup, keep_rol, tp_int, tp_tup, tp_rol, tp_str, tp_bl, tp_non, tp_ref, oFd, oMd, oPw, oShl, oLt, oLe, oGt, oGe, op_in, op_cp, wipe_nil, wipe_cons, mset_same, true_and, and_true, isN_int, ex_lstF, ex_repF, ex_lgF1, ex_lgF2, ex_tupRg1, ex_tupRg2, ex_frz, ex_slF, ex_slM, sl_tupF, sl_rolF, op_iiF, op_ssF, op_ttF, op_rrF, op_rrM, op_mmF, op_repF, li_rol, li_ref, bl_listF, bl_allF, bl_anyF, asT_some, asJ_some, op_eqBf, op_eqBt, isN_non, Bool.not_true, Bool.not_false, rep2, ne_some]
      refine ⟨Nat.zero_le _, ?_⟩
      cases u with
      | none =>
        cases v with
        | none =>
          simp only [ex_c, ex_var, ex_op, ex_un, ex_b, ex_and, ex_or, ex_not, ex_andV, ex_orV, ex_notV, ex_if, ex_chain, ex_nil, ex_cons, ex_tup, ex_lst, ex_call, ex_callP, ex_cb, ex_bm, ex_rep, ex_sl, ex_noPart, ex_part, ex_yes, it_items, it_rng1, it_rng2, tg_name, tg_sub, tg_tup, tg_cons, tg_nil, gs_0, gs_s, ss_0, ss_s, op_ii, op_ss, op_tt, op_mm, op_sb, op_ng, op_iNf, op_iNt, op_lle, op_ixT, op_ixR, op_ixL, op_putE, op_appE, it_tupE, it_rolE, it_refE, lstOf_l, exL, asS_some, asI_int, asB_bl, asL_some, asN_some, ite3_t, ite3_f, bl_1, bl_lenT, bl_lenR, bl_lenL, bl_lenS, bl_tuple, bl_list, bl_abs, bl_intI, bl_intB, bl_max, bl_min, op_eqSf, op_eqSt, op_eqIf, op_eqIt, op_eqTf, op_eqTt, op_eqRf, op_eqRt, op_eqNf, op_eqNt, eqD_int, eqD_nil, pl_int, pl_nil, pl_non, pl_rnil, pl_bl, sl_tupE, sl_rolE, keep_ref, keep_tup, keep_rol, tp_int, tp_tup, tp_rol, tp_str, tp_bl, tp_non, tp_ref, oFd, oMd, oPw, oShl, oLt, oLe, oGt, oGe, op_in, op_cp, wipe_nil, wipe_cons, mset_same, true_and, and_true, isN_int, ex_lstF, ex_repF, ex_lgF1, ex_lgF2, ex_tupRg1, ex_tupRg2, ex_frz, ex_slF, ex_slM, sl_tupF, sl_rolF, op_iiF, op_ssF, op_ttF, op_rrF, op_rrM, op_mmF, op_repF, li_rol, li_ref, bl_listF, bl_allF, bl_anyF, asT_some, asJ_some, op_eqBf, op_eqBt, isN_non, Bool.not_true, Bool.not_false, rep2, Option.isSome, Bool.or_false]
          exact q
        | some v =>
          simp only [ex_c, ex_var, ex_op, ex_un, ex_b, ex_and, ex_or, ex_not, ex_andV, ex_orV, ex_notV, ex_if, ex_chain, ex_nil, ex_cons, ex_tup, ex_lst, ex_call, ex_callP, ex_cb, ex_bm, ex_rep, ex_sl, ex_noPart, ex_part, ex_yes, it_items, it_rng1, it_rng2, tg_name, tg_sub, tg_tup, tg_cons, tg_nil, gs_0, gs_s, ss_0, ss_s, op_ii, op_ss, op_tt, op_mm, op_sb, op_ng, op_iNf, op_iNt, op_lle, op_ixT, op_ixR, op_ixL, op_putE, op_appE, it_tupE, it_rolE, it_refE, lstOf_l, exL, asS_some, asI_int, asB_bl, asL_some, asN_some, ite3_t, ite3_f, bl_1, bl_lenT, bl_lenR, bl_lenL, bl_lenS, bl_tuple, bl_list, bl_abs, bl_intI, bl_intB, bl_max, bl_min, op_eqSf, op_eqSt, op_eqIf, op_eqIt, op_eqTf, op_eqTt, op_eqRf, op_eqRt, op_eqNf, op_eqNt, eqD_int, eqD_nil, pl_int, pl_nil, pl_non, pl_rnil, pl_bl, sl_tupE, sl_rolE, keep_ref, keep_tup, keep_rol, tp_int, tp_tup, tp_rol, tp_str, tp_bl, tp_non, tp_ref, oFd, oMd, oPw, oShl, oLt, oLe, oGt, oGe, op_in, op_cp, wipe_nil, wipe_cons, mset_same, true_and, and_true, isN_int, ex_lstF, ex_repF, ex_lgF1, ex_lgF2, ex_tupRg1, ex_tupRg2, ex_frz, ex_slF, ex_slM, sl_tupF, sl_rolF, op_iiF, op_ssF, op_ttF, op_rrF, op_rrM, op_mmF, op_repF, li_rol, li_ref, bl_listF, bl_allF, bl_anyF, asT_some, asJ_some, op_eqBf, op_eqBt, isN_non, Bool.not_true, Bool.not_false, rep2, Option.isSome, Bool.or_true, someD]
          exact min_some q
      | some u =>
        cases v with
        | none =>
          simp only [ex_c, ex_var, ex_op, ex_un, ex_b, ex_and, ex_or, ex_not, ex_andV, ex_orV, ex_notV, ex_if, ex_chain, ex_nil, ex_cons, ex_tup, ex_lst, ex_call, ex_callP, ex_cb, ex_bm, ex_rep, ex_sl, ex_noPart, ex_part, ex_yes, it_items, it_rng1, it_rng2, tg_name, tg_sub, tg_tup, tg_cons, tg_nil, gs_0, gs_s, ss_0, ss_s, op_ii, op_ss, op_tt, op_mm, op_sb, op_ng, op_iNf, op_iNt, op_lle, op_ixT, op_ixR, op_ixL, op_putE, op_appE, it_tupE, it_rolE, it_refE, lstOf_l, exL, asS_some, asI_int, asB_bl, asL_some, asN_some, ite3_t, ite3_f, bl_1, bl_lenT, bl_lenR, bl_lenL, bl_lenS, bl_tuple, bl_list, bl_abs, bl_intI, bl_intB, bl_max, bl_min, op_eqSf, op_eqSt, op_eqIf, op_eqIt, op_eqTf, op_eqTt, op_eqRf, op_eqRt, op_eqNf, op_eqNt, eqD_int, eqD_nil, pl_int, pl_nil, pl_non, pl_rnil, pl_bl, sl_tupE, sl_rolE, keep_ref, keep_tup, keep_rol, tp_int, tp_tup, tp_rol, tp_str, tp_bl, tp_non, tp_ref, oFd, oMd, oPw, oShl, oLt, oLe, oGt, oGe, op_in, op_cp, wipe_nil, wipe_cons, mset_same, true_and, and_true, isN_int, ex_lstF, ex_repF, ex_lgF1, ex_lgF2, ex_tupRg1, ex_tupRg2, ex_frz, ex_slF, ex_slM, sl_tupF, sl_rolF, op_iiF, op_ssF, op_ttF, op_rrF, op_rrM, op_mmF, op_repF, li_rol, li_ref, bl_listF, bl_allF, bl_anyF, asT_some, asJ_some, op_eqBf, op_eqBt, isN_non, Bool.not_true, Bool.not_false, rep2, Option.isSome, Bool.true_or, someD]
          exact min_some q
        | some v =>
          simp only [ex_c, ex_var, ex_op, ex_un, ex_b, ex_and, ex_or, ex_not, ex_andV, ex_orV, ex_notV, ex_if, ex_chain, ex_nil, ex_cons, ex_tup, ex_lst, ex_call, ex_callP, ex_cb, ex_bm, ex_rep, ex_sl, ex_noPart, ex_part, ex_yes, it_items, it_rng1, it_rng2, tg_name, tg_sub, tg_tup, tg_cons, tg_nil, gs_0, gs_s, ss_0, ss_s, op_ii, op_ss, op_tt, op_mm, op_sb, op_ng, op_iNf, op_iNt, op_lle, op_ixT, op_ixR, op_ixL, op_putE, op_appE, it_tupE, it_rolE, it_refE, lstOf_l, exL, asS_some, asI_int, asB_bl, asL_some, asN_some, ite3_t, ite3_f, bl_1, bl_lenT, bl_lenR, bl_lenL, bl_lenS, bl_tuple, bl_list, bl_abs, bl_intI, bl_intB, bl_max, bl_min, op_eqSf, op_eqSt, op_eqIf, op_eqIt, op_eqTf, op_eqTt, op_eqRf, op_eqRt, op_eqNf, op_eqNt, eqD_int, eqD_nil, pl_int, pl_nil, pl_non, pl_rnil, pl_bl, sl_tupE, sl_rolE, keep_ref, keep_tup, keep_rol, tp_int, tp_tup, tp_rol, tp_str, tp_bl, tp_non, tp_ref, oFd, oMd, oPw, oShl, oLt, oLe, oGt, oGe, op_in, op_cp, wipe_nil, wipe_cons, mset_same, true_and, and_true, isN_int, ex_lstF, ex_repF, ex_lgF1, ex_lgF2, ex_tupRg1, ex_tupRg2, ex_frz, ex_slF, ex_slM, sl_tupF, sl_rolF, op_iiF, op_ssF, op_ttF, op_rrF, op_rrM, op_mmF, op_repF, li_rol, li_ref, bl_listF, bl_allF, bl_anyF, asT_some, asJ_some, op_eqBf, op_eqBt, isN_non, Bool.not_true, Bool.not_false, rep2, Option.isSome, Bool.true_or, someD]
          exact min_pair q
    rw [row_zip, hM]
    (try simp only [ex_c, ex_var, ex_op, ex_un, ex_b, ex_and, ex_or, ex_not, ex_andV, ex_orV, ex_notV, ex_if, ex_chain, ex_nil, ex_cons, ex_tup, ex_lst, ex_call, ex_callP, ex_cb, ex_bm, ex_rep, ex_sl, ex_noPart, ex_part, ex_yes, it_items, it_rng1, it_rng2, tg_name, tg_sub, tg_tup, tg_cons, tg_nil, gs_0, gs_s, ss_0, ss_s, op_ii, op_ss, op_tt, op_mm, op_sb, op_ng, op_iNf, op_iNt, op_lle, op_ixT, op_ixR, op_ixL, op_putE, op_appE, it_tupE, it_rolE, it_refE, lstOf_l, exL, asS_some, asI_int, asB_bl, asL_some, asN_some, ite3_t, ite3_f, bl_1, bl_lenT, bl_lenR, bl_lenL, bl_lenS, bl_tuple, bl_list, bl_abs, bl_intI, bl_intB, bl_max, bl_min, op_eqSf, op_eqSt, op_eqIf, op_eqIt, op_eqTf, op_eqTt, op_eqRf, op_eqRt, op_eqNf, op_eqNt, eqD_int, eqD_nil, pl_int, pl_nil, pl_non, pl_rnil, pl_bl, sl_tupE, sl_rolE, keep_ref, keep_tup, keep_rol, tp_int, tp_tup, tp_rol, tp_str, tp_bl, tp_non, tp_ref, oFd, oMd, oPw, oShl, oLt, oLe, oGt, oGe, op_in, op_cp, wipe_nil, wipe_cons, mset_same, true_and, and_true, isN_int, ex_lstF, ex_repF, ex_lgF1, ex_lgF2, ex_tupRg1, ex_tupRg2, ex_frz, ex_slF, ex_slM, sl_tupF, sl_rolF, op_iiF, op_ssF, op_ttF, op_rrF, op_rrM, op_mmF, op_repF, li_rol, li_ref, bl_listF, bl_allF, bl_anyF, asT_some, asJ_some, op_eqBf, op_eqBt, isN_non, Bool.not_true, Bool.not_false, rep2])
    refine ⟨by rw [List.length_map, List.length_take]; omega, hX _ _ ⟨?_, _, _, _, rfl⟩⟩
    rw [mset_same, zip_take hx]; rfl
  · rintro τ M ⟨hM, x3, x4, x5, rfl⟩
    rw [List.take_length, zip_all] at hM
    try dsimp only
    rw [st_ret]
    simp only [ex_c, ex_var, ex_op, ex_un, ex_b, ex_and, ex_or, ex_not, ex_andV, ex_orV, ex_notV, ex_if, ex_chain, ex_nil, ex_cons, ex_tup, ex_lst, ex_call, ex_callP, ex_cb, ex_bm, ex_rep, ex_sl, ex_noPart, ex_part, ex_yes, it_items, it_rng1, it_rng2, tg_name, tg_sub, tg_tup, tg_cons, tg_nil, gs_0, gs_s, ss_0, ss_s, op_ii, op_ss, op_tt, op_mm, op_sb, op_ng, op_iNf, op_iNt, op_lle, op_ixT, op_ixR, op_ixL, op_putE, op_appE, it_tupE, it_rolE, it_refE, lstOf_l, exL, asS_some, asI_int, asB_bl, asL_some, asN_some, ite3_t, ite3_f, bl_1, bl_lenT, bl_lenR, bl_lenL, bl_lenS, bl_tuple, bl_list, bl_abs, bl_intI, bl_intB, bl_max, bl_min, op_eqSf, op_eqSt, op_eqIf, op_eqIt, op_eqTf, op_eqTt, op_eqRf, op_eqRt, op_eqNf, op_eqNt, eqD_int, eqD_nil, pl_int, pl_nil, pl_non, pl_rnil, pl_bl, sl_tupE, sl_rolE, keep_ref, keep_tup, keep_rol, tp_int, tp_tup, tp_rol, tp_str, tp_bl, tp_non, tp_ref, oFd, oMd, oPw, oShl, oLt, oLe, oGt, oGe, op_in, op_cp, wipe_nil, wipe_cons, mset_same, true_and, and_true, isN_int, ex_lstF, ex_repF, ex_lgF1, ex_lgF2, ex_tupRg1, ex_tupRg2, ex_frz, ex_slF, ex_slM, sl_tupF, sl_rolF, op_iiF, op_ssF, op_ttF, op_rrF, op_rrM, op_mmF, op_repF, li_rol, li_ref, bl_listF, bl_allF, bl_anyF, asT_some, asJ_some, op_eqBf, op_eqBt, isN_non, Bool.not_true, Bool.not_false, rep2, hM]
    exact q _
end L3
set_option Elab.async false
set_option linter.all false
set_option maxRecDepth 100000
set_option maxHeartbeats 4000000
namespace L3
open PySem PySem.Spec PyProof.Rows L2
def pinT (vs : List Int) : Tab := (vs ++ [0]).map fun a => (vs ++ [0]).map fun b => some (a - b)
theorem pinT_b {vs : List Int} {B : Nat} (hB : 0 < B) (h : ∀ v ∈ vs, v.natAbs < B) : TabB (2 * B) (vs.length + 1) (pinT vs) := by
  have h' : ∀ v ∈ vs ++ [0], v.natAbs < B := fun v hv => by
    rcases List.mem_append.mp hv with hv | hv
    · exact h v hv
    · rw [List.mem_singleton] at hv; rw [hv]; exact hB
  refine ⟨by simp [pinT], fun r hr => ?_, fun r hr e he => ?_⟩
  · obtain ⟨a, _, rfl⟩ := List.mem_map.mp hr
    simp
  · obtain ⟨a, ha, rfl⟩ := List.mem_map.mp hr
    obtain ⟨b, hb, rfl⟩ := List.mem_map.mp he
    intro i hi
    cases hi
    have h1 := h' a ha
    have h2 := h' b hb
    omega
def pinnedR : XK3 → TS3 := fun E =>
  (wSeq (wSet 1 (wOp oAddF (wCB bTuple (wCons (wVar 0) wNil)) (wTup (wCons (wC (.int 0)) wNil))))
  (wRet (wCB bTuple (wCons (wLcF (wItems (wVar 1)) (wgName 2) wYes (wCB bTuple (wCons (wLcF (wItems (wVar 1)) (wgName 3) wYes (wOp oSub (wVar 2) (wVar 3)) [3]) wNil)) [2]) wNil))))
def SPinned (sp : Sp3) : Prop := ∀ (vs : List Int) (Q : VK3) (E : XK3), vs.length ≤ 1000 → (∀ M, Q (tabD (pinT vs)) M) → sp [.tup (vs.map D.int)] M0 Q E
theorem s_pinned : SPinned (spOf 1 4 pinnedR) := by
  refine fun vs Q E hl q => ⟨rfl, ?_⟩
  have big : (1000000 : Nat) ≤ sizeLine := by decide
  show pinnedR E _ [some (.tup (vs.map D.int)), none, none, none] M0
  unfold pinnedR
  have e1 : vs.map D.int ++ [D.int 0] = (vs ++ [0]).map D.int := by simp
  have hl1 : (vs ++ [0]).length ≤ 1001 := by simp; omega
  rw [st_seq, st_set]
  simp only [ex_c, ex_var, ex_op, ex_un, ex_b, ex_and, ex_or, ex_not, ex_andV, ex_orV, ex_notV, ex_if, ex_chain, ex_nil, ex_cons, ex_tup, ex_lst, ex_call, ex_callP, ex_cb, ex_bm, ex_rep, ex_sl, ex_noPart, ex_part, ex_yes, it_items, it_rng1, it_rng2, tg_name, tg_sub, tg_tup, tg_cons, tg_nil, gs_0, gs_s, ss_0, ss_s, op_ii, op_ss, op_tt, op_mm, op_sb, op_ng, op_iNf, op_iNt, op_lle, op_ixT, op_ixR, op_ixL, op_putE, op_appE, it_tupE, it_rolE, it_refE, lstOf_l, exL, asS_some, asI_int, asB_bl, asL_some, asN_some, ite3_t, ite3_f, bl_1, bl_lenT, bl_lenR, bl_lenL, bl_lenS, bl_tuple, bl_list, bl_abs, bl_intI, bl_intB, bl_max, bl_min, op_eqSf, op_eqSt, op_eqIf, op_eqIt, op_eqTf, op_eqTt, op_eqRf, op_eqRt, op_eqNf, op_eqNt, eqD_int, eqD_nil, pl_int, pl_nil, pl_non, pl_rnil, pl_bl, sl_tupE, sl_rolE, keep_ref, keep_tup, keep_rol, tp_int, tp_tup, tp_rol, tp_str, tp_bl, tp_non, tp_ref, oFd, oMd, oPw, oShl, oLt, oLe, oGt, oGe, op_in, op_cp, wipe_nil, wipe_cons, mset_same, true_and, and_true, isN_int, ex_lstF, ex_repF, ex_lgF1, ex_lgF2, ex_tupRg1, ex_tupRg2, ex_frz, ex_slF, ex_slM, sl_tupF, sl_rolF, op_iiF, op_ssF, op_ttF, op_rrF, op_rrM, op_mmF, op_repF, li_rol, li_ref, bl_listF, bl_allF, bl_anyF, asT_some, asJ_some, op_eqBf, op_eqBt, isN_non, Bool.not_true, Bool.not_false, rep2, e1]
  refine ⟨by show 1 ≤ sizeLine; omega, by rw [List.length_map]; show _ + 1 ≤ sizeLine; omega, ?_⟩
  try dsimp only
  rw [st_ret]
  simp only [ex_c, ex_var, ex_op, ex_un, ex_b, ex_and, ex_or, ex_not, ex_andV, ex_orV, ex_notV, ex_if, ex_chain, ex_nil, ex_cons, ex_tup, ex_lst, ex_call, ex_callP, ex_cb, ex_bm, ex_rep, ex_sl, ex_noPart, ex_part, ex_yes, it_items, it_rng1, it_rng2, tg_name, tg_sub, tg_tup, tg_cons, tg_nil, gs_0, gs_s, ss_0, ss_s, op_ii, op_ss, op_tt, op_mm, op_sb, op_ng, op_iNf, op_iNt, op_lle, op_ixT, op_ixR, op_ixL, op_putE, op_appE, it_tupE, it_rolE, it_refE, lstOf_l, exL, asS_some, asI_int, asB_bl, asL_some, asN_some, ite3_t, ite3_f, bl_1, bl_lenT, bl_lenR, bl_lenL, bl_lenS, bl_tuple, bl_list, bl_abs, bl_intI, bl_intB, bl_max, bl_min, op_eqSf, op_eqSt, op_eqIf, op_eqIt, op_eqTf, op_eqTt, op_eqRf, op_eqRt, op_eqNf, op_eqNt, eqD_int, eqD_nil, pl_int, pl_nil, pl_non, pl_rnil, pl_bl, sl_tupE, sl_rolE, keep_ref, keep_tup, keep_rol, tp_int, tp_tup, tp_rol, tp_str, tp_bl, tp_non, tp_ref, oFd, oMd, oPw, oShl, oLt, oLe, oGt, oGe, op_in, op_cp, wipe_nil, wipe_cons, mset_same, true_and, and_true, isN_int, ex_lstF, ex_repF, ex_lgF1, ex_lgF2, ex_tupRg1, ex_tupRg2, ex_frz, ex_slF, ex_slM, sl_tupF, sl_rolF, op_iiF, op_ssF, op_ttF, op_rrF, op_rrM, op_mmF, op_repF, li_rol, li_ref, bl_listF, bl_allF, bl_anyF, asT_some, asJ_some, op_eqBf, op_eqBt, isN_non, Bool.not_true, Bool.not_false, rep2, ex_lcF]
  refine lc_of D.int (fun a => rowD ((vs ++ [0]).map fun b => some (a - b))) True.intro (vs ++ [0]) (by omega) (fun a ha K qa => ?_) ?_
  · simp only [ex_c, ex_var, ex_op, ex_un, ex_b, ex_and, ex_or, ex_not, ex_andV, ex_orV, ex_notV, ex_if, ex_chain, ex_nil, ex_cons, ex_tup, ex_lst, ex_call, ex_callP, ex_cb, ex_bm, ex_rep, ex_sl, ex_noPart, ex_part, ex_yes, it_items, it_rng1, it_rng2, tg_name, tg_sub, tg_tup, tg_cons, tg_nil, gs_0, gs_s, ss_0, ss_s, op_ii, op_ss, op_tt, op_mm, op_sb, op_ng, op_iNf, op_iNt, op_lle, op_ixT, op_ixR, op_ixL, op_putE, op_appE, it_tupE, it_rolE, it_refE, lstOf_l, exL, asS_some, asI_int, asB_bl, asL_some, asN_some, ite3_t, ite3_f, bl_1, bl_lenT, bl_lenR, bl_lenL, bl_lenS, bl_tuple, bl_list, bl_abs, bl_intI, bl_intB, bl_max, bl_min, op_eqSf, op_eqSt, op_eqIf, op_eqIt, op_eqTf, op_eqTt, op_eqRf, op_eqRt, op_eqNf, op_eqNt, eqD_int, eqD_nil, pl_int, pl_nil, pl_non, pl_rnil, pl_bl, sl_tupE, sl_rolE, keep_ref, keep_tup, keep_rol, tp_int, tp_tup, tp_rol, tp_str, tp_bl, tp_non, tp_ref, oFd, oMd, oPw, oShl, oLt, oLe, oGt, oGe, op_in, op_cp, wipe_nil, wipe_cons, mset_same, true_and, and_true, isN_int, ex_lstF, ex_repF, ex_lgF1, ex_lgF2, ex_tupRg1, ex_tupRg2, ex_frz, ex_slF, ex_slM, sl_tupF, sl_rolF, op_iiF, op_ssF, op_ttF, op_rrF, op_rrM, op_mmF, op_repF, li_rol, li_ref, bl_listF, bl_allF, bl_anyF, asT_some, asJ_some, op_eqBf, op_eqBt, isN_non, Bool.not_true, Bool.not_false, rep2, ex_lcF]
    refine lc_of D.int (fun b => D.int (a - b)) True.intro (vs ++ [0]) (by omega) (fun b hb K qb => ?_) ?_
    · simp only [ex_c, ex_var, ex_op, ex_un, ex_b, ex_and, ex_or, ex_not, ex_andV, ex_orV, ex_notV, ex_if, ex_chain, ex_nil, ex_cons, ex_tup, ex_lst, ex_call, ex_callP, ex_cb, ex_bm, ex_rep, ex_sl, ex_noPart, ex_part, ex_yes, it_items, it_rng1, it_rng2, tg_name, tg_sub, tg_tup, tg_cons, tg_nil, gs_0, gs_s, ss_0, ss_s, op_ii, op_ss, op_tt, op_mm, op_sb, op_ng, op_iNf, op_iNt, op_lle, op_ixT, op_ixR, op_ixL, op_putE, op_appE, it_tupE, it_rolE, it_refE, lstOf_l, exL, asS_some, asI_int, asB_bl, asL_some, asN_some, ite3_t, ite3_f, bl_1, bl_lenT, bl_lenR, bl_lenL, bl_lenS, bl_tuple, bl_list, bl_abs, bl_intI, bl_intB, bl_max, bl_min, op_eqSf, op_eqSt, op_eqIf, op_eqIt, op_eqTf, op_eqTt, op_eqRf, op_eqRt, op_eqNf, op_eqNt, eqD_int, eqD_nil, pl_int, pl_nil, pl_non, pl_rnil, pl_bl, sl_tupE, sl_rolE, keep_ref, keep_tup, keep_rol, tp_int, tp_tup, tp_rol, tp_str, tp_bl, tp_non, tp_ref, oFd, oMd, oPw, oShl, oLt, oLe, oGt, oGe, op_in, op_cp, wipe_nil, wipe_cons, mset_same, true_and, and_true, isN_int, ex_lstF, ex_repF, ex_lgF1, ex_lgF2, ex_tupRg1, ex_tupRg2, ex_frz, ex_slF, ex_slM, sl_tupF, sl_rolF, op_iiF, op_ssF, op_ttF, op_rrF, op_rrM, op_mmF, op_repF, li_rol, li_ref, bl_listF, bl_allF, bl_anyF, asT_some, asJ_some, op_eqBf, op_eqBt, isN_non, Bool.not_true, Bool.not_false, rep2]
      exact qb
    · (try simp only [ex_c, ex_var, ex_op, ex_un, ex_b, ex_and, ex_or, ex_not, ex_andV, ex_orV, ex_notV, ex_if, ex_chain, ex_nil, ex_cons, ex_tup, ex_lst, ex_call, ex_callP, ex_cb, ex_bm, ex_rep, ex_sl, ex_noPart, ex_part, ex_yes, it_items, it_rng1, it_rng2, tg_name, tg_sub, tg_tup, tg_cons, tg_nil, gs_0, gs_s, ss_0, ss_s, op_ii, op_ss, op_tt, op_mm, op_sb, op_ng, op_iNf, op_iNt, op_lle, op_ixT, op_ixR, op_ixL, op_putE, op_appE, it_tupE, it_rolE, it_refE, lstOf_l, exL, asS_some, asI_int, asB_bl, asL_some, asN_some, ite3_t, ite3_f, bl_1, bl_lenT, bl_lenR, bl_lenL, bl_lenS, bl_tuple, bl_list, bl_abs, bl_intI, bl_intB, bl_max, bl_min, op_eqSf, op_eqSt, op_eqIf, op_eqIt, op_eqTf, op_eqTt, op_eqRf, op_eqRt, op_eqNf, op_eqNt, eqD_int, eqD_nil, pl_int, pl_nil, pl_non, pl_rnil, pl_bl, sl_tupE, sl_rolE, keep_ref, keep_tup, keep_rol, tp_int, tp_tup, tp_rol, tp_str, tp_bl, tp_non, tp_ref, oFd, oMd, oPw, oShl, oLt, oLe, oGt, oGe, op_in, op_cp, wipe_nil, wipe_cons, mset_same, true_and, and_true, isN_int, ex_lstF, ex_repF, ex_lgF1, ex_lgF2, ex_tupRg1, ex_tupRg2, ex_frz, ex_slF, ex_slM, sl_tupF, sl_rolF, op_iiF, op_ssF, op_ttF, op_rrF, op_rrM, op_mmF, op_repF, li_rol, li_ref, bl_listF, bl_allF, bl_anyF, asT_some, asJ_some, op_eqBf, op_eqBt, isN_non, Bool.not_true, Bool.not_false, rep2])
      have e : ((vs ++ [0]).map fun b => D.int (a - b)) = ((vs ++ [0]).map fun b => some (a - b)).map oD := by rw [List.map_map]; rfl
      rw [e]
      exact qa
  · (try simp only [ex_c, ex_var, ex_op, ex_un, ex_b, ex_and, ex_or, ex_not, ex_andV, ex_orV, ex_notV, ex_if, ex_chain, ex_nil, ex_cons, ex_tup, ex_lst, ex_call, ex_callP, ex_cb, ex_bm, ex_rep, ex_sl, ex_noPart, ex_part, ex_yes, it_items, it_rng1, it_rng2, tg_name, tg_sub, tg_tup, tg_cons, tg_nil, gs_0, gs_s, ss_0, ss_s, op_ii, op_ss, op_tt, op_mm, op_sb, op_ng, op_iNf, op_iNt, op_lle, op_ixT, op_ixR, op_ixL, op_putE, op_appE, it_tupE, it_rolE, it_refE, lstOf_l, exL, asS_some, asI_int, asB_bl, asL_some, asN_some, ite3_t, ite3_f, bl_1, bl_lenT, bl_lenR, bl_lenL, bl_lenS, bl_tuple, bl_list, bl_abs, bl_intI, bl_intB, bl_max, bl_min, op_eqSf, op_eqSt, op_eqIf, op_eqIt, op_eqTf, op_eqTt, op_eqRf, op_eqRt, op_eqNf, op_eqNt, eqD_int, eqD_nil, pl_int, pl_nil, pl_non, pl_rnil, pl_bl, sl_tupE, sl_rolE, keep_ref, keep_tup, keep_rol, tp_int, tp_tup, tp_rol, tp_str, tp_bl, tp_non, tp_ref, oFd, oMd, oPw, oShl, oLt, oLe, oGt, oGe, op_in, op_cp, wipe_nil, wipe_cons, mset_same, true_and, and_true, isN_int, ex_lstF, ex_repF, ex_lgF1, ex_lgF2, ex_tupRg1, ex_tupRg2, ex_frz, ex_slF, ex_slM, sl_tupF, sl_rolF, op_iiF, op_ssF, op_ttF, op_rrF, op_rrM, op_mmF, op_repF, li_rol, li_ref, bl_listF, bl_allF, bl_anyF, asT_some, asJ_some, op_eqBf, op_eqBt, isN_non, Bool.not_true, Bool.not_false, rep2])
    have e : ((vs ++ [0]).map fun a => rowD ((vs ++ [0]).map fun b => some (a - b))) = (pinT vs).map rowD := by unfold pinT; rw [List.map_map]; rfl
    rw [e]
    exact q _
/-- tables that may be asked for: on k points or (), with what they are closed -/
structure Ct (b k : Nat) (d : D) : Prop where
  ex : ∃ (n B : Nat) (U V : Tab), d = tabD U ∧ n ≤ k ∧ 0 < B ∧ B ≤ b ∧ TabB B n U ∧ (U = [] ∨ n = k) ∧ Closes n B U (tabD V) ∧ (V = [] ∨ (Sq k V ∧ 0 < k)) ∧ (U = [] ∨ (Sq k U ∧ 0 < k)) ∧ ∃ C, C = 2 ^ k * b ∧ (V = [] ∨ TabB C k V)
theorem ctT {b k B : Nat} {U : Tab} (hk : 0 < k) (hB : 0 < B) (hB1 : B ≤ b) (t : TabB B k U) : Ct b k (tabD U) := by
  obtain ⟨d, c⟩ := closes_ex t hB
  have c0 := c
  rcases c with ⟨_, rfl⟩ | ⟨S, tS, _, rfl⟩
  · exact ⟨k, B, U, [], rfl, Nat.le_refl _, hB, hB1, t, .inr rfl, c0, .inl rfl, .inr ⟨t.sq, hk⟩, _, rfl, .inl rfl⟩
  · exact ⟨k, B, U, S, rfl, Nat.le_refl _, hB, hB1, t, .inr rfl, c0, .inr ⟨tS.sq, hk⟩, .inr ⟨t.sq, hk⟩, _, rfl, .inr (tS.mono (Nat.mul_le_mul_left _ hB1))⟩
theorem tab0 {B : Nat} : TabB B 0 [] := ⟨rfl, (fun r hr => nomatch hr), (fun r hr => nomatch hr)⟩
theorem cl0 {B : Nat} (hB : 0 < B) : Closes 0 B [] (tabD []) := by
  obtain ⟨d, c⟩ := closes_ex (n := 0) (B := B) (T := []) tab0 hB
  have c0 := c
  rcases c with ⟨_, rfl⟩ | ⟨S, tS, _, rfl⟩
  · exact c0
  · have : S = [] := List.eq_nil_of_length_eq_zero tS.rows
    rw [this] at c0; exact c0
theorem ct0 {b k : Nat} (hb : 0 < b) : Ct b k (tabD []) := ⟨0, 1, [], [], rfl, Nat.zero_le _, by decide, hb, tab0, .inl rfl, cl0 (by decide), .inl rfl, .inl rfl, _, rfl, .inl rfl⟩
theorem Ct.mono {b c k : Nat} {d : D} (h : Ct b k d) (hb : b ≤ c) : Ct c k d := by
  obtain ⟨n, B, U, V, e, h1, h2, h3, h4, h5, h6, h7, h8, C, rfl, h9⟩ := h.ex
  refine ⟨n, B, U, V, e, h1, h2, Nat.le_trans h3 hb, h4, h5, h6, h7, h8, _, rfl, ?_⟩
  rcases h9 with h | h
  · exact .inl h
  · exact .inr (h.mono (Nat.mul_le_mul_left _ hb))
/-- what a closed table is, asked for again -/
theorem ctC {b k n B : Nat} {U : Tab} {d : D} (hk : 0 < k) (hn : U = [] ∨ n = k) (hB : 0 < B) (hb : 2 ^ k * B ≤ b) (t : TabB B n U) (c : Closes n B U d) : Ct b k d := by
  have hb0 : 0 < b := Nat.lt_of_lt_of_le (Nat.mul_pos (Nat.two_pow_pos _) hB) hb
  rcases c with ⟨_, rfl⟩ | ⟨S, tS, _, rfl⟩
  · exact ct0 hb0
  · rcases hn with rfl | rfl
    · have hn : n = 0 := by have := t.rows; simpa using this.symm
      subst hn
      have : S = [] := List.eq_nil_of_length_eq_zero tS.rows
      rw [this]; exact ct0 hb0
    · exact ctT hk (Nat.mul_pos (Nat.two_pow_pos _) hB) hb tS
theorem Ct.tm {b k : Nat} {d : D} (h : Ct b k d) (hb : b ≤ 10 ^ 100) (hk : k ≤ 7) : Tm 2 56 d := by
  obtain ⟨n, B, U, V, rfl, hn, _, hB, t, _⟩ := h.ex
  exact (Tm.tab t (Nat.le_trans hB hb)).mono (Nat.le_refl _) (Nat.mul_le_mul (Nat.le_trans hn hk) (Nat.add_le_add_right (Nat.le_trans hn hk) 1))
end L3
set_option Elab.async false
set_option linter.all false
set_option maxRecDepth 100000
set_option maxHeartbeats 4000000
namespace W
open PySem PySem.Spec PyProof.Rows L2 L3
def top (i : Nat) : PySem.Stmt := PySem.Challenge.pw_everturns_k08_both_and_around_far.main.body.getD i (.Pass ⟨0, 0, 0, 0⟩)
section
variable {P : Program} {w : World} {K : PySem.W.Frag} {mg : PySem.Str → Option Value} {base : Heap}
abbrev s_joined : PySem.Stmt := top 1
abbrev N_joined : List PySem.Str := [("first" : PySem.Str), ("second" : PySem.Str)]
theorem sc_joined : FnScope N_joined [("first" : PySem.Str), ("second" : PySem.Str)] (defScope s_joined) := ⟨rfl, rfl, rfl, by decide +kernel, rfl, by decide +kernel, by decide +kernel⟩
def r_joined : XK3 → TS3 := fun E =>
  (wRet (wIf (wOr (wB (wOp (oIsN false) (wVar 0) (wC .non))) (wB (wOp (oIsN false) (wVar 1) (wC .non)))) (wC .non) (wOp oAddF (wVar 0) (wVar 1))))
def sp_joined : Sp3 := spOf 2 2 r_joined
theorem ok_joined {f : Addr} {fd : FuncData} (hm : mg ("joined" : PySem.Str) = some (.ref f)) (F : Fun K ("joined" : PySem.Str) ("joined" : PySem.Str) s_joined f fd) (bd : Binds K fd [("first" : PySem.Str), ("second" : PySem.Str)] []) : Def3 P w K mg base (L2.CX P w) 1 ("joined" : PySem.Str) sp_joined := by
  refine def_of (t := r_joined) hm F bd sc_joined ?_
  intro cdv A outer s H E bs E3 hG hr hE
  have hG : (A.deeper (envOfC ("joined" : PySem.Str) (defScope s_joined) s.heap.objs.size f cdv)).guards = some [] := hG
  have hu := hr.units
  have hu2 := hu_more hr
  have nd := sc_joined.nd
  exact (ss_one (s_ret (e_if (PW3.pt (t_or (t_cmp o_is (ev 0) e_non (nomark _)) (t_or1 (t_cmp o_is (ev 1) e_non (nomark _))))) e_non (e_op o_addF (ev 0) (ev 1)))))
abbrev s_lesser : PySem.Stmt := top 2
abbrev N_lesser : List PySem.Str := [("first" : PySem.Str), ("second" : PySem.Str)]
theorem sc_lesser : FnScope N_lesser [("first" : PySem.Str), ("second" : PySem.Str)] (defScope s_lesser) := ⟨rfl, rfl, rfl, by decide +kernel, rfl, by decide +kernel, by decide +kernel⟩
def r_lesser : XK3 → TS3 := fun E =>
  (wSeq (wIfS (wOr (wB (wOp (oIsN false) (wVar 0) (wC .non))) (wB (wOp (oIsN false) (wVar 1) (wC .non)))) (wRet (wIf (wB (wOp (oIsN false) (wVar 0) (wC .non))) (wVar 1) (wVar 0))) wNext)
  (wRet (wCB bMin (wCons (wVar 0) (wCons (wVar 1) wNil)))))
def sp_lesser : Sp3 := spOf 2 2 r_lesser
theorem ok_lesser {f : Addr} {fd : FuncData} (hm : mg ("lesser" : PySem.Str) = some (.ref f)) (F : Fun K ("lesser" : PySem.Str) ("lesser" : PySem.Str) s_lesser f fd) (bd : Binds K fd [("first" : PySem.Str), ("second" : PySem.Str)] []) (z_min : mg ("min" : PySem.Str) = none) : Def3 P w K mg base (L2.CX P w) 1 ("lesser" : PySem.Str) sp_lesser := by
  refine def_of (t := r_lesser) hm F bd sc_lesser ?_
  intro cdv A outer s H E bs E3 hG hr hE
  have hG : (A.deeper (envOfC ("lesser" : PySem.Str) (defScope s_lesser) s.heap.objs.size f cdv)).guards = some [] := hG
  have hu := hr.units
  have hu2 := hu_more hr
  have nd := sc_lesser.nd
  exact (ss_cons (s_if (PW3.pt (t_or (t_cmp o_is (ev 0) e_non (nomark _)) (t_or1 (t_cmp o_is (ev 1) e_non (nomark _))))) (ss_one (s_ret (e_if (t_cmp o_is (ev 0) e_non (nomark _)) (ev 1) (ev 0)))) ss_nil)
     (ss_one (s_ret (e_callB (c_min rfl) z_min (by decide +kernel) (a_cons (ev 0) (a_cons (ev 1) a_nil))))))
abbrev s_greater : PySem.Stmt := top 3
abbrev N_greater : List PySem.Str := [("first" : PySem.Str), ("second" : PySem.Str)]
theorem sc_greater : FnScope N_greater [("first" : PySem.Str), ("second" : PySem.Str)] (defScope s_greater) := ⟨rfl, rfl, rfl, by decide +kernel, rfl, by decide +kernel, by decide +kernel⟩
def r_greater : XK3 → TS3 := fun E =>
  (wRet (wIf (wOr (wB (wOp (oIsN false) (wVar 0) (wC .non))) (wB (wOp (oIsN false) (wVar 1) (wC .non)))) (wC .non) (wCB bMax (wCons (wVar 0) (wCons (wVar 1) wNil)))))
def sp_greater : Sp3 := spOf 2 2 r_greater
theorem ok_greater {f : Addr} {fd : FuncData} (hm : mg ("greater" : PySem.Str) = some (.ref f)) (F : Fun K ("greater" : PySem.Str) ("greater" : PySem.Str) s_greater f fd) (bd : Binds K fd [("first" : PySem.Str), ("second" : PySem.Str)] []) (z_max : mg ("max" : PySem.Str) = none) : Def3 P w K mg base (L2.CX P w) 1 ("greater" : PySem.Str) sp_greater := by
  refine def_of (t := r_greater) hm F bd sc_greater ?_
  intro cdv A outer s H E bs E3 hG hr hE
  have hG : (A.deeper (envOfC ("greater" : PySem.Str) (defScope s_greater) s.heap.objs.size f cdv)).guards = some [] := hG
  have hu := hr.units
  have hu2 := hu_more hr
  have nd := sc_greater.nd
  exact (ss_one (s_ret (e_if (PW3.pt (t_or (t_cmp o_is (ev 0) e_non (nomark _)) (t_or1 (t_cmp o_is (ev 1) e_non (nomark _))))) e_non (e_callB (c_max rfl) z_max (by decide +kernel) (a_cons (ev 0) (a_cons (ev 1) a_nil))))))
abbrev s_closed : PySem.Stmt := top 4
abbrev N_closed : List PySem.Str := [("table" : PySem.Str), ("points" : PySem.Str), ("ends" : PySem.Str), ("row" : PySem.Str), ("p" : PySem.Str), ("middle" : PySem.Str), ("q" : PySem.Str)]
theorem sc_closed : FnScope N_closed [("table" : PySem.Str)] (defScope s_closed) := ⟨rfl, rfl, rfl, by decide +kernel, rfl, by decide +kernel, by decide +kernel⟩
def r_closed (sp_lesser : Sp3) (sp_joined : Sp3) : XK3 → TS3 := fun E =>
  (wSeq (wSet 1 (wLstRgF1 (wCB bLen (wCons (wVar 0) wNil))))
  (wSeq (wSet 2 (wLcF (wItems (wVar 0)) (wgName 3) wYes (wCB bList (wCons (wVar 3) wNil)) [3]))
  (wSeq (wFor (wItems (wVar 1)) (wgName 4) (wAsg (wCallP sp_lesser E (wCons (wOp oIx (wOp oIx (wVar 2) (wVar 4)) (wVar 4)) (wCons (wC (.int 0)) wNil))) (wgSub (wOp oIx (wVar 2) (wVar 4)) (wVar 4) oPut)))
  (wSeq (wFor (wItems (wVar 1)) (wgName 5) (wFor (wItems (wVar 1)) (wgName 4) (wFor (wItems (wVar 1)) (wgName 6) (wAsg (wCallP sp_lesser E (wCons (wOp oIx (wOp oIx (wVar 2) (wVar 4)) (wVar 6)) (wCons (wCallP sp_joined E (wCons (wOp oIx (wOp oIx (wVar 2) (wVar 4)) (wVar 5)) (wCons (wOp oIx (wOp oIx (wVar 2) (wVar 5)) (wVar 6)) wNil))) wNil))) (wgSub (wOp oIx (wVar 2) (wVar 4)) (wVar 6) oPut)))))
  (wSeq (wIfS (wB (wCB bAnyF (wCons (wLcF (wItems (wVar 1)) (wgName 4) wYes (wOp oLt (wOp oIx (wOp oIx (wVar 2) (wVar 4)) (wVar 4)) (wC (.int 0))) [4]) wNil))) (wRet (wTup wNil)) wNext)
  (wRet (wCB bTuple (wCons (wLcF (wItems (wVar 2)) (wgName 3) wYes (wCB bTuple (wCons (wVar 3) wNil)) [3]) wNil))))))))
def sp_closed : Sp3 := spOf 1 7 (r_closed sp_lesser sp_joined)
theorem ok_closed {f : Addr} {fd : FuncData} (hm : mg ("closed" : PySem.Str) = some (.ref f)) (F : Fun K ("closed" : PySem.Str) ("closed" : PySem.Str) s_closed f fd) (bd : Binds K fd [("table" : PySem.Str)] []) (z_any : mg ("any" : PySem.Str) = none) (z_len : mg ("len" : PySem.Str) = none) (z_list : mg ("list" : PySem.Str) = none) (z_range : mg ("range" : PySem.Str) = none) (z_tuple : mg ("tuple" : PySem.Str) = none) (d_lesser : Def3 P w K mg base (L2.CX P w) 1 ("lesser" : PySem.Str) sp_lesser) (d_joined : Def3 P w K mg base (L2.CX P w) 1 ("joined" : PySem.Str) sp_joined) : Def3 P w K mg base (L2.CX P w) 2 ("closed" : PySem.Str) sp_closed := by
  refine def_of (t := (r_closed sp_lesser sp_joined)) hm F bd sc_closed ?_
  intro cdv A outer s H E bs E3 hG hr hE
  have hG : (A.deeper (envOfC ("closed" : PySem.Str) (defScope s_closed) s.heap.objs.size f cdv)).guards = some [] := hG
  have hu := hr.units
  have hu2 := hu_more hr
  have nd := sc_closed.nd
  exact (ss_cons (s_set (i := 1) nd rfl (by first | exact Or.inl rfl | exact Or.inr rfl) (e_listRgF1 rfl z_list z_range (e_callB c_len z_len (by decide +kernel) (a_cons (ev 0) a_nil))))
     (ss_cons (s_set (i := 2) nd rfl (by first | exact Or.inl rfl | exact Or.inr rfl) (e_lcF (own := [(("row" : PySem.Str), 3)]) (by decide) rfl nd (w_seq (ev 0)) (blkOk_by (N := N_closed) (sc := defScope s_closed) (by decide +kernel)) (fun _ _ _ _ _ => (g_name (i := 3) nd rfl (by first | exact Or.inl rfl | exact Or.inr rfl))) (fun _ _ _ _ _ => ts_nil) (fun _ _ _ _ _ => (e_callTy c_list z_list (by decide +kernel) (a_cons (ev 3) a_nil)))))
     (ss_cons (s_for (passes_of rfl) rfl (w_seq (ev 1)) (g_name (i := 4) nd rfl (by first | exact Or.inl rfl | exact Or.inr rfl)) (ss_one (s_asg (e_callP d_lesser hG (hr.mono (by decide)) (passXE hE) (a_cons (e_ix (e_ix (ev 2) (ev 4)) (ev 4)) (a_cons e_int a_nil))) (g_sub (e_ix (ev 2) (ev 4)) (ev 4) p_put))))
     (ss_cons (s_for (passes_of rfl) rfl (w_seq (ev 1)) (g_name (i := 5) nd rfl (by first | exact Or.inl rfl | exact Or.inr rfl)) (ss_one (s_for (passes_of rfl) rfl (w_seq (ev 1)) (g_name (i := 4) nd rfl (by first | exact Or.inl rfl | exact Or.inr rfl)) (ss_one (s_for (passes_of rfl) rfl (w_seq (ev 1)) (g_name (i := 6) nd rfl (by first | exact Or.inl rfl | exact Or.inr rfl)) (ss_one (s_asg (e_callP d_lesser hG (hr.mono (by decide)) (passXE hE) (a_cons (e_ix (e_ix (ev 2) (ev 4)) (ev 6)) (a_cons (e_callP d_joined hG (hr.mono (by decide)) (passXE hE) (a_cons (e_ix (e_ix (ev 2) (ev 4)) (ev 5)) (a_cons (e_ix (e_ix (ev 2) (ev 5)) (ev 6)) a_nil))) a_nil))) (g_sub (e_ix (ev 2) (ev 4)) (ev 6) p_put))))))))
     (ss_cons (s_if (t_val (e_callB (c_anyF rfl) z_any (by decide +kernel) (a_cons (e_lcF (own := [(("p" : PySem.Str), 4)]) (by decide) rfl nd (w_seq (ev 1)) (blkOk_by (N := N_closed) (sc := defScope s_closed) (by decide +kernel)) (fun _ _ _ _ _ => (g_name (i := 4) nd rfl (by first | exact Or.inl rfl | exact Or.inr rfl))) (fun _ _ _ _ _ => ts_nil) (fun _ _ _ _ _ => (e_cmp o_lt (e_ix (e_ix (ev 2) (ev 4)) (ev 4)) e_int (nomark _)))) a_nil))) (ss_one (s_ret (e_tup a_nil))) ss_nil)
     (ss_one (s_ret (e_callTy c_tuple z_tuple (by decide +kernel) (a_cons (e_lcF (own := [(("row" : PySem.Str), 3)]) (by decide) rfl nd (w_seq (ev 2)) (blkOk_by (N := N_closed) (sc := defScope s_closed) (by decide +kernel)) (fun _ _ _ _ _ => (g_name (i := 3) nd rfl (by first | exact Or.inl rfl | exact Or.inr rfl))) (fun _ _ _ _ _ => ts_nil) (fun _ _ _ _ _ => (e_callTy c_tuple z_tuple (by decide +kernel) (a_cons (ev 3) a_nil)))) a_nil)))))))))
abbrev s_both : PySem.Stmt := top 5
abbrev N_both : List PySem.Str := [("one" : PySem.Str), ("other" : PySem.Str), ("rows" : PySem.Str), ("row" : PySem.Str), ("ends" : PySem.Str), ("first" : PySem.Str), ("second" : PySem.Str)]
theorem sc_both : FnScope N_both [("one" : PySem.Str), ("other" : PySem.Str)] (defScope s_both) := ⟨rfl, rfl, rfl, by decide +kernel, rfl, by decide +kernel, by decide +kernel⟩
def r_both (sp_lesser : Sp3) (sp_closed : Sp3) : XK3 → TS3 := fun E =>
  (wSeq (wIfS (wOr (wB (wOp (oEq false) (wVar 0) (wTup wNil))) (wB (wOp (oEq false) (wVar 1) (wTup wNil)))) (wRet (wTup wNil)) wNext)
  (wSeq (wSet 2 (wLst wNil))
  (wSeq (wFor (wZipF (wCons (wVar 0) (wCons (wVar 1) wNil))) (wgTupN 2 (wgCons (wgName 3) (wgCons (wgName 4) wgNil))) (wDrop (wBM oApp (wVar 2) (wCons (wCB bTuple (wCons (wLcF (wZipF (wCons (wVar 3) (wCons (wVar 4) wNil))) (wgTupN 2 (wgCons (wgName 5) (wgCons (wgName 6) wgNil))) wYes (wCallP sp_lesser X0 (wCons (wVar 5) (wCons (wVar 6) wNil))) [5, 6]) wNil)) wNil))))
  (wRet (wCallP sp_closed E (wCons (wCB bTuple (wCons (wVar 2) wNil)) wNil))))))
def sp_both : Sp3 := spOf 2 7 (r_both sp_lesser sp_closed)
theorem ok_both {f : Addr} {fd : FuncData} (hm : mg ("both" : PySem.Str) = some (.ref f)) (F : Fun K ("both" : PySem.Str) ("both" : PySem.Str) s_both f fd) (bd : Binds K fd [("one" : PySem.Str), ("other" : PySem.Str)] []) (z_tuple : mg ("tuple" : PySem.Str) = none) (z_zip : mg ("zip" : PySem.Str) = none) (d_lesser : Def3 P w K mg base (L2.CX P w) 1 ("lesser" : PySem.Str) sp_lesser) (d_closed : Def3 P w K mg base (L2.CX P w) 2 ("closed" : PySem.Str) sp_closed) : Def3 P w K mg base (L2.CX P w) 3 ("both" : PySem.Str) sp_both := by
  refine def_of (t := (r_both sp_lesser sp_closed)) hm F bd sc_both ?_
  intro cdv A outer s H E bs E3 hG hr hE
  have hG : (A.deeper (envOfC ("both" : PySem.Str) (defScope s_both) s.heap.objs.size f cdv)).guards = some [] := hG
  have hu := hr.units
  have hu2 := hu_more hr
  have nd := sc_both.nd
  exact (ss_cons (s_if (PW3.pt (t_or (t_cmp (o_eq hu) (ev 0) (e_tup a_nil) (nomark _)) (t_or1 (t_cmp (o_eq hu) (ev 1) (e_tup a_nil) (nomark _))))) (ss_one (s_ret (e_tup a_nil))) ss_nil)
     (ss_cons (s_set (i := 2) nd rfl (by first | exact Or.inl rfl | exact Or.inr rfl) (e_lst a_nil))
     (ss_cons (s_for (passes_of rfl) rfl (w_zipG z_zip (a_cons (ev 0) (a_cons (ev 1) a_nil))) (g_tupN rfl (gs_cons (g_name (i := 3) nd rfl (by first | exact Or.inl rfl | exact Or.inr rfl)) (gs_cons (g_name (i := 4) nd rfl (by first | exact Or.inl rfl | exact Or.inr rfl)) gs_nil))) (ss_one (s_expr (e_append (ev 2) (e_callTy c_tuple z_tuple (by decide +kernel) (a_cons (e_lcF (own := [(("first" : PySem.Str), 5), (("second" : PySem.Str), 6)]) (by decide) rfl nd (w_zipG z_zip (a_cons (ev 3) (a_cons (ev 4) a_nil))) (blkOk_by (N := N_both) (sc := defScope s_both) (by decide +kernel)) (fun _ _ _ _ _ => (g_tupN rfl (gs_cons (g_name (i := 5) nd rfl (by first | exact Or.inl rfl | exact Or.inr rfl)) (gs_cons (g_name (i := 6) nd rfl (by first | exact Or.inl rfl | exact Or.inr rfl)) gs_nil)))) (fun _ _ _ _ _ => ts_nil) (fun _ _ _ _ _ => (e_callP d_lesser hG (hr.mono (by decide)) passX1 (a_cons (ev 5) (a_cons (ev 6) a_nil))))) a_nil))))))
     (ss_one (s_ret (e_callP d_closed hG (hr.mono (by decide)) (passXE hE) (a_cons (e_callTy c_tuple z_tuple (by decide +kernel) (a_cons (ev 2) a_nil)) a_nil)))))))
abbrev s_around : PySem.Stmt := top 6
abbrev N_around : List PySem.Str := [("one" : PySem.Str), ("other" : PySem.Str), ("first" : PySem.Str), ("second" : PySem.Str), ("rows" : PySem.Str), ("row" : PySem.Str), ("ends" : PySem.Str), ("end" : PySem.Str), ("more" : PySem.Str)]
theorem sc_around : FnScope N_around [("one" : PySem.Str), ("other" : PySem.Str)] (defScope s_around) := ⟨rfl, rfl, rfl, by decide +kernel, rfl, by decide +kernel, by decide +kernel⟩
def r_around (sp_closed : Sp3) (sp_greater : Sp3) : XK3 → TS3 := fun E =>
  (wSeq (wPar 2 3 (wCons (wCallP sp_closed E (wCons (wVar 0) wNil)) (wCons (wCallP sp_closed E (wCons (wVar 1) wNil)) wNil)))
  (wSeq (wIfS (wOr (wB (wOp (oEq false) (wVar 2) (wTup wNil))) (wB (wOp (oEq false) (wVar 3) (wTup wNil)))) (wRet (wIf (wB (wOp (oEq false) (wVar 2) (wTup wNil))) (wVar 3) (wVar 2))) wNext)
  (wSeq (wSet 4 (wLst wNil))
  (wSeq (wFor (wZipF (wCons (wVar 2) (wCons (wVar 3) wNil))) (wgTupN 2 (wgCons (wgName 5) (wgCons (wgName 6) wgNil))) (wDrop (wBM oApp (wVar 4) (wCons (wCB bTuple (wCons (wLcF (wZipF (wCons (wVar 5) (wCons (wVar 6) wNil))) (wgTupN 2 (wgCons (wgName 7) (wgCons (wgName 8) wgNil))) wYes (wCallP sp_greater X0 (wCons (wVar 7) (wCons (wVar 8) wNil))) [7, 8]) wNil)) wNil))))
  (wRet (wCB bTuple (wCons (wVar 4) wNil)))))))
def sp_around : Sp3 := spOf 2 9 (r_around sp_closed sp_greater)
theorem ok_around {f : Addr} {fd : FuncData} (hm : mg ("around" : PySem.Str) = some (.ref f)) (F : Fun K ("around" : PySem.Str) ("around" : PySem.Str) s_around f fd) (bd : Binds K fd [("one" : PySem.Str), ("other" : PySem.Str)] []) (z_tuple : mg ("tuple" : PySem.Str) = none) (z_zip : mg ("zip" : PySem.Str) = none) (d_closed : Def3 P w K mg base (L2.CX P w) 2 ("closed" : PySem.Str) sp_closed) (d_greater : Def3 P w K mg base (L2.CX P w) 1 ("greater" : PySem.Str) sp_greater) : Def3 P w K mg base (L2.CX P w) 3 ("around" : PySem.Str) sp_around := by
  refine def_of (t := (r_around sp_closed sp_greater)) hm F bd sc_around ?_
  intro cdv A outer s H E bs E3 hG hr hE
  have hG : (A.deeper (envOfC ("around" : PySem.Str) (defScope s_around) s.heap.objs.size f cdv)).guards = some [] := hG
  have hu := hr.units
  have hu2 := hu_more hr
  have nd := sc_around.nd
  exact (ss_cons (s_par (i := 2) (j := 3) rfl nd rfl rfl (by decide) rfl rfl (a_cons (e_callP d_closed hG (hr.mono (by decide)) (passXE hE) (a_cons (ev 0) a_nil)) (a_cons (e_callP d_closed hG (hr.mono (by decide)) (passXE hE) (a_cons (ev 1) a_nil)) a_nil)) rfl)
     (ss_cons (s_if (PW3.pt (t_or (t_cmp (o_eq hu) (ev 2) (e_tup a_nil) (nomark _)) (t_or1 (t_cmp (o_eq hu) (ev 3) (e_tup a_nil) (nomark _))))) (ss_one (s_ret (e_if (t_cmp (o_eq hu) (ev 2) (e_tup a_nil) (nomark _)) (ev 3) (ev 2)))) ss_nil)
     (ss_cons (s_set (i := 4) nd rfl (by first | exact Or.inl rfl | exact Or.inr rfl) (e_lst a_nil))
     (ss_cons (s_for (passes_of rfl) rfl (w_zipG z_zip (a_cons (ev 2) (a_cons (ev 3) a_nil))) (g_tupN rfl (gs_cons (g_name (i := 5) nd rfl (by first | exact Or.inl rfl | exact Or.inr rfl)) (gs_cons (g_name (i := 6) nd rfl (by first | exact Or.inl rfl | exact Or.inr rfl)) gs_nil))) (ss_one (s_expr (e_append (ev 4) (e_callTy c_tuple z_tuple (by decide +kernel) (a_cons (e_lcF (own := [(("end" : PySem.Str), 7), (("more" : PySem.Str), 8)]) (by decide) rfl nd (w_zipG z_zip (a_cons (ev 5) (a_cons (ev 6) a_nil))) (blkOk_by (N := N_around) (sc := defScope s_around) (by decide +kernel)) (fun _ _ _ _ _ => (g_tupN rfl (gs_cons (g_name (i := 7) nd rfl (by first | exact Or.inl rfl | exact Or.inr rfl)) (gs_cons (g_name (i := 8) nd rfl (by first | exact Or.inl rfl | exact Or.inr rfl)) gs_nil)))) (fun _ _ _ _ _ => ts_nil) (fun _ _ _ _ _ => (e_callP d_greater hG (hr.mono (by decide)) passX1 (a_cons (ev 7) (a_cons (ev 8) a_nil))))) a_nil))))))
     (ss_one (s_ret (e_callTy c_tuple z_tuple (by decide +kernel) (a_cons (ev 4) a_nil))))))))
abbrev s_pinned : PySem.Stmt := top 8
abbrev N_pinned : List PySem.Str := [("values" : PySem.Str), ("whole" : PySem.Str), ("first" : PySem.Str), ("second" : PySem.Str)]
theorem sc_pinned : FnScope N_pinned [("values" : PySem.Str)] (defScope s_pinned) := ⟨rfl, rfl, rfl, by decide +kernel, rfl, by decide +kernel, by decide +kernel⟩
def r_pinned : XK3 → TS3 := fun E =>
  (wSeq (wSet 1 (wOp oAddF (wCB bTuple (wCons (wVar 0) wNil)) (wTup (wCons (wC (.int 0)) wNil))))
  (wRet (wCB bTuple (wCons (wLcF (wItems (wVar 1)) (wgName 2) wYes (wCB bTuple (wCons (wLcF (wItems (wVar 1)) (wgName 3) wYes (wOp oSub (wVar 2) (wVar 3)) [3]) wNil)) [2]) wNil))))
def sp_pinned : Sp3 := spOf 1 4 r_pinned
theorem ok_pinned {f : Addr} {fd : FuncData} (hm : mg ("pinned" : PySem.Str) = some (.ref f)) (F : Fun K ("pinned" : PySem.Str) ("pinned" : PySem.Str) s_pinned f fd) (bd : Binds K fd [("values" : PySem.Str)] []) (z_tuple : mg ("tuple" : PySem.Str) = none) : Def3 P w K mg base (L2.CX P w) 1 ("pinned" : PySem.Str) sp_pinned := by
  refine def_of (t := r_pinned) hm F bd sc_pinned ?_
  intro cdv A outer s H E bs E3 hG hr hE
  have hG : (A.deeper (envOfC ("pinned" : PySem.Str) (defScope s_pinned) s.heap.objs.size f cdv)).guards = some [] := hG
  have hu := hr.units
  have hu2 := hu_more hr
  have nd := sc_pinned.nd
  exact (ss_cons (s_set (i := 1) nd rfl (by first | exact Or.inl rfl | exact Or.inr rfl) (e_op o_addF (e_callTy c_tuple z_tuple (by decide +kernel) (a_cons (ev 0) a_nil)) (e_tup (a_cons e_int a_nil))))
     (ss_one (s_ret (e_callTy c_tuple z_tuple (by decide +kernel) (a_cons (e_lcF (own := [(("first" : PySem.Str), 2)]) (by decide) rfl nd (w_seq (ev 1)) (blkOk_by (N := N_pinned) (sc := defScope s_pinned) (by decide +kernel)) (fun _ _ _ _ _ => (g_name (i := 2) nd rfl (by first | exact Or.inl rfl | exact Or.inr rfl))) (fun _ _ _ _ _ => ts_nil) (fun _ _ _ _ _ => (e_callTy c_tuple z_tuple (by decide +kernel) (a_cons (e_lcF (own := [(("second" : PySem.Str), 3)]) (by decide) rfl nd (w_seq (ev 1)) (blkOk_by (N := N_pinned) (by rfl)) (fun _ _ _ _ _ => (g_name (i := 3) nd rfl (by first | exact Or.inl rfl | exact Or.inr rfl))) (fun _ _ _ _ _ => ts_nil) (fun _ _ _ _ _ => (e_op o_sub (ev 2) (ev 3)))) a_nil)))) a_nil)))))
abbrev s__law_feed : PySem.Stmt := top 10
abbrev N__law_feed : List PySem.Str := [("_law_script" : PySem.Str)]
theorem sc__law_feed : FnScope N__law_feed [("_law_script" : PySem.Str)] (defScope s__law_feed) := ⟨rfl, rfl, rfl, by decide +kernel, rfl, by decide +kernel, by decide +kernel⟩
def r__law_feed : XK3 → TS3 := fun E =>
  (wRet (wLst (wCons (wSlF (wVar 0) wNoPart (wPart (wC (.int 63)))) (wCons (wC (.int 0)) (wCons (wC (.int 0)) (wCons (wC (.int 0)) wNil))))))
def sp__law_feed : Sp3 := spOf 1 1 r__law_feed
theorem ok__law_feed {f : Addr} {fd : FuncData} (hm : mg ("_law_feed" : PySem.Str) = some (.ref f)) (F : Fun K ("_law_feed" : PySem.Str) ("_law_feed" : PySem.Str) s__law_feed f fd) (bd : Binds K fd [("_law_script" : PySem.Str)] []) : Def3 P w K mg base (L2.CX P w) 1 ("_law_feed" : PySem.Str) sp__law_feed := by
  refine def_of (t := r__law_feed) hm F bd sc__law_feed ?_
  intro cdv A outer s H E bs E3 hG hr hE
  have hG : (A.deeper (envOfC ("_law_feed" : PySem.Str) (defScope s__law_feed) s.heap.objs.size f cdv)).guards = some [] := hG
  have hu := hr.units
  have hu2 := hu_more hr
  have nd := sc__law_feed.nd
  exact (ss_one (s_ret (e_lst (a_cons (e_sliceF (ev 0) p_none (p_some e_int)) (a_cons e_int (a_cons e_int (a_cons e_int a_nil)))))))
abbrev s__law_draw : PySem.Stmt := top 11
abbrev N__law_draw : List PySem.Str := [("_law_feed_here" : PySem.Str), ("_law_many" : PySem.Str), ("_law_found" : PySem.Str), ("_law_cell" : PySem.Str), ("_law_mixed" : PySem.Str)]
theorem sc__law_draw : FnScope N__law_draw [("_law_feed_here" : PySem.Str), ("_law_many" : PySem.Str)] (defScope s__law_draw) := ⟨rfl, rfl, rfl, by decide +kernel, rfl, by decide +kernel, by decide +kernel⟩
def r__law_draw : XK3 → TS3 := fun E =>
  (wSeq (wAsg (wOp oAddF (wOp oIx (wVar 0) (wC (.int 3))) (wC (.int 1))) (wgSub (wVar 0) (wC (.int 3)) oPut))
  (wSeq (wIfS (wB (wOp oGt (wOp oIx (wVar 0) (wC (.int 2))) (wC (.int 0)))) (wSeq (wSet 2 (wOp oMd (wOp oIx (wVar 0) (wC (.int 2))) (wVar 1)))
  (wSeq (wAsg (wOp oFd (wOp oIx (wVar 0) (wC (.int 2))) (wVar 1)) (wgSub (wVar 0) (wC (.int 2)) oPut))
  (wRet (wVar 2)))) wNext)
  (wSeq (wSet 3 (wC (.int 17)))
  (wSeq (wIfS (wB (wOp (oEq true) (wOp oIx (wVar 0) (wC (.int 0))) (wLstF wNil))) (wSet 3 (wOp oIx (wOp oIx (wVar 0) (wC (.int 0))) (wOp oMd (wOp oIx (wVar 0) (wC (.int 1))) (wCB bLen (wCons (wOp oIx (wVar 0) (wC (.int 0))) wNil))))) wNext)
  (wSeq (wAsg (wOp oAddF (wOp oIx (wVar 0) (wC (.int 1))) (wC (.int 1))) (wgSub (wVar 0) (wC (.int 1)) oPut))
  (wSeq (wIfS (wAnd (wB (wOp oGe (wVar 3) (wOp oPw (wC (.int 10)) (wC (.int 18))))) (wB (wOp oLe (wOp oIx (wVar 0) (wC (.int 1))) (wCB bLen (wCons (wOp oIx (wVar 0) (wC (.int 0))) wNil))))) (wSeq (wAsg (wOp oFd (wVar 3) (wVar 1)) (wgSub (wVar 0) (wC (.int 2)) oPut))
  (wRet (wOp oMd (wVar 3) (wVar 1)))) wNext)
  (wSeq (wSet 4 (wOp oMd (wOp oPw (wOp oAddF (wOp oMd (wVar 3) (wC (.int 2147483629))) (wOp oMulF (wC (.int 104729)) (wOp oIx (wVar 0) (wC (.int 3))))) (wC (.int 5))) (wC (.int 2147483647))))
  (wSeq (wSet 4 (wOp oMd (wOp oPw (wOp oAddF (wOp oMulF (wVar 4) (wOp oAddF (wOp oMulF (wC (.int 2)) (wOp oIx (wVar 0) (wC (.int 3)))) (wC (.int 1)))) (wC (.int 7919))) (wC (.int 3))) (wC (.int 2147483587))))
  (wRet (wOp oMd (wOp oFd (wVar 4) (wC (.int 64))) (wVar 1)))))))))))
def sp__law_draw : Sp3 := spOf 2 5 r__law_draw
theorem ok__law_draw {f : Addr} {fd : FuncData} (hm : mg ("_law_draw" : PySem.Str) = some (.ref f)) (F : Fun K ("_law_draw" : PySem.Str) ("_law_draw" : PySem.Str) s__law_draw f fd) (bd : Binds K fd [("_law_feed_here" : PySem.Str), ("_law_many" : PySem.Str)] []) (z_len : mg ("len" : PySem.Str) = none) : Def3 P w K mg base (L2.CX P w) 1 ("_law_draw" : PySem.Str) sp__law_draw := by
  refine def_of (t := r__law_draw) hm F bd sc__law_draw ?_
  intro cdv A outer s H E bs E3 hG hr hE
  have hG : (A.deeper (envOfC ("_law_draw" : PySem.Str) (defScope s__law_draw) s.heap.objs.size f cdv)).guards = some [] := hG
  have hu := hr.units
  have hu2 := hu_more hr
  have nd := sc__law_draw.nd
  exact (ss_cons (s_asg (e_op o_addF (e_ix (ev 0) e_int) e_int) (g_sub (ev 0) e_int p_put))
     (ss_cons (s_if (t_cmp o_gt (e_ix (ev 0) e_int) e_int (nomark _)) (ss_cons (s_set (i := 2) nd rfl (by first | exact Or.inl rfl | exact Or.inr rfl) (e_op o_md (e_ix (ev 0) e_int) (ev 1)))
     (ss_cons (s_asg (e_op o_fd (e_ix (ev 0) e_int) (ev 1)) (g_sub (ev 0) e_int p_put))
     (ss_one (s_ret (ev 2))))) ss_nil)
     (ss_cons (s_set (i := 3) nd rfl (by first | exact Or.inl rfl | exact Or.inr rfl) e_int)
     (ss_cons (s_if (t_cmp (o_ne hu) (e_ix (ev 0) e_int) (e_lstF a_nil) (nomark _)) (ss_one (s_set (i := 3) nd rfl (by first | exact Or.inl rfl | exact Or.inr rfl) (e_ix (e_ix (ev 0) e_int) (e_op o_md (e_ix (ev 0) e_int) (e_callB c_len z_len (by decide +kernel) (a_cons (e_ix (ev 0) e_int) a_nil)))))) ss_nil)
     (ss_cons (s_asg (e_op o_addF (e_ix (ev 0) e_int) e_int) (g_sub (ev 0) e_int p_put))
     (ss_cons (s_if (PW3.pt (t_and (t_cmp o_ge (ev 3) (e_op o_pw e_int e_int) (nomark _)) (t_and1 (t_cmp o_le (e_ix (ev 0) e_int) (e_callB c_len z_len (by decide +kernel) (a_cons (e_ix (ev 0) e_int) a_nil)) (nomark _))))) (ss_cons (s_asg (e_op o_fd (ev 3) (ev 1)) (g_sub (ev 0) e_int p_put))
     (ss_one (s_ret (e_op o_md (ev 3) (ev 1))))) ss_nil)
     (ss_cons (s_set (i := 4) nd rfl (by first | exact Or.inl rfl | exact Or.inr rfl) (e_op o_md (e_op o_pw (e_op o_addF (e_op o_md (ev 3) e_int) (e_op o_mulF e_int (e_ix (ev 0) e_int))) e_int) e_int))
     (ss_cons (s_set (i := 4) nd rfl (by first | exact Or.inl rfl | exact Or.inr rfl) (e_op o_md (e_op o_pw (e_op o_addF (e_op o_mulF (ev 4) (e_op o_addF (e_op o_mulF e_int (e_ix (ev 0) e_int)) e_int)) e_int) e_int) e_int))
     (ss_one (s_ret (e_op o_md (e_op o_fd (ev 4) e_int) (ev 1))))))))))))
abbrev s__law_end : PySem.Stmt := top 12
abbrev N__law_end : List PySem.Str := [("_law_feed_here" : PySem.Str), ("_law_way" : PySem.Str), ("_law_gap" : PySem.Str)]
theorem sc__law_end : FnScope N__law_end [("_law_feed_here" : PySem.Str), ("_law_way" : PySem.Str), ("_law_gap" : PySem.Str)] (defScope s__law_end) := ⟨rfl, rfl, rfl, by decide +kernel, rfl, by decide +kernel, by decide +kernel⟩
def r__law_end (sp__law_draw : Sp3) : XK3 → TS3 := fun E =>
  (wSeq (wIfS (wB (wOp oLt (wCall sp__law_draw E (wCons (wVar 0) (wCons (wC (.int 5)) wNil))) (wC (.int 2)))) (wRet (wC .non)) wNext)
  (wSeq (wIfS (wB (wOp oLt (wVar 1) (wC (.int 4)))) (wRet (wCB bMax (wCons (wUn oNeg (wC (.int 12))) (wCons (wCB bMin (wCons (wC (.int 12)) (wCons (wOp oAddF (wVar 2) (wOp oIx (wLstF (wCons (wC (.int 0)) (wCons (wC (.int 0)) (wCons (wC (.int 1)) (wCons (wCall sp__law_draw E (wCons (wVar 0) (wCons (wC (.int 7)) wNil))) wNil))))) (wCall sp__law_draw E (wCons (wVar 0) (wCons (wC (.int 4)) wNil))))) wNil))) wNil)))) wNext)
  (wRet (wOp oIx (wLstF (wCons (wOp oSub (wCall sp__law_draw E (wCons (wVar 0) (wCons (wC (.int 25)) wNil))) (wC (.int 12))) (wCons (wOp oSub (wCall sp__law_draw E (wCons (wVar 0) (wCons (wC (.int 4)) wNil))) (wC (.int 1))) wNil))) (wOp oMd (wVar 1) (wC (.int 2)))))))
def sp__law_end : Sp3 := spOf 3 3 (r__law_end sp__law_draw)
theorem ok__law_end {f : Addr} {fd : FuncData} (hm : mg ("_law_end" : PySem.Str) = some (.ref f)) (F : Fun K ("_law_end" : PySem.Str) ("_law_end" : PySem.Str) s__law_end f fd) (bd : Binds K fd [("_law_feed_here" : PySem.Str), ("_law_way" : PySem.Str), ("_law_gap" : PySem.Str)] []) (z_max : mg ("max" : PySem.Str) = none) (z_min : mg ("min" : PySem.Str) = none) (d__law_draw : Def3 P w K mg base (L2.CX P w) 1 ("_law_draw" : PySem.Str) sp__law_draw) : Def3 P w K mg base (L2.CX P w) 2 ("_law_end" : PySem.Str) sp__law_end := by
  refine def_of (t := (r__law_end sp__law_draw)) hm F bd sc__law_end ?_
  intro cdv A outer s H E bs E3 hG hr hE
  have hG : (A.deeper (envOfC ("_law_end" : PySem.Str) (defScope s__law_end) s.heap.objs.size f cdv)).guards = some [] := hG
  have hu := hr.units
  have hu2 := hu_more hr
  have nd := sc__law_end.nd
  exact (ss_cons (s_if (t_cmp o_lt (e_call d__law_draw hG (hr.mono (by decide)) (passXE hE) (a_cons (ev 0) (a_cons e_int a_nil))) e_int (nomark _)) (ss_one (s_ret e_non)) ss_nil)
     (ss_cons (s_if (t_cmp o_lt (ev 1) e_int (nomark _)) (ss_one (s_ret (e_callB (c_max rfl) z_max (by decide +kernel) (a_cons (e_neg e_int) (a_cons (e_callB (c_min rfl) z_min (by decide +kernel) (a_cons e_int (a_cons (e_op o_addF (ev 2) (e_ix (e_lstF (a_cons e_int (a_cons e_int (a_cons e_int (a_cons (e_call d__law_draw hG (hr.mono (by decide)) (passXE hE) (a_cons (ev 0) (a_cons e_int a_nil))) a_nil))))) (e_call d__law_draw hG (hr.mono (by decide)) (passXE hE) (a_cons (ev 0) (a_cons e_int a_nil))))) a_nil))) a_nil))))) ss_nil)
     (ss_one (s_ret (e_ix (e_lstF (a_cons (e_op o_sub (e_call d__law_draw hG (hr.mono (by decide)) (passXE hE) (a_cons (ev 0) (a_cons e_int a_nil))) e_int) (a_cons (e_op o_sub (e_call d__law_draw hG (hr.mono (by decide)) (passXE hE) (a_cons (ev 0) (a_cons e_int a_nil))) e_int) a_nil))) (e_op o_md (ev 1) e_int))))))
abbrev s__law_table : PySem.Stmt := top 13
abbrev N__law_table : List PySem.Str := [("_law_feed_here" : PySem.Str), ("_law_many" : PySem.Str), ("_law_way" : PySem.Str), ("_law_values" : PySem.Str), ("_law_p" : PySem.Str), ("_law_rows" : PySem.Str), ("_law_row" : PySem.Str), ("_law_q" : PySem.Str)]
theorem sc__law_table : FnScope N__law_table [("_law_feed_here" : PySem.Str), ("_law_many" : PySem.Str)] (defScope s__law_table) := ⟨rfl, rfl, rfl, by decide +kernel, rfl, by decide +kernel, by decide +kernel⟩
def r__law_table (sp__law_draw : Sp3) (sp__law_end : Sp3) : XK3 → TS3 := fun E =>
  (wSeq (wSet 2 (wCall sp__law_draw E (wCons (wVar 0) (wCons (wC (.int 6)) wNil))))
  (wSeq (wSet 3 (wOp oAddF (wLcF (wRng1 (wCons (wOp oSub (wVar 1) (wC (.int 1))) wNil)) (wgName 4) wYes (wOp oSub (wCall sp__law_draw X0 (wCons (wVar 0) (wCons (wC (.int 9)) wNil))) (wC (.int 4))) [4]) (wLstF (wCons (wC (.int 0)) wNil))))
  (wSeq (wSet 5 (wLst wNil))
  (wSeq (wFor (wRng1 (wCons (wVar 1) wNil)) (wgName 4) (wSeq (wSet 6 (wLc (wRng1 (wCons (wVar 1) wNil)) (wgName 7) wYes (wCall sp__law_end X0 (wCons (wVar 0) (wCons (wVar 2) (wCons (wOp oSub (wOp oIx (wVar 3) (wVar 4)) (wOp oIx (wVar 3) (wVar 7))) wNil)))) [7]))
  (wSeq (wAsg (wOp oIx (wLstF (wCons (wC .non) (wCons (wC (.int 0)) (wCons (wC .non) (wCons (wC (.int 3)) (wCons (wC (.int 0)) (wCons (wC .non) (wCons (wC (.int 12)) (wCons (wOp oMulF (wUn oNeg (wC (.int 1))) (wCB bInt (wCons (wOp (oEq false) (wVar 2) (wC (.int 5))) wNil))) wNil))))))))) (wCall sp__law_draw E (wCons (wVar 0) (wCons (wC (.int 8)) wNil)))) (wgSub (wVar 6) (wVar 4) oPut))
  (wDrop (wBM oApp (wVar 5) (wCons (wCB bTuple (wCons (wVar 6) wNil)) wNil))))))
  (wRet (wCB bTuple (wCons (wVar 5) wNil)))))))
def sp__law_table : Sp3 := spOf 2 8 (r__law_table sp__law_draw sp__law_end)
theorem ok__law_table {f : Addr} {fd : FuncData} (hm : mg ("_law_table" : PySem.Str) = some (.ref f)) (F : Fun K ("_law_table" : PySem.Str) ("_law_table" : PySem.Str) s__law_table f fd) (bd : Binds K fd [("_law_feed_here" : PySem.Str), ("_law_many" : PySem.Str)] []) (z_int : mg ("int" : PySem.Str) = none) (z_range : mg ("range" : PySem.Str) = none) (z_tuple : mg ("tuple" : PySem.Str) = none) (d__law_draw : Def3 P w K mg base (L2.CX P w) 1 ("_law_draw" : PySem.Str) sp__law_draw) (d__law_end : Def3 P w K mg base (L2.CX P w) 2 ("_law_end" : PySem.Str) sp__law_end) : Def3 P w K mg base (L2.CX P w) 3 ("_law_table" : PySem.Str) sp__law_table := by
  refine def_of (t := (r__law_table sp__law_draw sp__law_end)) hm F bd sc__law_table ?_
  intro cdv A outer s H E bs E3 hG hr hE
  have hG : (A.deeper (envOfC ("_law_table" : PySem.Str) (defScope s__law_table) s.heap.objs.size f cdv)).guards = some [] := hG
  have hu := hr.units
  have hu2 := hu_more hr
  have nd := sc__law_table.nd
  exact (ss_cons (s_set (i := 2) nd rfl (by first | exact Or.inl rfl | exact Or.inr rfl) (e_call d__law_draw hG (hr.mono (by decide)) (passXE hE) (a_cons (ev 0) (a_cons e_int a_nil))))
     (ss_cons (s_set (i := 3) nd rfl (by first | exact Or.inl rfl | exact Or.inr rfl) (e_op o_addF (e_lcF (own := [(("_law_p" : PySem.Str), 4)]) (by decide) rfl nd (w_rng1 z_range (a_cons (e_op o_sub (ev 1) e_int) a_nil)) (blkOk_by (N := N__law_table) (sc := defScope s__law_table) (by decide +kernel)) (fun _ _ _ _ _ => (g_name (i := 4) nd rfl (by first | exact Or.inl rfl | exact Or.inr rfl))) (fun _ _ _ _ _ => ts_nil) (fun _ _ _ _ _ => (e_op o_sub (e_call d__law_draw hG (hr.mono (by decide)) passX1 (a_cons (ev 0) (a_cons e_int a_nil))) e_int))) (e_lstF (a_cons e_int a_nil))))
     (ss_cons (s_set (i := 5) nd rfl (by first | exact Or.inl rfl | exact Or.inr rfl) (e_lst a_nil))
     (ss_cons (s_for (passes_of rfl) rfl (w_rng1 z_range (a_cons (ev 1) a_nil)) (g_name (i := 4) nd rfl (by first | exact Or.inl rfl | exact Or.inr rfl)) (ss_cons (s_setLc (i := 6) (own := [(("_law_q" : PySem.Str), 7)]) (by decide) rfl nd rfl rfl (sw_true rfl rfl rfl (by decide +kernel)) (w_rng1 z_range (a_cons (ev 1) a_nil)) (blkOk_by (N := N__law_table) (sc := defScope s__law_table) (by decide +kernel)) (fun _ _ _ _ _ => (g_name (i := 7) nd rfl (by first | exact Or.inl rfl | exact Or.inr rfl))) (fun _ _ _ _ _ => ts_nil) (fun _ _ _ _ _ => (e_call d__law_end hG (hr.mono (by decide)) passX1 (a_cons (ev 0) (a_cons (ev 2) (a_cons (e_op o_sub (e_ix (ev 3) (ev 4)) (e_ix (ev 3) (ev 7))) a_nil))))))
     (ss_cons (s_asg (e_ix (e_lstF (a_cons e_non (a_cons e_int (a_cons e_non (a_cons e_int (a_cons e_int (a_cons e_non (a_cons e_int (a_cons (e_op o_mulF (e_neg e_int) (e_callTy c_int z_int (by decide +kernel) (a_cons (e_cmp (o_eq hu) (ev 2) e_int (nomark _)) a_nil))) a_nil))))))))) (e_call d__law_draw hG (hr.mono (by decide)) (passXE hE) (a_cons (ev 0) (a_cons e_int a_nil)))) (g_sub (ev 6) (ev 4) p_put))
     (ss_one (s_expr (e_append (ev 5) (e_callTy c_tuple z_tuple (by decide +kernel) (a_cons (ev 6) a_nil))))))))
     (ss_one (s_ret (e_callTy c_tuple z_tuple (by decide +kernel) (a_cons (ev 5) a_nil))))))))
abbrev s__law_least : PySem.Stmt := top 14
abbrev N__law_least : List PySem.Str := [("_law_table_here" : PySem.Str), ("_law_p" : PySem.Str), ("_law_sums" : PySem.Str), ("_law_edges" : PySem.Str), ("_law_q" : PySem.Str), ("_law_r" : PySem.Str), ("_law_turn" : PySem.Str), ("_law_stood" : PySem.Str), ("_law_end_here" : PySem.Str)]
theorem sc__law_least : FnScope N__law_least [("_law_table_here" : PySem.Str), ("_law_p" : PySem.Str)] (defScope s__law_least) := ⟨rfl, rfl, rfl, by decide +kernel, rfl, by decide +kernel, by decide +kernel⟩
def r__law_least : XK3 → TS3 := fun E =>
  (wSeq (wSet 2 (wRep (wC .non) (wCB bLen (wCons (wVar 0) wNil))))
  (wSeq (wAsg (wC (.int 0)) (wgSub (wVar 2) (wVar 1) oPut))
  (wSeq (wSet 3 (wLst wNil))
  (wSeq (wFor (wRng1 (wCons (wCB bLen (wCons (wVar 0) wNil)) wNil)) (wgName 4) (wDrop (wBM oExtF (wVar 3) (wCons (wLcF (wRng1 (wCons (wCB bLen (wCons (wVar 0) wNil)) wNil)) (wgName 5) (wB (wOp (oIsN true) (wOp oIx (wOp oIx (wVar 0) (wVar 4)) (wVar 5)) (wC .non))) (wTup (wCons (wVar 4) (wCons (wVar 5) (wCons (wOp oIx (wOp oIx (wVar 0) (wVar 4)) (wVar 5)) wNil)))) [5]) wNil))))
  (wSeq (wFor (wRng1 (wCons (wOp oAddF (wCB bLen (wCons (wVar 0) wNil)) (wC (.int 1))) wNil)) (wgName 6) (wSeq (wSet 7 (wCB bListF (wCons (wVar 2) wNil)))
  (wSeq (wFor (wItems (wVar 3)) (wgTupN 3 (wgCons (wgName 4) (wgCons (wgName 5) (wgCons (wgName 8) wgNil)))) (wIfS (wAnd (wB (wOp (oIsN true) (wOp oIx (wVar 2) (wVar 4)) (wC .non))) (wOr (wB (wOp (oIsN false) (wOp oIx (wVar 2) (wVar 5)) (wC .non))) (wB (wOp oLt (wOp oAddF (wOp oIx (wVar 2) (wVar 4)) (wVar 8)) (wOp oIx (wVar 2) (wVar 5)))))) (wAsg (wOp oAddF (wOp oIx (wVar 2) (wVar 4)) (wVar 8)) (wgSub (wVar 2) (wVar 5) oPut)) wNext))
  (wIfS (wB (wOp (oEq false) (wVar 2) (wVar 7))) (wRet (wCB bTuple (wCons (wVar 2) wNil))) wNext))))
  (wRet (wC .non)))))))
def sp__law_least : Sp3 := spOf 2 9 r__law_least
theorem ok__law_least {f : Addr} {fd : FuncData} (hm : mg ("_law_least" : PySem.Str) = some (.ref f)) (F : Fun K ("_law_least" : PySem.Str) ("_law_least" : PySem.Str) s__law_least f fd) (bd : Binds K fd [("_law_table_here" : PySem.Str), ("_law_p" : PySem.Str)] []) (z_len : mg ("len" : PySem.Str) = none) (z_list : mg ("list" : PySem.Str) = none) (z_range : mg ("range" : PySem.Str) = none) (z_tuple : mg ("tuple" : PySem.Str) = none) : Def3 P w K mg base (L2.CX P w) 1 ("_law_least" : PySem.Str) sp__law_least := by
  refine def_of (t := r__law_least) hm F bd sc__law_least ?_
  intro cdv A outer s H E bs E3 hG hr hE
  have hG : (A.deeper (envOfC ("_law_least" : PySem.Str) (defScope s__law_least) s.heap.objs.size f cdv)).guards = some [] := hG
  have hu := hr.units
  have hu2 := hu_more hr
  have nd := sc__law_least.nd
  exact (ss_cons (s_set (i := 2) nd rfl (by first | exact Or.inl rfl | exact Or.inr rfl) (e_rep e_non (e_callB c_len z_len (by decide +kernel) (a_cons (ev 0) a_nil))))
     (ss_cons (s_asg e_int (g_sub (ev 2) (ev 1) p_put))
     (ss_cons (s_set (i := 3) nd rfl (by first | exact Or.inl rfl | exact Or.inr rfl) (e_lst a_nil))
     (ss_cons (s_for (passes_of rfl) rfl (w_rng1 z_range (a_cons (e_callB c_len z_len (by decide +kernel) (a_cons (ev 0) a_nil)) a_nil)) (g_name (i := 4) nd rfl (by first | exact Or.inl rfl | exact Or.inr rfl)) (ss_one (s_expr (e_extendF (ev 3) (e_lcF (own := [(("_law_r" : PySem.Str), 5)]) (by decide) rfl nd (w_rng1 z_range (a_cons (e_callB c_len z_len (by decide +kernel) (a_cons (ev 0) a_nil)) a_nil)) (blkOk_by (N := N__law_least) (sc := defScope s__law_least) (by decide +kernel)) (fun _ _ _ _ _ => (g_name (i := 5) nd rfl (by first | exact Or.inl rfl | exact Or.inr rfl))) (fun _ _ _ _ _ => (ts_one (t_cmp o_isnot (e_ix (e_ix (ev 0) (ev 4)) (ev 5)) e_non (nomark _)))) (fun _ _ _ _ _ => (e_tup (a_cons (ev 4) (a_cons (ev 5) (a_cons (e_ix (e_ix (ev 0) (ev 4)) (ev 5)) a_nil))))))))))
     (ss_cons (s_for (passes_of rfl) rfl (w_rng1 z_range (a_cons (e_op o_addF (e_callB c_len z_len (by decide +kernel) (a_cons (ev 0) a_nil)) e_int) a_nil)) (g_name (i := 6) nd rfl (by first | exact Or.inl rfl | exact Or.inr rfl)) (ss_cons (s_set (i := 7) nd rfl (by first | exact Or.inl rfl | exact Or.inr rfl) (e_callTy c_listF z_list (by decide +kernel) (a_cons (ev 2) a_nil)))
     (ss_cons (s_for (passes_of rfl) rfl (w_seq (ev 3)) (g_tupN rfl (gs_cons (g_name (i := 4) nd rfl (by first | exact Or.inl rfl | exact Or.inr rfl)) (gs_cons (g_name (i := 5) nd rfl (by first | exact Or.inl rfl | exact Or.inr rfl)) (gs_cons (g_name (i := 8) nd rfl (by first | exact Or.inl rfl | exact Or.inr rfl)) gs_nil)))) (ss_one (s_if (PW3.pt (t_and (t_cmp o_isnot (e_ix (ev 2) (ev 4)) e_non (nomark _)) (t_and1 (PW3.pt (t_or (t_cmp o_is (e_ix (ev 2) (ev 5)) e_non (nomark _)) (t_or1 (t_cmp o_lt (e_op o_addF (e_ix (ev 2) (ev 4)) (ev 8)) (e_ix (ev 2) (ev 5)) (nomark _)))))))) (ss_one (s_asg (e_op o_addF (e_ix (ev 2) (ev 4)) (ev 8)) (g_sub (ev 2) (ev 5) p_put))) ss_nil)))
     (ss_one (s_if (t_cmp (o_eq hu) (ev 2) (ev 7) (nomark _)) (ss_one (s_ret (e_callTy c_tuple z_tuple (by decide +kernel) (a_cons (ev 2) a_nil)))) ss_nil)))))
     (ss_one (s_ret e_non)))))))
abbrev s__law_closed : PySem.Stmt := top 15
abbrev N__law_closed : List PySem.Str := [("_law_table_here" : PySem.Str), ("_law_rows" : PySem.Str), ("_law_p" : PySem.Str)]
theorem sc__law_closed : FnScope N__law_closed [("_law_table_here" : PySem.Str)] (defScope s__law_closed) := ⟨rfl, rfl, rfl, by decide +kernel, rfl, by decide +kernel, by decide +kernel⟩
def r__law_closed (sp__law_least : Sp3) : XK3 → TS3 := fun E =>
  (wSeq (wSet 1 (wLcF (wRng1 (wCons (wCB bLen (wCons (wVar 0) wNil)) wNil)) (wgName 2) wYes (wCallP sp__law_least X0 (wCons (wVar 0) (wCons (wVar 2) wNil))) [2]))
  (wRet (wIf (wB (wOp (oInD false) (wC .non) (wVar 1))) (wTup wNil) (wCB bTuple (wCons (wVar 1) wNil)))))
def sp__law_closed : Sp3 := spOf 1 3 (r__law_closed sp__law_least)
theorem ok__law_closed {f : Addr} {fd : FuncData} (hm : mg ("_law_closed" : PySem.Str) = some (.ref f)) (F : Fun K ("_law_closed" : PySem.Str) ("_law_closed" : PySem.Str) s__law_closed f fd) (bd : Binds K fd [("_law_table_here" : PySem.Str)] []) (z_len : mg ("len" : PySem.Str) = none) (z_range : mg ("range" : PySem.Str) = none) (z_tuple : mg ("tuple" : PySem.Str) = none) (d__law_least : Def3 P w K mg base (L2.CX P w) 1 ("_law_least" : PySem.Str) sp__law_least) : Def3 P w K mg base (L2.CX P w) 2 ("_law_closed" : PySem.Str) sp__law_closed := by
  refine def_of (t := (r__law_closed sp__law_least)) hm F bd sc__law_closed ?_
  intro cdv A outer s H E bs E3 hG hr hE
  have hG : (A.deeper (envOfC ("_law_closed" : PySem.Str) (defScope s__law_closed) s.heap.objs.size f cdv)).guards = some [] := hG
  have hu := hr.units
  have hu2 := hu_more hr
  have nd := sc__law_closed.nd
  exact (ss_cons (s_setLcF (i := 1) (own := [(("_law_p" : PySem.Str), 2)]) (by decide) rfl nd rfl rfl (sw_true rfl rfl rfl (by decide +kernel)) (w_rng1 z_range (a_cons (e_callB c_len z_len (by decide +kernel) (a_cons (ev 0) a_nil)) a_nil)) (blkOk_by (N := N__law_closed) (sc := defScope s__law_closed) (by decide +kernel)) (fun _ _ _ _ _ => (g_name (i := 2) nd rfl (by first | exact Or.inl rfl | exact Or.inr rfl))) (fun _ _ _ _ _ => ts_nil) (fun _ _ _ _ _ => (e_callP d__law_least hG (hr.mono (by decide)) passX1 (a_cons (ev 0) (a_cons (ev 2) a_nil)))))
     (ss_one (s_ret (e_if (t_cmp (o_inD' hu2) e_non (ev 1) rfl) (e_tup a_nil) (e_callTy c_tuple z_tuple (by decide +kernel) (a_cons (ev 1) a_nil))))))
abbrev s__law_least_ends : PySem.Stmt := top 16
abbrev N__law_least_ends : List PySem.Str := [("_law_one" : PySem.Str), ("_law_other" : PySem.Str), ("_law_rows" : PySem.Str), ("_law_row" : PySem.Str), ("_law_more" : PySem.Str), ("_law_some" : PySem.Str), ("_law_pair" : PySem.Str), ("_law_end_here" : PySem.Str)]
theorem sc__law_least_ends : FnScope N__law_least_ends [("_law_one" : PySem.Str), ("_law_other" : PySem.Str)] (defScope s__law_least_ends) := ⟨rfl, rfl, rfl, by decide +kernel, rfl, by decide +kernel, by decide +kernel⟩
def r__law_least_ends : XK3 → TS3 := fun E =>
  (wSeq (wIfS (wOr (wB (wOp (oEq false) (wVar 0) (wTup wNil))) (wB (wOp (oEq false) (wVar 1) (wTup wNil)))) (wRet (wTup wNil)) wNext)
  (wSeq (wSet 2 (wLst wNil))
  (wSeq (wFor (wZipF (wCons (wVar 0) (wCons (wVar 1) wNil))) (wgTupN 2 (wgCons (wgName 3) (wgCons (wgName 4) wgNil))) (wSeq (wSet 5 (wLcF (wZipN (wCons (wVar 3) (wCons (wVar 4) wNil))) (wgName 6) wYes (wLcF (wItems (wVar 6)) (wgName 7) (wB (wOp (oIsN true) (wVar 7) (wC .non))) (wVar 7) [7]) [6]))
  (wDrop (wBM oApp (wVar 2) (wCons (wCB bTuple (wCons (wLcF (wItems (wVar 5)) (wgName 6) wYes (wIf (wB (wOp (oEq true) (wVar 6) (wLstF wNil))) (wCB bMinG (wCons (wVar 6) wNil)) (wC .non)) [6]) wNil)) wNil)))))
  (wRet (wCB bTuple (wCons (wVar 2) wNil))))))
def sp__law_least_ends : Sp3 := spOf 2 8 r__law_least_ends
theorem ok__law_least_ends {f : Addr} {fd : FuncData} (hm : mg ("_law_least_ends" : PySem.Str) = some (.ref f)) (F : Fun K ("_law_least_ends" : PySem.Str) ("_law_least_ends" : PySem.Str) s__law_least_ends f fd) (bd : Binds K fd [("_law_one" : PySem.Str), ("_law_other" : PySem.Str)] []) (z_min : mg ("min" : PySem.Str) = none) (z_tuple : mg ("tuple" : PySem.Str) = none) (z_zip : mg ("zip" : PySem.Str) = none) : Def3 P w K mg base (L2.CX P w) 1 ("_law_least_ends" : PySem.Str) sp__law_least_ends := by
  refine def_of (t := r__law_least_ends) hm F bd sc__law_least_ends ?_
  intro cdv A outer s H E bs E3 hG hr hE
  have hG : (A.deeper (envOfC ("_law_least_ends" : PySem.Str) (defScope s__law_least_ends) s.heap.objs.size f cdv)).guards = some [] := hG
  have hu := hr.units
  have hu2 := hu_more hr
  have nd := sc__law_least_ends.nd
  exact (ss_cons (s_if (PW3.pt (t_or (t_cmp (o_eq hu) (ev 0) (e_tup a_nil) (nomark _)) (t_or1 (t_cmp (o_eq hu) (ev 1) (e_tup a_nil) (nomark _))))) (ss_one (s_ret (e_tup a_nil))) ss_nil)
     (ss_cons (s_set (i := 2) nd rfl (by first | exact Or.inl rfl | exact Or.inr rfl) (e_lst a_nil))
     (ss_cons (s_for (passes_of rfl) rfl (w_zipG z_zip (a_cons (ev 0) (a_cons (ev 1) a_nil))) (g_tupN rfl (gs_cons (g_name (i := 3) nd rfl (by first | exact Or.inl rfl | exact Or.inr rfl)) (gs_cons (g_name (i := 4) nd rfl (by first | exact Or.inl rfl | exact Or.inr rfl)) gs_nil))) (ss_cons (s_setLcF (i := 5) (own := [(("_law_pair" : PySem.Str), 6)]) (by decide) rfl nd rfl rfl (sw_true rfl rfl rfl (by decide +kernel)) (w_zipN z_zip (a_cons (ev 3) (a_cons (ev 4) a_nil))) (blkOk_by (N := N__law_least_ends) (sc := defScope s__law_least_ends) (by decide +kernel)) (fun _ _ _ _ _ => (g_name (i := 6) nd rfl (by first | exact Or.inl rfl | exact Or.inr rfl))) (fun _ _ _ _ _ => ts_nil) (fun _ _ _ _ _ => (e_lcF (own := [(("_law_end_here" : PySem.Str), 7)]) (by decide) rfl nd (w_seq (ev 6)) (blkOk_by (N := N__law_least_ends) (by rfl)) (fun _ _ _ _ _ => (g_name (i := 7) nd rfl (by first | exact Or.inl rfl | exact Or.inr rfl))) (fun _ _ _ _ _ => (ts_one (t_cmp o_isnot (ev 7) e_non (nomark _)))) (fun _ _ _ _ _ => (ev 7)))))
     (ss_one (s_expr (e_append (ev 2) (e_callTy c_tuple z_tuple (by decide +kernel) (a_cons (e_lcF (own := [(("_law_pair" : PySem.Str), 6)]) (by decide) rfl nd (w_seq (ev 5)) (blkOk_by (N := N__law_least_ends) (sc := defScope s__law_least_ends) (by decide +kernel)) (fun _ _ _ _ _ => (g_name (i := 6) nd rfl (by first | exact Or.inl rfl | exact Or.inr rfl))) (fun _ _ _ _ _ => ts_nil) (fun _ _ _ _ _ => (e_if (t_cmp (o_ne hu) (ev 6) (e_lstF a_nil) (nomark _)) (e_callB (c_minG rfl hu) z_min (by decide +kernel) (a_cons (ev 6) a_nil)) e_non))) a_nil)))))))
     (ss_one (s_ret (e_callTy c_tuple z_tuple (by decide +kernel) (a_cons (ev 2) a_nil)))))))
abbrev s__law_greatest_ends : PySem.Stmt := top 17
abbrev N__law_greatest_ends : List PySem.Str := [("_law_one" : PySem.Str), ("_law_other" : PySem.Str), ("_law_rows" : PySem.Str), ("_law_row" : PySem.Str), ("_law_more" : PySem.Str), ("_law_pair" : PySem.Str)]
theorem sc__law_greatest_ends : FnScope N__law_greatest_ends [("_law_one" : PySem.Str), ("_law_other" : PySem.Str)] (defScope s__law_greatest_ends) := ⟨rfl, rfl, rfl, by decide +kernel, rfl, by decide +kernel, by decide +kernel⟩
def r__law_greatest_ends : XK3 → TS3 := fun E =>
  (wSeq (wIfS (wOr (wB (wOp (oEq false) (wVar 0) (wTup wNil))) (wB (wOp (oEq false) (wVar 1) (wTup wNil)))) (wRet (wIf (wB (wOp (oEq false) (wVar 0) (wTup wNil))) (wVar 1) (wVar 0))) wNext)
  (wSeq (wSet 2 (wLst wNil))
  (wSeq (wFor (wZipF (wCons (wVar 0) (wCons (wVar 1) wNil))) (wgTupN 2 (wgCons (wgName 3) (wgCons (wgName 4) wgNil))) (wDrop (wBM oApp (wVar 2) (wCons (wCB bTuple (wCons (wLcF (wZipN (wCons (wVar 3) (wCons (wVar 4) wNil))) (wgName 5) wYes (wIf (wB (wOp (oInD false) (wC .non) (wVar 5))) (wC .non) (wCB bMaxG (wCons (wVar 5) wNil))) [5]) wNil)) wNil))))
  (wRet (wCB bTuple (wCons (wVar 2) wNil))))))
def sp__law_greatest_ends : Sp3 := spOf 2 6 r__law_greatest_ends
theorem ok__law_greatest_ends {f : Addr} {fd : FuncData} (hm : mg ("_law_greatest_ends" : PySem.Str) = some (.ref f)) (F : Fun K ("_law_greatest_ends" : PySem.Str) ("_law_greatest_ends" : PySem.Str) s__law_greatest_ends f fd) (bd : Binds K fd [("_law_one" : PySem.Str), ("_law_other" : PySem.Str)] []) (z_max : mg ("max" : PySem.Str) = none) (z_tuple : mg ("tuple" : PySem.Str) = none) (z_zip : mg ("zip" : PySem.Str) = none) : Def3 P w K mg base (L2.CX P w) 1 ("_law_greatest_ends" : PySem.Str) sp__law_greatest_ends := by
  refine def_of (t := r__law_greatest_ends) hm F bd sc__law_greatest_ends ?_
  intro cdv A outer s H E bs E3 hG hr hE
  have hG : (A.deeper (envOfC ("_law_greatest_ends" : PySem.Str) (defScope s__law_greatest_ends) s.heap.objs.size f cdv)).guards = some [] := hG
  have hu := hr.units
  have hu2 := hu_more hr
  have nd := sc__law_greatest_ends.nd
  exact (ss_cons (s_if (PW3.pt (t_or (t_cmp (o_eq hu) (ev 0) (e_tup a_nil) (nomark _)) (t_or1 (t_cmp (o_eq hu) (ev 1) (e_tup a_nil) (nomark _))))) (ss_one (s_ret (e_if (t_cmp (o_eq hu) (ev 0) (e_tup a_nil) (nomark _)) (ev 1) (ev 0)))) ss_nil)
     (ss_cons (s_set (i := 2) nd rfl (by first | exact Or.inl rfl | exact Or.inr rfl) (e_lst a_nil))
     (ss_cons (s_for (passes_of rfl) rfl (w_zipG z_zip (a_cons (ev 0) (a_cons (ev 1) a_nil))) (g_tupN rfl (gs_cons (g_name (i := 3) nd rfl (by first | exact Or.inl rfl | exact Or.inr rfl)) (gs_cons (g_name (i := 4) nd rfl (by first | exact Or.inl rfl | exact Or.inr rfl)) gs_nil))) (ss_one (s_expr (e_append (ev 2) (e_callTy c_tuple z_tuple (by decide +kernel) (a_cons (e_lcF (own := [(("_law_pair" : PySem.Str), 5)]) (by decide) rfl nd (w_zipN z_zip (a_cons (ev 3) (a_cons (ev 4) a_nil))) (blkOk_by (N := N__law_greatest_ends) (sc := defScope s__law_greatest_ends) (by decide +kernel)) (fun _ _ _ _ _ => (g_name (i := 5) nd rfl (by first | exact Or.inl rfl | exact Or.inr rfl))) (fun _ _ _ _ _ => ts_nil) (fun _ _ _ _ _ => (e_if (t_cmp (o_inD' hu2) e_non (ev 5) rfl) e_non (e_callB (c_maxG rfl hu) z_max (by decide +kernel) (a_cons (ev 5) a_nil))))) a_nil))))))
     (ss_one (s_ret (e_callTy c_tuple z_tuple (by decide +kernel) (a_cons (ev 2) a_nil)))))))
abbrev s__law_any : PySem.Stmt := top 18
abbrev N__law_any : List PySem.Str := [("_law_feed_here" : PySem.Str), ("_law_many" : PySem.Str), ("_law_way" : PySem.Str), ("_law_p" : PySem.Str)]
theorem sc__law_any : FnScope N__law_any [("_law_feed_here" : PySem.Str), ("_law_many" : PySem.Str)] (defScope s__law_any) := ⟨rfl, rfl, rfl, by decide +kernel, rfl, by decide +kernel, by decide +kernel⟩
def r__law_any (sp__law_draw : Sp3) (sp_closed : Sp3) (sp__law_table : Sp3) (sp_pinned : Sp3) : XK3 → TS3 := fun E =>
  (wSeq (wSet 2 (wCall sp__law_draw E (wCons (wVar 0) (wCons (wC (.int 6)) wNil))))
  (wSeq (wIfS (wB (wOp (oEq false) (wVar 2) (wC (.int 0)))) (wRet (wTup wNil)) wNext)
  (wSeq (wIfS (wB (wOp (oEq false) (wVar 2) (wC (.int 1)))) (wRet (wCallP sp_closed E (wCons (wCall sp__law_table E (wCons (wVar 0) (wCons (wVar 1) wNil))) wNil))) wNext)
  (wSeq (wIfS (wAnd (wB (wOp (oEq false) (wVar 2) (wC (.int 2)))) (wB (wChain oLt oLt (wC (.int 1)) (wVar 1) (wC (.int 5))))) (wRet (wCallP sp_pinned E (wCons (wCB bTuple (wCons (wLcF (wRng1 (wCons (wOp oSub (wVar 1) (wC (.int 1))) wNil)) (wgName 3) wYes (wOp oSub (wCall sp__law_draw X0 (wCons (wVar 0) (wCons (wOp oAddF (wOp oMulF (wC (.int 2)) (wOp oPw (wC (.int 10)) (wC (.int 20)))) (wC (.int 1))) wNil))) (wOp oPw (wC (.int 10)) (wC (.int 20)))) [3]) wNil)) wNil))) wNext)
  (wRet (wCall sp__law_table E (wCons (wVar 0) (wCons (wVar 1) wNil))))))))
def sp__law_any : Sp3 := spOf 2 4 (r__law_any sp__law_draw sp_closed sp__law_table sp_pinned)
theorem ok__law_any {f : Addr} {fd : FuncData} (hm : mg ("_law_any" : PySem.Str) = some (.ref f)) (F : Fun K ("_law_any" : PySem.Str) ("_law_any" : PySem.Str) s__law_any f fd) (bd : Binds K fd [("_law_feed_here" : PySem.Str), ("_law_many" : PySem.Str)] []) (z_range : mg ("range" : PySem.Str) = none) (z_tuple : mg ("tuple" : PySem.Str) = none) (d__law_draw : Def3 P w K mg base (L2.CX P w) 1 ("_law_draw" : PySem.Str) sp__law_draw) (d_closed : Def3 P w K mg base (L2.CX P w) 2 ("closed" : PySem.Str) sp_closed) (d__law_table : Def3 P w K mg base (L2.CX P w) 3 ("_law_table" : PySem.Str) sp__law_table) (d_pinned : Def3 P w K mg base (L2.CX P w) 1 ("pinned" : PySem.Str) sp_pinned) : Def3 P w K mg base (L2.CX P w) 4 ("_law_any" : PySem.Str) sp__law_any := by
  refine def_of (t := (r__law_any sp__law_draw sp_closed sp__law_table sp_pinned)) hm F bd sc__law_any ?_
  intro cdv A outer s H E bs E3 hG hr hE
  have hG : (A.deeper (envOfC ("_law_any" : PySem.Str) (defScope s__law_any) s.heap.objs.size f cdv)).guards = some [] := hG
  have hu := hr.units
  have hu2 := hu_more hr
  have nd := sc__law_any.nd
  exact (ss_cons (s_set (i := 2) nd rfl (by first | exact Or.inl rfl | exact Or.inr rfl) (e_call d__law_draw hG (hr.mono (by decide)) (passXE hE) (a_cons (ev 0) (a_cons e_int a_nil))))
     (ss_cons (s_if (t_cmp (o_eq hu) (ev 2) e_int (nomark _)) (ss_one (s_ret (e_tup a_nil))) ss_nil)
     (ss_cons (s_if (t_cmp (o_eq hu) (ev 2) e_int (nomark _)) (ss_one (s_ret (e_callP d_closed hG (hr.mono (by decide)) (passXE hE) (a_cons (e_call d__law_table hG (hr.mono (by decide)) (passXE hE) (a_cons (ev 0) (a_cons (ev 1) a_nil))) a_nil)))) ss_nil)
     (ss_cons (s_if (PW3.pt (t_and (t_cmp (o_eq hu) (ev 2) e_int (nomark _)) (t_and1 (t_chain o_lt o_lt e_int (ev 1) e_int)))) (ss_one (s_ret (e_callP d_pinned hG (hr.mono (by decide)) (passXE hE) (a_cons (e_callTy c_tuple z_tuple (by decide +kernel) (a_cons (e_lcF (own := [(("_law_p" : PySem.Str), 3)]) (by decide) rfl nd (w_rng1 z_range (a_cons (e_op o_sub (ev 1) e_int) a_nil)) (blkOk_by (N := N__law_any) (sc := defScope s__law_any) (by decide +kernel)) (fun _ _ _ _ _ => (g_name (i := 3) nd rfl (by first | exact Or.inl rfl | exact Or.inr rfl))) (fun _ _ _ _ _ => ts_nil) (fun _ _ _ _ _ => (e_op o_sub (e_call d__law_draw hG (hr.mono (by decide)) passX1 (a_cons (ev 0) (a_cons (e_op o_addF (e_op o_mulF e_int (e_op o_pw e_int e_int)) e_int) a_nil))) (e_op o_pw e_int e_int)))) a_nil)) a_nil)))) ss_nil)
     (ss_one (s_ret (e_call d__law_table hG (hr.mono (by decide)) (passXE hE) (a_cons (ev 0) (a_cons (ev 1) a_nil)))))))))
abbrev s_law : PySem.Stmt := top 19
abbrev N_law : List PySem.Str := [("_law_script" : PySem.Str), ("_law_feed_here" : PySem.Str), ("_law_turn" : PySem.Str), ("_law_many" : PySem.Str), ("_law_one" : PySem.Str), ("_law_other" : PySem.Str), ("_law_stood" : PySem.Str), ("_law_first" : PySem.Str), ("_law_second" : PySem.Str), ("_law_due" : PySem.Str)]
theorem sc_law : FnScope N_law [("_law_script" : PySem.Str)] (defScope s_law) := ⟨rfl, rfl, rfl, by decide +kernel, rfl, by decide +kernel, by decide +kernel⟩
def r_law (sp__law_feed : Sp3) (sp__law_draw : Sp3) (sp__law_any : Sp3) (sp_both : Sp3) (sp__law_closed : Sp3) (sp__law_least_ends : Sp3) (sp__law_greatest_ends : Sp3) (sp_around : Sp3) : XK3 → TS3 := fun E =>
  (wSeq (wSet 1 (wCall sp__law_feed E (wCons (wVar 0) wNil)))
  (wSeq (wFor (wRng1 (wCons (wCB bMax (wCons (wC (.int 3)) (wCons (wCB bMin (wCons (wCB bLen (wCons (wVar 0) wNil)) (wCons (wC (.int 8)) wNil))) wNil))) wNil)) (wgName 2) (wSeq (wSet 3 (wOp oAddF (wC (.int 1)) (wCall sp__law_draw E (wCons (wVar 1) (wCons (wC (.int 7)) wNil)))))
  (wSeq (wPar 4 5 (wCons (wCall sp__law_any E (wCons (wVar 1) (wCons (wVar 3) wNil))) (wCons (wCall sp__law_any E (wCons (wVar 1) (wCons (wVar 3) wNil))) wNil)))
  (wSeq (wSet 6 (wCB bRepr (wCons (wTup (wCons (wVar 4) (wCons (wVar 5) wNil))) wNil)))
  (wSeq (wFor (wItems (wTup (wCons (wTup (wCons (wVar 4) (wCons (wVar 5) wNil))) (wCons (wTup (wCons (wVar 5) (wCons (wVar 4) wNil))) (wCons (wTup (wCons (wVar 4) (wCons (wVar 4) wNil))) wNil))))) (wgTupN 2 (wgCons (wgName 7) (wgCons (wgName 8) wgNil))) (wSeq (wIfS (wB (wOp (oEq true) (wCB bRepr (wCons (wCallP sp_both E (wCons (wVar 7) (wCons (wVar 8) wNil))) wNil)) (wCB bRepr (wCons (wCallP sp__law_closed E (wCons (wCallP sp__law_least_ends E (wCons (wVar 7) (wCons (wVar 8) wNil))) wNil)) wNil)))) (wRet (wC (.bl false))) wNext)
  (wSeq (wSet 9 (wCallP sp__law_greatest_ends E (wCons (wCallP sp__law_closed E (wCons (wVar 7) wNil)) (wCons (wCallP sp__law_closed E (wCons (wVar 8) wNil)) wNil))))
  (wIfS (wB (wOp (oEq true) (wCB bRepr (wCons (wCallP sp_around E (wCons (wVar 7) (wCons (wVar 8) wNil))) wNil)) (wCB bRepr (wCons (wVar 9) wNil)))) (wRet (wC (.bl false))) wNext))))
  (wIfS (wB (wOp (oEq true) (wCB bRepr (wCons (wTup (wCons (wVar 4) (wCons (wVar 5) wNil))) wNil)) (wVar 6))) (wRet (wC (.bl false))) wNext))))))
  (wRet (wC (.bl true)))))
def sp_law : Sp3 := spOf 1 10 (r_law sp__law_feed sp__law_draw sp__law_any sp_both sp__law_closed sp__law_least_ends sp__law_greatest_ends sp_around)
theorem ok_law {f : Addr} {fd : FuncData} (F : Fun K ("law" : PySem.Str) ("law" : PySem.Str) s_law f fd) (z_len : mg ("len" : PySem.Str) = none) (z_max : mg ("max" : PySem.Str) = none) (z_min : mg ("min" : PySem.Str) = none) (z_range : mg ("range" : PySem.Str) = none) (z_repr : mg ("repr" : PySem.Str) = none) (d__law_feed : Def3 P w K mg base (L2.CX P w) 1 ("_law_feed" : PySem.Str) sp__law_feed) (d__law_draw : Def3 P w K mg base (L2.CX P w) 1 ("_law_draw" : PySem.Str) sp__law_draw) (d__law_any : Def3 P w K mg base (L2.CX P w) 4 ("_law_any" : PySem.Str) sp__law_any) (d_both : Def3 P w K mg base (L2.CX P w) 3 ("both" : PySem.Str) sp_both) (d__law_closed : Def3 P w K mg base (L2.CX P w) 2 ("_law_closed" : PySem.Str) sp__law_closed) (d__law_least_ends : Def3 P w K mg base (L2.CX P w) 1 ("_law_least_ends" : PySem.Str) sp__law_least_ends) (d__law_greatest_ends : Def3 P w K mg base (L2.CX P w) 1 ("_law_greatest_ends" : PySem.Str) sp__law_greatest_ends) (d_around : Def3 P w K mg base (L2.CX P w) 3 ("around" : PySem.Str) sp_around) : FnG P w K mg base (L2.CX P w) 5 f fd [("_law_script" : PySem.Str)] (liftSp K sp_law) := by
  refine fng_of (t := (r_law sp__law_feed sp__law_draw sp__law_any sp_both sp__law_closed sp__law_least_ends sp__law_greatest_ends sp_around)) F sc_law ?_
  intro cdv A outer s H E bs E3 hG hr hE
  have hG : (A.deeper (envOfC ("law" : PySem.Str) (defScope s_law) s.heap.objs.size f cdv)).guards = some [] := hG
  have hu := hr.units
  have hu2 := hu_more hr
  have nd := sc_law.nd
  exact (ss_cons (s_set (i := 1) nd rfl (by first | exact Or.inl rfl | exact Or.inr rfl) (e_call d__law_feed hG (hr.mono (by decide)) (passXE hE) (a_cons (ev 0) a_nil)))
     (ss_cons (s_for (passes_of rfl) rfl (w_rng1 z_range (a_cons (e_callB (c_max rfl) z_max (by decide +kernel) (a_cons e_int (a_cons (e_callB (c_min rfl) z_min (by decide +kernel) (a_cons (e_callB c_len z_len (by decide +kernel) (a_cons (ev 0) a_nil)) (a_cons e_int a_nil))) a_nil))) a_nil)) (g_name (i := 2) nd rfl (by first | exact Or.inl rfl | exact Or.inr rfl)) (ss_cons (s_set (i := 3) nd rfl (by first | exact Or.inl rfl | exact Or.inr rfl) (e_op o_addF e_int (e_call d__law_draw hG (hr.mono (by decide)) (passXE hE) (a_cons (ev 1) (a_cons e_int a_nil)))))
     (ss_cons (s_par (i := 4) (j := 5) rfl nd rfl rfl (by decide) rfl rfl (a_cons (e_call d__law_any hG (hr.mono (by decide)) (passXE hE) (a_cons (ev 1) (a_cons (ev 3) a_nil))) (a_cons (e_call d__law_any hG (hr.mono (by decide)) (passXE hE) (a_cons (ev 1) (a_cons (ev 3) a_nil))) a_nil)) rfl)
     (ss_cons (s_set (i := 6) nd rfl (by first | exact Or.inl rfl | exact Or.inr rfl) (e_callB (c_repr hG hu2) z_repr (by decide +kernel) (a_cons (e_tup (a_cons (ev 4) (a_cons (ev 5) a_nil))) a_nil)))
     (ss_cons (s_for (passes_of rfl) rfl (w_seq (e_tup (a_cons (e_tup (a_cons (ev 4) (a_cons (ev 5) a_nil))) (a_cons (e_tup (a_cons (ev 5) (a_cons (ev 4) a_nil))) (a_cons (e_tup (a_cons (ev 4) (a_cons (ev 4) a_nil))) a_nil))))) (g_tupN rfl (gs_cons (g_name (i := 7) nd rfl (by first | exact Or.inl rfl | exact Or.inr rfl)) (gs_cons (g_name (i := 8) nd rfl (by first | exact Or.inl rfl | exact Or.inr rfl)) gs_nil))) (ss_cons (s_if (t_cmp (o_ne hu) (e_callB (c_repr hG hu2) z_repr (by decide +kernel) (a_cons (e_callP d_both hG (hr.mono (by decide)) (passXE hE) (a_cons (ev 7) (a_cons (ev 8) a_nil))) a_nil)) (e_callB (c_repr hG hu2) z_repr (by decide +kernel) (a_cons (e_callP d__law_closed hG (hr.mono (by decide)) (passXE hE) (a_cons (e_callP d__law_least_ends hG (hr.mono (by decide)) (passXE hE) (a_cons (ev 7) (a_cons (ev 8) a_nil))) a_nil)) a_nil)) (nomark _)) (ss_one (s_ret e_bl)) ss_nil)
     (ss_cons (s_set (i := 9) nd rfl (by first | exact Or.inl rfl | exact Or.inr rfl) (e_callP d__law_greatest_ends hG (hr.mono (by decide)) (passXE hE) (a_cons (e_callP d__law_closed hG (hr.mono (by decide)) (passXE hE) (a_cons (ev 7) a_nil)) (a_cons (e_callP d__law_closed hG (hr.mono (by decide)) (passXE hE) (a_cons (ev 8) a_nil)) a_nil))))
     (ss_one (s_if (t_cmp (o_ne hu) (e_callB (c_repr hG hu2) z_repr (by decide +kernel) (a_cons (e_callP d_around hG (hr.mono (by decide)) (passXE hE) (a_cons (ev 7) (a_cons (ev 8) a_nil))) a_nil)) (e_callB (c_repr hG hu2) z_repr (by decide +kernel) (a_cons (ev 9) a_nil)) (nomark _)) (ss_one (s_ret e_bl)) ss_nil)))))
     (ss_one (s_if (t_cmp (o_ne hu) (e_callB (c_repr hG hu2) z_repr (by decide +kernel) (a_cons (e_tup (a_cons (ev 4) (a_cons (ev 5) a_nil))) a_nil)) (ev 6) (nomark _)) (ss_one (s_ret e_bl)) ss_nil)))))))
     (ss_one (s_ret e_bl))))
end
end W
set_option Elab.async false
set_option linter.all false
set_option maxRecDepth 100000
set_option maxHeartbeats 4000000
namespace W
open PySem PySem.Spec PyProof.Rows L2 L3
theorem m_lesser : SLesser sp_lesser := L3.s_lesser
theorem m_joined : SJoined sp_joined := L3.s_joined
theorem m_closed : SClosed sp_closed := L3.s_closed m_lesser m_joined
theorem m_feed : SFeed7 sp__law_feed := L3.s_feed7
theorem m_draw : SDraw7 sp__law_draw := L3.s_draw7
theorem m_end : SEnd7 sp__law_end := L3.s_end7 m_draw
theorem m_table : STab7 sp__law_table := L3.s_tab7 m_draw m_end
theorem m_least : SLeast7 sp__law_least := L3.s_least7
theorem m_lclosed : SClosed100 sp__law_closed := L3.s_closed7 m_least
theorem cpow20 : CPow 10 20 := ⟨by decide, by decide, by decide⟩
/-- tables that are asked for here -/
def SAny (sp : Sp3) : Prop := ∀ (a : Addr) (b k : Nat) (M : Mp) (Q : VK3) (E : XK3), Fd b M a → b < 2 ^ 27 → 0 < k → k ≤ 7 → (∀ d M', Ct (10 ^ 40) k d → Fd (b + 300) M' a → Gr a M M' → Q d M') → sp [.ref a, .int k] M Q E
theorem m_any {s1 s2 s3 s4 : Sp3} (k1 : SDraw7 s1) (k2 : SClosed s2) (k3 : STab7 s3) (k4 : SPinned s4) : SAny (spOf 2 4 (r__law_any s1 s2 s3 s4)) := by
  refine fun a b k M Q E f hb hk hk1 q => ⟨rfl, ?_⟩
  have big : (1000000 : Nat) ≤ sizeLine := by decide
  show r__law_any s1 s2 s3 s4 E _ [some (.ref a), some (.int k), none, none] M
  unfold r__law_any
  rw [st_seq, st_set]
  simp only [ex_c, ex_var, ex_op, ex_un, ex_b, ex_and, ex_or, ex_not, ex_andV, ex_orV, ex_notV, ex_if, ex_chain, ex_nil, ex_cons, ex_tup, ex_lst, ex_call, ex_callP, ex_cb, ex_bm, ex_rep, ex_sl, ex_noPart, ex_part, ex_yes, it_items, it_rng1, it_rng2, tg_name, tg_sub, tg_tup, tg_cons, tg_nil, gs_0, gs_s, ss_0, ss_s, op_ii, op_ss, op_tt, op_mm, op_sb, op_ng, op_iNf, op_iNt, op_lle, op_ixT, op_ixR, op_ixL, op_putE, op_appE, it_tupE, it_rolE, it_refE, lstOf_l, exL, asS_some, asI_int, asB_bl, asL_some, asN_some, ite3_t, ite3_f, bl_1, bl_lenT, bl_lenR, bl_lenL, bl_lenS, bl_tuple, bl_list, bl_abs, bl_intI, bl_intB, bl_max, bl_min, op_eqSf, op_eqSt, op_eqIf, op_eqIt, op_eqTf, op_eqTt, op_eqRf, op_eqRt, op_eqNf, op_eqNt, eqD_int, eqD_nil, pl_int, pl_nil, pl_non, pl_rnil, pl_bl, sl_tupE, sl_rolE, keep_ref, keep_tup, keep_rol, tp_int, tp_tup, tp_rol, tp_str, tp_bl, tp_non, tp_ref, oFd, oMd, oPw, oShl, oLt, oLe, oGt, oGe, op_in, op_cp, wipe_nil, wipe_cons, mset_same, true_and, and_true, isN_int, ex_lstF, ex_repF, ex_lgF1, ex_lgF2, ex_tupRg1, ex_tupRg2, ex_frz, ex_slF, ex_slM, sl_tupF, sl_rolF, op_iiF, op_ssF, op_ttF, op_rrF, op_rrM, op_mmF, op_repF, li_rol, li_ref, bl_listF, bl_allF, bl_anyF, asT_some, asJ_some, op_eqBf, op_eqBt, isN_non, Bool.not_true, Bool.not_false, rep2]
  refine k1 _ b _ _ _ _ f (by omega) (by decide) (by decide) fun way M1 w0 w1 f1 o1 => ?_
  have last : ∀ x3, wRet (wCall s3 E (wCons (wVar 0) (wCons (wVar 1) wNil))) { nx := fun _ M' => Q .non M', rt := Q } [some (.ref a), some (.int k), some (.int way), x3] M1 := fun x3 => by
    rw [st_ret]
    simp only [ex_c, ex_var, ex_op, ex_un, ex_b, ex_and, ex_or, ex_not, ex_andV, ex_orV, ex_notV, ex_if, ex_chain, ex_nil, ex_cons, ex_tup, ex_lst, ex_call, ex_callP, ex_cb, ex_bm, ex_rep, ex_sl, ex_noPart, ex_part, ex_yes, it_items, it_rng1, it_rng2, tg_name, tg_sub, tg_tup, tg_cons, tg_nil, gs_0, gs_s, ss_0, ss_s, op_ii, op_ss, op_tt, op_mm, op_sb, op_ng, op_iNf, op_iNt, op_lle, op_ixT, op_ixR, op_ixL, op_putE, op_appE, it_tupE, it_rolE, it_refE, lstOf_l, exL, asS_some, asI_int, asB_bl, asL_some, asN_some, ite3_t, ite3_f, bl_1, bl_lenT, bl_lenR, bl_lenL, bl_lenS, bl_tuple, bl_list, bl_abs, bl_intI, bl_intB, bl_max, bl_min, op_eqSf, op_eqSt, op_eqIf, op_eqIt, op_eqTf, op_eqTt, op_eqRf, op_eqRt, op_eqNf, op_eqNt, eqD_int, eqD_nil, pl_int, pl_nil, pl_non, pl_rnil, pl_bl, sl_tupE, sl_rolE, keep_ref, keep_tup, keep_rol, tp_int, tp_tup, tp_rol, tp_str, tp_bl, tp_non, tp_ref, oFd, oMd, oPw, oShl, oLt, oLe, oGt, oGe, op_in, op_cp, wipe_nil, wipe_cons, mset_same, true_and, and_true, isN_int, ex_lstF, ex_repF, ex_lgF1, ex_lgF2, ex_tupRg1, ex_tupRg2, ex_frz, ex_slF, ex_slM, sl_tupF, sl_rolF, op_iiF, op_ssF, op_ttF, op_rrF, op_rrM, op_mmF, op_repF, li_rol, li_ref, bl_listF, bl_allF, bl_anyF, asT_some, asJ_some, op_eqBf, op_eqBt, isN_non, Bool.not_true, Bool.not_false, rep2]
    refine k3 _ (b + 1) k _ _ _ f1 (by omega) hk hk1 fun T M2 tT f2 g2 => q _ _ (ctT hk (by decide) (by decide) tT) (f2.mono (by omega)) (o1.gr.trans g2)
  try dsimp only
  rw [st_seq, st_if]
  simp only [ex_c, ex_var, ex_op, ex_un, ex_b, ex_and, ex_or, ex_not, ex_andV, ex_orV, ex_notV, ex_if, ex_chain, ex_nil, ex_cons, ex_tup, ex_lst, ex_call, ex_callP, ex_cb, ex_bm, ex_rep, ex_sl, ex_noPart, ex_part, ex_yes, it_items, it_rng1, it_rng2, tg_name, tg_sub, tg_tup, tg_cons, tg_nil, gs_0, gs_s, ss_0, ss_s, op_ii, op_ss, op_tt, op_mm, op_sb, op_ng, op_iNf, op_iNt, op_lle, op_ixT, op_ixR, op_ixL, op_putE, op_appE, it_tupE, it_rolE, it_refE, lstOf_l, exL, asS_some, asI_int, asB_bl, asL_some, asN_some, ite3_t, ite3_f, bl_1, bl_lenT, bl_lenR, bl_lenL, bl_lenS, bl_tuple, bl_list, bl_abs, bl_intI, bl_intB, bl_max, bl_min, op_eqSf, op_eqSt, op_eqIf, op_eqIt, op_eqTf, op_eqTt, op_eqRf, op_eqRt, op_eqNf, op_eqNt, eqD_int, eqD_nil, pl_int, pl_nil, pl_non, pl_rnil, pl_bl, sl_tupE, sl_rolE, keep_ref, keep_tup, keep_rol, tp_int, tp_tup, tp_rol, tp_str, tp_bl, tp_non, tp_ref, oFd, oMd, oPw, oShl, oLt, oLe, oGt, oGe, op_in, op_cp, wipe_nil, wipe_cons, mset_same, true_and, and_true, isN_int, ex_lstF, ex_repF, ex_lgF1, ex_lgF2, ex_tupRg1, ex_tupRg2, ex_frz, ex_slF, ex_slM, sl_tupF, sl_rolF, op_iiF, op_ssF, op_ttF, op_rrF, op_rrM, op_mmF, op_repF, li_rol, li_ref, bl_listF, bl_allF, bl_anyF, asT_some, asJ_some, op_eqBf, op_eqBt, isN_non, Bool.not_true, Bool.not_false, rep2, eqD_int, pl_int, tp_int]
  refine ite3_by (fun h => ?_) (fun h => ?_)
  · rw [st_ret]
    simp only [ex_c, ex_var, ex_op, ex_un, ex_b, ex_and, ex_or, ex_not, ex_andV, ex_orV, ex_notV, ex_if, ex_chain, ex_nil, ex_cons, ex_tup, ex_lst, ex_call, ex_callP, ex_cb, ex_bm, ex_rep, ex_sl, ex_noPart, ex_part, ex_yes, it_items, it_rng1, it_rng2, tg_name, tg_sub, tg_tup, tg_cons, tg_nil, gs_0, gs_s, ss_0, ss_s, op_ii, op_ss, op_tt, op_mm, op_sb, op_ng, op_iNf, op_iNt, op_lle, op_ixT, op_ixR, op_ixL, op_putE, op_appE, it_tupE, it_rolE, it_refE, lstOf_l, exL, asS_some, asI_int, asB_bl, asL_some, asN_some, ite3_t, ite3_f, bl_1, bl_lenT, bl_lenR, bl_lenL, bl_lenS, bl_tuple, bl_list, bl_abs, bl_intI, bl_intB, bl_max, bl_min, op_eqSf, op_eqSt, op_eqIf, op_eqIt, op_eqTf, op_eqTt, op_eqRf, op_eqRt, op_eqNf, op_eqNt, eqD_int, eqD_nil, pl_int, pl_nil, pl_non, pl_rnil, pl_bl, sl_tupE, sl_rolE, keep_ref, keep_tup, keep_rol, tp_int, tp_tup, tp_rol, tp_str, tp_bl, tp_non, tp_ref, oFd, oMd, oPw, oShl, oLt, oLe, oGt, oGe, op_in, op_cp, wipe_nil, wipe_cons, mset_same, true_and, and_true, isN_int, ex_lstF, ex_repF, ex_lgF1, ex_lgF2, ex_tupRg1, ex_tupRg2, ex_frz, ex_slF, ex_slM, sl_tupF, sl_rolF, op_iiF, op_ssF, op_ttF, op_rrF, op_rrM, op_mmF, op_repF, li_rol, li_ref, bl_listF, bl_allF, bl_anyF, asT_some, asJ_some, op_eqBf, op_eqBt, isN_non, Bool.not_true, Bool.not_false, rep2]
    exact ⟨Nat.zero_le _, q _ _ (ct0 (by decide)) (f1.mono (by omega)) o1.gr⟩
  rw [st_next]
  try dsimp only
  rw [st_seq, st_if]
  simp only [ex_c, ex_var, ex_op, ex_un, ex_b, ex_and, ex_or, ex_not, ex_andV, ex_orV, ex_notV, ex_if, ex_chain, ex_nil, ex_cons, ex_tup, ex_lst, ex_call, ex_callP, ex_cb, ex_bm, ex_rep, ex_sl, ex_noPart, ex_part, ex_yes, it_items, it_rng1, it_rng2, tg_name, tg_sub, tg_tup, tg_cons, tg_nil, gs_0, gs_s, ss_0, ss_s, op_ii, op_ss, op_tt, op_mm, op_sb, op_ng, op_iNf, op_iNt, op_lle, op_ixT, op_ixR, op_ixL, op_putE, op_appE, it_tupE, it_rolE, it_refE, lstOf_l, exL, asS_some, asI_int, asB_bl, asL_some, asN_some, ite3_t, ite3_f, bl_1, bl_lenT, bl_lenR, bl_lenL, bl_lenS, bl_tuple, bl_list, bl_abs, bl_intI, bl_intB, bl_max, bl_min, op_eqSf, op_eqSt, op_eqIf, op_eqIt, op_eqTf, op_eqTt, op_eqRf, op_eqRt, op_eqNf, op_eqNt, eqD_int, eqD_nil, pl_int, pl_nil, pl_non, pl_rnil, pl_bl, sl_tupE, sl_rolE, keep_ref, keep_tup, keep_rol, tp_int, tp_tup, tp_rol, tp_str, tp_bl, tp_non, tp_ref, oFd, oMd, oPw, oShl, oLt, oLe, oGt, oGe, op_in, op_cp, wipe_nil, wipe_cons, mset_same, true_and, and_true, isN_int, ex_lstF, ex_repF, ex_lgF1, ex_lgF2, ex_tupRg1, ex_tupRg2, ex_frz, ex_slF, ex_slM, sl_tupF, sl_rolF, op_iiF, op_ssF, op_ttF, op_rrF, op_rrM, op_mmF, op_repF, li_rol, li_ref, bl_listF, bl_allF, bl_anyF, asT_some, asJ_some, op_eqBf, op_eqBt, isN_non, Bool.not_true, Bool.not_false, rep2, eqD_int, pl_int, tp_int]
  refine ite3_by (fun h => ?_) (fun h => ?_)
  · rw [st_ret]
    simp only [ex_c, ex_var, ex_op, ex_un, ex_b, ex_and, ex_or, ex_not, ex_andV, ex_orV, ex_notV, ex_if, ex_chain, ex_nil, ex_cons, ex_tup, ex_lst, ex_call, ex_callP, ex_cb, ex_bm, ex_rep, ex_sl, ex_noPart, ex_part, ex_yes, it_items, it_rng1, it_rng2, tg_name, tg_sub, tg_tup, tg_cons, tg_nil, gs_0, gs_s, ss_0, ss_s, op_ii, op_ss, op_tt, op_mm, op_sb, op_ng, op_iNf, op_iNt, op_lle, op_ixT, op_ixR, op_ixL, op_putE, op_appE, it_tupE, it_rolE, it_refE, lstOf_l, exL, asS_some, asI_int, asB_bl, asL_some, asN_some, ite3_t, ite3_f, bl_1, bl_lenT, bl_lenR, bl_lenL, bl_lenS, bl_tuple, bl_list, bl_abs, bl_intI, bl_intB, bl_max, bl_min, op_eqSf, op_eqSt, op_eqIf, op_eqIt, op_eqTf, op_eqTt, op_eqRf, op_eqRt, op_eqNf, op_eqNt, eqD_int, eqD_nil, pl_int, pl_nil, pl_non, pl_rnil, pl_bl, sl_tupE, sl_rolE, keep_ref, keep_tup, keep_rol, tp_int, tp_tup, tp_rol, tp_str, tp_bl, tp_non, tp_ref, oFd, oMd, oPw, oShl, oLt, oLe, oGt, oGe, op_in, op_cp, wipe_nil, wipe_cons, mset_same, true_and, and_true, isN_int, ex_lstF, ex_repF, ex_lgF1, ex_lgF2, ex_tupRg1, ex_tupRg2, ex_frz, ex_slF, ex_slM, sl_tupF, sl_rolF, op_iiF, op_ssF, op_ttF, op_rrF, op_rrM, op_mmF, op_repF, li_rol, li_ref, bl_listF, bl_allF, bl_anyF, asT_some, asJ_some, op_eqBf, op_eqBt, isN_non, Bool.not_true, Bool.not_false, rep2]
    refine k3 _ (b + 1) k _ _ _ f1 (by omega) hk hk1 fun T M2 tT f2 g2 => ?_
    (try simp only [ex_c, ex_var, ex_op, ex_un, ex_b, ex_and, ex_or, ex_not, ex_andV, ex_orV, ex_notV, ex_if, ex_chain, ex_nil, ex_cons, ex_tup, ex_lst, ex_call, ex_callP, ex_cb, ex_bm, ex_rep, ex_sl, ex_noPart, ex_part, ex_yes, it_items, it_rng1, it_rng2, tg_name, tg_sub, tg_tup, tg_cons, tg_nil, gs_0, gs_s, ss_0, ss_s, op_ii, op_ss, op_tt, op_mm, op_sb, op_ng, op_iNf, op_iNt, op_lle, op_ixT, op_ixR, op_ixL, op_putE, op_appE, it_tupE, it_rolE, it_refE, lstOf_l, exL, asS_some, asI_int, asB_bl, asL_some, asN_some, ite3_t, ite3_f, bl_1, bl_lenT, bl_lenR, bl_lenL, bl_lenS, bl_tuple, bl_list, bl_abs, bl_intI, bl_intB, bl_max, bl_min, op_eqSf, op_eqSt, op_eqIf, op_eqIt, op_eqTf, op_eqTt, op_eqRf, op_eqRt, op_eqNf, op_eqNt, eqD_int, eqD_nil, pl_int, pl_nil, pl_non, pl_rnil, pl_bl, sl_tupE, sl_rolE, keep_ref, keep_tup, keep_rol, tp_int, tp_tup, tp_rol, tp_str, tp_bl, tp_non, tp_ref, oFd, oMd, oPw, oShl, oLt, oLe, oGt, oGe, op_in, op_cp, wipe_nil, wipe_cons, mset_same, true_and, and_true, isN_int, ex_lstF, ex_repF, ex_lgF1, ex_lgF2, ex_tupRg1, ex_tupRg2, ex_frz, ex_slF, ex_slM, sl_tupF, sl_rolF, op_iiF, op_ssF, op_ttF, op_rrF, op_rrM, op_mmF, op_repF, li_rol, li_ref, bl_listF, bl_allF, bl_anyF, asT_some, asJ_some, op_eqBf, op_eqBt, isN_non, Bool.not_true, Bool.not_false, rep2])
    refine k2 k 13 T _ _ (by omega) tT (by decide) fun d _ hd => q _ _ (ctC hk (.inr rfl) (by decide) ?_ tT hd) (f2.mono (by omega)) (o1.gr.trans g2)
    exact Nat.le_trans (Nat.mul_le_mul_right 13 (Nat.pow_le_pow_right (by decide) hk1)) (by decide)
  rw [st_next]
  try dsimp only
  rw [st_seq, st_if]
  simp only [ex_c, ex_var, ex_op, ex_un, ex_b, ex_and, ex_or, ex_not, ex_andV, ex_orV, ex_notV, ex_if, ex_chain, ex_nil, ex_cons, ex_tup, ex_lst, ex_call, ex_callP, ex_cb, ex_bm, ex_rep, ex_sl, ex_noPart, ex_part, ex_yes, it_items, it_rng1, it_rng2, tg_name, tg_sub, tg_tup, tg_cons, tg_nil, gs_0, gs_s, ss_0, ss_s, op_ii, op_ss, op_tt, op_mm, op_sb, op_ng, op_iNf, op_iNt, op_lle, op_ixT, op_ixR, op_ixL, op_putE, op_appE, it_tupE, it_rolE, it_refE, lstOf_l, exL, asS_some, asI_int, asB_bl, asL_some, asN_some, ite3_t, ite3_f, bl_1, bl_lenT, bl_lenR, bl_lenL, bl_lenS, bl_tuple, bl_list, bl_abs, bl_intI, bl_intB, bl_max, bl_min, op_eqSf, op_eqSt, op_eqIf, op_eqIt, op_eqTf, op_eqTt, op_eqRf, op_eqRt, op_eqNf, op_eqNt, eqD_int, eqD_nil, pl_int, pl_nil, pl_non, pl_rnil, pl_bl, sl_tupE, sl_rolE, keep_ref, keep_tup, keep_rol, tp_int, tp_tup, tp_rol, tp_str, tp_bl, tp_non, tp_ref, oFd, oMd, oPw, oShl, oLt, oLe, oGt, oGe, op_in, op_cp, wipe_nil, wipe_cons, mset_same, true_and, and_true, isN_int, ex_lstF, ex_repF, ex_lgF1, ex_lgF2, ex_tupRg1, ex_tupRg2, ex_frz, ex_slF, ex_slM, sl_tupF, sl_rolF, op_iiF, op_ssF, op_ttF, op_rrF, op_rrM, op_mmF, op_repF, li_rol, li_ref, bl_listF, bl_allF, bl_anyF, asT_some, asJ_some, op_eqBf, op_eqBt, isN_non, Bool.not_true, Bool.not_false, rep2, eqD_int, pl_int, tp_int]
  refine ite3_by (fun h => ?_) (fun h => by rw [st_next]; exact last none)
  refine ite3_by (fun h1 => ?_) (fun h1 => by rw [st_next]; exact last none)
  refine ite3_by (fun h2 => ?_) (fun h2 => by rw [st_next]; exact last none)
  rw [st_ret]
  simp only [ex_c, ex_var, ex_op, ex_un, ex_b, ex_and, ex_or, ex_not, ex_andV, ex_orV, ex_notV, ex_if, ex_chain, ex_nil, ex_cons, ex_tup, ex_lst, ex_call, ex_callP, ex_cb, ex_bm, ex_rep, ex_sl, ex_noPart, ex_part, ex_yes, it_items, it_rng1, it_rng2, tg_name, tg_sub, tg_tup, tg_cons, tg_nil, gs_0, gs_s, ss_0, ss_s, op_ii, op_ss, op_tt, op_mm, op_sb, op_ng, op_iNf, op_iNt, op_lle, op_ixT, op_ixR, op_ixL, op_putE, op_appE, it_tupE, it_rolE, it_refE, lstOf_l, exL, asS_some, asI_int, asB_bl, asL_some, asN_some, ite3_t, ite3_f, bl_1, bl_lenT, bl_lenR, bl_lenL, bl_lenS, bl_tuple, bl_list, bl_abs, bl_intI, bl_intB, bl_max, bl_min, op_eqSf, op_eqSt, op_eqIf, op_eqIt, op_eqTf, op_eqTt, op_eqRf, op_eqRt, op_eqNf, op_eqNt, eqD_int, eqD_nil, pl_int, pl_nil, pl_non, pl_rnil, pl_bl, sl_tupE, sl_rolE, keep_ref, keep_tup, keep_rol, tp_int, tp_tup, tp_rol, tp_str, tp_bl, tp_non, tp_ref, oFd, oMd, oPw, oShl, oLt, oLe, oGt, oGe, op_in, op_cp, wipe_nil, wipe_cons, mset_same, true_and, and_true, isN_int, ex_lstF, ex_repF, ex_lgF1, ex_lgF2, ex_tupRg1, ex_tupRg2, ex_frz, ex_slF, ex_slM, sl_tupF, sl_rolF, op_iiF, op_ssF, op_ttF, op_rrF, op_rrM, op_mmF, op_repF, li_rol, li_ref, bl_listF, bl_allF, bl_anyF, asT_some, asJ_some, op_eqBf, op_eqBt, isN_non, Bool.not_true, Bool.not_false, rep2, ex_lcF]
  refine ⟨by omega, by omega, ?_⟩
  refine lc_pv (fun i acc M => ∃ vs : List Int, acc = vs.map D.int ∧ vs.length = i ∧ i ≤ 6 ∧ (∀ v ∈ vs, v.natAbs < 10 ^ 20 + 2) ∧ Fd (b + 1 + i) M a ∧ Gr a M1 M) ?_ ?_ ⟨[], rfl, rfl, by decide, (fun v hv => nomatch hv), f1, .refl⟩
  · rintro i d acc M hd ⟨vs, rfl, hl, hi, hv, f, g⟩ X hX
    obtain ⟨hlt, rfl⟩ := rgD_get hd
    refine ⟨True.intro, ?_⟩
    simp only [ex_c, ex_var, ex_op, ex_un, ex_b, ex_and, ex_or, ex_not, ex_andV, ex_orV, ex_notV, ex_if, ex_chain, ex_nil, ex_cons, ex_tup, ex_lst, ex_call, ex_callP, ex_cb, ex_bm, ex_rep, ex_sl, ex_noPart, ex_part, ex_yes, it_items, it_rng1, it_rng2, tg_name, tg_sub, tg_tup, tg_cons, tg_nil, gs_0, gs_s, ss_0, ss_s, op_ii, op_ss, op_tt, op_mm, op_sb, op_ng, op_iNf, op_iNt, op_lle, op_ixT, op_ixR, op_ixL, op_putE, op_appE, it_tupE, it_rolE, it_refE, lstOf_l, exL, asS_some, asI_int, asB_bl, asL_some, asN_some, ite3_t, ite3_f, bl_1, bl_lenT, bl_lenR, bl_lenL, bl_lenS, bl_tuple, bl_list, bl_abs, bl_intI, bl_intB, bl_max, bl_min, op_eqSf, op_eqSt, op_eqIf, op_eqIt, op_eqTf, op_eqTt, op_eqRf, op_eqRt, op_eqNf, op_eqNt, eqD_int, eqD_nil, pl_int, pl_nil, pl_non, pl_rnil, pl_bl, sl_tupE, sl_rolE, keep_ref, keep_tup, keep_rol, tp_int, tp_tup, tp_rol, tp_str, tp_bl, tp_non, tp_ref, oFd, oMd, oPw, oShl, oLt, oLe, oGt, oGe, op_in, op_cp, wipe_nil, wipe_cons, mset_same, true_and, and_true, isN_int, ex_lstF, ex_repF, ex_lgF1, ex_lgF2, ex_tupRg1, ex_tupRg2, ex_frz, ex_slF, ex_slM, sl_tupF, sl_rolF, op_iiF, op_ssF, op_ttF, op_rrF, op_rrM, op_mmF, op_repF, li_rol, li_ref, bl_listF, bl_allF, bl_anyF, asT_some, asJ_some, op_eqBf, op_eqBt, isN_non, Bool.not_true, Bool.not_false, rep2]
    refine ⟨cpow20, mulL (by decide) (by decide), k1 _ (b + 1 + i) _ _ _ _ f (by omega) (by decide) (by decide) fun x M2 x0 x1 f2 o2 => ?_⟩
    (try simp only [ex_c, ex_var, ex_op, ex_un, ex_b, ex_and, ex_or, ex_not, ex_andV, ex_orV, ex_notV, ex_if, ex_chain, ex_nil, ex_cons, ex_tup, ex_lst, ex_call, ex_callP, ex_cb, ex_bm, ex_rep, ex_sl, ex_noPart, ex_part, ex_yes, it_items, it_rng1, it_rng2, tg_name, tg_sub, tg_tup, tg_cons, tg_nil, gs_0, gs_s, ss_0, ss_s, op_ii, op_ss, op_tt, op_mm, op_sb, op_ng, op_iNf, op_iNt, op_lle, op_ixT, op_ixR, op_ixL, op_putE, op_appE, it_tupE, it_rolE, it_refE, lstOf_l, exL, asS_some, asI_int, asB_bl, asL_some, asN_some, ite3_t, ite3_f, bl_1, bl_lenT, bl_lenR, bl_lenL, bl_lenS, bl_tuple, bl_list, bl_abs, bl_intI, bl_intB, bl_max, bl_min, op_eqSf, op_eqSt, op_eqIf, op_eqIt, op_eqTf, op_eqTt, op_eqRf, op_eqRt, op_eqNf, op_eqNt, eqD_int, eqD_nil, pl_int, pl_nil, pl_non, pl_rnil, pl_bl, sl_tupE, sl_rolE, keep_ref, keep_tup, keep_rol, tp_int, tp_tup, tp_rol, tp_str, tp_bl, tp_non, tp_ref, oFd, oMd, oPw, oShl, oLt, oLe, oGt, oGe, op_in, op_cp, wipe_nil, wipe_cons, mset_same, true_and, and_true, isN_int, ex_lstF, ex_repF, ex_lgF1, ex_lgF2, ex_tupRg1, ex_tupRg2, ex_frz, ex_slF, ex_slM, sl_tupF, sl_rolF, op_iiF, op_ssF, op_ttF, op_rrF, op_rrM, op_mmF, op_repF, li_rol, li_ref, bl_listF, bl_allF, bl_anyF, asT_some, asJ_some, op_eqBf, op_eqBt, isN_non, Bool.not_true, Bool.not_false, rep2])
    refine ⟨cpow20, by rw [List.length_map]; omega, hX _ _ ⟨vs ++ [x - 10 ^ (20 : Int).toNat], by rw [List.map_append]; rfl, by rw [List.length_append, hl]; rfl, by omega, fun v hv' => ?_, f2.mono (by omega), g.trans o2.gr⟩⟩
    rcases List.mem_append.mp hv' with h | h
    · exact hv v h
    · rw [List.mem_singleton] at h
      rw [h]
      have e : (10 : Int) ^ (20 : Int).toNat = 100000000000000000000 := by decide
      rw [e] at x1 ⊢
      omega
  rintro acc M ⟨vs, rfl, hl, hi, hv, f, g⟩
  rw [rgD_len] at hl
  refine ⟨True.intro, ?_⟩
  (try simp only [ex_c, ex_var, ex_op, ex_un, ex_b, ex_and, ex_or, ex_not, ex_andV, ex_orV, ex_notV, ex_if, ex_chain, ex_nil, ex_cons, ex_tup, ex_lst, ex_call, ex_callP, ex_cb, ex_bm, ex_rep, ex_sl, ex_noPart, ex_part, ex_yes, it_items, it_rng1, it_rng2, tg_name, tg_sub, tg_tup, tg_cons, tg_nil, gs_0, gs_s, ss_0, ss_s, op_ii, op_ss, op_tt, op_mm, op_sb, op_ng, op_iNf, op_iNt, op_lle, op_ixT, op_ixR, op_ixL, op_putE, op_appE, it_tupE, it_rolE, it_refE, lstOf_l, exL, asS_some, asI_int, asB_bl, asL_some, asN_some, ite3_t, ite3_f, bl_1, bl_lenT, bl_lenR, bl_lenL, bl_lenS, bl_tuple, bl_list, bl_abs, bl_intI, bl_intB, bl_max, bl_min, op_eqSf, op_eqSt, op_eqIf, op_eqIt, op_eqTf, op_eqTt, op_eqRf, op_eqRt, op_eqNf, op_eqNt, eqD_int, eqD_nil, pl_int, pl_nil, pl_non, pl_rnil, pl_bl, sl_tupE, sl_rolE, keep_ref, keep_tup, keep_rol, tp_int, tp_tup, tp_rol, tp_str, tp_bl, tp_non, tp_ref, oFd, oMd, oPw, oShl, oLt, oLe, oGt, oGe, op_in, op_cp, wipe_nil, wipe_cons, mset_same, true_and, and_true, isN_int, ex_lstF, ex_repF, ex_lgF1, ex_lgF2, ex_tupRg1, ex_tupRg2, ex_frz, ex_slF, ex_slM, sl_tupF, sl_rolF, op_iiF, op_ssF, op_ttF, op_rrF, op_rrM, op_mmF, op_repF, li_rol, li_ref, bl_listF, bl_allF, bl_anyF, asT_some, asJ_some, op_eqBf, op_eqBt, isN_non, Bool.not_true, Bool.not_false, rep2])
  refine k4 vs _ _ (by omega) fun _ => ?_
  have t := pinT_b (B := 10 ^ 20 + 2) (by decide) hv
  have ek : vs.length + 1 = k := by omega
  rw [ek] at t
  exact q _ _ (ctT hk (by decide) (by decide) t) (f.mono (by omega)) (o1.gr.trans g)
theorem max_b {B : Nat} (a b : Ed) (h : EdB B a) (h2 : EdB B b) : EdB B (eMx a b) := by
  cases a with
  | none => exact .non
  | some x =>
    cases b with
    | none => exact .non
    | some y =>
      show EdB B (some (if y > x then y else x))
      split
      · exact h2
      · exact h
theorem m_law {s1 s2 s3 s4 s5 s6 s7 s8 : Sp3} (k1 : SFeed7 s1) (k2 : SDraw7 s2) (k3 : SAny s3) (k4 : SBoth s4) (k5 : SClosed100 s5) (k6 : SLeastE s6) (k7 : SGreatest s7) (k8 : SAround s8) (ns : List Int) :
    spOf 1 10 (r_law s1 s2 s3 s4 s5 s6 s7 s8) [.rol (ns.map D.int)] M0 (fun v _ => v = .bl true) (fun _ _ _ => False) := by
  refine ⟨rfl, ?_⟩
  show r_law s1 s2 s3 s4 s5 s6 s7 s8 _ _ [some (.rol (ns.map D.int)), none, none, none, none, none, none, none, none, none] M0
  unfold r_law
  have big : (1000000 : Nat) ≤ sizeLine := by decide
  rw [st_seq, st_set]
  simp only [ex_c, ex_var, ex_op, ex_un, ex_b, ex_and, ex_or, ex_not, ex_andV, ex_orV, ex_notV, ex_if, ex_chain, ex_nil, ex_cons, ex_tup, ex_lst, ex_call, ex_callP, ex_cb, ex_bm, ex_rep, ex_sl, ex_noPart, ex_part, ex_yes, it_items, it_rng1, it_rng2, tg_name, tg_sub, tg_tup, tg_cons, tg_nil, gs_0, gs_s, ss_0, ss_s, op_ii, op_ss, op_tt, op_mm, op_sb, op_ng, op_iNf, op_iNt, op_lle, op_ixT, op_ixR, op_ixL, op_putE, op_appE, it_tupE, it_rolE, it_refE, lstOf_l, exL, asS_some, asI_int, asB_bl, asL_some, asN_some, ite3_t, ite3_f, bl_1, bl_lenT, bl_lenR, bl_lenL, bl_lenS, bl_tuple, bl_list, bl_abs, bl_intI, bl_intB, bl_max, bl_min, op_eqSf, op_eqSt, op_eqIf, op_eqIt, op_eqTf, op_eqTt, op_eqRf, op_eqRt, op_eqNf, op_eqNt, eqD_int, eqD_nil, pl_int, pl_nil, pl_non, pl_rnil, pl_bl, sl_tupE, sl_rolE, keep_ref, keep_tup, keep_rol, tp_int, tp_tup, tp_rol, tp_str, tp_bl, tp_non, tp_ref, oFd, oMd, oPw, oShl, oLt, oLe, oGt, oGe, op_in, op_cp, wipe_nil, wipe_cons, mset_same, true_and, and_true, isN_int, ex_lstF, ex_repF, ex_lgF1, ex_lgF2, ex_tupRg1, ex_tupRg2, ex_frz, ex_slF, ex_slM, sl_tupF, sl_rolF, op_iiF, op_ssF, op_ttF, op_rrF, op_rrM, op_mmF, op_repF, li_rol, li_ref, bl_listF, bl_allF, bl_anyF, asT_some, asJ_some, op_eqBf, op_eqBt, isN_non, Bool.not_true, Bool.not_false, rep2]
  refine k1 _ _ _ _ fun a M1 _ f _ => ?_
  try dsimp only
  rw [st_seq, st_for]
  simp only [ex_c, ex_var, ex_op, ex_un, ex_b, ex_and, ex_or, ex_not, ex_andV, ex_orV, ex_notV, ex_if, ex_chain, ex_nil, ex_cons, ex_tup, ex_lst, ex_call, ex_callP, ex_cb, ex_bm, ex_rep, ex_sl, ex_noPart, ex_part, ex_yes, it_items, it_rng1, it_rng2, tg_name, tg_sub, tg_tup, tg_cons, tg_nil, gs_0, gs_s, ss_0, ss_s, op_ii, op_ss, op_tt, op_mm, op_sb, op_ng, op_iNf, op_iNt, op_lle, op_ixT, op_ixR, op_ixL, op_putE, op_appE, it_tupE, it_rolE, it_refE, lstOf_l, exL, asS_some, asI_int, asB_bl, asL_some, asN_some, ite3_t, ite3_f, bl_1, bl_lenT, bl_lenR, bl_lenL, bl_lenS, bl_tuple, bl_list, bl_abs, bl_intI, bl_intB, bl_max, bl_min, op_eqSf, op_eqSt, op_eqIf, op_eqIt, op_eqTf, op_eqTt, op_eqRf, op_eqRt, op_eqNf, op_eqNt, eqD_int, eqD_nil, pl_int, pl_nil, pl_non, pl_rnil, pl_bl, sl_tupE, sl_rolE, keep_ref, keep_tup, keep_rol, tp_int, tp_tup, tp_rol, tp_str, tp_bl, tp_non, tp_ref, oFd, oMd, oPw, oShl, oLt, oLe, oGt, oGe, op_in, op_cp, wipe_nil, wipe_cons, mset_same, true_and, and_true, isN_int, ex_lstF, ex_repF, ex_lgF1, ex_lgF2, ex_tupRg1, ex_tupRg2, ex_frz, ex_slF, ex_slM, sl_tupF, sl_rolF, op_iiF, op_ssF, op_ttF, op_rrF, op_rrM, op_mmF, op_repF, li_rol, li_ref, bl_listF, bl_allF, bl_anyF, asT_some, asJ_some, op_eqBf, op_eqBt, isN_non, Bool.not_true, Bool.not_false, rep2]
  obtain ⟨c, hc, hc0, hc1⟩ : ∃ c : Int, (if (if (8 : Int) < ((ns.map D.int).length : Int) then 8 else ((ns.map D.int).length : Int)) > 3 then (if (8 : Int) < ((ns.map D.int).length : Int) then 8 else ((ns.map D.int).length : Int)) else 3 : Int) = c ∧ 0 ≤ c ∧ c ≤ 8 := ⟨_, rfl, by split <;> split at * <;> omega, by split <;> split at * <;> omega⟩
  rw [hc]
  refine ⟨by omega, by omega, ?_⟩
  have hl : c.toNat ≤ 8 := by omega
  refine for_rg (fun i τ M => i ≤ c.toNat ∧ Fd (1000 * i) M a ∧ ∃ x2 x3 x4 x5 x6 x7 x8 x9, τ = [some (.rol (ns.map D.int)), some (.ref a), x2, x3, x4, x5, x6, x7, x8, x9]) ?_ ?_ ⟨Nat.zero_le _, f.mono (by omega), _, _, _, _, _, _, _, _, rfl⟩
  · rintro i τ M hi ⟨_, f, x2, x3, x4, x5, x6, x7, x8, x9, rfl⟩ X hX
    rw [tg_name, st_seq, st_set]
    simp only [ex_c, ex_var, ex_op, ex_un, ex_b, ex_and, ex_or, ex_not, ex_andV, ex_orV, ex_notV, ex_if, ex_chain, ex_nil, ex_cons, ex_tup, ex_lst, ex_call, ex_callP, ex_cb, ex_bm, ex_rep, ex_sl, ex_noPart, ex_part, ex_yes, it_items, it_rng1, it_rng2, tg_name, tg_sub, tg_tup, tg_cons, tg_nil, gs_0, gs_s, ss_0, ss_s, op_ii, op_ss, op_tt, op_mm, op_sb, op_ng, op_iNf, op_iNt, op_lle, op_ixT, op_ixR, op_ixL, op_putE, op_appE, it_tupE, it_rolE, it_refE, lstOf_l, exL, asS_some, asI_int, asB_bl, asL_some, asN_some, ite3_t, ite3_f, bl_1, bl_lenT, bl_lenR, bl_lenL, bl_lenS, bl_tuple, bl_list, bl_abs, bl_intI, bl_intB, bl_max, bl_min, op_eqSf, op_eqSt, op_eqIf, op_eqIt, op_eqTf, op_eqTt, op_eqRf, op_eqRt, op_eqNf, op_eqNt, eqD_int, eqD_nil, pl_int, pl_nil, pl_non, pl_rnil, pl_bl, sl_tupE, sl_rolE, keep_ref, keep_tup, keep_rol, tp_int, tp_tup, tp_rol, tp_str, tp_bl, tp_non, tp_ref, oFd, oMd, oPw, oShl, oLt, oLe, oGt, oGe, op_in, op_cp, wipe_nil, wipe_cons, mset_same, true_and, and_true, isN_int, ex_lstF, ex_repF, ex_lgF1, ex_lgF2, ex_tupRg1, ex_tupRg2, ex_frz, ex_slF, ex_slM, sl_tupF, sl_rolF, op_iiF, op_ssF, op_ttF, op_rrF, op_rrM, op_mmF, op_repF, li_rol, li_ref, bl_listF, bl_allF, bl_anyF, asT_some, asJ_some, op_eqBf, op_eqBt, isN_non, Bool.not_true, Bool.not_false, rep2]
    refine k2 _ (1000 * i) _ _ _ _ f (by omega) (by decide) (by decide) fun r M2 r0 r1 f2 _ => ?_
    obtain ⟨n, hn⟩ : ∃ n : Nat, 1 + r = n := ⟨(1 + r).toNat, by omega⟩
    (try simp only [ex_c, ex_var, ex_op, ex_un, ex_b, ex_and, ex_or, ex_not, ex_andV, ex_orV, ex_notV, ex_if, ex_chain, ex_nil, ex_cons, ex_tup, ex_lst, ex_call, ex_callP, ex_cb, ex_bm, ex_rep, ex_sl, ex_noPart, ex_part, ex_yes, it_items, it_rng1, it_rng2, tg_name, tg_sub, tg_tup, tg_cons, tg_nil, gs_0, gs_s, ss_0, ss_s, op_ii, op_ss, op_tt, op_mm, op_sb, op_ng, op_iNf, op_iNt, op_lle, op_ixT, op_ixR, op_ixL, op_putE, op_appE, it_tupE, it_rolE, it_refE, lstOf_l, exL, asS_some, asI_int, asB_bl, asL_some, asN_some, ite3_t, ite3_f, bl_1, bl_lenT, bl_lenR, bl_lenL, bl_lenS, bl_tuple, bl_list, bl_abs, bl_intI, bl_intB, bl_max, bl_min, op_eqSf, op_eqSt, op_eqIf, op_eqIt, op_eqTf, op_eqTt, op_eqRf, op_eqRt, op_eqNf, op_eqNt, eqD_int, eqD_nil, pl_int, pl_nil, pl_non, pl_rnil, pl_bl, sl_tupE, sl_rolE, keep_ref, keep_tup, keep_rol, tp_int, tp_tup, tp_rol, tp_str, tp_bl, tp_non, tp_ref, oFd, oMd, oPw, oShl, oLt, oLe, oGt, oGe, op_in, op_cp, wipe_nil, wipe_cons, mset_same, true_and, and_true, isN_int, ex_lstF, ex_repF, ex_lgF1, ex_lgF2, ex_tupRg1, ex_tupRg2, ex_frz, ex_slF, ex_slM, sl_tupF, sl_rolF, op_iiF, op_ssF, op_ttF, op_rrF, op_rrM, op_mmF, op_repF, li_rol, li_ref, bl_listF, bl_allF, bl_anyF, asT_some, asJ_some, op_eqBf, op_eqBt, isN_non, Bool.not_true, Bool.not_false, rep2])
    rw [hn]
    have n0 : 0 < n := by omega
    have n1 : n ≤ 7 := by omega
    try dsimp only
    rw [st_seq, st_parE (d := .non) (e := .non)]
    simp only [ex_c, ex_var, ex_op, ex_un, ex_b, ex_and, ex_or, ex_not, ex_andV, ex_orV, ex_notV, ex_if, ex_chain, ex_nil, ex_cons, ex_tup, ex_lst, ex_call, ex_callP, ex_cb, ex_bm, ex_rep, ex_sl, ex_noPart, ex_part, ex_yes, it_items, it_rng1, it_rng2, tg_name, tg_sub, tg_tup, tg_cons, tg_nil, gs_0, gs_s, ss_0, ss_s, op_ii, op_ss, op_tt, op_mm, op_sb, op_ng, op_iNf, op_iNt, op_lle, op_ixT, op_ixR, op_ixL, op_putE, op_appE, it_tupE, it_rolE, it_refE, lstOf_l, exL, asS_some, asI_int, asB_bl, asL_some, asN_some, ite3_t, ite3_f, bl_1, bl_lenT, bl_lenR, bl_lenL, bl_lenS, bl_tuple, bl_list, bl_abs, bl_intI, bl_intB, bl_max, bl_min, op_eqSf, op_eqSt, op_eqIf, op_eqIt, op_eqTf, op_eqTt, op_eqRf, op_eqRt, op_eqNf, op_eqNt, eqD_int, eqD_nil, pl_int, pl_nil, pl_non, pl_rnil, pl_bl, sl_tupE, sl_rolE, keep_ref, keep_tup, keep_rol, tp_int, tp_tup, tp_rol, tp_str, tp_bl, tp_non, tp_ref, oFd, oMd, oPw, oShl, oLt, oLe, oGt, oGe, op_in, op_cp, wipe_nil, wipe_cons, mset_same, true_and, and_true, isN_int, ex_lstF, ex_repF, ex_lgF1, ex_lgF2, ex_tupRg1, ex_tupRg2, ex_frz, ex_slF, ex_slM, sl_tupF, sl_rolF, op_iiF, op_ssF, op_ttF, op_rrF, op_rrM, op_mmF, op_repF, li_rol, li_ref, bl_listF, bl_allF, bl_anyF, asT_some, asJ_some, op_eqBf, op_eqBt, isN_non, Bool.not_true, Bool.not_false, rep2]
    refine k3 _ (1000 * i + 1) n _ _ _ f2 (by omega) n0 n1 fun d1 M3 c1 f3 _ => ?_
    (try simp only [ex_c, ex_var, ex_op, ex_un, ex_b, ex_and, ex_or, ex_not, ex_andV, ex_orV, ex_notV, ex_if, ex_chain, ex_nil, ex_cons, ex_tup, ex_lst, ex_call, ex_callP, ex_cb, ex_bm, ex_rep, ex_sl, ex_noPart, ex_part, ex_yes, it_items, it_rng1, it_rng2, tg_name, tg_sub, tg_tup, tg_cons, tg_nil, gs_0, gs_s, ss_0, ss_s, op_ii, op_ss, op_tt, op_mm, op_sb, op_ng, op_iNf, op_iNt, op_lle, op_ixT, op_ixR, op_ixL, op_putE, op_appE, it_tupE, it_rolE, it_refE, lstOf_l, exL, asS_some, asI_int, asB_bl, asL_some, asN_some, ite3_t, ite3_f, bl_1, bl_lenT, bl_lenR, bl_lenL, bl_lenS, bl_tuple, bl_list, bl_abs, bl_intI, bl_intB, bl_max, bl_min, op_eqSf, op_eqSt, op_eqIf, op_eqIt, op_eqTf, op_eqTt, op_eqRf, op_eqRt, op_eqNf, op_eqNt, eqD_int, eqD_nil, pl_int, pl_nil, pl_non, pl_rnil, pl_bl, sl_tupE, sl_rolE, keep_ref, keep_tup, keep_rol, tp_int, tp_tup, tp_rol, tp_str, tp_bl, tp_non, tp_ref, oFd, oMd, oPw, oShl, oLt, oLe, oGt, oGe, op_in, op_cp, wipe_nil, wipe_cons, mset_same, true_and, and_true, isN_int, ex_lstF, ex_repF, ex_lgF1, ex_lgF2, ex_tupRg1, ex_tupRg2, ex_frz, ex_slF, ex_slM, sl_tupF, sl_rolF, op_iiF, op_ssF, op_ttF, op_rrF, op_rrM, op_mmF, op_repF, li_rol, li_ref, bl_listF, bl_allF, bl_anyF, asT_some, asJ_some, op_eqBf, op_eqBt, isN_non, Bool.not_true, Bool.not_false, rep2])
    refine k3 _ (1000 * i + 301) n _ _ _ f3 (by omega) n0 n1 fun d2 M4 c2 f4 _ => ?_
    try dsimp only
    have sh2 : Sh (.tup [d1, d2]) := (Tm.tup (h := 2) (n := 56) (m := 2) (fun d hd => by
      simp only [List.mem_cons, List.not_mem_nil, or_false] at hd
      rcases hd with rfl | rfl
      · exact c1.tm (by decide) n1
      · exact c2.tm (by decide) n1) (Nat.le_refl _)).fits (by decide) (by decide)
    have tp2 : ∀ M, L3.top M (.tup [d1, d2]) = .tup [d1, d2] := fun _ => rfl
    rw [st_seq, st_set]
    simp only [ex_c, ex_var, ex_op, ex_un, ex_b, ex_and, ex_or, ex_not, ex_andV, ex_orV, ex_notV, ex_if, ex_chain, ex_nil, ex_cons, ex_tup, ex_lst, ex_call, ex_callP, ex_cb, ex_bm, ex_rep, ex_sl, ex_noPart, ex_part, ex_yes, it_items, it_rng1, it_rng2, tg_name, tg_sub, tg_tup, tg_cons, tg_nil, gs_0, gs_s, ss_0, ss_s, op_ii, op_ss, op_tt, op_mm, op_sb, op_ng, op_iNf, op_iNt, op_lle, op_ixT, op_ixR, op_ixL, op_putE, op_appE, it_tupE, it_rolE, it_refE, lstOf_l, exL, asS_some, asI_int, asB_bl, asL_some, asN_some, ite3_t, ite3_f, bl_1, bl_lenT, bl_lenR, bl_lenL, bl_lenS, bl_tuple, bl_list, bl_abs, bl_intI, bl_intB, bl_max, bl_min, op_eqSf, op_eqSt, op_eqIf, op_eqIt, op_eqTf, op_eqTt, op_eqRf, op_eqRt, op_eqNf, op_eqNt, eqD_int, eqD_nil, pl_int, pl_nil, pl_non, pl_rnil, pl_bl, sl_tupE, sl_rolE, keep_ref, keep_tup, keep_rol, tp_int, tp_tup, tp_rol, tp_str, tp_bl, tp_non, tp_ref, oFd, oMd, oPw, oShl, oLt, oLe, oGt, oGe, op_in, op_cp, wipe_nil, wipe_cons, mset_same, true_and, and_true, isN_int, ex_lstF, ex_repF, ex_lgF1, ex_lgF2, ex_tupRg1, ex_tupRg2, ex_frz, ex_slF, ex_slM, sl_tupF, sl_rolF, op_iiF, op_ssF, op_ttF, op_rrF, op_rrM, op_mmF, op_repF, li_rol, li_ref, bl_listF, bl_allF, bl_anyF, asT_some, asJ_some, op_eqBf, op_eqBt, isN_non, Bool.not_true, Bool.not_false, rep2, bl_reprE (tp2 _) sh2]
    refine ⟨by show 2 ≤ sizeLine; omega, ?_⟩
    have all : ∀ x ∈ [(d1, d2), (d2, d1), (d1, d1)], Ct (10 ^ 40) n x.1 ∧ Ct (10 ^ 40) n x.2 := by
      intro x hx
      simp only [List.mem_cons, List.not_mem_nil, or_false] at hx
      rcases hx with rfl | rfl | rfl
      · exact ⟨c1, c2⟩
      · exact ⟨c2, c1⟩
      · exact ⟨c1, c1⟩
    try dsimp only
    rw [st_seq, st_for]
    simp only [ex_c, ex_var, ex_op, ex_un, ex_b, ex_and, ex_or, ex_not, ex_andV, ex_orV, ex_notV, ex_if, ex_chain, ex_nil, ex_cons, ex_tup, ex_lst, ex_call, ex_callP, ex_cb, ex_bm, ex_rep, ex_sl, ex_noPart, ex_part, ex_yes, it_items, it_rng1, it_rng2, tg_name, tg_sub, tg_tup, tg_cons, tg_nil, gs_0, gs_s, ss_0, ss_s, op_ii, op_ss, op_tt, op_mm, op_sb, op_ng, op_iNf, op_iNt, op_lle, op_ixT, op_ixR, op_ixL, op_putE, op_appE, it_tupE, it_rolE, it_refE, lstOf_l, exL, asS_some, asI_int, asB_bl, asL_some, asN_some, ite3_t, ite3_f, bl_1, bl_lenT, bl_lenR, bl_lenL, bl_lenS, bl_tuple, bl_list, bl_abs, bl_intI, bl_intB, bl_max, bl_min, op_eqSf, op_eqSt, op_eqIf, op_eqIt, op_eqTf, op_eqTt, op_eqRf, op_eqRt, op_eqNf, op_eqNt, eqD_int, eqD_nil, pl_int, pl_nil, pl_non, pl_rnil, pl_bl, sl_tupE, sl_rolE, keep_ref, keep_tup, keep_rol, tp_int, tp_tup, tp_rol, tp_str, tp_bl, tp_non, tp_ref, oFd, oMd, oPw, oShl, oLt, oLe, oGt, oGe, op_in, op_cp, wipe_nil, wipe_cons, mset_same, true_and, and_true, isN_int, ex_lstF, ex_repF, ex_lgF1, ex_lgF2, ex_tupRg1, ex_tupRg2, ex_frz, ex_slF, ex_slM, sl_tupF, sl_rolF, op_iiF, op_ssF, op_ttF, op_rrF, op_rrM, op_mmF, op_repF, li_rol, li_ref, bl_listF, bl_allF, bl_anyF, asT_some, asJ_some, op_eqBf, op_eqBt, isN_non, Bool.not_true, Bool.not_false, rep2]
    refine ⟨by show 2 ≤ sizeLine; omega, by show 2 ≤ sizeLine; omega, by show 2 ≤ sizeLine; omega, by show 3 ≤ sizeLine; omega, ?_⟩
    have e4 : [D.tup [d1, d2], .tup [d2, d1], .tup [d1, d1]] = [(d1, d2), (d2, d1), (d1, d1)].map fun x : D × D => D.tup [x.1, x.2] := rfl
    rw [e4]
    generalize [(d1, d2), (d2, d1), (d1, d1)] = ds at all
    refine for_of (fun x : D × D => D.tup [x.1, x.2]) (fun j τ M => Fd (1000 * i + 601) M a ∧ ∃ x7 x8 x9, τ = [some (.rol (ns.map D.int)), some (.ref a), some (.int (0 + (i : Nat))), some (.int n), some d1, some d2, some (.str (shown (.tup [d1, d2]))), x7, x8, x9]) (fun _ _ _ _ => True.intro) ?_ ?_ ⟨f4, _, _, _, rfl⟩
    · rintro j x τ M7 hj ⟨f7, y7, y8, y9, rfl⟩ Y hY
      obtain ⟨⟨n1', B1, U1, V1, e1, hn1, hB1, hb1, t1, hu1, cl1, hV1, hU1, C1, hC1, hVb1⟩, ⟨n2', B2, U2, V2, e2, hn2, hB2, hb2, t2, hu2, cl2, hV2, hU2, C2, hC2, hVb2⟩⟩ := (⟨(all x (List.mem_of_getElem? hj)).1.ex, (all x (List.mem_of_getElem? hj)).2.ex⟩ : _ ∧ _)
      obtain ⟨x1, x2⟩ := x
      have e1 : x1 = tabD U1 := e1
      have e2 : x2 = tabD U2 := e2
      subst e1 e2
      try dsimp only
      simp only [ex_c, ex_var, ex_op, ex_un, ex_b, ex_and, ex_or, ex_not, ex_andV, ex_orV, ex_notV, ex_if, ex_chain, ex_nil, ex_cons, ex_tup, ex_lst, ex_call, ex_callP, ex_cb, ex_bm, ex_rep, ex_sl, ex_noPart, ex_part, ex_yes, it_items, it_rng1, it_rng2, tg_name, tg_sub, tg_tup, tg_cons, tg_nil, gs_0, gs_s, ss_0, ss_s, op_ii, op_ss, op_tt, op_mm, op_sb, op_ng, op_iNf, op_iNt, op_lle, op_ixT, op_ixR, op_ixL, op_putE, op_appE, it_tupE, it_rolE, it_refE, lstOf_l, exL, asS_some, asI_int, asB_bl, asL_some, asN_some, ite3_t, ite3_f, bl_1, bl_lenT, bl_lenR, bl_lenL, bl_lenS, bl_tuple, bl_list, bl_abs, bl_intI, bl_intB, bl_max, bl_min, op_eqSf, op_eqSt, op_eqIf, op_eqIt, op_eqTf, op_eqTt, op_eqRf, op_eqRt, op_eqNf, op_eqNt, eqD_int, eqD_nil, pl_int, pl_nil, pl_non, pl_rnil, pl_bl, sl_tupE, sl_rolE, keep_ref, keep_tup, keep_rol, tp_int, tp_tup, tp_rol, tp_str, tp_bl, tp_non, tp_ref, oFd, oMd, oPw, oShl, oLt, oLe, oGt, oGe, op_in, op_cp, wipe_nil, wipe_cons, mset_same, true_and, and_true, isN_int, ex_lstF, ex_repF, ex_lgF1, ex_lgF2, ex_tupRg1, ex_tupRg2, ex_frz, ex_slF, ex_slM, sl_tupF, sl_rolF, op_iiF, op_ssF, op_ttF, op_rrF, op_rrM, op_mmF, op_repF, li_rol, li_ref, bl_listF, bl_allF, bl_anyF, asT_some, asJ_some, op_eqBf, op_eqBt, isN_non, Bool.not_true, Bool.not_false, rep2, List.length_cons, List.length_nil]
      have e0 : tabD [] = .tup [] := rfl
      -- both, by this program and by the law
      rw [st_seq, st_if]
      simp only [ex_c, ex_var, ex_op, ex_un, ex_b, ex_and, ex_or, ex_not, ex_andV, ex_orV, ex_notV, ex_if, ex_chain, ex_nil, ex_cons, ex_tup, ex_lst, ex_call, ex_callP, ex_cb, ex_bm, ex_rep, ex_sl, ex_noPart, ex_part, ex_yes, it_items, it_rng1, it_rng2, tg_name, tg_sub, tg_tup, tg_cons, tg_nil, gs_0, gs_s, ss_0, ss_s, op_ii, op_ss, op_tt, op_mm, op_sb, op_ng, op_iNf, op_iNt, op_lle, op_ixT, op_ixR, op_ixL, op_putE, op_appE, it_tupE, it_rolE, it_refE, lstOf_l, exL, asS_some, asI_int, asB_bl, asL_some, asN_some, ite3_t, ite3_f, bl_1, bl_lenT, bl_lenR, bl_lenL, bl_lenS, bl_tuple, bl_list, bl_abs, bl_intI, bl_intB, bl_max, bl_min, op_eqSf, op_eqSt, op_eqIf, op_eqIt, op_eqTf, op_eqTt, op_eqRf, op_eqRt, op_eqNf, op_eqNt, eqD_int, eqD_nil, pl_int, pl_nil, pl_non, pl_rnil, pl_bl, sl_tupE, sl_rolE, keep_ref, keep_tup, keep_rol, tp_int, tp_tup, tp_rol, tp_str, tp_bl, tp_non, tp_ref, oFd, oMd, oPw, oShl, oLt, oLe, oGt, oGe, op_in, op_cp, wipe_nil, wipe_cons, mset_same, true_and, and_true, isN_int, ex_lstF, ex_repF, ex_lgF1, ex_lgF2, ex_tupRg1, ex_tupRg2, ex_frz, ex_slF, ex_slM, sl_tupF, sl_rolF, op_iiF, op_ssF, op_ttF, op_rrF, op_rrM, op_mmF, op_repF, li_rol, li_ref, bl_listF, bl_allF, bl_anyF, asT_some, asJ_some, op_eqBf, op_eqBt, isN_non, Bool.not_true, Bool.not_false, rep2]
      have nx : ∀ K : Ends3, K.nx = (fun τ M => Y τ M) → ∀ τ M, τ = [some (.rol (ns.map D.int)), some (.ref a), some (.int (0 + (i : Nat))), some (.int n), some d1, some d2, some (.str (shown (.tup [d1, d2]))), some (tabD U1), some (tabD U2), y9] → M = M7 →
        wSeq (wSet 9 (wCallP s7 (fun _ _ _ => False) (wCons (wCallP s5 (fun _ _ _ => False) (wCons (wVar 7) wNil)) (wCons (wCallP s5 (fun _ _ _ => False) (wCons (wVar 8) wNil)) wNil))))
          (wIfS (wB (wOp (oEq true) (wCB bRepr (wCons (wCallP s8 (fun _ _ _ => False) (wCons (wVar 7) (wCons (wVar 8) wNil))) wNil)) (wCB bRepr (wCons (wVar 9) wNil)))) (wRet (wC (.bl false))) wNext) K τ M := by
        rintro K hK τ M rfl rfl
        rw [st_seq, st_set]
        simp only [ex_c, ex_var, ex_op, ex_un, ex_b, ex_and, ex_or, ex_not, ex_andV, ex_orV, ex_notV, ex_if, ex_chain, ex_nil, ex_cons, ex_tup, ex_lst, ex_call, ex_callP, ex_cb, ex_bm, ex_rep, ex_sl, ex_noPart, ex_part, ex_yes, it_items, it_rng1, it_rng2, tg_name, tg_sub, tg_tup, tg_cons, tg_nil, gs_0, gs_s, ss_0, ss_s, op_ii, op_ss, op_tt, op_mm, op_sb, op_ng, op_iNf, op_iNt, op_lle, op_ixT, op_ixR, op_ixL, op_putE, op_appE, it_tupE, it_rolE, it_refE, lstOf_l, exL, asS_some, asI_int, asB_bl, asL_some, asN_some, ite3_t, ite3_f, bl_1, bl_lenT, bl_lenR, bl_lenL, bl_lenS, bl_tuple, bl_list, bl_abs, bl_intI, bl_intB, bl_max, bl_min, op_eqSf, op_eqSt, op_eqIf, op_eqIt, op_eqTf, op_eqTt, op_eqRf, op_eqRt, op_eqNf, op_eqNt, eqD_int, eqD_nil, pl_int, pl_nil, pl_non, pl_rnil, pl_bl, sl_tupE, sl_rolE, keep_ref, keep_tup, keep_rol, tp_int, tp_tup, tp_rol, tp_str, tp_bl, tp_non, tp_ref, oFd, oMd, oPw, oShl, oLt, oLe, oGt, oGe, op_in, op_cp, wipe_nil, wipe_cons, mset_same, true_and, and_true, isN_int, ex_lstF, ex_repF, ex_lgF1, ex_lgF2, ex_tupRg1, ex_tupRg2, ex_frz, ex_slF, ex_slM, sl_tupF, sl_rolF, op_iiF, op_ssF, op_ttF, op_rrF, op_rrM, op_mmF, op_repF, li_rol, li_ref, bl_listF, bl_allF, bl_anyF, asT_some, asJ_some, op_eqBf, op_eqBt, isN_non, Bool.not_true, Bool.not_false, rep2]
        refine k5 n1' B1 U1 _ _ (by omega) t1 hB1 fun d _ hd => ?_
        rw [hd.uniq cl1]
        (try simp only [ex_c, ex_var, ex_op, ex_un, ex_b, ex_and, ex_or, ex_not, ex_andV, ex_orV, ex_notV, ex_if, ex_chain, ex_nil, ex_cons, ex_tup, ex_lst, ex_call, ex_callP, ex_cb, ex_bm, ex_rep, ex_sl, ex_noPart, ex_part, ex_yes, it_items, it_rng1, it_rng2, tg_name, tg_sub, tg_tup, tg_cons, tg_nil, gs_0, gs_s, ss_0, ss_s, op_ii, op_ss, op_tt, op_mm, op_sb, op_ng, op_iNf, op_iNt, op_lle, op_ixT, op_ixR, op_ixL, op_putE, op_appE, it_tupE, it_rolE, it_refE, lstOf_l, exL, asS_some, asI_int, asB_bl, asL_some, asN_some, ite3_t, ite3_f, bl_1, bl_lenT, bl_lenR, bl_lenL, bl_lenS, bl_tuple, bl_list, bl_abs, bl_intI, bl_intB, bl_max, bl_min, op_eqSf, op_eqSt, op_eqIf, op_eqIt, op_eqTf, op_eqTt, op_eqRf, op_eqRt, op_eqNf, op_eqNt, eqD_int, eqD_nil, pl_int, pl_nil, pl_non, pl_rnil, pl_bl, sl_tupE, sl_rolE, keep_ref, keep_tup, keep_rol, tp_int, tp_tup, tp_rol, tp_str, tp_bl, tp_non, tp_ref, oFd, oMd, oPw, oShl, oLt, oLe, oGt, oGe, op_in, op_cp, wipe_nil, wipe_cons, mset_same, true_and, and_true, isN_int, ex_lstF, ex_repF, ex_lgF1, ex_lgF2, ex_tupRg1, ex_tupRg2, ex_frz, ex_slF, ex_slM, sl_tupF, sl_rolF, op_iiF, op_ssF, op_ttF, op_rrF, op_rrM, op_mmF, op_repF, li_rol, li_ref, bl_listF, bl_allF, bl_anyF, asT_some, asJ_some, op_eqBf, op_eqBt, isN_non, Bool.not_true, Bool.not_false, rep2])
        refine k5 n2' B2 U2 _ _ (by omega) t2 hB2 fun d _ hd => ?_
        rw [hd.uniq cl2]
        (try simp only [ex_c, ex_var, ex_op, ex_un, ex_b, ex_and, ex_or, ex_not, ex_andV, ex_orV, ex_notV, ex_if, ex_chain, ex_nil, ex_cons, ex_tup, ex_lst, ex_call, ex_callP, ex_cb, ex_bm, ex_rep, ex_sl, ex_noPart, ex_part, ex_yes, it_items, it_rng1, it_rng2, tg_name, tg_sub, tg_tup, tg_cons, tg_nil, gs_0, gs_s, ss_0, ss_s, op_ii, op_ss, op_tt, op_mm, op_sb, op_ng, op_iNf, op_iNt, op_lle, op_ixT, op_ixR, op_ixL, op_putE, op_appE, it_tupE, it_rolE, it_refE, lstOf_l, exL, asS_some, asI_int, asB_bl, asL_some, asN_some, ite3_t, ite3_f, bl_1, bl_lenT, bl_lenR, bl_lenL, bl_lenS, bl_tuple, bl_list, bl_abs, bl_intI, bl_intB, bl_max, bl_min, op_eqSf, op_eqSt, op_eqIf, op_eqIt, op_eqTf, op_eqTt, op_eqRf, op_eqRt, op_eqNf, op_eqNt, eqD_int, eqD_nil, pl_int, pl_nil, pl_non, pl_rnil, pl_bl, sl_tupE, sl_rolE, keep_ref, keep_tup, keep_rol, tp_int, tp_tup, tp_rol, tp_str, tp_bl, tp_non, tp_ref, oFd, oMd, oPw, oShl, oLt, oLe, oGt, oGe, op_in, op_cp, wipe_nil, wipe_cons, mset_same, true_and, and_true, isN_int, ex_lstF, ex_repF, ex_lgF1, ex_lgF2, ex_tupRg1, ex_tupRg2, ex_frz, ex_slF, ex_slM, sl_tupF, sl_rolF, op_iiF, op_ssF, op_ttF, op_rrF, op_rrM, op_mmF, op_repF, li_rol, li_ref, bl_listF, bl_allF, bl_anyF, asT_some, asJ_some, op_eqBf, op_eqBt, isN_non, Bool.not_true, Bool.not_false, rep2])
        refine k7 n V1 V2 _ _ (by omega) hV1 hV2 fun _ => ?_
        try dsimp only
        have sh3 : Sh (tabD (arT V1 V2)) := by
          have bb : C1 = C2 := hC1.trans hC2.symm
          have : C1 ≤ 10 ^ 100 := by
            rw [hC1]
            exact Nat.le_trans (Nat.mul_le_mul_right _ (Nat.pow_le_pow_right (by decide) n1)) (by decide)
          have tm : ∀ {m : Nat} {T : Tab}, m ≤ 7 → TabB C1 m T → Sh (tabD T) := fun hm t => ((Tm.tab t this).mono (Nat.le_refl _) (Nat.mul_le_mul hm (Nat.add_le_add_right hm 1))).fits (h := 2) (n := 56) (by decide) (by decide)
          unfold arT
          split
          · rcases hVb2 with h | h
            · rw [h]; exact tm (Nat.zero_le _) tab0
            · exact tm n1 (bb ▸ h)
          · rename_i hne
            have h1 : TabB C1 n V1 := hVb1.resolve_left hne
            split
            · exact tm n1 h1
            · rename_i hne2
              have h2 : TabB C1 n V2 := bb ▸ hVb2.resolve_left hne2
              exact tm n1 (zipT_b h1 h2 max_b)
        rw [st_if]
        simp only [ex_c, ex_var, ex_op, ex_un, ex_b, ex_and, ex_or, ex_not, ex_andV, ex_orV, ex_notV, ex_if, ex_chain, ex_nil, ex_cons, ex_tup, ex_lst, ex_call, ex_callP, ex_cb, ex_bm, ex_rep, ex_sl, ex_noPart, ex_part, ex_yes, it_items, it_rng1, it_rng2, tg_name, tg_sub, tg_tup, tg_cons, tg_nil, gs_0, gs_s, ss_0, ss_s, op_ii, op_ss, op_tt, op_mm, op_sb, op_ng, op_iNf, op_iNt, op_lle, op_ixT, op_ixR, op_ixL, op_putE, op_appE, it_tupE, it_rolE, it_refE, lstOf_l, exL, asS_some, asI_int, asB_bl, asL_some, asN_some, ite3_t, ite3_f, bl_1, bl_lenT, bl_lenR, bl_lenL, bl_lenS, bl_tuple, bl_list, bl_abs, bl_intI, bl_intB, bl_max, bl_min, op_eqSf, op_eqSt, op_eqIf, op_eqIt, op_eqTf, op_eqTt, op_eqRf, op_eqRt, op_eqNf, op_eqNt, eqD_int, eqD_nil, pl_int, pl_nil, pl_non, pl_rnil, pl_bl, sl_tupE, sl_rolE, keep_ref, keep_tup, keep_rol, tp_int, tp_tup, tp_rol, tp_str, tp_bl, tp_non, tp_ref, oFd, oMd, oPw, oShl, oLt, oLe, oGt, oGe, op_in, op_cp, wipe_nil, wipe_cons, mset_same, true_and, and_true, isN_int, ex_lstF, ex_repF, ex_lgF1, ex_lgF2, ex_tupRg1, ex_tupRg2, ex_frz, ex_slF, ex_slM, sl_tupF, sl_rolF, op_iiF, op_ssF, op_ttF, op_rrF, op_rrM, op_mmF, op_repF, li_rol, li_ref, bl_listF, bl_allF, bl_anyF, asT_some, asJ_some, op_eqBf, op_eqBt, isN_non, Bool.not_true, Bool.not_false, rep2]
        refine k8 n n1' n2' B1 B2 U1 U2 V1 V2 _ _ (by omega) (by omega) (by omega) hB1 hB2 t1 t2 cl1 cl2 hV1 hV2 fun _ => ?_
        (try simp only [ex_c, ex_var, ex_op, ex_un, ex_b, ex_and, ex_or, ex_not, ex_andV, ex_orV, ex_notV, ex_if, ex_chain, ex_nil, ex_cons, ex_tup, ex_lst, ex_call, ex_callP, ex_cb, ex_bm, ex_rep, ex_sl, ex_noPart, ex_part, ex_yes, it_items, it_rng1, it_rng2, tg_name, tg_sub, tg_tup, tg_cons, tg_nil, gs_0, gs_s, ss_0, ss_s, op_ii, op_ss, op_tt, op_mm, op_sb, op_ng, op_iNf, op_iNt, op_lle, op_ixT, op_ixR, op_ixL, op_putE, op_appE, it_tupE, it_rolE, it_refE, lstOf_l, exL, asS_some, asI_int, asB_bl, asL_some, asN_some, ite3_t, ite3_f, bl_1, bl_lenT, bl_lenR, bl_lenL, bl_lenS, bl_tuple, bl_list, bl_abs, bl_intI, bl_intB, bl_max, bl_min, op_eqSf, op_eqSt, op_eqIf, op_eqIt, op_eqTf, op_eqTt, op_eqRf, op_eqRt, op_eqNf, op_eqNt, eqD_int, eqD_nil, pl_int, pl_nil, pl_non, pl_rnil, pl_bl, sl_tupE, sl_rolE, keep_ref, keep_tup, keep_rol, tp_int, tp_tup, tp_rol, tp_str, tp_bl, tp_non, tp_ref, oFd, oMd, oPw, oShl, oLt, oLe, oGt, oGe, op_in, op_cp, wipe_nil, wipe_cons, mset_same, true_and, and_true, isN_int, ex_lstF, ex_repF, ex_lgF1, ex_lgF2, ex_tupRg1, ex_tupRg2, ex_frz, ex_slF, ex_slM, sl_tupF, sl_rolF, op_iiF, op_ssF, op_ttF, op_rrF, op_rrM, op_mmF, op_repF, li_rol, li_ref, bl_listF, bl_allF, bl_anyF, asT_some, asJ_some, op_eqBf, op_eqBt, isN_non, Bool.not_true, Bool.not_false, rep2, bl_reprT sh3, decide_true, Bool.not_true])
        rw [st_next, hK]
        exact hY _ _ ⟨f7, _, _, _, rfl⟩
      obtain ⟨m, B, hm, hB, hBb, tZ, hZ⟩ : ∃ (m B : Nat), m ≤ 7 ∧ 0 < B ∧ B ≤ 10 ^ 40 ∧ TabB B m (if U1 = [] ∨ U2 = [] then [] else zipT eMin U1 U2) ∧ ∀ (Q : VK3) (E : XK3), (∀ d M, Closes m B (if U1 = [] ∨ U2 = [] then [] else zipT eMin U1 U2) d → Q d M) → s4 [tabD U1, tabD U2] M0 Q E := by
        have nn : ∀ {U : Tab}, (U = [] ∨ (Sq n U ∧ 0 < n)) → NilOr (tabD U) := fun h => by
          rcases h with rfl | ⟨h, h2⟩
          · exact .inl rfl
          · exact .inr ⟨n, _, rfl, h, h2⟩
        by_cases h1 : U1 = []
        · rw [if_pos (.inl h1)]
          subst h1
          exact ⟨0, 1, by decide, by decide, by decide, tab0, fun Q E q => k4.n1 _ Q E (nn hU2) fun M => q _ M (cl0 (by decide))⟩
        by_cases h2 : U2 = []
        · rw [if_pos (.inr h2)]
          subst h2
          exact ⟨0, 1, by decide, by decide, by decide, tab0, fun Q E q => k4.n2 _ Q E (nn hU1) fun M => q _ M (cl0 (by decide))⟩
        rw [if_neg (fun h => h.elim h1 h2)]
        have z1 : n1' = n := hu1.resolve_left h1
        have z2 : n2' = n := hu2.resolve_left h2
        subst z1
        subst z2
        have t1' := t1.mono (Nat.le_max_left B1 B2)
        have t2' := t2.mono (Nat.le_max_right B1 B2)
        have hB : 0 < max B1 B2 := Nat.lt_of_lt_of_le hB1 (Nat.le_max_left _ _)
        exact ⟨_, max B1 B2, n1, hB, Nat.max_le.mpr ⟨hb1, hb2⟩, zipT_b t1' t2' min_b, fun Q E q => k4.t _ (max B1 B2) U1 U2 Q E n0 (by omega) hB t1' t2' q⟩
      refine hZ _ _ fun d _ hd => ?_
      have sd : Sh d := ((cl_tm hd (Nat.le_trans (Nat.mul_le_mul (Nat.pow_le_pow_right (by decide) hm) hBb) (by decide))).mono (Nat.le_refl _) (Nat.mul_le_mul hm (Nat.add_le_add_right hm 1))).fits (h := 2) (n := 56) (by decide) (by decide)
      (try simp only [ex_c, ex_var, ex_op, ex_un, ex_b, ex_and, ex_or, ex_not, ex_andV, ex_orV, ex_notV, ex_if, ex_chain, ex_nil, ex_cons, ex_tup, ex_lst, ex_call, ex_callP, ex_cb, ex_bm, ex_rep, ex_sl, ex_noPart, ex_part, ex_yes, it_items, it_rng1, it_rng2, tg_name, tg_sub, tg_tup, tg_cons, tg_nil, gs_0, gs_s, ss_0, ss_s, op_ii, op_ss, op_tt, op_mm, op_sb, op_ng, op_iNf, op_iNt, op_lle, op_ixT, op_ixR, op_ixL, op_putE, op_appE, it_tupE, it_rolE, it_refE, lstOf_l, exL, asS_some, asI_int, asB_bl, asL_some, asN_some, ite3_t, ite3_f, bl_1, bl_lenT, bl_lenR, bl_lenL, bl_lenS, bl_tuple, bl_list, bl_abs, bl_intI, bl_intB, bl_max, bl_min, op_eqSf, op_eqSt, op_eqIf, op_eqIt, op_eqTf, op_eqTt, op_eqRf, op_eqRt, op_eqNf, op_eqNt, eqD_int, eqD_nil, pl_int, pl_nil, pl_non, pl_rnil, pl_bl, sl_tupE, sl_rolE, keep_ref, keep_tup, keep_rol, tp_int, tp_tup, tp_rol, tp_str, tp_bl, tp_non, tp_ref, oFd, oMd, oPw, oShl, oLt, oLe, oGt, oGe, op_in, op_cp, wipe_nil, wipe_cons, mset_same, true_and, and_true, isN_int, ex_lstF, ex_repF, ex_lgF1, ex_lgF2, ex_tupRg1, ex_tupRg2, ex_frz, ex_slF, ex_slM, sl_tupF, sl_rolF, op_iiF, op_ssF, op_ttF, op_rrF, op_rrM, op_mmF, op_repF, li_rol, li_ref, bl_listF, bl_allF, bl_anyF, asT_some, asJ_some, op_eqBf, op_eqBt, isN_non, Bool.not_true, Bool.not_false, rep2, bl_reprE (cl_top hd) sd])
      refine k6 n U1 U2 _ _ (by omega) hU1 hU2 fun _ => ?_
      have eZ : (if U1 = [] ∨ U2 = [] then D.tup [] else tabD (zipT eMin U1 U2)) = tabD (if U1 = [] ∨ U2 = [] then [] else zipT eMin U1 U2) := by split <;> rfl
      rw [eZ]
      (try simp only [ex_c, ex_var, ex_op, ex_un, ex_b, ex_and, ex_or, ex_not, ex_andV, ex_orV, ex_notV, ex_if, ex_chain, ex_nil, ex_cons, ex_tup, ex_lst, ex_call, ex_callP, ex_cb, ex_bm, ex_rep, ex_sl, ex_noPart, ex_part, ex_yes, it_items, it_rng1, it_rng2, tg_name, tg_sub, tg_tup, tg_cons, tg_nil, gs_0, gs_s, ss_0, ss_s, op_ii, op_ss, op_tt, op_mm, op_sb, op_ng, op_iNf, op_iNt, op_lle, op_ixT, op_ixR, op_ixL, op_putE, op_appE, it_tupE, it_rolE, it_refE, lstOf_l, exL, asS_some, asI_int, asB_bl, asL_some, asN_some, ite3_t, ite3_f, bl_1, bl_lenT, bl_lenR, bl_lenL, bl_lenS, bl_tuple, bl_list, bl_abs, bl_intI, bl_intB, bl_max, bl_min, op_eqSf, op_eqSt, op_eqIf, op_eqIt, op_eqTf, op_eqTt, op_eqRf, op_eqRt, op_eqNf, op_eqNt, eqD_int, eqD_nil, pl_int, pl_nil, pl_non, pl_rnil, pl_bl, sl_tupE, sl_rolE, keep_ref, keep_tup, keep_rol, tp_int, tp_tup, tp_rol, tp_str, tp_bl, tp_non, tp_ref, oFd, oMd, oPw, oShl, oLt, oLe, oGt, oGe, op_in, op_cp, wipe_nil, wipe_cons, mset_same, true_and, and_true, isN_int, ex_lstF, ex_repF, ex_lgF1, ex_lgF2, ex_tupRg1, ex_tupRg2, ex_frz, ex_slF, ex_slM, sl_tupF, sl_rolF, op_iiF, op_ssF, op_ttF, op_rrF, op_rrM, op_mmF, op_repF, li_rol, li_ref, bl_listF, bl_allF, bl_anyF, asT_some, asJ_some, op_eqBf, op_eqBt, isN_non, Bool.not_true, Bool.not_false, rep2])
      refine k5 m B _ _ _ (by omega) tZ hB fun d' _ hd' => ?_
      rw [← hd.uniq hd']
      (try simp only [ex_c, ex_var, ex_op, ex_un, ex_b, ex_and, ex_or, ex_not, ex_andV, ex_orV, ex_notV, ex_if, ex_chain, ex_nil, ex_cons, ex_tup, ex_lst, ex_call, ex_callP, ex_cb, ex_bm, ex_rep, ex_sl, ex_noPart, ex_part, ex_yes, it_items, it_rng1, it_rng2, tg_name, tg_sub, tg_tup, tg_cons, tg_nil, gs_0, gs_s, ss_0, ss_s, op_ii, op_ss, op_tt, op_mm, op_sb, op_ng, op_iNf, op_iNt, op_lle, op_ixT, op_ixR, op_ixL, op_putE, op_appE, it_tupE, it_rolE, it_refE, lstOf_l, exL, asS_some, asI_int, asB_bl, asL_some, asN_some, ite3_t, ite3_f, bl_1, bl_lenT, bl_lenR, bl_lenL, bl_lenS, bl_tuple, bl_list, bl_abs, bl_intI, bl_intB, bl_max, bl_min, op_eqSf, op_eqSt, op_eqIf, op_eqIt, op_eqTf, op_eqTt, op_eqRf, op_eqRt, op_eqNf, op_eqNt, eqD_int, eqD_nil, pl_int, pl_nil, pl_non, pl_rnil, pl_bl, sl_tupE, sl_rolE, keep_ref, keep_tup, keep_rol, tp_int, tp_tup, tp_rol, tp_str, tp_bl, tp_non, tp_ref, oFd, oMd, oPw, oShl, oLt, oLe, oGt, oGe, op_in, op_cp, wipe_nil, wipe_cons, mset_same, true_and, and_true, isN_int, ex_lstF, ex_repF, ex_lgF1, ex_lgF2, ex_tupRg1, ex_tupRg2, ex_frz, ex_slF, ex_slM, sl_tupF, sl_rolF, op_iiF, op_ssF, op_ttF, op_rrF, op_rrM, op_mmF, op_repF, li_rol, li_ref, bl_listF, bl_allF, bl_anyF, asT_some, asJ_some, op_eqBf, op_eqBt, isN_non, Bool.not_true, Bool.not_false, rep2, bl_reprE (cl_top hd) sd, decide_true, Bool.not_true])
      rw [st_next]
      exact nx _ rfl _ _ rfl rfl
    · rintro τ M7 ⟨f7, y7, y8, y9, rfl⟩
      try dsimp only
      rw [st_if]
      simp only [ex_c, ex_var, ex_op, ex_un, ex_b, ex_and, ex_or, ex_not, ex_andV, ex_orV, ex_notV, ex_if, ex_chain, ex_nil, ex_cons, ex_tup, ex_lst, ex_call, ex_callP, ex_cb, ex_bm, ex_rep, ex_sl, ex_noPart, ex_part, ex_yes, it_items, it_rng1, it_rng2, tg_name, tg_sub, tg_tup, tg_cons, tg_nil, gs_0, gs_s, ss_0, ss_s, op_ii, op_ss, op_tt, op_mm, op_sb, op_ng, op_iNf, op_iNt, op_lle, op_ixT, op_ixR, op_ixL, op_putE, op_appE, it_tupE, it_rolE, it_refE, lstOf_l, exL, asS_some, asI_int, asB_bl, asL_some, asN_some, ite3_t, ite3_f, bl_1, bl_lenT, bl_lenR, bl_lenL, bl_lenS, bl_tuple, bl_list, bl_abs, bl_intI, bl_intB, bl_max, bl_min, op_eqSf, op_eqSt, op_eqIf, op_eqIt, op_eqTf, op_eqTt, op_eqRf, op_eqRt, op_eqNf, op_eqNt, eqD_int, eqD_nil, pl_int, pl_nil, pl_non, pl_rnil, pl_bl, sl_tupE, sl_rolE, keep_ref, keep_tup, keep_rol, tp_int, tp_tup, tp_rol, tp_str, tp_bl, tp_non, tp_ref, oFd, oMd, oPw, oShl, oLt, oLe, oGt, oGe, op_in, op_cp, wipe_nil, wipe_cons, mset_same, true_and, and_true, isN_int, ex_lstF, ex_repF, ex_lgF1, ex_lgF2, ex_tupRg1, ex_tupRg2, ex_frz, ex_slF, ex_slM, sl_tupF, sl_rolF, op_iiF, op_ssF, op_ttF, op_rrF, op_rrM, op_mmF, op_repF, li_rol, li_ref, bl_listF, bl_allF, bl_anyF, asT_some, asJ_some, op_eqBf, op_eqBt, isN_non, Bool.not_true, Bool.not_false, rep2, bl_reprE (tp2 _) sh2, decide_true]
      refine ⟨by show 2 ≤ sizeLine; omega, ?_⟩
      rw [st_next]
      exact hX _ _ ⟨hi, f7.mono (by omega), _, _, _, _, _, _, _, _, rfl⟩
  · rintro τ M ⟨_, f, x2, x3, x4, x5, x6, x7, x8, x9, rfl⟩
    try dsimp only
    rw [st_ret]
    simp only [ex_c, ex_var, ex_op, ex_un, ex_b, ex_and, ex_or, ex_not, ex_andV, ex_orV, ex_notV, ex_if, ex_chain, ex_nil, ex_cons, ex_tup, ex_lst, ex_call, ex_callP, ex_cb, ex_bm, ex_rep, ex_sl, ex_noPart, ex_part, ex_yes, it_items, it_rng1, it_rng2, tg_name, tg_sub, tg_tup, tg_cons, tg_nil, gs_0, gs_s, ss_0, ss_s, op_ii, op_ss, op_tt, op_mm, op_sb, op_ng, op_iNf, op_iNt, op_lle, op_ixT, op_ixR, op_ixL, op_putE, op_appE, it_tupE, it_rolE, it_refE, lstOf_l, exL, asS_some, asI_int, asB_bl, asL_some, asN_some, ite3_t, ite3_f, bl_1, bl_lenT, bl_lenR, bl_lenL, bl_lenS, bl_tuple, bl_list, bl_abs, bl_intI, bl_intB, bl_max, bl_min, op_eqSf, op_eqSt, op_eqIf, op_eqIt, op_eqTf, op_eqTt, op_eqRf, op_eqRt, op_eqNf, op_eqNt, eqD_int, eqD_nil, pl_int, pl_nil, pl_non, pl_rnil, pl_bl, sl_tupE, sl_rolE, keep_ref, keep_tup, keep_rol, tp_int, tp_tup, tp_rol, tp_str, tp_bl, tp_non, tp_ref, oFd, oMd, oPw, oShl, oLt, oLe, oGt, oGe, op_in, op_cp, wipe_nil, wipe_cons, mset_same, true_and, and_true, isN_int, ex_lstF, ex_repF, ex_lgF1, ex_lgF2, ex_tupRg1, ex_tupRg2, ex_frz, ex_slF, ex_slM, sl_tupF, sl_rolF, op_iiF, op_ssF, op_ttF, op_rrF, op_rrM, op_mmF, op_repF, li_rol, li_ref, bl_listF, bl_allF, bl_anyF, asT_some, asJ_some, op_eqBf, op_eqBt, isN_non, Bool.not_true, Bool.not_false, rep2]
theorem said : ∀ ns : List Int, ns.length ≤ 63 → sp_law [.rol (ns.map D.int)] M0 (fun v _ => v = .bl true) (fun _ _ _ => False) := fun ns _ =>
  m_law m_feed m_draw (m_any m_draw m_closed m_table L3.s_pinned) (L3.s_both m_lesser m_closed) m_lclosed L3.s_leastE L3.s_greatest (L3.s_around m_closed L3.s_greater) ns
end W
set_option Elab.async false
set_option linter.all false
set_option maxRecDepth 100000
set_option maxHeartbeats 4000000
namespace W
open PySem PySem.Spec PyProof.Rows L2 L3
theorem all_mk {l : PySem.W.OpenLaw} {w : World} {K : PySem.W.Frag} {h : Heap} {mg : PySem.Str → Option Value} {fa f1 f2 f3 f4 f5 f6 f7 f8 f9 f10 f11 f12 f13 f14 f15 f16 f17 : Addr} (X : K.In h) (G : h.Ns mainGlobals mg) (hfa : mg "law" = some (.ref fa))
    {od1 an1 od2 an2 od3 an3 od4 an4 od5 an5 od6 an6 od7 an7 od8 an8 od9 an9 od10 an10 od11 an11 od12 an12 od13 an13 od14 an14 od15 an15 od16 an16 od17 an17 : Option Addr} {sl1 sl2 sl3 sl4 sl5 sl6 sl7 sl8 sl9 sl10 sl11 sl12 sl13 sl14 sl15 sl16 sl17 : Array (Option Value)} {oc1 kV1 dc1 pm1 cd1 ct1 oc2 kV2 dc2 pm2 cd2 ct2 oc3 kV3 dc3 pm3 cd3 ct3 oc4 kV4 dc4 pm4 cd4 ct4 oc5 kV5 dc5 pm5 cd5 ct5 oc6 kV6 dc6 pm6 cd6 ct6 oc7 kV7 dc7 pm7 cd7 ct7 oc8 kV8 dc8 pm8 cd8 ct8 oc9 kV9 dc9 pm9 cd9 ct9 oc10 kV10 dc10 pm10 cd10 ct10 oc11 kV11 dc11 pm11 cd11 ct11 oc12 kV12 dc12 pm12 cd12 ct12 oc13 kV13 dc13 pm13 cd13 ct13 oc14 kV14 dc14 pm14 cd14 ct14 oc15 kV15 dc15 pm15 cd15 ct15 oc16 kV16 dc16 pm16 cd16 ct16 oc17 kV17 dc17 pm17 cd17 ct17 : Value}
    (a1 : PySem.W.nsIn K mainGlobals ("joined" : PySem.Str) = some (some (.ref f1))) (l1 : K.lookup f1 = some ⟨oc1, od1, .func (PySem.W.fnOf ("joined" : PySem.Str) ("joined" : PySem.Str) (defArgs s_joined) (defBody s_joined) (defScope s_joined) .none kV1 dc1 pm1 an1 cd1 ct1), sl1⟩) (c1 : PySem.W.codeIn K cd1 ("joined" : PySem.Str) = true) (k1 : PySem.W.keepIn K (.ref f1) = true)
    (a2 : PySem.W.nsIn K mainGlobals ("lesser" : PySem.Str) = some (some (.ref f2))) (l2 : K.lookup f2 = some ⟨oc2, od2, .func (PySem.W.fnOf ("lesser" : PySem.Str) ("lesser" : PySem.Str) (defArgs s_lesser) (defBody s_lesser) (defScope s_lesser) .none kV2 dc2 pm2 an2 cd2 ct2), sl2⟩) (c2 : PySem.W.codeIn K cd2 ("lesser" : PySem.Str) = true) (k2 : PySem.W.keepIn K (.ref f2) = true)
    (a3 : PySem.W.nsIn K mainGlobals ("greater" : PySem.Str) = some (some (.ref f3))) (l3 : K.lookup f3 = some ⟨oc3, od3, .func (PySem.W.fnOf ("greater" : PySem.Str) ("greater" : PySem.Str) (defArgs s_greater) (defBody s_greater) (defScope s_greater) .none kV3 dc3 pm3 an3 cd3 ct3), sl3⟩) (c3 : PySem.W.codeIn K cd3 ("greater" : PySem.Str) = true) (k3 : PySem.W.keepIn K (.ref f3) = true)
    (a4 : PySem.W.nsIn K mainGlobals ("closed" : PySem.Str) = some (some (.ref f4))) (l4 : K.lookup f4 = some ⟨oc4, od4, .func (PySem.W.fnOf ("closed" : PySem.Str) ("closed" : PySem.Str) (defArgs s_closed) (defBody s_closed) (defScope s_closed) .none kV4 dc4 pm4 an4 cd4 ct4), sl4⟩) (c4 : PySem.W.codeIn K cd4 ("closed" : PySem.Str) = true) (k4 : PySem.W.keepIn K (.ref f4) = true)
    (a5 : PySem.W.nsIn K mainGlobals ("both" : PySem.Str) = some (some (.ref f5))) (l5 : K.lookup f5 = some ⟨oc5, od5, .func (PySem.W.fnOf ("both" : PySem.Str) ("both" : PySem.Str) (defArgs s_both) (defBody s_both) (defScope s_both) .none kV5 dc5 pm5 an5 cd5 ct5), sl5⟩) (c5 : PySem.W.codeIn K cd5 ("both" : PySem.Str) = true) (k5 : PySem.W.keepIn K (.ref f5) = true)
    (a6 : PySem.W.nsIn K mainGlobals ("around" : PySem.Str) = some (some (.ref f6))) (l6 : K.lookup f6 = some ⟨oc6, od6, .func (PySem.W.fnOf ("around" : PySem.Str) ("around" : PySem.Str) (defArgs s_around) (defBody s_around) (defScope s_around) .none kV6 dc6 pm6 an6 cd6 ct6), sl6⟩) (c6 : PySem.W.codeIn K cd6 ("around" : PySem.Str) = true) (k6 : PySem.W.keepIn K (.ref f6) = true)
    (a7 : PySem.W.nsIn K mainGlobals ("pinned" : PySem.Str) = some (some (.ref f7))) (l7 : K.lookup f7 = some ⟨oc7, od7, .func (PySem.W.fnOf ("pinned" : PySem.Str) ("pinned" : PySem.Str) (defArgs s_pinned) (defBody s_pinned) (defScope s_pinned) .none kV7 dc7 pm7 an7 cd7 ct7), sl7⟩) (c7 : PySem.W.codeIn K cd7 ("pinned" : PySem.Str) = true) (k7 : PySem.W.keepIn K (.ref f7) = true)
    (a8 : PySem.W.nsIn K mainGlobals ("_law_feed" : PySem.Str) = some (some (.ref f8))) (l8 : K.lookup f8 = some ⟨oc8, od8, .func (PySem.W.fnOf ("_law_feed" : PySem.Str) ("_law_feed" : PySem.Str) (defArgs s__law_feed) (defBody s__law_feed) (defScope s__law_feed) .none kV8 dc8 pm8 an8 cd8 ct8), sl8⟩) (c8 : PySem.W.codeIn K cd8 ("_law_feed" : PySem.Str) = true) (k8 : PySem.W.keepIn K (.ref f8) = true)
    (a9 : PySem.W.nsIn K mainGlobals ("_law_draw" : PySem.Str) = some (some (.ref f9))) (l9 : K.lookup f9 = some ⟨oc9, od9, .func (PySem.W.fnOf ("_law_draw" : PySem.Str) ("_law_draw" : PySem.Str) (defArgs s__law_draw) (defBody s__law_draw) (defScope s__law_draw) .none kV9 dc9 pm9 an9 cd9 ct9), sl9⟩) (c9 : PySem.W.codeIn K cd9 ("_law_draw" : PySem.Str) = true) (k9 : PySem.W.keepIn K (.ref f9) = true)
    (a10 : PySem.W.nsIn K mainGlobals ("_law_end" : PySem.Str) = some (some (.ref f10))) (l10 : K.lookup f10 = some ⟨oc10, od10, .func (PySem.W.fnOf ("_law_end" : PySem.Str) ("_law_end" : PySem.Str) (defArgs s__law_end) (defBody s__law_end) (defScope s__law_end) .none kV10 dc10 pm10 an10 cd10 ct10), sl10⟩) (c10 : PySem.W.codeIn K cd10 ("_law_end" : PySem.Str) = true) (k10 : PySem.W.keepIn K (.ref f10) = true)
    (a11 : PySem.W.nsIn K mainGlobals ("_law_table" : PySem.Str) = some (some (.ref f11))) (l11 : K.lookup f11 = some ⟨oc11, od11, .func (PySem.W.fnOf ("_law_table" : PySem.Str) ("_law_table" : PySem.Str) (defArgs s__law_table) (defBody s__law_table) (defScope s__law_table) .none kV11 dc11 pm11 an11 cd11 ct11), sl11⟩) (c11 : PySem.W.codeIn K cd11 ("_law_table" : PySem.Str) = true) (k11 : PySem.W.keepIn K (.ref f11) = true)
    (a12 : PySem.W.nsIn K mainGlobals ("_law_least" : PySem.Str) = some (some (.ref f12))) (l12 : K.lookup f12 = some ⟨oc12, od12, .func (PySem.W.fnOf ("_law_least" : PySem.Str) ("_law_least" : PySem.Str) (defArgs s__law_least) (defBody s__law_least) (defScope s__law_least) .none kV12 dc12 pm12 an12 cd12 ct12), sl12⟩) (c12 : PySem.W.codeIn K cd12 ("_law_least" : PySem.Str) = true) (k12 : PySem.W.keepIn K (.ref f12) = true)
    (a13 : PySem.W.nsIn K mainGlobals ("_law_closed" : PySem.Str) = some (some (.ref f13))) (l13 : K.lookup f13 = some ⟨oc13, od13, .func (PySem.W.fnOf ("_law_closed" : PySem.Str) ("_law_closed" : PySem.Str) (defArgs s__law_closed) (defBody s__law_closed) (defScope s__law_closed) .none kV13 dc13 pm13 an13 cd13 ct13), sl13⟩) (c13 : PySem.W.codeIn K cd13 ("_law_closed" : PySem.Str) = true) (k13 : PySem.W.keepIn K (.ref f13) = true)
    (a14 : PySem.W.nsIn K mainGlobals ("_law_least_ends" : PySem.Str) = some (some (.ref f14))) (l14 : K.lookup f14 = some ⟨oc14, od14, .func (PySem.W.fnOf ("_law_least_ends" : PySem.Str) ("_law_least_ends" : PySem.Str) (defArgs s__law_least_ends) (defBody s__law_least_ends) (defScope s__law_least_ends) .none kV14 dc14 pm14 an14 cd14 ct14), sl14⟩) (c14 : PySem.W.codeIn K cd14 ("_law_least_ends" : PySem.Str) = true) (k14 : PySem.W.keepIn K (.ref f14) = true)
    (a15 : PySem.W.nsIn K mainGlobals ("_law_greatest_ends" : PySem.Str) = some (some (.ref f15))) (l15 : K.lookup f15 = some ⟨oc15, od15, .func (PySem.W.fnOf ("_law_greatest_ends" : PySem.Str) ("_law_greatest_ends" : PySem.Str) (defArgs s__law_greatest_ends) (defBody s__law_greatest_ends) (defScope s__law_greatest_ends) .none kV15 dc15 pm15 an15 cd15 ct15), sl15⟩) (c15 : PySem.W.codeIn K cd15 ("_law_greatest_ends" : PySem.Str) = true) (k15 : PySem.W.keepIn K (.ref f15) = true)
    (a16 : PySem.W.nsIn K mainGlobals ("_law_any" : PySem.Str) = some (some (.ref f16))) (l16 : K.lookup f16 = some ⟨oc16, od16, .func (PySem.W.fnOf ("_law_any" : PySem.Str) ("_law_any" : PySem.Str) (defArgs s__law_any) (defBody s__law_any) (defScope s__law_any) .none kV16 dc16 pm16 an16 cd16 ct16), sl16⟩) (c16 : PySem.W.codeIn K cd16 ("_law_any" : PySem.Str) = true) (k16 : PySem.W.keepIn K (.ref f16) = true)
    (a17 : PySem.W.nsIn K mainGlobals ("law" : PySem.Str) = some (some (.ref f17))) (l17 : K.lookup f17 = some ⟨oc17, od17, .func (PySem.W.fnOf ("law" : PySem.Str) ("law" : PySem.Str) (defArgs s_law) (defBody s_law) (defScope s_law) .none kV17 dc17 pm17 an17 cd17 ct17), sl17⟩) (c17 : PySem.W.codeIn K cd17 ("law" : PySem.Str) = true) (k17 : PySem.W.keepIn K (.ref f17) = true)
    (z0 : PySem.W.nsIn K mainGlobals ("any" : PySem.Str) = some none)
    (z1 : PySem.W.nsIn K mainGlobals ("int" : PySem.Str) = some none)
    (z2 : PySem.W.nsIn K mainGlobals ("len" : PySem.Str) = some none)
    (z3 : PySem.W.nsIn K mainGlobals ("list" : PySem.Str) = some none)
    (z4 : PySem.W.nsIn K mainGlobals ("max" : PySem.Str) = some none)
    (z5 : PySem.W.nsIn K mainGlobals ("min" : PySem.Str) = some none)
    (z6 : PySem.W.nsIn K mainGlobals ("range" : PySem.Str) = some none)
    (z7 : PySem.W.nsIn K mainGlobals ("repr" : PySem.Str) = some none)
    (z8 : PySem.W.nsIn K mainGlobals ("tuple" : PySem.Str) = some none)
    (z9 : PySem.W.nsIn K mainGlobals ("zip" : PySem.Str) = some none)
    : ∃ fd : FuncData, (∀ (s : Shared) (v : Value), BindsTo s fd ⟨[v], []⟩ [(("_law_script" : PySem.Str), v)]) ∧ ∀ base : Heap, K.In base → base.Ns mainGlobals mg → FnG l.prog w K mg base (L2.CX l.prog w) 5 fa fd [("_law_script" : PySem.Str)] (liftSp K sp_law) := by
  have e := hfa.symm.trans (PySem.W.mg_of X G a17)
  cases e
  have F1 := fun_mk (st := s_joined) l1 c1 k1
  have b1 := F1.binds (ps := [("first" : PySem.Str), ("second" : PySem.Str)]) fun _ _ _ _ _ _ us hl => match us, hl with | [_, _], _ => rfl
  have F2 := fun_mk (st := s_lesser) l2 c2 k2
  have b2 := F2.binds (ps := [("first" : PySem.Str), ("second" : PySem.Str)]) fun _ _ _ _ _ _ us hl => match us, hl with | [_, _], _ => rfl
  have F3 := fun_mk (st := s_greater) l3 c3 k3
  have b3 := F3.binds (ps := [("first" : PySem.Str), ("second" : PySem.Str)]) fun _ _ _ _ _ _ us hl => match us, hl with | [_, _], _ => rfl
  have F4 := fun_mk (st := s_closed) l4 c4 k4
  have b4 := F4.binds (ps := [("table" : PySem.Str)]) fun _ _ _ _ _ _ us hl => match us, hl with | [_], _ => rfl
  have F5 := fun_mk (st := s_both) l5 c5 k5
  have b5 := F5.binds (ps := [("one" : PySem.Str), ("other" : PySem.Str)]) fun _ _ _ _ _ _ us hl => match us, hl with | [_, _], _ => rfl
  have F6 := fun_mk (st := s_around) l6 c6 k6
  have b6 := F6.binds (ps := [("one" : PySem.Str), ("other" : PySem.Str)]) fun _ _ _ _ _ _ us hl => match us, hl with | [_, _], _ => rfl
  have F7 := fun_mk (st := s_pinned) l7 c7 k7
  have b7 := F7.binds (ps := [("values" : PySem.Str)]) fun _ _ _ _ _ _ us hl => match us, hl with | [_], _ => rfl
  have F8 := fun_mk (st := s__law_feed) l8 c8 k8
  have b8 := F8.binds (ps := [("_law_script" : PySem.Str)]) fun _ _ _ _ _ _ us hl => match us, hl with | [_], _ => rfl
  have F9 := fun_mk (st := s__law_draw) l9 c9 k9
  have b9 := F9.binds (ps := [("_law_feed_here" : PySem.Str), ("_law_many" : PySem.Str)]) fun _ _ _ _ _ _ us hl => match us, hl with | [_, _], _ => rfl
  have F10 := fun_mk (st := s__law_end) l10 c10 k10
  have b10 := F10.binds (ps := [("_law_feed_here" : PySem.Str), ("_law_way" : PySem.Str), ("_law_gap" : PySem.Str)]) fun _ _ _ _ _ _ us hl => match us, hl with | [_, _, _], _ => rfl
  have F11 := fun_mk (st := s__law_table) l11 c11 k11
  have b11 := F11.binds (ps := [("_law_feed_here" : PySem.Str), ("_law_many" : PySem.Str)]) fun _ _ _ _ _ _ us hl => match us, hl with | [_, _], _ => rfl
  have F12 := fun_mk (st := s__law_least) l12 c12 k12
  have b12 := F12.binds (ps := [("_law_table_here" : PySem.Str), ("_law_p" : PySem.Str)]) fun _ _ _ _ _ _ us hl => match us, hl with | [_, _], _ => rfl
  have F13 := fun_mk (st := s__law_closed) l13 c13 k13
  have b13 := F13.binds (ps := [("_law_table_here" : PySem.Str)]) fun _ _ _ _ _ _ us hl => match us, hl with | [_], _ => rfl
  have F14 := fun_mk (st := s__law_least_ends) l14 c14 k14
  have b14 := F14.binds (ps := [("_law_one" : PySem.Str), ("_law_other" : PySem.Str)]) fun _ _ _ _ _ _ us hl => match us, hl with | [_, _], _ => rfl
  have F15 := fun_mk (st := s__law_greatest_ends) l15 c15 k15
  have b15 := F15.binds (ps := [("_law_one" : PySem.Str), ("_law_other" : PySem.Str)]) fun _ _ _ _ _ _ us hl => match us, hl with | [_, _], _ => rfl
  have F16 := fun_mk (st := s__law_any) l16 c16 k16
  have b16 := F16.binds (ps := [("_law_feed_here" : PySem.Str), ("_law_many" : PySem.Str)]) fun _ _ _ _ _ _ us hl => match us, hl with | [_, _], _ => rfl
  have F17 := fun_mk (st := s_law) l17 c17 k17
  have b17 := F17.binds (ps := [("_law_script" : PySem.Str)]) fun _ _ _ _ _ _ us hl => match us, hl with | [_], _ => rfl
  have zz_any := PySem.W.mg_none_of X G z0
  have zz_int := PySem.W.mg_none_of X G z1
  have zz_len := PySem.W.mg_none_of X G z2
  have zz_list := PySem.W.mg_none_of X G z3
  have zz_max := PySem.W.mg_none_of X G z4
  have zz_min := PySem.W.mg_none_of X G z5
  have zz_range := PySem.W.mg_none_of X G z6
  have zz_repr := PySem.W.mg_none_of X G z7
  have zz_tuple := PySem.W.mg_none_of X G z8
  have zz_zip := PySem.W.mg_none_of X G z9
  refine ⟨PySem.W.fnOf "law" "law" (defArgs s_law) (defBody s_law) (defScope s_law) .none kV17 dc17 pm17 an17 cd17 ct17, fun s v => .of_eq rfl, fun base _ _ => ?_⟩
  have D_joined := ok_joined (P := l.prog) (w := w) (base := base) (PySem.W.mg_of X G a1) F1 b1         
  have D_lesser := ok_lesser (P := l.prog) (w := w) (base := base) (PySem.W.mg_of X G a2) F2 b2 zz_min        
  have D_greater := ok_greater (P := l.prog) (w := w) (base := base) (PySem.W.mg_of X G a3) F3 b3 zz_max        
  have D_closed := ok_closed (P := l.prog) (w := w) (base := base) (PySem.W.mg_of X G a4) F4 b4 zz_any zz_len zz_list zz_range zz_tuple        D_lesser D_joined
  have D_both := ok_both (P := l.prog) (w := w) (base := base) (PySem.W.mg_of X G a5) F5 b5 zz_tuple zz_zip        D_lesser D_closed
  have D_around := ok_around (P := l.prog) (w := w) (base := base) (PySem.W.mg_of X G a6) F6 b6 zz_tuple zz_zip        D_closed D_greater
  have D_pinned := ok_pinned (P := l.prog) (w := w) (base := base) (PySem.W.mg_of X G a7) F7 b7 zz_tuple        
  have D__law_feed := ok__law_feed (P := l.prog) (w := w) (base := base) (PySem.W.mg_of X G a8) F8 b8         
  have D__law_draw := ok__law_draw (P := l.prog) (w := w) (base := base) (PySem.W.mg_of X G a9) F9 b9 zz_len        
  have D__law_end := ok__law_end (P := l.prog) (w := w) (base := base) (PySem.W.mg_of X G a10) F10 b10 zz_max zz_min        D__law_draw
  have D__law_table := ok__law_table (P := l.prog) (w := w) (base := base) (PySem.W.mg_of X G a11) F11 b11 zz_int zz_range zz_tuple        D__law_draw D__law_end
  have D__law_least := ok__law_least (P := l.prog) (w := w) (base := base) (PySem.W.mg_of X G a12) F12 b12 zz_len zz_list zz_range zz_tuple        
  have D__law_closed := ok__law_closed (P := l.prog) (w := w) (base := base) (PySem.W.mg_of X G a13) F13 b13 zz_len zz_range zz_tuple        D__law_least
  have D__law_least_ends := ok__law_least_ends (P := l.prog) (w := w) (base := base) (PySem.W.mg_of X G a14) F14 b14 zz_min zz_tuple zz_zip        
  have D__law_greatest_ends := ok__law_greatest_ends (P := l.prog) (w := w) (base := base) (PySem.W.mg_of X G a15) F15 b15 zz_max zz_tuple zz_zip        
  have D__law_any := ok__law_any (P := l.prog) (w := w) (base := base) (PySem.W.mg_of X G a16) F16 b16 zz_range zz_tuple        D__law_draw D_closed D__law_table D_pinned
  exact ok_law (P := l.prog) (w := w) (base := base) F17 zz_len zz_max zz_min zz_range zz_repr        D__law_feed D__law_draw D__law_any D_both D__law_closed D__law_least_ends D__law_greatest_ends D_around
end W
open PySem PySem.W PyProof.Rows
set_option maxRecDepth 100000 in
set_option maxHeartbeats 0 in
theorem PySem.Challenge.cw_everturns_k08_both_and_around_far_holds : PySem.Challenge.rw_everturns_k08_both_and_around_far.Holds := by
  w_on; o_law; k_head; (case hw => w_witness2)
  k_fill
  refine L3.law_end (l := PySem.Challenge.rw_everturns_k08_both_and_around_far) (CX := fun P w => L2.CX P w) (sp := W.sp_law) (k := 5) (x := ("_law_script" : PySem.Str)) rfl rfl ⟨rfl, by decide, by decide⟩ (fun w h Y => PySem.W.kIn_of Y) ?F W.said L3.quietX
  case F =>
    intro w mg fa h KX G hmg
    refine' W.all_mk KX G hmg ?a1 ?l1 ?c1 ?k1 ?a2 ?l2 ?c2 ?k2 ?a3 ?l3 ?c3 ?k3 ?a4 ?l4 ?c4 ?k4 ?a5 ?l5 ?c5 ?k5 ?a6 ?l6 ?c6 ?k6 ?a7 ?l7 ?c7 ?k7 ?a8 ?l8 ?c8 ?k8 ?a9 ?l9 ?c9 ?k9 ?a10 ?l10 ?c10 ?k10 ?a11 ?l11 ?c11 ?k11 ?a12 ?l12 ?c12 ?k12 ?a13 ?l13 ?c13 ?k13 ?a14 ?l14 ?c14 ?k14 ?a15 ?l15 ?c15 ?k15 ?a16 ?l16 ?c16 ?k16 ?a17 ?l17 ?c17 ?k17 ?z0 ?z1 ?z2 ?z3 ?z4 ?z5 ?z6 ?z7 ?z8 ?z9
    (case a1 => k_is)
    (case l1 => k_is)
    (case c1 => k_is)
    (case k1 => k_is)
    (case a2 => k_is)
    (case l2 => k_is)
    (case c2 => k_is)
    (case k2 => k_is)
    (case a3 => k_is)
    (case l3 => k_is)
    (case c3 => k_is)
    (case k3 => k_is)
    (case a4 => k_is)
    (case l4 => k_is)
    (case c4 => k_is)
    (case k4 => k_is)
    (case a5 => k_is)
    (case l5 => k_is)
    (case c5 => k_is)
    (case k5 => k_is)
    (case a6 => k_is)
    (case l6 => k_is)
    (case c6 => k_is)
    (case k6 => k_is)
    (case a7 => k_is)
    (case l7 => k_is)
    (case c7 => k_is)
    (case k7 => k_is)
    (case a8 => k_is)
    (case l8 => k_is)
    (case c8 => k_is)
    (case k8 => k_is)
    (case a9 => k_is)
    (case l9 => k_is)
    (case c9 => k_is)
    (case k9 => k_is)
    (case a10 => k_is)
    (case l10 => k_is)
    (case c10 => k_is)
    (case k10 => k_is)
    (case a11 => k_is)
    (case l11 => k_is)
    (case c11 => k_is)
    (case k11 => k_is)
    (case a12 => k_is)
    (case l12 => k_is)
    (case c12 => k_is)
    (case k12 => k_is)
    (case a13 => k_is)
    (case l13 => k_is)
    (case c13 => k_is)
    (case k13 => k_is)
    (case a14 => k_is)
    (case l14 => k_is)
    (case c14 => k_is)
    (case k14 => k_is)
    (case a15 => k_is)
    (case l15 => k_is)
    (case c15 => k_is)
    (case k15 => k_is)
    (case a16 => k_is)
    (case l16 => k_is)
    (case c16 => k_is)
    (case k16 => k_is)
    (case a17 => k_is)
    (case l17 => k_is)
    (case c17 => k_is)
    (case k17 => k_is)
    (case z0 => k_is)
    (case z1 => k_is)
    (case z2 => k_is)
    (case z3 => k_is)
    (case z4 => k_is)
    (case z5 => k_is)
    (case z6 => k_is)
    (case z7 => k_is)
    (case z8 => k_is)
    (case z9 => k_is)
