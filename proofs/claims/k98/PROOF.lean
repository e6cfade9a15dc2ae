import PyProof.Rows.All
import Wide.All
import OpenK.AllK
import Wide.FinOn
import HandS.ForMost
import HandS.Wide
import HandS.Zip
import HandS.TupAny
import HandS.Conv
import HandS.WordsExc
import KE.GoesMore
import HandS.Style
import HandS.Deep
import KE.DatumOrd
import HandS.IsInst
import HandS.Dict
import HandS.SetFor
import HandS.Exc
import HandS.ExcInit
import HandS.TryOnly
import HandS.CallSlots
import HandS.ExcIs
import HandS.ExcField
import KE.KIsAll
import KE.KTryMore
import HandS.Property
import HandS.Star
import HandS.FStr
import OpenK.KOps
import OpenK.KMeth
import KE.KCallOwn
import HandS.Defaults
import HandS.ExcOwn
import HandS.OwnEq
import PyProof.InstNe
import PyProof.ReprBulk
import PyProof.Rows.ReprOcc
import PySem.Challenge.RW_everturns_k98_loops_and_other_things
set_option Elab.async false
set_option linter.all false
set_option maxRecDepth 100000
set_option maxHeartbeats 4000000
namespace L3
open PySem PySem.Spec PyProof.Rows L2
inductive D where
  | non | bl (b : Bool) | int (i : Int) | str (x : Str)
  | tup (xs : List D)
  | rol (xs : List D)
  | ref (a : Addr)
  | ty (n : String)
/-- a list that nobody writes: the script -/
def RoL (K : PySem.W.Frag) (H : Hp) (a : Addr) (xs : List V) : Prop :=
  (∃ o, H a = some (.frz o (.lst xs))) ∨
    ∃ (its : Array Value) (n : Nat), K.lookup a = some { cls := .type "list", data := .seq its n } ∧ its.size ≤ sizeLine ∧ Vals xs its.toList
theorem RoL.sq {K : PySem.W.Frag} {H : Hp} {a : Addr} {xs : List V} (h : RoL K H a xs) : SqL K H a xs := by
  rcases h with h | ⟨its, n, h, z, v⟩
  · exact .inl (.inr h)
  · exact .inr ⟨_, its, n, h, rfl, rfl, rfl, z, v⟩
mutual
inductive RD (K : PySem.W.Frag) (H : Hp) : V → D → Prop
  | non : RD K H .non .non
  | bl (b : Bool) : RD K H (.bl b) (.bl b)
  | int (i : Int) : RD K H (.int i) (.int i)
  | str (x : Str) : RD K H (.str x) (.str x)
  | ref (a : Addr) : RD K H (.ref a) (.ref a)
  | ty (n : String) : RD K H (.ty n) (.ty n)
  | tup {a : Addr} {vs : List V} {ds : List D} : SqT K H a vs → RDs K H vs ds → RD K H (.ref a) (.tup ds)
  | rol {a : Addr} {vs : List V} {ds : List D} : RoL K H a vs → RDs K H vs ds → RD K H (.ref a) (.rol ds)
inductive RDs (K : PySem.W.Frag) (H : Hp) : List V → List D → Prop
  | nil : RDs K H [] []
  | cons {v : V} {vs : List V} {d : D} {ds : List D} : RD K H v d → RDs K H vs ds → RDs K H (v :: vs) (d :: ds)
end
/-- what stands at a mutable address -/
inductive MO where
  | lst (ds : List D)
  | dK (kvs : List (Key × D))
  | dT (kvs : List (List Key × D))
  /-- a dict that is walked: read, not written -/
  | dL (o : Obj) (ks : List (Key × V)) (kvs : List (Key × D))
  /-- the same, its keys tuples -/
  | dM (o : Obj) (ks : List (List Key × V)) (kvs : List (List Key × D))
  | ins (n : Str) (fs : List (Str × D))
abbrev Mp := Addr → Option MO
def mset (M : Mp) (a : Addr) (o : MO) : Mp := fun b => if b = a then some o else M b
def M0 : Mp := fun _ => none
theorem mset_same {M : Mp} {a : Addr} {o : MO} : mset M a o a = some o := if_pos rfl
theorem mset_ne {M : Mp} {a b : Addr} {o : MO} (h : b ≠ a) : mset M a o b = M b := if_neg h
theorem mset_mset {M : Mp} {a : Addr} {o u : MO} : mset (mset M a o) a u = mset M a u := by
  funext b; unfold mset; split <;> rfl
theorem ne_m {M : Mp} {a p : Addr} {o : MO} (h : M a = some o) (hp : M p = none) : a ≠ p := by
  intro e; subst e; rw [h] at hp; cases hp
def RKv {κ : Type} (K : PySem.W.Frag) (H : Hp) : List (κ × V) → List (κ × D) → Prop
  | [], [] => True
  | (k, v) :: r, (j, d) :: q => k = j ∧ RD K H v d ∧ RKv K H r q
  | _, _ => False
/-- the program's name n is that value -/
def Cl (K : PySem.W.Frag) (n : Str) (c : Value) : Prop := PySem.W.nsIn K mainGlobals n = some (some c)
def RO (K : PySem.W.Frag) (H : Hp) (a : Addr) : MO → Prop
  | .lst ds => ∃ vs, H a = some (.lst vs) ∧ RDs K H vs ds
  | .dK kvs => ∃ ks, H a = some (.dK ks) ∧ RKv K H ks kvs
  | .dT kvs => ∃ ks, H a = some (.dT ks) ∧ RKv K H ks kvs
  | .dL o ks kvs => H a = some (.frz o (.dK ks)) ∧ RKv K H ks kvs
  | .dM o ks kvs => H a = some (.frz o (.dT ks)) ∧ RKv K H ks kvs
  | .ins n fs => ∃ C dx gs, Cl K n (.ref C) ∧ H a = some (.ins C dx gs) ∧ RKv K H gs fs
def RM0 (K : PySem.W.Frag) (H : Hp) (M : Mp) : Prop := ∀ a o, M a = some o → RO K H a o
/-- M to M', H to H': what is not in M stays; what is new in M' was free -/
structure Ext (M M' : Mp) (H H' : Hp) : Prop where
  fr : ∀ a o, H a = some o → M a = none → H' a = some o
  dom : ∀ a, M' a ≠ none → M a ≠ none ∨ H a = none
theorem Ext.refl {M : Mp} {H : Hp} : Ext M M H H := ⟨fun _ _ h _ => h, fun _ h => .inl h⟩
theorem Ext.trans {M M1 M2 : Mp} {H H1 H2 : Hp} (x : Ext M M1 H H1) (y : Ext M1 M2 H1 H2) : Ext M M2 H H2 := by
  refine ⟨fun a o h hm => ?_, fun a h => ?_⟩
  · have h1 := x.fr a o h hm
    refine y.fr a o h1 ?_
    cases q : M1 a with
    | none => rfl
    | some u =>
      rcases x.dom a (by rw [q]; exact fun z => nomatch z) with z | z
      · exact absurd hm z
      · rw [h] at z; cases z
  · rcases y.dom a h with z | z
    · exact x.dom a z
    · cases q : H a with
      | none => exact .inr rfl
      | some o =>
        left
        intro hm
        have := x.fr a o q hm
        rw [z] at this; cases this
/-- some of M forgotten -/
theorem Ext.less {M M1 M2 : Mp} {H H1 : Hp} (x : Ext M M1 H H1) (l : ∀ a o, M2 a = some o → M1 a = some o) : Ext M M2 H H1 :=
  ⟨x.fr, fun a h => x.dom a (by
    cases q : M2 a with
    | none => exact absurd q h
    | some o => rw [l a o q]; exact fun z => nomatch z)⟩
theorem RM0.less {K : PySem.W.Frag} {H : Hp} {M1 M2 : Mp} (m : RM0 K H M1) (l : ∀ a o, M2 a = some o → M1 a = some o) : RM0 K H M2 := fun a o h => m a o (l a o h)
section
variable {K : PySem.W.Frag} {M M' : Mp} {H H' : Hp} {a : Addr}
theorem RM0.noTup {xs : List V} (m : RM0 K H M) (h : H a = some (.tup xs)) : M a = none := by
  cases q : M a with
  | none => rfl
  | some o =>
    have r := m a o q
    cases o with
    | lst ds => obtain ⟨_, e, _⟩ := r; rw [h] at e; cases e
    | dK ds => obtain ⟨_, e, _⟩ := r; rw [h] at e; cases e
    | dT ds => obtain ⟨_, e, _⟩ := r; rw [h] at e; cases e
    | dL o ks ds => obtain ⟨e, _⟩ := r; rw [h] at e; cases e
    | dM o ks ds => obtain ⟨e, _⟩ := r; rw [h] at e; cases e
    | ins C ds => obtain ⟨_, _, _, _, e, _⟩ := r; rw [h] at e; cases e
theorem RM0.noFrz {ob : Obj} {u : HO} (m : RM0 K H M) (h : H a = some (.frz ob u)) (hu : ∀ ks, u ≠ .dK ks) (hu2 : ∀ ks, u ≠ .dT ks := by exact fun _ z => nomatch z) : M a = none := by
  cases q : M a with
  | none => rfl
  | some o =>
    have r := m a o q
    cases o with
    | lst ds => obtain ⟨_, e, _⟩ := r; rw [h] at e; cases e
    | dK ds => obtain ⟨_, e, _⟩ := r; rw [h] at e; cases e
    | dT ds => obtain ⟨_, e, _⟩ := r; rw [h] at e; cases e
    | dL o ks ds => obtain ⟨e, _⟩ := r; rw [h] at e; cases e; exact absurd rfl (hu _)
    | dM o ks ds => obtain ⟨e, _⟩ := r; rw [h] at e; cases e; exact absurd rfl (hu2 _)
    | ins C ds => obtain ⟨_, _, _, _, e, _⟩ := r; rw [h] at e; cases e
theorem RM0.free (m : RM0 K H M) (h : H a = none) : M a = none := by
  cases q : M a with
  | none => rfl
  | some o =>
    have r := m a o q
    cases o with
    | lst ds => obtain ⟨_, e, _⟩ := r; rw [h] at e; cases e
    | dK ds => obtain ⟨_, e, _⟩ := r; rw [h] at e; cases e
    | dT ds => obtain ⟨_, e, _⟩ := r; rw [h] at e; cases e
    | dL o ks ds => obtain ⟨e, _⟩ := r; rw [h] at e; cases e
    | dM o ks ds => obtain ⟨e, _⟩ := r; rw [h] at e; cases e
    | ins C ds => obtain ⟨_, _, _, _, e, _⟩ := r; rw [h] at e; cases e
/-- what a value's reading leans on -/
def Still (K : PySem.W.Frag) (H H' : Hp) : Prop := (∀ a xs, SqT K H a xs → SqT K H' a xs) ∧ ∀ a xs, RoL K H a xs → RoL K H' a xs
theorem Still.refl : Still K H H := ⟨fun _ _ h => h, fun _ _ h => h⟩
theorem Still.trans {H1 H2 : Hp} (x : Still K H H1) (y : Still K H1 H2) : Still K H H2 := ⟨fun a xs h => y.1 a xs (x.1 a xs h), fun a xs h => y.2 a xs (x.2 a xs h)⟩
theorem Ext.still0 (x : Ext M M' H H') (m : RM0 K H M) : Still K H H' := by
  refine ⟨fun a xs h => ?_, fun a xs h => ?_⟩
  · rcases h with (h | ⟨o, h⟩) | h
    · exact .inl (.inl (x.fr a _ h (m.noTup h)))
    · exact .inl (.inr ⟨o, x.fr a _ h (m.noFrz h fun _ z => nomatch z)⟩)
    · exact .inr h
  · rcases h with ⟨o, h⟩ | h
    · exact .inl ⟨o, x.fr a _ h (m.noFrz h fun _ z => nomatch z)⟩
    · exact .inr h
mutual
theorem RD.still (s : Still K H H') : ∀ (d : D) (v : V), RD K H v d → RD K H' v d
  | .non, _, h => by cases h; exact .non
  | .bl b, _, h => by cases h; exact .bl b
  | .int i, _, h => by cases h; exact .int i
  | .str x, _, h => by cases h; exact .str x
  | .ref a, _, h => by cases h; exact .ref a
  | .ty n, _, h => by cases h; exact .ty n
  | .tup ds, _, h => by
    cases h with
    | tup h1 h2 => exact .tup (s.1 _ _ h1) (RDs.still s ds _ h2)
  | .rol ds, _, h => by
    cases h with
    | rol h1 h2 => exact .rol (s.2 _ _ h1) (RDs.still s ds _ h2)
theorem RDs.still (s : Still K H H') : ∀ (ds : List D) (vs : List V), RDs K H vs ds → RDs K H' vs ds
  | [], _, h => by cases h; exact .nil
  | d :: ds, _, h => by
    cases h with
    | cons h1 h2 => exact .cons (RD.still s d _ h1) (RDs.still s ds _ h2)
end
theorem RD.go {v : V} {d : D} (r : RD K H v d) (s : Still K H H') : RD K H' v d := RD.still s d v r
theorem RDs.go {vs : List V} {ds : List D} (r : RDs K H vs ds) (s : Still K H H') : RDs K H' vs ds := RDs.still s ds vs r
theorem RKv.go {κ : Type} (s : Still K H H') : ∀ {ks : List (κ × V)} {ds : List (κ × D)}, RKv K H ks ds → RKv K H' ks ds
  | [], [], _ => True.intro
  | (k, v) :: r, (j, d) :: q, h => ⟨h.1, h.2.1.go s, RKv.go s h.2.2⟩
  | [], _ :: _, h => h.elim
  | _ :: _, [], h => h.elim
theorem RO.go {o : MO} (r : RO K H a o) (s : Still K H H') (k : ∀ u, H a = some u → H' a = some u) : RO K H' a o := by
  cases o with
  | lst ds => obtain ⟨vs, e, q⟩ := r; exact ⟨vs, k _ e, q.go s⟩
  | dK ds => obtain ⟨vs, e, q⟩ := r; exact ⟨vs, k _ e, RKv.go s q⟩
  | dT ds => obtain ⟨vs, e, q⟩ := r; exact ⟨vs, k _ e, RKv.go s q⟩
  | dL o ks ds => obtain ⟨e, q⟩ := r; exact ⟨k _ e, RKv.go s q⟩
  | dM o ks ds => obtain ⟨e, q⟩ := r; exact ⟨k _ e, RKv.go s q⟩
  | ins n fs => obtain ⟨C, dx, vs, c, e, q⟩ := r; exact ⟨C, dx, vs, c, k _ e, RKv.go s q⟩
/-- all that was tracked is kept: M is as it was -/
theorem RM0.keep (m : RM0 K H M) (k : ∀ b u, H b = some u → H' b = some u) : Ext M M H H' ∧ RM0 K H' M := by
  have x : Ext M M H H' := ⟨fun b u h _ => k b u h, fun _ h => .inl h⟩
  exact ⟨x, fun b o h => (m b o h).go (x.still0 m) (k b)⟩
theorem RM0.upNew {p : Addr} {o : HO} (m : RM0 K H M) (hp : H p = none) : Ext M M H (upd H p o) ∧ RM0 K (upd H p o) M :=
  m.keep fun b u h => by rw [upd_ne (ne_of_none h hp)]; exact h
/-- a new object laid -/
theorem RM0.new {p : Addr} {o : HO} {mo : MO} (m : RM0 K H M) (hp : H p = none) (r : RO K (upd H p o) p mo) : Ext M (mset M p mo) H (upd H p o) ∧ RM0 K (upd H p o) (mset M p mo) := by
  have x0 : Ext M M H (upd H p o) := (m.upNew hp).1
  have x : Ext M (mset M p mo) H (upd H p o) := ⟨x0.fr, fun b h => by
    by_cases e : b = p
    · subst e; exact .inr hp
    · rw [mset_ne e] at h; exact .inl h⟩
  refine ⟨x, fun b u h => ?_⟩
  by_cases e : b = p
  · subst e; rw [mset_same] at h; cases h; exact r
  · rw [mset_ne e] at h
    exact (m.upNew hp).2 b u h
theorem RM0.newL {p : Addr} {vs : List V} {ds : List D} (m : RM0 K H M) (hp : H p = none) (r : RDs K H vs ds) : Ext M (mset M p (.lst ds)) H (upd H p (.lst vs)) ∧ RM0 K (upd H p (.lst vs)) (mset M p (.lst ds)) :=
  m.new hp ⟨vs, upd_same, r.go ((m.upNew hp).1.still0 m)⟩
/-- an object written -/
theorem RM0.put {p : Addr} {o : HO} {mo mo' : MO} (m : RM0 K H M) (hp : M p = some mo) (r : Still K H (upd H p o) → RO K (upd H p o) p mo') : Ext M (mset M p mo') H (upd H p o) ∧ RM0 K (upd H p o) (mset M p mo') := by
  have x : Ext M (mset M p mo') H (upd H p o) := by
    refine ⟨fun b u h hm => ?_, fun b h => ?_⟩
    · rw [upd_ne (by intro e; subst e; rw [hp] at hm; cases hm)]; exact h
    · by_cases e : b = p
      · subst e; left; rw [hp]; exact fun z => nomatch z
      · rw [mset_ne e] at h; exact .inl h
  refine ⟨x, fun b u h => ?_⟩
  by_cases e : b = p
  · subst e; rw [mset_same] at h; cases h; exact r (x.still0 m)
  · rw [mset_ne e] at h
    exact (m b u h).go (x.still0 m) fun v hv => by rw [upd_ne e]; exact hv
theorem RM0.putL {p : Addr} {vs : List V} {ds : List D} {mo : MO} (m : RM0 K H M) (hp : M p = some mo) (r : RDs K H vs ds) : Ext M (mset M p (.lst ds)) H (upd H p (.lst vs)) ∧ RM0 K (upd H p (.lst vs)) (mset M p (.lst ds)) :=
  m.put hp fun s => ⟨vs, upd_same, r.go s⟩
end
structure BS where
  ok : Mp → Hp → Prop
  go : ∀ {M M' : Mp} {H H' : Hp}, ok M H → Ext M M' H H' → ok M' H'
def bsOf (M : Mp) (H : Hp) : BS := ⟨fun M' H' => Ext M M' H H', fun a b => a.trans b⟩
structure RM (K : PySem.W.Frag) (bs : BS) (H : Hp) (M : Mp) : Prop where
  m : RM0 K H M
  b : bs.ok M H
section
variable {K : PySem.W.Frag} {bs : BS} {M M' : Mp} {H H' : Hp} {a : Addr}
theorem Ext.still (x : Ext M M' H H') (m : RM K bs H M) : Still K H H' := x.still0 m.m
theorem RM.go (m : RM K bs H M) (x : Ext M M' H H' ∧ RM0 K H' M') : Ext M M' H H' ∧ RM K bs H' M' := ⟨x.1, x.2, bs.go m.b x.1⟩
theorem RM.to (m : RM K bs H M) (x : Ext M M' H H') (m' : RM0 K H' M') : RM K bs H' M' := ⟨m', bs.go m.b x⟩
theorem RM.free (m : RM K bs H M) (h : H a = none) : M a = none := m.m.free h
theorem RM.keep (m : RM K bs H M) (k : ∀ b u, H b = some u → H' b = some u) : Ext M M H H' ∧ RM K bs H' M := m.go (m.m.keep k)
theorem RM.upNew {p : Addr} {o : HO} (m : RM K bs H M) (hp : H p = none) : Ext M M H (upd H p o) ∧ RM K bs (upd H p o) M := m.go (m.m.upNew hp)
theorem RM.new {p : Addr} {o : HO} {mo : MO} (m : RM K bs H M) (hp : H p = none) (r : RO K (upd H p o) p mo) : Ext M (mset M p mo) H (upd H p o) ∧ RM K bs (upd H p o) (mset M p mo) := m.go (m.m.new hp r)
theorem RM.newL {p : Addr} {vs : List V} {ds : List D} (m : RM K bs H M) (hp : H p = none) (r : RDs K H vs ds) : Ext M (mset M p (.lst ds)) H (upd H p (.lst vs)) ∧ RM K bs (upd H p (.lst vs)) (mset M p (.lst ds)) := m.go (m.m.newL hp r)
theorem RM.put {p : Addr} {o : HO} {mo mo' : MO} (m : RM K bs H M) (hp : M p = some mo) (r : Still K H (upd H p o) → RO K (upd H p o) p mo') : Ext M (mset M p mo') H (upd H p o) ∧ RM K bs (upd H p o) (mset M p mo') := m.go (m.m.put hp r)
theorem RM.putL {p : Addr} {vs : List V} {ds : List D} {mo : MO} (m : RM K bs H M) (hp : M p = some mo) (r : RDs K H vs ds) : Ext M (mset M p (.lst ds)) H (upd H p (.lst vs)) ∧ RM K bs (upd H p (.lst vs)) (mset M p (.lst ds)) := m.go (m.m.putL hp r)
theorem RM.less {M2 : Mp} (m : RM K bs H M) (l : ∀ a o, M2 a = some o → M a = some o) : Ext M M2 H H ∧ RM K bs H M2 := m.go ⟨Ext.refl.less l, m.m.less l⟩
theorem RM.at (m : RM K bs H M) {o : MO} (h : M a = some o) : RO K H a o := m.m a o h
end
section
variable {K : PySem.W.Frag} {H : Hp}
theorem RDs.length : ∀ {vs : List V} {ds : List D}, RDs K H vs ds → vs.length = ds.length
  | _, _, .nil => rfl
  | _, _, .cons _ t => by rw [List.length_cons, List.length_cons, t.length]
theorem RDs.get : ∀ {vs : List V} {ds : List D} {i : Nat} {d : D}, RDs K H vs ds → ds[i]? = some d → ∃ v, vs[i]? = some v ∧ RD K H v d
  | _, _, _, _, .nil, e => by simp at e
  | _, _, 0, _, .cons r _, e => by simp at e; subst e; exact ⟨_, rfl, r⟩
  | _, _, i + 1, d, .cons _ t, e => by
    obtain ⟨u, h1, h2⟩ := RDs.get (i := i) (d := d) t (by simpa using e)
    exact ⟨u, by simpa using h1, h2⟩
theorem RDs.app : ∀ {vs ws : List V} {ds es : List D}, RDs K H vs ds → RDs K H ws es → RDs K H (vs ++ ws) (ds ++ es)
  | _, _, _, _, .nil, s => s
  | _, _, _, _, .cons r t, s => .cons r (RDs.app t s)
theorem RDs.take : ∀ {vs : List V} {ds : List D} (n : Nat), RDs K H vs ds → RDs K H (vs.take n) (ds.take n)
  | _, _, 0, _ => .nil
  | _, _, _ + 1, .nil => .nil
  | _, _, n + 1, .cons r t => .cons r (RDs.take n t)
theorem RDs.drop : ∀ {vs : List V} {ds : List D} (n : Nat), RDs K H vs ds → RDs K H (vs.drop n) (ds.drop n)
  | _, _, 0, r => r
  | _, _, _ + 1, .nil => .nil
  | _, _, n + 1, .cons _ t => RDs.drop n t
theorem RDs.set {v : V} {d : D} (r : RD K H v d) : ∀ {vs : List V} {ds : List D} (i : Nat), RDs K H vs ds → RDs K H (vs.set i v) (ds.set i d)
  | _, _, _, .nil => .nil
  | _, _, 0, .cons _ t => .cons r t
  | _, _, i + 1, .cons q t => .cons q (RDs.set r i t)
theorem RDs.ofInts : ∀ (ns : List Int), RDs K H (ns.map V.int) (ns.map D.int)
  | [] => .nil
  | n :: ns => .cons (.int n) (RDs.ofInts ns)
end
abbrev St3 := List (Option D)
abbrev VK3 := D → Mp → Prop
abbrev TE3 := St3 → Mp → VK3 → Prop
abbrev TT3 := St3 → Mp → (Bool → Mp → Prop) → Prop
abbrev TA3 := St3 → Mp → (List D → Mp → Prop) → Prop
def getS : St3 → Nat → Option D
  | [], _ => none
  | x :: _, 0 => x
  | _ :: r, i + 1 => getS r i
def setS : St3 → Nat → Option D → St3
  | [], _, _ => []
  | _ :: r, 0, d => d :: r
  | x :: r, i + 1, d => x :: setS r i d
structure RE (K : PySem.W.Frag) (H : Hp) (σ : L2.St) (τ : St3) : Prop where
  len : σ.length = τ.length
  get : ∀ i d, getS τ i = some d → ∃ v, σ[i]? = some (some v) ∧ RD K H v d
theorem setS_len : ∀ (τ : St3) (i : Nat) (d : Option D), (setS τ i d).length = τ.length
  | [], _, _ => rfl
  | _ :: _, 0, _ => rfl
  | _ :: r, i + 1, d => by show (setS r i d).length + 1 = r.length + 1; rw [setS_len]
theorem getS_set : ∀ (τ : St3) (i j : Nat) (d : Option D), getS (setS τ i d) j = if j = i ∧ i < τ.length then d else getS τ j
  | [], i, j, d => by
    show none = _
    split
    · rename_i h; exact absurd h.2 (by simp)
    · rfl
  | x :: r, 0, 0, d => by simp [setS, getS]
  | x :: r, 0, j + 1, d => by simp [setS, getS]
  | x :: r, i + 1, 0, d => by simp [setS, getS]
  | x :: r, i + 1, j + 1, d => by
    show getS (setS r i d) j = _
    rw [getS_set r i j d]
    simp [getS]
theorem getS_lt : ∀ (τ : St3) (i : Nat) (d : D), getS τ i = some d → i < τ.length
  | [], _, _, h => by cases h
  | _ :: _, 0, _, _ => Nat.succ_pos _
  | _ :: r, i + 1, d, h => Nat.succ_lt_succ (getS_lt r i d h)
section
variable {K : PySem.W.Frag} {H H' : Hp} {σ : L2.St} {τ : St3}
theorem RE.go (r : RE K H σ τ) (s : Still K H H') : RE K H' σ τ := ⟨r.len, fun i d e => let ⟨v, a, b⟩ := r.get i d e; ⟨v, a, b.go s⟩⟩
theorem RE.set {i : Nat} {v : V} {d : D} (r : RE K H σ τ) (rv : RD K H v d) : RE K H (σ.set i (some v)) (setS τ i (some d)) := by
  refine ⟨by rw [List.length_set, setS_len]; exact r.len, fun j e h => ?_⟩
  rw [getS_set] at h
  split at h
  · rename_i q
    obtain ⟨rfl, q⟩ := q
    cases h
    exact ⟨v, by rw [List.getElem?_set_self (by rw [r.len]; exact q)], rv⟩
  · rename_i q
    obtain ⟨u, e1, e2⟩ := r.get j e h
    refine ⟨u, ?_, e2⟩
    by_cases hij : i = j
    · subst hij
      exact absurd ⟨rfl, getS_lt _ _ _ h⟩ q
    · rw [List.getElem?_set_ne hij]; exact e1
theorem RE.drop {i : Nat} (r : RE K H σ τ) (x : Option V) : RE K H (σ.set i x) (setS τ i none) := by
  refine ⟨by rw [List.length_set, setS_len]; exact r.len, fun j e h => ?_⟩
  rw [getS_set] at h
  split at h
  · cases h
  · rename_i q
    obtain ⟨u, e1, e2⟩ := r.get j e h
    refine ⟨u, ?_, e2⟩
    by_cases hij : i = j
    · subst hij
      exact absurd ⟨rfl, getS_lt _ _ _ h⟩ q
    · rw [List.getElem?_set_ne hij]; exact e1
def wipe3 (τ : St3) : List Nat → St3
  | [] => τ
  | v :: vs => setS (wipe3 τ vs) v none
theorem RE.wipe (r : RE K H σ τ) : ∀ vs : List Nat, RE K H (wipe σ vs) (wipe3 τ vs)
  | [] => r
  | v :: vs => by
    unfold wipe3 L2.wipe
    exact (RE.wipe r vs).drop none
end
def ite3 (b : Bool) (A B : Prop) : Prop := match b with
  | true => A
  | false => B
def asB (d : D) (k : Bool → Prop) : Prop := match d with
  | .bl b => k b
  | _ => False
def asI (d : D) (k : Int → Prop) : Prop := match d with
  | .int i => k i
  | _ => False
def asS (d : Option D) (k : D → Prop) : Prop := match d with
  | some d => k d
  | none => False
theorem ite3_t {A B : Prop} : ite3 true A B = A := rfl
theorem ite3_f {A B : Prop} : ite3 false A B = B := rfl
theorem asB_bl {b : Bool} {k : Bool → Prop} : asB (.bl b) k = k b := rfl
theorem asI_int {i : Int} {k : Int → Prop} : asI (.int i) k = k i := rfl
theorem asS_some {d : D} {k : D → Prop} : asS (some d) k = k d := rfl
theorem ite3_by {b : Bool} {A B : Prop} (h1 : b = true → A) (h2 : b = false → B) : ite3 b A B := by
  cases b with
  | true => exact h1 rfl
  | false => exact h2 rfl
section
variable (K : PySem.W.Frag) (bs : BS)
def lift (t : TE3) : TE := fun σ H Q => ∃ τ M Q3, RE K H σ τ ∧ RM K bs H M ∧ t τ M Q3 ∧
  ∀ v H' d M', Ext M M' H H' → RM K bs H' M' → RD K H' v d → Q3 d M' → Q v H'
def liftT (t : TT3) : TT := fun σ H Q => ∃ τ M Q3, RE K H σ τ ∧ RM K bs H M ∧ t τ M Q3 ∧
  ∀ b H' M', Ext M M' H H' → RM K bs H' M' → Q3 b M' → Q b H'
def liftA (t : TA3) : TA := fun σ H Q => ∃ τ M Q3, RE K H σ τ ∧ RM K bs H M ∧ t τ M Q3 ∧
  ∀ vs H' ds M', Ext M M' H H' → RM K bs H' M' → RDs K H' vs ds → Q3 ds M' → Q vs H'
abbrev R23 := D → D → Mp → VK3 → Prop
def lift2 (r : R23) : R2 := fun x y H Q => ∃ d e M Q3, RD K H x d ∧ RD K H y e ∧ RM K bs H M ∧ r d e M Q3 ∧
  ∀ v H' z M', Ext M M' H H' → RM K bs H' M' → RD K H' v z → Q3 z M' → Q v H'
def liftV (r : List D → Mp → VK3 → Prop) : List V → Hp → VK → Prop := fun xs H Q => ∃ ds M Q3, RDs K H xs ds ∧ RM K bs H M ∧ r ds M Q3 ∧
  ∀ v H' z M', Ext M M' H H' → RM K bs H' M' → RD K H' v z → Q3 z M' → Q v H'
end
def PE3 (bs : BS) (X : Cx) (e : Expr) (t : TE3) : Prop := PE X e (lift X.K bs t)
def PT3 (bs : BS) (X : Cx) (e : Expr) (t : TT3) : Prop := PT X e (liftT X.K bs t)
def PA3 (bs : BS) (X : Cx) (es : List Expr) (t : TA3) : Prop := PA X es (liftA X.K bs t)
end L3
namespace L2
open PySem PySem.Spec PyProof.Rows
theorem PE.weak {X : Cx} {e : Expr} {t t' : TE} (h : PE X e t) (i : ∀ σ H Q, t' σ H Q → t σ H Q) : PE X e t' := ⟨fun pins s σ H Q I q => h.run pins s σ H Q I (i σ H Q q)⟩
theorem PT.weak {X : Cx} {e : Expr} {t t' : TT} (h : PT X e t) (i : ∀ σ H Q, t' σ H Q → t σ H Q) : PT X e t' := ⟨fun pins s σ H Q I q => h.run pins s σ H Q I (i σ H Q q)⟩
theorem PW.weak {X : Cx} {e : Expr} {t t' : TT} (h : PW X e t) (i : ∀ σ H Q, t' σ H Q → t σ H Q) : PW X e t' := ⟨fun wh pins s σ H Q I q => h.run wh pins s σ H Q I (i σ H Q q)⟩
theorem PA.weak {X : Cx} {e : List Expr} {t t' : TA} (h : PA X e t) (i : ∀ σ H Q, t' σ H Q → t σ H Q) : PA X e t' := ⟨fun pos pins s σ H Q I q => h.run pos pins s σ H Q I (i σ H Q q)⟩
theorem PS.weak {X : Cx} {e : Stmt} {t t' : TS} (h : PS X e t) (i : ∀ D σ H, t' D σ H → t D σ H) : PS X e t' := ⟨fun pins s σ H D I q => h.run pins s σ H D I (i D σ H q)⟩
theorem PSs.weak {X : Cx} {e : List Stmt} {t t' : TS} (h : PSs X e t) (i : ∀ D σ H, t' D σ H → t D σ H) : PSs X e t' := ⟨fun pins s σ H D I q => h.run pins s σ H D I (i D σ H q)⟩
theorem PG.weak {X : Cx} {e : Expr} {t t' : TG} (h : PG X e t) (i : ∀ v σ H Q, t' v σ H Q → t v σ H Q) : PG X e t' := ⟨fun pins s σ H v u Q I r q => h.run pins s σ H v u Q I r (i v σ H Q q)⟩
theorem PGs.weak {X : Cx} {e : List Expr} {t t' : TGs} (h : PGs X e t) (i : ∀ v σ H Q, t' v σ H Q → t v σ H Q) : PGs X e t' := ⟨fun pins s σ H v u Q I r q => h.run pins s σ H v u Q I r (i v σ H Q q)⟩
theorem PI.weak {X : Cx} {g e : Expr} {t t' : TI} (h : PI X g e t) (i : ∀ σ H R, t' σ H R → t σ H R) : PI X g e t' := ⟨fun pins s σ H R I q => h.run pins s σ H R I (i σ H R q)⟩
theorem OpR.weak {X : Cx} {f : Value → Value → Sem Value} {r r' : R2} (h : OpR X f r) (i : ∀ x y H Q, r' x y H Q → r x y H Q) : OpR X f r' :=
  fun pins s σ H x y v u Q I rx ry q => h pins s σ H x y v u Q I rx ry (i x y H Q q)
theorem CallR.weak {X : Cx} {f : Value} {r r' : List V → Hp → VK → Prop} (h : CallR X f r) (i : ∀ xs H Q, r' xs H Q → r xs H Q) : CallR X f r' :=
  fun pins s σ H xs us Q I rx q => h pins s σ H xs us Q I rx (i xs H Q q)
end L2
namespace L3
open PySem PySem.Spec PyProof.Rows L2
section
variable {bs : BS} {X : Cx} {a b c : Expr} {ta tb tc : TE3} {pos : Pos}
def wC (d : D) : TE3 := fun _ M Q => Q d M
def wVar (i : Nat) : TE3 := fun τ M Q => asS (getS τ i) fun d => Q d M
theorem e_c {v : V} {d : D} (h : PE X a (tC v)) (r : ∀ H, RD X.K H v d) : PE3 bs X a (wC d) :=
  h.weak fun σ H Q ⟨τ, M, Q3, e, m, q, k⟩ => k v H d M .refl m (r H) q
theorem e_int {i j} : PE3 bs X (.Constant (.int i) j pos) (wC (.int i)) := e_c pe_int fun _ => .int i
theorem e_bl {i j} : PE3 bs X (.Constant (.bool i) j pos) (wC (.bl i)) := e_c pe_bl fun _ => .bl i
theorem e_non {j} : PE3 bs X (.Constant .none j pos) (wC .non) := e_c pe_non fun _ => .non
theorem e_str {x j} : PE3 bs X (.Constant (.str x) j pos) (wC (.str x)) := e_c pe_str fun _ => .str x
theorem e_var (i : Nat) (h : PE X a (tVar i)) : PE3 bs X a (wVar i) :=
  h.weak fun σ H Q ⟨τ, M, Q3, e, m, q, k⟩ => by
    unfold wVar at q
    cases hd : getS τ i with
    | none => rw [hd] at q; exact False.elim q
    | some d =>
      rw [hd] at q
      obtain ⟨v, hv, r⟩ := e.get i d hd
      exact ⟨v, hv, k v H d M .refl m r q⟩
theorem ev (i : Nat) {x : Str} {pos : Pos} (hN : X.N[i]? = some x := by rfl) (hv : Vis X.env.scope x := by first | exact Or.inl rfl | exact Or.inr (Or.inl rfl) | exact Or.inr (Or.inr rfl)) (hd : (x == ("__debug__" : Str)) = false := by decide)
    (hcd : (x == ("__classdict__" : Str)) = false := by decide) : PE3 bs X (.Name x pos) (wVar i) := e_var i (pe_var hN hv hd hcd)
def wOp (r : R23) (ta tb : TE3) : TE3 := fun τ M Q => ta τ M fun x M1 => tb τ M1 fun y M2 => r x y M2 Q
theorem lift_op {r : R23} : ∀ σ H Q, lift X.K bs (wOp r ta tb) σ H Q → tOp (lift2 X.K bs r) (lift X.K bs ta) (lift X.K bs tb) σ H Q := by
  rintro σ H Q ⟨τ, M, Q3, e, m, q, k⟩
  refine ⟨τ, M, _, e, m, q, fun x H1 d M1 x1 m1 r1 q1 => ⟨τ, M1, _, e.go (x1.still m), m1, q1, fun y H2 d2 M2 x2 m2 r2 q2 => ?_⟩⟩
  exact ⟨d, d2, M2, Q3, r1.go (x2.still m1), r2, m2, q2, fun v H' z M' x3 m3 r3 q3 => k v H' z M' (x1.trans (x2.trans x3)) m3 r3 q3⟩
theorem e_op {op : Operator} {r : R23} (ho : OpR X (binaryOp op) (lift2 X.K bs r)) (ha : PE3 bs X a ta) (hb : PE3 bs X b tb) : PE3 bs X (.BinOp a op b pos) (wOp r ta tb) := (pe_op ho ha hb).weak lift_op
theorem e_cmp {op : CmpOp} {r : R23} (ho : OpR X (compareOp op) (lift2 X.K bs r)) (ha : PE3 bs X a ta) (hb : PE3 bs X b tb) (hm : behindInMarks op b = false) : PE3 bs X (.Compare a [op] [b] pos) (wOp r ta tb) := (pe_cmpR ho ha hb hm).weak lift_op
/-- a value as a test: a truth -/
def wB (t : TE3) : TT3 := fun τ M Q => t τ M fun d M' => asB d fun k => Q k M'
theorem lift_b : ∀ σ H Q, liftT X.K bs (wB ta) σ H Q → tB (lift X.K bs ta) σ H Q := by
  rintro σ H Q ⟨τ, M, Q3, e, m, q, k⟩
  refine ⟨τ, M, _, e, m, q, fun x H1 d M1 x1 m1 r1 q1 => ?_⟩
  cases d with
  | bl z =>
    cases r1
    exact ⟨z, rfl, k z H1 M1 x1 m1 q1⟩
  | _ => exact False.elim q1
theorem lift_tt {r : R23} : ∀ σ H Q, liftT X.K bs (wB (wOp r ta tb)) σ H Q → tTest (tOp (lift2 X.K bs r) (lift X.K bs ta) (lift X.K bs tb)) σ H Q := by
  rintro σ H Q ⟨τ, M, Q3, e, m, q, k⟩
  refine lift_op (r := r) σ H _ ⟨τ, M, _, e, m, q, fun x H1 d M1 x1 m1 r1 q1 => ?_⟩
  cases d with
  | bl z =>
    cases r1
    exact ⟨z, rfl, k z H1 M1 x1 m1 q1⟩
  | _ => exact False.elim q1
theorem t_cmp {op : CmpOp} {r : R23} (ho : OpR X (compareOp op) (lift2 X.K bs r)) (ha : PE3 bs X a ta) (hb : PE3 bs X b tb) (hm : behindInMarks op b = false) : PT3 bs X (.Compare a [op] [b] pos) (wB (wOp r ta tb)) := (pt_cmpR ho ha hb hm).weak lift_tt
theorem t_val (h : PE3 bs X a ta) (he : ∀ whole, isTrue a X.env whole = (do let v ← whole; standAt a.pos; holding [v] (truthy v)) := by intro _; rfl) : PT3 bs X a (wB ta) := (pt_val h he).weak lift_b
/-- a op b op' c -/
def wChain (r r' : R23) (ta tb tc : TE3) : TE3 := fun τ M Q => ta τ M fun x M1 => tb τ M1 fun y M2 => r x y M2 fun z M3 => asB z fun c => ite3 c (tc τ M3 fun w M4 => r' y w M4 Q) (Q (.bl false) M3)
variable {A B : TT3} {rest : List Expr}
def wAnd (t u : TT3) : TT3 := fun τ M Q => t τ M fun c M1 => ite3 c (u τ M1 Q) (Q false M1)
def wOr (t u : TT3) : TT3 := fun τ M Q => t τ M fun c M1 => ite3 c (Q true M1) (u τ M1 Q)
def wNot (t : TT3) : TT3 := fun τ M Q => t τ M fun c M1 => Q (!c) M1
def PW3 (bs : BS) (X : Cx) (e : Expr) (t : TT3) : Prop := PW X e (liftT X.K bs t)
theorem PW3.pt {e : Expr} {t : TT3} (h : PW3 bs X e t) : PT3 bs X e t := PW.pt h
theorem t_and1 (ha : PT3 bs X a A) : PW3 bs X (.BoolOp .And [a] pos) A := pw_and1 ha
theorem t_or1 (ha : PT3 bs X a A) : PW3 bs X (.BoolOp .Or [a] pos) A := pw_or1 ha
theorem t_and (ha : PT3 bs X a A) (hb : PW3 bs X (.BoolOp .And (b :: rest) pos) B) : PW3 bs X (.BoolOp .And (a :: b :: rest) pos) (wAnd A B) := by
  refine (pw_and ha hb).weak ?_
  rintro σ H Q ⟨τ, M, Q3, e, m, q, k⟩
  refine ⟨τ, M, _, e, m, q, fun z H1 M1 x1 m1 q1 => ?_⟩
  cases z with
  | true => exact iteT ⟨τ, M1, Q3, e.go (x1.still m), m1, q1, fun z H' M' x2 m2 q2 => k z H' M' (x1.trans x2) m2 q2⟩
  | false => exact iteF (k false H1 M1 x1 m1 q1)
theorem t_or (ha : PT3 bs X a A) (hb : PW3 bs X (.BoolOp .Or (b :: rest) pos) B) : PW3 bs X (.BoolOp .Or (a :: b :: rest) pos) (wOr A B) := by
  refine (pw_or ha hb).weak ?_
  rintro σ H Q ⟨τ, M, Q3, e, m, q, k⟩
  refine ⟨τ, M, _, e, m, q, fun z H1 M1 x1 m1 q1 => ?_⟩
  cases z with
  | true => exact iteT (k true H1 M1 x1 m1 q1)
  | false => exact iteF ⟨τ, M1, Q3, e.go (x1.still m), m1, q1, fun z H' M' x2 m2 q2 => k z H' M' (x1.trans x2) m2 q2⟩
theorem t_not (ha : PT3 bs X a A) : PT3 bs X (.UnaryOp .Not a pos) (wNot A) := by
  refine (pt_not ha).weak ?_
  rintro σ H Q ⟨τ, M, Q3, e, m, q, k⟩
  exact ⟨τ, M, _, e, m, q, fun z H1 M1 x1 m1 q1 => k (!z) H1 M1 x1 m1 q1⟩
def wAndV (ta tb : TE3) : TE3 := fun τ M Q => ta τ M fun x M1 => asB x fun c => ite3 c (tb τ M1 Q) (Q (.bl false) M1)
def wOrV (ta tb : TE3) : TE3 := fun τ M Q => ta τ M fun x M1 => asB x fun c => ite3 c (Q (.bl true) M1) (tb τ M1 Q)
def wNotV (ta : TE3) : TE3 := fun τ M Q => ta τ M fun x M1 => asB x fun c => Q (.bl (!c)) M1
theorem e_one {op} (h : PE3 bs X a ta) : PE3 bs X (.BoolOp op [a] pos) ta := pe_one h
theorem e_and (ha : PE3 bs X a ta) (hb : PE3 bs X (.BoolOp .And (b :: rest) pos) tb) : PE3 bs X (.BoolOp .And (a :: b :: rest) pos) (wAndV ta tb) := by
  refine (pe_and ha hb).weak ?_
  rintro σ H Q ⟨τ, M, Q3, e, m, q, k⟩
  refine ⟨τ, M, _, e, m, q, fun z H1 d M1 x1 m1 r1 q1 => ?_⟩
  cases d with
  | bl t =>
    cases r1
    cases t with
    | true => exact ⟨true, rfl, iteT ⟨τ, M1, Q3, e.go (x1.still m), m1, q1, fun z H' d M' x2 m2 r2 q2 => k z H' d M' (x1.trans x2) m2 r2 q2⟩⟩
    | false => exact ⟨false, rfl, iteF (k _ H1 _ M1 x1 m1 (.bl _) q1)⟩
  | _ => exact False.elim q1
theorem e_or (ha : PE3 bs X a ta) (hb : PE3 bs X (.BoolOp .Or (b :: rest) pos) tb) : PE3 bs X (.BoolOp .Or (a :: b :: rest) pos) (wOrV ta tb) := by
  refine (pe_or ha hb).weak ?_
  rintro σ H Q ⟨τ, M, Q3, e, m, q, k⟩
  refine ⟨τ, M, _, e, m, q, fun z H1 d M1 x1 m1 r1 q1 => ?_⟩
  cases d with
  | bl t =>
    cases r1
    cases t with
    | false => exact ⟨false, rfl, iteF ⟨τ, M1, Q3, e.go (x1.still m), m1, q1, fun z H' d M' x2 m2 r2 q2 => k z H' d M' (x1.trans x2) m2 r2 q2⟩⟩
    | true => exact ⟨true, rfl, iteT (k _ H1 _ M1 x1 m1 (.bl _) q1)⟩
  | _ => exact False.elim q1
def wIf (c : TT3) (ta tb : TE3) : TE3 := fun τ M Q => c τ M fun z M1 => ite3 z (ta τ M1 Q) (tb τ M1 Q)
theorem e_if (hc : PT3 bs X c A) (ha : PE3 bs X a ta) (hb : PE3 bs X b tb) : PE3 bs X (.IfExp c a b pos) (wIf A ta tb) := by
  refine (pe_ifExp hc ha hb).weak ?_
  rintro σ H Q ⟨τ, M, Q3, e, m, q, k⟩
  refine ⟨τ, M, _, e, m, q, fun z H1 M1 x1 m1 q1 => ?_⟩
  cases z with
  | true => exact iteT ⟨τ, M1, Q3, e.go (x1.still m), m1, q1, fun z H' d M' x2 m2 r2 q2 => k z H' d M' (x1.trans x2) m2 r2 q2⟩
  | false => exact iteF ⟨τ, M1, Q3, e.go (x1.still m), m1, q1, fun z H' d M' x2 m2 r2 q2 => k z H' d M' (x1.trans x2) m2 r2 q2⟩
variable {es : List Expr} {t : TA3}
def wNil : TA3 := fun _ M Q => Q [] M
def wCons (ta : TE3) (tr : TA3) : TA3 := fun τ M Q => ta τ M fun x M1 => tr τ M1 fun xs M2 => Q (x :: xs) M2
theorem a_nil : PA3 bs X [] wNil := pa_nil.weak fun σ H Q ⟨τ, M, Q3, e, m, q, k⟩ => k [] H [] M .refl m .nil q
theorem a_cons (ha : PE3 bs X a ta) (hr : PA3 bs X es t) (hs : starEach (a :: es) X.env = (false, eval a X.env) :: starEach es X.env := by rfl) : PA3 bs X (a :: es) (wCons ta t) := by
  refine PA.weak (pa_cons ha hr hs) ?_
  rintro σ H Q ⟨τ, M, Q3, e, m, q, k⟩
  refine ⟨τ, M, _, e, m, q, fun z H1 d M1 x1 m1 r1 q1 => ⟨τ, M1, _, e.go (x1.still m), m1, q1, fun zs H2 ds M2 x2 m2 r2 q2 => ?_⟩⟩
  exact k _ H2 _ M2 (x1.trans x2) m2 (.cons (r1.go (x2.still m1)) r2) q2
def wTup (t : TA3) : TE3 := fun τ M Q => t τ M fun xs M1 => xs.length ≤ sizeLine ∧ Q (.tup xs) M1
def wLst (t : TA3) : TE3 := fun τ M Q => t τ M fun xs M1 => xs.length ≤ sizeLine ∧ ∀ p, M1 p = none → Q (.ref p) (mset M1 p (.lst xs))
theorem e_tup {x1} (h : PA3 bs X es t) : PE3 bs X (.Tuple es x1 pos) (wTup t) := by
  refine PE.weak (pe_tup h) ?_
  rintro σ H Q ⟨τ, M, Q3, e, m, q, k⟩
  refine ⟨τ, M, _, e, m, q, fun zs H1 ds M1 x1 m1 r1 q1 => ⟨by rw [r1.length]; exact q1.1, fun p hp => ?_⟩⟩
  obtain ⟨x2, m2⟩ := m1.upNew (o := .tup zs) hp
  exact k _ _ (.tup ds) M1 (x1.trans x2) m2 (.tup (SqT.of upd_same) (r1.go (x2.still m1))) q1.2
theorem e_lst (h : PA3 bs X es t) : PE3 bs X (.List es pos) (wLst t) := by
  refine PE.weak (pe_lst h) ?_
  rintro σ H Q ⟨τ, M, Q3, e, m, q, k⟩
  refine ⟨τ, M, _, e, m, q, fun zs H1 ds M1 x1 m1 r1 q1 => ⟨by rw [r1.length]; exact q1.1, fun p hp => ?_⟩⟩
  obtain ⟨x2, m2⟩ := m1.newL hp r1
  exact k _ _ (.ref p) _ (x1.trans x2) m2 (.ref p) (q1.2 p (m1.free hp))
/-- a built-in's call by values -/
def wCB (r : List D → Mp → VK3 → Prop) (t : TA3) : TE3 := fun τ M Q => t τ M fun ds M1 => r ds M1 Q
theorem lift_cb {r : List D → Mp → VK3 → Prop} : ∀ σ H Q, lift X.K bs (wCB r t) σ H Q → tCB (liftV X.K bs r) (liftA X.K bs t) σ H Q := by
  rintro σ H Q ⟨τ, M, Q3, e, m, q, k⟩
  refine ⟨τ, M, _, e, m, q, fun zs H1 ds M1 x1 m1 r1 q1 => ?_⟩
  exact ⟨ds, M1, Q3, r1, m1, q1, fun v H' z M' x2 m2 r2 q2 => k v H' z M' (x1.trans x2) m2 r2 q2⟩
end
end L3
set_option Elab.async false
set_option linter.all false
set_option maxRecDepth 100000
set_option maxHeartbeats 4000000
namespace L3
open PySem PySem.Spec PyProof.Rows L2
/-- what is wanted behind a statement -/
structure Ends3 where
  nx : St3 → Mp → Prop
  rt : VK3
  bk : St3 → Mp → Prop := fun _ _ => False
  ct : St3 → Mp → Prop := fun _ _ => False
abbrev TS3 := Ends3 → St3 → Mp → Prop
abbrev TG3 := D → St3 → Mp → (St3 → Mp → Prop) → Prop
abbrev TGs3 := List D → St3 → Mp → (St3 → Mp → Prop) → Prop
/-- σ' is σ but at some places -/
def But (ix : List Nat) (σ σ' : L2.St) : Prop := σ'.length = σ.length ∧ ∀ i, i ∉ ix → σ'[i]? = σ[i]?
theorem But.refl {ix : List Nat} {σ : L2.St} : But ix σ σ := ⟨rfl, fun _ _ => rfl⟩
theorem But.trans {ix : List Nat} {σ σ1 σ2 : L2.St} (a : But ix σ σ1) (b : But ix σ1 σ2) : But ix σ σ2 := ⟨b.1.trans a.1, fun i h => (b.2 i h).trans (a.2 i h)⟩
theorem But.more {ix iy : List Nat} {σ σ1 : L2.St} (a : But ix σ σ1) (h : ∀ i ∈ ix, i ∈ iy) : But iy σ σ1 := ⟨a.1, fun i hi => a.2 i fun z => hi (h i z)⟩
theorem wipe_at (σ : L2.St) (i : Nat) : ∀ vs : List Nat, i ∈ vs → i < σ.length → (L2.wipe σ vs)[i]? = some none
  | [], h, _ => by simp at h
  | v :: vs, h, hl => by
    unfold L2.wipe
    by_cases e : v = i
    · subst e
      rw [List.getElem?_set_self (by rw [L2.wipe_length]; exact hl)]
    · rw [List.getElem?_set_ne e]
      rcases List.mem_cons.mp h with z | z
      · exact absurd z.symm e
      · exact wipe_at σ i vs z hl
theorem wipe_off (σ : L2.St) (i : Nat) (vs : List Nat) (h : i ∉ vs) : (L2.wipe σ vs)[i]? = σ[i]? := L2.wipe_out h
theorem But.wipe {ix vs : List Nat} {σ σ' : L2.St} (b : But ix σ σ') (h : ∀ i ∈ ix, i ∈ vs) : L2.wipe σ' vs = L2.wipe σ vs := by
  refine List.ext_getElem? fun i => ?_
  by_cases hi : i ∈ vs
  · by_cases hl : i < σ.length
    · rw [wipe_at σ i vs hi hl, wipe_at σ' i vs hi (by rw [b.1]; exact hl)]
    · rw [List.getElem?_eq_none (by rw [L2.wipe_length, b.1]; omega), List.getElem?_eq_none (by rw [L2.wipe_length]; omega)]
  · rw [wipe_off σ' i vs hi, wipe_off σ i vs hi]
    exact b.2 i fun z => hi (h i z)
theorem wipe_wipe (σ : L2.St) (vs : List Nat) : L2.wipe (L2.wipe σ vs) vs = L2.wipe σ vs := by
  refine List.ext_getElem? fun i => ?_
  by_cases hi : i ∈ vs
  · by_cases hl : i < σ.length
    · rw [wipe_at _ i vs hi (by rw [L2.wipe_length]; exact hl), wipe_at σ i vs hi hl]
    · rw [List.getElem?_eq_none (by rw [L2.wipe_length, L2.wipe_length]; omega), List.getElem?_eq_none (by rw [L2.wipe_length]; omega)]
  · rw [wipe_off _ i vs hi]
section
variable (K : PySem.W.Frag) (bs : BS)
def liftS (t : TS3) : TS := fun D σ H => ∃ τ M D3, RE K H σ τ ∧ RM K bs H M ∧ t D3 τ M ∧
  (∀ σ' τ' H' M', Ext M M' H H' → RE K H' σ' τ' → RM K bs H' M' → D3.nx τ' M' → D.nx σ' H') ∧
  (∀ v d H' M', Ext M M' H H' → RM K bs H' M' → RD K H' v d → D3.rt d M' → D.rt v H') ∧
  (∀ σ' τ' H' M', Ext M M' H H' → RE K H' σ' τ' → RM K bs H' M' → D3.bk τ' M' → D.bk σ' H') ∧
  (∀ σ' τ' H' M', Ext M M' H H' → RE K H' σ' τ' → RM K bs H' M' → D3.ct τ' M' → D.ct σ' H')
def liftG (ix : List Nat) (g : TG3) : TG := fun v σ H Q => ∃ d τ M Q3, RD K H v d ∧ RE K H σ τ ∧ RM K bs H M ∧ g d τ M Q3 ∧
  ∀ σ' τ' H' M', Ext M M' H H' → But ix σ σ' → RE K H' σ' τ' → RM K bs H' M' → Q3 τ' M' → Q σ' H'
def liftGs (ix : List Nat) (g : TGs3) : TGs := fun vs σ H Q => ∃ ds τ M Q3, RDs K H vs ds ∧ RE K H σ τ ∧ RM K bs H M ∧ g ds τ M Q3 ∧
  ∀ σ' τ' H' M', Ext M M' H H' → But ix σ σ' → RE K H' σ' τ' → RM K bs H' M' → Q3 τ' M' → Q σ' H'
end
def PS3 (bs : BS) (X : Cx) (st : Stmt) (t : TS3) : Prop := PS X st (liftS X.K bs t)
def PSs3 (bs : BS) (X : Cx) (st : List Stmt) (t : TS3) : Prop := PSs X st (liftS X.K bs t)
def PG3 (bs : BS) (X : Cx) (e : Expr) (ix : List Nat) (g : TG3) : Prop := PG X e (liftG X.K bs ix g)
def PGs3 (bs : BS) (X : Cx) (es : List Expr) (ix : List Nat) (g : TGs3) : Prop := PGs X es (liftGs X.K bs ix g)
section
variable {bs : BS} {X : Cx} {st : Stmt} {sts : List Stmt} {t u : TS3} {e : Expr} {te : TE3} {pos : Pos}
def wNext : TS3 := fun D τ M => D.nx τ M
def wSeq (t u : TS3) : TS3 := fun D τ M => t { D with nx := u D } τ M
theorem ss_nil : PSs3 bs X [] wNext := pss_nil.weak fun D σ H ⟨τ, M, D3, e, m, q, k, _⟩ => k σ τ H M .refl e m q
theorem ss_cons (h1 : PS3 bs X st t) (h2 : PSs3 bs X sts u) : PSs3 bs X (st :: sts) (wSeq t u) := by
  refine PSs.weak (pss_cons h1 h2) ?_
  rintro D σ H ⟨τ, M, D3, e, m, q, kn, kr, kb, kc⟩
  refine ⟨τ, M, _, e, m, q, fun σ' τ' H' M' x e1 m1 q1 => ⟨τ', M', D3, e1, m1, q1, ?_, ?_, ?_, ?_⟩, kr, kb, kc⟩
  · exact fun σ2 τ2 H2 M2 x2 => kn σ2 τ2 H2 M2 (x.trans x2)
  · exact fun v d H2 M2 x2 => kr v d H2 M2 (x.trans x2)
  · exact fun σ2 τ2 H2 M2 x2 => kb σ2 τ2 H2 M2 (x.trans x2)
  · exact fun σ2 τ2 H2 M2 x2 => kc σ2 τ2 H2 M2 (x.trans x2)
theorem ss_one (h1 : PS3 bs X st t) : PSs3 bs X [st] t := pss_one h1
def wBreak : TS3 := fun D τ M => D.bk τ M
def wCont : TS3 := fun D τ M => D.ct τ M
theorem s_pass : PS3 bs X (.Pass pos) wNext := ps_pass.weak fun D σ H ⟨τ, M, D3, e, m, q, k, _⟩ => k σ τ H M .refl e m q
def wDrop (te : TE3) : TS3 := fun D τ M => te τ M fun _ M1 => D.nx τ M1
theorem s_expr (he : PE3 bs X e te) (hs : swapsWith e none pos.line X.env = pure false := by rfl) : PS3 bs X (.Expr e pos) (wDrop te) := by
  refine PS.weak (ps_expr he hs) ?_
  rintro D σ H ⟨τ, M, D3, e, m, q, kn, _⟩
  exact ⟨τ, M, _, e, m, q, fun v H' d M' x m1 r q1 => kn σ τ H' M' x (e.go (x.still m)) m1 q1⟩
def wRet (te : TE3) : TS3 := fun D τ M => te τ M D.rt
theorem s_ret (he : PE3 bs X e te) : PS3 bs X (.Return (some e) pos) (wRet te) := by
  refine PS.weak (ps_ret he) ?_
  rintro D σ H ⟨τ, M, D3, e, m, q, _, kr, _⟩
  exact ⟨τ, M, _, e, m, q, fun v H' d M' x m1 r q1 => kr v d H' M' x m1 r q1⟩
def wRetN : TS3 := fun D _ M => D.rt .non M
def wIfS (c : TT3) (t u : TS3) : TS3 := fun D τ M => c τ M fun b M1 => ite3 b (t D τ M1) (u D τ M1)
theorem s_if {c : Expr} {a b : List Stmt} {tc : TT3} (hc : PT3 bs X c tc) (ha : PSs3 bs X a t) (hb : PSs3 bs X b u) : PS3 bs X (.If c a b pos) (wIfS tc t u) := by
  refine PS.weak (ps_if hc ha hb) ?_
  rintro D σ H ⟨τ, M, D3, e, m, q, kn, kr, kb, kc⟩
  refine ⟨τ, M, _, e, m, q, fun z H1 M1 x m1 q1 => ?_⟩
  have L : ∀ t : TS3, t D3 τ M1 → liftS X.K bs t D σ H1 := fun t q => ⟨τ, M1, D3, e.go (x.still m), m1, q, fun σ2 τ2 H2 M2 x2 => kn σ2 τ2 H2 M2 (x.trans x2), fun v d H2 M2 x2 => kr v d H2 M2 (x.trans x2),
    fun σ2 τ2 H2 M2 x2 => kb σ2 τ2 H2 M2 (x.trans x2), fun σ2 τ2 H2 M2 x2 => kc σ2 τ2 H2 M2 (x.trans x2)⟩
  cases z with
  | true => exact iteT (L t q1)
  | false => exact iteF (L u q1)
def wSet (i : Nat) (te : TE3) : TS3 := fun D τ M => te τ M fun d M1 => D.nx (setS τ i (some d)) M1
theorem lift_set {i : Nat} : ∀ D σ H, liftS X.K bs (wSet i te) D σ H → tAsg (lift X.K bs te) (gName i) D σ H := by
  rintro D σ H ⟨τ, M, D3, e, m, q, kn, _⟩
  exact ⟨τ, M, _, e, m, q, fun v H' d M' x m1 r q1 => kn _ _ H' M' x ((e.go (x.still m)).set r) m1 q1⟩
theorem s_set {i : Nat} {x : Str} {pos' : Pos} (hN : X.N.Nodup) (hi : X.N[i]? = some x) (hx : Loc X.env.scope x) (he : PE3 bs X e te) (hs : swapsWith e (some (.Name x pos')) pos.line X.env = pure false := by rfl)
    (hf : X.fn x = true ∨ X.env.scope.names.lookup x = some .local := by first | exact .inl rfl | exact .inr rfl | assumption) : PS3 bs X (.Assign [.Name x pos'] e pos) (wSet i te) :=
  PS.weak (ps_set hN hi hx he hs hf) lift_set
def wgName (i : Nat) : TG3 := fun d τ M Q => Q (setS τ i (some d)) M
theorem g_name {i : Nat} {x : Str} (hN : X.N.Nodup) (hi : X.N[i]? = some x) (hx : Loc X.env.scope x) (hf : X.fn x = true ∨ X.env.scope.names.lookup x = some .local := by first | exact .inl rfl | exact .inr rfl | assumption) : PG3 bs X (.Name x pos) [i] (wgName i) := by
  refine PG.weak (pg_name hN hi hx hf) ?_
  rintro v σ H Q ⟨d, τ, M, Q3, r, e, m, q, k⟩
  exact k _ _ H M .refl ⟨List.length_set, fun j hj => List.getElem?_set_ne (fun z => hj (by simp [z]))⟩ (e.set r) m q
def wgNil : TGs3 := fun ds τ M Q => match ds with
  | [] => Q τ M
  | _ => False
def wgCons (t : TG3) (u : TGs3) : TGs3 := fun ds τ M Q => match ds with
  | d :: r => t d τ M fun τ' M' => u r τ' M' Q
  | [] => False
theorem gs_nil : PGs3 bs X [] [] wgNil := by
  refine PGs.weak pgs_nil ?_
  rintro vs σ H Q ⟨ds, τ, M, Q3, r, e, m, q, k⟩
  cases ds with
  | nil => cases r; exact ⟨rfl, k _ _ H M .refl .refl e m q⟩
  | cons _ _ => exact False.elim q
theorem gs_cons {g : Expr} {gs : List Expr} {ix iy : List Nat} {t : TG3} {u : TGs3} (h1 : PG3 bs X g ix t) (h2 : PGs3 bs X gs iy u)
    (hs : (assignEach (g :: gs) X.env).map (·.2) = assign g X.env :: (assignEach gs X.env).map (·.2) := by rfl) : PGs3 bs X (g :: gs) (ix ++ iy) (wgCons t u) := by
  refine PGs.weak (pgs_cons h1 h2 hs) ?_
  rintro vs σ H Q ⟨ds, τ, M, Q3, r, e, m, q, k⟩
  cases ds with
  | nil => exact False.elim q
  | cons d ds =>
    cases r with
    | cons r1 r2 =>
      refine ⟨_, _, rfl, d, τ, M, _, r1, e, m, q, fun σ1 τ1 H1 M1 x b e1 m1 q1 => ?_⟩
      exact ⟨ds, τ1, M1, Q3, r2.go (x.still m), e1, m1, q1, fun σ2 τ2 H2 M2 x2 b2 e2 m2 q2 =>
        k σ2 τ2 H2 M2 (x.trans x2) ((b.more fun i h => List.mem_append_left _ h).trans (b2.more fun i h => List.mem_append_right _ h)) e2 m2 q2⟩
/-- (a, b, ..) = a tuple; ds of that length is what t asks -/
theorem g_tup {es : List Expr} {k n : Nat} {ix : List Nat} {t : TGs3} (hc : X.calm = true) (h : PGs3 bs X es ix t)
    (hn : (assignEach es X.env).length = n := by rfl) (hst : (assignEach es X.env).findIdx? (·.1) = none := by rfl) : PG3 bs X (.Tuple es k pos) ix (fun d τ M Q => match d with
      | .tup ds => ds.length = n ∧ t ds τ M Q
      | _ => False) := by
  refine PG.weak (pg_tup hc h hn hst) ?_
  rintro v σ H Q ⟨d, τ, M, Q3, r, e, m, q, k⟩
  cases d with
  | tup ds =>
    cases r with
    | tup h1 h2 => exact ⟨_, _, rfl, h1, by rw [h2.length]; exact q.1, ds, τ, M, Q3, h2, e, m, q.2, k⟩
  | _ => exact False.elim q
/-- o[i] = v by values -/
abbrev TSet3 := D → D → D → Mp → (Mp → Prop) → Prop
def liftSet (K : PySem.W.Frag) (bs : BS) (t : TSet3) : TSet := fun o i v H Q => ∃ do_ di dv M Q3, RD K H o do_ ∧ RD K H i di ∧ RD K H v dv ∧ RM K bs H M ∧ t do_ di dv M Q3 ∧ ∀ H' M', Ext M M' H H' → RM K bs H' M' → Q3 M' → Q H'
theorem PSet.weak {t t' : TSet} (h : PSet X t) (i : ∀ o i v H Q, t' o i v H Q → t o i v H Q) : PSet X t' := fun pins s σ H o j v ov iv u Q I r1 r2 r3 q => h pins s σ H o j v ov iv u Q I r1 r2 r3 (i o j v H Q q)
def wgSub (to ti : TE3) (t : TSet3) : TG3 := fun d τ M Q => to τ M fun o M1 => ti τ M1 fun i M2 => t o i d M2 fun M3 => Q τ M3
theorem g_sub {o i : Expr} {to ti : TE3} {t : TSet3} (ho : PE3 bs X o to) (hi : PE3 bs X i ti) (hs : PSet X (liftSet X.K bs t))
    (ha : ∀ v, assign (.Subscript o i pos) X.env v = (do
      let ov ← holding [v] (eval o X.env)
      let iv ← holding [v, ov] (eval i X.env)
      standAt pos
      holding [v, ov, iv] (setItem ov iv v)
      release [v, ov, iv] []) := by intro _; rfl) : PG3 bs X (.Subscript o i pos) [] (wgSub to ti t) := by
  refine PG.weak (pg_sub ho hi hs ha) ?_
  rintro v σ H Q ⟨d, τ, M, Q3, r, e, m, q, k⟩
  refine ⟨τ, M, _, e, m, q, fun ov H1 od M1 x1 m1 r1 q1 => ⟨τ, M1, _, e.go (x1.still m), m1, q1, fun iv H2 id M2 x2 m2 r2 q2 => ?_⟩⟩
  exact ⟨od, id, d, M2, _, r1.go (x2.still m1), r2, (r.go (x1.still m)).go (x2.still m1), m2, q2, fun H3 M3 x3 m3 q3 =>
    k σ τ H3 M3 (x1.trans (x2.trans x3)) .refl (((e.go (x1.still m)).go (x2.still m1)).go (x3.still m2)) m3 q3⟩
def wAsg (te : TE3) (g : TG3) : TS3 := fun D τ M => te τ M fun d M1 => g d τ M1 D.nx
theorem s_asg {tg : Expr} {g : TG3} {ix : List Nat} (he : PE3 bs X e te) (hg : PG3 bs X tg ix g) (hs : swapsWithSole [tg] e pos.line X.env = pure false := by rfl) (hw : swappedStores [tg] e X.env = pure none := by rfl)
    (h1 : (assignEach [tg] X.env).map (·.2) = [assign tg X.env] := by rfl) : PS3 bs X (.Assign [tg] e pos) (wAsg te g) := by
  refine PS.weak (ps_asg he hg hs hw h1) ?_
  rintro D σ H ⟨τ, M, D3, e, m, q, kn, _⟩
  refine ⟨τ, M, _, e, m, q, fun v H1 d M1 x m1 r q1 => ?_⟩
  exact ⟨d, τ, M1, D3.nx, r, e.go (x.still m), m1, q1, fun σ2 τ2 H2 M2 x2 _ e2 m2 q2 => kn σ2 τ2 H2 M2 (x.trans x2) e2 m2 q2⟩
/-- a, b = x, y of plain local names -/
def wPar (i j : Nat) (ta : TA3) : TS3 := fun D τ M => ta τ M fun ds M1 => match ds with
  | [d, e] => D.nx (setS (setS τ i (some d)) j (some e)) M1
  | _ => False
theorem s_par {i j : Nat} {x y : Str} {a b : Expr} {ta : TA3} {px py pt : Pos} {kt k2 pt2} (hc : X.calm = true) (hN : X.N.Nodup) (hi : X.N[i]? = some x) (hj : X.N[j]? = some y) (hij : i ≠ j)
    (hx : X.env.scope.names.lookup x = some .local) (hy : X.env.scope.names.lookup y = some .local) (ha : PA3 bs X [a, b] ta)
    (hw : swappedStores [.Tuple [.Name x px, .Name y py] kt pt] (.Tuple [a, b] k2 pt2) X.env = pure (some [x, y]))
    (hs : swapsWithSole [.Tuple [.Name x px, .Name y py] kt pt] (.Tuple [a, b] k2 pt2) pos.line X.env = pure false := by rfl) :
    PS3 bs X (.Assign [.Tuple [.Name x px, .Name y py] kt pt] (.Tuple [a, b] k2 pt2) pos) (wPar i j ta) := by
  refine PS.weak (ps_par hc hN hi hj hij hx hy ha hw hs) ?_
  rintro D σ H ⟨τ, M, D3, e, m, q, kn, _⟩
  refine ⟨τ, M, _, e, m, q, fun vs H1 ds M1 x m1 r q1 => ?_⟩
  match ds, r, q1 with
  | [], _, q1 => exact False.elim q1
  | [_], _, q1 => exact False.elim q1
  | [d, e'], r, q1 =>
    cases r with
    | cons r1 r2 =>
      cases r2 with
      | cons r2 r3 =>
        cases r3
        exact ⟨_, _, rfl, kn _ _ H1 M1 x (((e.go (x.still m)).set r1).set r2) m1 q1⟩
  | _ :: _ :: _ :: _, _, q1 => exact False.elim q1
end
structure ItOk (K : PySem.W.Frag) (J : It) (P : Hp → Prop) (G : Mp → Prop) (ds : List D) : Prop where
  mono : ∀ M M' H H', RM0 K H M → Ext M M' H H' → P H → P H'
  stop : ∀ H M, RM0 K H M → P H → G M → J.stop ds.length H
  go : ∀ i d H M, RM0 K H M → P H → G M → ds[i]? = some d → J.go i H ∧ ∀ x H', J.yld i H x H' → Ext M M H H' ∧ RM0 K H' M ∧ RD K H' x d
abbrev TI3 := St3 → Mp → (List D → (Mp → Prop) → Mp → Prop) → Prop
def liftI (K : PySem.W.Frag) (bs : BS) (w : TI3) : TI := fun σ H R => ∃ τ M R3, RE K H σ τ ∧ RM K bs H M ∧ w τ M R3 ∧
  ∀ J P G ds H' M', Ext M M' H H' → RM K bs H' M' → ItOk K J P G ds → P H' → R3 ds G M' → R J H'
def PI3 (bs : BS) (X : Cx) (tg e : Expr) (w : TI3) : Prop := PI X tg e (liftI X.K bs w)
/-- a loop over ds -/
def forW (G : Mp → Prop) (g : TG3) (tb : TS3) (E : Ends3) : List D → St3 → Mp → Prop
  | [], τ, M => G M ∧ E.nx τ M
  | d :: r, τ, M => G M ∧ g d τ M fun τ2 M2 => tb { E with nx := forW G g tb E r, ct := forW G g tb E r, bk := E.nx } τ2 M2
def wFor (wi : TI3) (g : TG3) (tb : TS3) : TS3 := fun E τ M => wi τ M fun ds G M1 => forW G g tb E ds τ M1
section
variable {bs : BS} {X : Cx} {tg iter : Expr} {body : List Stmt} {wi : TI3} {g : TG3} {tb : TS3} {ix : List Nat} {pos : Pos}
theorem s_for (hp : PassesOwn (model X.prog X.w) X.A X.env X.xe) (hc : X.calm = true) (hi : PI3 bs X tg iter wi) (hg : PG3 bs X tg ix g) (hb : PSs3 bs X body tb)
    (hs : ∀ x, foldedSetIterable iter X.env x = pure x := by intro _; rfl) : PS3 bs X (.For tg iter body [] pos) (wFor wi g tb) := by
  refine PS.weak (ps_for hp hc hi hg hb hs) ?_
  rintro E σ H ⟨τ, M, D3, e, m, q, kn, kr, kb, kc⟩
  refine ⟨τ, M, _, e, m, q, fun J P G ds H1 M1 x1 m1 it p1 q1 => ?_⟩
  refine ⟨fun i mm σ' H' => mm = ds.length - i ∧ i ≤ ds.length ∧ P H' ∧ ∃ τ' M', RE X.K H' σ' τ' ∧ RM X.K bs H' M' ∧ Ext M M' H H' ∧ forW G g tb D3 (ds.drop i) τ' M', ?_, ?_⟩
  · exact ⟨ds.length, by simp, Nat.zero_le _, p1, τ, M1, e.go (x1.still m), m1, x1, by simpa using q1⟩
  · rintro i mm σ2 H2 ⟨rfl, hi', p2, τ2, M2, e2, m2, x2, q2⟩
    by_cases hlt : i < ds.length
    · right
      have hd : ds[i]? = some ds[i] := List.getElem?_eq_getElem hlt
      rw [List.drop_eq_getElem_cons hlt] at q2
      obtain ⟨g2, q2⟩ := q2
      obtain ⟨go, yl⟩ := it.go i ds[i] H2 M2 m2.m p2 g2 hd
      refine ⟨go, fun σ' H' => P H' ∧ ∃ τ' M', RE X.K H' σ' τ' ∧ RM X.K bs H' M' ∧ Ext M M' H H' ∧ forW G g tb D3 (ds.drop (i + 1)) τ' M', fun σ' H' h => ?_, fun x H3 y => ?_⟩
      · exact ⟨ds.length - (i + 1), by omega, rfl, hlt, h⟩
      · obtain ⟨x3, m30, r3⟩ := yl x H3 y
        have m3 := m2.to x3 m30
        have p3 := it.mono M2 M2 H2 H3 m2.m x3 p2
        refine ⟨ds[i], τ2, M2, _, r3, e2.go (x3.still m2), m3, q2, fun σ4 τ4 H4 M4 x4 b4 e4 m4 q4 => ?_⟩
        have p4 := it.mono M2 M4 H3 H4 m3.m x4 p3
        have x24 : Ext M M4 H H4 := x2.trans (x3.trans x4)
        refine ⟨τ4, M4, _, e4, m4, q4, fun σ5 τ5 H5 M5 x5 e5 m5 q5 => ?_, fun v d H5 M5 x5 m5 r5 q5 => kr v d H5 M5 (x24.trans x5) m5 r5 q5, fun σ5 τ5 H5 M5 x5 e5 m5 q5 => kn σ5 τ5 H5 M5 (x24.trans x5) e5 m5 q5, fun σ5 τ5 H5 M5 x5 e5 m5 q5 => ?_⟩
        · exact ⟨it.mono M4 M5 H4 H5 m4.m x5 p4, τ5, M5, e5, m5, x24.trans x5, q5⟩
        · exact ⟨it.mono M4 M5 H4 H5 m4.m x5 p4, τ5, M5, e5, m5, x24.trans x5, q5⟩
    · left
      have ei : i = ds.length := by omega
      subst ei
      rw [List.drop_length] at q2
      obtain ⟨g2, q2⟩ := q2
      exact ⟨it.stop H2 M2 m2.m p2 g2, kn σ2 τ2 H2 M2 x2 e2 m2 q2⟩
end
def whileW (c : TT3) (tb : TS3) (E : Ends3) : Nat → St3 → Mp → Prop
  | 0, _, _ => False
  | n + 1, τ, M => c τ M fun b M1 => ite3 b (tb { E with nx := whileW c tb E n, ct := whileW c tb E n, bk := E.nx } τ M1) (E.nx τ M1)
def wWhile (c : TT3) (tb : TS3) : TS3 := fun E τ M => ∃ n, whileW c tb E n τ M
section
variable {bs : BS} {X : Cx} {c : Expr} {body : List Stmt} {tc : TT3} {tb : TS3} {pos : Pos}
theorem s_while (hp : PassesOwn (model X.prog X.w) X.A X.env X.xe) (hc : PT3 bs X c tc) (hb : PSs3 bs X body tb) : PS3 bs X (.While c body [] pos) (wWhile tc tb) := by
  refine PS.weak (ps_while hp hc hb) ?_
  rintro E σ H ⟨τ, M, D3, e, m, ⟨n, q⟩, kn, kr, kb, kc⟩
  refine ⟨fun mm σ H' => ∃ τ' M', RE X.K H' σ τ' ∧ RM X.K bs H' M' ∧ Ext M M' H H' ∧ whileW tc tb D3 mm τ' M', ⟨n, τ, M, e, m, .refl, q⟩, ?_⟩
  rintro mm σ2 H2 ⟨τ2, M2, e2, m2, x2, q2⟩
  cases mm with
  | zero => exact False.elim q2
  | succ mm =>
    refine ⟨τ2, M2, _, e2, m2, q2, fun b H3 M3 x3 m3 q3 => ?_⟩
    cases b with
    | true =>
      refine iteT ⟨fun σ' H' => ∃ τ' M', RE X.K H' σ' τ' ∧ RM X.K bs H' M' ∧ Ext M M' H H' ∧ whileW tc tb D3 mm τ' M', fun σ' H' h => ⟨mm, Nat.lt_succ_self _, h⟩, ?_⟩
      have x23 : Ext M M3 H H3 := x2.trans x3
      exact ⟨τ2, M3, _, e2.go (x3.still m2), m3, q3, fun σ5 τ5 H5 M5 x5 e5 m5 q5 => ⟨τ5, M5, e5, m5, x23.trans x5, q5⟩, fun v d H5 M5 x5 m5 r5 q5 => kr v d H5 M5 (x23.trans x5) m5 r5 q5,
        fun σ5 τ5 H5 M5 x5 e5 m5 q5 => kn σ5 τ5 H5 M5 (x23.trans x5) e5 m5 q5, fun σ5 τ5 H5 M5 x5 e5 m5 q5 => ⟨τ5, M5, e5, m5, x23.trans x5, q5⟩⟩
    | false => exact iteF (kn σ2 τ2 H3 M3 (x2.trans x3) (e2.go (x3.still m2)) m3 q3)
end
/-- the list that comes of ds, from τ with the block's names forgotten -/
def lcW (G : Mp → Prop) (g : TG3) (tt : TT3) (te : TE3) (τ : St3) (Q : List D → Mp → Prop) : List D → List D → Mp → Prop
  | [], acc, M => G M ∧ Q acc M
  | d :: r, acc, M => G M ∧ g d τ M fun τ2 M2 => tt τ2 M2 fun b M3 => ite3 b (te τ2 M3 fun y M4 => acc.length < sizeLine ∧ lcW G g tt te τ Q r (acc ++ [y]) M4) (lcW G g tt te τ Q r acc M3)
def wLcL (wi : TI3) (g : TG3) (tt : TT3) (te : TE3) (vs : List Nat) : St3 → Mp → (List D → Mp → Prop) → Prop := fun τ M Q => wi τ M fun ds G M1 => lcW G g tt te (wipe3 τ vs) Q ds [] M1
def wLc (wi : TI3) (g : TG3) (tt : TT3) (te : TE3) (vs : List Nat) : TE3 := fun τ M Q => wLcL wi g tt te vs τ M fun acc M2 => ∀ p, M2 p = none → Q (.ref p) (mset M2 p (.lst acc))
def PTs3 (bs : BS) (X : Cx) (ifs : List Expr) (t : TT3) : Prop := PTs X ifs (liftT X.K bs t)
def wYes : TT3 := fun _ M Q => Q true M
theorem ts_nil {bs : BS} {X : Cx} : PTs3 bs X [] wYes := ⟨fun pins s σ H Q I ⟨τ, M, Q3, e, m, q, k⟩ => pts_nil.run pins s σ H Q I (k true H M .refl m q)⟩
theorem ts_one {bs : BS} {X : Cx} {c : Expr} {t : TT3} (h : PT3 bs X c t) : PTs3 bs X [c] t := pts_one h
/-- a fresh list at p, not in M -/
structure Fresh (K : PySem.W.Frag) (H : Hp) (M : Mp) (p : Addr) (ds : List D) : Prop where
  free : M p = none
  lst : ∃ vs, H p = some (.lst vs) ∧ RDs K H vs ds
theorem Fresh.go {K : PySem.W.Frag} {H H' : Hp} {M M' : Mp} {p : Addr} {ds : List D} (f : Fresh K H M p ds) (m : RM0 K H M) (x : Ext M M' H H') : Fresh K H' M' p ds := by
  obtain ⟨vs, h, r⟩ := f.lst
  refine ⟨?_, vs, x.fr p _ h f.free, r.go (x.still0 m)⟩
  cases q : M' p with
  | none => rfl
  | some o =>
    rcases x.dom p (by rw [q]; exact fun z => nomatch z) with z | z
    · exact absurd f.free z
    · rw [h] at z; cases z
theorem Fresh.laid {K : PySem.W.Frag} {H : Hp} {M : Mp} {p : Addr} {vs : List V} {ds : List D} (m : RM0 K H M) (hp : H p = none) (r : RDs K H vs ds) : Fresh K (upd H p (.lst vs)) M p ds :=
  ⟨m.free hp, vs, upd_same, r.go ((m.upNew hp).1.still0 m)⟩
/-- it is written, M stays -/
theorem Fresh.put {K : PySem.W.Frag} {H : Hp} {M : Mp} {p : Addr} {ds ds' : List D} {vs : List V} (f : Fresh K H M p ds) (m : RM0 K H M) (r : RDs K H vs ds') : Still K H (upd H p (.lst vs)) ∧ RM0 K (upd H p (.lst vs)) M ∧ Fresh K (upd H p (.lst vs)) M p ds' := by
  obtain ⟨ws, h, _⟩ := f.lst
  have s : Still K H (upd H p (.lst vs)) := by
    refine ⟨fun a xs q => ?_, fun a xs q => ?_⟩
    · rcases q with (q | ⟨o, q⟩) | q
      · exact .inl (.inl (by rw [upd_ne (by intro z; subst z; rw [h] at q; cases q)]; exact q))
      · exact .inl (.inr ⟨o, by rw [upd_ne (by intro z; subst z; rw [h] at q; cases q)]; exact q⟩)
      · exact .inr q
    · rcases q with ⟨o, q⟩ | q
      · exact .inl ⟨o, by rw [upd_ne (by intro z; subst z; rw [h] at q; cases q)]; exact q⟩
      · exact .inr q
  refine ⟨s, fun a o q => (m a o q).go s fun u hu => ?_, f.free, vs, upd_same, r.go s⟩
  rw [upd_ne (ne_m q f.free)]; exact hu
/-- it comes into M -/
theorem Fresh.take {K : PySem.W.Frag} {H : Hp} {M' : Mp} {p : Addr} {ds : List D} (f : Fresh K H M' p ds) (m : RM0 K H M') : RM0 K H (mset M' p (.lst ds)) := by
  intro a o q
  by_cases e : a = p
  · subst e; rw [mset_same] at q; cases q; exact f.lst
  · rw [mset_ne e] at q; exact m a o q
/-- a step that leaves out p: from H (p fresh there) to H' with p's list otherwise -/
theorem ext_but {M M' : Mp} {H H1 : Hp} {p : Addr} (h0 : H p = none) (x : Ext M M' H H1) (o : HO) : Ext M M' H (upd H1 p o) :=
  ⟨fun a u ha hm => by rw [upd_ne (ne_of_none ha h0)]; exact x.fr a u ha hm, x.dom⟩
section
variable {bs : BS} {X : Cx} {elt tg iter : Expr} {ifs : List Expr} {scope : Scope} {own : List (Str × Nat)} {pos : Pos} {wi : TI3} {g : TG3} {tt : TT3} {te : TE3} {ix : List Nat}
theorem lift_lcL (hix : ∀ i ∈ ix, i ∈ own.map (·.2)) : ∀ σ H (Q : VK), (∃ τ M Q3, RE X.K H σ τ ∧ RM X.K bs H M ∧ wLcL wi g tt te (own.map (·.2)) τ M Q3 ∧
      ∀ D H' acc M', Ext M M' H H' → RM X.K bs H' M' → Fresh X.K H' M' D acc → (M D ≠ none ∨ H D = none) → Q3 acc M' → Q (.ref D) H') →
    tLc (liftI X.K bs wi) (liftG X.K bs ix g) (liftT X.K bs tt) (lift X.K bs te) (own.map (·.2)) σ H Q := by
  rintro σ H Q ⟨τ, M, Q3, e, m, q, k⟩
  refine ⟨τ, M, _, e, m, q, fun J P G ds H1 M1 x1 m1 it p1 q1 => ?_⟩
  intro L hL
  refine ⟨fun i mm H' => mm = ds.length - i ∧ i ≤ ds.length ∧ P H' ∧ ∃ M' acc, RM X.K bs H' M' ∧ Ext M1 M' H1 H' ∧ Fresh X.K H' M' L acc ∧ lcW G g tt te (wipe3 τ (own.map (·.2))) Q3 (ds.drop i) acc M', ?_, ?_⟩
  · obtain ⟨x2, m2⟩ := m1.upNew (o := .lst []) hL
    exact ⟨ds.length, by simp, Nat.zero_le _, it.mono M1 M1 H1 _ m1.m x2 p1, M1, [], m2, x2, Fresh.laid m1.m hL .nil, by simpa using q1⟩
  · rintro i mm H2 ⟨rfl, hi', p2, M2, acc, m2, x2, f2, q2⟩
    by_cases hlt : i < ds.length
    · right
      have hd : ds[i]? = some ds[i] := List.getElem?_eq_getElem hlt
      rw [List.drop_eq_getElem_cons hlt] at q2
      obtain ⟨g2, q2⟩ := q2
      obtain ⟨go, yl⟩ := it.go i ds[i] H2 M2 m2.m p2 g2 hd
      refine ⟨go, fun H' => P H' ∧ ∃ M' acc, RM X.K bs H' M' ∧ Ext M1 M' H1 H' ∧ Fresh X.K H' M' L acc ∧ lcW G g tt te (wipe3 τ (own.map (·.2))) Q3 (ds.drop (i + 1)) acc M', fun H' h => ⟨ds.length - (i + 1), by omega, rfl, hlt, h⟩, fun x H3 y => ?_⟩
      obtain ⟨x3, m30, r3⟩ := yl x H3 y
      have m3 := m2.to x3 m30
      have p3 := it.mono M2 M2 H2 H3 m2.m x3 p2
      have f3 := f2.go m2.m x3
      have x13 := x2.trans x3
      have e3 : RE X.K H3 (L2.wipe σ (own.map (·.2))) (wipe3 τ (own.map (·.2))) := (e.go ((x1.still m).trans (x13.still m1))).wipe _
      refine ⟨ds[i], _, M2, _, r3, e3, m3, q2, fun σ4 τ4 H4 M4 x4 b4 e4 m4 q4 => ⟨(b4.wipe hix).trans (wipe_wipe _ _), ?_⟩⟩
      have p4 := it.mono M2 M4 H3 H4 m3.m x4 p3
      have f4 := f3.go m3.m x4
      have x14 := x13.trans x4
      refine ⟨τ4, M4, _, e4, m4, q4, fun b H5 M5 x5 m5 q5 => ?_⟩
      have p5 := it.mono M4 M5 H4 H5 m4.m x5 p4
      have f5 := f4.go m4.m x5
      have x15 := x14.trans x5
      cases b with
      | false => exact iteF ⟨p5, M5, acc, m5, x15, f5, q5⟩
      | true =>
        refine iteT ⟨τ4, M5, _, e4.go (x5.still m4), m5, q5, fun z H6 dz M6 x6 m6 r6 q6 => ?_⟩
        have f6 := f5.go m5.m x6
        have x16 := x15.trans x6
        obtain ⟨vs, hv, rv⟩ := f6.lst
        obtain ⟨s7, m7, f7⟩ := f6.put (vs := vs ++ [z]) m6.m (rv.app (.cons r6 .nil))
        have x17 : Ext M1 M6 H1 (upd H6 L (.lst (vs ++ [z]))) := ext_but hL x16 _
        have m7 := m1.to x17 m7
        refine ⟨vs, hv, by rw [rv.length]; exact q6.1, it.mono M1 M6 H1 _ m1.m x17 p1, M6, acc ++ [dz], m7, x17, f7, q6.2⟩
    · left
      have ei : i = ds.length := by omega
      subst ei
      rw [List.drop_length] at q2
      obtain ⟨g2, q2⟩ := q2
      refine ⟨it.stop H2 M2 m2.m p2 g2, k L H2 acc M2 (x1.trans x2) m2 f2 ?_ q2⟩
      cases z : H L with
      | none => exact .inr rfl
      | some o =>
        left
        intro zm
        rw [x1.fr L o z zm] at hL; cases hL
/-- as a value -/
theorem lift_lc (hix : ∀ i ∈ ix, i ∈ own.map (·.2)) : ∀ σ H (Q : VK), lift X.K bs (wLc wi g tt te (own.map (·.2))) σ H Q → tLc (liftI X.K bs wi) (liftG X.K bs ix g) (liftT X.K bs tt) (lift X.K bs te) (own.map (·.2)) σ H Q := by
  rintro σ H Q ⟨τ, M, Q3, e, m, q, k⟩
  refine lift_lcL hix σ H Q ⟨τ, M, _, e, m, q, fun L H' acc M' x m' f z q' => ?_⟩
  have y : Ext M (mset M' L (.lst acc)) H H' := ⟨x.fr, fun a h => by
    by_cases ea : a = L
    · subst ea; exact z
    · rw [mset_ne ea] at h; exact x.dom a h⟩
  exact k (.ref L) H' (.ref L) (mset M' L (.lst acc)) y (m.to y (f.take m'.m)) (.ref L) (q' L f.free)
theorem e_lc (hix : ∀ i ∈ ix, i ∈ own.map (·.2)) (hc : X.calm = true) (hN : X.N.Nodup) (hi : PI3 bs X tg iter wi) (ok : BlkOk X.N X.env.scope scope own)
    (hg : ∀ (s : Shared) (H : Hp) (C : Addr) (cl : List (Str × Addr)) (fp : List Addr), PG3 bs (X.blk s H scope (compEnvC scope cl C X.env) fp) tg ix g)
    (ht : ∀ (s : Shared) (H : Hp) (C : Addr) (cl : List (Str × Addr)) (fp : List Addr), PTs3 bs (X.blk s H scope (compEnvC scope cl C X.env) fp) ifs tt)
    (he : ∀ (s : Shared) (H : Hp) (C : Addr) (cl : List (Str × Addr)) (fp : List Addr), PE3 bs (X.blk s H scope (compEnvC scope cl C X.env) fp) elt te) (hs : ∀ x, foldedSetIterable iter X.env x = pure x := by intro _; rfl) :
    PE3 bs X (.ListComp elt [⟨tg, iter, ifs, 0⟩] scope pos) (wLc wi g tt te (own.map (·.2))) :=
  PE.weak (pe_lc (g := liftG X.K bs ix g) (tt := liftT X.K bs tt) (te := lift X.K bs te) hc hN hi ok hg ht he hs) (lift_lc hix)
end
end L3
set_option Elab.async false
set_option linter.all false
set_option maxRecDepth 100000
set_option maxHeartbeats 4000000
namespace L3
open PySem PySem.Spec PyProof.Rows L2
section
variable {bs : BS} {X : Cx}
/-- from a rule by values to a rule by data -/
theorem op3 {f : Value → Value → Sem Value} {r : R23} (h : ∀ (d e : D) (x y : V) (H : Hp) (M : Mp) (Q : VK) (Q3 : VK3), RD X.K H x d → RD X.K H y e → RM X.K bs H M → r d e M Q3 →
    (∀ v H' z M', Ext M M' H H' → RM X.K bs H' M' → RD X.K H' v z → Q3 z M' → Q v H') → ∃ r2 : R2, OpR X f r2 ∧ r2 x y H Q) : OpR X f (lift2 X.K bs r) := by
  rintro pins s σ H x y v u Q I rx ry ⟨d, e, M, Q3, r1, r2, m, q, k⟩
  obtain ⟨rr, ho, hq⟩ := h d e x y H M Q Q3 r1 r2 m q k
  exact ho pins s σ H x y v u Q I rx ry hq
theorem call3 {f : Value} {r : List D → Mp → VK3 → Prop} (h : ∀ (ds : List D) (xs : List V) (H : Hp) (M : Mp) (Q : VK) (Q3 : VK3), RDs X.K H xs ds → RM X.K bs H M → r ds M Q3 →
    (∀ v H' z M', Ext M M' H H' → RM X.K bs H' M' → RD X.K H' v z → Q3 z M' → Q v H') → ∃ r2 : List V → Hp → VK → Prop, CallR X f r2 ∧ r2 xs H Q) : CallR X f (liftV X.K bs r) := by
  rintro pins s σ H xs us Q I rx ⟨ds, M, Q3, r1, m, q, k⟩
  obtain ⟨rr, ho, hq⟩ := h ds xs H M Q Q3 r1 m q k
  exact ho pins s σ H xs us Q I rx hq
def oAdd : R23 := fun d e M Q => match d, e with
  | .int i, .int j => Q (.int (i + j)) M
  | .str x, .str y => x.length + y.length ≤ sizeLine ∧ Q (.str (x ++ y)) M
  | .tup xs, .tup ys => xs.length + ys.length ≤ sizeLine ∧ Q (.tup (xs ++ ys)) M
  | .ref a, .ref b => match M a, M b with
    | some (.lst xs), some (.lst ys) => xs.length + ys.length ≤ sizeLine ∧ ∀ p, M p = none → Q (.ref p) (mset M p (.lst (xs ++ ys)))
    | _, _ => False
  | _, _ => False
theorem o_add : OpR X (binaryOp .Add) (lift2 X.K bs oAdd) := op3 fun d e x y H M Q Q3 r1 r2 m q k => by
  cases d with
  | int i =>
    cases e with
    | int j => cases r1; cases r2; exact ⟨_, op_add, _, _, rfl, rfl, k _ _ _ M .refl m (.int _) q⟩
    | _ => exact False.elim q
  | str i =>
    cases e with
    | str j => cases r1; cases r2; exact ⟨_, op_add_str, _, _, rfl, rfl, q.1, k _ _ _ M .refl m (.str _) q.2⟩
    | _ => exact False.elim q
  | tup xs =>
    cases e with
    | tup ys =>
      cases r1 with
      | tup h1 l1 =>
        cases r2 with
        | tup h2 l2 =>
          refine ⟨_, op_catA, _, _, _, _, rfl, rfl, h1, h2, by rw [l1.length, l2.length]; exact q.1, fun e => ?_, fun _ e => ?_, fun _ _ p hp => ?_⟩
          · subst e; cases l1; exact k _ _ _ M .refl m (.tup h2 l2) q.2
          · subst e; cases l2
            have q' : xs.length + 0 ≤ sizeLine ∧ Q3 (.tup (xs ++ [])) M := q
            rw [List.append_nil] at q'
            exact k _ _ _ M .refl m (.tup h1 l1) q'.2
          · obtain ⟨x2, m2⟩ := m.upNew (o := .tup _) hp
            exact k _ _ _ M x2 m2 (.tup (SqT.of upd_same) ((l1.app l2).go (x2.still m))) q.2
    | _ => exact False.elim q
  | ref a =>
    cases e with
    | ref b =>
      cases r1; cases r2
      simp only [oAdd] at q
      split at q
      · rename_i xs ys ha hb
        obtain ⟨vs, hv, l1⟩ := m.at ha
        obtain ⟨ws, hw, l2⟩ := m.at hb
        refine ⟨_, op_cat, _, _, _, _, rfl, rfl, hv, hw, by rw [l1.length, l2.length]; exact q.1, fun p hp => ?_⟩
        obtain ⟨x2, m2⟩ := m.newL hp (l1.app l2)
        exact k _ _ _ _ x2 m2 (.ref p) (q.2 p (m.free hp))
      · exact False.elim q
    | _ => exact False.elim q
  | _ => cases e <;> exact False.elim q
def oInt (C : Int → Int → Prop) (g : Int → Int → Int) : R23 := fun d e M Q => asI d fun i => asI e fun j => C i j ∧ Q (.int (g i j)) M
theorem o_int {f : Value → Value → Sem Value} {C : Int → Int → Prop} {g : Int → Int → Int} (h : OpR X f (rI C fun i j => .int (g i j))) : OpR X f (lift2 X.K bs (oInt C g)) := op3 fun d e x y H M Q Q3 r1 r2 m q k => by
  cases d with
  | int i =>
    cases e with
    | int j => cases r1; cases r2; exact ⟨_, h, _, _, rfl, rfl, q.1, k _ _ _ M .refl m (.int _) q.2⟩
    | _ => exact False.elim q
  | _ => cases e <;> exact False.elim q
def oSub : R23 := fun d e M Q => asI d fun i => asI e fun j => Q (.int (i - j)) M
theorem o_sub : OpR X (binaryOp .Sub) (lift2 X.K bs oSub) := op3 fun d e x y H M Q Q3 r1 r2 m q k => by
  cases d with
  | int i =>
    cases e with
    | int j => cases r1; cases r2; exact ⟨_, op_sub, _, _, rfl, rfl, k _ _ _ M .refl m (.int _) q⟩
    | _ => exact False.elim q
  | _ => cases e <;> exact False.elim q
/-- // by a positive divisor below 2 ^ 9000, or by a small one of any sign -/
def CFd (i j : Int) : Prop := j ≠ 0 ∧ j.natAbs.log2 < 9000
theorem op_fd : OpR X (binaryOp .FloorDiv) (rI CFd fun i j => .int (i.fdiv j)) := opI fun i j _ _ _ _ _ hc q => floordiv_int hc.1 q (.inl (PyProof.noPylong_of_log2 hc.2))
theorem op_ml : OpR X (binaryOp .Mult) (rI IntMulOk fun i j => .int (i * j)) := opI fun _ _ _ _ _ _ _ hc q => mul_int q hc
def oFd : R23 := oInt CFd fun i j => i.fdiv j
def oMd : R23 := oInt (fun _ j => j ≠ 0) fun i j => i.fmod j
def oPw : R23 := oInt CPow fun i j => i ^ j.toNat
def oShl : R23 := oInt CPow fun i j => i * 2 ^ j.toNat
theorem o_fd : OpR X (binaryOp .FloorDiv) (lift2 X.K bs oFd) := o_int op_fd
theorem o_md : OpR X (binaryOp .Mod) (lift2 X.K bs oMd) := o_int op_modN
theorem o_pw : OpR X (binaryOp .Pow) (lift2 X.K bs oPw) := o_int op_pow
def oMul : R23 := fun d e M Q => match d, e with
  | .int i, .int j => IntMulOk i j ∧ Q (.int (i * j)) M
  | .ref a, .int k => match M a with
    | some (.lst xs) => (-(2 ^ 63) ≤ k ∧ k < 2 ^ 63 ∧ xs.length * k.toNat ≤ sizeLine) ∧ ∀ p, M p = none → Q (.ref p) (mset M p (.lst (List.replicate k.toNat xs).flatten))
    | _ => False
  | _, _ => False
theorem RDs.rep {K : PySem.W.Frag} {H : Hp} {vs : List V} {ds : List D} (h : RDs K H vs ds) : ∀ k : Nat, RDs K H (List.replicate k vs).flatten (List.replicate k ds).flatten
  | 0 => .nil
  | k + 1 => by
    rw [List.replicate_succ, List.replicate_succ, List.flatten_cons, List.flatten_cons]
    exact h.app (RDs.rep h k)
theorem o_mul : OpR X (binaryOp .Mult) (lift2 X.K bs oMul) := op3 fun d e x y H M Q Q3 r1 r2 m q k => by
  cases d with
  | int i =>
    cases e with
    | int j => cases r1; cases r2; exact ⟨_, op_ml, _, _, rfl, rfl, q.1, k _ _ _ M .refl m (.int _) q.2⟩
    | _ => exact False.elim q
  | ref a =>
    cases e with
    | int j =>
      cases r1; cases r2
      simp only [oMul] at q
      split at q
      · rename_i xs ha
        obtain ⟨vs, hv, l1⟩ := m.at ha
        refine ⟨_, op_rep, _, _, _, rfl, rfl, hv, q.1.1, q.1.2.1, by rw [l1.length]; exact q.1.2.2, fun p hp => ?_⟩
        obtain ⟨x2, m2⟩ := m.newL hp (l1.rep j.toNat)
        exact k _ _ _ _ x2 m2 (.ref p) (q.2 p (m.free hp))
      · exact False.elim q
    | _ => exact False.elim q
  | _ => cases e <;> exact False.elim q
def oNeg : D → Mp → VK3 → Prop := fun d M Q => asI d fun i => Q (.int (-i)) M
def wUn (r : D → Mp → VK3 → Prop) (ta : TE3) : TE3 := fun τ M Q => ta τ M fun x M1 => r x M1 Q
theorem e_neg {a : Expr} {ta : TE3} {pos : Pos} (ha : PE3 bs X a ta) : PE3 bs X (.UnaryOp .USub a pos) (wUn oNeg ta) := by
  refine PE.weak (pe_un un_neg ha) ?_
  rintro σ H Q ⟨τ, M, Q3, e, m, q, k⟩
  refine ⟨τ, M, _, e, m, q, fun x H1 d M1 x1 m1 r1 q1 => ?_⟩
  cases d with
  | int i => cases r1; exact ⟨i, rfl, k _ H1 _ M1 x1 m1 (.int _) q1⟩
  | _ => exact False.elim q1
def oCmp (p : Int → Int → Bool) : R23 := fun d e M Q => asI d fun i => asI e fun j => Q (.bl (p i j)) M
theorem o_cmp {f : Value → Value → Sem Value} {p : Int → Int → Bool} (h : OpR X f (rI0 fun i j => .bl (p i j))) : OpR X f (lift2 X.K bs (oCmp p)) := op3 fun d e x y H M Q Q3 r1 r2 m q k => by
  cases d with
  | int i =>
    cases e with
    | int j => cases r1; cases r2; exact ⟨_, h, _, _, rfl, rfl, k _ _ _ M .refl m (.bl _) q⟩
    | _ => exact False.elim q
  | _ => cases e <;> exact False.elim q
def oLt : R23 := oCmp fun i j => decide (i < j)
def oLe : R23 := oCmp fun i j => decide (i ≤ j)
def oGt : R23 := oCmp fun i j => decide (j < i)
def oGe : R23 := oCmp fun i j => decide (j ≤ i)
theorem o_lt : OpR X (compareOp .Lt) (lift2 X.K bs oLt) := o_cmp op_lt
theorem o_le : OpR X (compareOp .LtE) (lift2 X.K bs oLe) := o_cmp op_le
theorem o_gt : OpR X (compareOp .Gt) (lift2 X.K bs oGt) := o_cmp op_gt
theorem o_ge : OpR X (compareOp .GtE) (lift2 X.K bs oGe) := o_cmp op_ge
/-- is None -/
def isN : D → Bool
  | .non => true
  | _ => false
def oIsN (neg : Bool) : R23 := fun d e M Q => match e with
  | .non => Q (.bl (if neg then !isN d else isN d)) M
  | _ => False
theorem isN_of {K : PySem.W.Frag} {H : Hp} {v : V} {d : D} (r : RD K H v d) : decide (v = .non) = isN d := by
  cases r <;> simp [isN]
theorem o_is : OpR X (compareOp .Is) (lift2 X.K bs (oIsN false)) := op3 fun d e x y H M Q Q3 r1 r2 m q k => by
  cases e with
  | non => cases r2; exact ⟨_, op_isN, rfl, k _ _ _ M .refl m (.bl _) (by rw [isN_of r1]; exact q)⟩
  | _ => exact False.elim q
theorem o_isnot : OpR X (compareOp .IsNot) (lift2 X.K bs (oIsN true)) := op3 fun d e x y H M Q Q3 r1 r2 m q k => by
  cases e with
  | non => cases r2; exact ⟨_, op_notN, rfl, k _ _ _ M .refl m (.bl _) (by rw [isN_of r1]; exact q)⟩
  | _ => exact False.elim q
mutual
def pdOf : D → PyData
  | .non => .none
  | .bl b => .bool b
  | .int i => .int i
  | .str x => .str x
  | .tup xs => .tuple (pdsOf xs)
  | .rol xs => .list (pdsOf xs)
  | .ref _ => .none
  | .ty _ => .none
def pdsOf : List D → List PyData
  | [] => []
  | d :: ds => pdOf d :: pdsOf ds
end
mutual
/-- no addresses within, texts that are texts -/
def plain : D → Bool
  | .non => true
  | .bl _ => true
  | .int _ => true
  | .str x => PyData.strOk x
  | .tup xs => plains xs
  | .rol xs => plains xs
  | .ref _ => false
  | .ty _ => false
def plains : List D → Bool
  | [] => true
  | d :: ds => plain d && plains ds
end
mutual
def deep : D → Nat
  | .tup xs => deeps xs + 1
  | .rol xs => deeps xs + 1
  | _ => 0
def deeps : List D → Nat
  | [] => 0
  | d :: ds => max (deep d) (deeps ds)
end
mutual
theorem depth_pd : ∀ d : D, (pdOf d).depth = deep d
  | .non => by simp [pdOf, deep, PyData.depth]
  | .bl _ => by simp [pdOf, deep, PyData.depth]
  | .int _ => by simp [pdOf, deep, PyData.depth]
  | .str _ => by simp [pdOf, deep, PyData.depth]
  | .ref _ => by simp [pdOf, deep, PyData.depth]
  | .ty _ => by simp [pdOf, deep, PyData.depth]
  | .tup xs => by simp [pdOf, deep, PyData.depth, depth_pds xs]
  | .rol xs => by simp [pdOf, deep, PyData.depth, depth_pds xs]
theorem depth_pds : ∀ ds : List D, PyData.depthAll (pdsOf ds) = deeps ds
  | [] => by simp [pdsOf, deeps, PyData.depthAll]
  | d :: ds => by simp [pdsOf, deeps, PyData.depthAll, depth_pd d, depth_pds ds]
end
mutual
theorem canLay_pd : ∀ d : D, plain d = true → (pdOf d).canLay0 = true
  | .non, _ => by simp [pdOf, PyData.canLay0]
  | .bl _, _ => by simp [pdOf, PyData.canLay0]
  | .int _, _ => by simp [pdOf, PyData.canLay0]
  | .str _, h => by simpa [pdOf, PyData.canLay0, plain] using h
  | .ref _, h => by simp [plain] at h
  | .ty _, h => by simp [plain] at h
  | .tup xs, h => by simpa [pdOf, PyData.canLay0] using canLay_pds xs (by simpa [plain] using h)
  | .rol xs, h => by simpa [pdOf, PyData.canLay0] using canLay_pds xs (by simpa [plain] using h)
theorem canLay_pds : ∀ ds : List D, plains ds = true → PyData.canLayAll0 (pdsOf ds) = true
  | [], _ => by simp [pdsOf, PyData.canLayAll0]
  | d :: ds, h => by
    have h' : plain d = true ∧ plains ds = true := by simpa [plains] using h
    simp [pdsOf, PyData.canLayAll0, canLay_pd d h'.1, canLay_pds ds h'.2]
end
mutual
theorem dp_of {K : PySem.W.Frag} {H : Hp} : ∀ (d : D) (v : V), plain d = true → RD K H v d → Dp K H v (pdOf d)
  | .non, _, _, r => by cases r; simp only [pdOf]; exact .non
  | .bl b, _, _, r => by cases r; simp only [pdOf]; exact .bl b
  | .int i, _, _, r => by cases r; simp only [pdOf]; exact .int i
  | .str x, _, _, r => by cases r; simp only [pdOf]; exact .str x
  | .ref _, _, h, _ => by simp [plain] at h
  | .ty _, _, h, _ => by simp [plain] at h
  | .tup xs, _, h, r => by
    cases r with
    | tup h1 h2 => simp only [pdOf]; exact .tup h1 (dps_of xs _ (by simpa [plain] using h) h2)
  | .rol xs, _, h, r => by
    cases r with
    | rol h1 h2 => simp only [pdOf]; exact .lst h1.sq (dps_of xs _ (by simpa [plain] using h) h2)
theorem dps_of {K : PySem.W.Frag} {H : Hp} : ∀ (ds : List D) (vs : List V), plains ds = true → RDs K H vs ds → DpAll K H vs (pdsOf ds)
  | [], _, _, r => by cases r; simp only [pdsOf]; exact .nil
  | d :: ds, _, h, r => by
    have h' : plain d = true ∧ plains ds = true := by simpa [plains] using h
    cases r with
    | cons r1 r2 => simp only [pdsOf]; exact .cons (dp_of d _ h'.1 r1) (dps_of ds _ h'.2 r2)
end
/-- a list at an address as a list of data -/
def top (M : Mp) : D → D
  | .ref a => match M a with
    | some (.lst ds) => .rol ds
    | _ => .ref a
  | d => d
theorem dp_top {K : PySem.W.Frag} {H : Hp} {M : Mp} {v : V} {d : D} (m : RM0 K H M) (r : RD K H v d) (h : plain (top M d) = true) : Dp K H v (pdOf (top M d)) := by
  cases d with
  | ref a =>
    cases r
    simp only [top] at h ⊢
    split at h
    · rename_i ds ha
      obtain ⟨vs, hv, l⟩ := m a _ ha
      simp only [ha, pdOf]
      exact .lst (SqL.of hv) (dps_of ds vs (by simpa [plain] using h) l)
    · simp [plain] at h
  | _ => exact dp_of _ v h r
/-- data that == and repr take -/
structure Pl (d : D) : Prop where
  p : plain d = true
  d : deep d ≤ 64
def eqD (d e : D) : Bool := PyData.eqv (pdOf d) (pdOf e)
def eqP (neg : Bool) (d e : D) (Q : D → Prop) : Prop := Pl d ∧ Pl e ∧ Q (.bl (if neg then !eqD d e else eqD d e))
def oEq (neg : Bool) : R23 := fun d e M Q => match d with
  | .str x => match e with
    | .str y => Q (.bl (if neg then !decide (x = y) else decide (x = y))) M
    | e => eqP neg (.str x) (top M e) fun z => Q z M
  | d => eqP neg (top M d) (top M e) fun z => Q z M
theorem shaped_pl {d : D} (h : Pl d) : SeqAt.shaped (pdOf d) = true := by
  unfold SeqAt.shaped
  rw [canLay_pd d h.p, depth_pd, decide_eq_true h.d]
  rfl
theorem o_eqG {neg : Bool} {f : Value → Value → Sem Value} {r1 r2 : R2} (h1 : OpR X f r1) (h2 : OpR X f r2)
    (g1 : ∀ x y : V, ∀ H Q, scal x y = true → Q (V.bl (if neg then !decide (x = y) else decide (x = y))) H → r1 x y H Q)
    (g2 : ∀ (x y : V) H (Q : VK) (d e : PyData), Dp X.K H x d → Dp X.K H y e → SeqAt.shaped d = true → SeqAt.shaped e = true → Q (.bl (if neg then !PyData.eqv d e else PyData.eqv d e)) H → r2 x y H Q) : OpR X f (lift2 X.K bs (oEq neg)) := op3 fun d e x y H M Q Q3 w1 w2 m q k => by
  have gen : ∀ d e, RD X.K H x d → RD X.K H y e → eqP neg (top M d) (top M e) (fun z => Q3 z M) → ∃ r, OpR X f r ∧ r x y H Q := fun d e w1 w2 q =>
    ⟨_, h2, g2 _ _ _ _ _ _ (dp_top m.m w1 q.1.p) (dp_top m.m w2 q.2.1.p) (shaped_pl q.1) (shaped_pl q.2.1) (k _ _ _ M .refl m (.bl _) q.2.2)⟩
  cases d with
  | str a =>
    cases e with
    | str b =>
      cases w1; cases w2
      refine ⟨_, h1, g1 _ _ _ _ rfl (k _ _ _ M .refl m (.bl _) ?_)⟩
      have e : decide (V.str a = V.str b) = decide (a = b) := by
        rw [Bool.eq_iff_iff]; simp
      rw [e]
      exact q
    | _ => exact gen _ _ w1 w2 q
  | _ => exact gen _ _ w1 w2 q
theorem o_eq (hu : X.A.units + 64 < cLine) : OpR X (compareOp .Eq) (lift2 X.K bs (oEq false)) := o_eqG op_eq (op_eqD hu) (fun _ _ _ _ hs q => ⟨hs, q⟩) fun _ _ _ _ _ _ a b c d q => ⟨_, _, a, b, c, d, q⟩
theorem o_ne (hu : X.A.units + 64 < cLine) : OpR X (compareOp .NotEq) (lift2 X.K bs (oEq true)) := o_eqG op_ne (op_neD hu) (fun _ _ _ _ hs q => ⟨hs, q⟩) fun _ _ _ _ _ _ a b c d q => ⟨_, _, a, b, c, d, q⟩
/-- the items of a tuple, a list -/
def lstOf : Option MO → Option (List D)
  | some (.lst ds) => some ds
  | _ => none
def items (M : Mp) : D → Option (List D)
  | .tup ds => some ds
  | .rol ds => some ds
  | .ref a => lstOf (M a)
  | _ => none
def asL (o : Option (List D)) (k : List D → Prop) : Prop := match o with
  | some ds => k ds
  | none => False
theorem asL_some {ds : List D} {k : List D → Prop} : asL (some ds) k = k ds := rfl
theorem lstOf_some {o : Option MO} {ds : List D} (h : lstOf o = some ds) : o = some (.lst ds) := by
  unfold lstOf at h
  split at h
  · cases h; rfl
  · cases h
theorem items_of {K : PySem.W.Frag} {H : Hp} {M : Mp} {v : V} {d : D} {ds : List D} (m : RM0 K H M) (r : RD K H v d) (h : items M d = some ds) : ∃ p vs, v = .ref p ∧ (SqL K H p vs ∨ SqT K H p vs) ∧ RDs K H vs ds := by
  cases d with
  | tup es =>
    cases r with
    | tup h1 h2 => cases h; exact ⟨_, _, rfl, .inr h1, h2⟩
  | rol es =>
    cases r with
    | rol h1 h2 => cases h; exact ⟨_, _, rfl, .inl h1.sq, h2⟩
  | ref a =>
    cases r
    obtain ⟨vs, hv, l⟩ := m a _ (lstOf_some h)
    exact ⟨_, _, rfl, .inl (SqL.of hv), l⟩
  | _ => cases h
theorem atI_rel {K : PySem.W.Frag} {H : Hp} {vs : List V} {ds : List D} {i : Int} {d : D} (l : RDs K H vs ds) (h : atI ds i = some d) : ∃ v, atI vs i = some v ∧ RD K H v d := by
  unfold atI at h ⊢
  rw [l.length]
  cases e : ixN ds.length i with
  | none => rw [e] at h; cases h
  | some j =>
    rw [e] at h
    exact l.get (i := j) h
def oIxS (z : Str) (i : Int) (M : Mp) (Q : VK3) : Prop := match atI z.cps.toList i with
  | some c => z.length ≤ sizeLine ∧ Q (.str ⟨#[c]⟩) M
  | none => False
def oIx : R23 := fun d e M Q => asI e fun i => match d with
  | .str z => oIxS z i M Q
  | d => asL (items M d) fun ds => asS (atI ds i) fun v => Q v M
theorem i_ix : IxR X (lift2 X.K bs oIx) := by
  rintro value slice pins s σ H x y v u Q I rx ry ⟨d, e, M, Q3, r1, r2, m, q, k⟩ hs
  have it : ∀ i, (asL (items M d) fun ds => asS (atI ds i) fun v => Q3 v M) → y = .int i → wpAny (model X.prog X.w) X.A (subscriptTail value slice v u) (EP X pins σ Q) X.xe s := by
    intro i q hy
    unfold asL at q
    split at q
    · rename_i ds hd
      unfold asS at q
      split at q
      · rename_i z hz
        obtain ⟨p, vs, rfl, hq, l⟩ := items_of m.m r1 hd
        obtain ⟨w, hw, rw'⟩ := atI_rel l hz
        refine ix_seq value slice pins s σ H _ y v u Q I rx ry ?_ hs
        rcases hq with hq | hq
        · exact .inl ⟨p, vs, i, w, rfl, hy, hq, hw, k _ _ _ M .refl m rw' q⟩
        · exact .inr (.inl ⟨p, vs, i, w, rfl, hy, hq, hw, k _ _ _ M .refl m rw' q⟩)
      · exact False.elim q
    · exact False.elim q
  cases e with
  | int i =>
    cases r2
    cases d with
    | str z =>
      cases r1
      have q : oIxS z i M Q3 := q
      unfold oIxS at q
      split at q
      · rename_i c hc
        exact ix_seq value slice pins s σ H _ _ v u Q I rx ry (.inr (.inr ⟨z, i, c, rfl, rfl, q.1, hc, k _ _ _ M .refl m (.str _) q.2⟩)) hs
      · exact False.elim q
    | _ => exact it i q rfl
  | _ => exact False.elim q
theorem e_ix {a b : Expr} {ta tb : TE3} {pos : Pos} (ha : PE3 bs X a ta) (hb : PE3 bs X b tb) (hs : PlainIx b := by exact fun _ _ => rfl) : PE3 bs X (.Subscript a b pos) (wOp oIx ta tb) := PE.weak (pe_ix i_ix ha hb hs) lift_op
/-- slices -/
def PO3 (bs : BS) (X : Cx) (e : Option Expr) (t : St3 → Mp → (Option Int → Mp → Prop) → Prop) : Prop := PO X e (fun σ H Q => ∃ τ M Q3, RE X.K H σ τ ∧ RM X.K bs H M ∧ t τ M Q3 ∧ ∀ o H' M', Ext M M' H H' → RM X.K bs H' M' → Q3 o M' → Q o H')
def wNoPart : St3 → Mp → (Option Int → Mp → Prop) → Prop := fun _ M Q => Q none M
def wPart (t : TE3) : St3 → Mp → (Option Int → Mp → Prop) → Prop := fun τ M Q => t τ M fun d M1 => asI d fun i => Q (some i) M1
theorem p_none : PO3 bs X none wNoPart := ⟨fun pins s σ H Q I ⟨τ, M, Q3, e, m, q, k⟩ => po_none.run pins s σ H Q I (k none H M .refl m q)⟩
theorem p_some {e : Expr} {t : TE3} (h : PE3 bs X e t) : PO3 bs X (some e) (wPart t) := by
  refine ⟨fun pins s σ H Q I ⟨τ, M, Q3, e, m, q, k⟩ => (po_some h).run pins s σ H Q I ⟨τ, M, _, e, m, q, fun v H' d M' x m' r q' => ?_⟩⟩
  cases d with
  | int i => cases r; exact ⟨i, rfl, k _ H' M' x m' q'⟩
  | _ => exact False.elim q'
def cutD (xs : List D) (lo hi : Option Int) : List D := (xs.drop (HT.sIx xs.length 0 lo)).take (HT.sIx xs.length xs.length hi - HT.sIx xs.length 0 lo)
def oSl : D → Option Int → Option Int → Mp → VK3 → Prop := fun d lo hi M Q => match d with
  | .tup ds => Q (.tup (cutD ds lo hi)) M
  | .rol ds => ∀ p, M p = none → Q (.ref p) (mset M p (.lst (cutD ds lo hi)))
  | .ref a => match M a with
    | some (.lst ds) => ∀ p, M p = none → Q (.ref p) (mset M p (.lst (cutD ds lo hi)))
    | _ => False
  | _ => False
theorem cut_rel {K : PySem.W.Frag} {H : Hp} {vs : List V} {ds : List D} (l : RDs K H vs ds) (lo hi : Option Int) : RDs K H (cutV vs lo hi) (cutD ds lo hi) := by
  unfold cutV cutD
  rw [l.length]
  exact (l.drop _).take _
theorem cut_whole {ds : List D} {lo hi : Option Int} (h1 : HT.sIx ds.length 0 lo = 0) (h2 : HT.sIx ds.length ds.length hi = ds.length) : cutD ds lo hi = ds := by
  unfold cutD
  rw [h1, h2]
  simp
theorem s_sl : SlR X (fun x lo hi H Q => ∃ d M Q3, RD X.K H x d ∧ RM X.K bs H M ∧ oSl d lo hi M Q3 ∧ ∀ v H' z M', Ext M M' H H' → RM X.K bs H' M' → RD X.K H' v z → Q3 z M' → Q v H') := by
  rintro pins s σ H x v vl vu lo hi sl Q I rx hs pl pu ⟨d, M, Q3, r, m, q, k⟩
  cases d with
  | tup ds =>
    cases r with
    | tup h1 h2 =>
      refine sl_tupA pins s σ H _ v vl vu lo hi sl Q I rx hs pl pu ⟨_, _, rfl, h1, fun w => ?_, fun w p hp => ?_⟩
      · rw [h2.length] at w
        have q' : Q3 (.tup (cutD ds lo hi)) M := q
        rw [cut_whole w.1 w.2] at q'
        exact k _ _ _ M .refl m (.tup h1 h2) q'
      · obtain ⟨x2, m2⟩ := m.upNew (o := .tup _) hp
        exact k _ _ _ M x2 m2 (.tup (SqT.of upd_same) ((cut_rel h2 lo hi).go (x2.still m))) q
  | rol ds =>
    cases r with
    | rol h1 h2 =>
      refine sl_list pins s σ H _ v vl vu lo hi sl Q I rx hs pl pu ⟨_, _, rfl, h1.sq, fun p hp => ?_⟩
      obtain ⟨x2, m2⟩ := m.newL hp (cut_rel h2 lo hi)
      exact k _ _ _ _ x2 m2 (.ref p) (q p (m.free hp))
  | ref a =>
    cases r
    simp only [oSl] at q
    split at q
    · rename_i ds ha
      obtain ⟨vs, hv, l⟩ := m.at ha
      refine sl_list pins s σ H _ v vl vu lo hi sl Q I rx hs pl pu ⟨_, _, rfl, SqL.of hv, fun p hp => ?_⟩
      obtain ⟨x2, m2⟩ := m.newL hp (cut_rel l lo hi)
      exact k _ _ _ _ x2 m2 (.ref p) (q p (m.free hp))
    · exact False.elim q
  | _ => exact False.elim q
def wSl (te : TE3) (tl th : St3 → Mp → (Option Int → Mp → Prop) → Prop) : TE3 := fun τ M Q => te τ M fun d M1 => tl τ M1 fun lo M2 => th τ M2 fun hi M3 => oSl d lo hi M3 Q
def oPut : TSet3 := fun o i v M Q => match o, i with
  | .ref a, .int k => match M a with
    | some (.lst ds) => match ixN ds.length k with
      | some j => Q (mset M a (.lst (ds.set j v)))
      | none => False
    | _ => False
  | _, _ => False
theorem p_put : PSet X (liftSet X.K bs oPut) := by
  rintro pins s σ H o i v ov iv u Q I r1 r2 r3 ⟨od, id, dv, M, Q3, ro, ri, rv, m, q, k⟩
  cases od with
  | ref a =>
    cases id with
    | int z =>
      cases ro; cases ri
      simp only [oPut] at q
      split at q
      · rename_i ds ha
        split at q
        · rename_i j hj
          obtain ⟨vs, hv, l⟩ := m.at ha
          refine set_list pins s σ H _ _ v ov iv u Q I r1 r2 r3 ⟨a, vs, z, j, rfl, rfl, hv, by rw [l.length]; exact hj, ?_⟩
          obtain ⟨x2, m2⟩ := m.putL ha (RDs.set rv j l)
          exact k _ _ x2 m2 q
        · exact False.elim q
      · exact False.elim q
    | _ => exact False.elim q
  | _ => cases id <;> exact False.elim q
abbrev M23 := D → List D → Mp → VK3 → Prop
def liftM (K : PySem.W.Frag) (bs : BS) (r : M23) : V → List V → Hp → VK → Prop := fun x xs H Q => ∃ d ds M Q3, RD K H x d ∧ RDs K H xs ds ∧ RM K bs H M ∧ r d ds M Q3 ∧ ∀ v H' z M', Ext M M' H H' → RM K bs H' M' → RD K H' v z → Q3 z M' → Q v H'
def wBM (r : M23) (to : TE3) (t : TA3) : TE3 := fun τ M Q => to τ M fun d M1 => (match d with | .ref a => ∃ ds, M1 a = some (.lst ds) | _ => False) ∧ t τ M1 fun ds M2 => r d ds M2 Q
theorem e_bm {o e : Expr} {es : List Expr} {to : TE3} {t : TA3} {name : Str} {apos cpos : Pos} {id : String} {r : M23} (pa : PlainAttrs "list") (slot : Slot "list" name id) (hty : typeOf (.builtin id) = pure (.type "method_descriptor")) (hm : MtR X id (liftM X.K bs r))
    (ho : PE3 bs X o to) (ha : PA3 bs X (e :: es) t)
    (hbase : attributeBase o name X.env (eval o X.env) = eval o X.env := by rfl)
    (hfew : ((backTo cpos (starEach (e :: es) X.env)).all (fun x => !x.1) && (backToKw cpos (keywordEach [] X.env)).all (fun x => x.1.isSome)
      && decide ((e :: es).length + ([] : List Keyword).length + (if ([] : List Keyword).isEmpty then 0 else 1) < 30)) = true := by rfl)
    (hline : (apos.endLine == cpos.line) = true := by rfl) (hs : starEach (e :: es) X.env = (false, eval e X.env) :: starEach es X.env := by rfl) (hplain : (backTo cpos (starEach es X.env)).any (·.1) = false := by rfl) :
    PE3 bs X (.Call (.Attribute o name apos) (e :: es) [] cpos) (wBM r to t) := by
  refine PE.weak (pe_bm pa slot hty hm ho ha hbase hfew hline hs hplain) ?_
  rintro σ H Q ⟨τ, M, Q3, e, m, q, k⟩
  refine ⟨τ, M, _, e, m, q, fun v H1 d M1 x1 m1 r1 q1 => ?_⟩
  cases d with
  | ref a =>
    cases r1
    obtain ⟨⟨ds, ha⟩, q1⟩ := q1
    obtain ⟨vs, hv, l⟩ := m1.at ha
    refine ⟨.inl ⟨rfl, vs, SqL.of hv⟩, τ, M1, _, e.go (x1.still m), m1, q1, fun ws H2 es M2 x2 m2 r2 q2 => ?_⟩
    exact ⟨.ref a, es, M2, Q3, .ref a, r2, m2, q2, fun v H' z M' x3 m3 r3 q3 => k v H' z M' (x1.trans (x2.trans x3)) m3 r3 q3⟩
  | _ => exact False.elim q1.1
def oApp : M23 := fun d ds M Q => match d, ds with
  | .ref a, [y] => match M a with
    | some (.lst xs) => xs.length < sizeLine ∧ Q .non (mset M a (.lst (xs ++ [y])))
    | _ => False
  | _, _ => False
theorem m_app : MtR X "list.append" (liftM X.K bs oApp) := by
  rintro pins s σ H x xs v us Q I r1 r2 ⟨d, ds, M, Q3, rd, rs, m, q, k⟩
  unfold oApp at q
  split at q
  · rename_i a y
    cases rd
    split at q
    · rename_i zs ha
      obtain ⟨vs, hv, l⟩ := m.at ha
      cases rs with
      | cons ry rn =>
        cases rn
        refine mt_append pins s σ H _ _ v us Q I r1 r2 ⟨a, vs, _, rfl, rfl, hv, by rw [l.length]; exact q.1, ?_⟩
        obtain ⟨x2, m2⟩ := m.putL ha (l.app (.cons ry .nil))
        exact k _ _ _ _ x2 m2 .non q.2
    · exact False.elim q
  · exact False.elim q
theorem e_append {o e : Expr} {to te : TE3} {apos cpos : Pos} (ho : PE3 bs X o to) (he : PE3 bs X e te) (hs1 : starEach [e] X.env = (false, eval e X.env) :: starEach [] X.env := by rfl)
    (hbase : attributeBase o "append" X.env (eval o X.env) = eval o X.env := by rfl)
    (hfew : ((backTo cpos (starEach (e :: []) X.env)).all (fun x => !x.1) && (backToKw cpos (keywordEach [] X.env)).all (fun x => x.1.isSome)
      && decide ((e :: []).length + ([] : List Keyword).length + (if ([] : List Keyword).isEmpty then 0 else 1) < 30)) = true := by rfl)
    (hline : (apos.endLine == cpos.line) = true := by rfl) :
    PE3 bs X (.Call (.Attribute o "append" apos) [e] [] cpos) (wBM oApp to (wCons te wNil)) :=
  e_bm PySem.F.plainAttrs_list PySem.F.slot_list_append PySem.F.type_list_append m_app ho (a_cons he a_nil hs1) hbase hfew hline hs1 rfl
end
end L3
set_option Elab.async false
set_option linter.all false
set_option maxRecDepth 100000
set_option maxHeartbeats 4000000
namespace L3
open PySem PySem.Spec PyProof.Rows L2
section
variable {bs : BS} {X : Cx} {tg : Expr}
def iSeq (K : PySem.W.Frag) (tl : TE) : TI := fun σ H R => tl σ H fun x H1 => ∃ a, x = .ref a ∧ ((∃ xs, SqL K H1 a xs ∧ R (Itl K a) H1) ∨ ∃ xs, SqT K H1 a xs ∧ R (Itt K a) H1)
theorem pi_seq {l : Expr} {tl : TE} (hl : PE X l tl) : PI X tg l (iSeq X.K tl) := by
  constructor
  intro pins s σ H R I h
  refine thn (hl.run pins s σ H _ I h) ?_
  rintro v s1 ⟨x, H1, I1, r1, a, rfl, q1⟩
  cases r1
  have nw : ∀ b, b ∈ [s1.heap.objs.size] → FpOk X pins H1 b := by
    intro b hb
    rw [List.mem_singleton] at hb
    rw [hb]
    exact I1.fpOk (Nat.le_refl _) I1.fresh
  rcases q1 with ⟨xs, hq, q⟩ | ⟨xs, hq, q⟩
  · obtain ⟨its, rv, p, hz⟩ := I1.list hq
    exact wpAny_pyIter_list p.isList ⟨_, [s1.heap.objs.size], _, _, H1, rfl, I1.kept (t' := s1.toks) (fun b o e => Heap.get?_push_of_some _ e), turn_list a _, ⟨_, Heap.get?_push_size _ rfl, rfl, rfl⟩, nw, q⟩
  · obtain ⟨its, rv, p, hz⟩ := I1.tuple hq
    have p' : s1.heap.IsTuple a its.toArray := p
    exact wpAny_pyIter_tuple p' ⟨_, [s1.heap.objs.size], _, _, H1, rfl, I1.kept (t' := s1.toks) (fun b o e => Heap.get?_push_of_some _ e), turn_tuple a _, ⟨_, Heap.get?_push_size _ rfl, rfl, rfl⟩, nw, q⟩
/-- what must stand still while a sequence is walked -/
def keepG (M : Mp) (d : D) (ds : List D) : Mp → Prop := match d with
  | .ref a => fun M' => M' a = some (.lst ds)
  | _ => fun _ => True
theorem it_tup {K : PySem.W.Frag} {a : Addr} {vs : List V} {ds : List D} {H0 : Hp} : ItOk K (Itt K a) (fun H => SqT K H a vs ∧ RDs K H vs ds) (fun _ => True) ds where
  mono := fun M M' H H' m x p => ⟨(x.still0 m).1 _ _ p.1, p.2.go (x.still0 m)⟩
  stop := fun H M m p _ => ⟨vs, p.1, by rw [p.2.length]; exact Nat.le_refl _⟩
  go := fun i d H M m p _ hd => by
    obtain ⟨v, hv, r⟩ := p.2.get hd
    refine ⟨⟨vs, v, p.1, hv⟩, ?_⟩
    rintro x H' ⟨rfl, y⟩
    have e := y vs p.1
    rw [hv] at e
    cases e
    exact ⟨.refl, m, r⟩
theorem it_rol {K : PySem.W.Frag} {a : Addr} {vs : List V} {ds : List D} : ItOk K (Itl K a) (fun H => RoL K H a vs ∧ RDs K H vs ds) (fun _ => True) ds where
  mono := fun M M' H H' m x p => ⟨(x.still0 m).2 _ _ p.1, p.2.go (x.still0 m)⟩
  stop := fun H M m p _ => ⟨vs, p.1.sq, by rw [p.2.length]; exact Nat.le_refl _⟩
  go := fun i d H M m p _ hd => by
    obtain ⟨v, hv, r⟩ := p.2.get hd
    refine ⟨⟨vs, v, p.1.sq, hv⟩, ?_⟩
    rintro x H' ⟨rfl, y⟩
    have e := y vs p.1.sq
    rw [hv] at e
    cases e
    exact ⟨.refl, m, r⟩
theorem it_lst {K : PySem.W.Frag} {a : Addr} {ds : List D} : ItOk K (Itl K a) (fun _ => True) (fun M => M a = some (.lst ds)) ds where
  mono := fun _ _ _ _ _ _ _ => True.intro
  stop := fun H M m _ g => by
    obtain ⟨vs, hv, l⟩ := m a _ g
    exact ⟨vs, SqL.of hv, by rw [l.length]; exact Nat.le_refl _⟩
  go := fun i d H M m _ g hd => by
    obtain ⟨vs, hv, l⟩ := m a _ g
    obtain ⟨v, hv', r⟩ := l.get hd
    refine ⟨⟨vs, v, SqL.of hv, hv'⟩, ?_⟩
    rintro x H' ⟨rfl, y⟩
    have e := y vs (SqL.of hv)
    rw [hv'] at e
    cases e
    exact ⟨.refl, m, r⟩
def wItems (tl : TE3) : TI3 := fun τ M R => tl τ M fun d M1 => asL (items M1 d) fun ds => R ds (keepG M1 d ds) M1
theorem w_seq {l : Expr} {tl : TE3} (hl : PE3 bs X l tl) : PI3 bs X tg l (wItems tl) := by
  refine PI.weak (pi_seq hl) ?_
  rintro σ H R ⟨τ, M, R3, e, m, q, k⟩
  refine ⟨τ, M, _, e, m, q, fun v H1 d M1 x1 m1 r1 q1 => ?_⟩
  unfold asL at q1
  split at q1
  · rename_i ds hd
    cases d with
    | tup es =>
      cases hd
      cases r1 with
      | tup h1 h2 => exact ⟨_, rfl, .inr ⟨_, h1, k _ _ _ _ H1 M1 x1 m1 (it_tup (H0 := H1)) ⟨h1, h2⟩ q1⟩⟩
    | rol es =>
      cases hd
      cases r1 with
      | rol h1 h2 => exact ⟨_, rfl, .inl ⟨_, h1.sq, k _ _ _ _ H1 M1 x1 m1 it_rol ⟨h1, h2⟩ q1⟩⟩
    | ref a =>
      cases r1
      obtain ⟨vs, hv, l⟩ := m1.at (lstOf_some hd)
      exact ⟨_, rfl, .inl ⟨vs, SqL.of hv, k _ _ _ _ H1 M1 x1 m1 it_lst True.intro q1⟩⟩
    | _ => cases hd
  · exact False.elim q1
/-- range -/
def rgD (lo : Int) (n : Nat) : List D := (List.range n).map fun i => D.int (lo + (i : Nat))
theorem rgD_get {lo : Int} {n i : Nat} {d : D} (h : (rgD lo n)[i]? = some d) : i < n ∧ d = .int (lo + (i : Nat)) := by
  unfold rgD at h
  rw [List.getElem?_map] at h
  by_cases hi : i < n
  · rw [List.getElem?_range hi] at h
    exact ⟨hi, (Option.some.inj h).symm⟩
  · rw [List.getElem?_eq_none (by rw [List.length_range]; omega)] at h
    cases h
theorem it_rg {K : PySem.W.Frag} {lo : Int} {n : Nat} : ItOk K (Itr lo n) (fun _ => True) (fun _ => True) (rgD lo n) where
  mono := fun _ _ _ _ _ _ _ => True.intro
  stop := fun H M m _ g => by show n ≤ (rgD lo n).length; unfold rgD; rw [List.length_map, List.length_range]; exact Nat.le_refl _
  go := fun i d H M m _ g hd => by
    obtain ⟨hi, rfl⟩ := rgD_get hd
    refine ⟨hi, ?_⟩
    rintro x H' ⟨rfl, rfl⟩
    exact ⟨.refl, m, .int _⟩
def wRng1 (t : TA3) : TI3 := fun τ M R => t τ M fun ds M1 => match ds with
  | [.int j] => -(2 ^ 62) ≤ j ∧ j < 2 ^ 62 ∧ R (rgD 0 j.toNat) (fun _ => True) M1
  | _ => False
def wRng2 (t : TA3) : TI3 := fun τ M R => t τ M fun ds M1 => match ds with
  | [.int i, .int j] => (-(2 ^ 62) ≤ i ∧ i < 2 ^ 62 ∧ -(2 ^ 62) ≤ j ∧ j < 2 ^ 62) ∧ R (rgD i (j - i).toNat) (fun _ => True) M1
  | _ => False
theorem w_rng1 {a : Expr} {ta : TA3} {p pos : Pos} (hm : X.mg "range" = none) (ha : PA3 bs X [a] ta) (hg : Gl X "range" := by rfl) (hs : starEach [a] X.env = [(false, eval a X.env)] := by rfl) : PI3 bs X tg (.Call (.Name "range" p) [a] [] pos) (wRng1 ta) := by
  refine PI.weak (pi_range1 hg hm ha hs) ?_
  rintro σ H R ⟨τ, M, R3, e, m, q, k⟩
  refine ⟨τ, M, _, e, m, q, fun vs H1 ds M1 x1 m1 r1 q1 => ?_⟩
  split at q1
  · rename_i j
    cases r1 with
    | cons r rn =>
      cases rn
      cases r
      exact ⟨j, rfl, q1.1, q1.2.1, k _ _ _ _ H1 M1 x1 m1 it_rg True.intro q1.2.2⟩
  · exact False.elim q1
end
section
variable {bs : BS} {X : Cx} {e : Expr} {es : List Expr} {t : TA3} {x : Str} {p pos : Pos}
theorem e_callB {id : String} {r : List D → Mp → VK3 → Prop} (hc : CallR X (.builtin id) (liftV X.K bs r)) (hm : X.mg x = none) (hv : bootBuiltins x = some (.builtin id)) (ha : PA3 bs X (e :: es) t) (hg : Gl X x := by rfl) (hn : x ≠ "__name__" := by decide) (hdb : (x == ("__debug__" : Str)) = false := by decide)
    (he : starEach (e :: es) X.env = (false, eval e X.env) :: starEach es X.env := by rfl) (hpl : (backTo pos (starEach es X.env)).any (·.1) = false := by rfl) : PE3 bs X (.Call (.Name x p) (e :: es) [] pos) (wCB r t) :=
  PE.weak (pe_callB hc hg hm hv ha hn hdb he hpl) lift_cb
theorem e_callTy {T : String} {r : List D → Mp → VK3 → Prop} (hc : CallR X (.type T) (liftV X.K bs r)) (hm : X.mg x = none) (hv : bootBuiltins x = some (.type T)) (ha : PA3 bs X (e :: es) t) (hg : Gl X x := by rfl) (hn : x ≠ "__name__" := by decide) (hdb : (x == ("__debug__" : Str)) = false := by decide)
    (he : starEach (e :: es) X.env = (false, eval e X.env) :: starEach es X.env := by rfl) (hpl : (backTo pos (starEach es X.env)).any (·.1) = false := by rfl) : PE3 bs X (.Call (.Name x p) (e :: es) [] pos) (wCB r t) :=
  PE.weak (pe_callTy hc hg hm hv ha hn hdb he hpl) lift_cb
/-- one argument -/
def b1 (r : D → Mp → VK3 → Prop) : List D → Mp → VK3 → Prop := fun ds M Q => match ds with
  | [d] => r d M Q
  | _ => False
theorem call1 {f : Value} {r : D → Mp → VK3 → Prop} (h : ∀ (d : D) (x : V) (H : Hp) (M : Mp) (Q : VK) (Q3 : VK3), RD X.K H x d → RM X.K bs H M → r d M Q3 →
    (∀ v H' z M', Ext M M' H H' → RM X.K bs H' M' → RD X.K H' v z → Q3 z M' → Q v H') → ∃ r2 : List V → Hp → VK → Prop, CallR X f r2 ∧ r2 [x] H Q) : CallR X f (liftV X.K bs (b1 r)) := call3 fun ds xs H M Q Q3 r1 m q k => by
  match ds, r1, q with
  | [], _, q => exact False.elim q
  | [d], .cons r1 .nil, q => exact h d _ H M Q Q3 r1 m q k
  | _ :: _ :: _, _, q => exact False.elim q
def bLen : List D → Mp → VK3 → Prop := b1 fun d M Q => match d with
  | .str z => z.length ≤ sizeLine ∧ Q (.int z.length) M
  | d => asL (items M d) fun ds => Q (.int ds.length) M
theorem c_len : CallR X (.builtin "len") (liftV X.K bs bLen) := call1 fun d x H M Q Q3 r m q k => by
  have it : (asL (items M d) fun ds => Q3 (.int ds.length) M) → ∃ r2 : List V → Hp → VK → Prop, CallR X (.builtin "len") r2 ∧ r2 [x] H Q := fun q => by
    unfold asL at q
    split at q
    · rename_i ds hd
      obtain ⟨p, vs, rfl, hs, l⟩ := items_of m.m r hd
      exact ⟨_, call_len_seq, p, vs, rfl, hs, by rw [l.length]; exact k _ _ _ M .refl m (.int _) q⟩
    · exact False.elim q
  cases d with
  | str z => cases r; exact ⟨_, call_len_str, z, rfl, q.1, k _ _ _ M .refl m (.int _) q.2⟩
  | _ => exact it q
def bTuple : List D → Mp → VK3 → Prop := b1 fun d M Q => asL (items M d) fun ds => Q (.tup ds) M
theorem c_tuple : CallR X (.type "tuple") (liftV X.K bs bTuple) := call1 fun d x H M Q Q3 r m q k => by
  unfold asL at q
  split at q
  · rename_i ds hd
    obtain ⟨p, vs, rfl, hs, l⟩ := items_of m.m r hd
    refine ⟨_, call_tuple_of, p, vs, rfl, ?_⟩
    rcases hs with hs | hs
    · refine .inl ⟨hs, fun c hc => ?_⟩
      obtain ⟨x2, m2⟩ := m.upNew (o := .tup vs) hc
      exact k _ _ _ M x2 m2 (.tup (SqT.of upd_same) (l.go (x2.still m))) q
    · exact .inr ⟨hs, k _ _ _ M .refl m (.tup hs l) q⟩
  · exact False.elim q
def bList : List D → Mp → VK3 → Prop := b1 fun d M Q => asL (items M d) fun ds => ∀ p, M p = none → Q (.ref p) (mset M p (.lst ds))
theorem c_list : CallR X (.type "list") (liftV X.K bs bList) := call1 fun d x H M Q Q3 r m q k => by
  unfold asL at q
  split at q
  · rename_i ds hd
    obtain ⟨p, vs, rfl, hs, l⟩ := items_of m.m r hd
    refine ⟨_, call_list_of, p, vs, rfl, hs, fun c hc => ?_⟩
    obtain ⟨x2, m2⟩ := m.newL hc l
    exact k _ _ _ _ x2 m2 (.ref c) (q c (m.free hc))
  · exact False.elim q
def bAbs : List D → Mp → VK3 → Prop := b1 fun d M Q => asI d fun i => Q (.int (if i < 0 then -i else i)) M
theorem c_abs : CallR X (.builtin "abs") (liftV X.K bs bAbs) := call1 fun d x H M Q Q3 r m q k => by
  cases d with
  | int i => cases r; exact ⟨_, call_abs, i, rfl, k _ _ _ M .refl m (.int _) q⟩
  | _ => exact False.elim q
def bInt : List D → Mp → VK3 → Prop := b1 fun d M Q => match d with
  | .int i => Q (.int i) M
  | .bl b => Q (.int (if b then 1 else 0)) M
  | _ => False
theorem c_int : CallR X (.type "int") (liftV X.K bs bInt) := call1 fun d x H M Q Q3 r m q k => by
  cases d with
  | int i => cases r; exact ⟨_, call_int1, .inl ⟨i, rfl, k _ _ _ M .refl m (.int _) q⟩⟩
  | bl i => cases r; exact ⟨_, call_int1, .inr ⟨i, rfl, k _ _ _ M .refl m (.int _) q⟩⟩
  | _ => exact False.elim q
def b2I (g : Int → Int → Int) : List D → Mp → VK3 → Prop := fun ds M Q => match ds with
  | [.int i, .int j] => Q (.int (g i j)) M
  | _ => False
def bMax : List D → Mp → VK3 → Prop := b2I fun i j => if j > i then j else i
def bMin : List D → Mp → VK3 → Prop := b2I fun i j => if j < i then j else i
theorem c_2I {f : Value} {g : Int → Int → Int} (h : CallR X f (fun xs H Q => ∃ i j, xs = [V.int i, V.int j] ∧ Q (.int (g i j)) H)) : CallR X f (liftV X.K bs (b2I g)) := call3 fun ds xs H M Q Q3 r1 m q k => by
  unfold b2I at q
  split at q
  · rename_i i j
    cases r1 with
    | cons r rn =>
      cases rn with
      | cons r' rn =>
        cases rn
        cases r
        cases r'
        exact ⟨_, h, i, j, rfl, k _ _ _ M .refl m (.int _) q⟩
  · exact False.elim q
theorem c_min (hc : X.calm = true) : CallR X (.builtin "min") (liftV X.K bs bMin) := c_2I (call_min2 hc)
/-- a list of truths -/
def bls : List D → Option (List Bool)
  | [] => some []
  | .bl b :: r => (bls r).map (b :: ·)
  | _ :: _ => none
theorem bls_of {K : PySem.W.Frag} {H : Hp} : ∀ {ds : List D} {vs : List V} {l : List Bool}, bls ds = some l → RDs K H vs ds → vs = l.map V.bl
  | [], _, _, h, r => by cases r; cases h; rfl
  | d :: ds, _, l, h, r => by
    cases r with
    | cons r1 r2 =>
      cases d with
      | bl b =>
        cases r1
        simp only [bls] at h
        obtain ⟨l', h', rfl⟩ := Option.map_eq_some_iff.mp h
        rw [bls_of h' r2]; rfl
      | _ => cases h
mutual
def showOk : D → Bool
  | .int i => decide (i.natAbs.log2 < 1920)
  | .tup xs => showOks xs
  | .rol xs => showOks xs
  | _ => true
def showOks : List D → Bool
  | [] => true
  | d :: ds => showOk d && showOks ds
end
mutual
theorem show_pd : ∀ d : D, showOk d = true → (pdOf d).showable = true
  | .non, _ => by simp [pdOf, PyData.showable]
  | .bl _, _ => by simp [pdOf, PyData.showable]
  | .int _, h => by simpa [pdOf, PyData.showable, showOk] using h
  | .str _, _ => by simp [pdOf, PyData.showable]
  | .ref _, _ => by simp [pdOf, PyData.showable]
  | .ty _, _ => by simp [pdOf, PyData.showable]
  | .tup xs, h => by simpa [pdOf, PyData.showable] using show_pds xs (by simpa [showOk] using h)
  | .rol xs, h => by simpa [pdOf, PyData.showable] using show_pds xs (by simpa [showOk] using h)
theorem show_pds : ∀ ds : List D, showOks ds = true → PyData.showableAll (pdsOf ds) = true
  | [], _ => by simp [pdsOf, PyData.showableAll]
  | d :: ds, h => by
    have h' : showOk d = true ∧ showOks ds = true := by simpa [showOks] using h
    simp [pdsOf, PyData.showableAll, show_pd d h'.1, show_pds ds h'.2]
end
def shown (d : D) : Str := (pdOf d).shown
/-- data whose text fits -/
structure Sh (d : D) : Prop where
  pl : Pl d
  ok : showOk d = true
  sz : (shown d).length ≤ sizeLine
def bRepr : List D → Mp → VK3 → Prop := b1 fun d M Q => Sh (top M d) ∧ Q (.str (shown (top M d))) M
theorem c_repr (hG : X.A.guards = some []) (hu : X.A.units + 64 + 100 < cLine) : CallR X (.builtin "repr") (liftV X.K bs bRepr) := by
  rintro pins s σ H xs us Q I rx ⟨ds, M, Q3, r1, m, q, k⟩
  match ds, r1, rx, q with
  | [], _, _, q => exact False.elim q
  | _ :: _ :: _, _, _, q => exact False.elim q
  | [d], .cons r1 .nil, .cons rv .nil, q =>
    obtain ⟨sh, q⟩ := q
    rename_i v u
    have dp := dp_top m.m r1 sh.pl.p
    have sok := show_pd _ sh.ok
    have nd := PyData.hasDict_of_canLay _ (canLay_pd _ sh.pl.p)
    have kk : ∀ s', Inv X pins σ H s' → ∀ u', (∃ t, u' = Value.str (shown (top M d)) t) → EP X pins σ Q u' s' := fun s' I' u' e => ⟨.str _, H, I', e, k _ _ _ M .refl m (.str _) q⟩
    have rf : ∀ a, u = .ref a → wpAny (model X.prog X.w) X.A (call (.builtin "repr") [u]) (EP X pins σ Q) X.xe s := by
      rintro a rfl
      obtain ⟨as, rd⟩ := Dp.reads I _ _ _ dp rv
      refine repr_of_reads' (h₀ := s.heap) rd sok (PyData.noDict_hsm nd) hG ?_ (fun _ _ e => e) (fun h' t tk keep => kk _ (I.kept keep) _ ⟨t, rfl⟩) sh.sz
      rw [depth_pd]
      have := sh.pl.d
      omega
    cases d with
    | non => cases r1; cases rv; exact PySem.P.repr_of_none (kk _ (I.tok _) _ ⟨_, rfl⟩)
    | bl b => cases r1; cases rv; exact PySem.P.repr_of_bool (kk _ (I.tok _) _ ⟨_, rfl⟩)
    | int i =>
      cases r1
      obtain ⟨t, rfl⟩ := rv
      have hz : i.natAbs.log2 < 1920 := by simpa [top, showOk] using sh.ok
      exact PySem.P.repr_of_int hz (kk _ (I.tok _) _ ⟨_, rfl⟩)
    | str z =>
      cases r1
      obtain ⟨t, rfl⟩ := rv
      have hz : (reprText z).length ≤ sizeLine := by simpa [top, shown, pdOf, PyData.shown] using sh.sz
      exact PySem.P.repr_of_str (kk _ (I.tok _) _ ⟨_, rfl⟩) hz
    | tup ds => cases r1; cases rv; exact rf _ rfl
    | rol ds => cases r1; cases rv; exact rf _ rfl
    | ref a => cases r1; cases rv; exact rf _ rfl
    | ty n => exact absurd sh.pl.p (by simp [top, plain])
end
/-- what is wished of an exception: its class by name, its fields -/
abbrev XK3 := Str → List (Str × D) → Mp → Prop
abbrev Sp3 := List D → Mp → VK3 → XK3 → Prop
/-- an exception's own dict -/
def RXd (K : PySem.W.Frag) (H : Hp) : Option Addr → List (Str × D) → Prop
  | some a, fs => ∃ gs, H a = some (.xd gs) ∧ RKv K H gs fs
  | none, fs => fs = []
/-- its class c is the one called n, its own dict is a's -/
def RX (K : PySem.W.Frag) (H : Hp) (n : Str) (c : Value) (a : Option Addr) (fs : List (Str × D)) : Prop := Cl K n c ∧ RXd K H a fs
def liftSp (K : PySem.W.Frag) (sp : Sp3) : Sp := fun vs H Q E => ∃ ds M Q3 E3, RDs K H vs ds ∧ RM0 K H M ∧ sp ds M Q3 E3 ∧
  (∀ v H' d M', Ext M M' H H' → RM0 K H' M' → RD K H' v d → Q3 d M' → Q v H') ∧
  ∀ n c a H' fs M', Ext M M' H H' → RM0 K H' M' → RX K H' n c a fs → E3 n fs M' → E c a H'
structure FnG (P : Program) (w : World) (K : PySem.W.Frag) (mg : Str → Option Value) (base : Heap) (CX : CXT) (k : Nat) (f : Addr) (fd : FuncData) (ps : List Str) (sp : Sp) : Prop where
  len : ∀ vs H Q E, sp vs H Q E → vs.length = ps.length
  run : ∀ (A : Around) (outer : List Env) (s : Shared) (H : Hp) (args : Args) (us : List Value) (vs : List V) (Q : VK) (E : XK), A.guards = some [] → Room k A → Env0 P w K mg base A outer s H → BindsTo s fd args (ps.zip us) →
    Vals vs us → sp vs H Q E → codeAny (model P w) A (.call (.ref f) args) (CR CX outer P w H s Q E) s
theorem FnG.mono {P : Program} {w : World} {K : PySem.W.Frag} {mg : Str → Option Value} {base : Heap} {CX : CXT} {j k : Nat} {f : Addr} {fd : FuncData} {ps : List Str} {sp : Sp} (F : FnG P w K mg base CX j f fd ps sp) (h : j ≤ k) :
    FnG P w K mg base CX k f fd ps sp := ⟨F.len, fun A outer s H args us vs Q E hg hr => F.run A outer s H args us vs Q E hg (hr.mono h)⟩
/-- a def by its body -/
theorem fn_g {CX : CXT} {P : Program} {w : World} {K : PySem.W.Frag} {mg : Str → Option Value} {base : Heap} {k : Nat} {f : Addr} {x qual : Str} {st : Stmt} {fd : FuncData} {N ps : List Str} {sp : Sp} (F : Fun K x qual st f fd) (S : FnScope N ps (defScope st))
    (len : ∀ vs H Q E, sp vs H Q E → vs.length = ps.length)
    (body : ∀ (cdv : Value) (A : Around) (outer : List Env) (s : Shared) (H : Hp) (vs : List V) (Q : VK) (E : XK), A.guards = some [] → Room k (A.deeper (envOfC qual (defScope st) s.heap.objs.size f cdv)) → sp vs H Q E →
      ∃ t, PSs (cxOf CX P w K mg base N qual (defScope st) f cdv A outer s H E) (defBody st) t ∧ t { nx := fun _ H' => Q .non H', rt := Q } (L2.start N vs) H) :
    FnG P w K mg base CX (k + 1) f fd ps sp := by
  obtain ⟨oc, od, kV, doc, pm, an, cdv, ct, osl, rfl, lk, hcd⟩ := F.ex
  constructor
  · exact len
  intro A outer s H args us vs Q E hG hr e0 hb r hsp
  have sizes := len vs H Q E hsp
  have inK : K.In s.heap := e0.mod.kin.keeps (fun b o z => (e0.bs b o z).1)
  have noLim : s.heap.NoLimit := e0.mod.nolimit.keeps (fun b o z => (e0.bs b o z).1)
  have kinds : ∀ y ∈ ps.zip us, (defScope st).names.lookup y.1 = some .local ∨ ((defScope st).names.lookup y.1 = some .cell ∧ ((cellsFrom (s.heap.objs.size + 1) (defScope st).names []).lookup y.1).isSome = true) := by
    rintro ⟨n, v⟩ hy
    rcases S.par n (List.of_mem_zip hy).1 with z | z
    · exact .inl z
    · exact .inr ⟨z, PySem.W.cellsFrom_some _ _ _ (.inl z)⟩
  refine codeAny_call_function hr.depth (inK _ _ lk) rfl S.co S.gen rfl (PySem.W.codeRec_of inK hcd) (hb _ _ _ _ ?_)
  refine wpAny_newFunctionEnv_cells S.kind kinds ?_
  rintro env rfl s1 x
  refine ⟨noLim.keeps x.toInCall.keep, codeAny_func ?_⟩
  obtain ⟨t, ht, hq⟩ := body cdv A outer s H vs Q E hG (hr.deeper _) hsp
  have I := inv_start (CX := CX) (E := E) S hr.hd e0 sizes r x
  refine wpAny_mono (ht.run [] s1 (L2.start N vs) H _ I hq) ?_ (fun _ _ z => z)
  have done : ∀ (σ' : L2.St) (H' : Hp) (v : V) (u : Value) (s' : Shared), Inv (cxOf CX P w K mg base N qual (defScope st) f cdv A outer s H E) [] σ' H' s' → RelV v u → Q v H' → CE outer P w H s Q u s' :=
    fun σ' H' v u s' J rv q => ⟨v, H', J.os, J.bare, J.base, J.hok, rv, q⟩
  intro fl s' hs
  cases fl with
  | next =>
    obtain ⟨σ', H', J, q⟩ := hs
    exact done σ' H' .non .none s' J rfl q
  | ret u =>
    obtain ⟨v, σ', H', J, rv, q⟩ := hs
    exact done σ' H' v u s' J rv q
  | brk => obtain ⟨_, _, _, q⟩ := hs; cases q
  | cont => obtain ⟨_, _, _, q⟩ := hs; cases q
/-- what a def's body is read to -/
def start3 (n : Nat) (ds : List D) : St3 := ds.map some ++ List.replicate (n - ds.length) none
def spOf (np n : Nat) (t : XK3 → TS3) : Sp3 := fun ds M Q E => ds.length = np ∧ t E { nx := fun _ M' => Q .non M', rt := Q } (start3 n ds) M
theorem getS_app_l : ∀ (ds : List D) (r : St3) (i : Nat), i < ds.length → getS (ds.map some ++ r) i = ds[i]?
  | [], _, _, h => by simp at h
  | d :: ds, r, 0, _ => rfl
  | d :: ds, r, i + 1, h => by
    show getS (ds.map some ++ r) i = _
    rw [getS_app_l ds r i (by simpa using h)]
    simp
theorem getS_none (n i : Nat) : getS (List.replicate n none) i = none := by
  induction n generalizing i with
  | zero => rfl
  | succ n ih =>
    cases i with
    | zero => rfl
    | succ i => exact ih i
theorem getS_app_r : ∀ (ds : List D) (n i : Nat), ds.length ≤ i → getS (ds.map some ++ List.replicate n none) i = none
  | [], n, i, _ => getS_none n i
  | d :: ds, n, 0, h => by simp at h
  | d :: ds, n, i + 1, h => getS_app_r ds n i (by simpa using h)
theorem re_start {K : PySem.W.Frag} {H : Hp} {N : List Str} {vs : List V} {ds : List D} (r : RDs K H vs ds) : RE K H (L2.start N vs) (start3 N.length ds) := by
  have hl := r.length
  constructor
  · unfold L2.start start3
    simp [hl]
  · intro i d h
    unfold start3 at h
    by_cases hi : i < ds.length
    · rw [getS_app_l ds _ i hi] at h
      obtain ⟨v, hv, rv⟩ := r.get h
      refine ⟨v, ?_, rv⟩
      unfold L2.start
      rw [List.getElem?_append_left (by rw [List.length_map]; omega), List.getElem?_map, hv]
      rfl
    · rw [getS_app_r ds _ i (by omega)] at h
      cases h
/-- the def called x, with n parameters, keeps sp at so deep a level -/
def Def3 (P : Program) (w : World) (K : PySem.W.Frag) (mg : Str → Option Value) (base : Heap) (CX : CXT) (k : Nat) (x : Str) (sp : Sp3) : Prop :=
  ∃ f fd ps, mg x = some (.ref f) ∧ PySem.W.keepIn K (.ref f) = true ∧ Binds K fd ps [] ∧ FnG P w K mg base CX k f fd ps (liftSp K sp)
theorem Def3.mono {P : Program} {w : World} {K : PySem.W.Frag} {mg : Str → Option Value} {base : Heap} {CX : CXT} {j k : Nat} {x : Str} {sp : Sp3} (F : Def3 P w K mg base CX j x sp) (h : j ≤ k) : Def3 P w K mg base CX k x sp := by
  obtain ⟨f, fd, ps, a, b, c, d⟩ := F
  exact ⟨f, fd, ps, a, b, c, d.mono h⟩
/-- from its body's reading: E3 is the wish of the exceptions, bs the standing condition -/
theorem fng_of {CX : CXT} {P : Program} {w : World} {K : PySem.W.Frag} {mg : Str → Option Value} {base : Heap} {k : Nat} {f : Addr} {x qual : Str} {st : Stmt} {fd : FuncData} {N ps : List Str} {t : XK3 → TS3} (F : Fun K x qual st f fd) (S : FnScope N ps (defScope st))
    (body : ∀ (cdv : Value) (A : Around) (outer : List Env) (s : Shared) (H : Hp) (E : XK) (bs : BS) (E3 : XK3), A.guards = some [] → Room k (A.deeper (envOfC qual (defScope st) s.heap.objs.size f cdv)) →
      (∀ n c a H' fs M', RM0 K H' M' → bs.ok M' H' → RX K H' n c a fs → E3 n fs M' → E c a H') →
      PSs3 bs (cxOf CX P w K mg base N qual (defScope st) f cdv A outer s H E) (defBody st) (t E3)) :
    FnG P w K mg base CX (k + 1) f fd ps (liftSp K (spOf ps.length N.length t)) := by
  refine fn_g F S (fun vs H Q E h => ?_) fun cdv A outer s H vs Q E hG hr h => ?_
  · obtain ⟨ds, M, Q3, E3, r, m, ⟨l, q⟩, _⟩ := h
    rw [r.length]; exact l
  · obtain ⟨ds, M, Q3, E3, r, m, ⟨l, q⟩, kq, ke⟩ := h
    refine ⟨_, body cdv A outer s H E (bsOf M H) E3 hG hr (fun n c a H' fs M' m' x r' e => ke n c a H' fs M' x m' r' e), ?_⟩
    refine ⟨start3 N.length ds, M, _, re_start r, ⟨m, .refl⟩, q, fun σ' τ' H' M' x e m' q' => ?_, fun v d H' M' x m' r' q' => ?_, fun _ _ _ _ _ _ _ z => z.elim, fun _ _ _ _ _ _ _ z => z.elim⟩
    · exact kq .non H' .non M' x m'.m .non q'
    · exact kq v H' d M' x m'.m r' q'
theorem def_of {CX : CXT} {P : Program} {w : World} {K : PySem.W.Frag} {mg : Str → Option Value} {base : Heap} {k : Nat} {f : Addr} {x qual : Str} {st : Stmt} {fd : FuncData} {N ps : List Str} {t : XK3 → TS3} (hm : mg x = some (.ref f)) (F : Fun K x qual st f fd) (b : Binds K fd ps [])
    (S : FnScope N ps (defScope st))
    (body : ∀ (cdv : Value) (A : Around) (outer : List Env) (s : Shared) (H : Hp) (E : XK) (bs : BS) (E3 : XK3), A.guards = some [] → Room k (A.deeper (envOfC qual (defScope st) s.heap.objs.size f cdv)) →
      (∀ n c a H' fs M', RM0 K H' M' → bs.ok M' H' → RX K H' n c a fs → E3 n fs M' → E c a H') →
      PSs3 bs (cxOf CX P w K mg base N qual (defScope st) f cdv A outer s H E) (defBody st) (t E3)) :
    Def3 P w K mg base CX (k + 1) x (spOf ps.length N.length t) := ⟨f, fd, ps, hm, F.kp, b, fng_of F S body⟩
section
variable {bs : BS} {X : Cx} {CX : CXT} {k : Nat} {x : Str} {sp : Sp3} {E3 : XK3} {e : Expr} {es : List Expr} {t : TA3} {p pos : Pos}
def wCall (sp : Sp3) (E : XK3) (t : TA3) : TE3 := fun τ M Q => t τ M fun ds M1 => sp ds M1 Q E
/-- a def that leans on nothing in M, and whose answer does not either -/
def wCallP (sp : Sp3) (E : XK3) (t : TA3) : TE3 := fun τ M Q => t τ M fun ds M1 => sp ds M0 (fun d _ => Q d M1) (fun c fs _ => E c fs M1)
theorem run_g {f : Addr} {fd : FuncData} {ps : List Str} {spv : Sp} {E : XK} {pins : List (Addr × Obj)} {σ : L2.St} {H : Hp} {s : Shared} {Q : VK} {us : List Value} {vs : List V} (F : FnG X.prog X.w X.K X.mg X.base CX k f fd ps spv) (hG : X.A.guards = some []) (hr : Room k X.A)
    (hb : Binds X.K fd ps []) (hx : Passes CX X E) (I : Inv X pins σ H s) (r : Vals vs us) (h : spv vs H Q E) : wpAny (model X.prog X.w) X.A (call (.ref f) us) (EP X pins σ Q) X.xe s := by
  have hl : (us ++ []).length = ps.length := by rw [List.append_nil, ← r.length]; exact F.len _ _ _ _ h
  have bd := hb s us I.kIn hl
  rw [List.append_nil] at bd
  refine wpAny_call (codeAny_mono (F.run X.A X.stack s H ⟨us, []⟩ us vs Q E hG hr I.env0 bd r h) ?_)
  intro res s' hq
  cases res with
  | error z => exact hx pins σ H s z s' I hq
  | ok fl =>
    cases fl with
    | ret u => exact I.after hq
    | next => cases hq
    | brk => cases hq
    | cont => cases hq
theorem pe_g {f : Addr} {fd : FuncData} {ps : List Str} {spv : Sp} {E : XK} {ta : TA} (F : FnG X.prog X.w X.K X.mg X.base CX k f fd ps spv) (hG : X.A.guards = some []) (hr : Room k X.A) (hm : X.mg x = some (.ref f)) (hk : PySem.W.keepIn X.K (.ref f) = true) (hb : Binds X.K fd ps []) (hx : Passes CX X E)
    (ha : PA X (e :: es) ta) (hg : Gl X x) (hdb : (x == ("__debug__" : Str)) = false) (he : starEach (e :: es) X.env = (false, eval e X.env) :: starEach es X.env) (hpl : (backTo pos (starEach es X.env)).any (·.1) = false) :
    PE X (.Call (.Name x p) (e :: es) [] pos) (tCall spv [] E ta) := by
  constructor
  intro pins s σ H Q I h
  refine wpAny_Call_Name_kw (ld_glob I hg hm ?_ hdb)
  refine PySem.W.callWith_K (h₀ := X.base) I.ok.mod.kin hk (thn (ha.run pos pins s σ H _ I h) ?_) he hpl
  rintro us s1 ⟨vs, H1, I1, r, q⟩
  have q' : spv (vs ++ []) H1 Q E := q
  rw [List.append_nil] at q'
  exact ⟨I1.kIn, run_g F hG hr hb hx I1 r q'⟩
/-- how an exception of a callee passes on: what is wanted of it here -/
def PassX (bs : BS) (CX : CXT) (X : Cx) (E3 : XK3) : Prop := ∃ E : XK, Passes CX X E ∧ ∀ n c a H' fs M', RM0 X.K H' M' → bs.ok M' H' → RX X.K H' n c a fs → E3 n fs M' → E c a H'
theorem e_call (F : Def3 X.prog X.w X.K X.mg X.base CX k x sp) (hG : X.A.guards = some []) (hr : Room k X.A) (hx : PassX bs CX X E3) (ha : PA3 bs X (e :: es) t) (hg : Gl X x := by rfl) (hdb : (x == ("__debug__" : Str)) = false := by decide)
    (he : starEach (e :: es) X.env = (false, eval e X.env) :: starEach es X.env := by rfl) (hpl : (backTo pos (starEach es X.env)).any (·.1) = false := by rfl) : PE3 bs X (.Call (.Name x p) (e :: es) [] pos) (wCall sp E3 t) := by
  obtain ⟨f, fd, ps, hm, hk, hb, F⟩ := F
  obtain ⟨E, hp, he3⟩ := hx
  refine PE.weak (pe_g F hG hr hm hk hb hp ha hg hdb he hpl) ?_
  rintro σ H Q ⟨τ, M, Q3, e, m, q, kk⟩
  refine ⟨τ, M, _, e, m, q, fun vs H1 ds M1 x1 m1 r1 q1 => ?_⟩
  show liftSp X.K sp (vs ++ []) H1 Q E
  rw [List.append_nil]
  refine ⟨ds, M1, Q3, E3, r1, m1.m, q1, fun v H' d M' x2 m2 r2 q2 => kk v H' d M' (x1.trans x2) (m1.to x2 m2) r2 q2, fun n c a H' fs M' x2 m2 r2 q2 => he3 n c a H' fs M' m2 (bs.go m1.b x2) r2 q2⟩
/-- from nothing: all that stood is kept -/
theorem ext_all {M M' : Mp} {H H' : Hp} (x : Ext M0 M' H H') : Ext M M H H' := ⟨fun a o h _ => x.fr a o h rfl, fun _ h => .inl h⟩
theorem rm_all {K : PySem.W.Frag} {M M' : Mp} {H H' : Hp} (m : RM0 K H M) (x : Ext M0 M' H H') : RM0 K H' M := (m.keep fun a o h => x.fr a o h rfl).2
theorem e_callP (F : Def3 X.prog X.w X.K X.mg X.base CX k x sp) (hG : X.A.guards = some []) (hr : Room k X.A) (hx : PassX bs CX X E3) (ha : PA3 bs X (e :: es) t) (hg : Gl X x := by rfl) (hdb : (x == ("__debug__" : Str)) = false := by decide)
    (he : starEach (e :: es) X.env = (false, eval e X.env) :: starEach es X.env := by rfl) (hpl : (backTo pos (starEach es X.env)).any (·.1) = false := by rfl) : PE3 bs X (.Call (.Name x p) (e :: es) [] pos) (wCallP sp E3 t) := by
  obtain ⟨f, fd, ps, hm, hk, hb, F⟩ := F
  obtain ⟨E, hp, he3⟩ := hx
  refine PE.weak (pe_g F hG hr hm hk hb hp ha hg hdb he hpl) ?_
  rintro σ H Q ⟨τ, M, Q3, e, m, q, kk⟩
  refine ⟨τ, M, _, e, m, q, fun vs H1 ds M1 x1 m1 r1 q1 => ?_⟩
  show liftSp X.K sp (vs ++ []) H1 Q E
  rw [List.append_nil]
  refine ⟨ds, M0, _, _, r1, (fun a o h => nomatch h), q1, fun v H' d M' x2 m2 r2 q2 => ?_, fun n c a H' fs M' x2 m2 r2 q2 => ?_⟩
  · exact kk v H' d M1 (x1.trans (ext_all x2)) (m1.to (ext_all x2) (rm_all m1.m x2)) r2 q2
  · exact he3 n c a H' fs M1 (rm_all m1.m x2) (bs.go m1.b (ext_all x2)) r2 q2
end
end L3
set_option Elab.async false
set_option linter.all false
set_option maxRecDepth 100000
set_option maxHeartbeats 4000000
namespace L3
open PySem PySem.Spec PyProof.Rows L2
theorem law_at {P : Program} {w : World} {K : PySem.W.Frag} {mg mb : Str → Option Value} {CX : CXT} {k : Nat} {fa a : Addr} {fd : FuncData} {x : Str} {sp : Sp} {t : Shared} {vs : List Value} {ns : List Int}
    (inK : K.In t.heap) (nsM : t.heap.Ns mainGlobals mg) (nsB : t.heap.Ns builtinsNs mb) (boots : ∀ y : Str, y ≠ "__name__" → mb y = bootBuiltins y) (noLim : t.heap.NoLimit) (noGen : t.gens = #[])
    (obj : t.heap.get? a = some { cls := .type "list", data := .seq vs.toArray }) (hnt : IntsAre vs ns) (len : ns.length ≤ sizeLine) (room : Room k callerA)
    (F : ∀ base : Heap, K.In base → base.Ns mainGlobals mg → FnG P w K mg base CX k fa fd [x] sp) (bind : ∀ (s : Shared) (u : Value), BindsTo s fd ⟨[u], []⟩ [(x, u)])
    (said : ∀ H : Hp, RoL K H a (ns.map V.int) → sp [.ref a] H (fun v _ => v = .bl true) (fun _ _ _ => False)) (quiet : ∀ H e s', CX [] H t (fun _ _ _ => False) e s' → False) :
    codeAny (model P w) callerA (.call (.ref fa) ⟨[.ref a], []⟩) (fun r s' => r = .ok (.ret (.bool true)) ∧ OldK t.heap s'.heap ∧ s'.os = t.os ∧ AllBare s'.gens) t := by
  have vals := vals_ints hnt
  have lens := hnt.length
  -- H: nothing, or the script as a thing that nobody writes
  suffices main : ∀ H : Hp, RoL K H a (ns.map V.int) → HOk P w H t.heap → (∀ b u, H b = some u → b = a ∧ ∃ o xs, u = .frz o (.lst xs)) → (H a ≠ none → K.lookup a = none) →
      codeAny (model P w) callerA (.call (.ref fa) ⟨[.ref a], []⟩) (fun r s' => r = .ok (.ret (.bool true)) ∧ OldK t.heap s'.heap ∧ s'.os = t.os ∧ AllBare s'.gens) t by
    cases q : K.lookup a with
    | some o =>
      have z := inK a o q
      rw [obj] at z
      cases z
      exact main (fun _ => none) (.inr ⟨vs.toArray, _, q, by rw [List.size_toArray, lens]; exact len, by simpa using vals⟩) (fun _ _ z => nomatch z) (fun _ _ z => nomatch z) fun z => absurd rfl z
    | none =>
      refine main (upd (fun _ => none) a (.frz { cls := .type "list", data := .seq vs.toArray } (.lst (ns.map V.int)))) (.inl ⟨_, upd_same⟩) (fun b u z => ?_) (fun b u z => ?_) fun _ => q
      · by_cases e : b = a
        · subst e
          rw [upd_same] at z
          cases z
          exact ⟨obj, by rw [List.length_map]; exact len, vs, _, vals, obj⟩
        · rw [upd_ne e] at z; cases z
      · by_cases e : b = a
        · subst e
          rw [upd_same] at z
          cases z
          exact ⟨rfl, _, _, rfl⟩
        · rw [upd_ne e] at z; cases z
  intro H ro hok one out
  have dataH : ∀ {b : Addr} {o : Obj} {es : Array DictEntry} {n : Nat}, t.heap.get? b = some o → o.data = .dict es n → H b = none := by
    intro b o es n z d
    cases q : H b with
    | none => rfl
    | some u =>
      obtain ⟨rfl, _⟩ := one b u q
      rw [obj] at z
      cases z
      cases d
  have nsH : ∀ {b : Addr} {m : Str → Option Value}, t.heap.Ns b m → (hidT t.heap H).Ns b m := by
    rintro b m ⟨o, es, n, z, d, r⟩
    exact ⟨o, es, n, hidT_get z (dataH z d), d, r⟩
  have inH : K.In (hidT t.heap H) := by
    intro b o z
    refine hidT_get (inK b o z) ?_
    cases q : H b with
    | none => rfl
    | some u =>
      obtain ⟨rfl, _⟩ := one b u q
      rw [out (by rw [q]; exact fun z => nomatch z)] at z
      cases z
  have limH : (hidT t.heap H).NoLimit := by
    obtain ⟨mc, l1, l2⟩ := noLim
    exact ⟨mc, nsH l1, l2⟩
  have env : Env0 P w K mg (hidT t.heap H) callerA [] t H :=
    ⟨rfl, ⟨inH, nsH nsM, ⟨mb, nsH nsB, boots⟩, limH⟩, fun _ _ z => of_hidT z, Nat.le_of_eq (hidT_size _ _), True.intro, fun b z => (List.not_mem_nil (show b ∈ ([] : List Addr) from z)).elim, hok, .of_eq noGen⟩
  refine codeAny_mono ((F _ inH (nsH nsM)).run callerA [] t H ⟨[.ref a], []⟩ [.ref a] [.ref a] _ _ rfl room env (bind t (.ref a)) (.cons rfl .nil) (said H ro)) ?_
  intro r s' z
  cases r with
  | error e => exact (quiet H e s' z).elim
  | ok fl =>
    cases fl with
    | ret u =>
      obtain ⟨v, H', os, bare, un, hok', rv, e⟩ := z
      have e' : v = .bl true := e
      subst e'
      cases rv
      refine ⟨rfl, OldK.of_keep fun b o z => ?_, os, bare⟩
      cases q : H b with
      | none => exact un.keep b o z q (by simp [frs]) (by simp)
      | some u =>
        obtain ⟨rfl, ob, xs, rfl⟩ := one b u q
        obtain ⟨z1, _⟩ := hok b _ q
        obtain ⟨z2, _⟩ := hok' b _ (un.frzs b ob _ q)
        rw [z] at z1
        cases z1
        exact z2
    | next => cases z
    | brk => cases z
    | cont => cases z
theorem rm_nil {K : PySem.W.Frag} {H : Hp} : RM0 K H M0 := by
  intro a o h
  cases h
/-- the goal that k_head leaves, from the law's def -/
theorem law_end {l : PySem.W.OpenLaw} {k : Nat} {q : Program} {loose : List Str} {XP : (Str → Option Value) → Heap → Prop} {YP : World → Heap → Prop} {d : DefRec} {K : Params → PySem.W.Frag} {CX : Program → World → CXT} {sp : Sp3} {x : Str}
    (hn : l.most = some 63) (hdf : d.params.defaults = []) (room : Room k callerA) (hY : ∀ (w : World) (h : Heap), YP w h → (K w.params).In h)
    (F : ∀ (w : World) (mg : Str → Option Value) (fa : Addr) (h : Heap), (K w.params).In h → h.Ns mainGlobals mg → mg d.name = some (.ref fa) →
      ∃ fd : FuncData, (∀ (s : Shared) (u : Value), BindsTo s fd ⟨[u], []⟩ [(x, u)]) ∧
        ∀ base : Heap, (K w.params).In base → base.Ns mainGlobals mg → FnG l.prog w (K w.params) mg base (CX l.prog w) k fa fd [x] (liftSp (K w.params) sp))
    (said : ∀ ns : List Int, ns.length ≤ 63 → sp [.rol (ns.map D.int)] M0 (fun v _ => v = .bl true) (fun _ _ _ => False))
    (quiet : ∀ (P : Program) (w : World) (H : Hp) (s : Shared) (e : Value) (s' : Shared), CX P w [] H s (fun _ _ _ => False) e s' → False) :
    PySem.W.WalkO q loose XP YP l.row.toRowW d [] (fun f vs => PySem.call f vs) := by
  refine Att.attach_call hn hdf ?_
  intro w s0 t mg mb fa o pm cd doc a vs ns G Y ho hd hcd hmg hobj hints hlen hg
  have inK := hY w _ Y
  obtain ⟨fd, hb, hF⟩ := F w mg fa _ inK G.T.g hmg
  refine law_at inK G.T.g G.T.b G.T.builtins G.T.nolimit hg hobj hints (Nat.le_trans hlen (by decide)) room hF hb (fun H ro => ?_) fun H e s' => quiet l.prog w H t e s'
  refine ⟨[.rol (ns.map D.int)], M0, _, _, .cons (.rol ro (RDs.ofInts ns)) .nil, rm_nil, said ns hlen, fun v H' d' M' _ _ rd e => ?_, fun _ _ _ _ _ _ _ _ _ z => z⟩
  subst e
  cases rd
  rfl
end L3
set_option Elab.async false
set_option linter.all false
set_option maxRecDepth 100000
set_option maxHeartbeats 4000000
namespace L3
open PySem PySem.Spec PyProof.Rows L2
/-- no exception -/
def X0 : XK3 := fun _ _ _ => False
theorem passX1 {bs : BS} {X : Cx} : PassX bs (L2.CX X.prog X.w) X X0 := ⟨E0, passL, fun _ _ _ _ _ _ _ _ _ z => z.elim⟩
theorem passXE {bs : BS} {P : Program} {w : World} {K : PySem.W.Frag} {mg : Str → Option Value} {base : Heap} {N : List Str} {qual : Str} {scope : Scope} {f : Addr} {cd : Value} {A : Around} {outer : List Env} {s : Shared} {H : Hp} {E : XK} {E3 : XK3}
    (h : ∀ n c a H' fs M', RM0 K H' M' → bs.ok M' H' → RX K H' n c a fs → E3 n fs M' → E c a H') : PassX bs (L2.CX P w) (cxOf (L2.CX P w) P w K mg base N qual scope f cd A outer s H E) E3 :=
  ⟨E, passes_call (W := fun c a _ H => E c a H) (takes_of rfl rfl rfl rfl) (fun _ _ _ _ z => z), h⟩
theorem quietX : ∀ (P : Program) (w : World) (H : Hp) (s : Shared) (e : Value) (s' : Shared), L2.CX P w [] H s (fun _ _ _ => False) e s' → False := by
  intro P w H s e s' h
  obtain ⟨_, _, _, _, _, _, _, _, _, _, _, _, z⟩ := h
  exact z.elim
theorem hu_more {k : Nat} {A : Around} (r : Room k A) : A.units + 64 + 100 < cLine := by have := r.un; omega
def wgTupN (n : Nat) (t : TGs3) : TG3 := fun d τ M Q => match d with
  | .tup ds => ds.length = n ∧ t ds τ M Q
  | _ => False
section
variable {bs : BS} {X : Cx} {e b : Expr} {es : List Expr} {te tb : TE3} {pos : Pos}
theorem g_tupN {es : List Expr} {k n : Nat} {ix : List Nat} {t : TGs3} (hc : X.calm = true) (h : PGs3 bs X es ix t)
    (hn : (assignEach es X.env).length = n := by rfl) (hst : (assignEach es X.env).findIdx? (·.1) = none := by rfl) : PG3 bs X (.Tuple es k pos) ix (wgTupN n t) := g_tup hc h hn hst
/-- [e] * k: the list of one is forgotten -/
def wRep (te tb : TE3) : TE3 := fun τ M Q => te τ M fun d M1 => tb τ M1 fun i M2 => match i with
  | .int k => -(2 ^ 63) ≤ k ∧ k < 2 ^ 63 ∧ k.toNat ≤ sizeLine ∧ ∀ p, M2 p = none → Q (.ref p) (mset M2 p (.lst (List.replicate k.toNat d)))
  | _ => False
theorem flat_one (k : Nat) (d : D) : (List.replicate k [d]).flatten = List.replicate k d := by
  induction k with
  | zero => rfl
  | succ k ih => rw [List.replicate_succ, List.flatten_cons, ih, List.replicate_succ]; rfl
theorem e_rep {p1 : Pos} (he : PE3 bs X e te) (hb : PE3 bs X b tb) (hs : starEach [e] X.env = (false, eval e X.env) :: starEach [] X.env := by rfl) : PE3 bs X (.BinOp (.List [e] p1) .Mult b pos) (wRep te tb) := by
  refine PE.weak (pe_op op_rep (pe_lst (pa_cons he pa_nil hs)) hb) ?_
  rintro σ H Q ⟨τ, M, Q3, e, m, q, k⟩
  refine ⟨τ, M, _, e, m, q, fun v H1 d M1 x1 m1 r1 q1 => ⟨(by show 1 ≤ sizeLine; decide), fun p hp => ?_⟩⟩
  obtain ⟨x2, m2⟩ := m1.upNew (o := .lst [v]) hp
  have f2 : Fresh X.K (upd H1 p (.lst [v])) M1 p [d] := Fresh.laid m1.m hp (.cons r1 .nil)
  refine ⟨τ, M1, _, (e.go (x1.still m)).go (x2.still m1), m2, q1, fun y H2 dy M2 x3 m3 r3 q3 => ?_⟩
  have f3 := f2.go m2.m x3
  obtain ⟨vs, hv, rv⟩ := f3.lst
  cases dy with
  | int z =>
    cases r3
    obtain ⟨b1, b2, b3, q3⟩ := q3
    refine ⟨p, z, vs, rfl, rfl, hv, b1, b2, by rw [rv.length]; simpa using b3, fun p2 hp2 => ?_⟩
    obtain ⟨x4, m4⟩ := m3.newL hp2 (rv.rep z.toNat)
    rw [flat_one] at x4 m4
    exact k _ _ _ _ (x1.trans (x2.trans (x3.trans x4))) m4 (.ref p2) (q3 p2 (m3.free hp2))
  | _ => exact False.elim q3
end
end L3
set_option Elab.async false
set_option linter.all false
set_option maxRecDepth 100000
set_option maxHeartbeats 4000000
namespace L3
open PySem PySem.Spec PyProof.Rows L2
section
variable {bs : BS} {X : Cx} {a b : Expr} {ta tb : TE3} {pos p p2 pos2 : Pos}
theorem rds_rg {K : PySem.W.Frag} {H : Hp} (i j : Int) : RDs K H (rgV i j) (rgD i (j - i).toNat) := by
  unfold rgV rgD
  generalize List.range (j - i).toNat = l
  induction l with
  | nil => exact .nil
  | cons x r ih => exact .cons (.int _) ih
def wTupRg1 (ta : TE3) : TE3 := fun τ M Q => ta τ M fun d M1 => asI d fun n => (-(2 ^ 62) ≤ n ∧ n ≤ 16777216) ∧ Q (.tup (rgD 0 n.toNat)) M1
theorem rg1_ok {n : Int} (h : -(2 ^ 62) ≤ n ∧ n ≤ 16777216) : RgOk 0 n := ⟨by omega, by omega, by omega, by omega, by omega⟩
theorem rg2_ok {i j : Int} (h : -(2 ^ 60) ≤ i ∧ i < 2 ^ 60 ∧ -(2 ^ 60) ≤ j ∧ j < 2 ^ 60 ∧ j - i ≤ 16777216) : RgOk i j := ⟨by omega, by omega, by omega, by omega, by omega⟩
end
end L3
set_option Elab.async false
set_option linter.all false
set_option maxRecDepth 100000
set_option maxHeartbeats 4000000
namespace L3
open PySem PySem.Spec PyProof.Rows L2
/-- the cell that goes over the tuple at a -/
abbrev cellT (a : Addr) : Obj := { cls := .type "tuple_iterator", data := .fields #[.ref a, .int 0 0] }
/-- the cell that counts with it -/
abbrev cellE (c : Addr) : Obj := { cls := .type "enumerate", data := .fields #[.none, .bool false, .ref c, rawInt 0, .none, .none] }
theorem newE_tup (a : Addr) (its : Array Value) : Meets (Builtin.«enumerate.__new__» ⟨[.type "enumerate", .ref a], []⟩)
    (fun _ R s => s.heap.IsTuple a its ∧ R (.ok (.ret (.ref (s.heap.push (cellT a)).objs.size))) { s with heap := (s.heap.push (cellT a)).push (cellE s.heap.objs.size) }) :=
  .of_wp fun prog w A R s h => by
    obtain ⟨hp, g, d, tk, os⟩ := s
    obtain ⟨ht, h⟩ := h
    have sub := sub_enumerate
    have go : ∀ {A' : Around} {E : Value → Shared → Prop} {Q : Value → Shared → Prop},
        Q (.ref hp.objs.size) ⟨hp.push (cellT a), g, d, tk, os⟩ → wpAny (model prog w) A' (pyIter (.ref a)) Q E ⟨hp, g, d, tk, os⟩ := fun q => wpAny_pyIter_tuple ht q
    wp_walk using go
    refine wpAny_stack_any fun _ => wpAny_pure ?_
    split
    · rename_i cl _ _ _ _ _
      cases (cl == Value.type "enumerate")
      all_goals
        wp_walk using go
        exact ⟨_, rfl, h⟩
    · wp_walk using go
      exact ⟨_, rfl, h⟩
section
variable {prog : Program} {w : World} {A : Around} {E : Value → Shared → Prop} {s : Shared}
theorem callE_tup {a : Addr} {its : Array Value} {Q : Value → Shared → Prop} (ht : s.heap.IsTuple a its)
    (h : ∀ h', IsEnum h' (s.heap.objs.size + 1) s.heap.objs.size 0 .none → h'.IsTupleIter s.heap.objs.size a 0 → (∀ b o, s.heap.get? b = some o → h'.get? b = some o) → Q (.ref (s.heap.objs.size + 1)) { s with heap := h' }) :
    wpAny (model prog w) A (call (.type "enumerate") [.ref a]) Q E s := by
  refine callType_new F.called_enumerate (by decide) (F.typeCall_enumerate_1 _) (F.newCall_enumerate_1 _) (fun _ => F.args_object_init_2 _ _) F.entry_enumerate_new (newE_tup a its) ⟨ht, ?_⟩
  have hz : (s.heap.push (cellT a)).objs.size = s.heap.objs.size + 1 := Heap.size_push ..
  show _ ∧ _
  rw [hz]
  have he : IsEnum ((s.heap.push (cellT a)).push (cellE s.heap.objs.size)) (s.heap.objs.size + 1) s.heap.objs.size 0 .none := by
    have z := Heap.get?_push_size (s.heap.push (cellT a)) (o := cellE s.heap.objs.size) rfl
    rwa [hz] at z
  have hi : ((s.heap.push (cellT a)).push (cellE s.heap.objs.size)).IsTupleIter s.heap.objs.size a 0 := ⟨_, Heap.get?_push_of_some _ (Heap.get?_push_size _ rfl), rfl, rfl⟩
  exact ⟨⟨_, he, rfl⟩, h _ he hi fun b o x => Heap.get?_push_of_some _ (Heap.get?_push_of_some _ x)⟩
end
/-- the tuple at a, each item in a new pair with its number -/
def IteT (K : PySem.W.Frag) (a : Addr) : It :=
  ⟨fun i H => ∃ (xs : List V) (x : V), SqT K H a xs ∧ xs[i]? = some x, fun i H v H' => ∃ T x, v = .ref T ∧ H T = none ∧ H' = upd H T (.tup [.int (i : Nat), x]) ∧ ∀ xs, SqT K H a xs → xs[i]? = some x, fun i H => ∃ xs : List V, SqT K H a xs ∧ xs.length = i⟩
theorem turn_enumT {P : Program} {w : World} {K : PySem.W.Frag} {elts : List Expr} {kk : Nat} {tpos : Pos} (a e it : Addr) (hat : a ≠ it) (hae : e ≠ a) :
    Turn P w K (.Tuple elts kk tpos) (IteT K a) [e, it] e (fun i h => (∃ old, IsEnum h e it ((i : Nat) : Int) old) ∧ h.IsTupleIter it a i ∧ e ≠ it) where
  mem := by simp
  obj := fun i h st b hb => by
    obtain ⟨⟨old, he⟩, ⟨o, ho, _, hd⟩, _⟩ := st
    rcases (by simpa using hb : b = e ∨ b = it) with z | z
    · subst z; exact ⟨_, he, fun v q => nomatch q⟩
    · subst z; exact ⟨o, ho, fun v q => by rw [hd] at q; cases q⟩
  keep := fun i h h' st k => ⟨⟨st.1.choose, k e (by simp) _ st.1.choose_spec⟩, st.2.1.at fun o q => k it (by simp) o q, st.2.2⟩
  item := by
    intro X hP hw hK hc i pins s σ H E I hf st hg
    subst hP hw hK
    obtain ⟨⟨old, he⟩, hit, hne⟩ := st
    obtain ⟨xs, x, hq, hx⟩ := hg
    obtain ⟨its, rv, p, hz⟩ := I.tuple hq
    obtain ⟨u, hu, ru⟩ := rv.get hx
    have hel : e < s.heap.objs.size := Heap.lt_size he
    have hil : it < s.heap.objs.size := by obtain ⟨_, q, _⟩ := hit; exact Heap.lt_size q
    have p' : s.heap.IsTuple a its.toArray := p
    have hsz : i < its.toArray.size := by
      have := (List.getElem?_eq_some_iff.mp hu).1
      simpa using this
    have hef : e ∉ [it, a] := by simp [hne, hae]
    have hd1 : X.A.in1.handled = none := I.ok.hd hc
    refine wpAny_pyNext_enum_itemD (Draws.tuple hd1 it a hat its.toArray) he ⟨hit, p'⟩ hsz hne hef fun y h' tk hy ho hst hT hsz2 hk => ?_
    have hyu : y = u := by
      have e1 : its.toArray[i]? = some u := by simpa using hu
      rw [e1] at hy; exact (Option.some.inj hy).symm
    subst hyu
    refine ⟨_, rfl, wpAny_letOwnedTupleGo_enum (s := { s with heap := h', toks := tk + 1 }) ho fun h2 he2 sb => ?_⟩
    have hT2 : h2.get? s.heap.objs.size = some { cls := .type "tuple", data := .seq #[.int i tk, y] } := (sb.2 _ (Nat.ne_of_gt hel)).trans hT
    have new : ObjOk X.prog X.w (upd H s.heap.objs.size (.tup [.int (i : Nat), x])) h2 s.heap.objs.size (.tup [.int (i : Nat), x]) := ⟨by show 2 ≤ sizeLine; decide, [.int i tk, y], .cons ⟨_, rfl⟩ (.cons ru .nil), ⟨_, hT2, rfl, _, rfl⟩⟩
    have I1 : Inv X pins σ (upd H s.heap.objs.size (.tup [.int (i : Nat), x])) { s with heap := h2, toks := tk + 1 } :=
      I.turnedNew (t' := tk + 1) (ch := [e, it]) (fun b ob hb q => by
        have n1 : b ≠ e := fun z => hb (by simp [z])
        have n2 : b ≠ it := fun z => hb (by simp [z])
        exact (sb.2 b n1).trans (hk b ob n1 n2 q)) hf (Nat.le_refl _) new
    refine ⟨.ref s.heap.objs.size, _, I1, rfl, ⟨_, x, rfl, I.hok.fresh (Nat.le_refl _), rfl, fun ys hy => by rw [I.tuple_inj hy hq]; exact hx⟩, ⟨⟨y, ?_⟩, hst.1.at fun o q => (sb.2 it (Ne.symm hne)).trans q, hne⟩, fun b hb => ?_⟩
    · have e1 : ((i + 1 : Nat) : Int) = (i : Int) + 1 := by omega
      rw [e1]; exact he2
    · have hb' : b < s.heap.objs.size := by
        rcases (by simpa using hb : b = e ∨ b = it) with z | z <;> subst z <;> assumption
      rw [upd_ne (Nat.ne_of_lt hb')]
      exact (hf b hb).1
  done := by
    intro X hP hw hK hc i pins s σ H E I hf st hg
    subst hP hw hK
    obtain ⟨⟨old, he⟩, hit, hne⟩ := st
    obtain ⟨xs, hq, hx⟩ := hg
    obtain ⟨its, rv, p, hz⟩ := I.tuple hq
    obtain ⟨f0, f1, f2, f3, f4, f5⟩ := hf it (by simp)
    have hd1 : X.A.in1.handled = none := I.ok.hd hc
    have p' : s.heap.IsTuple a its.toArray := p
    have hn : its.toArray.size = i := by rw [List.size_toArray, ← rv.length, hx]
    have hit' : s.heap.IsTupleIter it a its.toArray.size := by rw [hn]; exact hit
    exact wpAny_pyNext_enum_endD (Draws.tuple hd1 it a hat its.toArray) he ⟨hit', p'⟩ fun h' eb => ⟨rfl, I.turned (t' := s.toks) (fun b o hb q => eb b o hb q) f0 f1 f3 f4 f5⟩
  self := fun A i s Q E st h => wpAny_pyIter_enum st.1.choose_spec h
def iEnumA (K : PySem.W.Frag) (ta : TA) : TI := fun σ H R => ta σ H fun vs H1 => ∃ a xs, vs = [.ref a] ∧ ((SqL K H1 a xs ∧ R (Ite K a) H1) ∨ (SqT K H1 a xs ∧ R (IteT K a) H1))
theorem pi_enumA {X : Cx} {e : Expr} {ta : TA} {p pos tpos : Pos} {elts : List Expr} {kk : Nat} (hg : Gl X "enumerate") (hm : X.mg "enumerate" = none) (ha : PA X [e] ta) (hs : starEach [e] X.env = [(false, eval e X.env)] := by rfl) :
    PI X (.Tuple elts kk tpos) (.Call (.Name "enumerate" p) [e] [] pos) (iEnumA X.K ta) := by
  refine ⟨fun pins s σ H R I h => ?_⟩
  refine Call_ (ld_blt I hg hm boot_enumerate (PyProof.Rows.callWith_type1 (thn (ha.run pos pins s σ H _ I h) fun us s1 ⟨vs, H1, I1, r1, a, xs, ex, q⟩ => ?_) hs rfl))
  subst ex
  cases r1 with
  | cons r rr =>
    cases rr
    cases r
    have fresh : ∀ b, b ∈ [s1.heap.objs.size + 1, s1.heap.objs.size] → FpOk X pins H1 b := fun b hb => by
      have hle : s1.heap.objs.size ≤ b := by
        rcases (by simpa using hb : b = s1.heap.objs.size + 1 ∨ b = s1.heap.objs.size) with z | z <;> omega
      exact I1.fpOk hle (I1.hok.fresh hle)
    rcases q with ⟨hq, q⟩ | ⟨hq, q⟩
    · obtain ⟨its, rv, p', hz⟩ := I1.list hq
      refine call_enumerate_list p'.isList fun h' he hit hsz hk => wpAny_pyIter_enum he ?_
      exact ⟨s1.heap.objs.size + 1, [s1.heap.objs.size + 1, s1.heap.objs.size], _, _, H1, rfl, I1.kept (t' := s1.toks) hk, turn_enum a _ _, ⟨⟨.none, he⟩, hit, Nat.succ_ne_self _⟩, fresh, q⟩
    · obtain ⟨its, rv, p', hz⟩ := I1.tuple hq
      have p2 : s1.heap.IsTuple a its.toArray := p'
      have hal : a < s1.heap.objs.size := by obtain ⟨_, y, _⟩ := p2; exact Heap.lt_size y
      refine callE_tup p2 fun h' he hit hk => wpAny_pyIter_enum he ?_
      exact ⟨s1.heap.objs.size + 1, [s1.heap.objs.size + 1, s1.heap.objs.size], _, _, H1, rfl, I1.kept (t' := s1.toks) hk, turn_enumT a (s1.heap.objs.size + 1) s1.heap.objs.size (Nat.ne_of_lt hal) (Nat.ne_of_gt (Nat.lt_succ_of_lt hal)), ⟨⟨.none, he⟩, hit, Nat.succ_ne_self _⟩, fresh, q⟩
section
variable {bs : BS} {X : Cx}
def enD (ds : List D) : List D := (List.range ds.length).map fun i => .tup [.int (i : Nat), ds.getD i .non]
theorem enD_get {ds : List D} {i : Nat} {d : D} (h : (enD ds)[i]? = some d) : ∃ x, ds[i]? = some x ∧ d = .tup [.int (i : Nat), x] := by
  unfold enD at h
  rw [List.getElem?_map] at h
  obtain ⟨j, hj, rfl⟩ := Option.map_eq_some_iff.mp h
  obtain ⟨hlt, hij⟩ := List.getElem?_eq_some_iff.mp hj
  rw [List.getElem_range] at hij
  subst hij
  rw [List.length_range] at hlt
  refine ⟨ds[i], List.getElem?_eq_getElem hlt, ?_⟩
  rw [List.getD_eq_getElem?_getD, List.getElem?_eq_getElem hlt]; rfl
theorem enD_len {ds : List D} : (enD ds).length = ds.length := by simp [enD]
theorem it_enT {K : PySem.W.Frag} {a : Addr} {vs : List V} {ds : List D} : ItOk K (IteT K a) (fun H => SqT K H a vs ∧ RDs K H vs ds) (fun _ => True) (enD ds) where
  mono := fun M M' H H' m x p => ⟨(x.still0 m).1 _ _ p.1, p.2.go (x.still0 m)⟩
  stop := fun H M m p _ => ⟨vs, p.1, by rw [p.2.length, enD_len]⟩
  go := fun i d H M m p _ hd => by
    obtain ⟨x, hx, rfl⟩ := enD_get hd
    obtain ⟨v, hv, r⟩ := p.2.get hx
    refine ⟨⟨vs, v, p.1, hv⟩, ?_⟩
    rintro x' H' ⟨T, v', rfl, hT, rfl, e1⟩
    have f1 := e1 vs p.1
    rw [hv] at f1; cases f1
    obtain ⟨x2, m2⟩ := m.upNew (o := .tup [.int (i : Nat), v]) hT
    exact ⟨x2, m2, .tup (SqT.of upd_same) (.cons (.int _) (.cons (r.go (x2.still0 m)) .nil))⟩
theorem it_enL {K : PySem.W.Frag} {a : Addr} {ds : List D} : ItOk K (Ite K a) (fun _ => True) (fun M => M a = some (.lst ds)) (enD ds) where
  mono := fun _ _ _ _ _ _ _ => True.intro
  stop := fun H M m _ g => by
    obtain ⟨vs, hv, l⟩ := m a _ g
    exact ⟨vs, SqL.of hv, by rw [l.length, enD_len]; exact Nat.le_refl _⟩
  go := fun i d H M m _ g hd => by
    obtain ⟨x, hx, rfl⟩ := enD_get hd
    obtain ⟨vs, hvs, l⟩ := m a _ g
    obtain ⟨v, hv, r⟩ := l.get hx
    refine ⟨⟨vs, v, SqL.of hvs, hv⟩, ?_⟩
    rintro x' H' ⟨T, v', rfl, hT, rfl, e1⟩
    have f1 := e1 vs (SqL.of hvs)
    rw [hv] at f1; cases f1
    obtain ⟨x2, m2⟩ := m.upNew (o := .tup [.int (i : Nat), v]) hT
    exact ⟨x2, m2, .tup (SqT.of upd_same) (.cons (.int _) (.cons (r.go (x2.still0 m)) .nil))⟩
theorem it_enR {K : PySem.W.Frag} {a : Addr} {vs : List V} {ds : List D} : ItOk K (Ite K a) (fun H => RoL K H a vs ∧ RDs K H vs ds) (fun _ => True) (enD ds) where
  mono := fun M M' H H' m x p => ⟨(x.still0 m).2 _ _ p.1, p.2.go (x.still0 m)⟩
  stop := fun H M m p _ => ⟨vs, p.1.sq, by rw [p.2.length, enD_len]; exact Nat.le_refl _⟩
  go := fun i d H M m p _ hd => by
    obtain ⟨x, hx, rfl⟩ := enD_get hd
    obtain ⟨v, hv, r⟩ := p.2.get hx
    refine ⟨⟨vs, v, p.1.sq, hv⟩, ?_⟩
    rintro x' H' ⟨T, v', rfl, hT, rfl, e1⟩
    have f1 := e1 vs p.1.sq
    rw [hv] at f1; cases f1
    obtain ⟨x2, m2⟩ := m.upNew (o := .tup [.int (i : Nat), v]) hT
    exact ⟨x2, m2, .tup (SqT.of upd_same) (.cons (.int _) (.cons (r.go (x2.still0 m)) .nil))⟩
def wEnum (t : TA3) : TI3 := fun τ M R => t τ M fun ds M1 => match ds with
  | [d] => asL (items M1 d) fun xs => R (enD xs) (keepG M1 d xs) M1
  | _ => False
theorem w_enum {a : Expr} {ta : TA3} {p pos tpos : Pos} {elts : List Expr} {kk : Nat} (hm : X.mg "enumerate" = none) (ha : PA3 bs X [a] ta) (hg : Gl X "enumerate" := by rfl)
    (hs : starEach [a] X.env = [(false, eval a X.env)] := by rfl) : PI3 bs X (.Tuple elts kk tpos) (.Call (.Name "enumerate" p) [a] [] pos) (wEnum ta) := by
  refine PI.weak (pi_enumA hg hm ha hs) ?_
  rintro σ H R ⟨τ, M, R3, e, m, q, k⟩
  refine ⟨τ, M, _, e, m, q, fun vs H1 ds M1 x1 m1 r1 q1 => ?_⟩
  split at q1
  · rename_i d
    unfold asL at q1
    split at q1
    · rename_i xs hd
      cases r1 with
      | cons r rn =>
        cases rn
        cases d with
        | tup es =>
          cases hd
          cases r with
          | tup h1 h2 => exact ⟨_, _, rfl, .inr ⟨h1, k _ _ _ _ H1 M1 x1 m1 it_enT ⟨h1, h2⟩ q1⟩⟩
        | rol es =>
          cases hd
          cases r with
          | rol h1 h2 => exact ⟨_, _, rfl, .inl ⟨h1.sq, k _ _ _ _ H1 M1 x1 m1 it_enR ⟨h1, h2⟩ q1⟩⟩
        | ref b =>
          cases r
          obtain ⟨vs, hv, l⟩ := m1.at (lstOf_some hd)
          exact ⟨_, vs, rfl, .inl ⟨SqL.of hv, k _ _ _ _ H1 M1 x1 m1 it_enL True.intro q1⟩⟩
        | _ => cases hd
    · exact False.elim q1
  · exact False.elim q1
end
section
variable {bs : BS} {X : Cx}
def wTupRg2 (ta tb : TE3) : TE3 := fun τ M Q => ta τ M fun d M1 => tb τ M1 fun e M2 => asI d fun i => asI e fun j => (-(2 ^ 60) ≤ i ∧ i < 2 ^ 60 ∧ -(2 ^ 60) ≤ j ∧ j < 2 ^ 60 ∧ j - i ≤ 16777216) ∧ Q (.tup (rgD i (j - i).toNat)) M2
theorem e_tupRg2 {a b : Expr} {ta tb : TE3} {pos p p2 pos2 : Pos} (hc : X.calm = true) (zl : X.mg "tuple" = none) (zr : X.mg "range" = none) (ha : PE3 bs X a ta) (hb : PE3 bs X b tb) (gl : Gl X "tuple" := by rfl) (gr : Gl X "range" := by rfl)
    (na : starEach [a, b] X.env = (false, eval a X.env) :: starEach [b] X.env := by rfl) (na2 : starEach [b] X.env = (false, eval b X.env) :: starEach [] X.env := by rfl) (np : (backTo pos2 (starEach [b] X.env)).any (·.1) = false := by rfl)
    (nb : starEach [.Call (.Name "range" p2) [a, b] [] pos2] X.env = (false, eval (.Call (.Name "range" p2) [a, b] [] pos2) X.env) :: starEach [] X.env := by rfl) :
    PE3 bs X (.Call (.Name "tuple" p) [.Call (.Name "range" p2) [a, b] [] pos2] [] pos) (wTupRg2 ta tb) := by
  refine PE.weak (pe_tupRg hc gl zl (prg_2 gr zr ha hb na na2 np) nb) ?_
  rintro σ H Q ⟨τ, M, Q3, e, m, q, k⟩
  refine ⟨τ, M, _, e, m, q, fun v H1 d M1 x1 m1 r1 q1 => ⟨τ, M1, _, e.go (x1.still m), m1, q1, fun u H2 d2 M2 x2 m2 r2 q2 => ?_⟩⟩
  cases d with
  | int i =>
    cases r1
    cases d2 with
    | int j =>
      cases r2
      refine ⟨i, j, rfl, rfl, rg2_ok q2.1, fun p hp => ?_⟩
      obtain ⟨x3, m3⟩ := m2.upNew (o := .tup (rgV i j)) hp
      exact k _ _ (.tup _) M2 (x1.trans (x2.trans x3)) m3 (.tup (SqT.of upd_same) ((rds_rg i j).go (x3.still m2))) q2.2
    | _ => exact False.elim q2
  | _ => exact False.elim q2
end
end L3
set_option Elab.async false
set_option linter.all false
set_option maxRecDepth 100000
set_option maxHeartbeats 4000000
namespace L3
open PySem PySem.Spec PyProof.Rows L2
/-- a new list may be taken as a thing that nobody writes -/
def FQ (Q : VK) : VK := fun v H => Q v H ∨ ∃ p vs, H p = some (.lst vs) ∧ ∀ o, Q v (upd H p (.frz o (.lst vs)))
section
variable {X : Cx} {pins : List (Addr × Obj)} {σ : L2.St} {H : Hp} {s : Shared}
theorem inv_frz {p : Addr} {vs : List V} (I : Inv X pins σ H s) (h : H p = some (.lst vs)) : ∃ o, Inv X pins σ (upd H p (.frz o (.lst vs))) s := by
  obtain ⟨z, its, n, r, e⟩ := I.hok p _ h
  have hok : HOk X.prog X.w (upd H p (.frz { cls := .type "list", data := .seq its.toArray n } (.lst vs))) s.heap := by
    intro b u q
    by_cases hb : b = p
    · subst hb
      rw [upd_same] at q
      cases q
      exact ⟨e, z, its, n, r, e⟩
    · rw [upd_ne hb] at q
      refine (I.hok b u q).stay (fun _ _ _ w => w) (fun c w => ?_) fun c xs w => ?_
      · rw [upd_ne (by intro y; subst y; rw [h] at w; cases w)]; exact w
      · rw [upd_ne (by intro y; subst y; rw [h] at w; cases w)]; exact w
  refine ⟨_, I.un (h' := s.heap) (t' := s.toks) (H' := upd H p (.frz { cls := .type "list", data := .seq its.toArray n } (.lst vs))) ⟨fun _ _ q _ _ _ => q, fun b o q _ _ _ => ⟨o.slots, q⟩, fun b o q n' _ => ?_, fun b o q _ => ⟨o, q⟩, fun b xs q => ?_, fun b o u q => ?_, fun b ps q => ⟨#[], ?_⟩⟩ hok⟩
  · rw [upd_ne (by intro w; subst w; rw [n'] at h; cases h)]; exact n'
  · rw [upd_ne (by intro w; subst w; rw [h] at q; cases q)]; exact q
  · rw [upd_ne (by intro w; subst w; rw [h] at q; cases q)]; exact q
  · rw [upd_ne (by intro w; subst w; rw [h] at q; cases q), q]; simp
theorem ep_frz {Q : VK} {u : Value} (h : EP X pins σ (FQ Q) u s) : EP X pins σ Q u s := by
  obtain ⟨v, H', I, r, q | ⟨p, vs, hp, k⟩⟩ := h
  · exact ⟨v, H', I, r, q⟩
  · obtain ⟨o, I'⟩ := inv_frz I hp
    exact ⟨v, _, I', r, k o⟩
end
section
variable {X : Cx}
theorem PE_frz {e : Expr} {t : TE} (h : PE X e t) : PE X e fun σ H Q => t σ H (FQ Q) := ⟨fun pins s σ H Q I q => thn (h.run pins s σ H _ I q) fun _ _ => ep_frz⟩
theorem OpR_frz {f : Value → Value → Sem Value} {r : R2} (h : OpR X f r) : OpR X f fun x y H Q => r x y H (FQ Q) := fun pins s σ H x y v u Q I r1 r2 q => thn (h pins s σ H x y v u _ I r1 r2 q) fun _ _ => ep_frz
def FD (D : Ends) : Ends := { nx := fun σ H => D.nx σ H ∨ ∃ p vs, H p = some (.lst vs) ∧ ∀ o, D.nx σ (upd H p (.frz o (.lst vs))), rt := D.rt, bk := D.bk, ct := D.ct }
theorem PS_frz {st : Stmt} {t : TS} (h : PS X st t) : PS X st fun D σ H => t (FD D) σ H := ⟨fun pins s σ H D I q => thn (h.run pins s σ H _ I q) fun f s' z => by
  cases f with
  | next =>
    obtain ⟨σ', H', J, q | ⟨p, vs, hp, k⟩⟩ := z
    · exact ⟨σ', H', J, q⟩
    · obtain ⟨o, J'⟩ := inv_frz J hp
      exact ⟨σ', _, J', k o⟩
  | brk => exact z
  | cont => exact z
  | ret u => exact z⟩
end
section
variable {K : PySem.W.Frag} {bs : BS} {M M1 : Mp} {H H1 : Hp} {p : Addr} {vs : List V} {ds : List D} {Q : VK}
theorem still_frz {o : Obj} (h : H p = some (.lst vs)) : Still K H (upd H p (.frz o (.lst vs))) := by
  refine ⟨fun a xs q => ?_, fun a xs q => ?_⟩
  · rcases q with (q | ⟨u, q⟩) | q
    · exact .inl (.inl (by rw [upd_ne (by intro z; subst z; rw [h] at q; cases q)]; exact q))
    · exact .inl (.inr ⟨u, by rw [upd_ne (by intro z; subst z; rw [h] at q; cases q)]; exact q⟩)
    · exact .inr q
  · rcases q with ⟨u, q⟩ | q
    · exact .inl ⟨u, by rw [upd_ne (by intro z; subst z; rw [h] at q; cases q)]; exact q⟩
    · exact .inr q
/-- a list just laid -/
theorem fq_new (m : RM K bs H M) (hp : H p = none) (r : RDs K H vs ds) (k : ∀ H', Ext M M H H' → RM K bs H' M → RD K H' (.ref p) (.rol ds) → Q (.ref p) H') : FQ Q (.ref p) (upd H p (.lst vs)) := by
  refine .inr ⟨p, vs, upd_same, fun o => ?_⟩
  rw [upd_upd]
  obtain ⟨x2, m2⟩ := m.upNew (o := .frz o (.lst vs)) hp
  exact k _ x2 m2 (.rol (.inl ⟨o, upd_same⟩) (r.go (x2.still m)))
end
/-- M without a -/
def mdel (M : Mp) (a : Addr) : Mp := fun b => if b = a then none else M b
theorem mdel_same {M : Mp} {a : Addr} : mdel M a a = none := if_pos rfl
theorem mdel_ne {M : Mp} {a b : Addr} (h : b ≠ a) : mdel M a b = M b := if_neg h
theorem mdel_set {M : Mp} {a : Addr} {o : MO} (h : M a = none) : mdel (mset M a o) a = M := by
  funext b; unfold mdel mset
  split
  · rename_i e; rw [e, h]
  · rfl
/-- a list in M is taken out, as data -/
def frzK (Q : VK3) : VK3 := fun d M => match d with
  | .ref p => match M p with
    | some (.lst ds) => Q (.rol ds) (mdel M p)
    | _ => False
  | d => Q d M
def wFrz (te : TE3) : TE3 := fun τ M Q => te τ M (frzK Q)
section
variable {bs : BS} {X : Cx} {e a b : Expr} {te ta tb : TE3} {t : TA3} {es : List Expr} {pos : Pos}
theorem e_frz (h : PE3 bs X e te) : PE3 bs X e (wFrz te) := by
  refine PE.weak (PE_frz h) ?_
  rintro σ H Q ⟨τ, M, Q3, e, m, q, k⟩
  refine ⟨τ, M, _, e, m, q, fun v H1 d M1 x1 m1 r1 q1 => ?_⟩
  cases d with
  | ref p =>
    cases r1
    simp only [frzK] at q1
    split at q1
    · rename_i ds hp
      obtain ⟨vs, hv, rs⟩ := m1.at hp
      refine .inr ⟨p, vs, hv, fun o => ?_⟩
      have st := still_frz (K := X.K) (o := o) hv
      have y : Ext M1 (mdel M1 p) H1 (upd H1 p (.frz o (.lst vs))) := ⟨fun b u hb hm => by rw [upd_ne (by intro z; subst z; rw [hp] at hm; cases hm)]; exact hb, fun b hb => by
        by_cases z : b = p
        · subst z; rw [mdel_same] at hb; exact absurd rfl hb
        · rw [mdel_ne z] at hb; exact .inl hb⟩
      refine k (.ref p) _ (.rol ds) (mdel M1 p) (x1.trans y) (m1.to y fun b u hb => ?_) (.rol (.inl ⟨o, upd_same⟩) (rs.go st)) q1
      by_cases z : b = p
      · subst z; rw [mdel_same] at hb; cases hb
      · rw [mdel_ne z] at hb
        exact (m1.m b u hb).go st fun w hw => by rw [upd_ne z]; exact hw
    · exact False.elim q1
  | _ => exact .inl (k _ _ _ _ x1 m1 r1 q1)
def wLstF (t : TA3) : TE3 := fun τ M Q => t τ M fun xs M1 => xs.length ≤ sizeLine ∧ Q (.rol xs) M1
theorem e_lstF (h : PA3 bs X es t) : PE3 bs X (.List es pos) (wLstF t) := by
  refine PE.weak (PE_frz (pe_lst h)) ?_
  rintro σ H Q ⟨τ, M, Q3, e, m, q, k⟩
  refine ⟨τ, M, _, e, m, q, fun zs H1 ds M1 x1 m1 r1 q1 => ⟨by rw [r1.length]; exact q1.1, fun p hp => ?_⟩⟩
  exact fq_new m1 hp r1 fun H' x2 m2 r2 => k _ H' _ M1 (x1.trans x2) m2 r2 q1.2
def wRepF (te tb : TE3) : TE3 := fun τ M Q => te τ M fun d M1 => tb τ M1 fun i M2 => asI i fun k => -(2 ^ 63) ≤ k ∧ k < 2 ^ 63 ∧ k.toNat ≤ sizeLine ∧ Q (.rol (List.replicate k.toNat d)) M2
variable {p p2 pos2 : Pos}
def wLstRgF1 (ta : TE3) : TE3 := fun τ M Q => ta τ M fun d M1 => asI d fun n => (-(2 ^ 62) ≤ n ∧ n ≤ 16777216) ∧ Q (.rol (rgD 0 n.toNat)) M1
def wLstRgF2 (ta tb : TE3) : TE3 := fun τ M Q => ta τ M fun d M1 => tb τ M1 fun e M2 => asI d fun i => asI e fun j => (-(2 ^ 60) ≤ i ∧ i < 2 ^ 60 ∧ -(2 ^ 60) ≤ j ∧ j < 2 ^ 60 ∧ j - i ≤ 16777216) ∧ Q (.rol (rgD i (j - i).toNat)) M2
theorem e_listRgF1 (hc : X.calm = true) (zl : X.mg "list" = none) (zr : X.mg "range" = none) (ha : PE3 bs X a ta) (gl : Gl X "list" := by rfl) (gr : Gl X "range" := by rfl)
    (na : starEach [a] X.env = (false, eval a X.env) :: starEach [] X.env := by rfl) (nb : starEach [.Call (.Name "range" p2) [a] [] pos2] X.env = (false, eval (.Call (.Name "range" p2) [a] [] pos2) X.env) :: starEach [] X.env := by rfl) :
    PE3 bs X (.Call (.Name "list" p) [.Call (.Name "range" p2) [a] [] pos2] [] pos) (wLstRgF1 ta) := by
  refine PE.weak (PE_frz (pe_listRg hc gl zl (prg_1 gr zr ha na) nb)) ?_
  rintro σ H Q ⟨τ, M, Q3, e, m, q, k⟩
  refine ⟨τ, M, _, e, m, q, fun v H1 d M1 x1 m1 r1 q1 => ?_⟩
  cases d with
  | int n =>
    cases r1
    refine ⟨n, rfl, rg1_ok q1.1, fun p hp => ?_⟩
    have l := rds_rg (K := X.K) (H := H1) 0 n
    rw [Int.sub_zero] at l
    exact fq_new m1 hp l fun H' x2 m2 r2 => k _ H' _ M1 (x1.trans x2) m2 r2 q1.2
  | _ => exact False.elim q1
theorem e_listRgF2 (hc : X.calm = true) (zl : X.mg "list" = none) (zr : X.mg "range" = none) (ha : PE3 bs X a ta) (hb : PE3 bs X b tb) (gl : Gl X "list" := by rfl) (gr : Gl X "range" := by rfl)
    (na : starEach [a, b] X.env = (false, eval a X.env) :: starEach [b] X.env := by rfl) (na2 : starEach [b] X.env = (false, eval b X.env) :: starEach [] X.env := by rfl) (np : (backTo pos2 (starEach [b] X.env)).any (·.1) = false := by rfl)
    (nb : starEach [.Call (.Name "range" p2) [a, b] [] pos2] X.env = (false, eval (.Call (.Name "range" p2) [a, b] [] pos2) X.env) :: starEach [] X.env := by rfl) :
    PE3 bs X (.Call (.Name "list" p) [.Call (.Name "range" p2) [a, b] [] pos2] [] pos) (wLstRgF2 ta tb) := by
  refine PE.weak (PE_frz (pe_listRg hc gl zl (prg_2 gr zr ha hb na na2 np) nb)) ?_
  rintro σ H Q ⟨τ, M, Q3, e, m, q, k⟩
  refine ⟨τ, M, _, e, m, q, fun v H1 d M1 x1 m1 r1 q1 => ⟨τ, M1, _, e.go (x1.still m), m1, q1, fun u H2 d2 M2 x2 m2 r2 q2 => ?_⟩⟩
  cases d with
  | int i =>
    cases r1
    cases d2 with
    | int j =>
      cases r2
      refine ⟨i, j, rfl, rfl, rg2_ok q2.1, fun p hp => ?_⟩
      exact fq_new m2 hp (rds_rg (K := X.K) (H := H2) i j) fun H' x3 m3 r3 => k _ H' _ M2 (x1.trans (x2.trans x3)) m3 r3 q2.2
    | _ => exact False.elim q2
  | _ => exact False.elim q2
end
section
variable {bs : BS} {X : Cx} {elt tg iter : Expr} {ifs : List Expr} {scope : Scope} {own : List (Str × Nat)} {pos : Pos} {wi : TI3} {g : TG3} {tt : TT3} {te : TE3} {ix : List Nat}
def wLcF (wi : TI3) (g : TG3) (tt : TT3) (te : TE3) (vs : List Nat) : TE3 := fun τ M Q => wLcL wi g tt te vs τ M fun acc M2 => Q (.rol acc) M2
theorem ext_frz {M M' : Mp} {H H' : Hp} {L : Addr} {vs : List V} {o : Obj} (x : Ext M M' H H') (hv : H' L = some (.lst vs)) (hf : M' L = none) (z : M L ≠ none ∨ H L = none) : Ext M M' H (upd H' L (.frz o (.lst vs))) := by
  refine ⟨fun a u ha hm => ?_, x.dom⟩
  by_cases e : a = L
  · subst e
    rcases z with z | z
    · exact absurd hm z
    · rw [ha] at z; cases z
  · rw [upd_ne e]; exact x.fr a u ha hm
theorem lift_lcF (hix : ∀ i ∈ ix, i ∈ own.map (·.2)) : ∀ σ H (Q : VK), lift X.K bs (wLcF wi g tt te (own.map (·.2))) σ H Q → tLc (liftI X.K bs wi) (liftG X.K bs ix g) (liftT X.K bs tt) (lift X.K bs te) (own.map (·.2)) σ H (FQ Q) := by
  rintro σ H Q ⟨τ, M, Q3, e, m, q, k⟩
  refine lift_lcL hix σ H _ ⟨τ, M, _, e, m, q, fun L H' acc M' x m' f z q' => ?_⟩
  obtain ⟨vs, hv, r⟩ := f.lst
  refine .inr ⟨L, vs, hv, fun o => ?_⟩
  have st := still_frz (K := X.K) (o := o) hv
  have y := ext_frz (o := o) x hv f.free z
  refine k (.ref L) _ (.rol acc) M' y (m.to y fun a u h => (m'.m a u h).go st fun w hw => ?_) (.rol (.inl ⟨o, upd_same⟩) (r.go st)) q'
  rw [upd_ne (ne_m h f.free)]; exact hw
theorem e_lcF (hix : ∀ i ∈ ix, i ∈ own.map (·.2)) (hc : X.calm = true) (hN : X.N.Nodup) (hi : PI3 bs X tg iter wi) (ok : BlkOk X.N X.env.scope scope own)
    (hg : ∀ (s : Shared) (H : Hp) (C : Addr) (cl : List (Str × Addr)) (fp : List Addr), PG3 bs (X.blk s H scope (compEnvC scope cl C X.env) fp) tg ix g)
    (ht : ∀ (s : Shared) (H : Hp) (C : Addr) (cl : List (Str × Addr)) (fp : List Addr), PTs3 bs (X.blk s H scope (compEnvC scope cl C X.env) fp) ifs tt)
    (he : ∀ (s : Shared) (H : Hp) (C : Addr) (cl : List (Str × Addr)) (fp : List Addr), PE3 bs (X.blk s H scope (compEnvC scope cl C X.env) fp) elt te) (hs : ∀ x, foldedSetIterable iter X.env x = pure x := by intro _; rfl) :
    PE3 bs X (.ListComp elt [⟨tg, iter, ifs, 0⟩] scope pos) (wLcF wi g tt te (own.map (·.2))) :=
  PE.weak (PE_frz (pe_lc (g := liftG X.K bs ix g) (tt := liftT X.K bs tt) (te := lift X.K bs te) hc hN hi ok hg ht he hs)) (lift_lcF hix)
theorem s_setLcF (hix : ∀ i ∈ ix, i ∈ own.map (·.2)) {i : Nat} {y : Str} {py spos : Pos} (hc : X.calm = true) (hN : X.N.Nodup) (hy : X.N[i]? = some y) (hyl : X.env.scope.names.lookup y = some .local)
    (hsw : swapsWith (.ListComp elt [⟨tg, iter, ifs, 0⟩] scope pos) (some (.Name y py)) spos.line X.env = pure true) (hi : PI3 bs X tg iter wi) (ok : BlkOk X.N X.env.scope scope own)
    (hg : ∀ (s : Shared) (H : Hp) (C : Addr) (cl : List (Str × Addr)) (fp : List Addr), PG3 bs (X.blk s H scope (compEnvC scope cl C X.env) fp) tg ix g)
    (ht : ∀ (s : Shared) (H : Hp) (C : Addr) (cl : List (Str × Addr)) (fp : List Addr), PTs3 bs (X.blk s H scope (compEnvC scope cl C X.env) fp) ifs tt)
    (he : ∀ (s : Shared) (H : Hp) (C : Addr) (cl : List (Str × Addr)) (fp : List Addr), PE3 bs (X.blk s H scope (compEnvC scope cl C X.env) fp) elt te) (hs : ∀ x, foldedSetIterable iter X.env x = pure x := by intro _; rfl) :
    PS3 bs X (.Assign [.Name y py] (.ListComp elt [⟨tg, iter, ifs, 0⟩] scope pos) spos) (wSet i (wLcF wi g tt te (own.map (·.2)))) := by
  refine PS.weak (PS_frz (ps_setLc (g := liftG X.K bs ix g) (tt := liftT X.K bs tt) (te := lift X.K bs te) hc hN hy hyl hsw hi ok hg ht he hs)) ?_
  rintro D σ H ⟨τ, M, D3, e, m, q, kn, _⟩
  exact lift_lcF hix σ H (fun v H' => D.nx (σ.set i (some v)) H') ⟨τ, M, _, e, m, q, fun v H' d M' x m1 r q1 => kn _ _ H' M' x ((e.go (x.still m)).set r) m1 q1⟩
end
def LstV (K : PySem.W.Frag) (H : Hp) (a : Addr) (xs : List V) : Prop := H a = some (.lst xs) ∨ RoL K H a xs
theorem LstV.sq {K : PySem.W.Frag} {H : Hp} {a : Addr} {xs : List V} (h : LstV K H a xs) : SqL K H a xs := by
  rcases h with h | h
  · exact SqL.of h
  · exact h.sq
def lstI (M : Mp) : D → Option (List D)
  | .rol ds => some ds
  | .ref a => lstOf (M a)
  | _ => none
theorem lst_of {K : PySem.W.Frag} {H : Hp} {M : Mp} {v : V} {d : D} {ds : List D} (m : RM0 K H M) (r : RD K H v d) (h : lstI M d = some ds) : ∃ p vs, v = .ref p ∧ LstV K H p vs ∧ RDs K H vs ds := by
  cases d with
  | rol es =>
    cases r with
    | rol h1 h2 => cases h; exact ⟨_, _, rfl, .inr h1, h2⟩
  | ref a =>
    cases r
    obtain ⟨vs, hv, l⟩ := m a _ (lstOf_some h)
    exact ⟨_, _, rfl, .inl hv, l⟩
  | _ => cases h
theorem inv_lstV {X : Cx} {pins : List (Addr × Obj)} {σ : L2.St} {H : Hp} {s : Shared} {l : Addr} {xs : List V} (I : Inv X pins σ H s) (h : LstV X.K H l xs) :
    xs.length ≤ sizeLine ∧ ∃ (its : List Value) (n : Nat), Vals xs its ∧ xs.length = its.length ∧ s.heap.get? l = some { cls := .type "list", data := .seq its.toArray n } := by
  rcases h with h | ⟨o, h⟩ | ⟨its, n, h, z, v⟩
  · obtain ⟨z, its, n, r, e⟩ := I.hok l _ h
    exact ⟨z, its, n, r, r.length, e⟩
  · obtain ⟨_, z, its, n, r, e⟩ := I.hok l _ h
    exact ⟨z, its, n, r, r.length, e⟩
  · have e := I.kIn l _ h
    have hl := v.length
    exact ⟨by rw [hl, Array.length_toList]; exact z, its.toList, n, v, hl, by simpa using e⟩
section
variable {bs : BS} {X : Cx}
def rCatV (K : PySem.W.Frag) : R2 := fun x y H Q => ∃ l b xs zs, x = .ref l ∧ y = .ref b ∧ LstV K H l xs ∧ LstV K H b zs ∧ xs.length + zs.length ≤ sizeLine ∧ ∀ p, H p = none → Q (.ref p) (upd H p (.lst (xs ++ zs)))
theorem op_catV : OpR X (binaryOp .Add) (rCatV X.K) := by
  intro pins s σ H x y v u Q I rx ry h
  obtain ⟨l, b, xs, zs, rfl, rfl, hH, hB, hz, q⟩ := h
  cases rx
  cases ry
  obtain ⟨z, its, n, r, hl, e⟩ := inv_lstV I hH
  obtain ⟨z2, its2, n2, r2, hl2, e2⟩ := inv_lstV I hB
  refine PySem.P.add_list e e2 ?_ (by rw [List.size_toArray, List.size_toArray]; omega)
  have ea : its.toArray ++ its2.toArray = (its ++ its2).toArray := by simp
  rw [ea]
  exact ⟨.ref _, _, I.lnew (t' := s.toks) (r.append r2) (by rw [List.length_append]; omega), rfl, q _ I.fresh⟩
def catL (xs ys : List D) (M : Mp) (Q : VK3) : Prop := xs.length + ys.length ≤ sizeLine ∧ Q (.rol (xs ++ ys)) M
def catM (xs ys : List D) (M : Mp) (Q : VK3) : Prop := xs.length + ys.length ≤ sizeLine ∧ ∀ p, M p = none → Q (.ref p) (mset M p (.lst (xs ++ ys)))
/-- + whose list is data -/
def oAddF : R23 := fun d e M Q => match d with
  | .int _ => oAdd d e M Q
  | .str _ => oAdd d e M Q
  | .tup _ => oAdd d e M Q
  | d => asL (lstI M d) fun xs => asL (lstI M e) fun ys => catL xs ys M Q
/-- + whose list may be written -/
def oAddM : R23 := fun d e M Q => asL (lstI M d) fun xs => asL (lstI M e) fun ys => catM xs ys M Q
theorem op3w {f : Value → Value → Sem Value} {r : R23} {d e : D} {x y : V} {H : Hp} {M : Mp} {Q : VK} {Q3 : VK3} (ho : OpR X f (lift2 X.K bs r)) (r1 : RD X.K H x d) (r2 : RD X.K H y e) (m : RM X.K bs H M) (q : r d e M Q3)
    (k : ∀ v H' z M', Ext M M' H H' → RM X.K bs H' M' → RD X.K H' v z → Q3 z M' → Q v H') : ∃ r2 : R2, OpR X f r2 ∧ r2 x y H Q := ⟨_, ho, d, e, M, Q3, r1, r2, m, q, k⟩
theorem o_addF : OpR X (binaryOp .Add) (lift2 X.K bs oAddF) := op3 fun d e x y H M Q Q3 r1 r2 m q k => by
  have li : (asL (lstI M d) fun xs => asL (lstI M e) fun ys => catL xs ys M Q3) → ∃ r2 : R2, OpR X (binaryOp .Add) r2 ∧ r2 x y H Q := fun q => by
    unfold asL at q
    split at q
    · rename_i xs hx
      split at q
      · rename_i ys hy
        obtain ⟨a, vs, rfl, hv, l1⟩ := lst_of m.m r1 hx
        obtain ⟨b, ws, rfl, hw, l2⟩ := lst_of m.m r2 hy
        refine ⟨_, OpR_frz op_catV, a, b, vs, ws, rfl, rfl, hv, hw, by rw [l1.length, l2.length]; exact q.1, fun p hp => ?_⟩
        exact fq_new m hp (l1.app l2) fun H' x2 m2 r3 => k _ H' _ M x2 m2 r3 q.2
      · exact False.elim q
    · exact False.elim q
  cases d with
  | int _ => exact op3w o_add r1 r2 m q k
  | str _ => exact op3w o_add r1 r2 m q k
  | tup _ => exact op3w o_add r1 r2 m q k
  | _ => exact li q
def rRepV (K : PySem.W.Frag) : R2 := fun x y H Q => ∃ l k xs, x = .ref l ∧ y = .int k ∧ LstV K H l xs ∧ -(2 ^ 63) ≤ k ∧ k < 2 ^ 63 ∧ xs.length * k.toNat ≤ sizeLine ∧
  ∀ p, H p = none → Q (.ref p) (upd H p (.lst (List.replicate k.toNat xs).flatten))
theorem op_repV : OpR X (binaryOp .Mult) (rRepV X.K) := by
  intro pins s σ H x y v u Q I rx ry h
  obtain ⟨l, k, xs, rfl, rfl, hH, h1, h2, hz, q⟩ := h
  cases rx
  obtain ⟨t, rfl⟩ := ry
  obtain ⟨z, its, n, r, hl, e⟩ := inv_lstV I hH
  have hlen : its.toArray.size * k.toNat ≤ sizeLine := by rw [List.size_toArray, ← hl]; exact hz
  have hcap : ¬ its.toArray.size * k.toNat > (2 ^ 63 - 1) / 8 := by
    have : (sizeLine : Nat) ≤ (2 ^ 63 - 1) / 8 := by decide
    omega
  have hfit : ¬ (!Builtin.List.listFitsIndex k) = true := by
    rw [fitsIndex_both h1 h2]
    exact Bool.false_ne_true
  have hlong : ¬ Builtin.List.listTooLong (its.toArray.size * k.toNat) = true := by
    rw [notLongL hlen]
    exact Bool.false_ne_true
  have hnew : List.foldl (fun x1 x2 => x1 ++ x2) #[] (List.replicate (if its.toArray.isEmpty = true then 0 else k.toNat) its.toArray) = (List.replicate k.toNat its).flatten.toArray := by
    have f0 : ∀ m : Nat, List.foldl (fun x1 x2 => x1 ++ x2) #[] (List.replicate m its.toArray) = (List.replicate m its).flatten.toArray := fun m => by
      have := foldl_rep its m []
      rw [List.nil_append] at this
      exact this
    rw [f0]
    cases its with
    | nil => simp
    | cons a r' => rw [if_neg (by simp)]
  refine wpAny_binaryOp_repeat_ref (T := "list") (U := "int") (by decide) ⟨_, e, rfl⟩ (fun s' => typeIs_int s' k t) noFill_list_mul F.fills_int_mul F.slot_int_rmul repeat_list F.slot_int_index.lookup
    (call_meets F.slot_int_rmul (typeIs_int s k t) F.entry_int_rmul (F.args_int_rmul_2 _ _) (int___rmul___int_list k t l its.toArray n)
      ⟨e, rfl, ⟨_, e, rfl⟩, call_meets F.slot_list_mul ⟨_, e, rfl⟩ F.entry_list_mul (F.args_list_mul_2 _ _) (AutoListH.list___mul___list_int_3 l its.toArray n k t hfit hcap hlong) ⟨e, ?_⟩⟩)
  rw [hnew]
  exact ⟨.ref _, _, I.lnew (t' := s.toks) (r.rep k.toNat) (by rw [PyProof.Rows.lm_len_rep_flat, Nat.mul_comm]; exact hz), rfl, q _ I.fresh⟩
/-- * whose list is data -/
def repL (xs : List D) (e : D) (M : Mp) (Q : VK3) : Prop := asI e fun k => -(2 ^ 63) ≤ k ∧ k < 2 ^ 63 ∧ xs.length * k.toNat ≤ sizeLine ∧ Q (.rol (List.replicate k.toNat xs).flatten) M
def oMulF : R23 := fun d e M Q => match d with
  | .int _ => oMul d e M Q
  | d => asL (lstI M d) fun xs => repL xs e M Q
theorem o_mulF : OpR X (binaryOp .Mult) (lift2 X.K bs oMulF) := op3 fun d e x y H M Q Q3 r1 r2 m q k => by
  have li : (asL (lstI M d) fun xs => repL xs e M Q3) → ∃ r2 : R2, OpR X (binaryOp .Mult) r2 ∧ r2 x y H Q := fun q => by
    unfold asL at q
    split at q
    · rename_i xs hx
      cases e with
      | int n =>
        cases r2
        obtain ⟨a, vs, rfl, hv, l1⟩ := lst_of m.m r1 hx
        obtain ⟨q1, q2, q3, q4⟩ := q
        refine ⟨_, OpR_frz op_repV, a, n, vs, rfl, rfl, hv, q1, q2, by rw [l1.length]; exact q3, fun p hp => ?_⟩
        exact fq_new m hp (l1.rep n.toNat) fun H' x2 m2 r3 => k _ H' _ M x2 m2 r3 q4
      | _ => exact False.elim q
    · exact False.elim q
  cases d with
  | int _ => exact op3w o_mul r1 r2 m q k
  | _ => exact li q
def oSlF : D → Option Int → Option Int → Mp → VK3 → Prop := fun d lo hi M Q => match d with
  | .tup ds => Q (.tup (cutD ds lo hi)) M
  | d => asL (lstI M d) fun ds => Q (.rol (cutD ds lo hi)) M
def oSlM : D → Option Int → Option Int → Mp → VK3 → Prop := fun d lo hi M Q => asL (lstI M d) fun ds => ∀ p, M p = none → Q (.ref p) (mset M p (.lst (cutD ds lo hi)))
theorem s_slF : SlR X (fun x lo hi H Q => ∃ d M Q3, RD X.K H x d ∧ RM X.K bs H M ∧ oSlF d lo hi M Q3 ∧ ∀ v H' z M', Ext M M' H H' → RM X.K bs H' M' → RD X.K H' v z → Q3 z M' → Q v H') := by
  rintro pins s σ H x v vl vu lo hi sl Q I rx hs pl pu ⟨d, M, Q3, r, m, q, k⟩
  have li : (asL (lstI M d) fun ds => Q3 (.rol (cutD ds lo hi)) M) → ∃ T id, typeLookup (.type T) "__getitem__" = pure (some (.builtin id)) ∧ s.TypeIs v T ∧ wpAny (model X.prog X.w) X.A (getItem v (.ref sl)) (EP X pins σ Q) X.xe s := fun q => by
    unfold asL at q
    split at q
    · rename_i ds hd
      obtain ⟨a, vs, rfl, hv, l⟩ := lst_of m.m r hd
      obtain ⟨T, id, w1, w2, w3⟩ := sl_list pins s σ H _ v vl vu lo hi sl (FQ Q) I rx hs pl pu ⟨_, _, rfl, hv.sq, fun p hp => fq_new m hp (cut_rel l lo hi) fun H' x2 m2 r2 => k _ H' _ M x2 m2 r2 q⟩
      exact ⟨T, id, w1, w2, thn w3 fun _ _ => ep_frz⟩
    · exact False.elim q
  cases d with
  | tup ds => exact s_sl pins s σ H x v vl vu lo hi sl Q I rx hs pl pu ⟨_, M, Q3, r, m, q, k⟩
  | _ => exact li q
abbrev PT3o := St3 → Mp → (Option Int → Mp → Prop) → Prop
def wSlF (te : TE3) (tl th : PT3o) : TE3 := fun τ M Q => te τ M fun d M1 => tl τ M1 fun lo M2 => th τ M2 fun hi M3 => oSlF d lo hi M3 Q
def wSlM (te : TE3) (tl th : PT3o) : TE3 := fun τ M Q => te τ M fun d M1 => tl τ M1 fun lo M2 => th τ M2 fun hi M3 => oSlM d lo hi M3 Q
theorem e_sliceF {e : Expr} {lo hi : Option Expr} {te : TE3} {tl th : PT3o} {pos p2 : Pos} (he : PE3 bs X e te) (hl : PO3 bs X lo tl) (hh : PO3 bs X hi th) : PE3 bs X (.Subscript e (.Slice lo hi none p2) pos) (wSlF te tl th) := by
  refine PE.weak (pe_slice (s_slF (bs := bs)) he hl hh) ?_
  rintro σ H Q ⟨τ, M, Q3, e, m, q, k⟩
  refine ⟨τ, M, _, e, m, q, fun v H1 d M1 x1 m1 r1 q1 => ⟨τ, M1, _, e.go (x1.still m), m1, q1, fun lo H2 M2 x2 m2 q2 => ⟨τ, M2, _, (e.go (x1.still m)).go (x2.still m1), m2, q2, fun hi H3 M3 x3 m3 q3 => ?_⟩⟩⟩
  exact ⟨d, M3, Q3, (r1.go (x2.still m1)).go (x3.still m2), m3, q3, fun v H' z M' x4 m4 r4 q4 => k v H' z M' (x1.trans (x2.trans (x3.trans x4))) m4 r4 q4⟩
def bListF : List D → Mp → VK3 → Prop := b1 fun d M Q => asL (items M d) fun ds => Q (.rol ds) M
def asT (o : Option (List Bool)) (k : List Bool → Prop) : Prop := match o with
  | some l => k l
  | none => False
def bAllF : List D → Mp → VK3 → Prop := b1 fun d M Q => asL (lstI M d) fun ds => asT (bls ds) fun l => Q (.bl (l.all id)) M
def bAnyF : List D → Mp → VK3 → Prop := b1 fun d M Q => asL (lstI M d) fun ds => asT (bls ds) fun l => Q (.bl (l.any id)) M
theorem c_allF (hc : X.calm = true) : CallR X (.builtin "all") (liftV X.K bs bAllF) := call1 fun d x H M Q Q3 r m q k => by
  unfold asL at q
  split at q
  · rename_i ds hd
    unfold asT at q
    split at q
    · rename_i l hl
      obtain ⟨a, vs, rfl, hv, rs⟩ := lst_of m.m r hd
      have e := bls_of hl rs
      subst e
      exact ⟨_, cr_all hc, a, l, rfl, hv.sq, k _ _ _ M .refl m (.bl _) q⟩
    · exact False.elim q
  · exact False.elim q
theorem c_anyF (hc : X.calm = true) : CallR X (.builtin "any") (liftV X.K bs bAnyF) := call1 fun d x H M Q Q3 r m q k => by
  unfold asL at q
  split at q
  · rename_i ds hd
    unfold asT at q
    split at q
    · rename_i l hl
      obtain ⟨a, vs, rfl, hv, rs⟩ := lst_of m.m r hd
      have e := bls_of hl rs
      subst e
      exact ⟨_, cr_any hc, a, l, rfl, hv.sq, k _ _ _ M .refl m (.bl _) q⟩
    · exact False.elim q
  · exact False.elim q
def asJ (o : Option (List Int)) (k : List Int → Prop) : Prop := match o with
  | some l => k l
  | none => False
def rExtendV (K : PySem.W.Frag) : V → List V → Hp → VK → Prop := fun x vs H Q => ∃ l b xs zs, x = .ref l ∧ vs = [.ref b] ∧ H l = some (.lst xs) ∧ LstV K H b zs ∧ xs.length + zs.length ≤ sizeLine ∧ Q .non (upd H l (.lst (xs ++ zs)))
theorem mt_extendV : MtR X "list.extend" (rExtendV X.K) := by
  intro pins s σ H x vs v us Q I rx rv h
  obtain ⟨l, b, xs, zs, rfl, rfl, hH, hB, hz, q⟩ := h
  cases rx
  obtain ⟨u, rfl, ru⟩ := rv.one
  cases ru
  obtain ⟨z, its, n, r, hl, e⟩ := I.lstM hH
  obtain ⟨z2, its2, n2, r2, hl2, e2⟩ := inv_lstV I hB
  have hsz : its.toArray.size + its2.toArray.size ≤ sizeLine := by rw [List.size_toArray, List.size_toArray]; omega
  have hlong : ¬ (!its.toArray.isEmpty && Builtin.List.listTooLong (its.toArray.size + its2.toArray.size)) = true := by
    rw [notLongL hsz, Bool.and_false]
    exact Bool.false_ne_true
  refine call_meets F.slot_list_extend ⟨_, e, rfl⟩ F.entry_list_extend (F.args_list_extend_2 _ _)
    (AutoSeq1.list_extend_list_list_0 l its.toArray n b its2.toArray n2 hlong (by rw [List.size_toArray]; omega) (by omega)) ⟨e, e2, ?_⟩
  refine ⟨.non, _, I.lset (its' := its ++ its2) hH e (by simp) (r.append r2) ?_, rfl, q⟩
  rw [List.length_append]
  omega
def oExtF : M23 := fun d ds M Q => match d, ds with
  | .ref a, [e] => asL (lstOf (M a)) fun xs => asL (lstI M e) fun ys => xs.length + ys.length ≤ sizeLine ∧ Q .non (mset M a (.lst (xs ++ ys)))
  | _, _ => False
theorem m_extF : MtR X "list.extend" (liftM X.K bs oExtF) := by
  rintro pins s σ H x xs v us Q I r1 r2 ⟨d, ds, M, Q3, rd, rs, m, q, k⟩
  unfold oExtF at q
  split at q
  · rename_i a b
    cases rd
    unfold asL at q
    split at q
    · rename_i zs hz
      split at q
      · rename_i ys hy
        have ha := lstOf_some hz
        obtain ⟨vs, hv, l⟩ := m.at ha
        cases rs with
        | cons ry rn =>
          cases rn
          obtain ⟨b, ws, rfl, hw, l2⟩ := lst_of m.m ry hy
          refine mt_extendV pins s σ H _ _ v us Q I r1 r2 ⟨a, b, vs, ws, rfl, rfl, hv, hw, by rw [l.length, l2.length]; exact q.1, ?_⟩
          obtain ⟨x2, m2⟩ := m.putL ha (l.app l2)
          exact k _ _ _ _ x2 m2 .non q.2
      · exact False.elim q
    · exact False.elim q
  · exact False.elim q
theorem e_extendF {o e : Expr} {to te : TE3} {apos cpos : Pos} (ho : PE3 bs X o to) (he : PE3 bs X e te) (hs1 : starEach [e] X.env = (false, eval e X.env) :: starEach [] X.env := by rfl)
    (hbase : attributeBase o "extend" X.env (eval o X.env) = eval o X.env := by rfl)
    (hfew : ((backTo cpos (starEach (e :: []) X.env)).all (fun x => !x.1) && (backToKw cpos (keywordEach [] X.env)).all (fun x => x.1.isSome)
      && decide ((e :: []).length + ([] : List Keyword).length + (if ([] : List Keyword).isEmpty then 0 else 1) < 30)) = true := by rfl)
    (hline : (apos.endLine == cpos.line) = true := by rfl) :
    PE3 bs X (.Call (.Attribute o "extend" apos) [e] [] cpos) (wBM oExtF to (wCons te wNil)) :=
  e_bm PySem.F.plainAttrs_list PySem.F.slot_list_extend PySem.F.type_list_extend m_extF ho (a_cons he a_nil hs1) hbase hfew hline hs1 rfl
end
end L3
set_option Elab.async false
set_option linter.all false
set_option maxRecDepth 100000
set_option maxHeartbeats 4000000
namespace L3
open PySem PySem.Spec PyProof.Rows L2
end L3
set_option Elab.async false
set_option linter.all false
set_option maxRecDepth 100000
set_option maxHeartbeats 4000000
namespace L3
open PySem PySem.Spec PyProof.Rows L2
end L3
set_option Elab.async false
set_option linter.all false
set_option maxRecDepth 100000
set_option maxHeartbeats 4000000
namespace L3
open PySem PySem.Spec PyProof.Rows L2 HT
end L3
set_option Elab.async false
set_option linter.all false
set_option maxRecDepth 100000
set_option maxHeartbeats 4000000
namespace L3
open PySem PySem.Spec PyProof.Rows L2
end L3
set_option Elab.async false
set_option linter.all false
set_option maxRecDepth 100000
set_option maxHeartbeats 4000000
namespace L3
open PySem PySem.Spec PyProof.Rows L2
variable {bs : BS} {X : Cx}
def tyM : Option MO → Option String
  | some (.lst _) => some "list"
  | some (.dK _) => some "dict"
  | some (.dT _) => some "dict"
  | _ => none
def tyN (M : Mp) : D → Option String
  | .non => some "NoneType"
  | .bl _ => some "bool"
  | .int _ => some "int"
  | .str _ => some "str"
  | .tup _ => some "tuple"
  | .rol _ => some "list"
  | .ref a => tyM (M a)
  | .ty _ => none
theorem tyx_of {K : PySem.W.Frag} {H : Hp} {M : Mp} {v : V} {d : D} {n : String} (m : RM0 K H M) (r : RD K H v d) (h : tyN M d = some n) : TyX K H v (.type n) := by
  cases d with
  | non => cases r; cases h; exact .base .non
  | bl b => cases r; cases h; exact .base (.bl b)
  | int i => cases r; cases h; exact .base (.int i)
  | str x => cases r; cases h; exact .base (.str x)
  | tup ds =>
    cases r with
    | tup h1 h2 =>
      cases h
      rcases h1 with (e | ⟨o, e⟩) | ⟨o, its, n, e, c, _⟩
      · exact .base (.tup e)
      · exact .fTuple e
      · exact .kTuple e c
  | rol ds =>
    cases r with
    | rol h1 h2 =>
      cases h
      rcases h1 with ⟨o, e⟩ | ⟨its, n, e, _⟩
      · exact .base (.frz e)
      · exact .kList e rfl
  | ref a =>
    cases r
    have h : tyM (M a) = some n := h
    cases q : M a with
    | none => rw [q] at h; cases h
    | some o =>
      rw [q] at h
      have ro := m a o q
      cases o with
      | lst ds => cases h; obtain ⟨vs, e, _⟩ := ro; exact .base (.lst e)
      | dK ds => cases h; obtain ⟨vs, e, _⟩ := ro; exact .base (.dK e)
      | dT ds => cases h; obtain ⟨vs, e, _⟩ := ro; exact .base (.dT e)
      | dL o ks ds => cases h
      | dM o ks ds => cases h
      | ins C fs => cases h
  | ty n => cases h
def asStr (o : Option String) (k : String → Prop) : Prop := match o with
  | some n => k n
  | none => False
theorem asStr_some {n : String} {k : String → Prop} : asStr (some n) k = k n := rfl
end L3
set_option Elab.async false
set_option linter.all false
set_option maxRecDepth 100000
set_option maxHeartbeats 4000000
namespace L3
open PySem PySem.Spec PyProof.Rows L2
end L3
set_option Elab.async false
set_option linter.all false
set_option maxRecDepth 100000
set_option maxHeartbeats 4000000
namespace L3
open PySem PySem.Spec PyProof.Rows L2
end L3
set_option Elab.async false
set_option linter.all false
set_option maxRecDepth 100000
set_option maxHeartbeats 4000000
namespace L3
open PySem PySem.Spec PyProof.Rows L2
section
variable {bs : BS} {X : Cx}
theorem RDs.dropLast {K : PySem.W.Frag} {H : Hp} : ∀ {vs : List V} {ds : List D}, RDs K H vs ds → RDs K H vs.dropLast ds.dropLast
  | _, _, .nil => .nil
  | _, _, .cons _ .nil => .nil
  | _, _, .cons r (.cons q t) => .cons r (RDs.dropLast (.cons q t))
def oPop : M23 := fun d ds M Q => match d, ds with
  | .ref a, [] => match M a with
    | some (.lst xs) => asS xs[xs.length - 1]? fun y => Q y (mset M a (.lst xs.dropLast))
    | _ => False
  | _, _ => False
theorem m_pop : MtR X "list.pop" (liftM X.K bs oPop) := by
  rintro pins s σ H x xs v us Q I r1 r2 ⟨d, ds, M, Q3, rd, rs, m, q, k⟩
  unfold oPop at q
  split at q
  · rename_i a
    cases rd
    split at q
    · rename_i zs ha
      obtain ⟨vs, hv, l⟩ := m.at ha
      cases rs
      cases hy : zs[zs.length - 1]? with
      | none => rw [hy] at q; exact False.elim q
      | some y =>
        rw [hy] at q
        obtain ⟨w, hw, rw'⟩ := l.get hy
        refine mt_pop pins s σ H _ _ v us Q I r1 r2 ⟨a, vs, w, rfl, rfl, hv, by rw [l.length]; exact hw, ?_⟩
        obtain ⟨x2, m2⟩ := m.putL ha (RDs.dropLast l)
        exact k _ _ _ _ x2 m2 (rw'.go (x2.still m)) q
    · exact False.elim q
  · exact False.elim q
/-- a method of a list without arguments -/
def wBM0 (r : M23) (to : TE3) : TE3 := fun τ M Q => to τ M fun d M1 => (match d with | .ref a => ∃ ds, M1 a = some (.lst ds) | _ => False) ∧ r d [] M1 Q
theorem e_bm0 {o : Expr} {to : TE3} {name : Str} {apos cpos : Pos} {id : String} {r : M23} (pa : PlainAttrs "list") (slot : Slot "list" name id) (hty : typeOf (.builtin id) = pure (.type "method_descriptor")) (hm : MtR X id (liftM X.K bs r))
    (ho : PE3 bs X o to) (hbase : attributeBase o name X.env (eval o X.env) = eval o X.env := by rfl) (hline : (apos.endLine == cpos.line) = true := by rfl) :
    PE3 bs X (.Call (.Attribute o name apos) [] [] cpos) (wBM0 r to) := by
  refine PE.weak (pe_bm0 pa slot hty hm ho hbase hline) ?_
  rintro σ H Q ⟨τ, M, Q3, e, m, q, k⟩
  refine ⟨τ, M, _, e, m, q, fun v H1 d M1 x1 m1 r1 q1 => ?_⟩
  cases d with
  | ref a =>
    cases r1
    obtain ⟨⟨ds, ha⟩, q1⟩ := q1
    obtain ⟨vs, hv, l⟩ := m1.at ha
    refine ⟨.inl ⟨rfl, vs, SqL.of hv⟩, .ref a, [], M1, Q3, .ref a, .nil, m1, q1, fun v H' z M' x3 m3 r3 q3 => k v H' z M' (x1.trans x3) m3 r3 q3⟩
  | _ => exact False.elim q1.1
theorem e_pop {o : Expr} {to : TE3} {apos cpos : Pos} (ho : PE3 bs X o to) (hbase : attributeBase o "pop" X.env (eval o X.env) = eval o X.env := by rfl) (hline : (apos.endLine == cpos.line) = true := by rfl) :
    PE3 bs X (.Call (.Attribute o "pop" apos) [] [] cpos) (wBM0 oPop to) := e_bm0 PySem.F.plainAttrs_list PySem.F.slot_list_pop PySem.F.type_list_pop m_pop ho hbase hline
theorem op_pop {a : Addr} {xs : List D} {y : D} {M : Mp} {Q : VK3} (hM : M a = some (.lst (xs ++ [y]))) (q : Q y (mset M a (.lst xs))) : oPop (.ref a) [] M Q := by
  unfold oPop
  simp only [hM]
  have e1 : (xs ++ [y])[(xs ++ [y]).length - 1]? = some y := by simp
  rw [e1, List.dropLast_concat]
  exact q
theorem ex_bm0 {r : M23} {to : TE3} {τ : St3} {M : Mp} {Q : VK3} : wBM0 r to τ M Q = to τ M fun d M1 => (match d with | .ref a => ∃ ds, M1 a = some (.lst ds) | _ => False) ∧ r d [] M1 Q := rfl
end
end L3
set_option Elab.async false
set_option linter.all false
set_option maxRecDepth 100000
set_option maxHeartbeats 4000000
namespace L3
open PySem PySem.Spec PyProof.Rows L2
/-- what is raised here, and wished for -/
def TakesS (bs : BS) (X : Cx) (W3 : St3 → XK3) : Prop := ∃ W : WX, Takes X W ∧ ∀ n c a σ τ H' fs M', RE X.K H' σ τ → RM0 X.K H' M' → bs.ok M' H' → RX X.K H' n c a fs → W3 τ n fs M' → W c a σ H'
theorem takesXE {bs : BS} {P : Program} {w : World} {K : PySem.W.Frag} {mg : Str → Option Value} {base : Heap} {N : List Str} {qual : Str} {scope : Scope} {f : Addr} {cd : Value} {A : Around} {outer : List Env} {s : Shared} {H : Hp} {E : XK} {E3 : XK3}
    (h : ∀ n c a H' fs M', RM0 K H' M' → bs.ok M' H' → RX K H' n c a fs → E3 n fs M' → E c a H') : TakesS bs (cxOf (L2.CX P w) P w K mg base N qual scope f cd A outer s H E) (fun _ => E3) :=
  ⟨fun c a _ H' => E c a H', takes_of rfl rfl rfl rfl, fun n c a σ τ H' fs M' _ m b r e => h n c a H' fs M' m b r e⟩
theorem RM0.noXd {K : PySem.W.Frag} {M : Mp} {H : Hp} {a : Addr} {gs : List (Str × V)} (m : RM0 K H M) (h : H a = some (.xd gs)) : M a = none := by
  cases q : M a with
  | none => rfl
  | some o =>
    have r := m a o q
    cases o with
    | lst ds => obtain ⟨_, e, _⟩ := r; rw [h] at e; cases e
    | dK ds => obtain ⟨_, e, _⟩ := r; rw [h] at e; cases e
    | dT ds => obtain ⟨_, e, _⟩ := r; rw [h] at e; cases e
    | dL o ks ds => obtain ⟨e, _⟩ := r; rw [h] at e; cases e
    | dM o ks ds => obtain ⟨e, _⟩ := r; rw [h] at e; cases e
    | ins C ds => obtain ⟨_, _, _, _, e, _⟩ := r; rw [h] at e; cases e
theorem RX.go {K : PySem.W.Frag} {M M' : Mp} {H H' : Hp} {n : Str} {c : Value} {d : Option Addr} {fs : List (Str × D)} (r : RX K H n c d fs) (m : RM0 K H M) (x : Ext M M' H H') : RX K H' n c d fs := by
  refine ⟨r.1, ?_⟩
  have r := r.2
  cases d with
  | none => exact r
  | some a =>
    obtain ⟨gs, e, q⟩ := r
    exact ⟨gs, x.fr a _ e (m.noXd e), RKv.go (x.still0 m) q⟩
end L3
set_option Elab.async false
set_option linter.all false
set_option maxRecDepth 100000
set_option maxHeartbeats 4000000
namespace L3
open PySem PySem.Spec PyProof.Rows L2
theorem rkv_lookup {K : PySem.W.Frag} {H : Hp} {f : Str} {d : D} : ∀ {gs : List (Str × V)} {xs : List (Str × D)}, RKv K H gs xs → xs.lookup f = some d → ∃ v, gs.lookup f = some v ∧ RD K H v d
  | [], [], _, h => nomatch h
  | [], _ :: _, r, _ => r.elim
  | _ :: _, [], r, _ => r.elim
  | (k, v) :: gs, (j, e) :: xs, r, h => by
    obtain ⟨e1, e2, e3⟩ := r
    subst e1
    rw [L2.lookup_put]
    have h' : (if f = k then some e else xs.lookup f) = some d := by
      rw [← h]
      by_cases z : f = k
      · subst z; simp [List.lookup]
      · have y : (f == k) = false := by simpa using z
        rw [if_neg z]; simp [List.lookup, y]
    by_cases z : f = k
    · rw [if_pos z] at h' ⊢
      cases h'
      exact ⟨v, rfl, e2⟩
    · rw [if_neg z] at h' ⊢
      exact rkv_lookup e3 h'
end L3
set_option Elab.async false
set_option linter.all false
set_option maxRecDepth 100000
set_option maxHeartbeats 4000000
namespace L3
open PySem PySem.Spec PyProof.Rows L2
theorem Cl.uniq {K : PySem.W.Frag} {n : Str} {c c' : Value} (h : Cl K n c) (h' : Cl K n c') : c = c' := by
  unfold Cl at h h'
  exact Option.some.inj (Option.some.inj (h.symm.trans h'))
/-- the program's name n is an own class whose instances have fields -/
def CF (K : PySem.W.Frag) (n : Str) : Prop := ∃ C, Cl K n (.ref C) ∧ L2.Cls K C
/-- the class has no such name itself -/
def NA (K : PySem.W.Frag) (n f : Str) : Prop := ∀ C, Cl K n (.ref C) → L2.NoAttr K C f
def asIn (n : Str) (M : Mp) (d : D) (k : Addr → List (Str × D) → Prop) : Prop := match d with
  | .ref a => match M a with
    | some (.ins n' fs) => n' = n ∧ k a fs
    | _ => False
  | _ => False
theorem asIn_at {n : Str} {M : Mp} {a : Addr} {fs : List (Str × D)} {k : Addr → List (Str × D) → Prop} (h : M a = some (.ins n fs)) (q : k a fs) : asIn n M (.ref a) k := by
  unfold asIn; dsimp only; rw [h]; exact ⟨rfl, q⟩
def putS (f : Str) (v : D) : List (Str × D) → List (Str × D)
  | [] => [(f, v)]
  | (g, w) :: r => if g = f then (g, v) :: r else (g, w) :: putS f v r
theorem rkv_none {K : PySem.W.Frag} {H : Hp} {f : Str} : ∀ {gs : List (Str × V)} {xs : List (Str × D)}, RKv K H gs xs → xs.lookup f = none → gs.lookup f = none
  | [], [], _, _ => rfl
  | [], _ :: _, r, _ => r.elim
  | _ :: _, [], r, _ => r.elim
  | (k, v) :: gs, (j, e) :: xs, r, h => by
    obtain ⟨e1, e2, e3⟩ := r
    subst e1
    by_cases z : f = k
    · subst z; simp [List.lookup] at h
    · have y : (f == k) = false := by simpa using z
      simp only [List.lookup, y] at h ⊢
      exact rkv_none e3 h
theorem rkv_putS {K : PySem.W.Frag} {H : Hp} {f : Str} {v : V} {d : D} (rv : RD K H v d) : ∀ {gs : List (Str × V)} {xs : List (Str × D)}, RKv K H gs xs → RKv K H (putF f v gs) (putS f d xs)
  | [], [], _ => ⟨rfl, rv, True.intro⟩
  | [], _ :: _, r => r.elim
  | _ :: _, [], r => r.elim
  | (k, w) :: gs, (j, e) :: xs, r => by
    obtain ⟨e1, e2, e3⟩ := r
    subst e1
    show RKv K H (if k = f then (k, v) :: gs else (k, w) :: putF f v gs) (if k = f then (k, d) :: xs else (k, e) :: putS f d xs)
    by_cases z : k = f
    · rw [if_pos z, if_pos z]; exact ⟨rfl, rv, e3⟩
    · rw [if_neg z, if_neg z]; exact ⟨rfl, e2, rkv_putS rv e3⟩
theorem rkv_lenS {K : PySem.W.Frag} {H : Hp} : ∀ {gs : List (Str × V)} {xs : List (Str × D)}, RKv K H gs xs → gs.length = xs.length
  | [], [], _ => rfl
  | [], _ :: _, r => r.elim
  | _ :: _, [], r => r.elim
  | _ :: _, _ :: _, r => by rw [List.length_cons, List.length_cons, rkv_lenS r.2.2]
theorem asIn_of {K : PySem.W.Frag} {bs : BS} {H : Hp} {M : Mp} {n : Str} {d : D} {v : V} {k : Addr → List (Str × D) → Prop} (m : RM K bs H M) (r : RD K H v d) (q : asIn n M d k) :
    ∃ a fs C dx gs, d = .ref a ∧ v = .ref a ∧ M a = some (.ins n fs) ∧ Cl K n (.ref C) ∧ H a = some (.ins C dx gs) ∧ RKv K H gs fs ∧ k a fs := by
  unfold asIn at q
  split at q
  · rename_i a
    split at q
    · rename_i n' fs hM
      obtain ⟨rfl, q⟩ := q
      cases r
      obtain ⟨C, dx, gs, cl, hH, rk⟩ := m.at hM
      exact ⟨a, fs, C, dx, gs, rfl, rfl, hM, cl, hH, rk, q⟩
    · exact q.elim
  · exact q.elim
theorem CF.cls {K : PySem.W.Frag} {n : Str} {C : Addr} (h : CF K n) (cl : Cl K n (.ref C)) : L2.Cls K C := by
  obtain ⟨C', cl', c⟩ := h
  cases cl.uniq cl'
  exact c
section
variable {bs : BS} {X : Cx} {e o value : Expr} {te to tv : TE3} {n f m : Str} {pos pos' : Pos}
def wFld (n f : Str) (te : TE3) : TE3 := fun τ M Q => te τ M fun d M1 => asIn n M1 d fun _ fs => asS (fs.lookup f) fun v => Q v M1
theorem e_fld (cf : CF X.K n) (na : NA X.K n f) (he : PE3 bs X e te) (hb : attributeBase e f X.env (eval e X.env) = eval e X.env := by rfl) : PE3 bs X (.Attribute e f pos) (wFld n f te) := by
  refine PE.weak (pe_fld he hb) ?_
  rintro σ H Q ⟨τ, M, Q3, re, m, q, k⟩
  refine ⟨τ, M, _, re, m, q, fun v H1 d M1 x1 m1 r1 q1 => ?_⟩
  obtain ⟨a, fs, C, dx, gs, rfl, rfl, hM, cl, hH, rk, q2⟩ := asIn_of m1 r1 q1
  cases hl : fs.lookup f with
  | none => rw [hl] at q2; exact q2.elim
  | some d =>
    rw [hl] at q2
    obtain ⟨v, hv, rv⟩ := rkv_lookup rk hl
    exact ⟨a, C, dx, gs, v, rfl, hH, cf.cls cl, na C cl, hv, k v H1 d M1 x1 m1 rv q2⟩
def wFldSet (n f : Str) (to tv : TE3) : TS3 := fun D τ M => tv τ M fun y M1 => to τ M1 fun d M2 => asIn n M2 d fun a fs => fs.length < 1000 ∧ D.nx τ (mset M2 a (.ins n (putS f y fs)))
theorem s_fld (cf : CF X.K n) (na : NA X.K n f) (ho : PE3 bs X o to) (hv : PE3 bs X value tv) (hs : swapsWith value (some (.Attribute o f pos')) pos.line X.env = pure false := by rfl) : PS3 bs X (.Assign [.Attribute o f pos'] value pos) (wFldSet n f to tv) := by
  refine PS.weak (ps_fld ho hv hs) ?_
  rintro D σ H ⟨τ, M, D3, e, m, q, k, _⟩
  refine ⟨τ, M, _, e, m, q, fun y H1 yd M1 x1 m1 r1 q1 => ⟨τ, M1, _, e.go (x1.still m), m1, q1, fun x H2 d M2 x2 m2 r2 q2 => ?_⟩⟩
  obtain ⟨a, fs, C, dx, gs, rfl, rfl, hM, cl, hH, rk, hl, q3⟩ := asIn_of m2 r2 q2
  refine ⟨a, C, dx, gs, rfl, hH, cf.cls cl, na C cl, by rw [rkv_lenS rk]; exact hl, ?_⟩
  obtain ⟨x3, m3⟩ := m2.put (o := .ins C dx (putF f y gs)) (mo' := .ins n (putS f yd fs)) hM fun st => ⟨C, dx, _, cl, upd_same, rkv_putS ((r1.go (x2.still m1)).go st) (RKv.go st rk)⟩
  exact k σ τ _ _ (x1.trans (x2.trans x3)) (((e.go (x1.still m)).go (x2.still m1)).go (x3.still m2)) m3 q3
end
section
variable {bs : BS} {X : Cx} {CX : CXT} {k : Nat} {n m f : Str} {sp : Sp3} {E3 : XK3} {W3 : St3 → XK3} {e o fe : Expr} {es : List Expr} {te to tf : TE3} {t : TA3} {p pos apos : Pos}
def Meth3 (P : Program) (w : World) (K : PySem.W.Frag) (mg : Str → Option Value) (base : Heap) (CX : CXT) (k : Nat) (n m : Str) (sp : Sp3) : Prop :=
  ∃ C f fd ps, Cl K n (.ref C) ∧ L2.Cls K C ∧ L2.Meth K C m f ∧ Binds K fd ps [] ∧ FnG P w K mg base CX k f fd ps (liftSp K sp)
def wMeth (n m : Str) (sp : Sp3) (E : XK3) (to : TE3) (t : TA3) : TE3 := fun τ M Q => to τ M fun d M1 => asIn n M1 d fun a fs => fs.lookup m = none ∧ t τ M1 fun ds M2 => sp (.ref a :: ds) M2 Q E
theorem pe_mG {C fa : Addr} {fd : FuncData} {ps : List Str} {spv : Sp} {E : L2.St → XK} {ta : TE} {tt : TA} {pl : Sem Bool} (he : PE X o ta) (c : L2.Cls X.K C) (hm : L2.Meth X.K C m fa) (F : FnG X.prog X.w X.K X.mg X.base CX k fa fd ps spv) (hG : X.A.guards = some []) (hr : Room k X.A) (hb : Binds X.K fd ps [])
    (hx : ∀ σ, PassesAt CX X σ (E σ)) (ha : PA X (e :: es) tt)
    (hst : starEach (e :: es) X.env = (false, eval e X.env) :: starEach es X.env) (hpl : (backTo pos (starEach es X.env)).any (·.1) = false)
    (ht : eval (.Call (.Attribute o m apos) (e :: es) [] pos) X.env = (do
      let ov ← eval o X.env
      standAt apos.atName
      let (f, first) ← holding [ov] (getMethod ov m pl)
      callWith pos f first (backTo pos (starEach (e :: es) X.env)) (backToKw pos (keywordEach [] X.env)))) :
    PE X (.Call (.Attribute o m apos) (e :: es) [] pos) (fun σ H Q => ta σ H fun x H1 => ∃ a dx fs, x = .ref a ∧ H1 a = some (.ins C dx fs) ∧ fs.lookup m = none ∧ tt σ H1 fun vs H2 => spv (x :: vs) H2 Q (E σ)) := by
  refine ⟨fun pins s σ H Q I h => ?_⟩
  refine PySem.W.methodCall_KW (pl := pl) (thn (he.run pins s σ H _ I h) fun u s1 ⟨x, H1, I1, rx, a, dx, fs, ex, ea, l, q⟩ => ?_) ht
  subst ex
  obtain rfl : u = Value.ref a := rx
  refine getmeth_ok I1 ea c hm l ?_
  refine PySem.W.callWith_K (first := [.ref a]) (h₀ := X.base) I.ok.mod.kin hm.kp (thn (ha.run pos pins s1 σ H1 _ I1 q) fun us s2 ⟨vs, H2, I2, r, q2⟩ => ⟨I2.kIn, ?_⟩) hst hpl
  have r' : Vals (V.ref a :: vs) (Value.ref a :: us) := .cons rfl r
  have hl : (Value.ref a :: us).length = ps.length := by rw [← r'.length]; exact F.len _ _ _ _ q2
  have hb' := hb s2 (.ref a :: us) I2.kIn (by rw [List.append_nil]; exact hl)
  rw [List.append_nil] at hb'
  refine wpAny_call (codeAny_mono (F.run X.A X.stack s2 H2 ⟨.ref a :: us, []⟩ (.ref a :: us) (.ref a :: vs) Q (E σ) hG hr I2.env0 hb' r' q2) fun rr s' hq => ?_)
  cases rr with
  | error er => exact hx σ pins H2 s2 er s' I2 hq
  | ok fl =>
    cases fl with
    | ret u => exact I2.after hq
    | next => exact False.elim hq
    | brk => exact False.elim hq
    | cont => exact False.elim hq
theorem pe_mG0 {C fa : Addr} {fd : FuncData} {ps : List Str} {spv : Sp} {E : L2.St → XK} {ta : TE} {pl : Sem Bool} (he : PE X o ta) (c : L2.Cls X.K C) (hm : L2.Meth X.K C m fa) (F : FnG X.prog X.w X.K X.mg X.base CX k fa fd ps spv) (hG : X.A.guards = some []) (hr : Room k X.A) (hb : Binds X.K fd ps [])
    (hx : ∀ σ, PassesAt CX X σ (E σ))
    (ht : eval (.Call (.Attribute o m apos) [] [] pos) X.env = (do
      let ov ← eval o X.env
      standAt apos.atName
      let (f, first) ← holding [ov] (getMethod ov m pl)
      callWith pos f first (backTo pos (starEach [] X.env)) (backToKw pos (keywordEach [] X.env)))) :
    PE X (.Call (.Attribute o m apos) [] [] pos) (fun σ H Q => ta σ H fun x H1 => ∃ a dx fs, x = .ref a ∧ H1 a = some (.ins C dx fs) ∧ fs.lookup m = none ∧ spv [x] H1 Q (E σ)) := by
  refine ⟨fun pins s σ H Q I h => ?_⟩
  refine PySem.W.methodCall_KW (pl := pl) (thn (he.run pins s σ H _ I h) fun u s1 ⟨x, H1, I1, rx, a, dx, fs, ex, ea, l, q⟩ => ?_) ht
  subst ex
  obtain rfl : u = Value.ref a := rx
  refine getmeth_ok I1 ea c hm l ?_
  refine PySem.W.callWith_K0 (first := [.ref a]) I1.kIn hm.kp ?_
  have r' : Vals [V.ref a] [Value.ref a] := .cons rfl .nil
  have hl : [Value.ref a].length = ps.length := by rw [← r'.length]; exact F.len _ _ _ _ q
  have hb' := hb s1 [.ref a] I1.kIn (by rw [List.append_nil]; exact hl)
  rw [List.append_nil] at hb'
  refine wpAny_call (codeAny_mono (F.run X.A X.stack s1 H1 ⟨[.ref a], []⟩ [.ref a] [.ref a] Q (E σ) hG hr I1.env0 hb' r' q) fun rr s' hq => ?_)
  cases rr with
  | error er => exact hx σ pins H1 s1 er s' I1 hq
  | ok fl =>
    cases fl with
    | ret u => exact I1.after hq
    | next => exact False.elim hq
    | brk => exact False.elim hq
    | cont => exact False.elim hq
/-- a promise of values, from the layer's -/
theorem sp_go {K : PySem.W.Frag} {H : Hp} {M : Mp} {sp : Sp3} {E : XK} {E3 : XK3} {vs : List V} {ds : List D} {Q : VK} {Q3 : VK3} (r : RDs K H vs ds) (m : RM0 K H M) (q : sp ds M Q3 E3)
    (k : ∀ v H' d M', Ext M M' H H' → RM0 K H' M' → RD K H' v d → Q3 d M' → Q v H') (ke : ∀ n c a H' fs M', Ext M M' H H' → RM0 K H' M' → RX K H' n c a fs → E3 n fs M' → E c a H') : liftSp K sp vs H Q E :=
  ⟨ds, M, Q3, E3, r, m, q, k, ke⟩
theorem e_meth (F : Meth3 X.prog X.w X.K X.mg X.base CX k n m sp) (hG : X.A.guards = some []) (hr : Room k X.A) (hx : PassX bs CX X E3) (ho : PE3 bs X o to) (ha : PA3 bs X (e :: es) t) {pl : Sem Bool}
    (hst : starEach (e :: es) X.env = (false, eval e X.env) :: starEach es X.env := by rfl) (hpl : (backTo pos (starEach es X.env)).any (·.1) = false := by rfl)
    (ht : eval (.Call (.Attribute o m apos) (e :: es) [] pos) X.env = (do
      let ov ← eval o X.env
      standAt apos.atName
      let (f, first) ← holding [ov] (getMethod ov m pl)
      callWith pos f first (backTo pos (starEach (e :: es) X.env)) (backToKw pos (keywordEach [] X.env))) := by rfl) :
    PE3 bs X (.Call (.Attribute o m apos) (e :: es) [] pos) (wMeth n m sp E3 to t) := by
  obtain ⟨C, f, fd, ps, cl, c, hm, hb, F⟩ := F
  obtain ⟨E, hp, he3⟩ := hx
  refine PE.weak (pe_mG (E := fun _ => E) ho c hm F hG hr hb (fun σ pins H s e s' I z => hp pins σ H s e s' I z) ha hst hpl ht) ?_
  rintro σ H Q ⟨τ, M, Q3, e, m, q, kk⟩
  refine ⟨τ, M, _, e, m, q, fun v H1 d M1 x1 m1 r1 q1 => ?_⟩
  obtain ⟨a, fs, C', dx, gs, rfl, rfl, hM, cl', hH, rk, hl, q2⟩ := asIn_of m1 r1 q1
  cases cl.uniq cl'
  refine ⟨a, dx, gs, rfl, hH, rkv_none rk hl, τ, M1, _, e.go (x1.still m), m1, q2, fun vs H2 ds M2 x2 m2 r2 q3 => ?_⟩
  exact sp_go (.cons (.ref a) r2) m2.m q3 (fun v H' d M' x3 m3 r3 q4 => kk v H' d M' (x1.trans (x2.trans x3)) (m2.to x3 m3) r3 q4) fun n c a H' fs M' x3 m3 r3 q4 => he3 n c a H' fs M' m3 (bs.go m2.b x3) r3 q4
theorem e_meth0 (F : Meth3 X.prog X.w X.K X.mg X.base CX k n m sp) (hG : X.A.guards = some []) (hr : Room k X.A) (hx : PassX bs CX X E3) (ho : PE3 bs X o to) {pl : Sem Bool}
    (ht : eval (.Call (.Attribute o m apos) [] [] pos) X.env = (do
      let ov ← eval o X.env
      standAt apos.atName
      let (f, first) ← holding [ov] (getMethod ov m pl)
      callWith pos f first (backTo pos (starEach [] X.env)) (backToKw pos (keywordEach [] X.env))) := by rfl) :
    PE3 bs X (.Call (.Attribute o m apos) [] [] pos) (wMeth n m sp E3 to wNil) := by
  obtain ⟨C, f, fd, ps, cl, c, hm, hb, F⟩ := F
  obtain ⟨E, hp, he3⟩ := hx
  refine PE.weak (pe_mG0 (E := fun _ => E) ho c hm F hG hr hb (fun σ pins H s e s' I z => hp pins σ H s e s' I z) ht) ?_
  rintro σ H Q ⟨τ, M, Q3, e, m, q, kk⟩
  refine ⟨τ, M, _, e, m, q, fun v H1 d M1 x1 m1 r1 q1 => ?_⟩
  obtain ⟨a, fs, C', dx, gs, rfl, rfl, hM, cl', hH, rk, hl, q2⟩ := asIn_of m1 r1 q1
  cases cl.uniq cl'
  refine ⟨a, dx, gs, rfl, hH, rkv_none rk hl, ?_⟩
  have q2 : sp [.ref a] M1 Q3 E3 := q2
  exact sp_go (.cons (.ref a) .nil) m1.m q2 (fun v H' d M' x3 m3 r3 q4 => kk v H' d M' (x1.trans x3) (m1.to x3 m3) r3 q4) fun n c a H' fs M' x3 m3 r3 q4 => he3 n c a H' fs M' m3 (bs.go m1.b x3) r3 q4
end
section
variable {X : Cx} {k : Nat} {sp : Sp3}
theorem run_at {A' : Around} {E' : Value → Shared → Prop} {f : Addr} {fd : FuncData} {ps : List Str} {spv : Sp} {pins : List (Addr × Obj)} {σ : L2.St} {H : Hp} {s : Shared} {Q : VK} {us ds : List Value} {vs dvs : List V} (F : FnG X.prog X.w X.K X.mg X.base (L2.CX X.prog X.w) k f fd ps spv) (hG : A'.guards = some []) (hr : Room k A')
    (hb : Binds X.K fd ps ds) (hd : Vals dvs ds) (I : Inv X pins σ H s) (e0 : Env0 X.prog X.w X.K X.mg X.base A' X.stack s H) (r : Vals vs us) (h : spv (vs ++ dvs) H Q E0) : wpAny (model X.prog X.w) A' (call (.ref f) us) (EP X pins σ Q) E' s := by
  have r2 : Vals (vs ++ dvs) (us ++ ds) := r.append hd
  have hl : (us ++ ds).length = ps.length := by rw [← r2.length]; exact F.len _ _ _ _ h
  refine wpAny_call (codeAny_mono (F.run A' X.stack s H ⟨us, []⟩ (us ++ ds) (vs ++ dvs) Q E0 hG hr e0 (hb s us I.kIn hl) r2 h) fun rr s' hq => ?_)
  cases rr with
  | error er => exact (passL (X := X.nox) pins σ H s er s' (I.wish _) hq).elim
  | ok fl =>
    cases fl with
    | ret u => exact I.after hq
    | next => exact False.elim hq
    | brk => exact False.elim hq
    | cont => exact False.elim hq
/-- the layer's promise, run so -/
theorem sp_at {bs : BS} {H : Hp} {M : Mp} {vs : List V} {ds : List D} {Q : VK} {Q3 : VK3} (m : RM X.K bs H M) (r : RDs X.K H vs ds) (q : sp ds M Q3 X0)
    (k : ∀ v H' d M', Ext M M' H H' → RM X.K bs H' M' → RD X.K H' v d → Q3 d M' → Q v H') : liftSp X.K sp vs H Q E0 :=
  ⟨ds, M, Q3, X0, r, m.m, q, fun v H' d M' x2 m2 r2 q2 => k v H' d M' x2 (m.to x2 m2) r2 q2, fun _ _ _ _ _ _ _ _ _ z => z.elim⟩
end
section
variable {bs : BS} {X : Cx} {k : Nat} {n m f x : Str} {sp : Sp3} {e o fe : Expr} {es : List Expr} {te to tf ta : TE3} {t : TA3} {p pos apos : Pos}
def Prop3 (P : Program) (w : World) (K : PySem.W.Frag) (mg : Str → Option Value) (base : Heap) (k : Nat) (n f : Str) (sp : Sp3) : Prop :=
  ∃ C p g fd ps, Cl K n (.ref C) ∧ L2.Cls K C ∧ L2.PropOf K C f p g ∧ Binds K fd ps [] ∧ FnG P w K mg base (L2.CX P w) k g fd ps (liftSp K sp)
def wProp (n : Str) (sp : Sp3) (te : TE3) : TE3 := fun τ M Q => te τ M fun d M1 => asIn n M1 d fun a _ => sp [.ref a] M1 Q X0
theorem e_prop (F : Prop3 X.prog X.w X.K X.mg X.base k n f sp) (hG : X.A.guards = some []) (hr : Room (k + 1) X.A) (he : PE3 bs X e te) (hab : attributeBase e f X.env (eval e X.env) = eval e X.env := by rfl) : PE3 bs X (.Attribute e f pos) (wProp n sp te) := by
  obtain ⟨C, p, g, fd, ps, cl, c, hp, hb, F⟩ := F
  refine ⟨fun pins s σ H Q I h => ?_⟩
  obtain ⟨τ, M, Q3, re, rm, q, kk⟩ := h
  refine attr_of hab (thn (he.run pins s σ H (fun x H1 => ∃ d M1, Ext M M1 H H1 ∧ RM X.K bs H1 M1 ∧ RD X.K H1 x d ∧ asIn n M1 d fun a _ => sp [.ref a] M1 Q3 X0) I ⟨τ, M, _, re, rm, q, fun v H1 d M1 x1 m1 r1 q1 => ⟨d, M1, x1, m1, r1, q1⟩⟩) fun u s1 ⟨x, H1, I1, rx, d, M1, x1, m1, r1, q1⟩ => ?_)
  obtain ⟨a, fs, C', dx, gs, rfl, rfl, hM, cl', hH, rk, q2⟩ := asIn_of m1 r1 q1
  cases cl.uniq cl'
  obtain rfl : u = Value.ref a := rx
  obtain ⟨mA, O, _, _, _, _⟩ := ins_get I1.hok hH
  obtain ⟨od, J, _⟩ := O.look
  obtain ⟨rest, hrec⟩ := hp.rec_
  have hc : (PySem.W.clsIn X.K C).isSome = true := by
    obtain ⟨cd, hc, _⟩ := PySem.W.any_some c.hd
    rw [hc]
    rfl
  have I2 := I1.tok (s1.toks + 1)
  have run := run_at (E' := X.xe) (A' := X.A.in1) (us := [.ref a]) (vs := [.ref a]) F hG hr.in1 hb .nil I2 I2.env0.in1 (.cons rfl .nil)
    (sp_at (bs := bs) (Q := Q) m1 (.cons (.ref a) .nil) q2 fun v H' d M' x3 m3 r3 q4 => kk v H' d M' (x1.trans x3) m3 r3 q4)
  refine PySem.W.get_bind I1.kIn J (PySem.W.plainGet_of (c.get f)).1 (PySem.W.findObj_data hc hp.at_ hp.get hp.tak) (PySem.W.plainGet_of (c.get f)).2 (wpAny_call (PySem.W.prop_get (s := { s1 with toks := s1.toks + 1 }) I1.kIn hrec ?_))
  have hl : [Value.ref a].length = ps.length := F.len _ _ _ _ (show liftSp X.K sp [.ref a] H1 Q E0 from sp_at (bs := bs) (Q := Q) m1 (.cons (.ref a) .nil) q2 fun v H' d M' x3 m3 r3 q4 => kk v H' d M' (x1.trans x3) m3 r3 q4)
  have hb' := hb { s1 with toks := s1.toks + 1 } [.ref a] I2.kIn (by rw [List.append_nil]; exact hl)
  rw [List.append_nil] at hb'
  refine codeAny_mono (F.run X.A.in1 X.stack { s1 with toks := s1.toks + 1 } H1 ⟨[.ref a], []⟩ [.ref a] [.ref a] Q E0 hG hr.in1 I2.env0.in1 hb' (.cons rfl .nil) (sp_at (bs := bs) (Q := Q) m1 (.cons (.ref a) .nil) q2 fun v H' d M' x3 m3 r3 q4 => kk v H' d M' (x1.trans x3) m3 r3 q4)) fun r s' hq => ?_
  cases r with
  | error er => exact False.elim (passL (X := X.nox) pins σ H1 { s1 with toks := s1.toks + 1 } er s' (I2.wish _) hq)
  | ok fl =>
    cases fl with
    | ret u =>
      obtain ⟨v, H', I3, rv, q3⟩ := I2.after hq
      show wpAny _ _ (handedOut u) _ _ _
      rw [PySem.W.handedOut_of (handed_of rv)]
      exact wpAny_pure ⟨v, H', I3, rv, q3⟩
    | next => exact False.elim hq
    | brk => exact False.elim hq
    | cont => exact False.elim hq
theorem guards_make {A : Around} {args : Args} (h : A.guards = some []) : (A.under (.builtin "type.__call__" args)).guards = some [] := by
  have e : (Code.builtin "type.__call__" args).guards = [] := by first | rfl | simp [Code.guards, Code.isGuard, guardIds]
  unfold Around.under
  dsimp only
  rw [e, h]
  rfl
/-- n(..): dd the defaults that fill up -/
def Make3 (P : Program) (w : World) (K : PySem.W.Frag) (mg : Str → Option Value) (base : Heap) (k : Nat) (n : Str) (dd : List D) (sp : Sp3) : Prop :=
  ∃ C f fd ps dvs ds, Cl K n (.ref C) ∧ mg n = some (.ref C) ∧ L2.Mk K C f ∧ Binds K fd ps ds ∧ Vals dvs ds ∧ (∀ H, RDs K H dvs dd) ∧ FnG P w K mg base (L2.CX P w) k f fd ps (liftSp K sp)
def wMake (n : Str) (dd : List D) (sp : Sp3) (t : TA3) : TE3 := fun τ M Q => t τ M fun ds M1 => ∀ a, M1 a = none → sp (.ref a :: (ds ++ dd)) (mset M1 a (.ins n [])) (fun v M2 => v = .non ∧ Q (.ref a) M2) X0
theorem e_make {dd : List D} (F : Make3 X.prog X.w X.K X.mg X.base k n dd sp) (hG : X.A.guards = some []) (hr : Room (k + 1) X.A) (ha : PA3 bs X (e :: es) t) (hg : Gl X n := by rfl) (hdb : (n == ("__debug__" : Str)) = false := by decide)
    (he : starEach (e :: es) X.env = (false, eval e X.env) :: starEach es X.env := by rfl) (hpl : (backTo pos (starEach es X.env)).any (·.1) = false := by rfl) : PE3 bs X (.Call (.Name n p) (e :: es) [] pos) (wMake n dd sp t) := by
  obtain ⟨C, f, fd, ps, dvs, ds, cl, hm, mk, hb, hd, hdd, F⟩ := F
  refine ⟨fun pins s σ H Q I h => ?_⟩
  obtain ⟨τ, M, Q3, re, rm, q, kk⟩ := h
  refine wpAny_Call_Name_kw (ld_glob I hg hm ?_ hdb)
  refine PySem.W.callWith_K (h₀ := X.base) I.ok.mod.kin mk.kp (thn (ha.run pos pins s σ H (fun vs H1 => ∃ es M1, Ext M M1 H H1 ∧ RM X.K bs H1 M1 ∧ RDs X.K H1 vs es ∧ ∀ a, M1 a = none → sp (.ref a :: (es ++ dd)) (mset M1 a (.ins n [])) (fun v M2 => v = .non ∧ Q3 (.ref a) M2) X0) I
    ⟨τ, M, _, re, rm, q, fun vs H1 ds M1 x1 m1 r1 q1 => ⟨ds, M1, x1, m1, r1, q1⟩⟩) fun us s1 ⟨vs, H1, I1, r, ds', M1, x1, m1, r1, q1⟩ => ⟨I1.kIn, ?_⟩) he hpl
  have fr := I1.hok.fresh (Nat.le_succ s1.heap.objs.size)
  have fr0 := I1.hok.fresh (Nat.le_refl s1.heap.objs.size)
  have ne : s1.heap.objs.size ≠ s1.heap.objs.size + 1 := Nat.ne_of_lt (Nat.lt_succ_self _)
  have I2 := Inv.made (C := C) I1
  obtain ⟨x2, m2⟩ := m1.upNew (o := .own (s1.heap.objs.size + 1)) fr0
  obtain ⟨x3, m3⟩ := m2.new (p := s1.heap.objs.size + 1) (o := .ins C s1.heap.objs.size []) (mo := .ins n []) (by rw [upd_ne (Ne.symm ne)]; exact fr) ⟨C, _, [], cl, upd_same, True.intro⟩
  have rr : RDs X.K _ (V.ref (s1.heap.objs.size + 1) :: (vs ++ dvs)) (.ref (s1.heap.objs.size + 1) :: (ds' ++ dd)) := .cons (.ref _) (RDs.app ((r1.go (x2.still m1)).go (x3.still m2)) (hdd _))
  have hq : liftSp X.K sp (V.ref (s1.heap.objs.size + 1) :: (vs ++ dvs)) _ (fun v H2 => v = .non ∧ Q (.ref (s1.heap.objs.size + 1)) H2) E0 :=
    sp_at (bs := bs) m3 rr (q1 (s1.heap.objs.size + 1) (m1.free fr)) fun v H' d M' x4 m4 r4 q4 => by
      obtain ⟨e, q5⟩ := q4
      subst e
      cases r4
      exact ⟨rfl, kk _ H' _ M' (x1.trans (x2.trans (x3.trans x4))) m4 (.ref _) q5⟩
  have r2 : Vals (V.ref (s1.heap.objs.size + 1) :: (vs ++ dvs)) (Value.ref (s1.heap.objs.size + 1) :: (us ++ ds)) := .cons rfl (r.append hd)
  have hl : (Value.ref (s1.heap.objs.size + 1) :: us ++ ds).length = ps.length := by
    have e := r2.length
    rw [F.len _ _ _ _ hq] at e
    exact e.symm
  refine wpAny_call (make_map (f := f) I1.kIn mk.makes mk.init (beq_iff_eq.mp mk.fn) (codeAny_mono (F.run _ X.stack _ _ ⟨Value.ref (s1.heap.objs.size + 1) :: us, []⟩ (Value.ref (s1.heap.objs.size + 1) :: (us ++ ds)) _ _ E0 (guards_make hG) (hr.make C us [])
    (I2.env0.make C us []) (hb _ (Value.ref (s1.heap.objs.size + 1) :: us) I2.kIn hl) r2 hq) fun r s' hq' => ?_))
  cases r with
  | error er => exact False.elim (passL (X := X.nox) pins σ _ _ er s' (I2.wish _) hq')
  | ok fl =>
    cases fl with
    | ret u =>
      obtain ⟨v, H', I3, rv, ev, q3⟩ := I2.after hq'
      subst ev
      exact ⟨rv, ⟨V.ref (s1.heap.objs.size + 1), H', I3, rfl, q3⟩⟩
    | next => exact False.elim hq'
    | brk => exact False.elim hq'
    | cont => exact False.elim hq'
end
def asRf (d : D) (k : Addr → Prop) : Prop := match d with
  | .ref a => k a
  | _ => False
def asSt (d : D) (k : Str → Prop) : Prop := match d with
  | .str z => k z
  | _ => False
section
variable {bs : BS} {X : Cx} {k : Nat} {n m f x : Str} {sp : Sp3} {e o fe : Expr} {es : List Expr} {te to tf ta : TE3} {t : TA3} {p pos apos : Pos}
def Call3 (P : Program) (w : World) (K : PySem.W.Frag) (mg : Str → Option Value) (base : Heap) (k : Nat) (n : Str) (sp : Sp3) : Prop :=
  ∃ C g fd ps, Cl K n (.ref C) ∧ StX.CallO K C g ∧ Binds K fd ps [] ∧ FnG P w K mg base (L2.CX P w) k g fd ps (liftSp K sp)
def wCallO (n : Str) (sp : Sp3) (tf : TE3) (t : TA3) : TE3 := fun τ M Q => tf τ M fun d M1 => asRf d fun a => t τ M1 fun ds M2 => asIn n M2 (.ref a) fun _ _ => sp (.ref a :: ds) M2 Q X0
theorem e_callO (F : Call3 X.prog X.w X.K X.mg X.base k n sp) (hG : X.A.guards = some []) (hr : Room k X.A) (hf : PE3 bs X fe tf) (ha : PA3 bs X (e :: es) t)
    (ht : eval (.Call fe (e :: es) [] pos) X.env = (do callWith pos (← eval fe X.env) [] (backTo pos (starEach (e :: es) X.env)) (backToKw pos (keywordEach [] X.env))) := by rfl)
    (he : starEach (e :: es) X.env = (false, eval e X.env) :: starEach es X.env := by rfl) (hpl : (backTo pos (starEach es X.env)).any (·.1) = false := by rfl) : PE3 bs X (.Call fe (e :: es) [] pos) (wCallO n sp tf t) := by
  obtain ⟨C, g, fd, ps, cl, c, hb, F⟩ := F
  refine ⟨fun pins s σ H Q I h => ?_⟩
  obtain ⟨τ, M, Q3, re, rm, q, kk⟩ := h
  refine Call_ (thn (hf.run pins s σ H (fun y H1 => ∃ d M1, Ext M M1 H H1 ∧ RM X.K bs H1 M1 ∧ RD X.K H1 y d ∧ asRf d fun a => t τ M1 fun ds M2 => asIn n M2 (.ref a) fun _ _ => sp (.ref a :: ds) M2 Q3 X0) I ⟨τ, M, _, re, rm, q, fun v H1 d M1 x1 m1 r1 q1 => ⟨d, M1, x1, m1, r1, q1⟩⟩) fun u s1 ⟨y, H1, I1, ry, d, M1, x1, m1, r1, q1⟩ => ?_) ht
  cases d with
  | ref a =>
    cases r1
    obtain rfl : u = Value.ref a := ry
    refine StX.callO_with (thn (ha.run pos pins s1 σ H1 (fun vs H2 => ∃ ds M2, Ext M1 M2 H1 H2 ∧ RM X.K bs H2 M2 ∧ RDs X.K H2 vs ds ∧ asIn n M2 (.ref a) fun _ _ => sp (.ref a :: ds) M2 Q3 X0) I1 ⟨τ, M1, _, re.go (x1.still rm), m1, q1, fun vs H2 ds M2 x2 m2 r2 q2 => ⟨ds, M2, x2, m2, r2, q2⟩⟩) fun us s2 ⟨vs, H2, I2, r, ds, M2, x2, m2, r2, q2⟩ => ?_) he hpl
    obtain ⟨a', fs, C', dx, gs, ea, eb, hM, cl', hH, rk, q3⟩ := asIn_of m2 (.ref a) q2
    cases ea
    cases cl.uniq cl'
    obtain ⟨mA, O, _⟩ := ins_get I2.hok hH
    obtain ⟨od, J, _⟩ := O.look
    refine ⟨⟨C, _, _, J, rfl⟩, ?_⟩
    have hq : liftSp X.K sp (V.ref a :: vs) H2 Q E0 := sp_at (bs := bs) m2 (.cons (.ref a) r2) q3 fun v H' d M' x3 m3 r3 q4 => kk v H' d M' (x1.trans (x2.trans x3)) m3 r3 q4
    have rv : Vals (V.ref a :: vs) (Value.ref a :: us) := .cons rfl r
    have hl : (Value.ref a :: us).length = ps.length := by rw [← rv.length]; exact F.len _ _ _ _ hq
    have hb' := hb s2 (.ref a :: us) I2.kIn (by rw [List.append_nil]; exact hl)
    rw [List.append_nil] at hb'
    refine wpAny_call (PySem.W.kco_code I2.kIn J rfl c.at_ c.fn c.fi (codeAny_mono (F.run X.A X.stack s2 H2 ⟨.ref a :: us, []⟩ (.ref a :: us) (.ref a :: vs) Q E0 hG hr I2.env0 hb' rv hq) fun rr s' hq' => ?_))
    cases rr with
    | error er => exact (passL (X := X.nox) pins σ H2 s2 er s' (I2.wish _) hq').elim
    | ok fl =>
      cases fl with
      | ret u => exact I2.after hq'
      | next => exact False.elim hq'
      | brk => exact False.elim hq'
      | cont => exact False.elim hq'
  | _ => exact q1.elim
/-- the class called n has an own def x -/
def Own3 (P : Program) (w : World) (K : PySem.W.Frag) (mg : Str → Option Value) (base : Heap) (k : Nat) (n x : Str) (sp : Sp3) : Prop :=
  ∃ C f fd ps, Cl K n (.ref C) ∧ PySem.W.findIn K (.ref C) x = some (some (.ref f)) ∧ PySem.W.isFn K (.ref f) = true ∧ Binds K fd ps [] ∧ FnG P w K mg base (L2.CX P w) k f fd ps (liftSp K sp)
def bLenO (n : Str) (sp : Sp3) : List D → Mp → VK3 → Prop := b1 fun d M Q => asIn n M d fun a _ => sp [.ref a] M (fun v M2 => asI v fun i => (0 ≤ i ∧ i < 2 ^ 63) ∧ Q (.int i) M2) X0
def bReprO (n : Str) (sp : Sp3) : List D → Mp → VK3 → Prop := b1 fun d M Q => asIn n M d fun a _ => sp [.ref a] M (fun v M2 => asSt v fun z => Q (.str z) M2) X0
theorem c_lenO (F : Own3 X.prog X.w X.K X.mg X.base k n "__len__" sp) (hG : X.A.guards = some []) (hr : Room (k + 1) X.A) : CallR X (.builtin "len") (liftV X.K bs (bLenO n sp)) := by
  obtain ⟨C, f, fd, ps, cl, hs, hf, hb, F⟩ := F
  rintro pins s σ H xs us Q I rv ⟨ds, M, Q3, rd, m, q, kk⟩
  unfold bLenO b1 at q
  split at q
  · rename_i d
    cases rd with
    | cons r1 rn =>
      cases rn
      obtain ⟨a, fs, C', dx, gs, rfl, rfl, hM, cl', hH, rk, q2⟩ := asIn_of m r1 q
      cases cl.uniq cl'
      obtain ⟨u, rfl, rx⟩ := vals1 rv
      obtain rfl : u = Value.ref a := rx
      obtain ⟨m', F0⟩ := I.fr
      obtain ⟨mA, O, _⟩ := ins_get I.hok hH
      obtain ⟨od, J, _⟩ := O.look
      have hq : liftSp X.K sp ([V.ref a] ++ []) H (fun v H' => ∃ i, v = .int i ∧ (0 ≤ i ∧ i < 2 ^ 63) ∧ Q (.int i) H') E0 := sp_at (bs := bs) m (.cons (.ref a) .nil) q2 fun v H' d M' x3 m3 r3 q4 => by
        cases d with
        | int i => cases r3; exact ⟨i, rfl, q4.1, kk _ H' _ M' x3 m3 (.int i) q4.2⟩
        | _ => exact q4.elim
      refine PySem.W.len_K F0 I.mod.kin J hs hf (wpAny_mono (run_at (E' := X.xe) (A' := X.A.in1) (us := [.ref a]) (vs := [.ref a]) F hG hr.in1 hb .nil I I.env0.in1 (.cons rfl .nil) hq) (fun u s' ⟨v, H', I', rv', i, e, hi, q5⟩ => ?_) fun _ _ z => z)
      subst e
      obtain ⟨tk, rfl⟩ := rv'
      exact ⟨hi, .int i, H', I'.tok _, ⟨_, rfl⟩, q5⟩
  · exact q.elim
theorem c_reprO (F : Own3 X.prog X.w X.K X.mg X.base k n "__repr__" sp) (hG : X.A.guards = some []) (hr : Room (k + 1) X.A) : CallR X (.builtin "repr") (liftV X.K bs (bReprO n sp)) := by
  obtain ⟨C, f, fd, ps, cl, hs, hf, hb, F⟩ := F
  rintro pins s σ H xs us Q I rv ⟨ds, M, Q3, rd, m, q, kk⟩
  unfold bReprO b1 at q
  split at q
  · rename_i d
    cases rd with
    | cons r1 rn =>
      cases rn
      obtain ⟨a, fs, C', dx, gs, rfl, rfl, hM, cl', hH, rk, q2⟩ := asIn_of m r1 q
      cases cl.uniq cl'
      obtain ⟨u, rfl, rx⟩ := vals1 rv
      obtain rfl : u = Value.ref a := rx
      obtain ⟨m', F0⟩ := I.fr
      obtain ⟨mA, O, _⟩ := ins_get I.hok hH
      obtain ⟨od, J, _⟩ := O.look
      have hq : liftSp X.K sp ([V.ref a] ++ []) H (fun v H' => ∃ i, v = .str i ∧ Q (.str i) H') E0 := sp_at (bs := bs) m (.cons (.ref a) .nil) q2 fun v H' d M' x3 m3 r3 q4 => by
        cases d with
        | str i => cases r3; exact ⟨i, rfl, kk _ H' _ M' x3 m3 (.str i) q4⟩
        | _ => exact q4.elim
      refine PySem.W.repr_K (by have := hr.un; show X.A.units + 1 < _; omega) F0 I.mod.kin J hs hf (wpAny_mono (run_at (E' := X.xe) (A' := X.A.in1) (us := [.ref a]) (vs := [.ref a]) F hG hr.in1 hb .nil I I.env0.in1 (.cons rfl .nil) hq) (fun u s' ⟨v, H', I', rv', i, e, q5⟩ => ?_) fun _ _ z => z)
      subst e
      obtain ⟨tk, rfl⟩ := rv'
      exact ⟨.str i, H', I', ⟨_, rfl⟩, q5⟩
  · exact q.elim
def wFmt (te : TE3) : TE3 := fun τ M Q => te τ M fun d M1 => match d with
  | .str y => y.length ≤ sizeLine ∧ Q (.str y) M1
  | .int i => i.natAbs.log2 < 1920 ∧ Q (.str (toString i)) M1
  | _ => False
theorem e_fmt (he : PE3 bs X e te) : PE3 bs X (.FormattedValue e (-1) none pos) (wFmt te) := by
  refine PE.weak (pe_fmt he) ?_
  rintro σ H Q ⟨τ, M, Q3, re, m, q, kk⟩
  refine ⟨τ, M, _, re, m, q, fun v H1 d M1 x1 m1 r1 q1 => ?_⟩
  cases d with
  | str y => cases r1; exact .inl ⟨y, rfl, q1.1, kk _ H1 _ M1 x1 m1 (.str y) q1.2⟩
  | int i => cases r1; exact .inr ⟨i, rfl, q1.1, kk _ H1 _ M1 x1 m1 (.str _) q1.2⟩
  | _ => exact q1.elim
inductive PJ3 (bs : BS) (X : Cx) : List Expr → List TE3 → Prop where
  | nil : PJ3 bs X [] []
  | cons {e : Expr} {t : TE3} {es : List Expr} {ts : List TE3} (h : PE3 bs X e t) (r : PJ3 bs X es ts) : PJ3 bs X (e :: es) (t :: ts)
theorem PJ3.toPJ {es : List Expr} {ts : List TE3} (h : PJ3 bs X es ts) : PJ X es (ts.map (lift X.K bs)) := by
  induction h with
  | nil => exact .nil
  | cons h _ ih => exact .cons h ih
def wJs : List TE3 → Str → TE3
  | [], acc => fun _ M Q => Q (.str acc) M
  | t :: ts, acc => fun τ M Q => t τ M fun d M1 => asSt d fun y => (acc ++ y).length ≤ sizeLine ∧ wJs ts (acc ++ y) τ M1 Q
theorem lift_js : ∀ (ts : List TE3) (acc : Str) (σ : L2.St) (H : Hp) (Q : VK), lift X.K bs (wJs ts acc) σ H Q → tJs (ts.map (lift X.K bs)) acc σ H fun out H1 => Q (.str out) H1
  | [], acc, σ, H, Q, ⟨τ, M, Q3, re, m, q, kk⟩ => kk (.str acc) H (.str acc) M .refl m (.str acc) q
  | t :: ts, acc, σ, H, Q, ⟨τ, M, Q3, re, m, q, kk⟩ => by
    refine ⟨τ, M, _, re, m, q, fun v H1 d M1 x1 m1 r1 q1 => ?_⟩
    cases d with
    | str y =>
      cases r1
      exact ⟨y, rfl, q1.1, lift_js ts (acc ++ y) σ H1 Q ⟨τ, M1, Q3, re.go (x1.still m), m1, q1.2, fun v H' z M' x2 m2 r2 q2 => kk v H' z M' (x1.trans x2) m2 r2 q2⟩⟩
    | _ => exact q1.elim
theorem e_joined {v1 v2 : Expr} {rest : List Expr} {ts : List TE3} (h : PJ3 bs X (v1 :: v2 :: rest) ts) : PE3 bs X (.JoinedStr (v1 :: v2 :: rest) pos) (wJs ts Str.empty) :=
  PE.weak (pe_joined h.toPJ) fun σ H Q q => lift_js ts Str.empty σ H Q q
end
end L3
set_option Elab.async false
set_option linter.all false
set_option maxRecDepth 100000
set_option maxHeartbeats 4000000
namespace L3
open PySem PySem.Spec PyProof.Rows L2
def valT (kvs : List (List Key × D)) (k : List Key) : Option D := match kvs with
  | [] => none
  | p :: r => if p.1 = k then some p.2 else valT r k
variable {bs : BS} {X : Cx}
section
variable {κ : Type} [DecidableEq κ]
def putG (l : List (κ × D)) (k : κ) (d : D) : List (κ × D) :=
  if (l.any fun p => decide (p.1 = k)) = true then l.map (fun p => if p.1 = k then (p.1, d) else p) else l ++ [(k, d)]
end
end L3
set_option Elab.async false
set_option linter.all false
set_option maxRecDepth 100000
set_option maxHeartbeats 4000000
namespace L3
open PySem PySem.Spec PyProof.Rows L2
theorem fn_gD {CX : CXT} {P : Program} {w : World} {K : PySem.W.Frag} {mg : Str → Option Value} {base : Heap} {k : Nat} {f : Addr} {x qual : Str} {st : Stmt} {fd : FuncData} {dvs : List V} {kws : List (Str × V)} {N ps : List Str} {sp : Sp} (F : FunD K x qual (defArgs st) (defBody st) (defScope st) dvs kws f fd) (S : FnScope N ps (defScope st))
    (len : ∀ vs H Q E, sp vs H Q E → vs.length = ps.length)
    (body : ∀ (cdv : Value) (A : Around) (outer : List Env) (s : Shared) (H : Hp) (vs : List V) (Q : VK) (E : XK), A.guards = some [] → Room k (A.deeper (envOfC qual (defScope st) s.heap.objs.size f cdv)) → sp vs H Q E →
      ∃ t, PSs (cxOf CX P w K mg base N qual (defScope st) f cdv A outer s H E) (defBody st) t ∧ t { nx := fun _ H' => Q .non H', rt := Q } (L2.start N vs) H) :
    FnG P w K mg base CX (k + 1) f fd ps sp := by
  obtain ⟨oc, od, dV, kV, doc, pm, an, cdv, ct, osl, rfl, lk, hcd, _, _⟩ := F.ex
  constructor
  · exact len
  intro A outer s H args us vs Q E hG hr e0 hb r hsp
  have sizes := len vs H Q E hsp
  have inK : K.In s.heap := e0.mod.kin.keeps (fun b o z => (e0.bs b o z).1)
  have noLim : s.heap.NoLimit := e0.mod.nolimit.keeps (fun b o z => (e0.bs b o z).1)
  have kinds : ∀ y ∈ ps.zip us, (defScope st).names.lookup y.1 = some .local ∨ ((defScope st).names.lookup y.1 = some .cell ∧ ((cellsFrom (s.heap.objs.size + 1) (defScope st).names []).lookup y.1).isSome = true) := by
    rintro ⟨n, v⟩ hy
    rcases S.par n (List.of_mem_zip hy).1 with z | z
    · exact .inl z
    · exact .inr ⟨z, PySem.W.cellsFrom_some _ _ _ (.inl z)⟩
  refine codeAny_call_function hr.depth (inK _ _ lk) rfl S.co S.gen rfl (PySem.W.codeRec_of inK hcd) (hb _ _ _ _ ?_)
  refine wpAny_newFunctionEnv_cells S.kind kinds ?_
  rintro env rfl s1 x
  refine ⟨noLim.keeps x.toInCall.keep, codeAny_func ?_⟩
  obtain ⟨t, ht, hq⟩ := body cdv A outer s H vs Q E hG (hr.deeper _) hsp
  have I := inv_start (CX := CX) (E := E) S hr.hd e0 sizes r x
  refine wpAny_mono (ht.run [] s1 (L2.start N vs) H _ I hq) ?_ (fun _ _ z => z)
  have done : ∀ (σ' : L2.St) (H' : Hp) (v : V) (u : Value) (s' : Shared), Inv (cxOf CX P w K mg base N qual (defScope st) f cdv A outer s H E) [] σ' H' s' → RelV v u → Q v H' → CE outer P w H s Q u s' :=
    fun σ' H' v u s' J rv q => ⟨v, H', J.os, J.bare, J.base, J.hok, rv, q⟩
  intro fl s' hs
  cases fl with
  | next =>
    obtain ⟨σ', H', J, q⟩ := hs
    exact done σ' H' .non .none s' J rfl q
  | ret u =>
    obtain ⟨v, σ', H', J, rv, q⟩ := hs
    exact done σ' H' v u s' J rv q
  | brk => obtain ⟨_, _, _, q⟩ := hs; cases q
  | cont => obtain ⟨_, _, _, q⟩ := hs; cases q
theorem fng_ofD {CX : CXT} {P : Program} {w : World} {K : PySem.W.Frag} {mg : Str → Option Value} {base : Heap} {k : Nat} {f : Addr} {x qual : Str} {st : Stmt} {fd : FuncData} {dvs : List V} {kws : List (Str × V)} {N ps : List Str} {t : XK3 → TS3} (F : FunD K x qual (defArgs st) (defBody st) (defScope st) dvs kws f fd) (S : FnScope N ps (defScope st))
    (body : ∀ (cdv : Value) (A : Around) (outer : List Env) (s : Shared) (H : Hp) (E : XK) (bs : BS) (E3 : XK3), A.guards = some [] → Room k (A.deeper (envOfC qual (defScope st) s.heap.objs.size f cdv)) →
      (∀ n c a H' fs M', RM0 K H' M' → bs.ok M' H' → RX K H' n c a fs → E3 n fs M' → E c a H') →
      PSs3 bs (cxOf CX P w K mg base N qual (defScope st) f cdv A outer s H E) (defBody st) (t E3)) :
    FnG P w K mg base CX (k + 1) f fd ps (liftSp K (spOf ps.length N.length t)) := by
  refine fn_gD F S (fun vs H Q E h => ?_) fun cdv A outer s H vs Q E hG hr h => ?_
  · obtain ⟨ds, M, Q3, E3, r, m, ⟨l, q⟩, _⟩ := h
    rw [r.length]; exact l
  · obtain ⟨ds, M, Q3, E3, r, m, ⟨l, q⟩, kq, ke⟩ := h
    refine ⟨_, body cdv A outer s H E (bsOf M H) E3 hG hr (fun n c a H' fs M' m' x r' e => ke n c a H' fs M' x m' r' e), ?_⟩
    refine ⟨start3 N.length ds, M, _, re_start r, ⟨m, .refl⟩, q, fun σ' τ' H' M' x e m' q' => ?_, fun v d H' M' x m' r' q' => ?_, fun _ _ _ _ _ _ _ z => z.elim, fun _ _ _ _ _ _ _ z => z.elim⟩
    · exact kq .non H' .non M' x m'.m .non q'
    · exact kq v H' d M' x m'.m r' q'
/-- one default, the last parameter's, an empty tuple -/
theorem fund_mk {K : PySem.W.Frag} {x qual : Str} {st : Stmt} {f T e0 : Addr} {oc kV doc pm cdv ct : Value} {od an dT : Option Addr} {osl sT : Array (Option Value)} {nT : Nat}
    (lk : K.lookup f = some ⟨oc, od, .func (PySem.W.fnOf x qual (defArgs st) (defBody st) (defScope st) (.ref T) kV doc pm an cdv ct), osl⟩) (hcd : PySem.W.codeIn K cdv qual = true) (kp : PySem.W.keepIn K (.ref f) = true)
    (lT : K.lookup T = some ⟨.type "tuple", dT, .seq #[.ref e0] nT, sT⟩) : FunD K x qual (defArgs st) (defBody st) (defScope st) [.ref e0] [] f (PySem.W.fnOf x qual (defArgs st) (defBody st) (defScope st) (.ref T) kV doc pm an cdv ct) :=
  ⟨⟨oc, od, .ref T, kV, doc, pm, an, cdv, ct, osl, rfl, lk, hcd, .inr ⟨(fun z => nomatch z), T, _, [.ref e0], nT, rfl, lT, rfl, .cons rfl .nil⟩, .inl rfl⟩, kp⟩
end L3
set_option Elab.async false
set_option linter.all false
set_option maxRecDepth 100000
set_option maxHeartbeats 4000000
namespace L3
open PySem PySem.Spec PyProof.Rows L2
abbrev veTail : List Value := [.type "ValueError", .type "Exception", .type "BaseException", .type "object"]
theorem pmk_own0 {X : Cx} {C : Addr} {x : Str} {p pos : Pos} (q : PySem.W.excIn X.K C veTail "ValueError.__new__" = true) (gC : X.mg x = some (.ref C)) (kC : PySem.W.keepIn X.K (.ref C) = true) (r : Raises X (.ref C)) (hg : Gl X x)
    (hdb : (x == ("__debug__" : Str)) = false := by decide) : PMk X (.Call (.Name x p) [] [] pos) (fun _ H Q => Q (.ref C) none H) := by
  intro pins s σ H Q I h
  refine wpAny_Call_Name_kw (ld_glob I hg gC ?_ hdb)
  refine PySem.W.callWith_K0 I.kIn kC ?_
  obtain ⟨bm, N, nm, qn, bs, hdct, sn, sub, ab, col, dd, k0, k1, k2, k3, k5, mN, hC, hN, hni, T⟩ := exc_obj I.kIn q
  refine wpAny_call_exc_subT PySem.F.excBase_ValueError T hC hN hni (fun h' e hm => ?_) (Nat.zero_le _)
  exact mk_of I hm r h (I.hok.gone hm.new)
def MkX0 (K : PySem.W.Frag) (mg : Str → Option Value) (n : Str) : Prop := ∃ C, Cl K n (.ref C) ∧ mg n = some (.ref C) ∧ PySem.W.excIn K C veTail "ValueError.__new__" = true ∧ PySem.W.keepIn K (.ref C) = true ∧
  PySem.W.subIn K (.ref C) (.type "BaseException") = some true ∧ PySem.W.typeIn K (.ref C) = some (.type "type")
def wRaise0 (n : Str) (W3 : St3 → XK3) : TS3 := fun _ τ M => W3 τ n [] M
theorem s_raise0 {bs : BS} {X : Cx} {W3 : St3 → XK3} {n : Str} {p pos pos2 : Pos} (hc : X.calm = true) (mk : MkX0 X.K X.mg n) (tk : TakesS bs X W3) (hg : Gl X n := by rfl) (hdb : (n == ("__debug__" : Str)) = false := by decide) :
    PS3 bs X (.Raise (some (.Call (.Name n p) [] [] pos)) none pos2) (wRaise0 n W3) := by
  obtain ⟨C, cl, hm, q, kC, hs, ht⟩ := mk
  obtain ⟨W, tkW, up⟩ := tk
  refine PS.weak (ps_raise hc tkW (pmk_own0 q hm kC (raises_own hs ht) hg hdb)) ?_
  rintro D σ H ⟨τ, M, D3, re, rm, q, k⟩
  exact up n _ none σ τ H [] M re rm.m rm.b ⟨cl, rfl⟩ q
end L3
set_option Elab.async false
set_option linter.all false
set_option maxRecDepth 100000
set_option maxHeartbeats 4000000
namespace L3
open PySem PySem.Spec PyProof.Rows L2
abbrev bTys : List String := ["NoneType", "bool", "int", "str", "tuple", "list"]
/-- the class called n, asked for: its instances are its own, a built-in thing is not -/
def IsO (K : PySem.W.Frag) (mg : Str → Option Value) (n : Str) : Prop := ∃ C, Cl K n (.ref C) ∧ mg n = some (.ref C) ∧ L2.Cls K C ∧ PySem.W.findIn K (.ref C) "__class__" = some (some (.builtin "object.__class__")) ∧
  PySem.W.specialIn K (.builtin "object.__class__") "__get__" = some (some (.builtin "getset_descriptor.__get__")) ∧ PySem.W.takesIn K (.builtin "object.__class__") = some true ∧ PySem.W.mroIn K C (.type "object") = some true ∧
  PySem.W.typeIn K (.ref C) = some (.type "type") ∧ ∀ T ∈ bTys, PySem.W.subIn K (.type T) (.ref C) = some false
theorem kit_no {K : PySem.W.Frag} {C : Addr} {T : String} (h : PySem.W.hasDictIn K C = true) (t : PySem.W.typeIn K (.ref C) = some (.type "type")) (s : PySem.W.subIn K (.type T) (.ref C) = some false) : PySem.W.kitOne K (.type T) (.ref C) = some false := by
  unfold PySem.W.kitOne
  have e : ((Value.type T == Value.ref C) = true) = False := by
    refine eq_false fun z => ?_
    have := beq_iff_eq.mp z
    cases this
  rw [if_neg (by rw [e]; exact id)]
  obtain ⟨cd, hc, _⟩ := PySem.W.any_some h
  unfold PySem.W.kitCls
  dsimp only
  rw [hc, t, if_pos (by rfl)]
  exact s
theorem kit_self {K : PySem.W.Frag} {C : Addr} : PySem.W.kitOne K (.ref C) (.ref C) = some true := by
  unfold PySem.W.kitOne
  rw [if_pos (by simp)]
/-- either an instance, or a built-in thing -/
def wIsO (n : Str) (te : TE3) : TE3 := fun τ M Q => te τ M fun d M1 => (asIn n M1 d fun _ _ => Q (.bl true) M1) ∨ asStr (tyN M1 d) fun T => T ∈ bTys ∧ Q (.bl false) M1
section
variable {bs : BS} {X : Cx} {k : Nat} {n : Str} {sp : Sp3} {e : Expr} {te : TE3} {p p2 pos : Pos}
theorem e_isO (F : IsO X.K X.mg n) (hm : X.mg "isinstance" = none) (he : PE3 bs X e te) (hg : Gl X "isinstance" := by rfl) (hgy : Gl X n := by rfl) (hdy : (n == ("__debug__" : Str)) = false := by decide)
    (h1 : starEach [e, .Name n p2] X.env = (false, eval e X.env) :: starEach [.Name n p2] X.env := by rfl) (h2 : starEach [.Name n p2] X.env = (false, eval (.Name n p2) X.env) :: starEach [] X.env := by rfl) (hpl : (backTo pos (starEach [.Name n p2] X.env)).any (·.1) = false := by rfl) :
    PE3 bs X (.Call (.Name "isinstance" p) [e, .Name n p2] [] pos) (wIsO n te) := by
  obtain ⟨C, cl, hmn, c, ha, hn, htk, hmr, hty, hT⟩ := F
  refine ⟨fun pins s σ H Q I ⟨τ, M, Q3, re, rm, q, k⟩ => ?_⟩
  let r : List V → Hp → VK → Prop := fun vs H Q => ∃ (x : V) (t : Value) (b : Bool), vs = [x, .ref C] ∧ TyX X.K H x t ∧ PySem.W.kitOne X.K t (.ref C) = some b ∧ Q (.bl b) H
  have cr : CallR X (.builtin "isinstance") r := by
    rintro pins s σ H vs us Q I rv ⟨x, t, b, e, ty, ko, q⟩
    exact call_isi pins s σ H vs us Q I rv ⟨x, .ref C, t, .ref C, b, e, .own C, ty, ko, q⟩
  refine (pe_callB cr hg hm (by decide +kernel) (pa_cons he (pa_cons (pe_glob (v := .ref C) hgy hmn rfl hdy) pa_nil h2) h1) (by decide) (by decide) h1 hpl).run pins s σ H Q I ?_
  refine ⟨τ, M, _, re, rm, q, fun v H1 dv M1 x1 m1 r1 q1 => ?_⟩
  rcases q1 with q1 | q1
  · obtain ⟨a, fs, C', dx, gs, rfl, rfl, hM, cl', hH, rk, q2⟩ := asIn_of m1 r1 q1
    cases cl.uniq cl'
    exact ⟨.ref a, .ref C, true, rfl, .base (.ins hH c ha hn htk hmr), kit_self, k _ H1 _ M1 x1 m1 (.bl true) q2⟩
  · unfold asStr at q1
    split at q1
    · rename_i T hTy
      exact ⟨v, .type T, false, rfl, tyx_of m1.m r1 hTy, kit_no c.hd hty (hT T q1.1), k _ H1 _ M1 x1 m1 (.bl false) q1.2⟩
    · exact q1.elim
def EqNF (K : PySem.W.Frag) (n : Str) : Prop := ∀ C, Cl K n (.ref C) → ∀ T ∈ bTys, PySem.W.subIn K (.type T) (.ref C) = some false
def oEqO (n : Str) (sp : Sp3) : R23 := fun x c M Q => ((asIn n M c fun _ _ => True) ∨ asStr (tyN M c) fun T => T ∈ bTys) ∧ asIn n M x fun a _ => sp [.ref a, c] M (fun v M2 => asB v fun k => Q (.bl k) M2) X0
theorem o_eqO (F : Own3 X.prog X.w X.K X.mg X.base k n "__eq__" sp) (nf : EqNF X.K n) (hG : X.A.guards = some []) (hr : Room k X.A) : OpR X (compareOp .Eq) (lift2 X.K bs (oEqO n sp)) := by
  obtain ⟨C, f, fd, ps, cl, hs, hf, hb, F⟩ := F
  rintro pins s σ H x y v u Q I rx ry ⟨d, d2, M, Q3, r1, r2, m, ⟨hty, q⟩, kk⟩
  obtain ⟨a, fs, C', dx, gs, rfl, rfl, hM, cl', hH, rk, q2⟩ := asIn_of m r1 q
  cases cl.uniq cl'
  obtain rfl : v = Value.ref a := rx
  obtain ⟨m', F0⟩ := I.fr
  obtain ⟨mA, O, _⟩ := ins_get I.hok hH
  obtain ⟨od, J, _⟩ := O.look
  have tb : ∃ t, PySem.W.Looks (model X.prog X.w) s.heap (typeOf u) t ∧ PySem.W.notFirst X.K C t = true := by
    rcases hty with h | h
    · obtain ⟨b, fs2, C2, dx2, gs2, rfl, rfl, hM2, cl2, hH2, rk2, _⟩ := asIn_of m r2 h
      cases cl.uniq cl2
      obtain rfl : u = Value.ref b := ry
      obtain ⟨mB, OB, _⟩ := ins_get I.hok hH2
      obtain ⟨od2, J2, _⟩ := OB.look
      exact ⟨.ref C, J2.type, by simp [PySem.W.notFirst]⟩
    · unfold asStr at h
      split at h
      · rename_i T hT
        obtain ⟨P, Z, pp, _⟩ := kit_of I ry (tyx_of m.m r2 hT)
        refine ⟨.type T, Z.ty _ _ I.kIn pp, ?_⟩
        unfold PySem.W.notFirst
        rw [nf C cl T h]
        simp
      · exact h.elim
  obtain ⟨t, lt, nfT⟩ := tb
  show wpAny (model X.prog X.w) X.A (richCompare .Eq (.ref a) u) (EP X pins σ Q) X.xe s
  refine PySem.W.cmp_K (op := .Eq) (tb := t) hr.units0 F0 I.mod.kin J lt nfT hs hf ?_
  have hq : liftSp X.K sp ([V.ref a, y] ++ []) H (fun v H' => ∃ b, v = .bl b ∧ Q (.bl b) H') E0 := sp_at (bs := bs) m (.cons (.ref a) (.cons r2 .nil)) q2 fun v H' d M' x3 m3 r3 q4 => by
    cases d with
    | bl i => cases r3; exact ⟨i, rfl, kk _ H' _ M' x3 m3 (.bl i) q4⟩
    | _ => exact q4.elim
  refine wpAny_mono (run_at (E' := X.xe) (A' := X.A) (us := [.ref a, u]) (vs := [.ref a, y]) F hG hr hb .nil I I.env0 (.cons rfl (.cons ry .nil)) hq) (fun w s' ⟨v, H', I', rv', i, e, q5⟩ => ?_) fun _ _ z => z
  subst e
  cases rv'
  exact ⟨.bl i, H', I', rfl, q5⟩
end
end L3
set_option Elab.async false
set_option linter.all false
set_option maxRecDepth 100000
set_option maxHeartbeats 4000000
namespace PySem.W
open PySem PySem.Spec PyProof.Rows
section
variable {prog : Program} {w : World} {A : Around} {E : Value → Shared → Prop} {s : Shared} {K : Frag} {x C L f : Addr} {h₀ : Heap} {m : Str → Option Value} {ox : Obj} {od : Option Obj} {b tb : Value}
theorem ifBound_B {M : Model} {id : String} {name : Str} {args : List Value} {Q : Option Value → Shared → Prop} (X : K.In s.heap) (I : InstAt s.heap x ox C od) (hs : findIn K (.ref C) name = some (some (.builtin id)))
    (hb : bindSpecial (.builtin id) (.ref x) = pure (.builtin id, [.ref x])) (h : wpAny M A (call (.builtin id) (.ref x :: args)) (fun v => Q (some v)) E s) : wpAny M A (callSpecialIfBound? (.ref x) name args) Q E s := by
  simp only [callSpecialIfBound?, bindSpecialIfBound?]
  refine wpAny_holding (wpAny_bind (wpAny_bind (wpAny_bind (I.type.here ((looks_findIn X hs).here ?_)))))
  show wpAny M A (do if (← ask).params.followText "special-get-raises" then (do return some (← bindSpecial (.builtin id) (.ref x))) else (do return some (← bindSpecial (.builtin id) (.ref x)) : Sem (Option (Value × List Value))).tryCatch fun _ => do rule "special.get-raises-dropped"; pure none) _ _ _
  rw [hb]
  refine wpAny_bind (wpAny_askSetting (wpAny_ite ?_))
  have fin : wpAny M A (call (.builtin id) ([.ref x] ++ args) >>= fun v => pure (some v)) Q E s := wpAny_bind (wpAny_mono h (fun v s' h' => wpAny_pure h') fun _ _ h' => h')
  split
  · exact wpAny_bind (wpAny_pure (wpAny_pure fin))
  · exact wpAny_tryCatch (wpAny_bind (wpAny_pure (wpAny_pure fin)))
theorem objNe_K (hu : A.units < cLine) {Q : Fin → Shared → Prop} (X : K.In s.heap) (I : InstAt s.heap x ox C od) (hs : findIn K (.ref C) "__eq__" = some (some (.ref f))) (hf : isFn K (.ref f) = true)
    (hcall : wpAny (model prog w) A (call (.ref f) [.ref x, b]) (fun v s' => ∃ i, v = .bool i ∧ Q (.done (.ret (.bool (!i)))) s') E s) :
    wpAny (model prog w) A (Builtin.«object.__ne__» ⟨[.ref x, b], []⟩) Q E s := by
  unfold Builtin.«object.__ne__»
  repeat (first
    | with_reducible refine wpAny_cRoomFor hu ?_
    | (refine wpAny_bind (m := callSpecialIfBound? (.ref x) (Str.ofString "__eq__") [b])
        (ifBound_K X I hs hf (wpAny_mono hcall (fun r s' hr => by
          obtain ⟨i, rfl, hq⟩ := hr
          repeat (first | exact hq | exact wpAny_pure hq | exact wpAny_truthy_bool hq | (refine wpAny_bind (m := truthy (.bool _)) (wpAny_truthy_bool ?_)) | wp_step)) fun _ _ e => e)))
    | wp_step)
theorem cmpNe_K {Q : Value → Shared → Prop} (hu : A.units + 1 < cLine) (F : Fr h₀ L s.heap m) (X₀ : K.In h₀) (I : InstAt s.heap x ox C od) (hb : Looks (model prog w) s.heap (typeOf b) tb) (hn : notFirst K C tb = true)
    (hs : findIn K (.ref C) "__eq__" = some (some (.ref f))) (hf : isFn K (.ref f) = true) (hne : findIn K (.ref C) "__ne__" = some (some (.builtin "object.__ne__"))) (hm : mroIn K C (.type "object") = some true)
    (h : wpAny (model prog w) A.in1 (call (.ref f) [.ref x, b]) (fun v s' => ∃ i, v = .bool i ∧ Q (.bool (!i)) s') E s) : wpAny (model prog w) A (richCompare .NotEq (.ref x) b) Q E s := by
  have X := X₀.keeps F.keep
  have sub : Looks (model prog w) s.heap (isInstance (.ref x) (.type "object")) true := I.type.andThen (looks_mroIn X hm)
  have one : wpAny (model prog w) A (tryCompare (.ref x) "__ne__" b) (fun r s' => ∃ v, r = some v ∧ Q v s') E s := by
    unfold tryCompare
    refine wpAny_bind (ifBound_B X I hne (PySem.F.cmp_object.ne.bind _) (wpAny_call (codeAny_call_builtin PySem.F.cmp_object.ne.plain PySem.F.cmpEntry_ne
      (check_slot PySem.F.cmpKind_ne PySem.F.cmpSplit_ne sub (PySem.F.cmpArgs_ne _ _) (objNe_K (A := A.in1) hu X I hs hf (wpAny_mono h (fun v s' hv => ?_) fun _ _ e => e))))))
    obtain ⟨i, rfl, hq⟩ := hv
    exact ⟨i, rfl, wpAny_pure ⟨_, rfl, hq⟩⟩
  unfold richCompare
  simp only [oneThing_ref]
  refine wpAny_holding (wpAny_bind (wpAny_cRoomFor (Nat.lt_of_succ_lt hu) ?_))
  rw [cmpInfo_NotEq]
  dsimp only
  refine wpAny_bind (I.type.here (wpAny_bind (hb.here ?_)))
  split
  · rename_i q
    have e : subIn K tb (.ref C) = some false := by
      rcases Bool.or_eq_true_iff.mp hn with e | e
      · rw [beq_iff_eq.mp e] at q; simp at q
      · exact beq_iff_eq.mp e
    refine wpAny_bind ((looks_subIn X e).here ?_)
    simp only [Bool.false_eq_true, if_false]
    refine wpAny_bind (wpAny_mono one (fun r s' z => ?_) fun _ _ e => e)
    obtain ⟨v, rfl, hq⟩ := z
    exact wpAny_pure hq
  · refine wpAny_bind (wpAny_pure ?_)
    simp only [Bool.false_eq_true, if_false]
    refine wpAny_bind (wpAny_mono one (fun r s' z => ?_) fun _ _ e => e)
    obtain ⟨v, rfl, hq⟩ := z
    exact wpAny_pure hq
end
end PySem.W
namespace L3
open PySem PySem.Spec PyProof.Rows L2
/-- a built-in thing is not of the class called n, and its != is object's -/
def NeNF (K : PySem.W.Frag) (n : Str) : Prop := ∀ C, Cl K n (.ref C) → PySem.W.findIn K (.ref C) "__ne__" = some (some (.builtin "object.__ne__")) ∧ PySem.W.mroIn K C (.type "object") = some true
def oNeO (n : Str) (sp : Sp3) : R23 := fun x c M Q => ((asIn n M c fun _ _ => True) ∨ asStr (tyN M c) fun T => T ∈ bTys) ∧ asIn n M x fun a _ => sp [.ref a, c] M (fun v M2 => asB v fun k => Q (.bl (!k)) M2) X0
section
variable {bs : BS} {X : Cx} {k : Nat} {n : Str} {sp : Sp3}
theorem o_neO (F : Own3 X.prog X.w X.K X.mg X.base k n "__eq__" sp) (nf : EqNF X.K n) (ne : NeNF X.K n) (hG : X.A.guards = some []) (hr : Room (k + 1) X.A) : OpR X (compareOp .NotEq) (lift2 X.K bs (oNeO n sp)) := by
  obtain ⟨C, f, fd, ps, cl, hs, hf, hb, F⟩ := F
  obtain ⟨ne1, ne2⟩ := ne C cl
  rintro pins s σ H x y v u Q I rx ry ⟨d, d2, M, Q3, r1, r2, m, ⟨hty, q⟩, kk⟩
  obtain ⟨a, fs, C', dx, gs, rfl, rfl, hM, cl', hH, rk, q2⟩ := asIn_of m r1 q
  cases cl.uniq cl'
  obtain rfl : v = Value.ref a := rx
  obtain ⟨m', F0⟩ := I.fr
  obtain ⟨mA, O, _⟩ := ins_get I.hok hH
  obtain ⟨od, J, _⟩ := O.look
  have tb : ∃ t, PySem.W.Looks (model X.prog X.w) s.heap (typeOf u) t ∧ PySem.W.notFirst X.K C t = true := by
    rcases hty with h | h
    · obtain ⟨b, fs2, C2, dx2, gs2, rfl, rfl, hM2, cl2, hH2, rk2, _⟩ := asIn_of m r2 h
      cases cl.uniq cl2
      obtain rfl : u = Value.ref b := ry
      obtain ⟨mB, OB, _⟩ := ins_get I.hok hH2
      obtain ⟨od2, J2, _⟩ := OB.look
      exact ⟨.ref C, J2.type, by simp [PySem.W.notFirst]⟩
    · unfold asStr at h
      split at h
      · rename_i T hT
        obtain ⟨P, Z, pp, _⟩ := kit_of I ry (tyx_of m.m r2 hT)
        refine ⟨.type T, Z.ty _ _ I.kIn pp, ?_⟩
        unfold PySem.W.notFirst
        rw [nf C cl T h]
        simp
      · exact h.elim
  obtain ⟨t, lt, nfT⟩ := tb
  show wpAny (model X.prog X.w) X.A (richCompare .NotEq (.ref a) u) (EP X pins σ Q) X.xe s
  refine PySem.W.cmpNe_K (tb := t) (by have := hr.un; omega) F0 I.mod.kin J lt nfT hs hf ne1 ne2 ?_
  have hq : liftSp X.K sp ([V.ref a, y] ++ []) H (fun v H' => ∃ b, v = .bl b ∧ Q (.bl (!b)) H') E0 := sp_at (bs := bs) m (.cons (.ref a) (.cons r2 .nil)) q2 fun v H' d M' x3 m3 r3 q4 => by
    cases d with
    | bl i => cases r3; exact ⟨i, rfl, kk _ H' _ M' x3 m3 (.bl (!i)) q4⟩
    | _ => exact q4.elim
  refine wpAny_mono (run_at (E' := X.xe) (A' := X.A.in1) (us := [.ref a, u]) (vs := [.ref a, y]) F hG hr.in1 hb .nil I I.env0.in1 (.cons rfl (.cons ry .nil)) hq) (fun w s' ⟨v, H', I', rv', i, e, q5⟩ => ?_) fun _ _ z => z
  subst e
  cases rv'
  exact ⟨i, rfl, .bl (!i), H', I', rfl, q5⟩
end
end L3
set_option Elab.async false
set_option linter.all false
set_option maxRecDepth 100000
set_option maxHeartbeats 4000000
namespace L3
open PySem PySem.Spec PyProof.Rows L2
/-- all that M has, M' has -/
def Le (M M' : Mp) : Prop := ∀ a o, M a = some o → M' a = some o
theorem Le.refl {M : Mp} : Le M M := fun _ _ h => h
theorem Le.trans {M M1 M2 : Mp} (x : Le M M1) (y : Le M1 M2) : Le M M2 := fun a o h => y a o (x a o h)
theorem Le.new {M M1 : Mp} {p : Addr} {o : MO} (x : Le M M1) (h : M1 p = none) : Le M (mset M1 p o) := fun a u hu => by
  have z := x a u hu
  rw [mset_ne (ne_m z h)]; exact z
/-- an address that M does not know may be written -/
theorem Le.put {M M1 : Mp} {p : Addr} {o : MO} (x : Le M M1) (h : M p = none) : Le M (mset M1 p o) := fun a u hu => by
  rw [mset_ne (ne_m hu h)]; exact x a u hu
abbrev Ed := Option Int
abbrev Tab := List (List Ed)
def oD : Ed → D
  | none => .non
  | some i => .int i
def rowD (r : List Ed) : D := .tup (r.map oD)
def tabD (T : Tab) : D := .tup (T.map rowD)
theorem isN_oD (e : Ed) : isN (oD e) = e.isNone := by cases e <;> rfl
theorem st_seq {t u : TS3} {D : Ends3} {τ : St3} {M : Mp} : wSeq t u D τ M = t { D with nx := u D } τ M := rfl
theorem st_next {D : Ends3} {τ : St3} {M : Mp} : wNext D τ M = D.nx τ M := rfl
theorem st_break {D : Ends3} {τ : St3} {M : Mp} : wBreak D τ M = D.bk τ M := rfl
theorem st_cont {D : Ends3} {τ : St3} {M : Mp} : wCont D τ M = D.ct τ M := rfl
theorem st_set {i : Nat} {te : TE3} {D : Ends3} {τ : St3} {M : Mp} : wSet i te D τ M = te τ M fun d M1 => D.nx (setS τ i (some d)) M1 := rfl
theorem st_ret {te : TE3} {D : Ends3} {τ : St3} {M : Mp} : wRet te D τ M = te τ M D.rt := rfl
theorem st_retN {D : Ends3} {τ : St3} {M : Mp} : wRetN D τ M = D.rt .non M := rfl
theorem st_drop {te : TE3} {D : Ends3} {τ : St3} {M : Mp} : wDrop te D τ M = te τ M fun _ M1 => D.nx τ M1 := rfl
theorem st_if {c : TT3} {t u : TS3} {D : Ends3} {τ : St3} {M : Mp} : wIfS c t u D τ M = c τ M fun b M1 => ite3 b (t D τ M1) (u D τ M1) := rfl
theorem st_asg {te : TE3} {g : TG3} {D : Ends3} {τ : St3} {M : Mp} : wAsg te g D τ M = te τ M fun d M1 => g d τ M1 D.nx := rfl
theorem st_par {i j : Nat} {ta : TA3} {D : Ends3} {τ : St3} {M : Mp} : wPar i j ta D τ M = ta τ M fun ds M1 => match ds with | [d, e] => D.nx (setS (setS τ i (some d)) j (some e)) M1 | _ => False := rfl
theorem st_for {wi : TI3} {g : TG3} {tb : TS3} {D : Ends3} {τ : St3} {M : Mp} : wFor wi g tb D τ M = wi τ M fun ds G M1 => forW G g tb D ds τ M1 := rfl
theorem ex_c {d : D} {τ : St3} {M : Mp} {Q : VK3} : wC d τ M Q = Q d M := rfl
theorem ex_var {i : Nat} {τ : St3} {M : Mp} {Q : VK3} : wVar i τ M Q = asS (getS τ i) fun d => Q d M := rfl
theorem ex_op {r : R23} {ta tb : TE3} {τ : St3} {M : Mp} {Q : VK3} : wOp r ta tb τ M Q = ta τ M fun x M1 => tb τ M1 fun y M2 => r x y M2 Q := rfl
theorem ex_un {r : D → Mp → VK3 → Prop} {ta : TE3} {τ : St3} {M : Mp} {Q : VK3} : wUn r ta τ M Q = ta τ M fun x M1 => r x M1 Q := rfl
theorem ex_b {t : TE3} {τ : St3} {M : Mp} {Q : Bool → Mp → Prop} : wB t τ M Q = t τ M fun d M' => asB d fun k => Q k M' := rfl
theorem ex_and {t u : TT3} {τ : St3} {M : Mp} {Q : Bool → Mp → Prop} : wAnd t u τ M Q = t τ M fun c M1 => ite3 c (u τ M1 Q) (Q false M1) := rfl
theorem ex_or {t u : TT3} {τ : St3} {M : Mp} {Q : Bool → Mp → Prop} : wOr t u τ M Q = t τ M fun c M1 => ite3 c (Q true M1) (u τ M1 Q) := rfl
theorem ex_not {t : TT3} {τ : St3} {M : Mp} {Q : Bool → Mp → Prop} : wNot t τ M Q = t τ M fun c M1 => Q (!c) M1 := rfl
theorem ex_andV {ta tb : TE3} {τ : St3} {M : Mp} {Q : VK3} : wAndV ta tb τ M Q = ta τ M fun x M1 => asB x fun c => ite3 c (tb τ M1 Q) (Q (.bl false) M1) := rfl
theorem ex_orV {ta tb : TE3} {τ : St3} {M : Mp} {Q : VK3} : wOrV ta tb τ M Q = ta τ M fun x M1 => asB x fun c => ite3 c (Q (.bl true) M1) (tb τ M1 Q) := rfl
theorem ex_notV {ta : TE3} {τ : St3} {M : Mp} {Q : VK3} : wNotV ta τ M Q = ta τ M fun x M1 => asB x fun c => Q (.bl (!c)) M1 := rfl
theorem ex_if {c : TT3} {ta tb : TE3} {τ : St3} {M : Mp} {Q : VK3} : wIf c ta tb τ M Q = c τ M fun z M1 => ite3 z (ta τ M1 Q) (tb τ M1 Q) := rfl
theorem ex_chain {r r' : R23} {ta tb tc : TE3} {τ : St3} {M : Mp} {Q : VK3} : wChain r r' ta tb tc τ M Q = ta τ M fun x M1 => tb τ M1 fun y M2 => r x y M2 fun z M3 => asB z fun c => ite3 c (tc τ M3 fun w M4 => r' y w M4 Q) (Q (.bl false) M3) := rfl
theorem ex_nil {τ : St3} {M : Mp} {Q : List D → Mp → Prop} : wNil τ M Q = Q [] M := rfl
theorem ex_cons {ta : TE3} {tr : TA3} {τ : St3} {M : Mp} {Q : List D → Mp → Prop} : wCons ta tr τ M Q = ta τ M fun x M1 => tr τ M1 fun xs M2 => Q (x :: xs) M2 := rfl
theorem ex_tup {t : TA3} {τ : St3} {M : Mp} {Q : VK3} : wTup t τ M Q = t τ M fun xs M1 => xs.length ≤ sizeLine ∧ Q (.tup xs) M1 := rfl
theorem ex_lst {t : TA3} {τ : St3} {M : Mp} {Q : VK3} : wLst t τ M Q = t τ M fun xs M1 => xs.length ≤ sizeLine ∧ ∀ p, M1 p = none → Q (.ref p) (mset M1 p (.lst xs)) := rfl
theorem ex_call {sp : Sp3} {E : XK3} {t : TA3} {τ : St3} {M : Mp} {Q : VK3} : wCall sp E t τ M Q = t τ M fun ds M1 => sp ds M1 Q E := rfl
theorem ex_callP {sp : Sp3} {E : XK3} {t : TA3} {τ : St3} {M : Mp} {Q : VK3} : wCallP sp E t τ M Q = t τ M fun ds M1 => sp ds M0 (fun d _ => Q d M1) (fun c fs _ => E c fs M1) := rfl
theorem ex_cb {r : List D → Mp → VK3 → Prop} {t : TA3} {τ : St3} {M : Mp} {Q : VK3} : wCB r t τ M Q = t τ M fun ds M1 => r ds M1 Q := rfl
theorem ex_bm {r : M23} {to : TE3} {t : TA3} {τ : St3} {M : Mp} {Q : VK3} : wBM r to t τ M Q = to τ M fun d M1 => (match d with | .ref a => ∃ ds, M1 a = some (.lst ds) | _ => False) ∧ t τ M1 fun ds M2 => r d ds M2 Q := rfl
theorem ex_rep {te tb : TE3} {τ : St3} {M : Mp} {Q : VK3} : wRep te tb τ M Q = te τ M fun d M1 => tb τ M1 fun i M2 => asI i fun k => -(2 ^ 63) ≤ k ∧ k < 2 ^ 63 ∧ k.toNat ≤ sizeLine ∧ ∀ p, M2 p = none → Q (.ref p) (mset M2 p (.lst (List.replicate k.toNat d))) := rfl
theorem ex_lc {wi : TI3} {g : TG3} {tt : TT3} {te : TE3} {vs : List Nat} {τ : St3} {M : Mp} {Q : VK3} : wLc wi g tt te vs τ M Q = wi τ M fun ds G M1 => lcW G g tt te (wipe3 τ vs) (fun acc M2 => ∀ p, M2 p = none → Q (.ref p) (mset M2 p (.lst acc))) ds [] M1 := rfl
theorem ex_sl {te : TE3} {tl th : St3 → Mp → (Option Int → Mp → Prop) → Prop} {τ : St3} {M : Mp} {Q : VK3} : wSl te tl th τ M Q = te τ M fun d M1 => tl τ M1 fun lo M2 => th τ M2 fun hi M3 => oSl d lo hi M3 Q := rfl
theorem ex_noPart {τ : St3} {M : Mp} {Q : Option Int → Mp → Prop} : wNoPart τ M Q = Q none M := rfl
theorem ex_part {t : TE3} {τ : St3} {M : Mp} {Q : Option Int → Mp → Prop} : wPart t τ M Q = t τ M fun d M1 => asI d fun i => Q (some i) M1 := rfl
theorem ex_yes {τ : St3} {M : Mp} {Q : Bool → Mp → Prop} : wYes τ M Q = Q true M := rfl
theorem it_items {tl : TE3} {τ : St3} {M : Mp} {R : List D → (Mp → Prop) → Mp → Prop} : wItems tl τ M R = tl τ M fun d M1 => asL (items M1 d) fun ds => R ds (keepG M1 d ds) M1 := rfl
theorem it_rng1 {t : TA3} {τ : St3} {M : Mp} {R : List D → (Mp → Prop) → Mp → Prop} : wRng1 t τ M R = t τ M fun ds M1 => match ds with | [.int j] => -(2 ^ 62) ≤ j ∧ j < 2 ^ 62 ∧ R (rgD 0 j.toNat) (fun _ => True) M1 | _ => False := rfl
theorem it_rng2 {t : TA3} {τ : St3} {M : Mp} {R : List D → (Mp → Prop) → Mp → Prop} : wRng2 t τ M R = t τ M fun ds M1 => match ds with | [.int i, .int j] => (-(2 ^ 62) ≤ i ∧ i < 2 ^ 62 ∧ -(2 ^ 62) ≤ j ∧ j < 2 ^ 62) ∧ R (rgD i (j - i).toNat) (fun _ => True) M1 | _ => False := rfl
theorem tg_name {i : Nat} {d : D} {τ : St3} {M : Mp} {Q : St3 → Mp → Prop} : wgName i d τ M Q = Q (setS τ i (some d)) M := rfl
theorem tg_sub {to ti : TE3} {t : TSet3} {d : D} {τ : St3} {M : Mp} {Q : St3 → Mp → Prop} : wgSub to ti t d τ M Q = to τ M fun o M1 => ti τ M1 fun i M2 => t o i d M2 fun M3 => Q τ M3 := rfl
theorem tg_tup {n : Nat} {t : TGs3} {ds : List D} {τ : St3} {M : Mp} {Q : St3 → Mp → Prop} : wgTupN n t (.tup ds) τ M Q = (ds.length = n ∧ t ds τ M Q) := rfl
theorem tg_cons {t : TG3} {u : TGs3} {d : D} {r : List D} {τ : St3} {M : Mp} {Q : St3 → Mp → Prop} : wgCons t u (d :: r) τ M Q = t d τ M fun τ' M' => u r τ' M' Q := rfl
theorem tg_nil {τ : St3} {M : Mp} {Q : St3 → Mp → Prop} : wgNil [] τ M Q = Q τ M := rfl
theorem gs_0 {d : Option D} {τ : St3} : getS (d :: τ) 0 = d := rfl
theorem gs_s {d : Option D} {τ : St3} {i : Nat} : getS (d :: τ) (i + 1) = getS τ i := rfl
theorem ss_0 {d e : Option D} {τ : St3} : setS (d :: τ) 0 e = e :: τ := rfl
theorem ss_s {d e : Option D} {τ : St3} {i : Nat} : setS (d :: τ) (i + 1) e = d :: setS τ i e := rfl
theorem op_ii {i j : Int} {M : Mp} {Q : VK3} : oAdd (.int i) (.int j) M Q = Q (.int (i + j)) M := rfl
theorem op_ss {i j : Str} {M : Mp} {Q : VK3} : oAdd (.str i) (.str j) M Q = (i.length + j.length ≤ sizeLine ∧ Q (.str (i ++ j)) M) := rfl
theorem op_tt {i j : List D} {M : Mp} {Q : VK3} : oAdd (.tup i) (.tup j) M Q = (i.length + j.length ≤ sizeLine ∧ Q (.tup (i ++ j)) M) := rfl
theorem op_mm {i j : Int} {M : Mp} {Q : VK3} : oMul (.int i) (.int j) M Q = (IntMulOk i j ∧ Q (.int (i * j)) M) := rfl
theorem op_sb {d e : D} {M : Mp} {Q : VK3} : oSub d e M Q = asI d fun i => asI e fun j => Q (.int (i - j)) M := rfl
theorem op_in {C : Int → Int → Prop} {g : Int → Int → Int} {d e : D} {M : Mp} {Q : VK3} : oInt C g d e M Q = asI d fun i => asI e fun j => C i j ∧ Q (.int (g i j)) M := rfl
theorem op_ng {d : D} {M : Mp} {Q : VK3} : oNeg d M Q = asI d fun i => Q (.int (-i)) M := rfl
theorem op_cp {p : Int → Int → Bool} {d e : D} {M : Mp} {Q : VK3} : oCmp p d e M Q = asI d fun i => asI e fun j => Q (.bl (p i j)) M := rfl
theorem op_iNf {d : D} {M : Mp} {Q : VK3} : oIsN false d .non M Q = Q (.bl (isN d)) M := rfl
theorem op_iNt {d : D} {M : Mp} {Q : VK3} : oIsN true d .non M Q = Q (.bl (!isN d)) M := rfl
theorem op_ixT {ds : List D} {e : D} {M : Mp} {Q : VK3} : oIx (.tup ds) e M Q = asI e fun i => asS (atI ds i) fun v => Q v M := rfl
theorem op_ixR {ds : List D} {e : D} {M : Mp} {Q : VK3} : oIx (.rol ds) e M Q = asI e fun i => asS (atI ds i) fun v => Q v M := rfl
theorem op_ixL {a : Addr} {e : D} {M : Mp} {Q : VK3} : oIx (.ref a) e M Q = asI e fun i => asL (lstOf (M a)) fun ds => asS (atI ds i) fun v => Q v M := rfl
theorem it_tupE {M : Mp} {ds : List D} : items M (.tup ds) = some ds := rfl
theorem it_rolE {M : Mp} {ds : List D} : items M (.rol ds) = some ds := rfl
theorem it_refE {M : Mp} {a : Addr} : items M (.ref a) = lstOf (M a) := rfl
theorem lstOf_l {ds : List D} : lstOf (some (.lst ds)) = some ds := rfl
theorem bl_1 {r : D → Mp → VK3 → Prop} {d : D} {M : Mp} {Q : VK3} : b1 r [d] M Q = r d M Q := rfl
theorem bl_lenT {M : Mp} {ds : List D} {Q : VK3} : bLen [.tup ds] M Q = Q (.int ds.length) M := rfl
theorem bl_lenR {M : Mp} {ds : List D} {Q : VK3} : bLen [.rol ds] M Q = Q (.int ds.length) M := rfl
theorem bl_lenL {M : Mp} {a : Addr} {Q : VK3} : bLen [.ref a] M Q = asL (lstOf (M a)) fun ds => Q (.int ds.length) M := rfl
theorem bl_lenS {M : Mp} {z : Str} {Q : VK3} : bLen [.str z] M Q = (z.length ≤ sizeLine ∧ Q (.int z.length) M) := rfl
theorem bl_tuple {M : Mp} {d : D} {Q : VK3} : bTuple [d] M Q = asL (items M d) fun ds => Q (.tup ds) M := rfl
theorem bl_list {M : Mp} {d : D} {Q : VK3} : bList [d] M Q = asL (items M d) fun ds => ∀ p, M p = none → Q (.ref p) (mset M p (.lst ds)) := rfl
theorem bl_abs {M : Mp} {d : D} {Q : VK3} : bAbs [d] M Q = asI d fun i => Q (.int (if i < 0 then -i else i)) M := rfl
theorem bl_intI {M : Mp} {i : Int} {Q : VK3} : bInt [.int i] M Q = Q (.int i) M := rfl
theorem bl_intB {M : Mp} {i : Bool} {Q : VK3} : bInt [.bl i] M Q = Q (.int (if i then 1 else 0)) M := rfl
theorem bl_max {M : Mp} {i j : Int} {Q : VK3} : bMax [.int i, .int j] M Q = Q (.int (if j > i then j else i)) M := rfl
theorem bl_min {M : Mp} {i j : Int} {Q : VK3} : bMin [.int i, .int j] M Q = Q (.int (if j < i then j else i)) M := rfl
theorem bl_repr {M : Mp} {d : D} {Q : VK3} : bRepr [d] M Q = (Sh (top M d) ∧ Q (.str (shown (top M d))) M) := rfl
theorem op_eqSf {x y : Str} {M : Mp} {Q : VK3} : oEq false (.str x) (.str y) M Q = Q (.bl (decide (x = y))) M := rfl
theorem op_eqSt {x y : Str} {M : Mp} {Q : VK3} : oEq true (.str x) (.str y) M Q = Q (.bl (!decide (x = y))) M := rfl
theorem op_eqIf {x : Int} {e : D} {M : Mp} {Q : VK3} : oEq false (.int x) e M Q = (Pl (.int x) ∧ Pl (top M e) ∧ Q (.bl (eqD (.int x) (top M e))) M) := rfl
theorem op_eqIt {x : Int} {e : D} {M : Mp} {Q : VK3} : oEq true (.int x) e M Q = (Pl (.int x) ∧ Pl (top M e) ∧ Q (.bl (!eqD (.int x) (top M e))) M) := rfl
theorem op_eqTf {x : List D} {e : D} {M : Mp} {Q : VK3} : oEq false (.tup x) e M Q = (Pl (.tup x) ∧ Pl (top M e) ∧ Q (.bl (eqD (.tup x) (top M e))) M) := rfl
theorem op_eqTt {x : List D} {e : D} {M : Mp} {Q : VK3} : oEq true (.tup x) e M Q = (Pl (.tup x) ∧ Pl (top M e) ∧ Q (.bl (!eqD (.tup x) (top M e))) M) := rfl
theorem op_eqRf {x : Addr} {e : D} {M : Mp} {Q : VK3} : oEq false (.ref x) e M Q = (Pl (top M (.ref x)) ∧ Pl (top M e) ∧ Q (.bl (eqD (top M (.ref x)) (top M e))) M) := rfl
theorem op_eqRt {x : Addr} {e : D} {M : Mp} {Q : VK3} : oEq true (.ref x) e M Q = (Pl (top M (.ref x)) ∧ Pl (top M e) ∧ Q (.bl (!eqD (top M (.ref x)) (top M e))) M) := rfl
theorem op_eqNf {e : D} {M : Mp} {Q : VK3} : oEq false .non e M Q = (Pl .non ∧ Pl (top M e) ∧ Q (.bl (eqD .non (top M e))) M) := rfl
theorem op_eqNt {e : D} {M : Mp} {Q : VK3} : oEq true .non e M Q = (Pl .non ∧ Pl (top M e) ∧ Q (.bl (!eqD .non (top M e))) M) := rfl
theorem eqD_int {i j : Int} : eqD (.int i) (.int j) = decide (i = j) := by
  simp only [eqD, pdOf, PyData.eqv]
  rw [Bool.eq_iff_iff]; simp
theorem eqD_nil {x : List D} : eqD (.tup x) (.tup []) = x.isEmpty := by
  cases x <;> simp only [eqD, pdOf, pdsOf, PyData.eqv, PyData.eqvAll, List.isEmpty]
theorem pl_int {i : Int} : Pl (.int i) = True := eq_true ⟨rfl, Nat.zero_le _⟩
theorem pl_nil : Pl (.tup []) = True := eq_true ⟨rfl, by decide⟩
theorem pl_non : Pl .non = True := eq_true ⟨rfl, by decide⟩
theorem pl_rnil : Pl (.rol []) = True := eq_true ⟨rfl, by decide⟩
theorem pl_bl {b : Bool} : Pl (.bl b) = True := eq_true ⟨rfl, Nat.zero_le _⟩
theorem op_lle {a b : Addr} {M : Mp} {Q : VK3} : oAdd (.ref a) (.ref b) M Q = asL (lstOf (M a)) fun xs => asL (lstOf (M b)) fun ys => xs.length + ys.length ≤ sizeLine ∧ ∀ p, M p = none → Q (.ref p) (mset M p (.lst (xs ++ ys))) := by
  simp only [oAdd]
  cases M a with
  | none => rfl
  | some o =>
    cases o with
    | lst xs =>
      cases M b with
      | none => rfl
      | some u => cases u <;> rfl
    | _ => cases M b <;> rfl
theorem sl_tupE {ds : List D} {lo hi : Option Int} {M : Mp} {Q : VK3} : oSl (.tup ds) lo hi M Q = Q (.tup (cutD ds lo hi)) M := rfl
theorem sl_rolE {ds : List D} {lo hi : Option Int} {M : Mp} {Q : VK3} : oSl (.rol ds) lo hi M Q = ∀ p, M p = none → Q (.ref p) (mset M p (.lst (cutD ds lo hi))) := rfl
/-- a comprehension by what holds of the turn, what is made, M -/
theorem lc_pv {G : Mp → Prop} {g : TG3} {tt : TT3} {te : TE3} {τ : St3} {Q : List D → Mp → Prop} {ds : List D} (Pv : Nat → List D → Mp → Prop)
    (step : ∀ i d acc M, ds[i]? = some d → Pv i acc M → ∀ X : List D → Mp → Prop, (∀ acc' M', Pv (i + 1) acc' M' → X acc' M') → G M ∧ g d τ M fun τ2 M2 => tt τ2 M2 fun b M3 => ite3 b (te τ2 M3 fun y M4 => acc.length < sizeLine ∧ X (acc ++ [y]) M4) (X acc M3))
    (fin : ∀ acc M, Pv ds.length acc M → G M ∧ Q acc M) {M : Mp} (h0 : Pv 0 [] M) : lcW G g tt te τ Q ds [] M := by
  have go : ∀ (k i : Nat) (acc : List D) (M : Mp), ds.length - i = k → i ≤ ds.length → Pv i acc M → lcW G g tt te τ Q (ds.drop i) acc M := by
    intro k
    induction k with
    | zero =>
      intro i acc M hk hi p
      have e : i = ds.length := by omega
      subst e
      rw [List.drop_length]
      exact fin acc M p
    | succ k ih =>
      intro i acc M hk hi p
      have hlt : i < ds.length := by omega
      rw [List.drop_eq_getElem_cons hlt]
      exact step i _ acc M (List.getElem?_eq_getElem hlt) p _ fun acc' M' p' => ih (i + 1) acc' M' (by omega) hlt p'
  exact go _ 0 [] M rfl (Nat.zero_le _) h0
/-- a for by what holds ahead of each turn -/
theorem for_pv {G : Mp → Prop} {g : TG3} {tb : TS3} {E : Ends3} {ds : List D} (Pv : Nat → St3 → Mp → Prop)
    (step : ∀ i d τ M, ds[i]? = some d → Pv i τ M → ∀ X : St3 → Mp → Prop, (∀ τ' M', Pv (i + 1) τ' M' → X τ' M') → G M ∧ g d τ M fun τ2 M2 => tb { E with nx := X, ct := X, bk := E.nx } τ2 M2)
    (fin : ∀ τ M, Pv ds.length τ M → G M ∧ E.nx τ M) {τ : St3} {M : Mp} (h0 : Pv 0 τ M) : forW G g tb E ds τ M := by
  have go : ∀ (k i : Nat) (τ : St3) (M : Mp), ds.length - i = k → i ≤ ds.length → Pv i τ M → forW G g tb E (ds.drop i) τ M := by
    intro k
    induction k with
    | zero =>
      intro i τ M hk hi p
      have e : i = ds.length := by omega
      subst e
      rw [List.drop_length]
      exact fin τ M p
    | succ k ih =>
      intro i τ M hk hi p
      have hlt : i < ds.length := by omega
      rw [List.drop_eq_getElem_cons hlt]
      exact step i _ τ M (List.getElem?_eq_getElem hlt) p _ fun τ' M' p' => ih (i + 1) τ' M' (by omega) hlt p'
  exact go _ 0 τ M rfl (Nat.zero_le _) h0
theorem rgD_len (lo : Int) (n : Nat) : (rgD lo n).length = n := by unfold rgD; simp
/-- over a range -/
theorem for_rg {g : TG3} {tb : TS3} {E : Ends3} {lo : Int} {n : Nat} (Pv : Nat → St3 → Mp → Prop)
    (step : ∀ i τ M, i < n → Pv i τ M → ∀ X : St3 → Mp → Prop, (∀ τ' M', Pv (i + 1) τ' M' → X τ' M') → g (.int (lo + (i : Nat))) τ M fun τ2 M2 => tb { E with nx := X, ct := X, bk := E.nx } τ2 M2)
    (fin : ∀ τ M, Pv n τ M → E.nx τ M) {τ : St3} {M : Mp} (h0 : Pv 0 τ M) : forW (fun _ => True) g tb E (rgD lo n) τ M :=
  for_pv Pv (fun i d τ M hd p X hX => by
    obtain ⟨hi, rfl⟩ := rgD_get hd
    exact ⟨True.intro, step i τ M hi p X hX⟩) (fun τ M p => ⟨True.intro, fin τ M (by rw [rgD_len] at p; exact p)⟩) h0
structure Mat (M : Mp) (e : Addr) (as : List Addr) (T : Tab) : Prop where
  top : M e = some (.lst (as.map D.ref))
  len : as.length = T.length
  row : ∀ (i : Nat) (a : Addr) (r : List Ed), as[i]? = some a → T[i]? = some r → M a = some (.lst (r.map oD))
  nd : as.Nodup
  ne : e ∉ as
theorem Mat.le {M M' : Mp} {e : Addr} {as : List Addr} {T : Tab} (m : Mat M e as T) (l : Le M M') : Mat M' e as T :=
  ⟨l _ _ m.top, m.len, fun i a r h1 h2 => l _ _ (m.row i a r h1 h2), m.nd, m.ne⟩
/-- so many rows laid, the list of them not yet -/
structure Rows (M M' : Mp) (as : List Addr) (T : Tab) : Prop where
  le : Le M M'
  len : as.length = T.length
  row : ∀ (i : Nat) (a : Addr) (r : List Ed), as[i]? = some a → T[i]? = some r → M' a = some (.lst (r.map oD))
  nd : as.Nodup
  new : ∀ a ∈ as, M a = none
theorem Rows.nil {M : Mp} : Rows M M [] [] := ⟨.refl, rfl, fun _ _ _ h => by simp at h, List.nodup_nil, fun _ h => by simp at h⟩
theorem Rows.snoc {M M' : Mp} {as : List Addr} {T : Tab} {p : Addr} {r : List Ed} (x : Rows M M' as T) (hp : M' p = none) : Rows M (mset M' p (.lst (r.map oD))) (as ++ [p]) (T ++ [r]) := by
  have np : ∀ a ∈ as, a ≠ p := fun a ha => by
    obtain ⟨i, hi, e⟩ := List.mem_iff_getElem.mp ha
    have hT : i < T.length := by rw [← x.len]; exact hi
    exact ne_m (x.row i a T[i] (by rw [List.getElem?_eq_getElem hi, e]) (List.getElem?_eq_getElem hT)) hp
  refine ⟨x.le.new hp, by simp [x.len], fun i a q h1 h2 => ?_, ?_, fun a ha => ?_⟩
  · by_cases hi : i < as.length
    · rw [List.getElem?_append_left hi] at h1
      rw [List.getElem?_append_left (by rw [← x.len]; exact hi)] at h2
      rw [mset_ne (np a (List.mem_of_getElem? h1))]
      exact x.row i a q h1 h2
    · have e : i = as.length := by
        have := (List.getElem?_eq_some_iff.mp h1).1
        simp at this; omega
      subst e
      have h1' : p = a := by simpa using h1
      rw [x.len] at h2
      have h2' : r = q := by simpa using h2
      rw [← h1', mset_same, h2']
  · rw [List.nodup_append]
    exact ⟨x.nd, by simp, fun a ha b hb => by rw [List.mem_singleton] at hb; rw [hb]; exact np a ha⟩
  · rcases List.mem_append.mp ha with h | h
    · exact x.new a h
    · rw [List.mem_singleton] at h; subst h
      cases q : M a with
      | none => rfl
      | some o => rw [x.le a o q] at hp; cases hp
theorem Rows.mat {M M' : Mp} {as : List Addr} {T : Tab} {p : Addr} (x : Rows M M' as T) (hp : M' p = none) : Mat (mset M' p (.lst (as.map D.ref))) p as T ∧ Le M (mset M' p (.lst (as.map D.ref))) := by
  have np : ∀ a ∈ as, a ≠ p := fun a ha => by
    obtain ⟨i, hi, e⟩ := List.mem_iff_getElem.mp ha
    have hT : i < T.length := by rw [← x.len]; exact hi
    exact ne_m (x.row i a T[i] (by rw [List.getElem?_eq_getElem hi, e]) (List.getElem?_eq_getElem hT)) hp
  refine ⟨⟨mset_same, x.len, fun i a r h1 h2 => ?_, x.nd, fun h => np p h rfl⟩, x.le.new hp⟩
  rw [mset_ne (np a (List.mem_of_getElem? h1))]
  exact x.row i a r h1 h2
/-- a matrix's end stored -/
theorem Mat.put {M : Mp} {e : Addr} {as : List Addr} {T : Tab} {p : Nat} {a : Addr} {r r' : List Ed} (m : Mat M e as T) (ha : as[p]? = some a) (hr : T[p]? = some r) : Mat (mset M a (.lst (r'.map oD))) e as (T.set p r') := by
  have nea : e ≠ a := fun h => m.ne (h ▸ List.mem_of_getElem? ha)
  refine ⟨by rw [mset_ne nea]; exact m.top, by rw [List.length_set]; exact m.len, fun i b q h1 h2 => ?_, m.nd, m.ne⟩
  by_cases hi : i = p
  · subst hi
    rw [ha] at h1; cases h1
    rw [List.getElem?_set_self (List.getElem?_eq_some_iff.mp hr).1] at h2
    cases h2
    exact mset_same
  · rw [List.getElem?_set_ne (Ne.symm hi)] at h2
    have : b ≠ a := fun h => by subst h; exact hi (nd_ix m.nd h1 ha)
    rw [mset_ne this]
    exact m.row i b q h1 h2
theorem Mat.at {M : Mp} {e : Addr} {as : List Addr} {T : Tab} {p : Nat} {r : List Ed} (m : Mat M e as T) (hr : T[p]? = some r) : ∃ a, as[p]? = some a ∧ M a = some (.lst (r.map oD)) := by
  have hp : p < as.length := by rw [m.len]; exact (List.getElem?_eq_some_iff.mp hr).1
  exact ⟨as[p], List.getElem?_eq_getElem hp, m.row p _ r (List.getElem?_eq_getElem hp) hr⟩
theorem items_ref {M : Mp} {a : Addr} {ds : List D} (h : M a = some (.lst ds)) : items M (.ref a) = some ds := by
  simp only [items, h]; rfl
theorem atI_nat' {α : Type} {xs : List α} {i : Int} {v : α} (h0 : 0 ≤ i) (h : xs[i.toNat]? = some v) : atI xs i = some v := by
  have e : i = ((i.toNat : Nat) : Int) := by omega
  rw [e]; exact atI_nat h
theorem ixN_nat {n : Nat} {i : Int} (h0 : 0 ≤ i) (h1 : i < n) : ixN n i = some i.toNat := by
  unfold ixN
  rw [if_pos h0, if_pos h1]
theorem ex_lstF {t : TA3} {τ : St3} {M : Mp} {Q : VK3} : wLstF t τ M Q = t τ M fun xs M1 => xs.length ≤ sizeLine ∧ Q (.rol xs) M1 := rfl
theorem ex_repF {te tb : TE3} {τ : St3} {M : Mp} {Q : VK3} : wRepF te tb τ M Q = te τ M fun d M1 => tb τ M1 fun i M2 => asI i fun k => -(2 ^ 63) ≤ k ∧ k < 2 ^ 63 ∧ k.toNat ≤ sizeLine ∧ Q (.rol (List.replicate k.toNat d)) M2 := rfl
theorem ex_lgF1 {ta : TE3} {τ : St3} {M : Mp} {Q : VK3} : wLstRgF1 ta τ M Q = ta τ M fun d M1 => asI d fun n => (-(2 ^ 62) ≤ n ∧ n ≤ 16777216) ∧ Q (.rol (rgD 0 n.toNat)) M1 := rfl
theorem ex_lgF2 {ta tb : TE3} {τ : St3} {M : Mp} {Q : VK3} : wLstRgF2 ta tb τ M Q = ta τ M fun d M1 => tb τ M1 fun e M2 => asI d fun i => asI e fun j => (-(2 ^ 60) ≤ i ∧ i < 2 ^ 60 ∧ -(2 ^ 60) ≤ j ∧ j < 2 ^ 60 ∧ j - i ≤ 16777216) ∧ Q (.rol (rgD i (j - i).toNat)) M2 := rfl
theorem ex_tupRg1 {ta : TE3} {τ : St3} {M : Mp} {Q : VK3} : wTupRg1 ta τ M Q = ta τ M fun d M1 => asI d fun n => (-(2 ^ 62) ≤ n ∧ n ≤ 16777216) ∧ Q (.tup (rgD 0 n.toNat)) M1 := rfl
theorem ex_tupRg2 {ta tb : TE3} {τ : St3} {M : Mp} {Q : VK3} : wTupRg2 ta tb τ M Q = ta τ M fun d M1 => tb τ M1 fun e M2 => asI d fun i => asI e fun j => (-(2 ^ 60) ≤ i ∧ i < 2 ^ 60 ∧ -(2 ^ 60) ≤ j ∧ j < 2 ^ 60 ∧ j - i ≤ 16777216) ∧ Q (.tup (rgD i (j - i).toNat)) M2 := rfl
theorem ex_lcF {wi : TI3} {g : TG3} {tt : TT3} {te : TE3} {vs : List Nat} {τ : St3} {M : Mp} {Q : VK3} : wLcF wi g tt te vs τ M Q = wi τ M fun ds G M1 => lcW G g tt te (wipe3 τ vs) (fun acc M2 => Q (.rol acc) M2) ds [] M1 := rfl
theorem ex_frz {te : TE3} {τ : St3} {M : Mp} {Q : VK3} : wFrz te τ M Q = te τ M (frzK Q) := rfl
theorem frz_l {p : Addr} {ds : List D} {M : Mp} {Q : VK3} (h : M p = some (.lst ds)) : frzK Q (.ref p) M = Q (.rol ds) (mdel M p) := by simp only [frzK, h]
theorem ex_slF {te : TE3} {tl th : PT3o} {τ : St3} {M : Mp} {Q : VK3} : wSlF te tl th τ M Q = te τ M fun d M1 => tl τ M1 fun lo M2 => th τ M2 fun hi M3 => oSlF d lo hi M3 Q := rfl
theorem ex_slM {te : TE3} {tl th : PT3o} {τ : St3} {M : Mp} {Q : VK3} : wSlM te tl th τ M Q = te τ M fun d M1 => tl τ M1 fun lo M2 => th τ M2 fun hi M3 => oSlM d lo hi M3 Q := rfl
theorem sl_tupF {ds : List D} {lo hi : Option Int} {M : Mp} {Q : VK3} : oSlF (.tup ds) lo hi M Q = Q (.tup (cutD ds lo hi)) M := rfl
theorem sl_rolF {ds : List D} {lo hi : Option Int} {M : Mp} {Q : VK3} : oSlF (.rol ds) lo hi M Q = Q (.rol (cutD ds lo hi)) M := rfl
theorem op_iiF {i j : Int} {M : Mp} {Q : VK3} : oAddF (.int i) (.int j) M Q = Q (.int (i + j)) M := rfl
theorem op_ssF {i j : Str} {M : Mp} {Q : VK3} : oAddF (.str i) (.str j) M Q = (i.length + j.length ≤ sizeLine ∧ Q (.str (i ++ j)) M) := rfl
theorem op_ttF {i j : List D} {M : Mp} {Q : VK3} : oAddF (.tup i) (.tup j) M Q = (i.length + j.length ≤ sizeLine ∧ Q (.tup (i ++ j)) M) := rfl
theorem op_rrF {i j : List D} {M : Mp} {Q : VK3} : oAddF (.rol i) (.rol j) M Q = (i.length + j.length ≤ sizeLine ∧ Q (.rol (i ++ j)) M) := rfl
theorem op_rrM {i j : List D} {M : Mp} {Q : VK3} : oAddM (.rol i) (.rol j) M Q = (i.length + j.length ≤ sizeLine ∧ ∀ p, M p = none → Q (.ref p) (mset M p (.lst (i ++ j)))) := rfl
theorem op_mmF {i j : Int} {M : Mp} {Q : VK3} : oMulF (.int i) (.int j) M Q = (IntMulOk i j ∧ Q (.int (i * j)) M) := rfl
theorem op_repF {xs : List D} {e : D} {M : Mp} {Q : VK3} : oMulF (.rol xs) e M Q = asI e fun k => -(2 ^ 63) ≤ k ∧ k < 2 ^ 63 ∧ xs.length * k.toNat ≤ sizeLine ∧ Q (.rol (List.replicate k.toNat xs).flatten) M := rfl
theorem rep2 {x : D} : List.replicate (Int.toNat 2) x = [x, x] := rfl
theorem li_rol {M : Mp} {ds : List D} : lstI M (.rol ds) = some ds := rfl
theorem li_ref {M : Mp} {a : Addr} : lstI M (.ref a) = lstOf (M a) := rfl
theorem bl_listF {M : Mp} {d : D} {Q : VK3} : bListF [d] M Q = asL (items M d) fun ds => Q (.rol ds) M := rfl
theorem bl_allF {M : Mp} {d : D} {Q : VK3} : bAllF [d] M Q = asL (lstI M d) fun ds => asT (bls ds) fun l => Q (.bl (l.all id)) M := rfl
theorem bl_anyF {M : Mp} {d : D} {Q : VK3} : bAnyF [d] M Q = asL (lstI M d) fun ds => asT (bls ds) fun l => Q (.bl (l.any id)) M := rfl
theorem asT_some {l : List Bool} {k : List Bool → Prop} : asT (some l) k = k l := rfl
theorem asJ_some {l : List Int} {k : List Int → Prop} : asJ (some l) k = k l := rfl
theorem op_extF {a : Addr} {e : D} {M : Mp} {Q : VK3} : oExtF (.ref a) [e] M Q = asL (lstOf (M a)) fun xs => asL (lstI M e) fun ys => xs.length + ys.length ≤ sizeLine ∧ Q .non (mset M a (.lst (xs ++ ys))) := rfl
theorem op_eqLf {x : List D} {e : D} {M : Mp} {Q : VK3} : oEq false (.rol x) e M Q = (Pl (.rol x) ∧ Pl (top M e) ∧ Q (.bl (eqD (.rol x) (top M e))) M) := rfl
theorem op_eqLt {x : List D} {e : D} {M : Mp} {Q : VK3} : oEq true (.rol x) e M Q = (Pl (.rol x) ∧ Pl (top M e) ∧ Q (.bl (!eqD (.rol x) (top M e))) M) := rfl
theorem op_eqBf {x : Bool} {e : D} {M : Mp} {Q : VK3} : oEq false (.bl x) e M Q = (Pl (.bl x) ∧ Pl (top M e) ∧ Q (.bl (eqD (.bl x) (top M e))) M) := rfl
theorem op_eqBt {x : Bool} {e : D} {M : Mp} {Q : VK3} : oEq true (.bl x) e M Q = (Pl (.bl x) ∧ Pl (top M e) ∧ Q (.bl (!eqD (.bl x) (top M e))) M) := rfl
theorem it_enumF {t : TA3} {τ : St3} {M : Mp} {R : List D → (Mp → Prop) → Mp → Prop} : wEnum t τ M R = t τ M fun ds M1 => match ds with
  | [d] => asL (items M1 d) fun xs => R (enD xs) (keepG M1 d xs) M1
  | _ => False := rfl
theorem bls_map {α : Type} (g : α → Bool) : ∀ l : List α, bls (l.map fun x => D.bl (g x)) = some (l.map g)
  | [] => rfl
  | x :: r => by
    show (bls (r.map fun x => D.bl (g x))).map (g x :: ·) = _
    rw [bls_map g r]; rfl
/-- a comprehension over items by what they are made of -/
theorem lc_of {α : Type} {G : Mp → Prop} {g : TG3} {te : TE3} {τ : St3} {Q : List D → Mp → Prop} {M : Mp} (enc : α → D) (f : α → D) (hG : G M) (xs : List α) (hl : xs.length ≤ sizeLine)
    (h : ∀ x ∈ xs, ∀ k : D → Mp → Prop, k (f x) M → g (enc x) τ M fun τ2 M2 => te τ2 M2 k) (q : Q (xs.map f) M) : lcW G g wYes te τ Q (xs.map enc) [] M := by
  have go : ∀ (ys : List α) (acc : List D), acc.length + ys.length ≤ sizeLine → (∀ x ∈ ys, x ∈ xs) → Q (acc ++ ys.map f) M → lcW G g wYes te τ Q (ys.map enc) acc M := by
    intro ys
    induction ys with
    | nil => intro acc _ _ q; exact ⟨hG, by simpa using q⟩
    | cons y ys ih =>
      intro acc hl hm q
      refine ⟨hG, h y (hm y (by simp)) _ ⟨by simp at hl; omega, ih _ (by simp at hl ⊢; omega) (fun x hx => hm x (by simp [hx])) (by simpa using q)⟩⟩
  exact go xs [] (by simpa using hl) (fun _ h => h) (by simpa using q)
/-- .. some of them -/
theorem lc_if {α : Type} {G : Mp → Prop} {g : TG3} {tt : TT3} {te : TE3} {τ : St3} {Q : List D → Mp → Prop} {M : Mp} (enc : α → D) (c : α → Bool) (f : α → D) (hG : G M) (xs : List α) (hl : xs.length ≤ sizeLine)
    (h : ∀ x ∈ xs, ∀ k : D → Mp → Prop, ∀ k2 : Mp → Prop, (c x = true → k (f x) M) → (c x = false → k2 M) → g (enc x) τ M fun τ2 M2 => tt τ2 M2 fun b M3 => ite3 b (te τ2 M3 k) (k2 M3)) (q : Q ((xs.filter c).map f) M) : lcW G g tt te τ Q (xs.map enc) [] M := by
  have go : ∀ (ys : List α) (acc : List D), acc.length + ys.length ≤ sizeLine → (∀ x ∈ ys, x ∈ xs) → Q (acc ++ (ys.filter c).map f) M → lcW G g tt te τ Q (ys.map enc) acc M := by
    intro ys
    induction ys with
    | nil => intro acc _ _ q; exact ⟨hG, by simpa using q⟩
    | cons y ys ih =>
      intro acc hl hm q
      refine ⟨hG, h y (hm y (by simp)) _ _ (fun hc => ⟨by simp at hl; omega, ih _ (by simp at hl ⊢; omega) (fun x hx => hm x (by simp [hx])) ?_⟩) fun hc => ih _ (by simp at hl ⊢; omega) (fun x hx => hm x (by simp [hx])) ?_⟩
      · simpa [List.filter_cons, hc] using q
      · simpa [List.filter_cons, hc] using q
  exact go xs [] (by simpa using hl) (fun _ h => h) (by simpa using q)
/-- over items by what they are made of -/
theorem for_of {α : Type} {G : Mp → Prop} {g : TG3} {tb : TS3} {E : Ends3} {xs : List α} (enc : α → D) (Pv : Nat → St3 → Mp → Prop) (hG : ∀ i τ M, Pv i τ M → G M)
    (step : ∀ i x τ M, xs[i]? = some x → Pv i τ M → ∀ X : St3 → Mp → Prop, (∀ τ' M', Pv (i + 1) τ' M' → X τ' M') → g (enc x) τ M fun τ2 M2 => tb { E with nx := X, ct := X, bk := E.nx } τ2 M2)
    (fin : ∀ τ M, Pv xs.length τ M → E.nx τ M) {τ : St3} {M : Mp} (h0 : Pv 0 τ M) : forW G g tb E (xs.map enc) τ M :=
  for_pv Pv (fun i d τ M hd p X hX => by
    rw [List.getElem?_map] at hd
    obtain ⟨x, hx, rfl⟩ := Option.map_eq_some_iff.mp hd
    exact ⟨hG i τ M p, step i x τ M hx p X hX⟩) (fun τ M p => ⟨hG _ τ M p, fin τ M (by rw [List.length_map] at p; exact p)⟩) h0
end L3
set_option Elab.async false
set_option linter.all false
set_option maxRecDepth 100000
set_option maxHeartbeats 4000000
namespace L3
open PySem PySem.Spec PyProof.Rows L2
def asN (o : Option Nat) (k : Nat → Prop) : Prop := match o with
  | some n => k n
  | none => False
theorem asN_some {n : Nat} {k : Nat → Prop} : asN (some n) k = k n := rfl
theorem exL {xs : List D} : (∃ ds, some (MO.lst xs) = some (MO.lst ds)) = True := eq_true ⟨xs, rfl⟩
theorem op_putE {a : Addr} {k : Int} {v : D} {M : Mp} {Q : Mp → Prop} : oPut (.ref a) (.int k) v M Q = asL (lstOf (M a)) fun ds => asN (ixN ds.length k) fun j => Q (mset M a (.lst (ds.set j v))) := by
  simp only [oPut]
  cases M a with
  | none => rfl
  | some o =>
    cases o with
    | lst ds =>
      simp only [lstOf_l, asL_some]
      cases ixN ds.length k <;> rfl
    | _ => rfl
theorem op_appE {a : Addr} {y : D} {M : Mp} {Q : VK3} : oApp (.ref a) [y] M Q = asL (lstOf (M a)) fun xs => xs.length < sizeLine ∧ Q .non (mset M a (.lst (xs ++ [y]))) := by
  simp only [oApp]
  cases M a with
  | none => rfl
  | some o => cases o <;> rfl
theorem keep_ref {M : Mp} {a : Addr} {ds : List D} : keepG M (.ref a) ds = fun M' => M' a = some (.lst ds) := rfl
theorem keep_tup {M : Mp} {xs ds : List D} : keepG M (.tup xs) ds = fun _ => True := rfl
theorem keep_rol {M : Mp} {xs ds : List D} : keepG M (.rol xs) ds = fun _ => True := rfl
theorem tp_int {M : Mp} {i : Int} : top M (.int i) = .int i := rfl
theorem tp_tup {M : Mp} {i : List D} : top M (.tup i) = .tup i := rfl
theorem tp_rol {M : Mp} {i : List D} : top M (.rol i) = .rol i := rfl
theorem tp_str {M : Mp} {i : Str} : top M (.str i) = .str i := rfl
theorem tp_bl {M : Mp} {i : Bool} : top M (.bl i) = .bl i := rfl
theorem tp_non {M : Mp} : top M .non = .non := rfl
def topOf (a : Addr) : Option MO → D
  | some (.lst ds) => .rol ds
  | _ => .ref a
theorem topOf_l {a : Addr} {ds : List D} : topOf a (some (.lst ds)) = .rol ds := rfl
theorem tp_ref {M : Mp} {a : Addr} : top M (.ref a) = topOf a (M a) := by
  simp only [top]
  cases M a with
  | none => rfl
  | some o => cases o <;> rfl
theorem wipe_nil {τ : St3} : wipe3 τ [] = τ := rfl
theorem wipe_cons {τ : St3} {v : Nat} {vs : List Nat} : wipe3 τ (v :: vs) = setS (wipe3 τ vs) v none := rfl
theorem isN_int {i : Int} : isN (.int i) = false := rfl
theorem isN_non : isN .non = true := rfl
theorem sz_0 : (([] : List D).length ≤ sizeLine) = True := eq_true (by show 0 ≤ sizeLine; decide)
theorem sz_1 {x0 : D} : (([x0] : List D).length ≤ sizeLine) = True := eq_true (by show 1 ≤ sizeLine; decide)
theorem sz_2 {x0 x1 : D} : (([x0, x1] : List D).length ≤ sizeLine) = True := eq_true (by show 2 ≤ sizeLine; decide)
theorem sz_3 {x0 x1 x2 : D} : (([x0, x1, x2] : List D).length ≤ sizeLine) = True := eq_true (by show 3 ≤ sizeLine; decide)
theorem sz_4 {x0 x1 x2 x3 : D} : (([x0, x1, x2, x3] : List D).length ≤ sizeLine) = True := eq_true (by show 4 ≤ sizeLine; decide)
theorem sz_5 {x0 x1 x2 x3 x4 : D} : (([x0, x1, x2, x3, x4] : List D).length ≤ sizeLine) = True := eq_true (by show 5 ≤ sizeLine; decide)
theorem sz_6 {x0 x1 x2 x3 x4 x5 : D} : (([x0, x1, x2, x3, x4, x5] : List D).length ≤ sizeLine) = True := eq_true (by show 6 ≤ sizeLine; decide)
theorem sz_7 {x0 x1 x2 x3 x4 x5 x6 : D} : (([x0, x1, x2, x3, x4, x5, x6] : List D).length ≤ sizeLine) = True := eq_true (by show 7 ≤ sizeLine; decide)
theorem sz_8 {x0 x1 x2 x3 x4 x5 x6 x7 : D} : (([x0, x1, x2, x3, x4, x5, x6, x7] : List D).length ≤ sizeLine) = True := eq_true (by show 8 ≤ sizeLine; decide)
theorem sz_9 {x0 x1 x2 x3 x4 x5 x6 x7 x8 : D} : (([x0, x1, x2, x3, x4, x5, x6, x7, x8] : List D).length ≤ sizeLine) = True := eq_true (by show 9 ≤ sizeLine; decide)
theorem sz_10 {x0 x1 x2 x3 x4 x5 x6 x7 x8 x9 : D} : (([x0, x1, x2, x3, x4, x5, x6, x7, x8, x9] : List D).length ≤ sizeLine) = True := eq_true (by show 10 ≤ sizeLine; decide)
theorem sz_11 {x0 x1 x2 x3 x4 x5 x6 x7 x8 x9 x10 : D} : (([x0, x1, x2, x3, x4, x5, x6, x7, x8, x9, x10] : List D).length ≤ sizeLine) = True := eq_true (by show 11 ≤ sizeLine; decide)
theorem sz_12 {x0 x1 x2 x3 x4 x5 x6 x7 x8 x9 x10 x11 : D} : (([x0, x1, x2, x3, x4, x5, x6, x7, x8, x9, x10, x11] : List D).length ≤ sizeLine) = True := eq_true (by show 12 ≤ sizeLine; decide)
/-- a holds three numbers -/
def Feed (M : Mp) (a : Addr) : Prop := ∃ g m c : Int, M a = some (.lst [.int g, .int m, .int c])
/-- a alone was written -/
def Only (a : Addr) (M M' : Mp) : Prop := ∀ b, b ≠ a → M' b = M b
theorem Only.refl {a : Addr} {M : Mp} : Only a M M := fun _ _ => rfl
theorem Only.trans {a : Addr} {M M1 M2 : Mp} (x : Only a M M1) (y : Only a M1 M2) : Only a M M2 := fun b h => (y b h).trans (x b h)
theorem Only.set {a : Addr} {M M1 : Mp} {o : MO} (x : Only a M M1) : Only a M (mset M1 a o) := fun b h => by rw [mset_ne h]; exact x b h
theorem at_30 {x y z : D} : atI [x, y, z] 0 = some x := rfl
theorem at_31 {x y z : D} : atI [x, y, z] 1 = some y := rfl
theorem at_32 {x y z : D} : atI [x, y, z] 2 = some z := rfl
theorem ix_30 {x y z : D} : ixN [x, y, z].length 0 = some 0 := rfl
theorem ix_32 {x y z : D} : ixN [x, y, z].length 2 = some 2 := rfl
theorem set_30 {x y z w : D} : [x, y, z].set 0 w = [w, y, z] := rfl
theorem set_32 {x y z w : D} : [x, y, z].set 2 w = [x, y, w] := rfl
def nextR (k : Int) : XK3 → TS3 := fun E =>
  (wSeq (wIfS (wB (wOp oGt (wOp oIx (wVar 0) (wC (.int 0))) (wC (.int 0)))) (wSeq (wSet 2 (wOp oMd (wOp oIx (wVar 0) (wC (.int 0))) (wVar 1)))
  (wSeq (wAsg (wOp oFd (wOp oIx (wVar 0) (wC (.int 0))) (wVar 1)) (wgSub (wVar 0) (wC (.int 0)) oPut))
  (wRet (wVar 2)))) wNext)
  (wSeq (wAsg (wOp oAddF (wOp oIx (wVar 0) (wC (.int 2))) (wC (.int 1))) (wgSub (wVar 0) (wC (.int 2)) oPut))
  (wSeq (wSet 3 (wOp oMd (wOp oAddF (wOp oIx (wVar 0) (wC (.int 1))) (wOp oMulF (wC (.int 11400714819323198485)) (wOp oIx (wVar 0) (wC (.int 2))))) (wC (.int 18446744073709551557))))
  (wSeq (wSet 3 (wOp oMd (wOp oMulF (wVar 3) (wOp oAddF (wOp oMd (wVar 3) (wC (.int 4294967291))) (wC (.int k)))) (wC (.int 2305843009213693951))))
  (wRet (wOp oMd (wOp oFd (wOp oMd (wOp oMulF (wVar 3) (wVar 3)) (wC (.int 2305843009213693921))) (wC (.int 2048))) (wVar 1)))))))
theorem md_in {x n : Int} (h : 0 < n) : 0 ≤ x.fmod n ∧ x.fmod n < n := ⟨Int.fmod_nonneg_of_pos _ h, Int.fmod_lt_of_pos _ h⟩
theorem mulL {i j : Int} (h : 0 ≤ i) (h1 : i < 2 ^ 64) : IntMulOk i j := CMul.ok (.inl ⟨by omega, h1⟩)
theorem mulR {i j : Int} (h : 0 ≤ j) (h1 : j < 2 ^ 64) : IntMulOk i j := CMul.ok (.inr ⟨by omega, h1⟩)
theorem fdOk {n : Int} (h : 0 < n) (h1 : n < 2 ^ 64) : CFd 0 n := by
  refine ⟨by omega, ?_⟩
  have e : n.natAbs ≠ 0 := by omega
  have := (Nat.log2_lt e (k := 64)).mpr (by omega)
  omega
theorem next_ok {k : Int} (hk : 0 ≤ k ∧ k < 100) {a : Addr} {n : Int} {M : Mp} {Q : VK3} {E : XK3} (f : Feed M a) (h0 : 0 < n) (hn : n < 2 ^ 64)
    (q : ∀ r M', 0 ≤ r → r < n → Feed M' a → Only a M M' → Q (.int r) M') : spOf 2 4 (nextR k) [.ref a, .int n] M Q E := by
  obtain ⟨g, m, c, h⟩ := f
  refine ⟨rfl, ?_⟩
  show nextR k E _ [some (.ref a), some (.int n), none, none] M
  unfold nextR
  simp only [st_seq, st_next, st_break, st_cont, st_set, st_ret, st_retN, st_drop, st_if, st_asg, st_par, st_for, ex_c, ex_var, ex_op, ex_un, ex_b, ex_and, ex_or, ex_not, ex_andV, ex_orV, ex_notV, ex_if, ex_chain, ex_nil, ex_cons, ex_tup, ex_lst, ex_call, ex_callP, ex_cb, ex_bm, ex_rep, ex_lc, ex_sl, ex_noPart, ex_part, ex_yes, it_items, it_rng1, it_rng2, tg_name, tg_sub, tg_tup, tg_cons, tg_nil, gs_0, gs_s, ss_0, ss_s, op_ii, op_ss, op_tt, op_mm, op_sb, op_ng, op_iNf, op_iNt, op_lle, op_ixT, op_ixR, op_ixL, op_putE, op_appE, it_tupE, it_rolE, it_refE, lstOf_l, exL, asS_some, asI_int, asB_bl, asL_some, asN_some, ite3_t, ite3_f, bl_1, bl_lenT, bl_lenR, bl_lenL, bl_lenS, bl_tuple, bl_list, bl_abs, bl_intI, bl_intB, bl_max, bl_min, bl_repr, op_eqSf, op_eqSt, op_eqIf, op_eqIt, op_eqTf, op_eqTt, op_eqRf, op_eqRt, op_eqNf, op_eqNt, eqD_int, eqD_nil, pl_int, pl_nil, pl_non, pl_rnil, pl_bl, sl_tupE, sl_rolE, keep_ref, keep_tup, keep_rol, tp_int, tp_tup, tp_rol, tp_str, tp_bl, tp_non, tp_ref, oFd, oMd, oPw, oShl, oLt, oLe, oGt, oGe, op_in, op_cp, wipe_nil, wipe_cons, mset_same, true_and, and_true, isN_int, sz_0, sz_1, sz_2, sz_3, sz_4, sz_5, sz_6, sz_7, sz_8, sz_9, sz_10, sz_11, sz_12, ex_lstF, ex_repF, ex_lgF1, ex_lgF2, ex_tupRg1, ex_tupRg2, ex_lcF, ex_frz, ex_slF, ex_slM, sl_tupF, sl_rolF, op_iiF, op_ssF, op_ttF, op_rrF, op_rrM, op_mmF, op_repF, li_rol, li_ref, bl_listF, bl_allF, bl_anyF, asT_some, asJ_some, op_eqLf, op_eqLt, op_eqBf, op_eqBt, isN_non, Bool.not_true, Bool.not_false, h, at_30, at_31, at_32, ix_30, ix_32, set_30, set_32]
  have hn0 : n ≠ 0 := by omega
  have fo : ∀ x, CFd x n := fun x => fdOk h0 hn
  refine ite3_by (fun hg => ?_) (fun hg => ?_)
  · refine ⟨hn0, fo _, q _ _ (md_in h0).1 (md_in h0).2 ⟨_, _, _, mset_same⟩ (Only.refl.set)⟩
  · have b1 := md_in (x := m + 11400714819323198485 * (c + 1)) (n := 18446744073709551557) (by decide)
    have b2 := md_in (x := (m + 11400714819323198485 * (c + 1)).fmod 18446744073709551557) (n := 4294967291) (by decide)
    refine ⟨mulL (by decide) (by decide), by decide, by decide, mulR (by omega) (by omega), by decide, ?_⟩
    generalize hx : ((m + 11400714819323198485 * (c + 1)).fmod 18446744073709551557 * (((m + 11400714819323198485 * (c + 1)).fmod 18446744073709551557).fmod 4294967291 + k)) = x
    have b3 := md_in (x := x) (n := 2305843009213693951) (by decide)
    refine ⟨mulL b3.1 (by omega), by decide, fdOk (by decide) (by decide), hn0, q _ _ (md_in h0).1 (md_in h0).2 ⟨_, _, _, mset_same⟩ (Only.refl.set)⟩
/-- what a draw keeps -/
def SNext (sp : Sp3) : Prop := ∀ (a : Addr) (n : Int) (M : Mp) (Q : VK3) (E : XK3), Feed M a → 0 < n → n < 2 ^ 64 → (∀ r M', 0 ≤ r → r < n → Feed M' a → Only a M M' → Q (.int r) M') → sp [.ref a, .int n] M Q E
theorem s_next {k : Int} (hk : 0 ≤ k ∧ k < 100) : SNext (spOf 2 4 (nextR k)) := fun _ _ _ _ _ f h0 hn q => next_ok hk f h0 hn q
end L3
set_option Elab.async false
set_option linter.all false
set_option maxRecDepth 100000
set_option maxHeartbeats 4000000
namespace L3
open PySem PySem.Spec PyProof.Rows L2
def drawsR (c k1 k2 k3 : Int) : XK3 → TS3 := fun E =>
  (wSeq (wPar 1 2 (wCons (wC (.int 0)) (wCons (wOp oAddF (wC (.int c)) (wOp oMulF (wC (.int k1)) (wCB bLen (wCons (wVar 0) wNil)))) wNil)))
  (wSeq (wFor (wItems (wSlF (wVar 0) wNoPart (wPart (wC (.int 60))))) (wgName 3) (wSeq (wSet 2 (wOp oMd (wOp oAddF (wOp oAddF (wOp oAddF (wOp oMulF (wVar 2) (wC (.int 1000003))) (wOp oMulF (wC (.int 2)) (wCB bAbs (wCons (wVar 3) wNil)))) (wCB bInt (wCons (wOp oLt (wVar 3) (wC (.int 0))) wNil))) (wC (.int k2))) (wC (.int 2305843009213693951))))
  (wIfS (wB (wOp oGe (wCB bAbs (wCons (wVar 3) wNil)) (wOp oPw (wC (.int 10)) (wC (.int 18))))) (wSet 1 (wOp oAddF (wOp oMulF (wVar 1) (wC (.int k3))) (wCB bAbs (wCons (wVar 3) wNil)))) wNext)))
  (wRet (wLst (wCons (wVar 1) (wCons (wVar 2) (wCons (wC (.int 0)) wNil)))))))
theorem st_parE {i j : Nat} {d e : D} {D1 : Ends3} {τ : St3} {M : Mp} {ta tb : TE3} : wPar i j (wCons ta (wCons tb wNil)) D1 τ M = ta τ M fun d M1 => tb τ M1 fun e M2 => D1.nx (setS (setS τ i (some d)) j (some e)) M2 := rfl
theorem cpow18 : CPow 10 18 := ⟨by decide, by decide, by decide⟩
theorem cut_mem {ds : List D} {lo hi : Option Int} {d : D} (h : d ∈ cutD ds lo hi) : d ∈ ds := List.mem_of_mem_drop (List.mem_of_mem_take h)
theorem draws_ok {c k1 k2 k3 : Int} (hk : (0 ≤ k1 ∧ k1 < 100) ∧ (0 ≤ k3 ∧ k3 < 100)) {ns : List Int} {M : Mp} {Q : VK3} {E : XK3}
    (q : ∀ a M', M a = none → Feed M' a → Only a M M' → Q (.ref a) M') : spOf 1 4 (drawsR c k1 k2 k3) [.rol (ns.map D.int)] M Q E := by
  refine ⟨rfl, ?_⟩
  show drawsR c k1 k2 k3 E _ [some (.rol (ns.map D.int)), none, none, none] M
  unfold drawsR
  rw [st_seq, st_parE (d := .non) (e := .non)]
  simp only [st_seq, st_next, st_break, st_cont, st_set, st_ret, st_retN, st_drop, st_if, st_asg, st_par, st_for, ex_c, ex_var, ex_op, ex_un, ex_b, ex_and, ex_or, ex_not, ex_andV, ex_orV, ex_notV, ex_if, ex_chain, ex_nil, ex_cons, ex_tup, ex_lst, ex_call, ex_callP, ex_cb, ex_bm, ex_rep, ex_lc, ex_sl, ex_noPart, ex_part, ex_yes, it_items, it_rng1, it_rng2, tg_name, tg_sub, tg_tup, tg_cons, tg_nil, gs_0, gs_s, ss_0, ss_s, op_ii, op_ss, op_tt, op_mm, op_sb, op_ng, op_iNf, op_iNt, op_lle, op_ixT, op_ixR, op_ixL, op_putE, op_appE, it_tupE, it_rolE, it_refE, lstOf_l, exL, asS_some, asI_int, asB_bl, asL_some, asN_some, ite3_t, ite3_f, bl_1, bl_lenT, bl_lenR, bl_lenL, bl_lenS, bl_tuple, bl_list, bl_abs, bl_intI, bl_intB, bl_max, bl_min, bl_repr, op_eqSf, op_eqSt, op_eqIf, op_eqIt, op_eqTf, op_eqTt, op_eqRf, op_eqRt, op_eqNf, op_eqNt, eqD_int, eqD_nil, pl_int, pl_nil, pl_non, pl_rnil, pl_bl, sl_tupE, sl_rolE, keep_ref, keep_tup, keep_rol, tp_int, tp_tup, tp_rol, tp_str, tp_bl, tp_non, tp_ref, oFd, oMd, oPw, oShl, oLt, oLe, oGt, oGe, op_in, op_cp, wipe_nil, wipe_cons, mset_same, true_and, and_true, isN_int, sz_0, sz_1, sz_2, sz_3, sz_4, sz_5, sz_6, sz_7, sz_8, sz_9, sz_10, sz_11, sz_12, ex_lstF, ex_repF, ex_lgF1, ex_lgF2, ex_tupRg1, ex_tupRg2, ex_lcF, ex_frz, ex_slF, ex_slM, sl_tupF, sl_rolF, op_iiF, op_ssF, op_ttF, op_rrF, op_rrM, op_mmF, op_repF, li_rol, li_ref, bl_listF, bl_allF, bl_anyF, asT_some, asJ_some, op_eqLf, op_eqLt, op_eqBf, op_eqBt, isN_non, Bool.not_true, Bool.not_false]
  refine ⟨mulL hk.1.1 (by omega), ?_⟩
  refine for_pv (fun _ τ M' => M' = M ∧ ∃ g m x, τ = [x, some (.int g), some (.int m), (getS τ 3)]) ?_ ?_ ⟨rfl, _, _, _, rfl⟩
  · rintro i d τ M' hd ⟨rfl, g, m, x, hτ⟩ X hX
    have hm := cut_mem (List.mem_of_getElem? hd)
    obtain ⟨z, hz, rfl⟩ := List.mem_map.mp hm
    rw [hτ]
    refine ⟨True.intro, ?_⟩
    simp only [st_seq, st_next, st_break, st_cont, st_set, st_ret, st_retN, st_drop, st_if, st_asg, st_par, st_for, ex_c, ex_var, ex_op, ex_un, ex_b, ex_and, ex_or, ex_not, ex_andV, ex_orV, ex_notV, ex_if, ex_chain, ex_nil, ex_cons, ex_tup, ex_lst, ex_call, ex_callP, ex_cb, ex_bm, ex_rep, ex_lc, ex_sl, ex_noPart, ex_part, ex_yes, it_items, it_rng1, it_rng2, tg_name, tg_sub, tg_tup, tg_cons, tg_nil, gs_0, gs_s, ss_0, ss_s, op_ii, op_ss, op_tt, op_mm, op_sb, op_ng, op_iNf, op_iNt, op_lle, op_ixT, op_ixR, op_ixL, op_putE, op_appE, it_tupE, it_rolE, it_refE, lstOf_l, exL, asS_some, asI_int, asB_bl, asL_some, asN_some, ite3_t, ite3_f, bl_1, bl_lenT, bl_lenR, bl_lenL, bl_lenS, bl_tuple, bl_list, bl_abs, bl_intI, bl_intB, bl_max, bl_min, bl_repr, op_eqSf, op_eqSt, op_eqIf, op_eqIt, op_eqTf, op_eqTt, op_eqRf, op_eqRt, op_eqNf, op_eqNt, eqD_int, eqD_nil, pl_int, pl_nil, pl_non, pl_rnil, pl_bl, sl_tupE, sl_rolE, keep_ref, keep_tup, keep_rol, tp_int, tp_tup, tp_rol, tp_str, tp_bl, tp_non, tp_ref, oFd, oMd, oPw, oShl, oLt, oLe, oGt, oGe, op_in, op_cp, wipe_nil, wipe_cons, mset_same, true_and, and_true, isN_int, sz_0, sz_1, sz_2, sz_3, sz_4, sz_5, sz_6, sz_7, sz_8, sz_9, sz_10, sz_11, sz_12, ex_lstF, ex_repF, ex_lgF1, ex_lgF2, ex_tupRg1, ex_tupRg2, ex_lcF, ex_frz, ex_slF, ex_slM, sl_tupF, sl_rolF, op_iiF, op_ssF, op_ttF, op_rrF, op_rrM, op_mmF, op_repF, li_rol, li_ref, bl_listF, bl_allF, bl_anyF, asT_some, asJ_some, op_eqLf, op_eqLt, op_eqBf, op_eqBt, isN_non, Bool.not_true, Bool.not_false]
    have b1 := md_in (x := m * 1000003 + 2 * (if z < 0 then -z else z) + (if decide (z < 0) = true then 1 else 0) + k2) (n := 2305843009213693951) (by decide)
    refine ⟨mulR (by decide) (by decide), mulL (by decide) (by decide), by decide, cpow18, ?_⟩
    refine ite3_by (fun _ => ?_) (fun _ => ?_)
    · exact ⟨mulR hk.2.1 (by omega), hX _ _ ⟨rfl, _, _, _, rfl⟩⟩
    · exact hX _ _ ⟨rfl, _, _, _, rfl⟩
  · rintro τ M' ⟨rfl, g, m, x, hτ⟩
    rw [hτ]
    refine ⟨True.intro, ?_⟩
    simp only [st_seq, st_next, st_break, st_cont, st_set, st_ret, st_retN, st_drop, st_if, st_asg, st_par, st_for, ex_c, ex_var, ex_op, ex_un, ex_b, ex_and, ex_or, ex_not, ex_andV, ex_orV, ex_notV, ex_if, ex_chain, ex_nil, ex_cons, ex_tup, ex_lst, ex_call, ex_callP, ex_cb, ex_bm, ex_rep, ex_lc, ex_sl, ex_noPart, ex_part, ex_yes, it_items, it_rng1, it_rng2, tg_name, tg_sub, tg_tup, tg_cons, tg_nil, gs_0, gs_s, ss_0, ss_s, op_ii, op_ss, op_tt, op_mm, op_sb, op_ng, op_iNf, op_iNt, op_lle, op_ixT, op_ixR, op_ixL, op_putE, op_appE, it_tupE, it_rolE, it_refE, lstOf_l, exL, asS_some, asI_int, asB_bl, asL_some, asN_some, ite3_t, ite3_f, bl_1, bl_lenT, bl_lenR, bl_lenL, bl_lenS, bl_tuple, bl_list, bl_abs, bl_intI, bl_intB, bl_max, bl_min, bl_repr, op_eqSf, op_eqSt, op_eqIf, op_eqIt, op_eqTf, op_eqTt, op_eqRf, op_eqRt, op_eqNf, op_eqNt, eqD_int, eqD_nil, pl_int, pl_nil, pl_non, pl_rnil, pl_bl, sl_tupE, sl_rolE, keep_ref, keep_tup, keep_rol, tp_int, tp_tup, tp_rol, tp_str, tp_bl, tp_non, tp_ref, oFd, oMd, oPw, oShl, oLt, oLe, oGt, oGe, op_in, op_cp, wipe_nil, wipe_cons, mset_same, true_and, and_true, isN_int, sz_0, sz_1, sz_2, sz_3, sz_4, sz_5, sz_6, sz_7, sz_8, sz_9, sz_10, sz_11, sz_12, ex_lstF, ex_repF, ex_lgF1, ex_lgF2, ex_tupRg1, ex_tupRg2, ex_lcF, ex_frz, ex_slF, ex_slM, sl_tupF, sl_rolF, op_iiF, op_ssF, op_ttF, op_rrF, op_rrM, op_mmF, op_repF, li_rol, li_ref, bl_listF, bl_allF, bl_anyF, asT_some, asJ_some, op_eqLf, op_eqLt, op_eqBf, op_eqBt, isN_non, Bool.not_true, Bool.not_false]
    exact fun p2 hp2 => q p2 _ hp2 ⟨_, _, _, mset_same⟩ Only.refl.set
def SDraws (sp : Sp3) : Prop := ∀ (ns : List Int) (M : Mp) (Q : VK3) (E : XK3), (∀ a M', M a = none → Feed M' a → Only a M M' → Q (.ref a) M') → sp [.rol (ns.map D.int)] M Q E
theorem s_draws {c k1 k2 k3 : Int} (hk : (0 ≤ k1 ∧ k1 < 100) ∧ (0 ≤ k3 ∧ k3 < 100)) : SDraws (spOf 1 4 (drawsR c k1 k2 k3)) := fun _ _ _ _ q => draws_ok hk q
structure Tm (h n : Nat) (d : D) : Prop where
  p : plain d = true
  dp : deep d ≤ h
  ok : showOk d = true
  sh : (pdOf d).leavesShort 120 = true
  bk : (pdOf d).bulk ≤ n
theorem Tm.int {i : Int} (hi : i.natAbs < 10 ^ 100) : Tm 0 0 (.int i) := by
  refine ⟨rfl, Nat.le_refl _, ?_, ?_, Nat.le_refl _⟩
  · unfold showOk
    rw [decide_eq_true_eq]
    by_cases e : i.natAbs = 0
    · rw [e]; decide
    · exact (Nat.log2_lt e).mpr (Nat.lt_of_lt_of_le hi (by decide +kernel))
  · show decide ((PyData.shown (.int i)).length ≤ 120) = true
    rw [decide_eq_true_eq]
    have e := int_text_length_le10 (k := 100) (by decide) hi
    show (Str.ofString (toString i)).length ≤ 120
    rw [PySem.ofString_length]
    omega
theorem Tm.non : Tm 0 0 .non := ⟨rfl, Nat.le_refl _, rfl, rfl, Nat.le_refl _⟩
theorem Tm.bl {b : Bool} : Tm 0 0 (.bl b) := ⟨rfl, Nat.le_refl _, rfl, rfl, Nat.le_refl _⟩
theorem Tm.mono {h n h' n' : Nat} {d : D} (t : Tm h n d) (a : h ≤ h') (b : n ≤ n') : Tm h' n' d := ⟨t.p, Nat.le_trans t.dp a, t.ok, t.sh, Nat.le_trans t.bk b⟩
theorem tms {h n : Nat} : ∀ ds : List D, (∀ d ∈ ds, Tm h n d) → plains ds = true ∧ deeps ds ≤ h ∧ showOks ds = true ∧ PyData.leavesShortAll 120 (pdsOf ds) = true ∧ PyData.bulkAll (pdsOf ds) ≤ ds.length * (n + 1)
  | [], _ => ⟨rfl, Nat.zero_le _, rfl, rfl, by simp [pdsOf, PyData.bulkAll]⟩
  | d :: ds, a => by
    obtain ⟨h1, h2, h3, h4, h5⟩ := tms ds fun x hx => a x (by simp [hx])
    have t := a d (by simp)
    refine ⟨by simp [plains, t.p, h1], ?_, by simp [showOks, t.ok, h3], by simp [pdsOf, PyData.leavesShortAll, t.sh, h4], ?_⟩
    · simp only [deeps]
      exact Nat.max_le.mpr ⟨t.dp, h2⟩
    · simp only [pdsOf, PyData.bulkAll, List.length_cons]
      have := t.bk
      rw [Nat.add_mul]
      omega
theorem Tm.tup {h n m : Nat} {ds : List D} (a : ∀ d ∈ ds, Tm h n d) (l : ds.length ≤ m) : Tm (h + 1) (m * (n + 1)) (.tup ds) := by
  obtain ⟨h1, h2, h3, h4, h5⟩ := tms ds a
  refine ⟨by simpa [plain] using h1, by simp only [deep]; omega, by simpa [showOk] using h3, by simpa [pdOf, PyData.leavesShort] using h4, ?_⟩
  simp only [pdOf, PyData.bulk]
  exact Nat.le_trans h5 (Nat.mul_le_mul_right _ l)
theorem Tm.rol {h n m : Nat} {ds : List D} (a : ∀ d ∈ ds, Tm h n d) (l : ds.length ≤ m) : Tm (h + 1) (m * (n + 1)) (.rol ds) := by
  obtain ⟨h1, h2, h3, h4, h5⟩ := tms ds a
  refine ⟨by simpa [plain] using h1, by simp only [deep]; omega, by simpa [showOk] using h3, by simpa [pdOf, PyData.leavesShort] using h4, ?_⟩
  simp only [pdOf, PyData.bulk]
  exact Nat.le_trans h5 (Nat.mul_le_mul_right _ l)
theorem Tm.pl {h n : Nat} {d : D} (t : Tm h n d) (a : h ≤ 64) : Pl d := ⟨t.p, Nat.le_trans t.dp a⟩
theorem Tm.fits {h n : Nat} {d : D} (t : Tm h n d) (a : h ≤ 64) (b : n ≤ 130000) : Sh d := by
  refine ⟨t.pl a, t.ok, ?_⟩
  have := PyData.shown_le_bulk 120 (by decide) (pdOf d) t.sh
  have := t.bk
  show (pdOf d).shown.length ≤ sizeLine
  have : sizeLine = 16777216 := by decide
  omega
/-- an end within a bound -/
def EdB (B : Nat) (e : Ed) : Prop := ∀ i, e = some i → i.natAbs < B
/-- a table of so many rows and columns, its ends within a bound -/
structure TabB (B n : Nat) (T : Tab) : Prop where
  rows : T.length = n
  cols : ∀ r ∈ T, r.length = n
  ends : ∀ r ∈ T, ∀ e ∈ r, EdB B e
theorem Tm.ed {B : Nat} {e : Ed} (h : EdB B e) (hB : B ≤ 10 ^ 100) : Tm 0 0 (oD e) := by
  cases e with
  | none => exact .non
  | some i => exact .int (Nat.lt_of_lt_of_le (h i rfl) hB)
theorem Tm.tab {B n : Nat} {T : Tab} (h : TabB B n T) (hB : B ≤ 10 ^ 100) : Tm 2 (n * (n + 1)) (tabD T) := by
  refine (Tm.tup (h := 1) (n := n * 1) (m := n) (fun d hd => ?_) (by rw [List.length_map, h.rows]; exact Nat.le_refl _)).mono (Nat.le_refl _) (by rw [Nat.mul_one]; exact Nat.le_refl _)
  obtain ⟨r, hr, rfl⟩ := List.mem_map.mp hd
  refine Tm.tup (h := 0) (n := 0) (m := n) (fun e he => ?_) (by rw [List.length_map, h.cols r hr]; exact Nat.le_refl _)
  obtain ⟨x, hx, rfl⟩ := List.mem_map.mp he
  exact .ed (h.ends r hr x hx) hB
end L3
set_option Elab.async false
set_option linter.all false
set_option maxRecDepth 100000
set_option maxHeartbeats 4000000
namespace L3
open PySem PySem.Spec PyProof.Rows L2
def emptyT (n : Nat) : Tab := List.replicate n (List.replicate n none)
def at2 (T : Tab) (p q : Nat) : Ed := (T.getD p []).getD q none
def putT (T : Tab) (p q : Nat) (e : Ed) : Tab := T.set p ((T.getD p []).set q e)
/-- so many rows, so many columns -/
structure Sq (n : Nat) (T : Tab) : Prop where
  rows : T.length = n
  cols : ∀ r ∈ T, r.length = n
theorem Sq.empty {n : Nat} : Sq n (emptyT n) := ⟨by simp [emptyT], fun r hr => by
  rw [List.eq_of_mem_replicate hr]; simp⟩
theorem Sq.put {n p q : Nat} {T : Tab} {e : Ed} (s : Sq n T) : Sq n (putT T p q e) := by
  refine ⟨by simp [putT, s.rows], fun r hr => ?_⟩
  rcases List.mem_or_eq_of_mem_set hr with h | h
  · exact s.cols r h
  · by_cases hp : p < T.length
    · rw [h, List.length_set, List.getD_eq_getElem?_getD, List.getElem?_eq_getElem hp]
      exact s.cols _ (List.getElem_mem hp)
    · unfold putT at hr
      rw [List.set_eq_of_length_le (by omega)] at hr
      exact s.cols r hr
/-- ends within a bound -/
def Ends (B : Nat) (T : Tab) : Prop := ∀ r ∈ T, ∀ e ∈ r, EdB B e
theorem EdB.non {B : Nat} : EdB B none := fun _ h => nomatch h
theorem Ends.empty {B n : Nat} : Ends B (emptyT n) := fun r hr e he => by
  rw [List.eq_of_mem_replicate hr] at he
  rw [List.eq_of_mem_replicate he]; exact .non
theorem Ends.put {B p q : Nat} {T : Tab} {e : Ed} (s : Ends B T) (h : EdB B e) : Ends B (putT T p q e) := by
  intro r hr x hx
  rcases List.mem_or_eq_of_mem_set hr with h' | h'
  · exact s r h' x hx
  · rw [h'] at hx
    rcases List.mem_or_eq_of_mem_set hx with h2 | h2
    · by_cases hp : p < T.length
      · rw [List.getD_eq_getElem?_getD, List.getElem?_eq_getElem hp] at h2
        exact s _ (List.getElem_mem hp) x h2
      · rw [List.getD_eq_getElem?_getD, List.getElem?_eq_none (by omega)] at h2
        simp at h2
    · rw [h2]; exact h
theorem TabB.of {B n : Nat} {T : Tab} (s : Sq n T) (e : Ends B T) : TabB B n T := ⟨s.rows, s.cols, e⟩
theorem TabB.sq {B n : Nat} {T : Tab} (t : TabB B n T) : Sq n T := ⟨t.rows, t.cols⟩
/-- the row and the end there -/
theorem Sq.get {n : Nat} {T : Tab} (s : Sq n T) {p q : Int} (hp : 0 ≤ p) (hp1 : p < n) (hq : 0 ≤ q) (hq1 : q < n) :
    ∃ r, T[p.toNat]? = some r ∧ r[q.toNat]? = some (at2 T p.toNat q.toNat) ∧ atI (T.map rowD) p = some (.tup (r.map oD)) ∧ atI (r.map oD) q = some (oD (at2 T p.toNat q.toNat)) ∧ ixN (r.map oD).length q = some q.toNat ∧ T.getD p.toNat [] = r := by
  have h1 : p.toNat < T.length := by rw [s.rows]; omega
  have h2 : q.toNat < T[p.toNat].length := by rw [s.cols _ (List.getElem_mem h1)]; omega
  have e1 : T.getD p.toNat [] = T[p.toNat] := by rw [List.getD_eq_getElem?_getD, List.getElem?_eq_getElem h1]; rfl
  have e2 : T[p.toNat][q.toNat]? = some (at2 T p.toNat q.toNat) := by
    unfold at2
    rw [e1, List.getD_eq_getElem?_getD, List.getElem?_eq_getElem h2]; rfl
  refine ⟨_, List.getElem?_eq_getElem h1, e2, atI_nat' hp (by rw [List.getElem?_map, List.getElem?_eq_getElem h1]; rfl), atI_nat' hq (by rw [List.getElem?_map, e2]; rfl), ixN_nat hq ?_, e1⟩
  rw [List.length_map, s.cols _ (List.getElem_mem h1)]; exact hq1
theorem getS_other {τ : St3} {i j : Nat} {d : Option D} (h : i ≠ j) : getS (setS (setS τ j none) j d) i = getS τ i := by
  rw [getS_set, if_neg (fun x => h x.1), getS_set, if_neg (fun x => h x.1)]
section
variable {Ma M : Mp} {as : List Addr} {T : Tab} {n : Nat}
theorem Rows.len2 (m : Rows Ma M as T) (s : Sq n T) : as.length = n := m.len.trans s.rows
theorem Rows.putR {p q : Nat} {a : Addr} {r : List Ed} {x : Ed} (m : Rows Ma M as T) (ha : as[p]? = some a) (hr : T[p]? = some r) : Rows Ma (mset M a (.lst ((r.map oD).set q (oD x)))) as (putT T p q x) := by
  have e1 : T.getD p [] = r := by rw [List.getD_eq_getElem?_getD, hr]; rfl
  rw [← List.map_set]
  refine ⟨m.le.put (m.new a (List.mem_of_getElem? ha)), by unfold putT; rw [List.length_set]; exact m.len, fun i b q' h1 h2 => ?_, m.nd, m.new⟩
  unfold putT at h2
  rw [e1] at h2
  by_cases hi : i = p
  · subst hi
    rw [ha] at h1; cases h1
    rw [List.getElem?_set_self (List.getElem?_eq_some_iff.mp hr).1] at h2
    cases h2
    exact mset_same
  · rw [List.getElem?_set_ne (Ne.symm hi)] at h2
    have : b ≠ a := fun h => by subst h; exact hi (nd_ix m.nd h1 ha)
    rw [mset_ne this]
    exact m.row i b q' h1 h2
theorem Rows.atR (m : Rows Ma M as T) (s : Sq n T) {p : Int} (h0 : 0 ≤ p) (h1 : p < n) : ∃ a r, atI (as.map D.ref) p = some (.ref a) ∧ M a = some (.lst (r.map oD)) ∧ as[p.toNat]? = some a ∧ T[p.toNat]? = some r ∧ r.length = n := by
  have hp : p.toNat < as.length := by rw [m.len2 s]; omega
  have hT : p.toNat < T.length := by rw [s.rows]; omega
  exact ⟨as[p.toNat], T[p.toNat], atI_nat' h0 (by rw [List.getElem?_map, List.getElem?_eq_getElem hp]; rfl), m.row _ _ _ (List.getElem?_eq_getElem hp) (List.getElem?_eq_getElem hT), List.getElem?_eq_getElem hp, List.getElem?_eq_getElem hT, s.cols _ (List.getElem_mem hT)⟩
/-- what stands at a place -/
theorem Rows.at2R (m : Rows Ma M as T) (s : Sq n T) {p q : Int} (hp0 : 0 ≤ p) (hp : p < n) (hq0 : 0 ≤ q) (hq : q < n) :
    ∃ a r, atI (as.map D.ref) p = some (.ref a) ∧ M a = some (.lst (r.map oD)) ∧ atI (r.map oD) q = some (oD (at2 T p.toNat q.toNat)) ∧ ixN (r.map oD).length q = some q.toNat ∧ as[p.toNat]? = some a ∧ T[p.toNat]? = some r := by
  obtain ⟨a, r, g1, g2, g3, g4, g5⟩ := m.atR s hp0 hp
  obtain ⟨r', h1, h2, h3, h4, h5, h6⟩ := s.get hp0 hp hq0 hq
  rw [g4] at h1; cases h1
  exact ⟨a, r, g1, g2, h4, h5, g3, g4⟩
/-- [[None] * n for j in range(n)] -/
theorem lc_emptyF {τ : St3} {i j : Nat} {n : Int} {M : Mp} {Q : VK3} (hs : getS τ i = some (.int n)) (hij : i ≠ j) (h0 : 0 ≤ n) (h1 : n ≤ 1000)
    (q : ∀ as M', Rows M M' as (emptyT n.toNat) → Q (.rol (as.map D.ref)) M') : wLcF (wRng1 (wCons (wVar i) wNil)) (wgName j) wYes (wRep (wC .non) (wVar i)) [j] τ M Q := by
  simp only [st_seq, st_next, st_break, st_cont, st_set, st_ret, st_retN, st_drop, st_if, st_asg, st_par, st_for, ex_c, ex_var, ex_op, ex_un, ex_b, ex_and, ex_or, ex_not, ex_andV, ex_orV, ex_notV, ex_if, ex_chain, ex_nil, ex_cons, ex_tup, ex_lst, ex_call, ex_callP, ex_cb, ex_bm, ex_rep, ex_lc, ex_sl, ex_noPart, ex_part, ex_yes, it_items, it_rng1, it_rng2, tg_name, tg_sub, tg_tup, tg_cons, tg_nil, gs_0, gs_s, ss_0, ss_s, op_ii, op_ss, op_tt, op_mm, op_sb, op_ng, op_iNf, op_iNt, op_lle, op_ixT, op_ixR, op_ixL, op_putE, op_appE, it_tupE, it_rolE, it_refE, lstOf_l, exL, asS_some, asI_int, asB_bl, asL_some, asN_some, ite3_t, ite3_f, bl_1, bl_lenT, bl_lenR, bl_lenL, bl_lenS, bl_tuple, bl_list, bl_abs, bl_intI, bl_intB, bl_max, bl_min, bl_repr, op_eqSf, op_eqSt, op_eqIf, op_eqIt, op_eqTf, op_eqTt, op_eqRf, op_eqRt, op_eqNf, op_eqNt, eqD_int, eqD_nil, pl_int, pl_nil, pl_non, pl_rnil, pl_bl, sl_tupE, sl_rolE, keep_ref, keep_tup, keep_rol, tp_int, tp_tup, tp_rol, tp_str, tp_bl, tp_non, tp_ref, oFd, oMd, oPw, oShl, oLt, oLe, oGt, oGe, op_in, op_cp, wipe_nil, wipe_cons, mset_same, true_and, and_true, isN_int, sz_0, sz_1, sz_2, sz_3, sz_4, sz_5, sz_6, sz_7, sz_8, sz_9, sz_10, sz_11, sz_12, ex_lstF, ex_repF, ex_lgF1, ex_lgF2, ex_tupRg1, ex_tupRg2, ex_lcF, ex_frz, ex_slF, ex_slM, sl_tupF, sl_rolF, op_iiF, op_ssF, op_ttF, op_rrF, op_rrM, op_mmF, op_repF, li_rol, li_ref, bl_listF, bl_allF, bl_anyF, asT_some, asJ_some, op_eqLf, op_eqLt, op_eqBf, op_eqBt, isN_non, Bool.not_true, Bool.not_false, hs]
  refine ⟨by omega, by omega, ?_⟩
  refine lc_pv (fun k acc M' => ∃ as, acc = as.map D.ref ∧ k ≤ n.toNat ∧ Rows M M' as (List.replicate k (List.replicate n.toNat none))) ?_ ?_ ⟨[], rfl, Nat.zero_le _, .nil⟩
  · rintro k d acc M' hd ⟨as, rfl, hk, hR⟩ X hX
    obtain ⟨hlt, rfl⟩ := rgD_get hd
    refine ⟨True.intro, ?_⟩
    simp only [st_seq, st_next, st_break, st_cont, st_set, st_ret, st_retN, st_drop, st_if, st_asg, st_par, st_for, ex_c, ex_var, ex_op, ex_un, ex_b, ex_and, ex_or, ex_not, ex_andV, ex_orV, ex_notV, ex_if, ex_chain, ex_nil, ex_cons, ex_tup, ex_lst, ex_call, ex_callP, ex_cb, ex_bm, ex_rep, ex_lc, ex_sl, ex_noPart, ex_part, ex_yes, it_items, it_rng1, it_rng2, tg_name, tg_sub, tg_tup, tg_cons, tg_nil, gs_0, gs_s, ss_0, ss_s, op_ii, op_ss, op_tt, op_mm, op_sb, op_ng, op_iNf, op_iNt, op_lle, op_ixT, op_ixR, op_ixL, op_putE, op_appE, it_tupE, it_rolE, it_refE, lstOf_l, exL, asS_some, asI_int, asB_bl, asL_some, asN_some, ite3_t, ite3_f, bl_1, bl_lenT, bl_lenR, bl_lenL, bl_lenS, bl_tuple, bl_list, bl_abs, bl_intI, bl_intB, bl_max, bl_min, bl_repr, op_eqSf, op_eqSt, op_eqIf, op_eqIt, op_eqTf, op_eqTt, op_eqRf, op_eqRt, op_eqNf, op_eqNt, eqD_int, eqD_nil, pl_int, pl_nil, pl_non, pl_rnil, pl_bl, sl_tupE, sl_rolE, keep_ref, keep_tup, keep_rol, tp_int, tp_tup, tp_rol, tp_str, tp_bl, tp_non, tp_ref, oFd, oMd, oPw, oShl, oLt, oLe, oGt, oGe, op_in, op_cp, wipe_nil, wipe_cons, mset_same, true_and, and_true, isN_int, sz_0, sz_1, sz_2, sz_3, sz_4, sz_5, sz_6, sz_7, sz_8, sz_9, sz_10, sz_11, sz_12, ex_lstF, ex_repF, ex_lgF1, ex_lgF2, ex_tupRg1, ex_tupRg2, ex_lcF, ex_frz, ex_slF, ex_slM, sl_tupF, sl_rolF, op_iiF, op_ssF, op_ttF, op_rrF, op_rrM, op_mmF, op_repF, li_rol, li_ref, bl_listF, bl_allF, bl_anyF, asT_some, asJ_some, op_eqLf, op_eqLt, op_eqBf, op_eqBt, isN_non, Bool.not_true, Bool.not_false, ex_rep, getS_other hij, hs]
    have big : (1000 : Nat) ≤ sizeLine := by decide
    have hlen := hR.len
    rw [List.length_replicate] at hlen
    refine ⟨by omega, by omega, by omega, fun p hp => ?_⟩
    refine ⟨by rw [List.length_map]; omega, hX _ _ ⟨as ++ [p], by simp, hlt, ?_⟩⟩
    have := hR.snoc (r := List.replicate n.toNat none) hp
    rw [List.map_replicate] at this
    rw [List.replicate_succ']
    exact this
  · rintro acc M' ⟨as, rfl, hk, hR⟩
    rw [rgD_len] at hR
    exact ⟨True.intro, q _ _ hR⟩
/-- [list(row) for row in table] -/
theorem lc_rowsF {τ : St3} {i j n : Nat} {T : Tab} {M : Mp} {Q : VK3} (hs : getS τ i = some (tabD T)) (hj : j < τ.length) (hij : i ≠ j) (sq : Sq n T) (hn : n ≤ 1000)
    (q : ∀ as M', Rows M M' as T → Q (.rol (as.map D.ref)) M') : wLcF (wItems (wVar i)) (wgName j) wYes (wCB bList (wCons (wVar j) wNil)) [j] τ M Q := by
  simp only [st_seq, st_next, st_break, st_cont, st_set, st_ret, st_retN, st_drop, st_if, st_asg, st_par, st_for, ex_c, ex_var, ex_op, ex_un, ex_b, ex_and, ex_or, ex_not, ex_andV, ex_orV, ex_notV, ex_if, ex_chain, ex_nil, ex_cons, ex_tup, ex_lst, ex_call, ex_callP, ex_cb, ex_bm, ex_rep, ex_lc, ex_sl, ex_noPart, ex_part, ex_yes, it_items, it_rng1, it_rng2, tg_name, tg_sub, tg_tup, tg_cons, tg_nil, gs_0, gs_s, ss_0, ss_s, op_ii, op_ss, op_tt, op_mm, op_sb, op_ng, op_iNf, op_iNt, op_lle, op_ixT, op_ixR, op_ixL, op_putE, op_appE, it_tupE, it_rolE, it_refE, lstOf_l, exL, asS_some, asI_int, asB_bl, asL_some, asN_some, ite3_t, ite3_f, bl_1, bl_lenT, bl_lenR, bl_lenL, bl_lenS, bl_tuple, bl_list, bl_abs, bl_intI, bl_intB, bl_max, bl_min, bl_repr, op_eqSf, op_eqSt, op_eqIf, op_eqIt, op_eqTf, op_eqTt, op_eqRf, op_eqRt, op_eqNf, op_eqNt, eqD_int, eqD_nil, pl_int, pl_nil, pl_non, pl_rnil, pl_bl, sl_tupE, sl_rolE, keep_ref, keep_tup, keep_rol, tp_int, tp_tup, tp_rol, tp_str, tp_bl, tp_non, tp_ref, oFd, oMd, oPw, oShl, oLt, oLe, oGt, oGe, op_in, op_cp, wipe_nil, wipe_cons, mset_same, true_and, and_true, isN_int, sz_0, sz_1, sz_2, sz_3, sz_4, sz_5, sz_6, sz_7, sz_8, sz_9, sz_10, sz_11, sz_12, ex_lstF, ex_repF, ex_lgF1, ex_lgF2, ex_tupRg1, ex_tupRg2, ex_lcF, ex_frz, ex_slF, ex_slM, sl_tupF, sl_rolF, op_iiF, op_ssF, op_ttF, op_rrF, op_rrM, op_mmF, op_repF, li_rol, li_ref, bl_listF, bl_allF, bl_anyF, asT_some, asJ_some, op_eqLf, op_eqLt, op_eqBf, op_eqBt, isN_non, Bool.not_true, Bool.not_false, hs, tabD]
  refine lc_pv (fun k acc M' => ∃ as, acc = as.map D.ref ∧ k ≤ T.length ∧ Rows M M' as (T.take k)) ?_ ?_ ⟨[], rfl, Nat.zero_le _, .nil⟩
  · rintro k d acc M' hd ⟨as, rfl, hk, hR⟩ X hX
    refine ⟨True.intro, ?_⟩
    rw [List.getElem?_map] at hd
    obtain ⟨r, hr, rfl⟩ := Option.map_eq_some_iff.mp hd
    have hlt := (List.getElem?_eq_some_iff.mp hr).1
    have gj : getS (setS (setS τ j none) j (some (rowD r))) j = some (rowD r) := by
      rw [getS_set, if_pos ⟨rfl, by rw [setS_len]; exact hj⟩]
    simp only [st_seq, st_next, st_break, st_cont, st_set, st_ret, st_retN, st_drop, st_if, st_asg, st_par, st_for, ex_c, ex_var, ex_op, ex_un, ex_b, ex_and, ex_or, ex_not, ex_andV, ex_orV, ex_notV, ex_if, ex_chain, ex_nil, ex_cons, ex_tup, ex_lst, ex_call, ex_callP, ex_cb, ex_bm, ex_rep, ex_lc, ex_sl, ex_noPart, ex_part, ex_yes, it_items, it_rng1, it_rng2, tg_name, tg_sub, tg_tup, tg_cons, tg_nil, gs_0, gs_s, ss_0, ss_s, op_ii, op_ss, op_tt, op_mm, op_sb, op_ng, op_iNf, op_iNt, op_lle, op_ixT, op_ixR, op_ixL, op_putE, op_appE, it_tupE, it_rolE, it_refE, lstOf_l, exL, asS_some, asI_int, asB_bl, asL_some, asN_some, ite3_t, ite3_f, bl_1, bl_lenT, bl_lenR, bl_lenL, bl_lenS, bl_tuple, bl_list, bl_abs, bl_intI, bl_intB, bl_max, bl_min, bl_repr, op_eqSf, op_eqSt, op_eqIf, op_eqIt, op_eqTf, op_eqTt, op_eqRf, op_eqRt, op_eqNf, op_eqNt, eqD_int, eqD_nil, pl_int, pl_nil, pl_non, pl_rnil, pl_bl, sl_tupE, sl_rolE, keep_ref, keep_tup, keep_rol, tp_int, tp_tup, tp_rol, tp_str, tp_bl, tp_non, tp_ref, oFd, oMd, oPw, oShl, oLt, oLe, oGt, oGe, op_in, op_cp, wipe_nil, wipe_cons, mset_same, true_and, and_true, isN_int, sz_0, sz_1, sz_2, sz_3, sz_4, sz_5, sz_6, sz_7, sz_8, sz_9, sz_10, sz_11, sz_12, ex_lstF, ex_repF, ex_lgF1, ex_lgF2, ex_tupRg1, ex_tupRg2, ex_lcF, ex_frz, ex_slF, ex_slM, sl_tupF, sl_rolF, op_iiF, op_ssF, op_ttF, op_rrF, op_rrM, op_mmF, op_repF, li_rol, li_ref, bl_listF, bl_allF, bl_anyF, asT_some, asJ_some, op_eqLf, op_eqLt, op_eqBf, op_eqBt, isN_non, Bool.not_true, Bool.not_false, gj, rowD]
    have gj' : getS (setS (setS τ j none) j (some (.tup (r.map oD)))) j = some (.tup (r.map oD)) := gj
    simp only [st_seq, st_next, st_break, st_cont, st_set, st_ret, st_retN, st_drop, st_if, st_asg, st_par, st_for, ex_c, ex_var, ex_op, ex_un, ex_b, ex_and, ex_or, ex_not, ex_andV, ex_orV, ex_notV, ex_if, ex_chain, ex_nil, ex_cons, ex_tup, ex_lst, ex_call, ex_callP, ex_cb, ex_bm, ex_rep, ex_lc, ex_sl, ex_noPart, ex_part, ex_yes, it_items, it_rng1, it_rng2, tg_name, tg_sub, tg_tup, tg_cons, tg_nil, gs_0, gs_s, ss_0, ss_s, op_ii, op_ss, op_tt, op_mm, op_sb, op_ng, op_iNf, op_iNt, op_lle, op_ixT, op_ixR, op_ixL, op_putE, op_appE, it_tupE, it_rolE, it_refE, lstOf_l, exL, asS_some, asI_int, asB_bl, asL_some, asN_some, ite3_t, ite3_f, bl_1, bl_lenT, bl_lenR, bl_lenL, bl_lenS, bl_tuple, bl_list, bl_abs, bl_intI, bl_intB, bl_max, bl_min, bl_repr, op_eqSf, op_eqSt, op_eqIf, op_eqIt, op_eqTf, op_eqTt, op_eqRf, op_eqRt, op_eqNf, op_eqNt, eqD_int, eqD_nil, pl_int, pl_nil, pl_non, pl_rnil, pl_bl, sl_tupE, sl_rolE, keep_ref, keep_tup, keep_rol, tp_int, tp_tup, tp_rol, tp_str, tp_bl, tp_non, tp_ref, oFd, oMd, oPw, oShl, oLt, oLe, oGt, oGe, op_in, op_cp, wipe_nil, wipe_cons, mset_same, true_and, and_true, isN_int, sz_0, sz_1, sz_2, sz_3, sz_4, sz_5, sz_6, sz_7, sz_8, sz_9, sz_10, sz_11, sz_12, ex_lstF, ex_repF, ex_lgF1, ex_lgF2, ex_tupRg1, ex_tupRg2, ex_lcF, ex_frz, ex_slF, ex_slM, sl_tupF, sl_rolF, op_iiF, op_ssF, op_ttF, op_rrF, op_rrM, op_mmF, op_repF, li_rol, li_ref, bl_listF, bl_allF, bl_anyF, asT_some, asJ_some, op_eqLf, op_eqLt, op_eqBf, op_eqBt, isN_non, Bool.not_true, Bool.not_false, gj']
    intro p hp
    have big : (1000 : Nat) ≤ sizeLine := by decide
    have hlen := hR.len
    rw [List.length_take] at hlen
    have := sq.rows
    refine ⟨by rw [List.length_map]; omega, hX _ _ ⟨as ++ [p], by simp, hlt, ?_⟩⟩
    rw [List.take_succ, hr]
    exact hR.snoc hp
  · rintro acc M' ⟨as, rfl, hk, hR⟩
    rw [List.length_map, List.take_length] at hR
    exact ⟨True.intro, q _ _ hR⟩
/-- tuple([tuple(row) for row in m]) -/
theorem tab_of_rows {τ : St3} {i j : Nat} {Q : VK3} (hs : getS τ i = some (.rol (as.map D.ref))) (hj : j < τ.length) (m : Rows Ma M as T) (hl : as.length ≤ sizeLine) (q : Q (tabD T) M) :
    wCB bTuple (wCons (wLcF (wItems (wVar i)) (wgName j) wYes (wCB bTuple (wCons (wVar j) wNil)) [j]) wNil) τ M Q := by
  simp only [ex_cb, ex_cons, ex_lcF, it_items, it_rolE, ex_var, hs, asS_some, asL_some, keepG, ex_nil]
  refine lc_pv (fun n acc M' => M' = M ∧ n ≤ T.length ∧ acc = (T.take n).map rowD) ?_ ?_ ⟨rfl, Nat.zero_le _, rfl⟩
  · rintro n d acc M' hd ⟨rfl, hn, rfl⟩ X hX
    refine ⟨True.intro, ?_⟩
    rw [List.getElem?_map] at hd
    obtain ⟨a, ha, rfl⟩ := Option.map_eq_some_iff.mp hd
    have hlt : n < T.length := by rw [← m.len]; exact (List.getElem?_eq_some_iff.mp ha).1
    have hT : T[n]? = some T[n] := List.getElem?_eq_getElem hlt
    have gj : getS (setS (wipe3 τ [j]) j (some (.ref a))) j = some (.ref a) := by
      rw [getS_set, if_pos ⟨rfl, by show j < (setS τ j none).length; rw [setS_len]; exact hj⟩]
    simp only [tg_name, ex_yes, ite3_t, ex_cb, ex_cons, ex_var, gj, asS_some, ex_nil, bl_tuple, items_ref (m.row n a _ ha hT), asL_some]
    refine ⟨?_, hX _ _ ⟨rfl, hlt, ?_⟩⟩
    · rw [List.length_map, List.length_take]
      have := m.len
      omega
    · rw [List.take_succ, hT, List.map_append]; rfl
  · rintro acc M' ⟨rfl, hn, rfl⟩
    refine ⟨True.intro, ?_⟩
    rw [List.length_map, m.len, List.take_length]
    exact q
end
end L3
set_option Elab.async false
set_option linter.all false
set_option maxRecDepth 100000
set_option maxHeartbeats 4000000
namespace L3
open PySem PySem.Spec PyProof.Rows L2
abbrev Trip := Int × Int × Int
def tripD (t : Trip) : D := .tup [.int t.1, .int t.2.1, .int t.2.2]
def stepT (T : Tab) (t : Trip) : Tab := match at2 T t.1.toNat t.2.1.toNat with
  | none => putT T t.1.toNat t.2.1.toNat (some t.2.2)
  | some d => if t.2.2 < d then putT T t.1.toNat t.2.1.toNat (some t.2.2) else T
theorem Sq.step {n : Nat} {T : Tab} {t : Trip} (s : Sq n T) : Sq n (stepT T t) := by
  unfold stepT
  split
  · exact s.put
  · split
    · exact s.put
    · exact s
theorem Ends.step {B : Nat} {T : Tab} {t : Trip} (s : Ends B T) (h : t.2.2.natAbs < B) : Ends B (stepT T t) := by
  have e : EdB B (some t.2.2) := fun i hi => by cases hi; exact h
  unfold stepT
  split
  · exact s.put e
  · split
    · exact s.put e
    · exact s
/-- within the table -/
def In2 (n : Int) (t : Trip) : Prop := 0 ≤ t.1 ∧ t.1 < n ∧ 0 ≤ t.2.1 ∧ t.2.1 < n
end L3
set_option Elab.async false
set_option linter.all false
set_option maxRecDepth 100000
set_option maxHeartbeats 4000000
namespace L3
def eLe : Ed → Ed → Prop
  | _, none => True
  | some x, some y => x ≤ y
  | none, some _ => False
def eAdd : Ed → Ed → Ed
  | some x, some y => some (x + y)
  | _, _ => none
def eMin : Ed → Ed → Ed
  | none, b => b
  | a, none => a
  | some x, some y => some (if y < x then y else x)
section
variable {a b c d : Ed}
theorem eLe.rfl' : eLe a a := by cases a <;> simp [eLe]
theorem eLe_none : eLe a none := by cases a <;> simp [eLe]
theorem eLe_trans (h : eLe a b) (h2 : eLe b c) : eLe a c := by
  cases a <;> cases b <;> cases c <;> simp [eLe] at * <;> omega
theorem eLe_anti (h : eLe a b) (h2 : eLe b a) : a = b := by
  cases a <;> cases b <;> simp [eLe] at * <;> omega
theorem eMin_l : eLe (eMin a b) a := by
  cases a <;> cases b <;> simp [eLe, eMin] <;> split <;> omega
theorem eMin_r : eLe (eMin a b) b := by
  cases a <;> cases b <;> simp [eLe, eMin] <;> split <;> omega
theorem le_eMin (h : eLe c a) (h2 : eLe c b) : eLe c (eMin a b) := by
  cases a <;> cases b <;> cases c <;> simp [eLe, eMin] at * <;> (try split) <;> omega
theorem eMin_or : eMin a b = a ∨ eMin a b = b := by
  cases a with
  | none => exact .inr rfl
  | some x =>
    cases b with
    | none => exact .inl rfl
    | some y =>
      by_cases h : y < x
      · exact .inr (by simp only [eMin, if_pos h])
      · exact .inl (by simp only [eMin, if_neg h])
theorem eAdd_mono (h : eLe a b) (h2 : eLe c d) : eLe (eAdd a c) (eAdd b d) := by
  cases a <;> cases b <;> cases c <;> cases d <;> simp [eLe, eAdd] at * <;> omega
theorem eAdd_assoc : eAdd (eAdd a b) c = eAdd a (eAdd b c) := by
  cases a <;> cases b <;> cases c <;> simp [eAdd] <;> omega
theorem eAdd_0 : eAdd a (some 0) = a := by cases a <;> simp [eAdd]
theorem eAdd_0l : eAdd (some 0) a = a := by cases a <;> simp [eAdd]
theorem eMin_id (h : eLe a b) : eMin a b = a := by
  cases a <;> cases b <;> simp [eLe, eMin] at * <;> omega
theorem le_add_min (h1 : eLe a (eAdd b d)) (h2 : eLe a (eAdd c d)) : eLe a (eAdd (eMin b c) d) := by
  rcases eMin_or (a := b) (b := c) with e | e <;> rw [e] <;> assumption
theorem le_add_minr (h1 : eLe a (eAdd d b)) (h2 : eLe a (eAdd d c)) : eLe a (eAdd d (eMin b c)) := by
  rcases eMin_or (a := b) (b := c) with e | e <;> rw [e] <;> assumption
end
abbrev Fn := Nat → Nat → Ed
def Stable (n : Nat) (F : Fn) (s : Nat → Ed) : Prop := ∀ q, q < n → ∀ r, r < n → eLe (s r) (eAdd (s q) (F q r))
/-- S is T closed -/
structure IsCl (n : Nat) (T S : Fn) : Prop where
  diag : ∀ p, p < n → S p p = some 0
  tri : ∀ p q m, p < n → q < n → m < n → eLe (S p q) (eAdd (S p m) (S m q))
  le : ∀ p q, p < n → q < n → eLe (S p q) (T p q)
  st : ∀ s, Stable n T s → Stable n S s
/-- sums fall for ever -/
def Bad (n : Nat) (T : Fn) : Prop := ∃ m, m < n ∧ ∀ s, Stable n T s → s m = none
theorem IsCl.row {n m : Nat} {T S : Fn} (c : IsCl n T S) (hm : m < n) : Stable n T (S m) := fun q hq r hr =>
  eLe_trans (c.tri m r q hm hr hq) (eAdd_mono eLe.rfl' (c.le q r hq hr))
theorem IsCl.least {n : Nat} {T S : Fn} (c : IsCl n T S) {s : Nat → Ed} (h : Stable n T s) {p r : Nat} (hp : p < n) (hr : r < n) (h0 : eLe (s p) (some 0)) : eLe (s r) (S p r) := by
  have := c.st s h p hp r hr
  refine eLe_trans this ?_
  have := eAdd_mono (c := S p r) (d := S p r) h0 eLe.rfl'
  rwa [eAdd_0l] at this
theorem IsCl.uniq {n : Nat} {T S S' : Fn} (c : IsCl n T S) (c' : IsCl n T S') {p q : Nat} (hp : p < n) (hq : q < n) : S p q = S' p q := by
  refine eLe_anti (c'.least (c.row hp) hp hq ?_) (c.least (c'.row hp) hp hq ?_)
  · rw [c.diag p hp]; exact eLe.rfl'
  · rw [c'.diag p hp]; exact eLe.rfl'
theorem IsCl.good {n : Nat} {T S : Fn} (c : IsCl n T S) : ¬ Bad n T := by
  rintro ⟨m, hm, h⟩
  have := h _ (c.row hm)
  rw [c.diag m hm] at this
  cases this
def Neg (n : Nat) (f : Fn) : Prop := ∃ p, p < n ∧ ∃ x, f p p = some x ∧ x < 0
/-- what holds at all times: nothing is lost, nothing grows -/
structure Run (n : Nat) (T f : Fn) : Prop where
  st : ∀ s, Stable n T s → Stable n f s
  le : ∀ p q, p < n → q < n → eLe (f p q) (T p q)
  dg : ∀ p, p < n → eLe (f p p) (some 0)
/-- ahead of round m -/
structure Cm (n m B : Nat) (F : Fn) : Prop where
  diag : ∀ p, p < n → F p p = some 0
  tri : ∀ p q k, p < n → q < n → k < m → eLe (F p q) (eAdd (F p k) (F k q))
  bd : ∀ p q, p < n → q < n → EdB (2 ^ m * B) (F p q)
def rnd (F : Fn) (m : Nat) : Fn := fun p q => eMin (F p q) (eAdd (F p m) (F m q))
/-- in round m, rows ahead of i done, in row i columns ahead of j -/
def Mid (n m : Nat) (F f : Fn) (i j : Nat) : Prop := ∀ p q, p < n → q < n → f p q = if p < i ∨ (p = i ∧ q < j) then rnd F m p q else F p q
def updF (f : Fn) (i j : Nat) (e : Ed) : Fn := fun p q => if p = i ∧ q = j then e else f p q
def RunM (n m B : Nat) (T f : Fn) (i j : Nat) : Prop := Run n T f ∧ (Neg n f ∨ ∃ F, Cm n m B F ∧ Mid n m F f i j)
theorem rnd_l {n m B : Nat} {F : Fn} (c : Cm n m B F) (hm : m < n) {p : Nat} : rnd F m p m = F p m := by
  unfold rnd
  rw [c.diag m hm, eAdd_0]
  exact eMin_id eLe.rfl'
theorem rnd_r {n m B : Nat} {F : Fn} (c : Cm n m B F) (hm : m < n) {q : Nat} : rnd F m m q = F m q := by
  unfold rnd
  rw [c.diag m hm, eAdd_0l]
  exact eMin_id eLe.rfl'
theorem Run.upd {n m : Nat} {T f : Fn} (r : Run n T f) {i j : Nat} (hi : i < n) (hj : j < n) (hm : m < n) : Run n T (updF f i j (eMin (f i j) (eAdd (f i m) (f m j)))) := by
  refine ⟨fun s hs q hq t ht => ?_, fun p q hp hq => ?_, fun p hp => ?_⟩
  · unfold updF
    split
    · rename_i h
      obtain ⟨rfl, rfl⟩ := h
      refine le_add_minr (r.st s hs q hq t ht) ?_
      rw [← eAdd_assoc]
      exact eLe_trans (r.st s hs m hm t ht) (eAdd_mono (r.st s hs q hq m hm) eLe.rfl')
    · exact r.st s hs q hq t ht
  · unfold updF
    split
    · rename_i h
      obtain ⟨rfl, rfl⟩ := h
      exact eLe_trans eMin_l (r.le p q hp hq)
    · exact r.le p q hp hq
  · unfold updF
    split
    · rename_i h
      obtain ⟨rfl, e⟩ := h
      subst e
      exact eLe_trans eMin_l (r.dg p hp)
    · exact r.dg p hp
theorem Neg.upd {n : Nat} {f : Fn} {i j : Nat} {e : Ed} (h : Neg n f) (he : eLe e (f i j)) : Neg n (updF f i j e) := by
  obtain ⟨p, hp, x, hx, h0⟩ := h
  by_cases hij : p = i ∧ p = j
  · obtain ⟨h1, h2⟩ := hij
    subst h1
    subst h2
    rw [hx] at he
    cases e with
    | none => exact he.elim
    | some y => exact ⟨p, hp, y, by simp [updF], by simp [eLe] at he; omega⟩
  · exact ⟨p, hp, x, by unfold updF; rw [if_neg hij]; exact hx, h0⟩
theorem RunM.step {n m B : Nat} {T f : Fn} {i j : Nat} (r : RunM n m B T f i j) (hi : i < n) (hj : j < n) (hm : m < n) : RunM n m B T (updF f i j (eMin (f i j) (eAdd (f i m) (f m j)))) i (j + 1) := by
  refine ⟨r.1.upd hi hj hm, ?_⟩
  rcases r.2 with h | ⟨F, c, h⟩
  · exact .inl (h.upd eMin_l)
  · refine .inr ⟨F, c, fun p q hp hq => ?_⟩
    have e1 : f i j = F i j := by
      rw [h i j hi hj, if_neg]
      rintro (h | h)
      · exact Nat.lt_irrefl _ h
      · exact Nat.lt_irrefl _ h.2
    have e2 : f i m = F i m := by
      rw [h i m hi hm]
      split
      · exact rnd_l c hm
      · rfl
    have e3 : f m j = F m j := by
      rw [h m j hm hj]
      split
      · exact rnd_r c hm
      · rfl
    unfold updF
    by_cases e : p = i ∧ q = j
    · obtain ⟨rfl, rfl⟩ := e
      rw [if_pos ⟨rfl, rfl⟩, if_pos (.inr ⟨rfl, Nat.lt_succ_self _⟩), e1, e2, e3]
      rfl
    · rw [if_neg e, h p q hp hq]
      have : (p < i ∨ p = i ∧ q < j) ↔ (p < i ∨ p = i ∧ q < j + 1) := by
        constructor
        · rintro (h | h)
          · exact .inl h
          · exact .inr ⟨h.1, by omega⟩
        · rintro (h | h)
          · exact .inl h
          · refine .inr ⟨h.1, ?_⟩
            have : q ≠ j := fun z => e ⟨h.1, z⟩
            omega
      simp only [this]
theorem RunM.row {n m B : Nat} {T f : Fn} {i : Nat} (r : RunM n m B T f i n) : RunM n m B T f (i + 1) 0 := by
  refine ⟨r.1, ?_⟩
  rcases r.2 with h | ⟨F, c, h⟩
  · exact .inl h
  · refine .inr ⟨F, c, fun p q hp hq => ?_⟩
    rw [h p q hp hq]
    have : (p < i ∨ p = i ∧ q < n) ↔ (p < i + 1 ∨ p = i + 1 ∧ q < 0) := by omega
    simp only [this]
theorem Cm.next {n m B : Nat} {F f : Fn} (c : Cm n m B F) (hm : m < n) (he : ∀ p q, p < n → q < n → f p q = rnd F m p q) (hd : ∀ p, p < n → f p p = some 0) : Cm n (m + 1) B f := by
  refine ⟨hd, fun p q k hp hq hk => ?_, fun p q hp hq => ?_⟩
  · by_cases e : k = m
    · subst e
      rw [he p q hp hq, he p k hp hm, he k q hm hq, rnd_l c hm, rnd_r c hm]
      exact eMin_r
    · have hk' : k < m := by omega
      have hkn : k < n := by omega
      rw [he p q hp hq, he p k hp hkn, he k q hkn hq]
      unfold rnd
      refine le_add_min (le_add_minr ?_ ?_) (le_add_minr ?_ ?_)
      · exact eLe_trans eMin_l (c.tri p q k hp hq hk')
      · refine eLe_trans eMin_r ?_
        rw [← eAdd_assoc]
        exact eAdd_mono (c.tri p m k hp hm hk') eLe.rfl'
      · refine eLe_trans eMin_r ?_
        rw [eAdd_assoc]
        exact eAdd_mono eLe.rfl' (c.tri m q k hm hq hk')
      · refine eLe_trans eMin_r ?_
        have h1 := c.tri m m k hm hm hk'
        rw [c.diag m hm] at h1
        have h2 := eAdd_mono (eAdd_mono (eLe.rfl' (a := F p m)) h1) (eLe.rfl' (a := F m q))
        rw [eAdd_0] at h2
        rw [← eAdd_assoc, eAdd_assoc (a := F p m)]
        exact h2
  · rw [he p q hp hq]
    have b1 := c.bd p q hp hq
    have b2 := c.bd p m hp hm
    have b3 := c.bd m q hm hq
    have e : 2 ^ (m + 1) * B = 2 ^ m * B + 2 ^ m * B := by rw [Nat.pow_succ, Nat.mul_assoc, Nat.mul_comm 2 B, ← Nat.mul_assoc, Nat.mul_two]
    unfold rnd
    rcases eMin_or (a := F p q) (b := eAdd (F p m) (F m q)) with z | z <;> rw [z]
    · intro x hx
      have := b1 x hx
      omega
    · intro x hx
      cases h1 : F p m with
      | none => rw [h1] at hx; cases hx
      | some y =>
        cases h2 : F m q with
        | none => rw [h1, h2] at hx; cases hx
        | some w =>
          rw [h1, h2] at hx
          have e1 := b2 y h1
          have e2 := b3 w h2
          have : x = y + w := by simpa [eAdd] using hx.symm
          omega
def RunC (n m B : Nat) (T f : Fn) : Prop := Run n T f ∧ (Neg n f ∨ Cm n m B f)
theorem RunC.start {n m B : Nat} {T f : Fn} (r : RunC n m B T f) : RunM n m B T f 0 0 := by
  refine ⟨r.1, ?_⟩
  rcases r.2 with h | h
  · exact .inl h
  · refine .inr ⟨f, h, fun p q _ _ => ?_⟩
    rw [if_neg (by omega)]
theorem RunM.round {n m B : Nat} {T f : Fn} (r : RunM n m B T f n 0) (hm : m < n) : RunC n (m + 1) B T f := by
  refine ⟨r.1, ?_⟩
  by_cases hn : Neg n f
  · exact .inl hn
  · rcases r.2 with h | ⟨F, c, h⟩
    · exact .inl h
    · refine .inr (c.next hm (fun p q hp hq => ?_) fun p hp => ?_)
      · rw [h p q hp hq, if_pos (.inl hp)]
      · have h0 := r.1.dg p hp
        cases e : f p p with
        | none => rw [e] at h0; exact h0.elim
        | some x =>
          rw [e] at h0
          have : ¬ x < 0 := fun z => hn ⟨p, hp, x, e, z⟩
          simp [eLe] at h0
          have : x = 0 := by omega
          rw [this]
theorem RunC.bad {n m B : Nat} {T f : Fn} (r : RunC n m B T f) (h : Neg n f) : Bad n T := by
  obtain ⟨p, hp, x, hx, h0⟩ := h
  refine ⟨p, hp, fun s hs => ?_⟩
  have := r.1.st s hs p hp p hp
  rw [hx] at this
  cases e : s p with
  | none => rfl
  | some y => rw [e] at this; simp [eLe, eAdd] at this; omega
theorem RunC.cl {n B : Nat} {T f : Fn} (r : RunC n n B T f) (h : ¬ Neg n f) : IsCl n T f ∧ ∀ p q, p < n → q < n → EdB (2 ^ n * B) (f p q) := by
  rcases r.2 with z | c
  · exact absurd z h
  · exact ⟨⟨c.diag, fun p q m hp hq hm => c.tri p q m hp hq hm, r.1.le, r.1.st⟩, c.bd⟩
/-- the diagonal lessened: rows ahead of i done -/
def Dg (n : Nat) (T f : Fn) (i : Nat) : Prop := ∀ p q, p < n → q < n → f p q = if p = q ∧ p < i then eMin (T p q) (some 0) else T p q
theorem Dg.step {n : Nat} {T f : Fn} {i : Nat} (d : Dg n T f i) (hi : i < n) : Dg n T (updF f i i (eMin (f i i) (some 0))) (i + 1) := by
  intro p q hp hq
  unfold updF
  by_cases e : p = i ∧ q = i
  · obtain ⟨rfl, rfl⟩ := e
    rw [if_pos ⟨rfl, rfl⟩, if_pos ⟨rfl, Nat.lt_succ_self _⟩, d q q hq hq, if_neg (by omega)]
  · rw [if_neg e, d p q hp hq]
    have : (p = q ∧ p < i) ↔ (p = q ∧ p < i + 1) := by omega
    simp only [this]
theorem Dg.run {n B : Nat} {T f : Fn} (d : Dg n T f n) (hB : ∀ p q, p < n → q < n → EdB B (T p q)) (h0 : 0 < B) : RunC n 0 B T f := by
  have dg : ∀ p, p < n → eLe (f p p) (some 0) := fun p hp => by
    rw [d p p hp hp, if_pos ⟨rfl, hp⟩]; exact eMin_r
  refine ⟨⟨fun s hs q hq r hr => ?_, fun p q hp hq => ?_, dg⟩, ?_⟩
  · rw [d q r hq hr]
    split
    · rename_i h
      obtain ⟨rfl, _⟩ := h
      refine le_add_minr (hs q hq q hq) ?_
      rw [eAdd_0]; exact eLe.rfl'
    · exact hs q hq r hr
  · rw [d p q hp hq]
    split
    · exact eMin_l
    · exact eLe.rfl'
  · by_cases hn : Neg n f
    · exact .inl hn
    · refine .inr ⟨fun p hp => ?_, fun p q k _ _ hk => absurd hk (Nat.not_lt_zero _), fun p q hp hq => ?_⟩
      · have h1 := dg p hp
        cases e : f p p with
        | none => rw [e] at h1; exact h1.elim
        | some x =>
          rw [e] at h1
          have : ¬ x < 0 := fun z => hn ⟨p, hp, x, e, z⟩
          simp [eLe] at h1
          have : x = 0 := by omega
          rw [this]
      · rw [d p q hp hq]
        have hb := hB p q hp hq
        have e2 : 2 ^ 0 * B = B := by simp
        rw [e2]
        split
        · rcases eMin_or (a := T p q) (b := some 0) with z | z <;> rw [z]
          · exact hb
          · intro x hx
            cases hx
            exact h0
        · exact hb
end L3
set_option Elab.async false
set_option linter.all false
set_option maxRecDepth 100000
set_option maxHeartbeats 4000000
namespace L3
open PySem PySem.Spec PyProof.Rows L2
def SLesser (sp : Sp3) : Prop := ∀ (a b : Ed) (Q : VK3) (E : XK3), (∀ M, Q (oD (eMin a b)) M) → sp [oD a, oD b] M0 Q E
def SJoined (sp : Sp3) : Prop := ∀ (a b : Ed) (Q : VK3) (E : XK3), (∀ M, Q (oD (eAdd a b)) M) → sp [oD a, oD b] M0 Q E
def lesserR : XK3 → TS3 := fun E =>
  (wSeq (wIfS (wOr (wB (wOp (oIsN false) (wVar 0) (wC .non))) (wB (wOp (oIsN false) (wVar 1) (wC .non)))) (wRet (wIf (wB (wOp (oIsN false) (wVar 0) (wC .non))) (wVar 1) (wVar 0))) wNext)
  (wRet (wCB bMin (wCons (wVar 0) (wCons (wVar 1) wNil)))))
def joinedR : XK3 → TS3 := fun E =>
  (wRet (wIf (wOr (wB (wOp (oIsN false) (wVar 0) (wC .non))) (wB (wOp (oIsN false) (wVar 1) (wC .non)))) (wC .non) (wOp oAddF (wVar 0) (wVar 1))))
theorem s_lesser : SLesser (spOf 2 2 lesserR) := by
  refine fun a b Q E h => ⟨rfl, ?_⟩
  show lesserR E _ [some (oD a), some (oD b)] M0
  unfold lesserR
  cases a <;> cases b <;> simp only [st_seq, st_next, st_break, st_cont, st_set, st_ret, st_retN, st_drop, st_if, st_asg, st_par, st_for, ex_c, ex_var, ex_op, ex_un, ex_b, ex_and, ex_or, ex_not, ex_andV, ex_orV, ex_notV, ex_if, ex_chain, ex_nil, ex_cons, ex_tup, ex_lst, ex_call, ex_callP, ex_cb, ex_bm, ex_rep, ex_lc, ex_sl, ex_noPart, ex_part, ex_yes, it_items, it_rng1, it_rng2, tg_name, tg_sub, tg_tup, tg_cons, tg_nil, gs_0, gs_s, ss_0, ss_s, op_ii, op_ss, op_tt, op_mm, op_sb, op_ng, op_iNf, op_iNt, op_lle, op_ixT, op_ixR, op_ixL, op_putE, op_appE, it_tupE, it_rolE, it_refE, lstOf_l, exL, asS_some, asI_int, asB_bl, asL_some, asN_some, ite3_t, ite3_f, bl_1, bl_lenT, bl_lenR, bl_lenL, bl_lenS, bl_tuple, bl_list, bl_abs, bl_intI, bl_intB, bl_max, bl_min, bl_repr, op_eqSf, op_eqSt, op_eqIf, op_eqIt, op_eqTf, op_eqTt, op_eqRf, op_eqRt, op_eqNf, op_eqNt, eqD_int, eqD_nil, pl_int, pl_nil, pl_non, pl_rnil, pl_bl, sl_tupE, sl_rolE, keep_ref, keep_tup, keep_rol, tp_int, tp_tup, tp_rol, tp_str, tp_bl, tp_non, tp_ref, oFd, oMd, oPw, oShl, oLt, oLe, oGt, oGe, op_in, op_cp, wipe_nil, wipe_cons, mset_same, true_and, and_true, isN_int, sz_0, sz_1, sz_2, sz_3, sz_4, sz_5, sz_6, sz_7, sz_8, sz_9, sz_10, sz_11, sz_12, ex_lstF, ex_repF, ex_lgF1, ex_lgF2, ex_tupRg1, ex_tupRg2, ex_lcF, ex_frz, ex_slF, ex_slM, sl_tupF, sl_rolF, op_iiF, op_ssF, op_ttF, op_rrF, op_rrM, op_mmF, op_repF, li_rol, li_ref, bl_listF, bl_allF, bl_anyF, asT_some, asJ_some, op_eqLf, op_eqLt, op_eqBf, op_eqBt, isN_non, Bool.not_true, Bool.not_false, oD] <;> exact h M0
theorem s_joined : SJoined (spOf 2 2 joinedR) := by
  refine fun a b Q E h => ⟨rfl, ?_⟩
  show joinedR E _ [some (oD a), some (oD b)] M0
  unfold joinedR
  cases a <;> cases b <;> simp only [st_seq, st_next, st_break, st_cont, st_set, st_ret, st_retN, st_drop, st_if, st_asg, st_par, st_for, ex_c, ex_var, ex_op, ex_un, ex_b, ex_and, ex_or, ex_not, ex_andV, ex_orV, ex_notV, ex_if, ex_chain, ex_nil, ex_cons, ex_tup, ex_lst, ex_call, ex_callP, ex_cb, ex_bm, ex_rep, ex_lc, ex_sl, ex_noPart, ex_part, ex_yes, it_items, it_rng1, it_rng2, tg_name, tg_sub, tg_tup, tg_cons, tg_nil, gs_0, gs_s, ss_0, ss_s, op_ii, op_ss, op_tt, op_mm, op_sb, op_ng, op_iNf, op_iNt, op_lle, op_ixT, op_ixR, op_ixL, op_putE, op_appE, it_tupE, it_rolE, it_refE, lstOf_l, exL, asS_some, asI_int, asB_bl, asL_some, asN_some, ite3_t, ite3_f, bl_1, bl_lenT, bl_lenR, bl_lenL, bl_lenS, bl_tuple, bl_list, bl_abs, bl_intI, bl_intB, bl_max, bl_min, bl_repr, op_eqSf, op_eqSt, op_eqIf, op_eqIt, op_eqTf, op_eqTt, op_eqRf, op_eqRt, op_eqNf, op_eqNt, eqD_int, eqD_nil, pl_int, pl_nil, pl_non, pl_rnil, pl_bl, sl_tupE, sl_rolE, keep_ref, keep_tup, keep_rol, tp_int, tp_tup, tp_rol, tp_str, tp_bl, tp_non, tp_ref, oFd, oMd, oPw, oShl, oLt, oLe, oGt, oGe, op_in, op_cp, wipe_nil, wipe_cons, mset_same, true_and, and_true, isN_int, sz_0, sz_1, sz_2, sz_3, sz_4, sz_5, sz_6, sz_7, sz_8, sz_9, sz_10, sz_11, sz_12, ex_lstF, ex_repF, ex_lgF1, ex_lgF2, ex_tupRg1, ex_tupRg2, ex_lcF, ex_frz, ex_slF, ex_slM, sl_tupF, sl_rolF, op_iiF, op_ssF, op_ttF, op_rrF, op_rrM, op_mmF, op_repF, li_rol, li_ref, bl_listF, bl_allF, bl_anyF, asT_some, asJ_some, op_eqLf, op_eqLt, op_eqBf, op_eqBt, isN_non, Bool.not_true, Bool.not_false, oD] <;> exact h M0
theorem at2_put {n p q : Nat} {T : Tab} {e : Ed} (s : Sq n T) (hp : p < n) (hq : q < n) : at2 (putT T p q e) = updF (at2 T) p q e := by
  have h1 : p < T.length := by rw [s.rows]; exact hp
  have h2 : q < (T.getD p []).length := by
    rw [List.getD_eq_getElem?_getD, List.getElem?_eq_getElem h1]
    show q < T[p].length
    rw [s.cols _ (List.getElem_mem h1)]; exact hq
  funext i j
  unfold updF at2 putT
  by_cases hi : i = p
  · subst hi
    rw [List.getD_eq_getElem?_getD (l := T.set i _), List.getElem?_set_self h1]
    show ((T.getD i []).set q e).getD j none = _
    by_cases hj : j = q
    · subst hj
      rw [if_pos ⟨rfl, rfl⟩, List.getD_eq_getElem?_getD, List.getElem?_set_self h2]; rfl
    · rw [if_neg (fun h => hj h.2), List.getD_eq_getElem?_getD, List.getElem?_set_ne (Ne.symm hj), ← List.getD_eq_getElem?_getD]
  · rw [if_neg (fun h => hi h.1), List.getD_eq_getElem?_getD (l := T.set p _), List.getElem?_set_ne (Ne.symm hi), ← List.getD_eq_getElem?_getD]
theorem ends_at' {B n p q : Nat} {T : Tab} (t : TabB B n T) : EdB B (at2 T p q) := by
  unfold at2
  by_cases hp : p < T.length
  · rw [List.getD_eq_getElem?_getD, List.getD_eq_getElem?_getD, List.getElem?_eq_getElem hp]
    by_cases hq : q < T[p].length
    · have e : (some T[p]).getD [] = T[p] := rfl
      rw [e, List.getElem?_eq_getElem hq]
      exact t.ends _ (List.getElem_mem hp) _ (List.getElem_mem hq)
    · have e : (some T[p]).getD [] = T[p] := rfl
      rw [e, List.getElem?_eq_none (by omega)]
      exact .non
  · have e : T[p]? = none := List.getElem?_eq_none (by omega)
    rw [List.getD_eq_getElem?_getD, List.getD_eq_getElem?_getD, e]
    exact .non
theorem ends_of {B n : Nat} {T : Tab} (h : ∀ p q, p < n → q < n → EdB B (at2 T p q)) (s : Sq n T) : ∀ r ∈ T, ∀ e ∈ r, EdB B e := by
  intro r hr e he
  obtain ⟨p, hp, e1⟩ := List.mem_iff_getElem.mp hr
  obtain ⟨q, hq, e2⟩ := List.mem_iff_getElem.mp he
  have b := h p q (by rw [← s.rows]; exact hp) (by rw [← s.cols r hr]; exact hq)
  have : at2 T p q = e := by
    unfold at2
    rw [List.getD_eq_getElem?_getD, List.getD_eq_getElem?_getD, List.getElem?_eq_getElem hp]
    show (T[p][q]?).getD none = e
    rw [e1, List.getElem?_eq_getElem hq, e2]; rfl
  rw [this] at b
  exact b
def Closes (n B : Nat) (T : Tab) (d : D) : Prop := (Bad n (at2 T) ∧ d = .tup []) ∨ ∃ S : Tab, TabB (2 ^ n * B) n S ∧ IsCl n (at2 T) (at2 S) ∧ d = tabD S
def SClosed (sp : Sp3) : Prop := ∀ (n B : Nat) (T : Tab) (Q : VK3) (E : XK3), n ≤ 1000 → TabB B n T → 0 < B → (∀ d M, Closes n B T d → Q d M) → sp [tabD T] M0 Q E
def closedR (sp_lesser : Sp3) (sp_joined : Sp3) : XK3 → TS3 := fun E =>
  (wSeq (wSet 1 (wLstRgF1 (wCB bLen (wCons (wVar 0) wNil))))
  (wSeq (wSet 2 (wLcF (wItems (wVar 0)) (wgName 3) wYes (wCB bList (wCons (wVar 3) wNil)) [3]))
  (wSeq (wFor (wItems (wVar 1)) (wgName 4) (wAsg (wCallP sp_lesser E (wCons (wOp oIx (wOp oIx (wVar 2) (wVar 4)) (wVar 4)) (wCons (wC (.int 0)) wNil))) (wgSub (wOp oIx (wVar 2) (wVar 4)) (wVar 4) oPut)))
  (wSeq (wFor (wItems (wVar 1)) (wgName 5) (wFor (wItems (wVar 1)) (wgName 4) (wFor (wItems (wVar 1)) (wgName 6) (wAsg (wCallP sp_lesser E (wCons (wOp oIx (wOp oIx (wVar 2) (wVar 4)) (wVar 6)) (wCons (wCallP sp_joined E (wCons (wOp oIx (wOp oIx (wVar 2) (wVar 4)) (wVar 5)) (wCons (wOp oIx (wOp oIx (wVar 2) (wVar 5)) (wVar 6)) wNil))) wNil))) (wgSub (wOp oIx (wVar 2) (wVar 4)) (wVar 6) oPut)))))
  (wSeq (wIfS (wB (wCB bAnyF (wCons (wLcF (wItems (wVar 1)) (wgName 4) wYes (wOp oLt (wOp oIx (wOp oIx (wVar 2) (wVar 4)) (wVar 4)) (wC (.int 0))) [4]) wNil))) (wRet (wTup wNil)) wNext)
  (wRet (wCB bTuple (wCons (wLcF (wItems (wVar 2)) (wgName 3) wYes (wCB bTuple (wCons (wVar 3) wNil)) [3]) wNil))))))))
def negB (f : Fn) (p : Nat) : Bool := match f p p with
  | some x => decide (x < 0)
  | none => false
theorem neg_any {n : Nat} {f : Fn} : ((List.range n).map (negB f)).any id = true ↔ Neg n f := by
  rw [List.any_map, List.any_eq_true]
  constructor
  · rintro ⟨p, hp, h⟩
    rw [List.mem_range] at hp
    unfold negB at h
    refine ⟨p, hp, ?_⟩
    cases e : f p p with
    | none => simp [e] at h
    | some x => simp [e] at h; exact ⟨x, rfl, h⟩
  · rintro ⟨p, hp, x, hx, h0⟩
    refine ⟨p, List.mem_range.mpr hp, ?_⟩
    simp [negB, hx, h0]
/-- over a list of 0 .. n - 1 -/
theorem for_pts {g : TG3} {tb : TS3} {E : Ends3} {n : Nat} (Pv : Nat → St3 → Mp → Prop)
    (step : ∀ i τ M, i < n → Pv i τ M → ∀ X : St3 → Mp → Prop, (∀ τ' M', Pv (i + 1) τ' M' → X τ' M') → g (.int (0 + (i : Nat))) τ M fun τ2 M2 => tb { E with nx := X, ct := X, bk := E.nx } τ2 M2)
    (fin : ∀ τ M, Pv n τ M → E.nx τ M) {τ : St3} {M : Mp} (h0 : Pv 0 τ M) : forW (fun _ => True) g tb E (rgD 0 n) τ M := for_rg Pv step fin h0
theorem s_closed {sl sj : Sp3} (kl : SLesser sl) (kj : SJoined sj) : SClosed (spOf 1 7 (closedR sl sj)) := by
  refine fun n B T Q E hn tb hB h => ⟨rfl, ?_⟩
  show closedR sl sj E _ [some (tabD T), none, none, none, none, none, none] M0
  unfold closedR
  rw [st_seq, st_set]
  simp only [ex_c, ex_var, ex_op, ex_un, ex_b, ex_and, ex_or, ex_not, ex_andV, ex_orV, ex_notV, ex_if, ex_chain, ex_nil, ex_cons, ex_tup, ex_lst, ex_call, ex_callP, ex_cb, ex_bm, ex_rep, ex_sl, ex_noPart, ex_part, ex_yes, it_items, it_rng1, it_rng2, tg_name, tg_sub, tg_tup, tg_cons, tg_nil, gs_0, gs_s, ss_0, ss_s, op_ii, op_ss, op_tt, op_mm, op_sb, op_ng, op_iNf, op_iNt, op_lle, op_ixT, op_ixR, op_ixL, op_putE, op_appE, it_tupE, it_rolE, it_refE, lstOf_l, exL, asS_some, asI_int, asB_bl, asL_some, asN_some, ite3_t, ite3_f, bl_1, bl_lenT, bl_lenR, bl_lenL, bl_lenS, bl_tuple, bl_list, bl_abs, bl_intI, bl_intB, bl_max, bl_min, bl_repr, op_eqSf, op_eqSt, op_eqIf, op_eqIt, op_eqTf, op_eqTt, op_eqRf, op_eqRt, op_eqNf, op_eqNt, eqD_int, eqD_nil, pl_int, pl_nil, pl_non, pl_rnil, pl_bl, sl_tupE, sl_rolE, keep_ref, keep_tup, keep_rol, tp_int, tp_tup, tp_rol, tp_str, tp_bl, tp_non, tp_ref, oFd, oMd, oPw, oShl, oLt, oLe, oGt, oGe, op_in, op_cp, wipe_nil, wipe_cons, mset_same, true_and, and_true, isN_int, sz_0, sz_1, sz_2, sz_3, sz_4, sz_5, sz_6, sz_7, sz_8, sz_9, sz_10, sz_11, sz_12, ex_lstF, ex_repF, ex_lgF1, ex_lgF2, ex_tupRg1, ex_tupRg2, ex_frz, ex_slF, ex_slM, sl_tupF, sl_rolF, op_iiF, op_ssF, op_ttF, op_rrF, op_rrM, op_mmF, op_repF, li_rol, li_ref, bl_listF, bl_allF, bl_anyF, asT_some, asJ_some, op_eqLf, op_eqLt, op_eqBf, op_eqBt, isN_non, Bool.not_true, Bool.not_false, tabD, List.length_map, tb.rows, Int.toNat_natCast]
  refine ⟨⟨by omega, by omega⟩, ?_⟩
  rw [st_seq, st_set]
  refine lc_rowsF (n := n) rfl (by simp) (by decide) tb.sq hn fun as M1 m1 => ?_
  have eB := fun p q (_ : p < n) (_ : q < n) => ends_at' (p := p) (q := q) tb
  have e0 : ∀ i : Nat, (0 + (i : Int)).toNat = i := fun i => by omega
  have big : (1000 : Nat) ≤ sizeLine := by decide
  dsimp only
  rw [st_seq, st_for]
  simp only [ex_c, ex_var, ex_op, ex_un, ex_b, ex_and, ex_or, ex_not, ex_andV, ex_orV, ex_notV, ex_if, ex_chain, ex_nil, ex_cons, ex_tup, ex_lst, ex_call, ex_callP, ex_cb, ex_bm, ex_rep, ex_sl, ex_noPart, ex_part, ex_yes, it_items, it_rng1, it_rng2, tg_name, tg_sub, tg_tup, tg_cons, tg_nil, gs_0, gs_s, ss_0, ss_s, op_ii, op_ss, op_tt, op_mm, op_sb, op_ng, op_iNf, op_iNt, op_lle, op_ixT, op_ixR, op_ixL, op_putE, op_appE, it_tupE, it_rolE, it_refE, lstOf_l, exL, asS_some, asI_int, asB_bl, asL_some, asN_some, ite3_t, ite3_f, bl_1, bl_lenT, bl_lenR, bl_lenL, bl_lenS, bl_tuple, bl_list, bl_abs, bl_intI, bl_intB, bl_max, bl_min, bl_repr, op_eqSf, op_eqSt, op_eqIf, op_eqIt, op_eqTf, op_eqTt, op_eqRf, op_eqRt, op_eqNf, op_eqNt, eqD_int, eqD_nil, pl_int, pl_nil, pl_non, pl_rnil, pl_bl, sl_tupE, sl_rolE, keep_ref, keep_tup, keep_rol, tp_int, tp_tup, tp_rol, tp_str, tp_bl, tp_non, tp_ref, oFd, oMd, oPw, oShl, oLt, oLe, oGt, oGe, op_in, op_cp, wipe_nil, wipe_cons, mset_same, true_and, and_true, isN_int, sz_0, sz_1, sz_2, sz_3, sz_4, sz_5, sz_6, sz_7, sz_8, sz_9, sz_10, sz_11, sz_12, ex_lstF, ex_repF, ex_lgF1, ex_lgF2, ex_tupRg1, ex_tupRg2, ex_frz, ex_slF, ex_slM, sl_tupF, sl_rolF, op_iiF, op_ssF, op_ttF, op_rrF, op_rrM, op_mmF, op_repF, li_rol, li_ref, bl_listF, bl_allF, bl_anyF, asT_some, asJ_some, op_eqLf, op_eqLt, op_eqBf, op_eqBt, isN_non, Bool.not_true, Bool.not_false]
  -- the diagonal
  refine for_pts (fun i τ M' => i ≤ n ∧ (∃ f, Rows M0 M' as f ∧ Sq n f ∧ Dg n (at2 T) (at2 f) i) ∧ ∃ x3 x4 x5 x6, τ = [some (tabD T), some (.rol (rgD 0 n)), some (.rol (as.map D.ref)), x3, x4, x5, x6])
    ?_ ?_ ⟨Nat.zero_le _, ⟨T, m1, tb.sq, fun p q hp hq => by rw [if_neg (by omega)]⟩, _, _, _, _, rfl⟩
  · rintro i τ M' hi ⟨_, ⟨f, m, sq, dg⟩, x3, x4, x5, x6, rfl⟩ X hX
    obtain ⟨b, r, g1, g2, g3, g4, g5, g6⟩ := m.at2R sq (p := 0 + (i : Int)) (q := 0 + (i : Int)) (by omega) (by omega) (by omega) (by omega)
    rw [e0] at g3 g4 g5 g6
    simp only [st_seq, st_next, st_break, st_cont, st_set, st_ret, st_retN, st_drop, st_if, st_asg, st_par, st_for, ex_c, ex_var, ex_op, ex_un, ex_b, ex_and, ex_or, ex_not, ex_andV, ex_orV, ex_notV, ex_if, ex_chain, ex_nil, ex_cons, ex_tup, ex_lst, ex_call, ex_callP, ex_cb, ex_bm, ex_rep, ex_lc, ex_sl, ex_noPart, ex_part, ex_yes, it_items, it_rng1, it_rng2, tg_name, tg_sub, tg_tup, tg_cons, tg_nil, gs_0, gs_s, ss_0, ss_s, op_ii, op_ss, op_tt, op_mm, op_sb, op_ng, op_iNf, op_iNt, op_lle, op_ixT, op_ixR, op_ixL, op_putE, op_appE, it_tupE, it_rolE, it_refE, lstOf_l, exL, asS_some, asI_int, asB_bl, asL_some, asN_some, ite3_t, ite3_f, bl_1, bl_lenT, bl_lenR, bl_lenL, bl_lenS, bl_tuple, bl_list, bl_abs, bl_intI, bl_intB, bl_max, bl_min, bl_repr, op_eqSf, op_eqSt, op_eqIf, op_eqIt, op_eqTf, op_eqTt, op_eqRf, op_eqRt, op_eqNf, op_eqNt, eqD_int, eqD_nil, pl_int, pl_nil, pl_non, pl_rnil, pl_bl, sl_tupE, sl_rolE, keep_ref, keep_tup, keep_rol, tp_int, tp_tup, tp_rol, tp_str, tp_bl, tp_non, tp_ref, oFd, oMd, oPw, oShl, oLt, oLe, oGt, oGe, op_in, op_cp, wipe_nil, wipe_cons, mset_same, true_and, and_true, isN_int, sz_0, sz_1, sz_2, sz_3, sz_4, sz_5, sz_6, sz_7, sz_8, sz_9, sz_10, sz_11, sz_12, ex_lstF, ex_repF, ex_lgF1, ex_lgF2, ex_tupRg1, ex_tupRg2, ex_lcF, ex_frz, ex_slF, ex_slM, sl_tupF, sl_rolF, op_iiF, op_ssF, op_ttF, op_rrF, op_rrM, op_mmF, op_repF, li_rol, li_ref, bl_listF, bl_allF, bl_anyF, asT_some, asJ_some, op_eqLf, op_eqLt, op_eqBf, op_eqBt, isN_non, Bool.not_true, Bool.not_false, g1, g2, g3]
    refine kl _ (some 0) _ _ fun M2 => ?_
    simp only [st_seq, st_next, st_break, st_cont, st_set, st_ret, st_retN, st_drop, st_if, st_asg, st_par, st_for, ex_c, ex_var, ex_op, ex_un, ex_b, ex_and, ex_or, ex_not, ex_andV, ex_orV, ex_notV, ex_if, ex_chain, ex_nil, ex_cons, ex_tup, ex_lst, ex_call, ex_callP, ex_cb, ex_bm, ex_rep, ex_lc, ex_sl, ex_noPart, ex_part, ex_yes, it_items, it_rng1, it_rng2, tg_name, tg_sub, tg_tup, tg_cons, tg_nil, gs_0, gs_s, ss_0, ss_s, op_ii, op_ss, op_tt, op_mm, op_sb, op_ng, op_iNf, op_iNt, op_lle, op_ixT, op_ixR, op_ixL, op_putE, op_appE, it_tupE, it_rolE, it_refE, lstOf_l, exL, asS_some, asI_int, asB_bl, asL_some, asN_some, ite3_t, ite3_f, bl_1, bl_lenT, bl_lenR, bl_lenL, bl_lenS, bl_tuple, bl_list, bl_abs, bl_intI, bl_intB, bl_max, bl_min, bl_repr, op_eqSf, op_eqSt, op_eqIf, op_eqIt, op_eqTf, op_eqTt, op_eqRf, op_eqRt, op_eqNf, op_eqNt, eqD_int, eqD_nil, pl_int, pl_nil, pl_non, pl_rnil, pl_bl, sl_tupE, sl_rolE, keep_ref, keep_tup, keep_rol, tp_int, tp_tup, tp_rol, tp_str, tp_bl, tp_non, tp_ref, oFd, oMd, oPw, oShl, oLt, oLe, oGt, oGe, op_in, op_cp, wipe_nil, wipe_cons, mset_same, true_and, and_true, isN_int, sz_0, sz_1, sz_2, sz_3, sz_4, sz_5, sz_6, sz_7, sz_8, sz_9, sz_10, sz_11, sz_12, ex_lstF, ex_repF, ex_lgF1, ex_lgF2, ex_tupRg1, ex_tupRg2, ex_lcF, ex_frz, ex_slF, ex_slM, sl_tupF, sl_rolF, op_iiF, op_ssF, op_ttF, op_rrF, op_rrM, op_mmF, op_repF, li_rol, li_ref, bl_listF, bl_allF, bl_anyF, asT_some, asJ_some, op_eqLf, op_eqLt, op_eqBf, op_eqBt, isN_non, Bool.not_true, Bool.not_false, g1, g2, g4]
    have m2 := m.putR (q := i) (x := eMin (at2 f i i) (some 0)) g5 g6
    refine hX _ _ ⟨hi, ⟨_, m2, sq.put, ?_⟩, _, _, _, _, rfl⟩
    rw [at2_put sq hi hi]
    exact dg.step hi
  · rintro τ M' ⟨_, ⟨f, m, sq, dg⟩, x3, x4, x5, x6, rfl⟩
    have rc := dg.run eB hB
    dsimp only
    rw [st_seq, st_for]
    simp only [ex_c, ex_var, ex_op, ex_un, ex_b, ex_and, ex_or, ex_not, ex_andV, ex_orV, ex_notV, ex_if, ex_chain, ex_nil, ex_cons, ex_tup, ex_lst, ex_call, ex_callP, ex_cb, ex_bm, ex_rep, ex_sl, ex_noPart, ex_part, ex_yes, it_items, it_rng1, it_rng2, tg_name, tg_sub, tg_tup, tg_cons, tg_nil, gs_0, gs_s, ss_0, ss_s, op_ii, op_ss, op_tt, op_mm, op_sb, op_ng, op_iNf, op_iNt, op_lle, op_ixT, op_ixR, op_ixL, op_putE, op_appE, it_tupE, it_rolE, it_refE, lstOf_l, exL, asS_some, asI_int, asB_bl, asL_some, asN_some, ite3_t, ite3_f, bl_1, bl_lenT, bl_lenR, bl_lenL, bl_lenS, bl_tuple, bl_list, bl_abs, bl_intI, bl_intB, bl_max, bl_min, bl_repr, op_eqSf, op_eqSt, op_eqIf, op_eqIt, op_eqTf, op_eqTt, op_eqRf, op_eqRt, op_eqNf, op_eqNt, eqD_int, eqD_nil, pl_int, pl_nil, pl_non, pl_rnil, pl_bl, sl_tupE, sl_rolE, keep_ref, keep_tup, keep_rol, tp_int, tp_tup, tp_rol, tp_str, tp_bl, tp_non, tp_ref, oFd, oMd, oPw, oShl, oLt, oLe, oGt, oGe, op_in, op_cp, wipe_nil, wipe_cons, mset_same, true_and, and_true, isN_int, sz_0, sz_1, sz_2, sz_3, sz_4, sz_5, sz_6, sz_7, sz_8, sz_9, sz_10, sz_11, sz_12, ex_lstF, ex_repF, ex_lgF1, ex_lgF2, ex_tupRg1, ex_tupRg2, ex_frz, ex_slF, ex_slM, sl_tupF, sl_rolF, op_iiF, op_ssF, op_ttF, op_rrF, op_rrM, op_mmF, op_repF, li_rol, li_ref, bl_listF, bl_allF, bl_anyF, asT_some, asJ_some, op_eqLf, op_eqLt, op_eqBf, op_eqBt, isN_non, Bool.not_true, Bool.not_false]
    refine for_pts (fun i τ M' => i ≤ n ∧ (∃ f, Rows M0 M' as f ∧ Sq n f ∧ RunC n i B (at2 T) (at2 f)) ∧ ∃ x3 x4 x5 x6, τ = [some (tabD T), some (.rol (rgD 0 n)), some (.rol (as.map D.ref)), x3, x4, x5, x6])
      ?_ ?_ ⟨Nat.zero_le _, ⟨f, m, sq, rc⟩, _, _, _, _, rfl⟩
    · rintro k τ M' hk ⟨_, ⟨f, m, sq, rc⟩, x3, x4, x5, x6, rfl⟩ X hX
      rw [tg_name, st_for]
      simp only [ex_c, ex_var, ex_op, ex_un, ex_b, ex_and, ex_or, ex_not, ex_andV, ex_orV, ex_notV, ex_if, ex_chain, ex_nil, ex_cons, ex_tup, ex_lst, ex_call, ex_callP, ex_cb, ex_bm, ex_rep, ex_sl, ex_noPart, ex_part, ex_yes, it_items, it_rng1, it_rng2, tg_name, tg_sub, tg_tup, tg_cons, tg_nil, gs_0, gs_s, ss_0, ss_s, op_ii, op_ss, op_tt, op_mm, op_sb, op_ng, op_iNf, op_iNt, op_lle, op_ixT, op_ixR, op_ixL, op_putE, op_appE, it_tupE, it_rolE, it_refE, lstOf_l, exL, asS_some, asI_int, asB_bl, asL_some, asN_some, ite3_t, ite3_f, bl_1, bl_lenT, bl_lenR, bl_lenL, bl_lenS, bl_tuple, bl_list, bl_abs, bl_intI, bl_intB, bl_max, bl_min, bl_repr, op_eqSf, op_eqSt, op_eqIf, op_eqIt, op_eqTf, op_eqTt, op_eqRf, op_eqRt, op_eqNf, op_eqNt, eqD_int, eqD_nil, pl_int, pl_nil, pl_non, pl_rnil, pl_bl, sl_tupE, sl_rolE, keep_ref, keep_tup, keep_rol, tp_int, tp_tup, tp_rol, tp_str, tp_bl, tp_non, tp_ref, oFd, oMd, oPw, oShl, oLt, oLe, oGt, oGe, op_in, op_cp, wipe_nil, wipe_cons, mset_same, true_and, and_true, isN_int, sz_0, sz_1, sz_2, sz_3, sz_4, sz_5, sz_6, sz_7, sz_8, sz_9, sz_10, sz_11, sz_12, ex_lstF, ex_repF, ex_lgF1, ex_lgF2, ex_tupRg1, ex_tupRg2, ex_frz, ex_slF, ex_slM, sl_tupF, sl_rolF, op_iiF, op_ssF, op_ttF, op_rrF, op_rrM, op_mmF, op_repF, li_rol, li_ref, bl_listF, bl_allF, bl_anyF, asT_some, asJ_some, op_eqLf, op_eqLt, op_eqBf, op_eqBt, isN_non, Bool.not_true, Bool.not_false]
      refine for_pts (fun i τ M' => i ≤ n ∧ (∃ f, Rows M0 M' as f ∧ Sq n f ∧ RunM n k B (at2 T) (at2 f) i 0) ∧ ∃ x3 x4 x6, τ = [some (tabD T), some (.rol (rgD 0 n)), some (.rol (as.map D.ref)), x3, x4, some (.int (0 + (k : Nat))), x6])
        ?_ ?_ ⟨Nat.zero_le _, ⟨f, m, sq, rc.start⟩, _, _, _, rfl⟩
      · rintro i τ M' hi ⟨_, ⟨f, m, sq, rm⟩, x3, x4, x6, rfl⟩ X2 hX2
        rw [tg_name, st_for]
        simp only [ex_c, ex_var, ex_op, ex_un, ex_b, ex_and, ex_or, ex_not, ex_andV, ex_orV, ex_notV, ex_if, ex_chain, ex_nil, ex_cons, ex_tup, ex_lst, ex_call, ex_callP, ex_cb, ex_bm, ex_rep, ex_sl, ex_noPart, ex_part, ex_yes, it_items, it_rng1, it_rng2, tg_name, tg_sub, tg_tup, tg_cons, tg_nil, gs_0, gs_s, ss_0, ss_s, op_ii, op_ss, op_tt, op_mm, op_sb, op_ng, op_iNf, op_iNt, op_lle, op_ixT, op_ixR, op_ixL, op_putE, op_appE, it_tupE, it_rolE, it_refE, lstOf_l, exL, asS_some, asI_int, asB_bl, asL_some, asN_some, ite3_t, ite3_f, bl_1, bl_lenT, bl_lenR, bl_lenL, bl_lenS, bl_tuple, bl_list, bl_abs, bl_intI, bl_intB, bl_max, bl_min, bl_repr, op_eqSf, op_eqSt, op_eqIf, op_eqIt, op_eqTf, op_eqTt, op_eqRf, op_eqRt, op_eqNf, op_eqNt, eqD_int, eqD_nil, pl_int, pl_nil, pl_non, pl_rnil, pl_bl, sl_tupE, sl_rolE, keep_ref, keep_tup, keep_rol, tp_int, tp_tup, tp_rol, tp_str, tp_bl, tp_non, tp_ref, oFd, oMd, oPw, oShl, oLt, oLe, oGt, oGe, op_in, op_cp, wipe_nil, wipe_cons, mset_same, true_and, and_true, isN_int, sz_0, sz_1, sz_2, sz_3, sz_4, sz_5, sz_6, sz_7, sz_8, sz_9, sz_10, sz_11, sz_12, ex_lstF, ex_repF, ex_lgF1, ex_lgF2, ex_tupRg1, ex_tupRg2, ex_frz, ex_slF, ex_slM, sl_tupF, sl_rolF, op_iiF, op_ssF, op_ttF, op_rrF, op_rrM, op_mmF, op_repF, li_rol, li_ref, bl_listF, bl_allF, bl_anyF, asT_some, asJ_some, op_eqLf, op_eqLt, op_eqBf, op_eqBt, isN_non, Bool.not_true, Bool.not_false]
        refine for_pts (fun j τ M' => j ≤ n ∧ (∃ f, Rows M0 M' as f ∧ Sq n f ∧ RunM n k B (at2 T) (at2 f) i j) ∧ ∃ x3 x6, τ = [some (tabD T), some (.rol (rgD 0 n)), some (.rol (as.map D.ref)), x3, some (.int (0 + (i : Nat))), some (.int (0 + (k : Nat))), x6])
          ?_ ?_ ⟨Nat.zero_le _, ⟨f, m, sq, rm⟩, _, _, rfl⟩
        · rintro j τ M' hj ⟨_, ⟨f, m, sq, rm⟩, x3, x6, rfl⟩ X3 hX3
          obtain ⟨b, r, g1, g2, g3, g4, g5, g6⟩ := m.at2R sq (p := 0 + (i : Int)) (q := 0 + (j : Int)) (by omega) (by omega) (by omega) (by omega)
          obtain ⟨b', r', k1, k2, k3, _, k5, k6⟩ := m.at2R sq (p := 0 + (i : Int)) (q := 0 + (k : Int)) (by omega) (by omega) (by omega) (by omega)
          obtain ⟨c, t, l1, l2, l3, _, _, _⟩ := m.at2R sq (p := 0 + (k : Int)) (q := 0 + (j : Int)) (by omega) (by omega) (by omega) (by omega)
          rw [e0, e0] at g3 k3 l3
          rw [e0] at g4 g5 g6 k5 k6
          have eb : b' = b := by rw [g5] at k5; exact (Option.some.inj k5).symm
          have er : r' = r := by rw [g6] at k6; exact (Option.some.inj k6).symm
          rw [er] at k3
          simp only [st_seq, st_next, st_break, st_cont, st_set, st_ret, st_retN, st_drop, st_if, st_asg, st_par, st_for, ex_c, ex_var, ex_op, ex_un, ex_b, ex_and, ex_or, ex_not, ex_andV, ex_orV, ex_notV, ex_if, ex_chain, ex_nil, ex_cons, ex_tup, ex_lst, ex_call, ex_callP, ex_cb, ex_bm, ex_rep, ex_lc, ex_sl, ex_noPart, ex_part, ex_yes, it_items, it_rng1, it_rng2, tg_name, tg_sub, tg_tup, tg_cons, tg_nil, gs_0, gs_s, ss_0, ss_s, op_ii, op_ss, op_tt, op_mm, op_sb, op_ng, op_iNf, op_iNt, op_lle, op_ixT, op_ixR, op_ixL, op_putE, op_appE, it_tupE, it_rolE, it_refE, lstOf_l, exL, asS_some, asI_int, asB_bl, asL_some, asN_some, ite3_t, ite3_f, bl_1, bl_lenT, bl_lenR, bl_lenL, bl_lenS, bl_tuple, bl_list, bl_abs, bl_intI, bl_intB, bl_max, bl_min, bl_repr, op_eqSf, op_eqSt, op_eqIf, op_eqIt, op_eqTf, op_eqTt, op_eqRf, op_eqRt, op_eqNf, op_eqNt, eqD_int, eqD_nil, pl_int, pl_nil, pl_non, pl_rnil, pl_bl, sl_tupE, sl_rolE, keep_ref, keep_tup, keep_rol, tp_int, tp_tup, tp_rol, tp_str, tp_bl, tp_non, tp_ref, oFd, oMd, oPw, oShl, oLt, oLe, oGt, oGe, op_in, op_cp, wipe_nil, wipe_cons, mset_same, true_and, and_true, isN_int, sz_0, sz_1, sz_2, sz_3, sz_4, sz_5, sz_6, sz_7, sz_8, sz_9, sz_10, sz_11, sz_12, ex_lstF, ex_repF, ex_lgF1, ex_lgF2, ex_tupRg1, ex_tupRg2, ex_lcF, ex_frz, ex_slF, ex_slM, sl_tupF, sl_rolF, op_iiF, op_ssF, op_ttF, op_rrF, op_rrM, op_mmF, op_repF, li_rol, li_ref, bl_listF, bl_allF, bl_anyF, asT_some, asJ_some, op_eqLf, op_eqLt, op_eqBf, op_eqBt, isN_non, Bool.not_true, Bool.not_false, g1, g2, g3, k3, l1, l2, l3]
          refine kj _ _ _ _ fun M2 => kl _ _ _ _ fun M3 => ?_
          simp only [st_seq, st_next, st_break, st_cont, st_set, st_ret, st_retN, st_drop, st_if, st_asg, st_par, st_for, ex_c, ex_var, ex_op, ex_un, ex_b, ex_and, ex_or, ex_not, ex_andV, ex_orV, ex_notV, ex_if, ex_chain, ex_nil, ex_cons, ex_tup, ex_lst, ex_call, ex_callP, ex_cb, ex_bm, ex_rep, ex_lc, ex_sl, ex_noPart, ex_part, ex_yes, it_items, it_rng1, it_rng2, tg_name, tg_sub, tg_tup, tg_cons, tg_nil, gs_0, gs_s, ss_0, ss_s, op_ii, op_ss, op_tt, op_mm, op_sb, op_ng, op_iNf, op_iNt, op_lle, op_ixT, op_ixR, op_ixL, op_putE, op_appE, it_tupE, it_rolE, it_refE, lstOf_l, exL, asS_some, asI_int, asB_bl, asL_some, asN_some, ite3_t, ite3_f, bl_1, bl_lenT, bl_lenR, bl_lenL, bl_lenS, bl_tuple, bl_list, bl_abs, bl_intI, bl_intB, bl_max, bl_min, bl_repr, op_eqSf, op_eqSt, op_eqIf, op_eqIt, op_eqTf, op_eqTt, op_eqRf, op_eqRt, op_eqNf, op_eqNt, eqD_int, eqD_nil, pl_int, pl_nil, pl_non, pl_rnil, pl_bl, sl_tupE, sl_rolE, keep_ref, keep_tup, keep_rol, tp_int, tp_tup, tp_rol, tp_str, tp_bl, tp_non, tp_ref, oFd, oMd, oPw, oShl, oLt, oLe, oGt, oGe, op_in, op_cp, wipe_nil, wipe_cons, mset_same, true_and, and_true, isN_int, sz_0, sz_1, sz_2, sz_3, sz_4, sz_5, sz_6, sz_7, sz_8, sz_9, sz_10, sz_11, sz_12, ex_lstF, ex_repF, ex_lgF1, ex_lgF2, ex_tupRg1, ex_tupRg2, ex_lcF, ex_frz, ex_slF, ex_slM, sl_tupF, sl_rolF, op_iiF, op_ssF, op_ttF, op_rrF, op_rrM, op_mmF, op_repF, li_rol, li_ref, bl_listF, bl_allF, bl_anyF, asT_some, asJ_some, op_eqLf, op_eqLt, op_eqBf, op_eqBt, isN_non, Bool.not_true, Bool.not_false, g1, g2, g4]
          have m2 := m.putR (q := j) (x := eMin (at2 f i j) (eAdd (at2 f i k) (at2 f k j))) g5 g6
          refine hX3 _ _ ⟨hj, ⟨_, m2, sq.put, ?_⟩, _, _, rfl⟩
          rw [at2_put sq hi hj]
          exact rm.step hi hj hk
        · rintro τ M' ⟨_, ⟨f, m, sq, rm⟩, x3, x6, rfl⟩
          exact hX2 _ _ ⟨hi, ⟨f, m, sq, rm.row⟩, _, _, _, rfl⟩
      · rintro τ M' ⟨_, ⟨f, m, sq, rm⟩, x3, x4, x6, rfl⟩
        exact hX _ _ ⟨hk, ⟨f, m, sq, rm.round hk⟩, _, _, _, _, rfl⟩
    · rintro τ M' ⟨_, ⟨f, m, sq, rc⟩, x3, x4, x5, x6, rfl⟩
      dsimp only
      rw [st_seq, st_if]
      simp only [ex_c, ex_var, ex_op, ex_un, ex_b, ex_and, ex_or, ex_not, ex_andV, ex_orV, ex_notV, ex_if, ex_chain, ex_nil, ex_cons, ex_tup, ex_lst, ex_call, ex_callP, ex_cb, ex_bm, ex_rep, ex_sl, ex_noPart, ex_part, ex_yes, it_items, it_rng1, it_rng2, tg_name, tg_sub, tg_tup, tg_cons, tg_nil, gs_0, gs_s, ss_0, ss_s, op_ii, op_ss, op_tt, op_mm, op_sb, op_ng, op_iNf, op_iNt, op_lle, op_ixT, op_ixR, op_ixL, op_putE, op_appE, it_tupE, it_rolE, it_refE, lstOf_l, exL, asS_some, asI_int, asB_bl, asL_some, asN_some, ite3_t, ite3_f, bl_1, bl_lenT, bl_lenR, bl_lenL, bl_lenS, bl_tuple, bl_list, bl_abs, bl_intI, bl_intB, bl_max, bl_min, bl_repr, op_eqSf, op_eqSt, op_eqIf, op_eqIt, op_eqTf, op_eqTt, op_eqRf, op_eqRt, op_eqNf, op_eqNt, eqD_int, eqD_nil, pl_int, pl_nil, pl_non, pl_rnil, pl_bl, sl_tupE, sl_rolE, keep_ref, keep_tup, keep_rol, tp_int, tp_tup, tp_rol, tp_str, tp_bl, tp_non, tp_ref, oFd, oMd, oPw, oShl, oLt, oLe, oGt, oGe, op_in, op_cp, wipe_nil, wipe_cons, mset_same, true_and, and_true, isN_int, sz_0, sz_1, sz_2, sz_3, sz_4, sz_5, sz_6, sz_7, sz_8, sz_9, sz_10, sz_11, sz_12, ex_lstF, ex_repF, ex_lgF1, ex_lgF2, ex_tupRg1, ex_tupRg2, ex_frz, ex_slF, ex_slM, sl_tupF, sl_rolF, op_iiF, op_ssF, op_ttF, op_rrF, op_rrM, op_mmF, op_repF, li_rol, li_ref, bl_listF, bl_allF, bl_anyF, asT_some, asJ_some, op_eqLf, op_eqLt, op_eqBf, op_eqBt, isN_non, Bool.not_true, Bool.not_false, ex_lcF]
      refine lc_of (fun i : Nat => D.int (0 + (i : Int))) (fun i => D.bl (negB (at2 f) i)) True.intro (List.range n) (by rw [List.length_range]; omega) (fun k hk K q => ?_) ?_
      · rw [List.mem_range] at hk
        obtain ⟨b, r, g1, g2, g3, g4, g5, g6⟩ := m.at2R sq (p := 0 + (k : Int)) (q := 0 + (k : Int)) (by omega) (by omega) (by omega) (by omega)
        rw [e0] at g3
        have hd := rc.1.dg k hk
        cases ex : at2 f k k with
        | none => rw [ex] at hd; exact hd.elim
        | some x =>
          rw [ex] at g3
          simp only [ex_c, ex_var, ex_op, ex_un, ex_b, ex_and, ex_or, ex_not, ex_andV, ex_orV, ex_notV, ex_if, ex_chain, ex_nil, ex_cons, ex_tup, ex_lst, ex_call, ex_callP, ex_cb, ex_bm, ex_rep, ex_sl, ex_noPart, ex_part, ex_yes, it_items, it_rng1, it_rng2, tg_name, tg_sub, tg_tup, tg_cons, tg_nil, gs_0, gs_s, ss_0, ss_s, op_ii, op_ss, op_tt, op_mm, op_sb, op_ng, op_iNf, op_iNt, op_lle, op_ixT, op_ixR, op_ixL, op_putE, op_appE, it_tupE, it_rolE, it_refE, lstOf_l, exL, asS_some, asI_int, asB_bl, asL_some, asN_some, ite3_t, ite3_f, bl_1, bl_lenT, bl_lenR, bl_lenL, bl_lenS, bl_tuple, bl_list, bl_abs, bl_intI, bl_intB, bl_max, bl_min, bl_repr, op_eqSf, op_eqSt, op_eqIf, op_eqIt, op_eqTf, op_eqTt, op_eqRf, op_eqRt, op_eqNf, op_eqNt, eqD_int, eqD_nil, pl_int, pl_nil, pl_non, pl_rnil, pl_bl, sl_tupE, sl_rolE, keep_ref, keep_tup, keep_rol, tp_int, tp_tup, tp_rol, tp_str, tp_bl, tp_non, tp_ref, oFd, oMd, oPw, oShl, oLt, oLe, oGt, oGe, op_in, op_cp, wipe_nil, wipe_cons, mset_same, true_and, and_true, isN_int, sz_0, sz_1, sz_2, sz_3, sz_4, sz_5, sz_6, sz_7, sz_8, sz_9, sz_10, sz_11, sz_12, ex_lstF, ex_repF, ex_lgF1, ex_lgF2, ex_tupRg1, ex_tupRg2, ex_frz, ex_slF, ex_slM, sl_tupF, sl_rolF, op_iiF, op_ssF, op_ttF, op_rrF, op_rrM, op_mmF, op_repF, li_rol, li_ref, bl_listF, bl_allF, bl_anyF, asT_some, asJ_some, op_eqLf, op_eqLt, op_eqBf, op_eqBt, isN_non, Bool.not_true, Bool.not_false, g1, g2, g3, oD]
          simpa [negB, ex] using q
      · simp only [ex_c, ex_var, ex_op, ex_un, ex_b, ex_and, ex_or, ex_not, ex_andV, ex_orV, ex_notV, ex_if, ex_chain, ex_nil, ex_cons, ex_tup, ex_lst, ex_call, ex_callP, ex_cb, ex_bm, ex_rep, ex_sl, ex_noPart, ex_part, ex_yes, it_items, it_rng1, it_rng2, tg_name, tg_sub, tg_tup, tg_cons, tg_nil, gs_0, gs_s, ss_0, ss_s, op_ii, op_ss, op_tt, op_mm, op_sb, op_ng, op_iNf, op_iNt, op_lle, op_ixT, op_ixR, op_ixL, op_putE, op_appE, it_tupE, it_rolE, it_refE, lstOf_l, exL, asS_some, asI_int, asB_bl, asL_some, asN_some, ite3_t, ite3_f, bl_1, bl_lenT, bl_lenR, bl_lenL, bl_lenS, bl_tuple, bl_list, bl_abs, bl_intI, bl_intB, bl_max, bl_min, bl_repr, op_eqSf, op_eqSt, op_eqIf, op_eqIt, op_eqTf, op_eqTt, op_eqRf, op_eqRt, op_eqNf, op_eqNt, eqD_int, eqD_nil, pl_int, pl_nil, pl_non, pl_rnil, pl_bl, sl_tupE, sl_rolE, keep_ref, keep_tup, keep_rol, tp_int, tp_tup, tp_rol, tp_str, tp_bl, tp_non, tp_ref, oFd, oMd, oPw, oShl, oLt, oLe, oGt, oGe, op_in, op_cp, wipe_nil, wipe_cons, mset_same, true_and, and_true, isN_int, sz_0, sz_1, sz_2, sz_3, sz_4, sz_5, sz_6, sz_7, sz_8, sz_9, sz_10, sz_11, sz_12, ex_lstF, ex_repF, ex_lgF1, ex_lgF2, ex_tupRg1, ex_tupRg2, ex_frz, ex_slF, ex_slM, sl_tupF, sl_rolF, op_iiF, op_ssF, op_ttF, op_rrF, op_rrM, op_mmF, op_repF, li_rol, li_ref, bl_listF, bl_allF, bl_anyF, asT_some, asJ_some, op_eqLf, op_eqLt, op_eqBf, op_eqBt, isN_non, Bool.not_true, Bool.not_false, bls_map]
        refine ite3_by (fun hc => ?_) (fun hc => ?_)
        · simp only [st_seq, st_next, st_break, st_cont, st_set, st_ret, st_retN, st_drop, st_if, st_asg, st_par, st_for, ex_c, ex_var, ex_op, ex_un, ex_b, ex_and, ex_or, ex_not, ex_andV, ex_orV, ex_notV, ex_if, ex_chain, ex_nil, ex_cons, ex_tup, ex_lst, ex_call, ex_callP, ex_cb, ex_bm, ex_rep, ex_lc, ex_sl, ex_noPart, ex_part, ex_yes, it_items, it_rng1, it_rng2, tg_name, tg_sub, tg_tup, tg_cons, tg_nil, gs_0, gs_s, ss_0, ss_s, op_ii, op_ss, op_tt, op_mm, op_sb, op_ng, op_iNf, op_iNt, op_lle, op_ixT, op_ixR, op_ixL, op_putE, op_appE, it_tupE, it_rolE, it_refE, lstOf_l, exL, asS_some, asI_int, asB_bl, asL_some, asN_some, ite3_t, ite3_f, bl_1, bl_lenT, bl_lenR, bl_lenL, bl_lenS, bl_tuple, bl_list, bl_abs, bl_intI, bl_intB, bl_max, bl_min, bl_repr, op_eqSf, op_eqSt, op_eqIf, op_eqIt, op_eqTf, op_eqTt, op_eqRf, op_eqRt, op_eqNf, op_eqNt, eqD_int, eqD_nil, pl_int, pl_nil, pl_non, pl_rnil, pl_bl, sl_tupE, sl_rolE, keep_ref, keep_tup, keep_rol, tp_int, tp_tup, tp_rol, tp_str, tp_bl, tp_non, tp_ref, oFd, oMd, oPw, oShl, oLt, oLe, oGt, oGe, op_in, op_cp, wipe_nil, wipe_cons, mset_same, true_and, and_true, isN_int, sz_0, sz_1, sz_2, sz_3, sz_4, sz_5, sz_6, sz_7, sz_8, sz_9, sz_10, sz_11, sz_12, ex_lstF, ex_repF, ex_lgF1, ex_lgF2, ex_tupRg1, ex_tupRg2, ex_lcF, ex_frz, ex_slF, ex_slM, sl_tupF, sl_rolF, op_iiF, op_ssF, op_ttF, op_rrF, op_rrM, op_mmF, op_repF, li_rol, li_ref, bl_listF, bl_allF, bl_anyF, asT_some, asJ_some, op_eqLf, op_eqLt, op_eqBf, op_eqBt, isN_non, Bool.not_true, Bool.not_false]
          exact h _ _ (.inl ⟨rc.bad (neg_any.mp hc), rfl⟩)
        · have hng : ¬ Neg n (at2 f) := fun z => by
            rw [neg_any.mpr z] at hc; cases hc
          obtain ⟨cl, bd⟩ := rc.cl hng
          simp only [ite3_f, st_next, st_ret]
          refine tab_of_rows rfl (by simp) m (by rw [m.len2 sq]; omega) (h _ _ (.inr ⟨f, ⟨sq.rows, sq.cols, ?_⟩, cl, rfl⟩))
          exact ends_of bd sq
end L3
set_option Elab.async false
set_option linter.all false
set_option maxRecDepth 100000
set_option maxHeartbeats 4000000
namespace L3
theorem tab_ext {n : Nat} {S S' : Tab} (s : Sq n S) (s' : Sq n S') (h : ∀ p q, p < n → q < n → at2 S p q = at2 S' p q) : S = S' := by
  apply List.ext_getElem (by rw [s.rows, s'.rows])
  intro p h1 h2
  have c1 := s.cols _ (List.getElem_mem h1)
  have c2 := s'.cols _ (List.getElem_mem h2)
  apply List.ext_getElem (by rw [c1, c2])
  intro q h3 h4
  have := h p q (by rw [← s.rows]; exact h1) (by rw [← c1]; exact h3)
  simpa [at2, h1, h2, h3, h4] using this
theorem Closes.uniq {n B B' : Nat} {T : Tab} {d d' : D} (c : Closes n B T d) (c' : Closes n B' T d') : d = d' := by
  rcases c with ⟨b, rfl⟩ | ⟨S, tb, cl, rfl⟩
  · rcases c' with ⟨_, rfl⟩ | ⟨S', _, cl', _⟩
    · rfl
    · exact absurd b cl'.good
  · rcases c' with ⟨b, _⟩ | ⟨S', tb', cl', rfl⟩
    · exact absurd b cl.good
    · rw [tab_ext tb.sq tb'.sq fun p q hp hq => cl.uniq cl' hp hq]
abbrev Edge := Nat × Nat × Int
def at1 (l : List Ed) (i : Nat) : Ed := l.getD i none
def StE (es : List Edge) (s : Nat → Ed) : Prop := ∀ e ∈ es, eLe (s e.2.1) (eAdd (s e.1) (some e.2.2))
/-- es say what T says -/
structure Es (n : Nat) (T : Fn) (es : List Edge) : Prop where
  st : ∀ s, Stable n T s ↔ StE es s
  rg : ∀ e ∈ es, e.1 < n ∧ e.2.1 < n
def loos1 (l : List Ed) (e : Edge) : List Ed := l.set e.2.1 (eMin (at1 l e.2.1) (eAdd (at1 l e.1) (some e.2.2)))
def loosL (l : List Ed) (es : List Edge) : List Ed := es.foldl loos1 l
theorem at1_set {l : List Ed} {r i : Nat} {e : Ed} (h : r < l.length) : at1 (l.set r e) i = if i = r then e else at1 l i := by
  unfold at1
  by_cases hi : i = r
  · subst hi
    rw [if_pos rfl, List.getD_eq_getElem?_getD, List.getElem?_set_self h]; rfl
  · rw [if_neg hi, List.getD_eq_getElem?_getD, List.getElem?_set_ne (Ne.symm hi), ← List.getD_eq_getElem?_getD]
theorem loos1_len {l : List Ed} {e : Edge} : (loos1 l e).length = l.length := by simp [loos1]
theorem loosL_len : ∀ {es : List Edge} {l : List Ed}, (loosL l es).length = l.length
  | [], _ => rfl
  | e :: es, l => (loosL_len (es := es) (l := loos1 l e)).trans loos1_len
theorem loos1_le {l : List Ed} {e : Edge} (i : Nat) : eLe (at1 (loos1 l e) i) (at1 l i) := by
  unfold loos1
  by_cases h : e.2.1 < l.length
  · rw [at1_set h]
    split
    · rename_i z; rw [z]; exact eMin_l
    · exact eLe.rfl'
  · rw [List.set_eq_of_length_le (by omega)]; exact eLe.rfl'
theorem loosL_le : ∀ {es : List Edge} {l : List Ed} (i : Nat), eLe (at1 (loosL l es) i) (at1 l i)
  | [], _, _ => eLe.rfl'
  | e :: es, l, i => eLe_trans (loosL_le (es := es) (l := loos1 l e) i) (loos1_le i)
theorem loos1_ge {l : List Ed} {e : Edge} {s : Nat → Ed} (h : ∀ i, i < l.length → eLe (s i) (at1 l i)) (h1 : e.1 < l.length) (he : eLe (s e.2.1) (eAdd (s e.1) (some e.2.2))) : ∀ i, i < l.length → eLe (s i) (at1 (loos1 l e) i) := by
  intro i hi
  unfold loos1
  by_cases hr : e.2.1 < l.length
  · rw [at1_set hr]
    split
    · rename_i z
      subst z
      exact le_eMin (h _ hi) (eLe_trans he (eAdd_mono (h _ h1) eLe.rfl'))
    · exact h i hi
  · rw [List.set_eq_of_length_le (by omega)]; exact h i hi
theorem loosL_ge : ∀ {es : List Edge} {l : List Ed} {s : Nat → Ed}, (∀ i, i < l.length → eLe (s i) (at1 l i)) → (∀ e ∈ es, e.1 < l.length) → StE es s → ∀ i, i < l.length → eLe (s i) (at1 (loosL l es) i)
  | [], _, _, h, _, _ => h
  | e :: es, l, s, h, h1, st => by
    have := loosL_ge (es := es) (l := loos1 l e) (s := s) (by rw [loos1_len]; exact loos1_ge h (h1 e (by simp)) (st e (by simp))) (fun x hx => by rw [loos1_len]; exact h1 x (by simp [hx])) fun x hx => st x (by simp [hx])
    rw [loos1_len] at this
    exact this
theorem loos_hit {l : List Ed} {e : Edge} (h : e.2.1 < l.length) : eLe (at1 (loos1 l e) e.2.1) (eAdd (at1 l e.1) (some e.2.2)) := by
  unfold loos1
  rw [at1_set h, if_pos rfl]
  exact eMin_r
/-- a tight edge from a place that is right makes its end right -/
theorem loos_tight {l : List Ed} {es : List Edge} {s : Nat → Ed} (h : ∀ i, i < l.length → eLe (s i) (at1 l i)) (h1 : ∀ e ∈ es, e.1 < l.length ∧ e.2.1 < l.length) (st : StE es s) {e : Edge} (he : e ∈ es) (hq : at1 l e.1 = s e.1) (ht : s e.2.1 = eAdd (s e.1) (some e.2.2)) : at1 (loosL l es) e.2.1 = s e.2.1 := by
  refine eLe_anti ?_ (loosL_ge h (fun x hx => (h1 x hx).1) st _ (h1 e he).2)
  obtain ⟨a, b, rfl⟩ := List.append_of_mem he
  have e1 : loosL l (a ++ e :: b) = loosL (loos1 (loosL l a) e) b := by simp [loosL, List.foldl_append]
  rw [e1, ht]
  refine eLe_trans (loosL_le _) (eLe_trans (loos_hit (by rw [loosL_len]; exact (h1 e he).2)) (eAdd_mono ?_ eLe.rfl'))
  rw [← hq]
  exact loosL_le _
/-- how many are wrong -/
def bads (P : Nat → Bool) : Nat → Nat
  | 0 => 0
  | n + 1 => bads P n + if P n then 0 else 1
theorem bads_mono {P R : Nat → Bool} : ∀ n, (∀ i, i < n → P i = true → R i = true) → bads R n ≤ bads P n
  | 0, _ => Nat.le_refl _
  | n + 1, h => by
    have := bads_mono n fun i hi => h i (by omega)
    have hn := h n (Nat.lt_succ_self _)
    unfold bads
    cases hp : P n <;> cases hr : R n <;> simp_all <;> omega
theorem bads_lt {P R : Nat → Bool} : ∀ n, (∀ i, i < n → P i = true → R i = true) → (∃ i, i < n ∧ P i = false ∧ R i = true) → bads R n < bads P n
  | 0, _, ⟨i, hi, _⟩ => absurd hi (Nat.not_lt_zero _)
  | n + 1, h, ⟨i, hi, h1, h2⟩ => by
    unfold bads
    by_cases e : i = n
    · subst e
      have := bads_mono i fun j hj => h j (by omega)
      rw [h1, h2]
      simp; omega
    · have := bads_lt n (fun j hj => h j (by omega)) ⟨i, by omega, h1, h2⟩
      have hn := h n (Nat.lt_succ_self _)
      cases hp : P n <;> cases hr : R n <;> simp_all <;> omega
theorem bads_0 {P : Nat → Bool} : ∀ {n}, bads P n = 0 → ∀ i, i < n → P i = true
  | 0, _, i, hi => absurd hi (Nat.not_lt_zero _)
  | n + 1, h, i, hi => by
    unfold bads at h
    by_cases e : i = n
    · subst e
      cases hp : P i with
      | true => rfl
      | false => rw [hp] at h; simp at h
    · exact bads_0 (n := n) (by omega) i (by omega)
theorem bads_le {P : Nat → Bool} : ∀ n, bads P n ≤ n
  | 0 => Nat.le_refl _
  | n + 1 => by
    have := bads_le (P := P) n
    unfold bads
    split <;> omega
theorem bads_some {P : Nat → Bool} : ∀ n, ∀ i, i < n → P i = true → bads P n < n
  | 0, i, hi, _ => absurd hi (Nat.not_lt_zero _)
  | n + 1, i, hi, h => by
    unfold bads
    by_cases e : i = n
    · subst e
      have := bads_le (P := P) i
      rw [h]; simp; omega
    · have := bads_some n i (by omega) h
      split <;> omega
instance : DecidableEq Ed := inferInstanceAs (DecidableEq (Option Int))
def bump : Ed → Ed
  | none => none
  | some x => some (x + 1)
section
variable {n p : Nat} {T S : Fn} {es : List Edge} {l : List Ed}
def okAt (S : Fn) (p : Nat) (l : List Ed) (r : Nat) : Bool := decide (at1 l r = S p r)
/-- a sum row on its way -/
structure Way (n p : Nat) (S : Fn) (l : List Ed) : Prop where
  len : l.length = n
  ge : ∀ i, i < n → eLe (S p i) (at1 l i)
  at0 : at1 l p = some 0
theorem Way.loos (c : IsCl n T S) (E : Es n T es) (hp : p < n) (w : Way n p S l) : Way n p S (loosL l es) := by
  have g := loosL_ge (es := es) (l := l) (s := S p) (by rw [w.len]; exact w.ge) (fun e he => by rw [w.len]; exact (E.rg e he).1) ((E.st _).mp (c.row hp))
  rw [w.len] at g
  refine ⟨by rw [loosL_len, w.len], g, ?_⟩
  refine eLe_anti ?_ ?_
  · rw [← w.at0]; exact loosL_le _
  · rw [← c.diag p hp]; exact g p hp
/-- as long as something is wrong, a round makes something right -/
theorem Way.less (c : IsCl n T S) (E : Es n T es) (hp : p < n) (w : Way n p S l) (h : bads (okAt S p l) n ≠ 0) : bads (okAt S p (loosL l es)) n < bads (okAt S p l) n := by
  have hl : ∀ i, i < l.length → eLe (S p i) (at1 l i) := by rw [w.len]; exact w.ge
  have hrg : ∀ e ∈ es, e.1 < l.length ∧ e.2.1 < l.length := by rw [w.len]; exact E.rg
  have st := (E.st _).mp (c.row hp)
  have w' := w.loos c E hp
  refine bads_lt n (fun i hi h1 => ?_) ?_
  · have h1' : at1 l i = S p i := of_decide_eq_true h1
    refine decide_eq_true (eLe_anti ?_ (w'.ge i hi))
    rw [← h1']; exact loosL_le _
  · -- there is a tight edge out of what is right
    have : ∃ e ∈ es, at1 l e.1 = S p e.1 ∧ at1 l e.2.1 ≠ S p e.2.1 ∧ S p e.2.1 = eAdd (S p e.1) (some e.2.2) := by
      apply Classical.byContradiction
      intro no
      have no' : ∀ e ∈ es, at1 l e.1 = S p e.1 → at1 l e.2.1 ≠ S p e.2.1 → S p e.2.1 ≠ eAdd (S p e.1) (some e.2.2) := fun e he h1 h2 h3 => no ⟨e, he, h1, h2, h3⟩
      have hs : Stable n T (fun r => if at1 l r = S p r then S p r else bump (S p r)) := by
        rw [E.st]
        intro e he
        have h0 := st e he
        have hn := no' e he
        show eLe (if at1 l e.2.1 = S p e.2.1 then S p e.2.1 else bump (S p e.2.1)) (eAdd (if at1 l e.1 = S p e.1 then S p e.1 else bump (S p e.1)) (some e.2.2))
        by_cases g1 : at1 l e.1 = S p e.1 <;> by_cases g2 : at1 l e.2.1 = S p e.2.1
        · rw [if_pos g1, if_pos g2]; exact h0
        · rw [if_pos g1, if_neg g2]
          have h2 := hn g1 g2
          cases x : S p e.2.1 <;> cases y : S p e.1 <;> rw [x, y] at h0 h2 <;> simp [eLe, eAdd, bump] at * <;> omega
        · rw [if_neg g1, if_pos g2]
          cases x : S p e.2.1 <;> cases y : S p e.1 <;> rw [x, y] at h0 <;> simp [eLe, eAdd, bump] at * <;> omega
        · rw [if_neg g1, if_neg g2]
          cases x : S p e.2.1 <;> cases y : S p e.1 <;> rw [x, y] at h0 <;> simp [eLe, eAdd, bump] at * <;> omega
      have h0 : ∃ r, r < n ∧ at1 l r ≠ S p r := by
        apply Classical.byContradiction
        intro z
        apply h
        have all : ∀ i, i < n → okAt S p l i = true := fun i hi => decide_eq_true (Classical.byContradiction fun y => z ⟨i, hi, y⟩)
        have go : ∀ k, k ≤ n → bads (okAt S p l) k = 0 := by
          intro k
          induction k with
          | zero => exact fun _ => rfl
          | succ k ih => intro hk; unfold bads; rw [ih (by omega), all k (by omega)]; rfl
        exact go n (Nat.le_refl _)
      obtain ⟨r, hr, hne⟩ := h0
      have := c.least hs hp hr (by
        show eLe (if at1 l p = S p p then S p p else bump (S p p)) (some 0)
        rw [if_pos (by rw [w.at0, c.diag p hp]), c.diag p hp]
        exact eLe.rfl')
      have this : eLe (if at1 l r = S p r then S p r else bump (S p r)) (S p r) := this
      rw [if_neg hne] at this
      have g := w.ge r hr
      cases x : S p r with
      | none =>
        rw [x] at g hne
        cases y : at1 l r with
        | none => exact hne y
        | some z => rw [y] at g; exact g
      | some z => rw [x] at this; simp [eLe, bump] at this; omega
    obtain ⟨e, he, h1, h2, h3⟩ := this
    exact ⟨e.2.1, (E.rg e he).2, decide_eq_false h2, decide_eq_true (loos_tight hl hrg st he h1 h3)⟩
def loosN (es : List Edge) (l : List Ed) : Nat → List Ed
  | 0 => l
  | k + 1 => loosL (loosN es l k) es
theorem Way.many (c : IsCl n T S) (E : Es n T es) (hp : p < n) (w : Way n p S l) : ∀ k, Way n p S (loosN es l k) ∧ (bads (okAt S p (loosN es l k)) n = 0 ∨ bads (okAt S p (loosN es l k)) n + k < n)
  | 0 => ⟨w, .inr (bads_some n p hp (decide_eq_true (by show at1 l p = _; rw [w.at0, c.diag p hp])))⟩
  | k + 1 => by
    obtain ⟨w', h⟩ := Way.many c E hp w k
    refine ⟨w'.loos c E hp, ?_⟩
    by_cases z : bads (okAt S p (loosN es l k)) n = 0
    · left
      have := bads_mono (P := okAt S p (loosN es l k)) (R := okAt S p (loosN es l (k + 1))) n fun i hi _ => by
        have e := bads_0 z i hi
        have e' : at1 (loosN es l k) i = S p i := of_decide_eq_true e
        refine decide_eq_true (eLe_anti ?_ ((w'.loos c E hp).ge i hi))
        rw [← e']; exact loosL_le _
      omega
    · have := w'.less c E hp z
      show bads (okAt S p (loosL (loosN es l k) es)) n = 0 ∨ _
      right
      show bads (okAt S p (loosL (loosN es l k) es)) n + (k + 1) < n
      rcases h with h | h
      · exact absurd h z
      · omega
theorem Way.done (c : IsCl n T S) (E : Es n T es) (hp : p < n) (w : Way n p S l) {k : Nat} (hk : n ≤ k + 1) : ∀ i, i < n → at1 (loosN es l k) i = S p i := by
  obtain ⟨_, h⟩ := Way.many c E hp w k
  have z : bads (okAt S p (loosN es l k)) n = 0 := by omega
  intro i hi
  exact of_decide_eq_true (bads_0 z i hi)
end
end L3
set_option Elab.async false
set_option linter.all false
set_option maxRecDepth 100000
set_option maxHeartbeats 4000000
namespace L3
open PySem PySem.Spec PyProof.Rows L2
def edgeOf (t : Trip) : Edge := (t.1.toNat, t.2.1.toNat, t.2.2)
theorem pl_row {l : List Ed} : Pl (.rol (l.map oD)) := by
  refine ⟨?_, ?_⟩
  · show plains (l.map oD) = true
    induction l with
    | nil => rfl
    | cons a r ih => cases a <;> simp [plains, oD, plain, ih]
  · show deeps (l.map oD) + 1 ≤ 64
    have : deeps (l.map oD) = 0 := by
      induction l with
      | nil => rfl
      | cons a r ih => cases a <;> simp [deeps, oD, deep, ih]
    omega
theorem eqv_oD {a b : Ed} : PyData.eqv (pdOf (oD a)) (pdOf (oD b)) = decide (a = b) := by
  cases a <;> cases b <;> simp [oD, pdOf, PyData.eqv]
  rename_i x y
  by_cases h : x = y <;> simp [h]
theorem eqv_row : ∀ {l k : List Ed}, PyData.eqvAll (pdsOf (l.map oD)) (pdsOf (k.map oD)) = decide (l = k)
  | [], [] => by simp [pdsOf, PyData.eqvAll]
  | [], b :: k => by simp [pdsOf, PyData.eqvAll]
  | a :: l, [] => by simp [pdsOf, PyData.eqvAll]
  | a :: l, b :: k => by
    simp only [List.map_cons, pdsOf, PyData.eqvAll, eqv_oD, eqv_row (l := l) (k := k)]
    by_cases h : a = b <;> by_cases h2 : l = k <;> simp [h, h2]
def SLeast (sp : Sp3) : Prop := ∀ (n : Int) (B : Nat) (T : Tab) (ts : List Trip) (Q : VK3) (E : XK3), 0 ≤ n → n ≤ 1000 → 0 < B → TabB B n.toNat T → (∀ t ∈ ts, In2 n t) → Es n.toNat (at2 T) (ts.map edgeOf) →
  (∀ d M, Closes n.toNat B T d → Q d M) → sp [.int n, .rol (ts.map tripD)] M0 Q E
end L3
set_option Elab.async false
set_option linter.all false
set_option maxRecDepth 100000
set_option maxHeartbeats 4000000
namespace L3
open PySem PySem.Spec PyProof.Rows L2
def stepM (T : Tab) (t : Trip) : Tab := putT T t.1.toNat t.2.1.toNat (eMin (at2 T t.1.toNat t.2.1.toNat) (some t.2.2))
def mtab (n : Nat) (ts : List Trip) : Tab := ts.foldl stepM (emptyT n)
theorem Sq.foldM {n : Nat} : ∀ {ts : List Trip} {T : Tab}, Sq n T → Sq n (ts.foldl stepM T)
  | [], _, s => s
  | _ :: ts, _, s => Sq.foldM (ts := ts) s.put
theorem EdB.min {B : Nat} {a b : Ed} (h : EdB B a) (h2 : EdB B b) : EdB B (eMin a b) := by
  rcases eMin_or (a := a) (b := b) with e | e <;> rw [e] <;> assumption
theorem at2_b {B n : Nat} {T : Tab} (s : Sq n T) (e : Ends B T) {p q : Nat} : EdB B (at2 T p q) := ends_at' (n := n) ⟨s.rows, s.cols, e⟩
theorem Ends.foldM {B n : Nat} : ∀ {ts : List Trip} {T : Tab}, Sq n T → Ends B T → (∀ t ∈ ts, t.2.2.natAbs < B) → Ends B (ts.foldl stepM T)
  | [], _, _, s, _ => s
  | t :: ts, _, q, s, h => Ends.foldM (ts := ts) q.put (s.put ((at2_b q s).min fun i hi => by cases hi; exact h t (by simp))) fun x hx => h x (by simp [hx])
theorem mtab_b {B n : Nat} {ts : List Trip} (h : ∀ t ∈ ts, t.2.2.natAbs < B) : TabB B n (mtab n ts) := TabB.of (Sq.foldM .empty) (Ends.foldM .empty .empty h)
theorem es_step {n p q : Nat} {F : Fn} {c : Int} {s : Nat → Ed} (hp : p < n) (hq : q < n) : Stable n (updF F p q (eMin (F p q) (some c))) s ↔ Stable n F s ∧ eLe (s q) (eAdd (s p) (some c)) := by
  constructor
  · intro h
    refine ⟨fun i hi j hj => ?_, ?_⟩
    · have := h i hi j hj
      unfold updF at this
      by_cases e : i = p ∧ j = q
      · rw [if_pos e] at this
        obtain ⟨rfl, rfl⟩ := e
        exact eLe_trans this (eAdd_mono eLe.rfl' eMin_l)
      · rw [if_neg e] at this; exact this
    · have := h p hp q hq
      unfold updF at this
      rw [if_pos ⟨rfl, rfl⟩] at this
      exact eLe_trans this (eAdd_mono eLe.rfl' eMin_r)
  · rintro ⟨h, h2⟩ i hi j hj
    unfold updF
    by_cases e : i = p ∧ j = q
    · rw [if_pos e]
      obtain ⟨rfl, rfl⟩ := e
      exact le_add_minr (h i hi j hj) h2
    · rw [if_neg e]; exact h i hi j hj
theorem es_fold {n : Nat} (hn : 0 ≤ (n : Int)) : ∀ (ts : List Trip) (T : Tab), Sq n T → (∀ t ∈ ts, In2 n t) → ∀ s, Stable n (at2 (ts.foldl stepM T)) s ↔ Stable n (at2 T) s ∧ StE (ts.map edgeOf) s
  | [], T, _, _, s => ⟨fun h => ⟨h, fun e he => nomatch he⟩, fun h => h.1⟩
  | t :: ts, T, sq, h, s => by
    obtain ⟨b1, b2, b3, b4⟩ := h t (by simp)
    show Stable n (at2 (ts.foldl stepM (stepM T t))) s ↔ _
    rw [es_fold hn ts (stepM T t) sq.put (fun x hx => h x (by simp [hx])) s]
    unfold stepM
    rw [at2_put sq (by omega) (by omega), es_step (by omega) (by omega)]
    constructor
    · rintro ⟨⟨h1, h2⟩, h3⟩
      refine ⟨h1, fun e he => ?_⟩
      rcases List.mem_cons.mp he with rfl | he
      · exact h2
      · exact h3 e he
    · rintro ⟨h1, h2⟩
      exact ⟨⟨h1, h2 (edgeOf t) (by simp)⟩, fun e he => h2 e (by simp [he])⟩
theorem at2_empty' {n p q : Nat} : at2 (emptyT n) p q = none := by
  unfold at2 emptyT
  by_cases hp : p < n
  · rw [List.getD_eq_getElem?_getD, List.getD_eq_getElem?_getD, List.getElem?_replicate, if_pos hp]
    by_cases hq : q < n
    · simp [List.getElem?_replicate, hq]
    · simp [List.getElem?_replicate, hq]
  · simp [List.getD_eq_getElem?_getD, List.getElem?_replicate, hp]
theorem es_mtab {n : Nat} {ts : List Trip} (h : ∀ t ∈ ts, In2 n t) : Es n (at2 (mtab n ts)) (ts.map edgeOf) := by
  refine ⟨fun s => ?_, fun e he => ?_⟩
  · rw [show mtab n ts = ts.foldl stepM (emptyT n) from rfl, es_fold (by omega) ts _ .empty h s]
    refine ⟨fun h => h.2, fun h => ⟨fun q _ r _ => ?_, h⟩⟩
    rw [at2_empty']
    cases s q <;> exact eLe_none
  · obtain ⟨t, ht, rfl⟩ := List.mem_map.mp he
    obtain ⟨b1, b2, b3, b4⟩ := h t ht
    show t.1.toNat < n ∧ t.2.1.toNat < n
    omega
/-- a tuple or a list that nobody writes -/
def IsSeq (d : D) (ds : List D) : Prop := d = .tup ds ∨ d = .rol ds
theorem IsSeq.t {ds : List D} : IsSeq (.tup ds) ds := .inl rfl
theorem IsSeq.r {ds : List D} : IsSeq (.rol ds) ds := .inr rfl
theorem IsSeq.items {d : D} {ds : List D} (h : IsSeq d ds) {M : Mp} : items M d = some ds := by rcases h with rfl | rfl <;> rfl
theorem IsSeq.keep {d : D} {ds : List D} (h : IsSeq d ds) {M : Mp} {es : List D} : keepG M d es = fun _ => True := by rcases h with rfl | rfl <;> rfl
theorem IsSeq.len {d : D} {ds : List D} (h : IsSeq d ds) {M : Mp} {Q : VK3} : bLen [d] M Q = Q (.int ds.length) M := by rcases h with rfl | rfl <;> rfl
theorem IsSeq.ix {d e : D} {ds : List D} (h : IsSeq d ds) {M : Mp} {Q : VK3} : oIx d e M Q = asI e fun i => asS (atI ds i) fun v => Q v M := by rcases h with rfl | rfl <;> rfl
theorem tm_trip {t : Trip} (h : t.1.natAbs < 10 ^ 100) (h2 : t.2.1.natAbs < 10 ^ 100) (h3 : t.2.2.natAbs < 10 ^ 100) : Tm 1 3 (tripD t) := by
  refine (Tm.tup (h := 0) (n := 0) (m := 3) (fun d hd => ?_) (Nat.le_refl _))
  simp only [List.mem_cons, List.not_mem_nil, or_false] at hd
  rcases hd with rfl | rfl | rfl
  · exact .int h
  · exact .int h2
  · exact .int h3
end L3
set_option Elab.async false
set_option linter.all false
set_option maxRecDepth 100000
set_option maxHeartbeats 4000000
namespace L3
open PySem PySem.Spec PyProof.Rows L2
theorem it_tabE {M : Mp} {T : Tab} : items M (tabD T) = some (T.map rowD) := rfl
theorem it_rowE {M : Mp} {r : List Ed} : items M (rowD r) = some (r.map oD) := rfl
abbrev Part := Tab × List Nat
def plD (ps : List Nat) : List D := ps.map fun i => .int (i : Nat)
theorem plD_get {ps : List Nat} {i : Nat} (h : i < ps.length) : atI (plD ps) ((i : Nat) : Int) = some (.int ((ps.getD i 0 : Nat) : Int)) := atI_nat (by simp [plD, h])
theorem seq_pl {pd : D} {ps : List Nat} (h : IsSeq pd (plD ps)) {i : Nat} (hi : i < ps.length) {M : Mp} {Q : VK3} : oIx pd (.int (i : Nat)) M Q = Q (.int ((ps.getD i 0 : Nat) : Int)) M := by
  rw [h.ix, asI_int, plD_get hi, asS_some]
/-- a part, as it stands -/
def PartAt (d : D) (x : Part) : Prop := ∃ pd, d = .tup [tabD x.1, pd] ∧ IsSeq pd (plD x.2)
/-- a part's table is square and its places lie within -/
structure PartOk (B many : Nat) (x : Part) : Prop where
  tb : TabB B x.1.length x.1
  len : x.1.length ≤ x.2.length
  inn : ∀ i ∈ x.2, i < many
def Pull (x : Part) (s : Nat → Ed) : Prop := Stable x.1.length (at2 x.1) fun i => s (x.2.getD i 0)
/-- what is put together of the parts -/
structure PutIs (B many : Nat) (xs : List Part) (X : Tab) : Prop where
  tb : TabB B many X
  st : ∀ s, Stable many (at2 X) s ↔ ∀ x ∈ xs, Pull x s
def SPut (sp : Sp3) : Prop := ∀ (many : Int) (B : Nat) (xs : List Part) (ds : List D) (Q : VK3) (E : XK3), 0 ≤ many → many ≤ 1000 →
  ds.length = xs.length → (∀ (i : Nat) (d : D) (x : Part), ds[i]? = some d → xs[i]? = some x → PartAt d x) → (∀ x ∈ xs, PartOk B many.toNat x) →
  (∀ X M, PutIs B many.toNat xs X → Q (tabD X) M) → sp [.int many, .rol ds] M0 Q E
def putR (sp_lesser : Sp3) : XK3 → TS3 := fun E =>
  (wSeq (wSet 2 (wLcF (wRng1 (wCons (wVar 0) wNil)) (wgName 3) wYes (wRep (wC .non) (wVar 0)) [3]))
  (wSeq (wFor (wItems (wVar 1)) (wgTupN 2 (wgCons (wgName 4) (wgCons (wgName 5) wgNil))) (wFor (wEnum (wCons (wVar 4) wNil)) (wgTupN 2 (wgCons (wgName 6) (wgCons (wgName 7) wgNil))) (wFor (wEnum (wCons (wVar 7) wNil)) (wgTupN 2 (wgCons (wgName 8) (wgCons (wgName 9) wgNil))) (wAsg (wCallP sp_lesser E (wCons (wOp oIx (wOp oIx (wVar 2) (wOp oIx (wVar 5) (wVar 6))) (wOp oIx (wVar 5) (wVar 8))) (wCons (wVar 9) wNil))) (wgSub (wOp oIx (wVar 2) (wOp oIx (wVar 5) (wVar 6))) (wOp oIx (wVar 5) (wVar 8)) oPut)))))
  (wRet (wCB bTuple (wCons (wLcF (wItems (wVar 2)) (wgName 7) wYes (wCB bTuple (wCons (wVar 7) wNil)) [7]) wNil)))))
/-- one end put in -/
theorem st_put {n i j : Nat} {F : Fn} {e : Ed} {s : Nat → Ed} (hi : i < n) (hj : j < n) : Stable n (updF F i j (eMin (F i j) e)) s ↔ Stable n F s ∧ eLe (s j) (eAdd (s i) e) := by
  constructor
  · intro h
    refine ⟨fun p hp q hq => ?_, ?_⟩
    · have z := h p hp q hq
      unfold updF at z
      by_cases w : p = i ∧ q = j
      · rw [if_pos w] at z
        obtain ⟨rfl, rfl⟩ := w
        exact eLe_trans z (eAdd_mono eLe.rfl' eMin_l)
      · rw [if_neg w] at z; exact z
    · have z := h i hi j hj
      unfold updF at z
      rw [if_pos ⟨rfl, rfl⟩] at z
      exact eLe_trans z (eAdd_mono eLe.rfl' eMin_r)
  · rintro ⟨h, h2⟩ p hp q hq
    unfold updF
    by_cases w : p = i ∧ q = j
    · rw [if_pos w]
      obtain ⟨rfl, rfl⟩ := w
      exact le_add_minr (h p hp q hq) h2
    · rw [if_neg w]; exact h p hp q hq
/-- so far: the parts ahead, of this one the rows ahead of p, of row p the ends ahead of q -/
structure Puts (B many : Nat) (xs : List Part) (x : Part) (p q : Nat) (X : Tab) : Prop where
  sq : Sq many X
  en : Ends B X
  st : ∀ s, Stable many (at2 X) s ↔ (∀ y ∈ xs, Pull y s) ∧ ∀ i j, i < x.1.length → j < x.1.length → (i < p ∨ (i = p ∧ j < q)) → eLe (s (x.2.getD j 0)) (eAdd (s (x.2.getD i 0)) (at2 x.1 i j))
theorem Puts.step {B many p q : Nat} {xs : List Part} {x : Part} {X : Tab} (h : Puts B many xs x p q X) (ok : PartOk B many x) (hp : p < x.1.length) (hq : q < x.1.length) :
    Puts B many xs x p (q + 1) (putT X (x.2.getD p 0) (x.2.getD q 0) (eMin (at2 X (x.2.getD p 0) (x.2.getD q 0)) (at2 x.1 p q))) := by
  have inn : ∀ i, i < x.1.length → x.2.getD i 0 < many := fun i hi => by
    have : i < x.2.length := Nat.lt_of_lt_of_le hi ok.len
    rw [List.getD_eq_getElem?_getD, List.getElem?_eq_getElem this]
    exact ok.inn _ (List.getElem_mem this)
  refine ⟨h.sq.put, h.en.put ((at2_b h.sq h.en).min (ends_at' ok.tb)), fun s => ?_⟩
  rw [at2_put h.sq (inn p hp) (inn q hq), st_put (inn p hp) (inn q hq), h.st]
  constructor
  · rintro ⟨⟨h1, h2⟩, h3⟩
    refine ⟨h1, fun i j hi hj hij => ?_⟩
    by_cases w : i = p ∧ j = q
    · obtain ⟨rfl, rfl⟩ := w; exact h3
    · exact h2 i j hi hj (by omega)
  · rintro ⟨h1, h2⟩
    exact ⟨⟨h1, fun i j hi hj hij => h2 i j hi hj (by omega)⟩, h2 p q hp hq (by omega)⟩
theorem Puts.row {B many p : Nat} {xs : List Part} {x : Part} {X : Tab} (h : Puts B many xs x p x.1.length X) : Puts B many xs x (p + 1) 0 X :=
  ⟨h.sq, h.en, fun s => by
    rw [h.st]
    have e : ∀ i j, j < x.1.length → ((i < p ∨ (i = p ∧ j < x.1.length)) ↔ (i < p + 1 ∨ (i = p + 1 ∧ j < 0))) := fun i j hj => by omega
    constructor
    · rintro ⟨a, b⟩; exact ⟨a, fun i j hi hj z => b i j hi hj ((e i j hj).mpr z)⟩
    · rintro ⟨a, b⟩; exact ⟨a, fun i j hi hj z => b i j hi hj ((e i j hj).mp z)⟩⟩
theorem Puts.part {B many : Nat} {xs : List Part} {x : Part} {X : Tab} (h : Puts B many xs x x.1.length 0 X) : Sq many X ∧ Ends B X ∧ ∀ s, Stable many (at2 X) s ↔ ∀ y ∈ xs ++ [x], Pull y s := by
  refine ⟨h.sq, h.en, fun s => ?_⟩
  rw [h.st]
  constructor
  · rintro ⟨a, b⟩ y hy
    rcases List.mem_append.mp hy with hy | hy
    · exact a y hy
    · rw [List.mem_singleton] at hy; subst hy
      exact fun i hi j hj => b i j hi hj (.inl hi)
  · intro a
    exact ⟨fun y hy => a y (by simp [hy]), fun i j hi hj _ => a x (by simp) i hi j hj⟩
theorem Puts.begin {B many : Nat} {xs : List Part} {x : Part} {X : Tab} (h : Sq many X ∧ Ends B X ∧ ∀ s, Stable many (at2 X) s ↔ ∀ y ∈ xs, Pull y s) : Puts B many xs x 0 0 X :=
  ⟨h.1, h.2.1, fun s => by
    rw [h.2.2]
    exact ⟨fun a => ⟨a, fun i j _ _ z => by omega⟩, fun a => a.1⟩⟩
/-- over what enumerate tells of data that stand still -/
theorem for_en {G : Mp → Prop} {g : TG3} {tb : TS3} {E : Ends3} {ds : List D} (Pv : Nat → St3 → Mp → Prop) (hG : ∀ M, G M)
    (step : ∀ (i : Nat) (d : D) τ M, ds[i]? = some d → Pv i τ M → ∀ X : St3 → Mp → Prop, (∀ τ' M', Pv (i + 1) τ' M' → X τ' M') → g (.tup [.int (i : Nat), d]) τ M fun τ2 M2 => tb { E with nx := X, ct := X, bk := E.nx } τ2 M2)
    (fin : ∀ τ M, Pv ds.length τ M → E.nx τ M) {τ : St3} {M : Mp} (h0 : Pv 0 τ M) : forW G g tb E (enD ds) τ M :=
  for_pv Pv (fun i d τ M hd p X hX => by
    obtain ⟨x, hx, rfl⟩ := enD_get hd
    exact ⟨hG M, step i x τ M hx p X hX⟩) (fun τ M p => ⟨hG M, fin τ M (by rw [enD_len] at p; exact p)⟩) h0
theorem s_put {sl : Sp3} (kl : SLesser sl) : SPut (spOf 2 10 (putR sl)) := by
  refine fun many B xs ds Q E h0 h1 hlen hat hok q => ⟨rfl, ?_⟩
  show putR sl E _ [some (.int many), some (.rol ds), none, none, none, none, none, none, none, none] M0
  unfold putR
  rw [st_seq, st_set]
  refine lc_emptyF rfl (by decide) h0 h1 fun as M1 m => ?_
  try dsimp only
  rw [st_seq, st_for]
  simp only [ex_c, ex_var, ex_op, ex_un, ex_b, ex_and, ex_or, ex_not, ex_andV, ex_orV, ex_notV, ex_if, ex_chain, ex_nil, ex_cons, ex_tup, ex_lst, ex_call, ex_callP, ex_cb, ex_bm, ex_rep, ex_sl, ex_noPart, ex_part, ex_yes, it_items, it_rng1, it_rng2, tg_name, tg_sub, tg_tup, tg_cons, tg_nil, gs_0, gs_s, ss_0, ss_s, op_ii, op_ss, op_tt, op_mm, op_sb, op_ng, op_iNf, op_iNt, op_lle, op_ixT, op_ixR, op_ixL, op_putE, op_appE, it_tupE, it_rolE, it_refE, lstOf_l, exL, asS_some, asI_int, asB_bl, asL_some, asN_some, ite3_t, ite3_f, bl_1, bl_lenT, bl_lenR, bl_lenL, bl_lenS, bl_tuple, bl_list, bl_abs, bl_intI, bl_intB, bl_max, bl_min, op_eqSf, op_eqSt, op_eqIf, op_eqIt, op_eqTf, op_eqTt, op_eqRf, op_eqRt, op_eqNf, op_eqNt, eqD_int, eqD_nil, pl_int, pl_nil, pl_non, pl_rnil, pl_bl, sl_tupE, sl_rolE, keep_ref, keep_tup, keep_rol, tp_int, tp_tup, tp_rol, tp_str, tp_bl, tp_non, tp_ref, oFd, oMd, oPw, oShl, oLt, oLe, oGt, oGe, op_in, op_cp, wipe_nil, wipe_cons, mset_same, true_and, and_true, isN_int, ex_lstF, ex_repF, ex_lgF1, ex_lgF2, ex_tupRg1, ex_tupRg2, ex_frz, ex_slF, ex_slM, sl_tupF, sl_rolF, op_iiF, op_ssF, op_ttF, op_rrF, op_rrM, op_mmF, op_repF, li_rol, li_ref, bl_listF, bl_allF, bl_anyF, asT_some, asJ_some, op_eqBf, op_eqBt, isN_non, Bool.not_true, Bool.not_false, rep2]
  refine for_pv (fun k τ M' => k ≤ ds.length ∧ (∃ X, Rows M0 M' as X ∧ Sq many.toNat X ∧ Ends B X ∧ ∀ s, Stable many.toNat (at2 X) s ↔ ∀ y ∈ xs.take k, Pull y s) ∧ ∃ x3 x4 x5 x6 x7 x8 x9, τ = [some (.int many), some (.rol ds), some (.rol (as.map D.ref)), x3, x4, x5, x6, x7, x8, x9]) ?_ ?_
    ⟨Nat.zero_le _, ⟨_, m, .empty, .empty, fun s => ⟨fun _ y hy => (by simp at hy), fun _ i _ j _ => (by rw [at2_empty']; cases s i <;> exact eLe_none)⟩⟩, _, _, _, _, _, _, _, rfl⟩
  · rintro k d τ M' hd ⟨hk, ⟨X, m', hs⟩, x3, x4, x5, x6, x7, x8, x9, rfl⟩ Y hY
    have hkl : k < ds.length := (List.getElem?_eq_some_iff.mp hd).1
    have hx : xs[k]? = some xs[k] := List.getElem?_eq_getElem (by omega)
    refine ⟨True.intro, ?_⟩
    have hok1 := hok _ (List.mem_of_getElem? hx)
    have htk : xs.take (k + 1) = xs.take k ++ [xs[k]] := by rw [List.take_succ, hx]; rfl
    obtain ⟨pd, rfl, hpl⟩ := hat k d _ hd hx
    generalize xs[k] = x at hx hok1 htk hpl
    simp only [ex_c, ex_var, ex_op, ex_un, ex_b, ex_and, ex_or, ex_not, ex_andV, ex_orV, ex_notV, ex_if, ex_chain, ex_nil, ex_cons, ex_tup, ex_lst, ex_call, ex_callP, ex_cb, ex_bm, ex_rep, ex_sl, ex_noPart, ex_part, ex_yes, it_items, it_rng1, it_rng2, tg_name, tg_sub, tg_tup, tg_cons, tg_nil, gs_0, gs_s, ss_0, ss_s, op_ii, op_ss, op_tt, op_mm, op_sb, op_ng, op_iNf, op_iNt, op_lle, op_ixT, op_ixR, op_ixL, op_putE, op_appE, it_tupE, it_rolE, it_refE, lstOf_l, exL, asS_some, asI_int, asB_bl, asL_some, asN_some, ite3_t, ite3_f, bl_1, bl_lenT, bl_lenR, bl_lenL, bl_lenS, bl_tuple, bl_list, bl_abs, bl_intI, bl_intB, bl_max, bl_min, op_eqSf, op_eqSt, op_eqIf, op_eqIt, op_eqTf, op_eqTt, op_eqRf, op_eqRt, op_eqNf, op_eqNt, eqD_int, eqD_nil, pl_int, pl_nil, pl_non, pl_rnil, pl_bl, sl_tupE, sl_rolE, keep_ref, keep_tup, keep_rol, tp_int, tp_tup, tp_rol, tp_str, tp_bl, tp_non, tp_ref, oFd, oMd, oPw, oShl, oLt, oLe, oGt, oGe, op_in, op_cp, wipe_nil, wipe_cons, mset_same, true_and, and_true, isN_int, ex_lstF, ex_repF, ex_lgF1, ex_lgF2, ex_tupRg1, ex_tupRg2, ex_frz, ex_slF, ex_slM, sl_tupF, sl_rolF, op_iiF, op_ssF, op_ttF, op_rrF, op_rrM, op_mmF, op_repF, li_rol, li_ref, bl_listF, bl_allF, bl_anyF, asT_some, asJ_some, op_eqBf, op_eqBt, isN_non, Bool.not_true, Bool.not_false, rep2, List.length_cons, List.length_nil]
    rw [st_for, it_enumF]
    simp only [ex_c, ex_var, ex_op, ex_un, ex_b, ex_and, ex_or, ex_not, ex_andV, ex_orV, ex_notV, ex_if, ex_chain, ex_nil, ex_cons, ex_tup, ex_lst, ex_call, ex_callP, ex_cb, ex_bm, ex_rep, ex_sl, ex_noPart, ex_part, ex_yes, it_items, it_rng1, it_rng2, tg_name, tg_sub, tg_tup, tg_cons, tg_nil, gs_0, gs_s, ss_0, ss_s, op_ii, op_ss, op_tt, op_mm, op_sb, op_ng, op_iNf, op_iNt, op_lle, op_ixT, op_ixR, op_ixL, op_putE, op_appE, it_tupE, it_rolE, it_refE, lstOf_l, exL, asS_some, asI_int, asB_bl, asL_some, asN_some, ite3_t, ite3_f, bl_1, bl_lenT, bl_lenR, bl_lenL, bl_lenS, bl_tuple, bl_list, bl_abs, bl_intI, bl_intB, bl_max, bl_min, op_eqSf, op_eqSt, op_eqIf, op_eqIt, op_eqTf, op_eqTt, op_eqRf, op_eqRt, op_eqNf, op_eqNt, eqD_int, eqD_nil, pl_int, pl_nil, pl_non, pl_rnil, pl_bl, sl_tupE, sl_rolE, keep_ref, keep_tup, keep_rol, tp_int, tp_tup, tp_rol, tp_str, tp_bl, tp_non, tp_ref, oFd, oMd, oPw, oShl, oLt, oLe, oGt, oGe, op_in, op_cp, wipe_nil, wipe_cons, mset_same, true_and, and_true, isN_int, ex_lstF, ex_repF, ex_lgF1, ex_lgF2, ex_tupRg1, ex_tupRg2, ex_frz, ex_slF, ex_slM, sl_tupF, sl_rolF, op_iiF, op_ssF, op_ttF, op_rrF, op_rrM, op_mmF, op_repF, li_rol, li_ref, bl_listF, bl_allF, bl_anyF, asT_some, asJ_some, op_eqBf, op_eqBt, isN_non, Bool.not_true, Bool.not_false, rep2, it_tabE]
    refine for_en (fun p τ M' => p ≤ x.1.length ∧ (∃ X, Rows M0 M' as X ∧ Puts B many.toNat (xs.take k) x p 0 X) ∧ ∃ x3 x6 x7 x8 x9, τ = [some (.int many), some (.rol ds), some (.rol (as.map D.ref)), x3, some (tabD x.1), some pd, x6, x7, x8, x9]) (fun _ => True.intro) ?_ ?_ ⟨Nat.zero_le _, ⟨X, m', .begin hs⟩, _, _, _, _, _, rfl⟩
    · rintro p rd τ M' hrd ⟨hp, ⟨X, m', hs⟩, x3, x6, x7, x8, x9, rfl⟩ Y2 hY2
      rw [List.getElem?_map] at hrd
      obtain ⟨r, hr, rfl⟩ := Option.map_eq_some_iff.mp hrd
      have hpl' : p < x.1.length := (List.getElem?_eq_some_iff.mp hr).1
      have hrl : r.length = x.1.length := hok1.tb.cols r (List.mem_of_getElem? hr)
      simp only [ex_c, ex_var, ex_op, ex_un, ex_b, ex_and, ex_or, ex_not, ex_andV, ex_orV, ex_notV, ex_if, ex_chain, ex_nil, ex_cons, ex_tup, ex_lst, ex_call, ex_callP, ex_cb, ex_bm, ex_rep, ex_sl, ex_noPart, ex_part, ex_yes, it_items, it_rng1, it_rng2, tg_name, tg_sub, tg_tup, tg_cons, tg_nil, gs_0, gs_s, ss_0, ss_s, op_ii, op_ss, op_tt, op_mm, op_sb, op_ng, op_iNf, op_iNt, op_lle, op_ixT, op_ixR, op_ixL, op_putE, op_appE, it_tupE, it_rolE, it_refE, lstOf_l, exL, asS_some, asI_int, asB_bl, asL_some, asN_some, ite3_t, ite3_f, bl_1, bl_lenT, bl_lenR, bl_lenL, bl_lenS, bl_tuple, bl_list, bl_abs, bl_intI, bl_intB, bl_max, bl_min, op_eqSf, op_eqSt, op_eqIf, op_eqIt, op_eqTf, op_eqTt, op_eqRf, op_eqRt, op_eqNf, op_eqNt, eqD_int, eqD_nil, pl_int, pl_nil, pl_non, pl_rnil, pl_bl, sl_tupE, sl_rolE, keep_ref, keep_tup, keep_rol, tp_int, tp_tup, tp_rol, tp_str, tp_bl, tp_non, tp_ref, oFd, oMd, oPw, oShl, oLt, oLe, oGt, oGe, op_in, op_cp, wipe_nil, wipe_cons, mset_same, true_and, and_true, isN_int, ex_lstF, ex_repF, ex_lgF1, ex_lgF2, ex_tupRg1, ex_tupRg2, ex_frz, ex_slF, ex_slM, sl_tupF, sl_rolF, op_iiF, op_ssF, op_ttF, op_rrF, op_rrM, op_mmF, op_repF, li_rol, li_ref, bl_listF, bl_allF, bl_anyF, asT_some, asJ_some, op_eqBf, op_eqBt, isN_non, Bool.not_true, Bool.not_false, rep2, List.length_cons, List.length_nil]
      rw [st_for, it_enumF]
      simp only [ex_c, ex_var, ex_op, ex_un, ex_b, ex_and, ex_or, ex_not, ex_andV, ex_orV, ex_notV, ex_if, ex_chain, ex_nil, ex_cons, ex_tup, ex_lst, ex_call, ex_callP, ex_cb, ex_bm, ex_rep, ex_sl, ex_noPart, ex_part, ex_yes, it_items, it_rng1, it_rng2, tg_name, tg_sub, tg_tup, tg_cons, tg_nil, gs_0, gs_s, ss_0, ss_s, op_ii, op_ss, op_tt, op_mm, op_sb, op_ng, op_iNf, op_iNt, op_lle, op_ixT, op_ixR, op_ixL, op_putE, op_appE, it_tupE, it_rolE, it_refE, lstOf_l, exL, asS_some, asI_int, asB_bl, asL_some, asN_some, ite3_t, ite3_f, bl_1, bl_lenT, bl_lenR, bl_lenL, bl_lenS, bl_tuple, bl_list, bl_abs, bl_intI, bl_intB, bl_max, bl_min, op_eqSf, op_eqSt, op_eqIf, op_eqIt, op_eqTf, op_eqTt, op_eqRf, op_eqRt, op_eqNf, op_eqNt, eqD_int, eqD_nil, pl_int, pl_nil, pl_non, pl_rnil, pl_bl, sl_tupE, sl_rolE, keep_ref, keep_tup, keep_rol, tp_int, tp_tup, tp_rol, tp_str, tp_bl, tp_non, tp_ref, oFd, oMd, oPw, oShl, oLt, oLe, oGt, oGe, op_in, op_cp, wipe_nil, wipe_cons, mset_same, true_and, and_true, isN_int, ex_lstF, ex_repF, ex_lgF1, ex_lgF2, ex_tupRg1, ex_tupRg2, ex_frz, ex_slF, ex_slM, sl_tupF, sl_rolF, op_iiF, op_ssF, op_ttF, op_rrF, op_rrM, op_mmF, op_repF, li_rol, li_ref, bl_listF, bl_allF, bl_anyF, asT_some, asJ_some, op_eqBf, op_eqBt, isN_non, Bool.not_true, Bool.not_false, rep2, it_rowE]
      refine for_en (fun j τ M' => j ≤ x.1.length ∧ (∃ X, Rows M0 M' as X ∧ Puts B many.toNat (xs.take k) x p j X) ∧ ∃ x3 x8 x9, τ = [some (.int many), some (.rol ds), some (.rol (as.map D.ref)), x3, some (tabD x.1), some pd, some (.int (p : Nat)), some (rowD r), x8, x9]) (fun _ => True.intro) ?_ ?_ ⟨Nat.zero_le _, ⟨X, m', hs⟩, _, _, _, rfl⟩
      · rintro j ed τ M' hed ⟨hj, ⟨X, m', hs⟩, x3, x8, x9, rfl⟩ Y3 hY3
        rw [List.getElem?_map] at hed
        obtain ⟨en, hen, rfl⟩ := Option.map_eq_some_iff.mp hed
        have hjl : j < x.1.length := by rw [← hrl]; exact (List.getElem?_eq_some_iff.mp hen).1
        have hat2 : at2 x.1 p j = en := by
          unfold at2
          rw [List.getD_eq_getElem?_getD, List.getD_eq_getElem?_getD, hr]
          show (r[j]?).getD none = en
          rw [hen]; rfl
        have inn : ∀ i, i < x.1.length → x.2.getD i 0 < many.toNat := fun i hi => by
          have : i < x.2.length := Nat.lt_of_lt_of_le hi hok1.len
          rw [List.getD_eq_getElem?_getD, List.getElem?_eq_getElem this]
          exact hok1.inn _ (List.getElem_mem this)
        have ixp : ∀ {M : Mp} {Q : VK3}, oIx pd (.int (p : Nat)) M Q = Q (.int ((x.2.getD p 0 : Nat) : Int)) M := seq_pl hpl (Nat.lt_of_lt_of_le hpl' hok1.len)
        have ixj : ∀ {M : Mp} {Q : VK3}, oIx pd (.int (j : Nat)) M Q = Q (.int ((x.2.getD j 0 : Nat) : Int)) M := seq_pl hpl (Nat.lt_of_lt_of_le hjl hok1.len)
        have i1 := inn p hpl'
        have i2 := inn j hjl
        obtain ⟨a, r', g1, g2, g3, g4, g5, g6⟩ := m'.at2R hs.sq (p := ((x.2.getD p 0 : Nat) : Int)) (q := ((x.2.getD j 0 : Nat) : Int)) (by omega) (by omega) (by omega) (by omega)
        rw [Int.toNat_natCast] at g3 g4 g5 g6
        rw [Int.toNat_natCast] at g3
        have st := hs.step hok1 hpl' hjl
        rw [hat2] at st
        have m2 := m'.putR (q := x.2.getD j 0) (x := eMin (at2 X (x.2.getD p 0) (x.2.getD j 0)) en) g5 g6
        simp only [ex_c, ex_var, ex_op, ex_un, ex_b, ex_and, ex_or, ex_not, ex_andV, ex_orV, ex_notV, ex_if, ex_chain, ex_nil, ex_cons, ex_tup, ex_lst, ex_call, ex_callP, ex_cb, ex_bm, ex_rep, ex_sl, ex_noPart, ex_part, ex_yes, it_items, it_rng1, it_rng2, tg_name, tg_sub, tg_tup, tg_cons, tg_nil, gs_0, gs_s, ss_0, ss_s, op_ii, op_ss, op_tt, op_mm, op_sb, op_ng, op_iNf, op_iNt, op_lle, op_ixT, op_ixR, op_ixL, op_putE, op_appE, it_tupE, it_rolE, it_refE, lstOf_l, exL, asS_some, asI_int, asB_bl, asL_some, asN_some, ite3_t, ite3_f, bl_1, bl_lenT, bl_lenR, bl_lenL, bl_lenS, bl_tuple, bl_list, bl_abs, bl_intI, bl_intB, bl_max, bl_min, op_eqSf, op_eqSt, op_eqIf, op_eqIt, op_eqTf, op_eqTt, op_eqRf, op_eqRt, op_eqNf, op_eqNt, eqD_int, eqD_nil, pl_int, pl_nil, pl_non, pl_rnil, pl_bl, sl_tupE, sl_rolE, keep_ref, keep_tup, keep_rol, tp_int, tp_tup, tp_rol, tp_str, tp_bl, tp_non, tp_ref, oFd, oMd, oPw, oShl, oLt, oLe, oGt, oGe, op_in, op_cp, wipe_nil, wipe_cons, mset_same, true_and, and_true, isN_int, ex_lstF, ex_repF, ex_lgF1, ex_lgF2, ex_tupRg1, ex_tupRg2, ex_frz, ex_slF, ex_slM, sl_tupF, sl_rolF, op_iiF, op_ssF, op_ttF, op_rrF, op_rrM, op_mmF, op_repF, li_rol, li_ref, bl_listF, bl_allF, bl_anyF, asT_some, asJ_some, op_eqBf, op_eqBt, isN_non, Bool.not_true, Bool.not_false, rep2, List.length_cons, List.length_nil]
        rw [st_asg]
        simp only [ex_c, ex_var, ex_op, ex_un, ex_b, ex_and, ex_or, ex_not, ex_andV, ex_orV, ex_notV, ex_if, ex_chain, ex_nil, ex_cons, ex_tup, ex_lst, ex_call, ex_callP, ex_cb, ex_bm, ex_rep, ex_sl, ex_noPart, ex_part, ex_yes, it_items, it_rng1, it_rng2, tg_name, tg_sub, tg_tup, tg_cons, tg_nil, gs_0, gs_s, ss_0, ss_s, op_ii, op_ss, op_tt, op_mm, op_sb, op_ng, op_iNf, op_iNt, op_lle, op_ixT, op_ixR, op_ixL, op_putE, op_appE, it_tupE, it_rolE, it_refE, lstOf_l, exL, asS_some, asI_int, asB_bl, asL_some, asN_some, ite3_t, ite3_f, bl_1, bl_lenT, bl_lenR, bl_lenL, bl_lenS, bl_tuple, bl_list, bl_abs, bl_intI, bl_intB, bl_max, bl_min, op_eqSf, op_eqSt, op_eqIf, op_eqIt, op_eqTf, op_eqTt, op_eqRf, op_eqRt, op_eqNf, op_eqNt, eqD_int, eqD_nil, pl_int, pl_nil, pl_non, pl_rnil, pl_bl, sl_tupE, sl_rolE, keep_ref, keep_tup, keep_rol, tp_int, tp_tup, tp_rol, tp_str, tp_bl, tp_non, tp_ref, oFd, oMd, oPw, oShl, oLt, oLe, oGt, oGe, op_in, op_cp, wipe_nil, wipe_cons, mset_same, true_and, and_true, isN_int, ex_lstF, ex_repF, ex_lgF1, ex_lgF2, ex_tupRg1, ex_tupRg2, ex_frz, ex_slF, ex_slM, sl_tupF, sl_rolF, op_iiF, op_ssF, op_ttF, op_rrF, op_rrM, op_mmF, op_repF, li_rol, li_ref, bl_listF, bl_allF, bl_anyF, asT_some, asJ_some, op_eqBf, op_eqBt, isN_non, Bool.not_true, Bool.not_false, rep2, ixp, ixj, g1, g2, g3]
        refine kl _ _ _ _ fun M3 => ?_
        simp only [ex_c, ex_var, ex_op, ex_un, ex_b, ex_and, ex_or, ex_not, ex_andV, ex_orV, ex_notV, ex_if, ex_chain, ex_nil, ex_cons, ex_tup, ex_lst, ex_call, ex_callP, ex_cb, ex_bm, ex_rep, ex_sl, ex_noPart, ex_part, ex_yes, it_items, it_rng1, it_rng2, tg_name, tg_sub, tg_tup, tg_cons, tg_nil, gs_0, gs_s, ss_0, ss_s, op_ii, op_ss, op_tt, op_mm, op_sb, op_ng, op_iNf, op_iNt, op_lle, op_ixT, op_ixR, op_ixL, op_putE, op_appE, it_tupE, it_rolE, it_refE, lstOf_l, exL, asS_some, asI_int, asB_bl, asL_some, asN_some, ite3_t, ite3_f, bl_1, bl_lenT, bl_lenR, bl_lenL, bl_lenS, bl_tuple, bl_list, bl_abs, bl_intI, bl_intB, bl_max, bl_min, op_eqSf, op_eqSt, op_eqIf, op_eqIt, op_eqTf, op_eqTt, op_eqRf, op_eqRt, op_eqNf, op_eqNt, eqD_int, eqD_nil, pl_int, pl_nil, pl_non, pl_rnil, pl_bl, sl_tupE, sl_rolE, keep_ref, keep_tup, keep_rol, tp_int, tp_tup, tp_rol, tp_str, tp_bl, tp_non, tp_ref, oFd, oMd, oPw, oShl, oLt, oLe, oGt, oGe, op_in, op_cp, wipe_nil, wipe_cons, mset_same, true_and, and_true, isN_int, ex_lstF, ex_repF, ex_lgF1, ex_lgF2, ex_tupRg1, ex_tupRg2, ex_frz, ex_slF, ex_slM, sl_tupF, sl_rolF, op_iiF, op_ssF, op_ttF, op_rrF, op_rrM, op_mmF, op_repF, li_rol, li_ref, bl_listF, bl_allF, bl_anyF, asT_some, asJ_some, op_eqBf, op_eqBt, isN_non, Bool.not_true, Bool.not_false, rep2, ixp, ixj, g1, g2, g4]
        exact hY3 _ _ ⟨hjl, ⟨_, m2, st⟩, _, _, _, rfl⟩
      · rintro τ M' ⟨hj, ⟨X, m', hs⟩, x3, x8, x9, rfl⟩
        rw [List.length_map, hrl] at hs
        exact hY2 _ _ ⟨hpl', ⟨X, m', hs.row⟩, _, _, _, _, _, rfl⟩
    · rintro τ M' ⟨hp, ⟨X, m', hs⟩, x3, x6, x7, x8, x9, rfl⟩
      rw [List.length_map] at hs
      refine hY _ _ ⟨hkl, ⟨X, m', by rw [htk]; exact hs.part⟩, _, _, _, _, _, _, _, rfl⟩
  · rintro τ M' ⟨hk, ⟨X, m', sq, en, st⟩, x3, x4, x5, x6, x7, x8, x9, rfl⟩
    rw [hlen, List.take_length] at st
    refine ⟨True.intro, ?_⟩
    try dsimp only
    rw [st_ret]
    have big : (1000 : Nat) ≤ sizeLine := by decide
    exact tab_of_rows rfl (by simp) m' (by rw [m'.len2 sq]; omega) (q _ _ ⟨.of sq en, st⟩)
end L3
set_option Elab.async false
set_option linter.all false
set_option maxRecDepth 100000
set_option maxHeartbeats 4000000
namespace L3
open PySem PySem.Spec PyProof.Rows L2
/-- trips of places, ends within a bound -/
def TripsOk (many B : Nat) (ts : List Trip) : Prop := ∀ t ∈ ts, In2 many t ∧ t.2.2.natAbs < B
/-- edges of the rows ahead of p, of row p those ahead of q -/
def Edg (many B : Nat) (x : Part) (p q : Nat) (ts : List Trip) : Prop := TripsOk many B ts ∧ ts.length ≤ 100 * p + q ∧
  ∀ s, StE (ts.map edgeOf) s ↔ ∀ i j, i < x.1.length → j < x.1.length → (i < p ∨ (i = p ∧ j < q)) → eLe (s (x.2.getD j 0)) (eAdd (s (x.2.getD i 0)) (at2 x.1 i j))
theorem StE.app {es fs : List Edge} {s : Nat → Ed} : StE (es ++ fs) s ↔ StE es s ∧ StE fs s :=
  ⟨fun h => ⟨fun e he => h e (by simp [he]), fun e he => h e (by simp [he])⟩, fun h e he => (List.mem_append.mp he).elim (h.1 e) (h.2 e)⟩
theorem Edg.row {many B p : Nat} {x : Part} {ts : List Trip} (h : Edg many B x p x.1.length ts) (hl : x.1.length ≤ 100) : Edg many B x (p + 1) 0 ts :=
  ⟨h.1, by have := h.2.1; omega, fun s => by
    rw [h.2.2]
    exact ⟨fun a i j hi hj z => a i j hi hj (by omega), fun a i j hi hj z => a i j hi hj (by omega)⟩⟩
end L3
set_option Elab.async false
set_option linter.all false
set_option maxRecDepth 100000
set_option maxHeartbeats 4000000
namespace L3
open PySem PySem.Spec PyProof.Rows L2
/-- a table's part: rows and columns at these places -/
def partT (S : Tab) (ps : List Nat) : Tab := ps.map fun p => ps.map fun q => at2 S p q
end L3
set_option Elab.async false
set_option linter.all false
set_option maxRecDepth 100000
set_option maxHeartbeats 4000000
namespace L3
open PySem PySem.Spec PyProof.Rows L2
def STableM (sp : Sp3) : Prop := ∀ (n : Int) (ts : List Trip) (rd : D) (Q : VK3) (E : XK3), 0 ≤ n → n ≤ 1000 → IsSeq rd (ts.map tripD) → (∀ t ∈ ts, In2 n t) →
  (∀ M, Q (tabD (mtab n.toNat ts)) M) → sp [.int n, rd] M0 Q E
end L3
set_option Elab.async false
set_option linter.all false
set_option maxRecDepth 100000
set_option maxHeartbeats 4000000
namespace L3
open PySem PySem.Spec PyProof.Rows L2
end L3
set_option Elab.async false
set_option linter.all false
set_option maxRecDepth 100000
set_option maxHeartbeats 4000000
namespace L3
open PySem PySem.Spec PyProof.Rows L2
end L3
set_option Elab.async false
set_option linter.all false
set_option maxRecDepth 100000
set_option maxHeartbeats 4000000
namespace L3
open PySem PySem.Spec PyProof.Rows L2
theorem tab_ne {n : Nat} {S : Tab} (sq : Sq n S) (hn : 0 < n) : (S.map rowD).isEmpty = false := by
  have := sq.rows
  cases S with
  | nil => simp at this; omega
  | cons a b => rfl
end L3
set_option Elab.async false
set_option linter.all false
set_option maxRecDepth 100000
set_option maxHeartbeats 4000000
namespace L3
open PySem PySem.Spec PyProof.Rows L2
theorem IsCl.congr {n : Nat} {T T' S : Fn} (h : ∀ s, Stable n T s ↔ Stable n T' s) (c : IsCl n T S) : IsCl n T' S :=
  ⟨c.diag, c.tri, fun p q hp hq => by
    have z := (h _).mp (c.row hp) p hp q hq
    rw [c.diag p hp, eAdd_0l] at z
    exact z, fun s hs => c.st s ((h s).mpr hs)⟩
theorem Bad.congr {n : Nat} {T T' : Fn} (h : ∀ s, Stable n T s ↔ Stable n T' s) (b : Bad n T) : Bad n T' := by
  obtain ⟨m, hm, z⟩ := b
  exact ⟨m, hm, fun s hs => z s ((h s).mpr hs)⟩
theorem Closes.congr {n B B' : Nat} {T T' : Tab} {d d' : D} (h : ∀ s, Stable n (at2 T) s ↔ Stable n (at2 T') s) (c : Closes n B T d) (c' : Closes n B' T' d') : d = d' := by
  rcases c with ⟨b, rfl⟩ | ⟨S, tb, cl, rfl⟩
  · rcases c' with ⟨_, rfl⟩ | ⟨S', _, cl', _⟩
    · rfl
    · exact absurd (b.congr h) cl'.good
  · rcases c' with ⟨b, _⟩ | ⟨S', tb', cl', rfl⟩
    · exact absurd b (cl.congr h).good
    · rw [tab_ext tb.sq tb'.sq fun p q hp hq => (cl.congr h).uniq cl' hp hq]
/-- some points of a table closed -/
def OnlyOf (n B : Nat) (X : Tab) (ps : List Nat) (d : D) : Prop := (Bad n (at2 X) ∧ d = .tup []) ∨ ∃ S : Tab, TabB (2 ^ n * B) n S ∧ IsCl n (at2 X) (at2 S) ∧ d = tabD (partT S ps)
theorem part_ext {n : Nat} {S S' : Tab} {ps : List Nat} (h : ∀ p q, p < n → q < n → at2 S p q = at2 S' p q) (hp : ∀ p ∈ ps, p < n) : partT S ps = partT S' ps := by
  unfold partT
  exact List.map_congr_left fun p h1 => List.map_congr_left fun q h2 => h p q (hp p h1) (hp q h2)
theorem OnlyOf.congr {n B B' : Nat} {X X' : Tab} {ps : List Nat} {d d' : D} (h : ∀ s, Stable n (at2 X) s ↔ Stable n (at2 X') s) (hp : ∀ p ∈ ps, p < n) (c : OnlyOf n B X ps d) (c' : OnlyOf n B' X' ps d') : d = d' := by
  rcases c with ⟨b, rfl⟩ | ⟨S, tb, cl, rfl⟩
  · rcases c' with ⟨_, rfl⟩ | ⟨S', _, cl', _⟩
    · rfl
    · exact absurd (b.congr h) cl'.good
  · rcases c' with ⟨b, _⟩ | ⟨S', tb', cl', rfl⟩
    · exact absurd b (cl.congr h).good
    · rw [part_ext (fun p q hp hq => (cl.congr h).uniq cl' hp hq) hp]
theorem partT_b {B n : Nat} {S : Tab} {ps : List Nat} (t : TabB B n S) : TabB B ps.length (partT S ps) := by
  refine ⟨by simp [partT], fun r hr => ?_, fun r hr e he => ?_⟩
  · obtain ⟨p, _, rfl⟩ := List.mem_map.mp hr; simp
  · obtain ⟨p, _, rfl⟩ := List.mem_map.mp hr
    obtain ⟨q, _, rfl⟩ := List.mem_map.mp he
    exact ends_at' t
theorem OnlyOf.tm {n B : Nat} {X : Tab} {ps : List Nat} {d : D} (c : OnlyOf n B X ps d) (hB : 2 ^ n * B ≤ 10 ^ 100) : Tm 2 (ps.length * (ps.length + 1)) d := by
  rcases c with ⟨_, rfl⟩ | ⟨S, tb, _, rfl⟩
  · exact (Tm.tup (h := 0) (n := 0) (m := 0) (ds := []) (fun d h => nomatch h) (Nat.le_refl _)).mono (by decide) (Nat.zero_le _)
  · exact Tm.tab (partT_b tb) hB
theorem OnlyOf.top {n B : Nat} {X : Tab} {ps : List Nat} {d : D} {M : Mp} (c : OnlyOf n B X ps d) : L3.top M d = d := by
  rcases c with ⟨_, rfl⟩ | ⟨S, _, _, rfl⟩ <;> rfl
/-- from closing and taking a part -/
theorem OnlyOf.of {n B : Nat} {X : Tab} {ps : List Nat} {d : D} (c : Closes n B X d) : ∃ d', OnlyOf n B X ps d' ∧ ((d = .tup [] ∧ d' = .tup []) ∨ ∃ S, d = tabD S ∧ d' = tabD (partT S ps)) := by
  rcases c with ⟨b, rfl⟩ | ⟨S, tb, cl, rfl⟩
  · exact ⟨_, .inl ⟨b, rfl⟩, .inl ⟨rfl, rfl⟩⟩
  · exact ⟨_, .inr ⟨S, tb, cl, rfl⟩, .inr ⟨S, rfl, rfl⟩⟩
theorem pl_tab {T : Tab} : Pl (tabD T) := by
  refine ⟨?_, ?_⟩
  · show plains (T.map rowD) = true
    induction T with
    | nil => rfl
    | cons r T ih =>
      have hr : plain (rowD r) = true := by
        show plains (r.map oD) = true
        induction r with
        | nil => rfl
        | cons a r ih => cases a <;> simp [plains, oD, plain, ih]
      simp [plains, hr, ih]
  · show deeps (T.map rowD) + 1 ≤ 64
    have : deeps (T.map rowD) ≤ 1 := by
      induction T with
      | nil => simp [deeps]
      | cons r T ih =>
        have hr : deep (rowD r) ≤ 1 := by
          show deeps (r.map oD) + 1 ≤ 1
          have : deeps (r.map oD) = 0 := by
            clear ih
            induction r with
            | nil => rfl
            | cons a r ih => cases a <;> simp [deeps, oD, deep, ih]
          omega
        simp only [List.map_cons, deeps]
        exact Nat.max_le.mpr ⟨hr, ih⟩
    omega
theorem pl_tabT {T : Tab} : Pl (.tup (T.map rowD)) := pl_tab
/-- a table == () -/
theorem eq_tab {n : Nat} {T : Tab} (sq : Sq n T) (hn : 0 < n) {M : Mp} {Q : VK3} : oEq false (tabD T) (.tup []) M Q = Q (.bl false) M := by
  unfold tabD
  rw [op_eqTf, tp_tup, eqD_nil, tab_ne sq hn]
  exact propext ⟨fun h => h.2.2, fun h => ⟨pl_tabT, by rw [pl_nil]; trivial, h⟩⟩
theorem eq_nil {M : Mp} {Q : VK3} : oEq false (.tup []) (.tup []) M Q = Q (.bl true) M := by
  rw [op_eqTf, tp_tup, eqD_nil]
  exact propext ⟨fun h => h.2.2, fun h => ⟨by rw [pl_nil]; trivial, by rw [pl_nil]; trivial, h⟩⟩
theorem ne_nil {M : Mp} {Q : VK3} : oEq true (.tup []) (.tup []) M Q = Q (.bl false) M := by
  rw [op_eqTt, tp_tup, eqD_nil]
  exact propext ⟨fun h => h.2.2, fun h => ⟨by rw [pl_nil]; trivial, by rw [pl_nil]; trivial, h⟩⟩
theorem len_tab {n : Nat} {T : Tab} (sq : Sq n T) {M : Mp} {Q : VK3} : bLen [tabD T] M Q = Q (.int n) M := by
  unfold tabD
  rw [bl_lenT, List.length_map, sq.rows]
/-- an end of a table -/
theorem ix_tab {n : Nat} {T : Tab} (sq : Sq n T) {p q : Int} (hp : 0 ≤ p) (hp1 : p < n) (hq : 0 ≤ q) (hq1 : q < n) : ∃ r, (∀ (M : Mp) (Q : VK3), oIx (tabD T) (.int p) M Q = Q (rowD r) M) ∧ ∀ (M : Mp) (Q : VK3), oIx (rowD r) (.int q) M Q = Q (oD (at2 T p.toNat q.toNat)) M := by
  obtain ⟨r, h1, h2, h3, h4, h5, h6⟩ := sq.get hp hp1 hq hq1
  refine ⟨r, fun M Q => ?_, fun M Q => ?_⟩
  · unfold tabD; rw [op_ixT, asI_int, h3, asS_some]; rfl
  · unfold rowD; rw [op_ixT, asI_int, h4, asS_some]
def rgN (i n : Nat) : List Nat := (List.range n).map (i + ·)
theorem rgN_len {i n : Nat} : (rgN i n).length = n := by simp [rgN]
theorem rgN_mem {i n p : Nat} : p ∈ rgN i n ↔ i ≤ p ∧ p < i + n := by
  simp only [rgN, List.mem_map, List.mem_range]
  constructor
  · rintro ⟨a, h, rfl⟩; omega
  · intro h; exact ⟨p - i, by omega, by omega⟩
theorem rgD_pl {i : Int} {n : Nat} (h : 0 ≤ i) : rgD i n = plD (rgN i.toNat n) := by
  unfold rgD plD rgN
  rw [List.map_map]
  refine List.map_congr_left fun k _ => ?_
  show D.int (i + (k : Int)) = D.int (((i.toNat + k : Nat)) : Int)
  congr 1
  omega
theorem plD_app {a b : List Nat} : plD a ++ plD b = plD (a ++ b) := by simp [plD]
theorem plD_one {i : Int} (h : 0 ≤ i) : [D.int i] = plD [i.toNat] := by
  show [D.int i] = [D.int ((i.toNat : Nat) : Int)]
  rw [Int.toNat_of_nonneg h]
theorem plD_len {a : List Nat} : (plD a).length = a.length := by simp [plD]
theorem plD_map {a : List Nat} : plD a = a.map fun i : Nat => D.int (i : Int) := rfl
def keptOf (n : Nat) (ps : List Nat) : List Nat := ps.filter (fun p => decide (p ≠ n - 1)) ++ [n - 1]
def onlyR (sp_closed : Sp3) : XK3 → TS3 := fun E =>
  (wSeq (wSet 2 (wCallP sp_closed E (wCons (wVar 0) wNil)))
  (wSeq (wIfS (wB (wOp (oEq false) (wVar 2) (wTup wNil))) (wRet (wTup wNil)) wNext)
  (wSeq (wSet 3 (wOp oSub (wCB bLen (wCons (wVar 2) wNil)) (wC (.int 1))))
  (wSeq (wSet 4 (wOp oAddF (wLcF (wItems (wVar 1)) (wgName 5) (wB (wOp (oEq true) (wVar 5) (wVar 3))) (wVar 5) [5]) (wLstF (wCons (wVar 3) wNil))))
  (wRet (wCB bTuple (wCons (wLcF (wItems (wVar 4)) (wgName 5) wYes (wCB bTuple (wCons (wLcF (wItems (wVar 4)) (wgName 6) wYes (wOp oIx (wOp oIx (wVar 2) (wVar 5)) (wVar 6)) [6]) wNil)) [5]) wNil)))))))
structure SOnly (sp : Sp3) : Prop where
  t : ∀ (n B : Nat) (T : Tab) (ps : List Nat) (pd : D) (Q : VK3) (E : XK3), 0 < n → n ≤ 1000 → TabB B n T → 0 < B → IsSeq pd (plD ps) → (∀ p ∈ ps, p < n) → ps.length ≤ 1000 →
    (∀ d M, OnlyOf n B T (keptOf n ps) d → Q d M) → sp [tabD T, pd] M0 Q E
/-- a part of a table -/
theorem lc_part {S : Tab} {n : Nat} {ps : List Nat} {τ : St3} {i j k l : Nat} {M : Mp} {Q : VK3} {d : D} (sq : Sq n S) (hs : IsSeq d (plD ps)) (h1 : ∀ a b, getS (setS (setS (setS (setS τ j none) j a) k none) k b) i = some (tabD S)) (h2 : ∀ a, getS (setS (setS τ j none) j a) l = some d) (h3 : getS τ l = some d)
    (h4 : ∀ a b, getS (setS (setS (setS (setS τ j none) j a) k none) k b) j = a) (h5 : ∀ a b, getS (setS (setS (setS (setS τ j none) j a) k none) k b) k = b) (hin : ∀ p ∈ ps, p < n) (hl : ps.length ≤ 1001) (q : Q (tabD (partT S ps)) M) :
    wCB bTuple (wCons (wLcF (wItems (wVar l)) (wgName j) wYes (wCB bTuple (wCons (wLcF (wItems (wVar l)) (wgName k) wYes (wOp oIx (wOp oIx (wVar i) (wVar j)) (wVar k)) [k]) wNil)) [j]) wNil) τ M Q := by
  have big : (1001 : Nat) ≤ sizeLine := by decide
  simp only [ex_c, ex_var, ex_op, ex_un, ex_b, ex_and, ex_or, ex_not, ex_andV, ex_orV, ex_notV, ex_if, ex_chain, ex_nil, ex_cons, ex_tup, ex_lst, ex_call, ex_callP, ex_cb, ex_bm, ex_rep, ex_sl, ex_noPart, ex_part, ex_yes, it_items, it_rng1, it_rng2, tg_name, tg_sub, tg_tup, tg_cons, tg_nil, gs_0, gs_s, ss_0, ss_s, op_ii, op_ss, op_tt, op_mm, op_sb, op_ng, op_iNf, op_iNt, op_lle, op_ixT, op_ixR, op_ixL, op_putE, op_appE, it_tupE, it_rolE, it_refE, lstOf_l, exL, asS_some, asI_int, asB_bl, asL_some, asN_some, ite3_t, ite3_f, bl_1, bl_lenT, bl_lenR, bl_lenL, bl_lenS, bl_tuple, bl_list, bl_abs, bl_intI, bl_intB, bl_max, bl_min, op_eqSf, op_eqSt, op_eqIf, op_eqIt, op_eqTf, op_eqTt, op_eqRf, op_eqRt, op_eqNf, op_eqNt, eqD_int, eqD_nil, pl_int, pl_nil, pl_non, pl_rnil, pl_bl, sl_tupE, sl_rolE, keep_ref, keep_tup, keep_rol, tp_int, tp_tup, tp_rol, tp_str, tp_bl, tp_non, tp_ref, oFd, oMd, oPw, oShl, oLt, oLe, oGt, oGe, op_in, op_cp, wipe_nil, wipe_cons, mset_same, true_and, and_true, isN_int, ex_lstF, ex_repF, ex_lgF1, ex_lgF2, ex_tupRg1, ex_tupRg2, ex_frz, ex_slF, ex_slM, sl_tupF, sl_rolF, op_iiF, op_ssF, op_ttF, op_rrF, op_rrM, op_mmF, op_repF, li_rol, li_ref, bl_listF, bl_allF, bl_anyF, asT_some, asJ_some, op_eqBf, op_eqBt, isN_non, Bool.not_true, Bool.not_false, rep2, ex_lcF, h3, hs.items, hs.keep]
  refine lc_of (fun i : Nat => D.int (i : Int)) (fun p => rowD (ps.map fun q => at2 S p q)) True.intro ps (by omega) (fun p hpp K q => ?_) ?_
  · simp only [ex_c, ex_var, ex_op, ex_un, ex_b, ex_and, ex_or, ex_not, ex_andV, ex_orV, ex_notV, ex_if, ex_chain, ex_nil, ex_cons, ex_tup, ex_lst, ex_call, ex_callP, ex_cb, ex_bm, ex_rep, ex_sl, ex_noPart, ex_part, ex_yes, it_items, it_rng1, it_rng2, tg_name, tg_sub, tg_tup, tg_cons, tg_nil, gs_0, gs_s, ss_0, ss_s, op_ii, op_ss, op_tt, op_mm, op_sb, op_ng, op_iNf, op_iNt, op_lle, op_ixT, op_ixR, op_ixL, op_putE, op_appE, it_tupE, it_rolE, it_refE, lstOf_l, exL, asS_some, asI_int, asB_bl, asL_some, asN_some, ite3_t, ite3_f, bl_1, bl_lenT, bl_lenR, bl_lenL, bl_lenS, bl_tuple, bl_list, bl_abs, bl_intI, bl_intB, bl_max, bl_min, op_eqSf, op_eqSt, op_eqIf, op_eqIt, op_eqTf, op_eqTt, op_eqRf, op_eqRt, op_eqNf, op_eqNt, eqD_int, eqD_nil, pl_int, pl_nil, pl_non, pl_rnil, pl_bl, sl_tupE, sl_rolE, keep_ref, keep_tup, keep_rol, tp_int, tp_tup, tp_rol, tp_str, tp_bl, tp_non, tp_ref, oFd, oMd, oPw, oShl, oLt, oLe, oGt, oGe, op_in, op_cp, wipe_nil, wipe_cons, mset_same, true_and, and_true, isN_int, ex_lstF, ex_repF, ex_lgF1, ex_lgF2, ex_tupRg1, ex_tupRg2, ex_frz, ex_slF, ex_slM, sl_tupF, sl_rolF, op_iiF, op_ssF, op_ttF, op_rrF, op_rrM, op_mmF, op_repF, li_rol, li_ref, bl_listF, bl_allF, bl_anyF, asT_some, asJ_some, op_eqBf, op_eqBt, isN_non, Bool.not_true, Bool.not_false, rep2, ex_lcF, h2, hs.items, hs.keep]
    refine lc_of (fun i : Nat => D.int (i : Int)) (fun q => oD (at2 S p q)) True.intro ps (by omega) (fun r hr K q => ?_) ?_
    · have ip := hin p hpp
      have ir := hin r hr
      obtain ⟨row, g1, g2⟩ := ix_tab sq (p := (p : Int)) (q := (r : Int)) (by omega) (by omega) (by omega) (by omega)
      rw [Int.toNat_natCast, Int.toNat_natCast] at g2
      simp only [ex_c, ex_var, ex_op, ex_un, ex_b, ex_and, ex_or, ex_not, ex_andV, ex_orV, ex_notV, ex_if, ex_chain, ex_nil, ex_cons, ex_tup, ex_lst, ex_call, ex_callP, ex_cb, ex_bm, ex_rep, ex_sl, ex_noPart, ex_part, ex_yes, it_items, it_rng1, it_rng2, tg_name, tg_sub, tg_tup, tg_cons, tg_nil, gs_0, gs_s, ss_0, ss_s, op_ii, op_ss, op_tt, op_mm, op_sb, op_ng, op_iNf, op_iNt, op_lle, op_ixT, op_ixR, op_ixL, op_putE, op_appE, it_tupE, it_rolE, it_refE, lstOf_l, exL, asS_some, asI_int, asB_bl, asL_some, asN_some, ite3_t, ite3_f, bl_1, bl_lenT, bl_lenR, bl_lenL, bl_lenS, bl_tuple, bl_list, bl_abs, bl_intI, bl_intB, bl_max, bl_min, op_eqSf, op_eqSt, op_eqIf, op_eqIt, op_eqTf, op_eqTt, op_eqRf, op_eqRt, op_eqNf, op_eqNt, eqD_int, eqD_nil, pl_int, pl_nil, pl_non, pl_rnil, pl_bl, sl_tupE, sl_rolE, keep_ref, keep_tup, keep_rol, tp_int, tp_tup, tp_rol, tp_str, tp_bl, tp_non, tp_ref, oFd, oMd, oPw, oShl, oLt, oLe, oGt, oGe, op_in, op_cp, wipe_nil, wipe_cons, mset_same, true_and, and_true, isN_int, ex_lstF, ex_repF, ex_lgF1, ex_lgF2, ex_tupRg1, ex_tupRg2, ex_frz, ex_slF, ex_slM, sl_tupF, sl_rolF, op_iiF, op_ssF, op_ttF, op_rrF, op_rrM, op_mmF, op_repF, li_rol, li_ref, bl_listF, bl_allF, bl_anyF, asT_some, asJ_some, op_eqBf, op_eqBt, isN_non, Bool.not_true, Bool.not_false, rep2, h1, h4, h5, g1, g2]
      exact q
    · (try simp only [ex_c, ex_var, ex_op, ex_un, ex_b, ex_and, ex_or, ex_not, ex_andV, ex_orV, ex_notV, ex_if, ex_chain, ex_nil, ex_cons, ex_tup, ex_lst, ex_call, ex_callP, ex_cb, ex_bm, ex_rep, ex_sl, ex_noPart, ex_part, ex_yes, it_items, it_rng1, it_rng2, tg_name, tg_sub, tg_tup, tg_cons, tg_nil, gs_0, gs_s, ss_0, ss_s, op_ii, op_ss, op_tt, op_mm, op_sb, op_ng, op_iNf, op_iNt, op_lle, op_ixT, op_ixR, op_ixL, op_putE, op_appE, it_tupE, it_rolE, it_refE, lstOf_l, exL, asS_some, asI_int, asB_bl, asL_some, asN_some, ite3_t, ite3_f, bl_1, bl_lenT, bl_lenR, bl_lenL, bl_lenS, bl_tuple, bl_list, bl_abs, bl_intI, bl_intB, bl_max, bl_min, op_eqSf, op_eqSt, op_eqIf, op_eqIt, op_eqTf, op_eqTt, op_eqRf, op_eqRt, op_eqNf, op_eqNt, eqD_int, eqD_nil, pl_int, pl_nil, pl_non, pl_rnil, pl_bl, sl_tupE, sl_rolE, keep_ref, keep_tup, keep_rol, tp_int, tp_tup, tp_rol, tp_str, tp_bl, tp_non, tp_ref, oFd, oMd, oPw, oShl, oLt, oLe, oGt, oGe, op_in, op_cp, wipe_nil, wipe_cons, mset_same, true_and, and_true, isN_int, ex_lstF, ex_repF, ex_lgF1, ex_lgF2, ex_tupRg1, ex_tupRg2, ex_frz, ex_slF, ex_slM, sl_tupF, sl_rolF, op_iiF, op_ssF, op_ttF, op_rrF, op_rrM, op_mmF, op_repF, li_rol, li_ref, bl_listF, bl_allF, bl_anyF, asT_some, asJ_some, op_eqBf, op_eqBt, isN_non, Bool.not_true, Bool.not_false, rep2])
      have e : D.tup (ps.map fun q => oD (at2 S p q)) = rowD (ps.map fun q => at2 S p q) := by simp [rowD]
      rw [e]; exact q
  · (try simp only [ex_c, ex_var, ex_op, ex_un, ex_b, ex_and, ex_or, ex_not, ex_andV, ex_orV, ex_notV, ex_if, ex_chain, ex_nil, ex_cons, ex_tup, ex_lst, ex_call, ex_callP, ex_cb, ex_bm, ex_rep, ex_sl, ex_noPart, ex_part, ex_yes, it_items, it_rng1, it_rng2, tg_name, tg_sub, tg_tup, tg_cons, tg_nil, gs_0, gs_s, ss_0, ss_s, op_ii, op_ss, op_tt, op_mm, op_sb, op_ng, op_iNf, op_iNt, op_lle, op_ixT, op_ixR, op_ixL, op_putE, op_appE, it_tupE, it_rolE, it_refE, lstOf_l, exL, asS_some, asI_int, asB_bl, asL_some, asN_some, ite3_t, ite3_f, bl_1, bl_lenT, bl_lenR, bl_lenL, bl_lenS, bl_tuple, bl_list, bl_abs, bl_intI, bl_intB, bl_max, bl_min, op_eqSf, op_eqSt, op_eqIf, op_eqIt, op_eqTf, op_eqTt, op_eqRf, op_eqRt, op_eqNf, op_eqNt, eqD_int, eqD_nil, pl_int, pl_nil, pl_non, pl_rnil, pl_bl, sl_tupE, sl_rolE, keep_ref, keep_tup, keep_rol, tp_int, tp_tup, tp_rol, tp_str, tp_bl, tp_non, tp_ref, oFd, oMd, oPw, oShl, oLt, oLe, oGt, oGe, op_in, op_cp, wipe_nil, wipe_cons, mset_same, true_and, and_true, isN_int, ex_lstF, ex_repF, ex_lgF1, ex_lgF2, ex_tupRg1, ex_tupRg2, ex_frz, ex_slF, ex_slM, sl_tupF, sl_rolF, op_iiF, op_ssF, op_ttF, op_rrF, op_rrM, op_mmF, op_repF, li_rol, li_ref, bl_listF, bl_allF, bl_anyF, asT_some, asJ_some, op_eqBf, op_eqBt, isN_non, Bool.not_true, Bool.not_false, rep2])
    have e2 : D.tup (ps.map fun p => rowD (ps.map fun q => at2 S p q)) = tabD (partT S ps) := by simp [tabD, partT]
    rw [e2]; exact q
theorem s_only {sc : Sp3} (kc : SClosed sc) : SOnly (spOf 2 7 (onlyR sc)) := by
  refine ⟨fun n B T ps pd Q E hn hn1 tb hB hpd hin hl q => ⟨rfl, ?_⟩⟩
  show onlyR sc E _ [some (tabD T), some pd, none, none, none, none, none] M0
  unfold onlyR
  rw [st_seq, st_set]
  simp only [ex_c, ex_var, ex_op, ex_un, ex_b, ex_and, ex_or, ex_not, ex_andV, ex_orV, ex_notV, ex_if, ex_chain, ex_nil, ex_cons, ex_tup, ex_lst, ex_call, ex_callP, ex_cb, ex_bm, ex_rep, ex_sl, ex_noPart, ex_part, ex_yes, it_items, it_rng1, it_rng2, tg_name, tg_sub, tg_tup, tg_cons, tg_nil, gs_0, gs_s, ss_0, ss_s, op_ii, op_ss, op_tt, op_mm, op_sb, op_ng, op_iNf, op_iNt, op_lle, op_ixT, op_ixR, op_ixL, op_putE, op_appE, it_tupE, it_rolE, it_refE, lstOf_l, exL, asS_some, asI_int, asB_bl, asL_some, asN_some, ite3_t, ite3_f, bl_1, bl_lenT, bl_lenR, bl_lenL, bl_lenS, bl_tuple, bl_list, bl_abs, bl_intI, bl_intB, bl_max, bl_min, op_eqSf, op_eqSt, op_eqIf, op_eqIt, op_eqTf, op_eqTt, op_eqRf, op_eqRt, op_eqNf, op_eqNt, eqD_int, eqD_nil, pl_int, pl_nil, pl_non, pl_rnil, pl_bl, sl_tupE, sl_rolE, keep_ref, keep_tup, keep_rol, tp_int, tp_tup, tp_rol, tp_str, tp_bl, tp_non, tp_ref, oFd, oMd, oPw, oShl, oLt, oLe, oGt, oGe, op_in, op_cp, wipe_nil, wipe_cons, mset_same, true_and, and_true, isN_int, ex_lstF, ex_repF, ex_lgF1, ex_lgF2, ex_tupRg1, ex_tupRg2, ex_frz, ex_slF, ex_slM, sl_tupF, sl_rolF, op_iiF, op_ssF, op_ttF, op_rrF, op_rrM, op_mmF, op_repF, li_rol, li_ref, bl_listF, bl_allF, bl_anyF, asT_some, asJ_some, op_eqBf, op_eqBt, isN_non, Bool.not_true, Bool.not_false, rep2]
  refine kc n B T _ _ hn1 tb hB fun d M hd => ?_
  rcases hd with ⟨b, rfl⟩ | ⟨S, tbS, cl, rfl⟩
  · try dsimp only
    rw [st_seq, st_if]
    simp only [ex_c, ex_var, ex_op, ex_un, ex_b, ex_and, ex_or, ex_not, ex_andV, ex_orV, ex_notV, ex_if, ex_chain, ex_nil, ex_cons, ex_tup, ex_lst, ex_call, ex_callP, ex_cb, ex_bm, ex_rep, ex_sl, ex_noPart, ex_part, ex_yes, it_items, it_rng1, it_rng2, tg_name, tg_sub, tg_tup, tg_cons, tg_nil, gs_0, gs_s, ss_0, ss_s, op_ii, op_ss, op_tt, op_mm, op_sb, op_ng, op_iNf, op_iNt, op_lle, op_ixT, op_ixR, op_ixL, op_putE, op_appE, it_tupE, it_rolE, it_refE, lstOf_l, exL, asS_some, asI_int, asB_bl, asL_some, asN_some, ite3_t, ite3_f, bl_1, bl_lenT, bl_lenR, bl_lenL, bl_lenS, bl_tuple, bl_list, bl_abs, bl_intI, bl_intB, bl_max, bl_min, op_eqSf, op_eqSt, op_eqIf, op_eqIt, op_eqTf, op_eqTt, op_eqRf, op_eqRt, op_eqNf, op_eqNt, eqD_int, eqD_nil, pl_int, pl_nil, pl_non, pl_rnil, pl_bl, sl_tupE, sl_rolE, keep_ref, keep_tup, keep_rol, tp_int, tp_tup, tp_rol, tp_str, tp_bl, tp_non, tp_ref, oFd, oMd, oPw, oShl, oLt, oLe, oGt, oGe, op_in, op_cp, wipe_nil, wipe_cons, mset_same, true_and, and_true, isN_int, ex_lstF, ex_repF, ex_lgF1, ex_lgF2, ex_tupRg1, ex_tupRg2, ex_frz, ex_slF, ex_slM, sl_tupF, sl_rolF, op_iiF, op_ssF, op_ttF, op_rrF, op_rrM, op_mmF, op_repF, li_rol, li_ref, bl_listF, bl_allF, bl_anyF, asT_some, asJ_some, op_eqBf, op_eqBt, isN_non, Bool.not_true, Bool.not_false, rep2, eq_nil]
    simp only [st_ret]
    simp only [st_seq, st_next, st_break, st_cont, st_set, st_ret, st_retN, st_drop, st_if, st_asg, st_par, st_for, ex_c, ex_var, ex_op, ex_un, ex_b, ex_and, ex_or, ex_not, ex_andV, ex_orV, ex_notV, ex_if, ex_chain, ex_nil, ex_cons, ex_tup, ex_lst, ex_call, ex_callP, ex_cb, ex_bm, ex_rep, ex_lc, ex_sl, ex_noPart, ex_part, ex_yes, it_items, it_rng1, it_rng2, tg_name, tg_sub, tg_tup, tg_cons, tg_nil, gs_0, gs_s, ss_0, ss_s, op_ii, op_ss, op_tt, op_mm, op_sb, op_ng, op_iNf, op_iNt, op_lle, op_ixT, op_ixR, op_ixL, op_putE, op_appE, it_tupE, it_rolE, it_refE, lstOf_l, exL, asS_some, asI_int, asB_bl, asL_some, asN_some, ite3_t, ite3_f, bl_1, bl_lenT, bl_lenR, bl_lenL, bl_lenS, bl_tuple, bl_list, bl_abs, bl_intI, bl_intB, bl_max, bl_min, bl_repr, op_eqSf, op_eqSt, op_eqIf, op_eqIt, op_eqTf, op_eqTt, op_eqRf, op_eqRt, op_eqNf, op_eqNt, eqD_int, eqD_nil, pl_int, pl_nil, pl_non, pl_rnil, pl_bl, sl_tupE, sl_rolE, keep_ref, keep_tup, keep_rol, tp_int, tp_tup, tp_rol, tp_str, tp_bl, tp_non, tp_ref, oFd, oMd, oPw, oShl, oLt, oLe, oGt, oGe, op_in, op_cp, wipe_nil, wipe_cons, mset_same, true_and, and_true, isN_int, sz_0, sz_1, sz_2, sz_3, sz_4, sz_5, sz_6, sz_7, sz_8, sz_9, sz_10, sz_11, sz_12, ex_lstF, ex_repF, ex_lgF1, ex_lgF2, ex_tupRg1, ex_tupRg2, ex_lcF, ex_frz, ex_slF, ex_slM, sl_tupF, sl_rolF, op_iiF, op_ssF, op_ttF, op_rrF, op_rrM, op_mmF, op_repF, li_rol, li_ref, bl_listF, bl_allF, bl_anyF, asT_some, asJ_some, op_eqLf, op_eqLt, op_eqBf, op_eqBt, isN_non, Bool.not_true, Bool.not_false]
    exact q _ _ (.inl ⟨b, rfl⟩)
  · try dsimp only
    rw [st_seq, st_if]
    simp only [ex_c, ex_var, ex_op, ex_un, ex_b, ex_and, ex_or, ex_not, ex_andV, ex_orV, ex_notV, ex_if, ex_chain, ex_nil, ex_cons, ex_tup, ex_lst, ex_call, ex_callP, ex_cb, ex_bm, ex_rep, ex_sl, ex_noPart, ex_part, ex_yes, it_items, it_rng1, it_rng2, tg_name, tg_sub, tg_tup, tg_cons, tg_nil, gs_0, gs_s, ss_0, ss_s, op_ii, op_ss, op_tt, op_mm, op_sb, op_ng, op_iNf, op_iNt, op_lle, op_ixT, op_ixR, op_ixL, op_putE, op_appE, it_tupE, it_rolE, it_refE, lstOf_l, exL, asS_some, asI_int, asB_bl, asL_some, asN_some, ite3_t, ite3_f, bl_1, bl_lenT, bl_lenR, bl_lenL, bl_lenS, bl_tuple, bl_list, bl_abs, bl_intI, bl_intB, bl_max, bl_min, op_eqSf, op_eqSt, op_eqIf, op_eqIt, op_eqTf, op_eqTt, op_eqRf, op_eqRt, op_eqNf, op_eqNt, eqD_int, eqD_nil, pl_int, pl_nil, pl_non, pl_rnil, pl_bl, sl_tupE, sl_rolE, keep_ref, keep_tup, keep_rol, tp_int, tp_tup, tp_rol, tp_str, tp_bl, tp_non, tp_ref, oFd, oMd, oPw, oShl, oLt, oLe, oGt, oGe, op_in, op_cp, wipe_nil, wipe_cons, mset_same, true_and, and_true, isN_int, ex_lstF, ex_repF, ex_lgF1, ex_lgF2, ex_tupRg1, ex_tupRg2, ex_frz, ex_slF, ex_slM, sl_tupF, sl_rolF, op_iiF, op_ssF, op_ttF, op_rrF, op_rrM, op_mmF, op_repF, li_rol, li_ref, bl_listF, bl_allF, bl_anyF, asT_some, asJ_some, op_eqBf, op_eqBt, isN_non, Bool.not_true, Bool.not_false, rep2, eq_tab tbS.sq hn]
    rw [st_next]
    try dsimp only
    rw [st_seq, st_set]
    simp only [ex_c, ex_var, ex_op, ex_un, ex_b, ex_and, ex_or, ex_not, ex_andV, ex_orV, ex_notV, ex_if, ex_chain, ex_nil, ex_cons, ex_tup, ex_lst, ex_call, ex_callP, ex_cb, ex_bm, ex_rep, ex_sl, ex_noPart, ex_part, ex_yes, it_items, it_rng1, it_rng2, tg_name, tg_sub, tg_tup, tg_cons, tg_nil, gs_0, gs_s, ss_0, ss_s, op_ii, op_ss, op_tt, op_mm, op_sb, op_ng, op_iNf, op_iNt, op_lle, op_ixT, op_ixR, op_ixL, op_putE, op_appE, it_tupE, it_rolE, it_refE, lstOf_l, exL, asS_some, asI_int, asB_bl, asL_some, asN_some, ite3_t, ite3_f, bl_1, bl_lenT, bl_lenR, bl_lenL, bl_lenS, bl_tuple, bl_list, bl_abs, bl_intI, bl_intB, bl_max, bl_min, op_eqSf, op_eqSt, op_eqIf, op_eqIt, op_eqTf, op_eqTt, op_eqRf, op_eqRt, op_eqNf, op_eqNt, eqD_int, eqD_nil, pl_int, pl_nil, pl_non, pl_rnil, pl_bl, sl_tupE, sl_rolE, keep_ref, keep_tup, keep_rol, tp_int, tp_tup, tp_rol, tp_str, tp_bl, tp_non, tp_ref, oFd, oMd, oPw, oShl, oLt, oLe, oGt, oGe, op_in, op_cp, wipe_nil, wipe_cons, mset_same, true_and, and_true, isN_int, ex_lstF, ex_repF, ex_lgF1, ex_lgF2, ex_tupRg1, ex_tupRg2, ex_frz, ex_slF, ex_slM, sl_tupF, sl_rolF, op_iiF, op_ssF, op_ttF, op_rrF, op_rrM, op_mmF, op_repF, li_rol, li_ref, bl_listF, bl_allF, bl_anyF, asT_some, asJ_some, op_eqBf, op_eqBt, isN_non, Bool.not_true, Bool.not_false, rep2, len_tab tbS.sq]
    try dsimp only
    rw [st_seq, st_set]
    simp only [ex_c, ex_var, ex_op, ex_un, ex_b, ex_and, ex_or, ex_not, ex_andV, ex_orV, ex_notV, ex_if, ex_chain, ex_nil, ex_cons, ex_tup, ex_lst, ex_call, ex_callP, ex_cb, ex_bm, ex_rep, ex_sl, ex_noPart, ex_part, ex_yes, it_items, it_rng1, it_rng2, tg_name, tg_sub, tg_tup, tg_cons, tg_nil, gs_0, gs_s, ss_0, ss_s, op_ii, op_ss, op_tt, op_mm, op_sb, op_ng, op_iNf, op_iNt, op_lle, op_ixT, op_ixR, op_ixL, op_putE, op_appE, it_tupE, it_rolE, it_refE, lstOf_l, exL, asS_some, asI_int, asB_bl, asL_some, asN_some, ite3_t, ite3_f, bl_1, bl_lenT, bl_lenR, bl_lenL, bl_lenS, bl_tuple, bl_list, bl_abs, bl_intI, bl_intB, bl_max, bl_min, op_eqSf, op_eqSt, op_eqIf, op_eqIt, op_eqTf, op_eqTt, op_eqRf, op_eqRt, op_eqNf, op_eqNt, eqD_int, eqD_nil, pl_int, pl_nil, pl_non, pl_rnil, pl_bl, sl_tupE, sl_rolE, keep_ref, keep_tup, keep_rol, tp_int, tp_tup, tp_rol, tp_str, tp_bl, tp_non, tp_ref, oFd, oMd, oPw, oShl, oLt, oLe, oGt, oGe, op_in, op_cp, wipe_nil, wipe_cons, mset_same, true_and, and_true, isN_int, ex_lstF, ex_repF, ex_lgF1, ex_lgF2, ex_tupRg1, ex_tupRg2, ex_frz, ex_slF, ex_slM, sl_tupF, sl_rolF, op_iiF, op_ssF, op_ttF, op_rrF, op_rrM, op_mmF, op_repF, li_rol, li_ref, bl_listF, bl_allF, bl_anyF, asT_some, asJ_some, op_eqBf, op_eqBt, isN_non, Bool.not_true, Bool.not_false, rep2, ex_lcF, hpd.items, hpd.keep]
    have big : (1001 : Nat) ≤ sizeLine := by decide
    refine ⟨Nat.zero_le _, ?_⟩
    rw [plD_map]
    refine lc_if (fun i : Nat => D.int (i : Int)) (fun p => decide (p ≠ n - 1)) (fun i : Nat => D.int (i : Int)) (by trivial) ps (by omega) (fun p hpp K K2 k1 k2 => ?_) ?_
    · simp only [ex_c, ex_var, ex_op, ex_un, ex_b, ex_and, ex_or, ex_not, ex_andV, ex_orV, ex_notV, ex_if, ex_chain, ex_nil, ex_cons, ex_tup, ex_lst, ex_call, ex_callP, ex_cb, ex_bm, ex_rep, ex_sl, ex_noPart, ex_part, ex_yes, it_items, it_rng1, it_rng2, tg_name, tg_sub, tg_tup, tg_cons, tg_nil, gs_0, gs_s, ss_0, ss_s, op_ii, op_ss, op_tt, op_mm, op_sb, op_ng, op_iNf, op_iNt, op_lle, op_ixT, op_ixR, op_ixL, op_putE, op_appE, it_tupE, it_rolE, it_refE, lstOf_l, exL, asS_some, asI_int, asB_bl, asL_some, asN_some, ite3_t, ite3_f, bl_1, bl_lenT, bl_lenR, bl_lenL, bl_lenS, bl_tuple, bl_list, bl_abs, bl_intI, bl_intB, bl_max, bl_min, op_eqSf, op_eqSt, op_eqIf, op_eqIt, op_eqTf, op_eqTt, op_eqRf, op_eqRt, op_eqNf, op_eqNt, eqD_int, eqD_nil, pl_int, pl_nil, pl_non, pl_rnil, pl_bl, sl_tupE, sl_rolE, keep_ref, keep_tup, keep_rol, tp_int, tp_tup, tp_rol, tp_str, tp_bl, tp_non, tp_ref, oFd, oMd, oPw, oShl, oLt, oLe, oGt, oGe, op_in, op_cp, wipe_nil, wipe_cons, mset_same, true_and, and_true, isN_int, ex_lstF, ex_repF, ex_lgF1, ex_lgF2, ex_tupRg1, ex_tupRg2, ex_frz, ex_slF, ex_slM, sl_tupF, sl_rolF, op_iiF, op_ssF, op_ttF, op_rrF, op_rrM, op_mmF, op_repF, li_rol, li_ref, bl_listF, bl_allF, bl_anyF, asT_some, asJ_some, op_eqBf, op_eqBt, isN_non, Bool.not_true, Bool.not_false, rep2]
      have e : (decide ((p : Int) = (n : Int) - 1)) = decide (p = n - 1) := by
        by_cases h : p = n - 1
        · rw [decide_eq_true h, decide_eq_true (by omega)]
        · rw [decide_eq_false h, decide_eq_false (by omega)]
      rw [e]
      by_cases h : p = n - 1
      · rw [decide_eq_true h]; exact k2 (by simp [h])
      · rw [decide_eq_false h]; exact k1 (by simp [h])
    · have hfl : (ps.filter (fun p => decide (p ≠ n - 1))).length ≤ ps.length := List.length_filter_le _ _
      (try simp only [ex_c, ex_var, ex_op, ex_un, ex_b, ex_and, ex_or, ex_not, ex_andV, ex_orV, ex_notV, ex_if, ex_chain, ex_nil, ex_cons, ex_tup, ex_lst, ex_call, ex_callP, ex_cb, ex_bm, ex_rep, ex_sl, ex_noPart, ex_part, ex_yes, it_items, it_rng1, it_rng2, tg_name, tg_sub, tg_tup, tg_cons, tg_nil, gs_0, gs_s, ss_0, ss_s, op_ii, op_ss, op_tt, op_mm, op_sb, op_ng, op_iNf, op_iNt, op_lle, op_ixT, op_ixR, op_ixL, op_putE, op_appE, it_tupE, it_rolE, it_refE, lstOf_l, exL, asS_some, asI_int, asB_bl, asL_some, asN_some, ite3_t, ite3_f, bl_1, bl_lenT, bl_lenR, bl_lenL, bl_lenS, bl_tuple, bl_list, bl_abs, bl_intI, bl_intB, bl_max, bl_min, op_eqSf, op_eqSt, op_eqIf, op_eqIt, op_eqTf, op_eqTt, op_eqRf, op_eqRt, op_eqNf, op_eqNt, eqD_int, eqD_nil, pl_int, pl_nil, pl_non, pl_rnil, pl_bl, sl_tupE, sl_rolE, keep_ref, keep_tup, keep_rol, tp_int, tp_tup, tp_rol, tp_str, tp_bl, tp_non, tp_ref, oFd, oMd, oPw, oShl, oLt, oLe, oGt, oGe, op_in, op_cp, wipe_nil, wipe_cons, mset_same, true_and, and_true, isN_int, ex_lstF, ex_repF, ex_lgF1, ex_lgF2, ex_tupRg1, ex_tupRg2, ex_frz, ex_slF, ex_slM, sl_tupF, sl_rolF, op_iiF, op_ssF, op_ttF, op_rrF, op_rrM, op_mmF, op_repF, li_rol, li_ref, bl_listF, bl_allF, bl_anyF, asT_some, asJ_some, op_eqBf, op_eqBt, isN_non, Bool.not_true, Bool.not_false, rep2])
      refine ⟨by show 1 ≤ sizeLine; omega, by rw [List.length_map]; show _ + 1 ≤ sizeLine; omega, ?_⟩
      have e : List.map (fun i : Nat => D.int (i : Int)) (ps.filter (fun p => decide (p ≠ n - 1))) ++ [D.int ((n : Int) - 1)] = plD (keptOf n ps) := by
        unfold keptOf plD
        rw [List.map_append]
        have : ((n : Int) - 1) = ((n - 1 : Nat) : Int) := by omega
        rw [this]; rfl
      rw [e]
      try dsimp only
      rw [st_ret]
      refine lc_part tbS.sq (.inr rfl) (fun a b => rfl) (fun a => rfl) rfl (fun a b => rfl) (fun a b => rfl) (fun p hp => ?_) (by unfold keptOf; rw [List.length_append]; show _ + 1 ≤ 1001; omega) (q _ _ (.inr ⟨S, tbS, cl, rfl⟩))
      unfold keptOf at hp
      rcases List.mem_append.mp hp with h | h
      · exact hin p (List.mem_filter.mp h).1
      · rw [List.mem_singleton] at h; omega
end L3
set_option Elab.async false
set_option linter.all false
set_option maxRecDepth 100000
set_option maxHeartbeats 4000000
namespace L3
open PySem PySem.Spec PyProof.Rows L2
theorem fd2 (w : Nat) : Int.fdiv (((2 * w + 1 : Nat) : Int)) 2 = (w : Int) := by
  rw [Int.fdiv_eq_ediv_of_nonneg _ (by decide)]; omega
theorem toN2 (w : Nat) : (2 * (w : Int)).toNat = 2 * w := by omega
theorem rgD_N {n : Nat} : rgD 0 n = plD (rgN 0 n) := rgD_pl (by decide)
theorem rgD_Nw {w n : Nat} : rgD (w : Int) n = plD (rgN w n) := by rw [rgD_pl (by omega), Int.toNat_natCast]
theorem one_2 {w : Nat} : [D.int (2 * (w : Int))] = plD [2 * w] := by rw [plD_one (by omega), toN2]
theorem two_parts {P : D → Part → Prop} {d1 d2 : D} {x1 x2 : Part} (h1 : P d1 x1) (h2 : P d2 x2) : ∀ (i : Nat) (d : D) (x : Part), [d1, d2][i]? = some d → [x1, x2][i]? = some x → P d x
  | 0, _, _, e1, e2 => by cases e1; cases e2; exact h1
  | 1, _, _, e1, e2 => by cases e1; cases e2; exact h2
  | _ + 2, _, _, e1, _ => by cases e1
theorem part_ok {B n many : Nat} {T : Tab} {ps : List Nat} (t : TabB B n T) (h : ps.length = n) (hi : ∀ p ∈ ps, p < many) : PartOk B many (T, ps) :=
  ⟨by rw [show (T, ps).1 = T from rfl, t.rows]; exact t, by show T.length ≤ ps.length; rw [t.rows, h]; exact Nat.le_refl _, hi⟩
theorem mul2 {i : Int} : IntMulOk 2 i := mulL (by decide) (by decide)
theorem two_ok {P : Part → Prop} {x y : Part} (h1 : P x) (h2 : P y) : ∀ z ∈ [x, y], P z := fun z hz => by
  simp only [List.mem_cons, List.not_mem_nil, or_false] at hz
  rcases hz with rfl | rfl <;> assumption
def placesOfR : XK3 → TS3 := fun E =>
  (wRet (wOp oAddF (wLstRgF2 (wVar 1) (wOp oAddF (wVar 1) (wVar 0))) (wLstF (wCons (wOp oMulF (wC (.int 2)) (wVar 0)) wNil))))
def placesN (w f : Nat) : List Nat := rgN f w ++ [2 * w]
def SPlaces (sp : Sp3) : Prop := ∀ (w f : Nat) (Q : VK3) (E : XK3), w ≤ 1000 → f ≤ 1000 → (∀ M, Q (.rol (plD (placesN w f))) M) → sp [.int w, .int f] M0 Q E
theorem s_places : SPlaces (spOf 2 2 placesOfR) := by
  refine fun w f Q E hw hf q => ⟨rfl, ?_⟩
  show placesOfR E _ [some (.int w), some (.int f)] M0
  unfold placesOfR
  have big : (1001 : Nat) ≤ sizeLine := by decide
  have e : ((f : Int) + (w : Int) - (f : Int)).toNat = w := by omega
  rw [st_ret]
  simp only [ex_c, ex_var, ex_op, ex_un, ex_b, ex_and, ex_or, ex_not, ex_andV, ex_orV, ex_notV, ex_if, ex_chain, ex_nil, ex_cons, ex_tup, ex_lst, ex_call, ex_callP, ex_cb, ex_bm, ex_rep, ex_sl, ex_noPart, ex_part, ex_yes, it_items, it_rng1, it_rng2, tg_name, tg_sub, tg_tup, tg_cons, tg_nil, gs_0, gs_s, ss_0, ss_s, op_ii, op_ss, op_tt, op_mm, op_sb, op_ng, op_iNf, op_iNt, op_lle, op_ixT, op_ixR, op_ixL, op_putE, op_appE, it_tupE, it_rolE, it_refE, lstOf_l, exL, asS_some, asI_int, asB_bl, asL_some, asN_some, ite3_t, ite3_f, bl_1, bl_lenT, bl_lenR, bl_lenL, bl_lenS, bl_tuple, bl_list, bl_abs, bl_intI, bl_intB, bl_max, bl_min, op_eqSf, op_eqSt, op_eqIf, op_eqIt, op_eqTf, op_eqTt, op_eqRf, op_eqRt, op_eqNf, op_eqNt, eqD_int, eqD_nil, pl_int, pl_nil, pl_non, pl_rnil, pl_bl, sl_tupE, sl_rolE, keep_ref, keep_tup, keep_rol, tp_int, tp_tup, tp_rol, tp_str, tp_bl, tp_non, tp_ref, oFd, oMd, oPw, oShl, oLt, oLe, oGt, oGe, op_in, op_cp, wipe_nil, wipe_cons, mset_same, true_and, and_true, isN_int, ex_lstF, ex_repF, ex_lgF1, ex_lgF2, ex_tupRg1, ex_tupRg2, ex_frz, ex_slF, ex_slM, sl_tupF, sl_rolF, op_iiF, op_ssF, op_ttF, op_rrF, op_rrM, op_mmF, op_repF, li_rol, li_ref, bl_listF, bl_allF, bl_anyF, asT_some, asJ_some, op_eqBf, op_eqBt, isN_non, Bool.not_true, Bool.not_false, rep2, e, rgD_Nw, one_2, plD_app]
  exact ⟨⟨by omega, by omega, by omega, by omega, by omega⟩, mul2, by show 1 ≤ sizeLine; omega, by rw [plD_len, plD_len, rgN_len]; show _ + 1 ≤ sizeLine; omega, q _⟩
theorem places_len (w f : Nat) : (placesN w f).length = w + 1 := by simp [placesN, rgN_len]
theorem places_lt (w f : Nat) (h : f + w ≤ 2 * w) : ∀ p ∈ placesN w f, p < 2 * w + 1 := fun p hp => by
  rcases List.mem_append.mp hp with h | h
  · have := rgN_mem.mp h; omega
  · rw [List.mem_singleton] at h; omega
def allN (w : Nat) : List Nat := rgN 0 (2 * w + 1)
theorem all_len (w : Nat) : (allN w).length = 2 * w + 1 := rgN_len
theorem all_lt (w : Nat) : ∀ p ∈ allN w, p < 2 * w + 1 := fun p hp => by have := rgN_mem.mp hp; omega
def newsR (sp_put_together : Sp3) (sp_places_of : Sp3) (sp_only : Sp3) : XK3 → TS3 := fun E =>
  (wSeq (wIfS (wOr (wB (wOp (oEq false) (wVar 0) (wTup wNil))) (wB (wOp (oEq false) (wVar 1) (wTup wNil)))) (wRet (wTup wNil)) wNext)
  (wSeq (wSet 2 (wOp oFd (wCB bLen (wCons (wVar 1) wNil)) (wC (.int 2))))
  (wSeq (wSet 3 (wCallP sp_put_together E (wCons (wCB bLen (wCons (wVar 1) wNil)) (wCons (wLstF (wCons (wTup (wCons (wVar 1) (wCons (wLstRgF1 (wCB bLen (wCons (wVar 1) wNil))) wNil))) (wCons (wTup (wCons (wVar 0) (wCons (wCallP sp_places_of E (wCons (wVar 2) (wCons (wC (.int 0)) wNil))) wNil))) wNil))) wNil))))
  (wRet (wCallP sp_only E (wCons (wVar 3) (wCons (wTupRg2 (wVar 2) (wOp oMulF (wC (.int 2)) (wVar 2))) wNil)))))))
def keptNews (w : Nat) : List Nat := rgN w w ++ [2 * w]
theorem kept_news (w : Nat) : keptOf (2 * w + 1) (rgN w w) = keptNews w := by
  unfold keptOf keptNews
  rw [List.filter_eq_self.mpr fun p hp => ?_]
  · rfl
  · have := rgN_mem.mp hp; simp; omega
/-- () or a table -/
def NilOr (d : D) : Prop := d = .tup [] ∨ ∃ n T, d = tabD T ∧ Sq n T ∧ 0 < n
structure SNews (sp : Sp3) : Prop where
  t : ∀ (w B : Nat) (F T : Tab) (Q : VK3) (E : XK3), w ≤ 100 → TabB B (w + 1) F → TabB B (2 * w + 1) T → 0 < B →
    (∀ X d M, PutIs B (2 * w + 1) [(T, allN w), (F, placesN w 0)] X → OnlyOf (2 * w + 1) B X (keptNews w) d → Q d M) → sp [tabD F, tabD T] M0 Q E
  n1 : ∀ (e : D) (Q : VK3) (E : XK3), NilOr e → (∀ M, Q (.tup []) M) → sp [.tup [], e] M0 Q E
  n2 : ∀ (d : D) (Q : VK3) (E : XK3), NilOr d → (∀ M, Q (.tup []) M) → sp [d, .tup []] M0 Q E
theorem s_news {sp sl so : Sp3} (kp : SPut sp) (kl : SPlaces sl) (ko : SOnly so) : SNews (spOf 2 4 (newsR sp sl so)) := by
  have s0 : (0 : Nat) ≤ sizeLine := Nat.zero_le _
  have big : (1001 : Nat) ≤ sizeLine := by decide
  refine ⟨fun w B F T Q E hw tF tT hB q => ⟨rfl, ?_⟩, fun e Q E h q => ⟨rfl, ?_⟩, fun d Q E h q => ⟨rfl, ?_⟩⟩
  · show newsR sp sl so E _ [some (tabD F), some (tabD T), none, none] M0
    unfold newsR
    rw [st_seq, st_if]
    simp only [ex_c, ex_var, ex_op, ex_un, ex_b, ex_and, ex_or, ex_not, ex_andV, ex_orV, ex_notV, ex_if, ex_chain, ex_nil, ex_cons, ex_tup, ex_lst, ex_call, ex_callP, ex_cb, ex_bm, ex_rep, ex_sl, ex_noPart, ex_part, ex_yes, it_items, it_rng1, it_rng2, tg_name, tg_sub, tg_tup, tg_cons, tg_nil, gs_0, gs_s, ss_0, ss_s, op_ii, op_ss, op_tt, op_mm, op_sb, op_ng, op_iNf, op_iNt, op_lle, op_ixT, op_ixR, op_ixL, op_putE, op_appE, it_tupE, it_rolE, it_refE, lstOf_l, exL, asS_some, asI_int, asB_bl, asL_some, asN_some, ite3_t, ite3_f, bl_1, bl_lenT, bl_lenR, bl_lenL, bl_lenS, bl_tuple, bl_list, bl_abs, bl_intI, bl_intB, bl_max, bl_min, op_eqSf, op_eqSt, op_eqIf, op_eqIt, op_eqTf, op_eqTt, op_eqRf, op_eqRt, op_eqNf, op_eqNt, eqD_int, eqD_nil, pl_int, pl_nil, pl_non, pl_rnil, pl_bl, sl_tupE, sl_rolE, keep_ref, keep_tup, keep_rol, tp_int, tp_tup, tp_rol, tp_str, tp_bl, tp_non, tp_ref, oFd, oMd, oPw, oShl, oLt, oLe, oGt, oGe, op_in, op_cp, wipe_nil, wipe_cons, mset_same, true_and, and_true, isN_int, ex_lstF, ex_repF, ex_lgF1, ex_lgF2, ex_tupRg1, ex_tupRg2, ex_frz, ex_slF, ex_slM, sl_tupF, sl_rolF, op_iiF, op_ssF, op_ttF, op_rrF, op_rrM, op_mmF, op_repF, li_rol, li_ref, bl_listF, bl_allF, bl_anyF, asT_some, asJ_some, op_eqBf, op_eqBt, isN_non, Bool.not_true, Bool.not_false, rep2, eq_tab tF.sq (Nat.succ_pos _), eq_tab tT.sq (Nat.succ_pos _)]
    refine ⟨s0, s0, ?_⟩
    rw [st_next]
    try dsimp only
    rw [st_seq, st_set]
    simp only [ex_c, ex_var, ex_op, ex_un, ex_b, ex_and, ex_or, ex_not, ex_andV, ex_orV, ex_notV, ex_if, ex_chain, ex_nil, ex_cons, ex_tup, ex_lst, ex_call, ex_callP, ex_cb, ex_bm, ex_rep, ex_sl, ex_noPart, ex_part, ex_yes, it_items, it_rng1, it_rng2, tg_name, tg_sub, tg_tup, tg_cons, tg_nil, gs_0, gs_s, ss_0, ss_s, op_ii, op_ss, op_tt, op_mm, op_sb, op_ng, op_iNf, op_iNt, op_lle, op_ixT, op_ixR, op_ixL, op_putE, op_appE, it_tupE, it_rolE, it_refE, lstOf_l, exL, asS_some, asI_int, asB_bl, asL_some, asN_some, ite3_t, ite3_f, bl_1, bl_lenT, bl_lenR, bl_lenL, bl_lenS, bl_tuple, bl_list, bl_abs, bl_intI, bl_intB, bl_max, bl_min, op_eqSf, op_eqSt, op_eqIf, op_eqIt, op_eqTf, op_eqTt, op_eqRf, op_eqRt, op_eqNf, op_eqNt, eqD_int, eqD_nil, pl_int, pl_nil, pl_non, pl_rnil, pl_bl, sl_tupE, sl_rolE, keep_ref, keep_tup, keep_rol, tp_int, tp_tup, tp_rol, tp_str, tp_bl, tp_non, tp_ref, oFd, oMd, oPw, oShl, oLt, oLe, oGt, oGe, op_in, op_cp, wipe_nil, wipe_cons, mset_same, true_and, and_true, isN_int, ex_lstF, ex_repF, ex_lgF1, ex_lgF2, ex_tupRg1, ex_tupRg2, ex_frz, ex_slF, ex_slM, sl_tupF, sl_rolF, op_iiF, op_ssF, op_ttF, op_rrF, op_rrM, op_mmF, op_repF, li_rol, li_ref, bl_listF, bl_allF, bl_anyF, asT_some, asJ_some, op_eqBf, op_eqBt, isN_non, Bool.not_true, Bool.not_false, rep2, len_tab tT.sq, fd2]
    refine ⟨⟨by decide, by decide⟩, ?_⟩
    try dsimp only
    rw [st_seq, st_set]
    simp only [ex_c, ex_var, ex_op, ex_un, ex_b, ex_and, ex_or, ex_not, ex_andV, ex_orV, ex_notV, ex_if, ex_chain, ex_nil, ex_cons, ex_tup, ex_lst, ex_call, ex_callP, ex_cb, ex_bm, ex_rep, ex_sl, ex_noPart, ex_part, ex_yes, it_items, it_rng1, it_rng2, tg_name, tg_sub, tg_tup, tg_cons, tg_nil, gs_0, gs_s, ss_0, ss_s, op_ii, op_ss, op_tt, op_mm, op_sb, op_ng, op_iNf, op_iNt, op_lle, op_ixT, op_ixR, op_ixL, op_putE, op_appE, it_tupE, it_rolE, it_refE, lstOf_l, exL, asS_some, asI_int, asB_bl, asL_some, asN_some, ite3_t, ite3_f, bl_1, bl_lenT, bl_lenR, bl_lenL, bl_lenS, bl_tuple, bl_list, bl_abs, bl_intI, bl_intB, bl_max, bl_min, op_eqSf, op_eqSt, op_eqIf, op_eqIt, op_eqTf, op_eqTt, op_eqRf, op_eqRt, op_eqNf, op_eqNt, eqD_int, eqD_nil, pl_int, pl_nil, pl_non, pl_rnil, pl_bl, sl_tupE, sl_rolE, keep_ref, keep_tup, keep_rol, tp_int, tp_tup, tp_rol, tp_str, tp_bl, tp_non, tp_ref, oFd, oMd, oPw, oShl, oLt, oLe, oGt, oGe, op_in, op_cp, wipe_nil, wipe_cons, mset_same, true_and, and_true, isN_int, ex_lstF, ex_repF, ex_lgF1, ex_lgF2, ex_tupRg1, ex_tupRg2, ex_frz, ex_slF, ex_slM, sl_tupF, sl_rolF, op_iiF, op_ssF, op_ttF, op_rrF, op_rrM, op_mmF, op_repF, li_rol, li_ref, bl_listF, bl_allF, bl_anyF, asT_some, asJ_some, op_eqBf, op_eqBt, isN_non, Bool.not_true, Bool.not_false, rep2, len_tab tT.sq, Int.toNat_natCast, rgD_N]
    refine ⟨⟨by omega, by omega⟩, by show 2 ≤ sizeLine; omega, kl w 0 _ _ (by omega) (by omega) fun M => ⟨by show 2 ≤ sizeLine; omega, by show 2 ≤ sizeLine; omega, ?_⟩⟩
    refine kp _ B [(T, allN w), (F, placesN w 0)] _ _ _ (by omega) (by omega) rfl (two_parts ⟨_, rfl, .inr rfl⟩ ⟨_, rfl, .inr rfl⟩) ?_ fun X M hX => ?_
    · rw [Int.toNat_natCast]
      exact two_ok (part_ok tT (all_len w) (all_lt w)) (part_ok tF (places_len w 0) (places_lt w 0 (by omega)))
    rw [Int.toNat_natCast] at hX
    try dsimp only
    rw [st_ret]
    have e2 : (2 * (w : Int) - (w : Int)).toNat = w := by omega
    simp only [ex_c, ex_var, ex_op, ex_un, ex_b, ex_and, ex_or, ex_not, ex_andV, ex_orV, ex_notV, ex_if, ex_chain, ex_nil, ex_cons, ex_tup, ex_lst, ex_call, ex_callP, ex_cb, ex_bm, ex_rep, ex_sl, ex_noPart, ex_part, ex_yes, it_items, it_rng1, it_rng2, tg_name, tg_sub, tg_tup, tg_cons, tg_nil, gs_0, gs_s, ss_0, ss_s, op_ii, op_ss, op_tt, op_mm, op_sb, op_ng, op_iNf, op_iNt, op_lle, op_ixT, op_ixR, op_ixL, op_putE, op_appE, it_tupE, it_rolE, it_refE, lstOf_l, exL, asS_some, asI_int, asB_bl, asL_some, asN_some, ite3_t, ite3_f, bl_1, bl_lenT, bl_lenR, bl_lenL, bl_lenS, bl_tuple, bl_list, bl_abs, bl_intI, bl_intB, bl_max, bl_min, op_eqSf, op_eqSt, op_eqIf, op_eqIt, op_eqTf, op_eqTt, op_eqRf, op_eqRt, op_eqNf, op_eqNt, eqD_int, eqD_nil, pl_int, pl_nil, pl_non, pl_rnil, pl_bl, sl_tupE, sl_rolE, keep_ref, keep_tup, keep_rol, tp_int, tp_tup, tp_rol, tp_str, tp_bl, tp_non, tp_ref, oFd, oMd, oPw, oShl, oLt, oLe, oGt, oGe, op_in, op_cp, wipe_nil, wipe_cons, mset_same, true_and, and_true, isN_int, ex_lstF, ex_repF, ex_lgF1, ex_lgF2, ex_tupRg1, ex_tupRg2, ex_frz, ex_slF, ex_slM, sl_tupF, sl_rolF, op_iiF, op_ssF, op_ttF, op_rrF, op_rrM, op_mmF, op_repF, li_rol, li_ref, bl_listF, bl_allF, bl_anyF, asT_some, asJ_some, op_eqBf, op_eqBt, isN_non, Bool.not_true, Bool.not_false, rep2, e2, rgD_Nw]
    refine ⟨mul2, ⟨by omega, by omega, by omega, by omega, by omega⟩, ?_⟩
    refine ko.t (2 * w + 1) B X (rgN w w) _ _ _ (by omega) (by omega) hX.tb hB .t (fun p hp => by have := rgN_mem.mp hp; omega) (by simp [rgN_len]; omega) fun d M hd => ?_
    rw [kept_news] at hd
    exact q X d _ hX hd
  · show newsR sp sl so E _ [some (.tup []), some e, none, none] M0
    unfold newsR
    rw [st_seq, st_if]
    simp only [ex_c, ex_var, ex_op, ex_un, ex_b, ex_and, ex_or, ex_not, ex_andV, ex_orV, ex_notV, ex_if, ex_chain, ex_nil, ex_cons, ex_tup, ex_lst, ex_call, ex_callP, ex_cb, ex_bm, ex_rep, ex_sl, ex_noPart, ex_part, ex_yes, it_items, it_rng1, it_rng2, tg_name, tg_sub, tg_tup, tg_cons, tg_nil, gs_0, gs_s, ss_0, ss_s, op_ii, op_ss, op_tt, op_mm, op_sb, op_ng, op_iNf, op_iNt, op_lle, op_ixT, op_ixR, op_ixL, op_putE, op_appE, it_tupE, it_rolE, it_refE, lstOf_l, exL, asS_some, asI_int, asB_bl, asL_some, asN_some, ite3_t, ite3_f, bl_1, bl_lenT, bl_lenR, bl_lenL, bl_lenS, bl_tuple, bl_list, bl_abs, bl_intI, bl_intB, bl_max, bl_min, op_eqSf, op_eqSt, op_eqIf, op_eqIt, op_eqTf, op_eqTt, op_eqRf, op_eqRt, op_eqNf, op_eqNt, eqD_int, eqD_nil, pl_int, pl_nil, pl_non, pl_rnil, pl_bl, sl_tupE, sl_rolE, keep_ref, keep_tup, keep_rol, tp_int, tp_tup, tp_rol, tp_str, tp_bl, tp_non, tp_ref, oFd, oMd, oPw, oShl, oLt, oLe, oGt, oGe, op_in, op_cp, wipe_nil, wipe_cons, mset_same, true_and, and_true, isN_int, ex_lstF, ex_repF, ex_lgF1, ex_lgF2, ex_tupRg1, ex_tupRg2, ex_frz, ex_slF, ex_slM, sl_tupF, sl_rolF, op_iiF, op_ssF, op_ttF, op_rrF, op_rrM, op_mmF, op_repF, li_rol, li_ref, bl_listF, bl_allF, bl_anyF, asT_some, asJ_some, op_eqBf, op_eqBt, isN_non, Bool.not_true, Bool.not_false, rep2, eq_nil]
    simp only [st_ret]
    simp only [st_seq, st_next, st_break, st_cont, st_set, st_ret, st_retN, st_drop, st_if, st_asg, st_par, st_for, ex_c, ex_var, ex_op, ex_un, ex_b, ex_and, ex_or, ex_not, ex_andV, ex_orV, ex_notV, ex_if, ex_chain, ex_nil, ex_cons, ex_tup, ex_lst, ex_call, ex_callP, ex_cb, ex_bm, ex_rep, ex_lc, ex_sl, ex_noPart, ex_part, ex_yes, it_items, it_rng1, it_rng2, tg_name, tg_sub, tg_tup, tg_cons, tg_nil, gs_0, gs_s, ss_0, ss_s, op_ii, op_ss, op_tt, op_mm, op_sb, op_ng, op_iNf, op_iNt, op_lle, op_ixT, op_ixR, op_ixL, op_putE, op_appE, it_tupE, it_rolE, it_refE, lstOf_l, exL, asS_some, asI_int, asB_bl, asL_some, asN_some, ite3_t, ite3_f, bl_1, bl_lenT, bl_lenR, bl_lenL, bl_lenS, bl_tuple, bl_list, bl_abs, bl_intI, bl_intB, bl_max, bl_min, bl_repr, op_eqSf, op_eqSt, op_eqIf, op_eqIt, op_eqTf, op_eqTt, op_eqRf, op_eqRt, op_eqNf, op_eqNt, eqD_int, eqD_nil, pl_int, pl_nil, pl_non, pl_rnil, pl_bl, sl_tupE, sl_rolE, keep_ref, keep_tup, keep_rol, tp_int, tp_tup, tp_rol, tp_str, tp_bl, tp_non, tp_ref, oFd, oMd, oPw, oShl, oLt, oLe, oGt, oGe, op_in, op_cp, wipe_nil, wipe_cons, mset_same, true_and, and_true, isN_int, sz_0, sz_1, sz_2, sz_3, sz_4, sz_5, sz_6, sz_7, sz_8, sz_9, sz_10, sz_11, sz_12, ex_lstF, ex_repF, ex_lgF1, ex_lgF2, ex_tupRg1, ex_tupRg2, ex_lcF, ex_frz, ex_slF, ex_slM, sl_tupF, sl_rolF, op_iiF, op_ssF, op_ttF, op_rrF, op_rrM, op_mmF, op_repF, li_rol, li_ref, bl_listF, bl_allF, bl_anyF, asT_some, asJ_some, op_eqLf, op_eqLt, op_eqBf, op_eqBt, isN_non, Bool.not_true, Bool.not_false]
    exact q _
  · show newsR sp sl so E _ [some d, some (.tup []), none, none] M0
    unfold newsR
    rw [st_seq, st_if]
    rcases h with rfl | ⟨n, T, rfl, sq, hn⟩
    · simp only [ex_c, ex_var, ex_op, ex_un, ex_b, ex_and, ex_or, ex_not, ex_andV, ex_orV, ex_notV, ex_if, ex_chain, ex_nil, ex_cons, ex_tup, ex_lst, ex_call, ex_callP, ex_cb, ex_bm, ex_rep, ex_sl, ex_noPart, ex_part, ex_yes, it_items, it_rng1, it_rng2, tg_name, tg_sub, tg_tup, tg_cons, tg_nil, gs_0, gs_s, ss_0, ss_s, op_ii, op_ss, op_tt, op_mm, op_sb, op_ng, op_iNf, op_iNt, op_lle, op_ixT, op_ixR, op_ixL, op_putE, op_appE, it_tupE, it_rolE, it_refE, lstOf_l, exL, asS_some, asI_int, asB_bl, asL_some, asN_some, ite3_t, ite3_f, bl_1, bl_lenT, bl_lenR, bl_lenL, bl_lenS, bl_tuple, bl_list, bl_abs, bl_intI, bl_intB, bl_max, bl_min, op_eqSf, op_eqSt, op_eqIf, op_eqIt, op_eqTf, op_eqTt, op_eqRf, op_eqRt, op_eqNf, op_eqNt, eqD_int, eqD_nil, pl_int, pl_nil, pl_non, pl_rnil, pl_bl, sl_tupE, sl_rolE, keep_ref, keep_tup, keep_rol, tp_int, tp_tup, tp_rol, tp_str, tp_bl, tp_non, tp_ref, oFd, oMd, oPw, oShl, oLt, oLe, oGt, oGe, op_in, op_cp, wipe_nil, wipe_cons, mset_same, true_and, and_true, isN_int, ex_lstF, ex_repF, ex_lgF1, ex_lgF2, ex_tupRg1, ex_tupRg2, ex_frz, ex_slF, ex_slM, sl_tupF, sl_rolF, op_iiF, op_ssF, op_ttF, op_rrF, op_rrM, op_mmF, op_repF, li_rol, li_ref, bl_listF, bl_allF, bl_anyF, asT_some, asJ_some, op_eqBf, op_eqBt, isN_non, Bool.not_true, Bool.not_false, rep2, eq_nil]
      simp only [st_ret]
      simp only [st_seq, st_next, st_break, st_cont, st_set, st_ret, st_retN, st_drop, st_if, st_asg, st_par, st_for, ex_c, ex_var, ex_op, ex_un, ex_b, ex_and, ex_or, ex_not, ex_andV, ex_orV, ex_notV, ex_if, ex_chain, ex_nil, ex_cons, ex_tup, ex_lst, ex_call, ex_callP, ex_cb, ex_bm, ex_rep, ex_lc, ex_sl, ex_noPart, ex_part, ex_yes, it_items, it_rng1, it_rng2, tg_name, tg_sub, tg_tup, tg_cons, tg_nil, gs_0, gs_s, ss_0, ss_s, op_ii, op_ss, op_tt, op_mm, op_sb, op_ng, op_iNf, op_iNt, op_lle, op_ixT, op_ixR, op_ixL, op_putE, op_appE, it_tupE, it_rolE, it_refE, lstOf_l, exL, asS_some, asI_int, asB_bl, asL_some, asN_some, ite3_t, ite3_f, bl_1, bl_lenT, bl_lenR, bl_lenL, bl_lenS, bl_tuple, bl_list, bl_abs, bl_intI, bl_intB, bl_max, bl_min, bl_repr, op_eqSf, op_eqSt, op_eqIf, op_eqIt, op_eqTf, op_eqTt, op_eqRf, op_eqRt, op_eqNf, op_eqNt, eqD_int, eqD_nil, pl_int, pl_nil, pl_non, pl_rnil, pl_bl, sl_tupE, sl_rolE, keep_ref, keep_tup, keep_rol, tp_int, tp_tup, tp_rol, tp_str, tp_bl, tp_non, tp_ref, oFd, oMd, oPw, oShl, oLt, oLe, oGt, oGe, op_in, op_cp, wipe_nil, wipe_cons, mset_same, true_and, and_true, isN_int, sz_0, sz_1, sz_2, sz_3, sz_4, sz_5, sz_6, sz_7, sz_8, sz_9, sz_10, sz_11, sz_12, ex_lstF, ex_repF, ex_lgF1, ex_lgF2, ex_tupRg1, ex_tupRg2, ex_lcF, ex_frz, ex_slF, ex_slM, sl_tupF, sl_rolF, op_iiF, op_ssF, op_ttF, op_rrF, op_rrM, op_mmF, op_repF, li_rol, li_ref, bl_listF, bl_allF, bl_anyF, asT_some, asJ_some, op_eqLf, op_eqLt, op_eqBf, op_eqBt, isN_non, Bool.not_true, Bool.not_false]
      exact q _
    · simp only [ex_c, ex_var, ex_op, ex_un, ex_b, ex_and, ex_or, ex_not, ex_andV, ex_orV, ex_notV, ex_if, ex_chain, ex_nil, ex_cons, ex_tup, ex_lst, ex_call, ex_callP, ex_cb, ex_bm, ex_rep, ex_sl, ex_noPart, ex_part, ex_yes, it_items, it_rng1, it_rng2, tg_name, tg_sub, tg_tup, tg_cons, tg_nil, gs_0, gs_s, ss_0, ss_s, op_ii, op_ss, op_tt, op_mm, op_sb, op_ng, op_iNf, op_iNt, op_lle, op_ixT, op_ixR, op_ixL, op_putE, op_appE, it_tupE, it_rolE, it_refE, lstOf_l, exL, asS_some, asI_int, asB_bl, asL_some, asN_some, ite3_t, ite3_f, bl_1, bl_lenT, bl_lenR, bl_lenL, bl_lenS, bl_tuple, bl_list, bl_abs, bl_intI, bl_intB, bl_max, bl_min, op_eqSf, op_eqSt, op_eqIf, op_eqIt, op_eqTf, op_eqTt, op_eqRf, op_eqRt, op_eqNf, op_eqNt, eqD_int, eqD_nil, pl_int, pl_nil, pl_non, pl_rnil, pl_bl, sl_tupE, sl_rolE, keep_ref, keep_tup, keep_rol, tp_int, tp_tup, tp_rol, tp_str, tp_bl, tp_non, tp_ref, oFd, oMd, oPw, oShl, oLt, oLe, oGt, oGe, op_in, op_cp, wipe_nil, wipe_cons, mset_same, true_and, and_true, isN_int, ex_lstF, ex_repF, ex_lgF1, ex_lgF2, ex_tupRg1, ex_tupRg2, ex_frz, ex_slF, ex_slM, sl_tupF, sl_rolF, op_iiF, op_ssF, op_ttF, op_rrF, op_rrM, op_mmF, op_repF, li_rol, li_ref, bl_listF, bl_allF, bl_anyF, asT_some, asJ_some, op_eqBf, op_eqBt, isN_non, Bool.not_true, Bool.not_false, rep2, eq_tab sq hn, eq_nil]
      simp only [st_ret]
      simp only [st_seq, st_next, st_break, st_cont, st_set, st_ret, st_retN, st_drop, st_if, st_asg, st_par, st_for, ex_c, ex_var, ex_op, ex_un, ex_b, ex_and, ex_or, ex_not, ex_andV, ex_orV, ex_notV, ex_if, ex_chain, ex_nil, ex_cons, ex_tup, ex_lst, ex_call, ex_callP, ex_cb, ex_bm, ex_rep, ex_lc, ex_sl, ex_noPart, ex_part, ex_yes, it_items, it_rng1, it_rng2, tg_name, tg_sub, tg_tup, tg_cons, tg_nil, gs_0, gs_s, ss_0, ss_s, op_ii, op_ss, op_tt, op_mm, op_sb, op_ng, op_iNf, op_iNt, op_lle, op_ixT, op_ixR, op_ixL, op_putE, op_appE, it_tupE, it_rolE, it_refE, lstOf_l, exL, asS_some, asI_int, asB_bl, asL_some, asN_some, ite3_t, ite3_f, bl_1, bl_lenT, bl_lenR, bl_lenL, bl_lenS, bl_tuple, bl_list, bl_abs, bl_intI, bl_intB, bl_max, bl_min, bl_repr, op_eqSf, op_eqSt, op_eqIf, op_eqIt, op_eqTf, op_eqTt, op_eqRf, op_eqRt, op_eqNf, op_eqNt, eqD_int, eqD_nil, pl_int, pl_nil, pl_non, pl_rnil, pl_bl, sl_tupE, sl_rolE, keep_ref, keep_tup, keep_rol, tp_int, tp_tup, tp_rol, tp_str, tp_bl, tp_non, tp_ref, oFd, oMd, oPw, oShl, oLt, oLe, oGt, oGe, op_in, op_cp, wipe_nil, wipe_cons, mset_same, true_and, and_true, isN_int, sz_0, sz_1, sz_2, sz_3, sz_4, sz_5, sz_6, sz_7, sz_8, sz_9, sz_10, sz_11, sz_12, ex_lstF, ex_repF, ex_lgF1, ex_lgF2, ex_tupRg1, ex_tupRg2, ex_lcF, ex_frz, ex_slF, ex_slM, sl_tupF, sl_rolF, op_iiF, op_ssF, op_ttF, op_rrF, op_rrM, op_mmF, op_repF, li_rol, li_ref, bl_listF, bl_allF, bl_anyF, asT_some, asJ_some, op_eqLf, op_eqLt, op_eqBf, op_eqBt, isN_non, Bool.not_true, Bool.not_false]
      exact q _
end L3
set_option Elab.async false
set_option linter.all false
set_option maxRecDepth 100000
set_option maxHeartbeats 4000000
namespace L3
open PySem PySem.Spec PyProof.Rows L2
/-- a grown M: a's draws aside -/
def Gr (a : Addr) (M M' : Mp) : Prop := ∀ b o, b ≠ a → M b = some o → M' b = some o
theorem Gr.refl {a : Addr} {M : Mp} : Gr a M M := fun _ _ _ h => h
theorem Gr.trans {a : Addr} {M M1 M2 : Mp} (x : Gr a M M1) (y : Gr a M1 M2) : Gr a M M2 := fun b o h z => y b o h (x b o h z)
theorem Gr.put {a f : Addr} {M M' : Mp} {o : MO} (x : Gr a M M') (h : M f = none) : Gr a M (mset M' f o) := fun b u hb z => by
  rw [mset_ne (ne_m z h)]; exact x b u hb z
theorem Feed.put {a f : Addr} {M : Mp} {o : MO} (x : Feed M a) (h : f ≠ a) : Feed (mset M f o) a := by
  obtain ⟨g, m, c, e⟩ := x
  exact ⟨g, m, c, by rw [mset_ne (Ne.symm h)]; exact e⟩
theorem Feed.ne {a f : Addr} {M : Mp} (x : Feed M a) (h : M f = none) : f ≠ a := by
  obtain ⟨g, m, c, e⟩ := x
  exact fun z => by rw [z, e] at h; cases h
/-- rows of a drawn table -/
def TsOk (n : Nat) (ts : List Trip) : Prop := ∀ t ∈ ts, In2 n t ∧ t.2.2.natAbs < 100
theorem TsOk.nil {n : Nat} : TsOk n [] := fun _ h => nomatch h
theorem TsOk.app {n : Nat} {ts us : List Trip} (h : TsOk n ts) (h2 : TsOk n us) : TsOk n (ts ++ us) := fun t ht => (List.mem_append.mp ht).elim (h t) (h2 t)
theorem TsOk.rep {n k : Nat} {t : Trip} (h : In2 n t ∧ t.2.2.natAbs < 100) : TsOk n (List.replicate k t) := fun x hx => by rw [List.eq_of_mem_replicate hx]; exact h
end L3
set_option Elab.async false
set_option linter.all false
set_option maxRecDepth 100000
set_option maxHeartbeats 4000000
namespace L3
open PySem PySem.Spec PyProof.Rows L2
theorem only_sh {n B : Nat} {X : Tab} {ps : List Nat} {d : D} (c : OnlyOf n B X ps d) (hB : 2 ^ n * B ≤ 10 ^ 100) (hp : ps.length ≤ 100) : Sh d := (c.tm hB).fits (by decide) (Nat.le_trans (Nat.mul_le_mul hp (Nat.add_le_add_right hp 1)) (by decide))
theorem b7 {n B : Nat} (hn : n ≤ 12) (hB : B ≤ 10 ^ 40) : 2 ^ n * B ≤ 10 ^ 100 := Nat.le_trans (Nat.mul_le_mul (Nat.pow_le_pow_right (by decide) hn) hB) (by decide)
theorem bl_reprE {M : Mp} {d : D} {Q : VK3} (h : L3.top M d = d) (s : Sh d) : bRepr [d] M Q = Q (.str (shown d)) M := by
  rw [bl_repr, h]
  exact propext ⟨fun x => x.2, fun x => ⟨s, x⟩⟩
theorem bl_reprT {M : Mp} {T : Tab} {Q : VK3} (s : Sh (tabD T)) : bRepr [tabD T] M Q = Q (.str (shown (tabD T))) M := bl_reprE rfl s
end L3
set_option Elab.async false
set_option linter.all false
set_option maxRecDepth 100000
set_option maxHeartbeats 4000000
namespace L3
open PySem PySem.Spec PyProof.Rows L2
/-- what a chain comes to -/
def ChainIs (B n : Nat) (xs : List Part) (d : D) : Prop := ∃ X, PutIs B n xs X ∧ Closes n B X d
/-- edges of some parts -/
structure PEdges (B n : Nat) (xs : List Part) (ts : List Trip) : Prop where
  ok : TripsOk n B ts
  st : ∀ s, StE (ts.map edgeOf) s ↔ ∀ x ∈ xs, Pull x s
theorem PEdges.app {B n : Nat} {xs ys : List Part} {ts us : List Trip} (h : PEdges B n xs ts) (h2 : PEdges B n ys us) : PEdges B n (xs ++ ys) (ts ++ us) :=
  ⟨fun t ht => (List.mem_append.mp ht).elim (h.ok t) (h2.ok t), fun s => by
    rw [List.map_append, StE.app, h.st, h2.st]
    exact ⟨fun a x hx => (List.mem_append.mp hx).elim (a.1 x) (a.2 x), fun a => ⟨fun x hx => a x (List.mem_append_left _ hx), fun x hx => a x (List.mem_append_right _ hx)⟩⟩⟩
theorem PEdges.one {B n : Nat} {x : Part} {ts : List Trip} (h : TripsOk n B ts) (h2 : ∀ s, StE (ts.map edgeOf) s ↔ Pull x s) : PEdges B n [x] ts :=
  ⟨h, fun s => by rw [h2]; exact ⟨fun a y hy => by rw [List.mem_singleton] at hy; rw [hy]; exact a, fun a => a x (by simp)⟩⟩
/-- closing what edges say -/
theorem PEdges.put {B n : Nat} {xs : List Part} {ts : List Trip} (h : PEdges B n xs ts) : PutIs B n xs (mtab n ts) :=
  ⟨mtab_b fun t ht => (h.ok t ht).2, fun s => by rw [(es_mtab fun t ht => (h.ok t ht).1).st, h.st]⟩
theorem PEdges.least {B n : Nat} {xs : List Part} {ts : List Trip} (h : PEdges B n xs ts) {sp : Sp3} (k : SLeast sp) (hn : n ≤ 1000) (hB : 0 < B) {Q : VK3} {E : XK3} (q : ∀ d M, ChainIs B n xs d → Q d M) : sp [.int (n : Int), .rol (ts.map tripD)] M0 Q E := by
  refine k (n : Int) B (mtab n ts) ts Q E (by omega) (by omega) hB (by rw [Int.toNat_natCast]; exact h.put.tb) (fun t ht => (h.ok t ht).1) (by rw [Int.toNat_natCast]; exact es_mtab fun t ht => (h.ok t ht).1) fun d M hd => ?_
  rw [Int.toNat_natCast] at hd
  exact q d M ⟨_, h.put, hd⟩
theorem ChainIs.uniq {B B' n : Nat} {xs : List Part} {d d' : D} (h : ChainIs B n xs d) (h' : ChainIs B' n xs d') : d = d' := by
  obtain ⟨X, hX, c⟩ := h
  obtain ⟨X', hX', c'⟩ := h'
  exact c.congr (fun s => by rw [hX.st, hX'.st]) c'
/-- some points of a chain -/
def RowIs (B n : Nat) (xs : List Part) (ps : List Nat) (d : D) : Prop := ∃ X, PutIs B n xs X ∧ OnlyOf n B X ps d
theorem RowIs.uniq {B B' n : Nat} {xs : List Part} {ps : List Nat} {d d' : D} (hp : ∀ p ∈ ps, p < n) (h : RowIs B n xs ps d) (h' : RowIs B' n xs ps d') : d = d' := by
  obtain ⟨X, hX, c⟩ := h
  obtain ⟨X', hX', c'⟩ := h'
  exact c.congr (fun s => by rw [hX.st, hX'.st]) hp c'
theorem RowIs.same {B B' n : Nat} {xs ys : List Part} {ps : List Nat} {d d' : D} (hp : ∀ p ∈ ps, p < n) (hs : ∀ s, (∀ x ∈ xs, Pull x s) ↔ ∀ y ∈ ys, Pull y s) (h : RowIs B n xs ps d) (h' : RowIs B' n ys ps d') : d = d' := by
  obtain ⟨X, hX, c⟩ := h
  obtain ⟨X', hX', c'⟩ := h'
  exact c.congr (fun s => by rw [hX.st, hX'.st, hs]) hp c'
theorem RowIs.sh {B n : Nat} {xs : List Part} {ps : List Nat} {d : D} (h : RowIs B n xs ps d) (hB : 2 ^ n * B ≤ 10 ^ 100) (hp : ps.length ≤ 100) : Sh d := by
  obtain ⟨X, hX, c⟩ := h; exact only_sh c hB hp
theorem RowIs.top {B n : Nat} {xs : List Part} {ps : List Nat} {d : D} (h : RowIs B n xs ps d) {M : Mp} : L3.top M d = d := by
  obtain ⟨X, hX, c⟩ := h; exact c.top
end L3
set_option Elab.async false
set_option linter.all false
set_option maxRecDepth 100000
set_option maxHeartbeats 4000000
namespace L3
open PySem PySem.Spec PyProof.Rows L2
def Meets (n : Nat) (F : Fn) (v : Nat → Int) : Prop := ∀ p q, p < n → q < n → ∀ e, F p q = some e → v p - v q ≤ e
theorem meets_st {n : Nat} {F : Fn} {v : Nat → Int} : Meets n F v ↔ Stable n F fun p => some (- v p) := by
  constructor
  · intro h p hp q hq
    cases e : F p q with
    | none => exact eLe_none
    | some x => have := h p q hp hq x e; show _ ≤ _; omega
  · intro h p q hp hq x e
    have := h p hp q hq
    rw [e] at this
    have this : - v q ≤ - v p + x := this
    omega
theorem Bad.none {n : Nat} {T : Fn} (b : Bad n T) (v : Nat → Int) : ¬ Meets n T v := fun h => by
  obtain ⟨m, hm, z⟩ := b
  have := z _ (meets_st.mp h)
  cases this
/-- between some lowest and some greatest ones -/
theorem between (L U : List Int) (h : ∀ l ∈ L, ∀ u ∈ U, l ≤ u) : ∃ x, (∀ l ∈ L, l ≤ x) ∧ (∀ u ∈ U, x ≤ u) ∧ (x ∈ L ∨ x ∈ U ∨ x = 0) := by
  have mx : ∀ L : List Int, L = [] ∨ ∃ m ∈ L, ∀ l ∈ L, l ≤ m := by
    intro L
    induction L with
    | nil => exact .inl rfl
    | cons a L ih =>
      right
      rcases ih with rfl | ⟨m, hm, h⟩
      · exact ⟨a, by simp, fun l hl => by simp at hl; omega⟩
      · by_cases z : a ≤ m
        · exact ⟨m, by simp [hm], fun l hl => by
            rcases List.mem_cons.mp hl with rfl | hl
            · exact z
            · exact h l hl⟩
        · exact ⟨a, by simp, fun l hl => by
            rcases List.mem_cons.mp hl with rfl | hl
            · omega
            · have := h l hl; omega⟩
  have mn : ∀ L : List Int, L = [] ∨ ∃ m ∈ L, ∀ l ∈ L, m ≤ l := by
    intro L
    induction L with
    | nil => exact .inl rfl
    | cons a L ih =>
      right
      rcases ih with rfl | ⟨m, hm, h⟩
      · exact ⟨a, by simp, fun l hl => by simp at hl; omega⟩
      · by_cases z : m ≤ a
        · exact ⟨m, by simp [hm], fun l hl => by
            rcases List.mem_cons.mp hl with rfl | hl
            · exact z
            · exact h l hl⟩
        · exact ⟨a, by simp, fun l hl => by
            rcases List.mem_cons.mp hl with rfl | hl
            · omega
            · have := h l hl; omega⟩
  rcases mn U with rfl | ⟨u, hu, hU⟩
  · rcases mx L with rfl | ⟨l, hl, hL⟩
    · exact ⟨0, by simp, by simp, .inr (.inr rfl)⟩
    · exact ⟨l, hL, by simp, .inl hl⟩
  · exact ⟨u, fun l hl => h l hl u hu, hU, .inr (.inl hu)⟩
def setV (v : Nat → Int) (r : Nat) (x : Int) : Nat → Int := fun i => if i = r then x else v i
/-- meeting a table on some points alone -/
def MeetsOn (n : Nat) (A : Nat → Bool) (F : Fn) (v : Nat → Int) : Prop := ∀ p q, p < n → q < n → A p = true → A q = true → ∀ e, F p q = some e → v p - v q ≤ e
theorem ext_one {n : Nat} {T S : Fn} (c : IsCl n T S) {A : Nat → Bool} {v : Nat → Int} (h : MeetsOn n A S v) {r : Nat} (hr : r < n) : ∃ v', MeetsOn n (fun i => A i || decide (i = r)) S v' ∧ ∀ i, A i = true → v' i = v i := by
  by_cases hA : A r = true
  · refine ⟨v, fun p q hp hq h1 h2 => h p q hp hq ?_ ?_, fun _ _ => rfl⟩
    · rcases Bool.or_eq_true _ _ ▸ h1 with z | z
      · exact z
      · have := of_decide_eq_true z; subst this; exact hA
    · rcases Bool.or_eq_true _ _ ▸ h2 with z | z
      · exact z
      · have := of_decide_eq_true z; subst this; exact hA
  · let ix := (List.range n).filter A
    let U := ix.filterMap fun q => (S r q).map fun e => v q + e
    let L := ix.filterMap fun q => (S q r).map fun e => v q - e
    have mU : ∀ u, u ∈ U ↔ ∃ q e, q < n ∧ A q = true ∧ S r q = some e ∧ u = v q + e := fun u => by
      simp only [U, ix, List.mem_filterMap, List.mem_filter, List.mem_range, Option.map_eq_some_iff]
      constructor
      · rintro ⟨q, ⟨h1, h2⟩, e, h3, rfl⟩; exact ⟨q, e, h1, h2, h3, rfl⟩
      · rintro ⟨q, e, h1, h2, h3, rfl⟩; exact ⟨q, ⟨h1, h2⟩, e, h3, rfl⟩
    have mL : ∀ u, u ∈ L ↔ ∃ q e, q < n ∧ A q = true ∧ S q r = some e ∧ u = v q - e := fun u => by
      simp only [L, ix, List.mem_filterMap, List.mem_filter, List.mem_range, Option.map_eq_some_iff]
      constructor
      · rintro ⟨q, ⟨h1, h2⟩, e, h3, rfl⟩; exact ⟨q, e, h1, h2, h3, rfl⟩
      · rintro ⟨q, e, h1, h2, h3, rfl⟩; exact ⟨q, ⟨h1, h2⟩, e, h3, rfl⟩
    obtain ⟨x, hL, hU, _⟩ := between L U (fun l hl u hu => by
      obtain ⟨p, e, hp, ap, he, rfl⟩ := (mL l).mp hl
      obtain ⟨q, f, hq, aq, hf, rfl⟩ := (mU u).mp hu
      have t := c.tri p q r hp hq hr
      rw [he, hf] at t
      cases g : S p q with
      | none => rw [g] at t; exact t.elim
      | some y =>
        rw [g] at t
        have t : y ≤ e + f := t
        have := h p q hp hq ap aq y g
        omega)
    refine ⟨setV v r x, fun p q hp hq h1 h2 e he => ?_, fun i hi => ?_⟩
    · unfold setV
      have c1 : A p = true ∨ p = r := (Bool.or_eq_true _ _ ▸ h1).imp id of_decide_eq_true
      have c2 : A q = true ∨ q = r := (Bool.or_eq_true _ _ ▸ h2).imp id of_decide_eq_true
      by_cases e1 : p = r
      · subst e1
        by_cases e2 : q = p
        · subst e2
          rw [c.diag q hp] at he; cases he; omega
        · rw [if_pos rfl, if_neg e2]
          have := hU _ ((mU _).mpr ⟨q, e, hq, c2.resolve_right e2, he, rfl⟩)
          omega
      · rw [if_neg e1]
        by_cases e2 : q = r
        · subst e2
          rw [if_pos rfl]
          have := hL _ ((mL _).mpr ⟨p, e, hp, c1.resolve_right e1, he, rfl⟩)
          omega
        · rw [if_neg e2]
          exact h p q hp hq (c1.resolve_right e1) (c2.resolve_right e2) e he
    · unfold setV
      rw [if_neg (fun z => hA (by rw [← z]; exact hi))]
/-- what meets a closed table at some points can be completed -/
theorem ext_all' {n : Nat} {T S : Fn} (c : IsCl n T S) {A : Nat → Bool} {v : Nat → Int} (h : MeetsOn n A S v) : ∃ v', Meets n S v' ∧ ∀ i, A i = true → v' i = v i := by
  have go : ∀ k, k ≤ n → ∃ v', MeetsOn n (fun i => A i || decide (i < k)) S v' ∧ ∀ i, A i = true → v' i = v i := by
    intro k
    induction k with
    | zero => exact fun _ => ⟨v, fun p q hp hq h1 h2 => h p q hp hq (by simpa using h1) (by simpa using h2), fun _ _ => rfl⟩
    | succ k ih =>
      intro hk
      obtain ⟨v1, h1, e1⟩ := ih (by omega)
      obtain ⟨v2, h2, e2⟩ := ext_one c h1 (r := k) (by omega)
      refine ⟨v2, fun p q hp hq a b => h2 p q hp hq ?_ ?_, fun i hi => (e2 i (by simp [hi])).trans (e1 i hi)⟩
      · simp only [Bool.or_eq_true, decide_eq_true_eq] at a ⊢
        rcases a with a | a
        · exact .inl (.inl a)
        · by_cases z : p < k
          · exact .inl (.inr z)
          · exact .inr (by omega)
      · simp only [Bool.or_eq_true, decide_eq_true_eq] at b ⊢
        rcases b with b | b
        · exact .inl (.inl b)
        · by_cases z : q < k
          · exact .inl (.inr z)
          · exact .inr (by omega)
  obtain ⟨v', h1, h2⟩ := go n (Nat.le_refl _)
  exact ⟨v', fun p q hp hq => h1 p q hp hq (by simp [hp]) (by simp [hq]), h2⟩
/-- each end is reached -/
theorem reach {n : Nat} {T S : Fn} (c : IsCl n T S) {p q : Nat} (hp : p < n) (hq : q < n) : (∀ e, S p q = some e → ∃ v, Meets n S v ∧ v p - v q = e) ∧ (S p q = none → ∀ N : Int, ∃ v, Meets n S v ∧ N ≤ v p - v q) := by
  have mk : ∀ x : Int, (∀ e, S p q = some e → x ≤ e) → (∀ e, S q p = some e → - x ≤ e) → (p = q → x = 0) → ∃ v, Meets n S v ∧ v p - v q = x := by
    intro x h1 h2 h3
    have on : MeetsOn n (fun i => decide (i = p) || decide (i = q)) S (fun i => if i = p then x else 0) := by
      intro i j hi hj a b e he
      simp only [Bool.or_eq_true, decide_eq_true_eq] at a b
      by_cases e1 : i = p <;> by_cases e2 : j = p
      · subst e1; subst e2
        rw [c.diag _ hi] at he; cases he; simp
      · subst e1
        have : j = q := by omega
        subst this
        dsimp only
        rw [if_pos rfl, if_neg e2]
        have := h1 e he; omega
      · subst e2
        have : i = q := by omega
        subst this
        dsimp only
        rw [if_pos rfl, if_neg e1]
        have := h2 e he; omega
      · have a1 : i = q := by omega
        have a2 : j = q := by omega
        subst a1; subst a2
        rw [c.diag _ hi] at he; cases he; dsimp only; rw [if_neg e1]; omega
    obtain ⟨v', m, ag⟩ := ext_all' c on
    refine ⟨v', m, ?_⟩
    rw [ag p (by simp), ag q (by simp), if_pos rfl]
    by_cases z : q = p
    · subst z; rw [if_pos rfl, h3 rfl]; omega
    · rw [if_neg z]; omega
  have tr : ∀ e f, S p q = some e → S q p = some f → - e ≤ f := fun e f h1 h2 => by
    have t := c.tri p p q hp hp hq
    rw [c.diag p hp, h1, h2] at t
    have t : (0 : Int) ≤ e + f := t
    omega
  constructor
  · intro e he
    exact mk e (fun x hx => by rw [he] at hx; cases hx; omega) (fun f hf => tr e f he hf) fun z => by subst z; rw [c.diag p hp] at he; cases he; rfl
  · intro hn N
    have pq : p ≠ q := fun z => by subst z; rw [c.diag p hp] at hn; cases hn
    cases g : S q p with
    | none =>
      obtain ⟨v, m, e⟩ := mk N (fun x hx => by rw [hn] at hx; cases hx) (fun x hx => by rw [g] at hx; cases hx) (fun z => absurd z pq)
      exact ⟨v, m, by omega⟩
    | some f =>
      obtain ⟨v, m, e⟩ := mk (max N (- f)) (fun x hx => by rw [hn] at hx; cases hx) (fun x hx => by rw [g] at hx; cases hx; omega) (fun z => absurd z pq)
      exact ⟨v, m, by omega⟩
/-- closed tables met by the same values are the same -/
theorem cl_same {n : Nat} {T S T' S' : Fn} (c : IsCl n T S) (c' : IsCl n T' S') (h : ∀ v, Meets n S v ↔ Meets n S' v) {p q : Nat} (hp : p < n) (hq : q < n) : S p q = S' p q := by
  have one : ∀ {T S T' S' : Fn}, IsCl n T S → IsCl n T' S' → (∀ v, Meets n S v ↔ Meets n S' v) → eLe (S p q) (S' p q) := by
    intro T S T' S' c c' h
    cases e' : S' p q with
    | none => exact eLe_none
    | some y =>
      cases e : S p q with
      | none =>
        obtain ⟨v, m, hv⟩ := (reach c hp hq).2 e (y + 1)
        have := (h v).mp m p q hp hq y e'
        omega
      | some x =>
        obtain ⟨v, m, hv⟩ := (reach c hp hq).1 x e
        have := (h v).mp m p q hp hq y e'
        show x ≤ y
        omega
  exact eLe_anti (one c c' h) (one c' c fun v => (h v).symm)
theorem IsCl.some {n : Nat} {T S : Fn} (c : IsCl n T S) : ∃ v, Meets n S v := by
  obtain ⟨v, m, _⟩ := ext_all' c (A := fun _ => false) (v := fun _ => 0) (fun p q _ _ h => by cases h)
  exact ⟨v, m⟩
/-- d is a table, closed, met by just P, or () -/
def Den (n : Nat) (d : D) (P : (Nat → Int) → Prop) : Prop := (d = .tup [] ∧ ∀ v, ¬ P v) ∨ ∃ S : Tab, d = tabD S ∧ Sq n S ∧ IsCl n (at2 S) (at2 S) ∧ ∀ v, P v ↔ Meets n (at2 S) v
theorem Den.uniq {n : Nat} {d d' : D} {P P' : (Nat → Int) → Prop} (h : Den n d P) (h' : Den n d' P') (e : ∀ v, P v ↔ P' v) : d = d' := by
  rcases h with ⟨rfl, h⟩ | ⟨S, rfl, sq, c, h⟩
  · rcases h' with ⟨rfl, _⟩ | ⟨S', rfl, sq', c', h'⟩
    · rfl
    · obtain ⟨v, m⟩ := c'.some
      exact absurd ((e v).mpr ((h' v).mpr m)) (h v)
  · rcases h' with ⟨rfl, h'⟩ | ⟨S', rfl, sq', c', h'⟩
    · obtain ⟨v, m⟩ := c.some
      exact absurd ((e v).mp ((h v).mpr m)) (h' v)
    · rw [tab_ext sq sq' fun p q hp hq => cl_same c c' (fun v => by rw [← h, ← h', e]) hp hq]
theorem Den.congr {n : Nat} {d : D} {P P' : (Nat → Int) → Prop} (h : Den n d P) (e : ∀ v, P v ↔ P' v) : Den n d P' := by
  rcases h with ⟨rfl, h⟩ | ⟨S, rfl, sq, c, h⟩
  · exact .inl ⟨rfl, fun v z => h v ((e v).mpr z)⟩
  · exact .inr ⟨S, rfl, sq, c, fun v => by rw [← e, h]⟩
end L3
set_option Elab.async false
set_option linter.all false
set_option maxRecDepth 100000
set_option maxHeartbeats 4000000
namespace L3
open PySem PySem.Spec PyProof.Rows L2
abbrev Vl := Nat → Int
abbrev Rel := Vl → Vl → Prop
/-- old, new, zero -/
def enc (w : Nat) (a b : Vl) : Vl := fun i => if i < w then a i else if i < 2 * w then b (i - w) else 0
def encF (w : Nat) (a : Vl) : Vl := fun i => if i < w then a i else 0
theorem Meets.shift {n : Nat} {F : Fn} {v u : Vl} (c : Int) (h : ∀ i, i < n → u i = v i + c) : Meets n F v ↔ Meets n F u := by
  constructor
  · intro m p q hp hq e he
    have := m p q hp hq e he
    rw [h p hp, h q hq]; omega
  · intro m p q hp hq e he
    have := m p q hp hq e he
    rw [h p hp, h q hq] at this; omega
theorem enc_of {w : Nat} (v : Vl) : ∃ a b, ∀ i, i < 2 * w + 1 → v i = enc w a b i + v (2 * w) := by
  refine ⟨fun i => v i - v (2 * w), fun i => v (w + i) - v (2 * w), fun i hi => ?_⟩
  unfold enc
  by_cases h : i < w
  · rw [if_pos h]; dsimp only; omega
  · rw [if_neg h]
    by_cases h2 : i < 2 * w
    · rw [if_pos h2]
      have : w + (i - w) = i := by omega
      dsimp only
      rw [this]; omega
    · have : i = 2 * w := by omega
      rw [if_neg h2, this]; omega
theorem encF_of {w : Nat} (v : Vl) : ∃ a, ∀ i, i < w + 1 → v i = encF w a i + v w := by
  refine ⟨fun i => v i - v w, fun i hi => ?_⟩
  unfold encF
  by_cases h : i < w
  · rw [if_pos h]; dsimp only; omega
  · have : i = w := by omega
    rw [if_neg h, this]; omega
/-- a step as it stands, its ends within B -/
def RepS (B w : Nat) (d : D) (R : Rel) : Prop := (d = .tup [] ∧ ∀ a b, ¬ R a b) ∨ ∃ T : Tab, d = tabD T ∧ TabB B (2 * w + 1) T ∧ ∀ a b, R a b ↔ Meets (2 * w + 1) (at2 T) (enc w a b)
def RepF (B w : Nat) (d : D) (P : Vl → Prop) : Prop := (d = .tup [] ∧ ∀ a, ¬ P a) ∨ ∃ T : Tab, d = tabD T ∧ TabB B (w + 1) T ∧ ∀ a, P a ↔ Meets (w + 1) (at2 T) (encF w a)
/-- a step closed -/
def DenS (B w : Nat) (d : D) (R : Rel) : Prop := (d = .tup [] ∧ ∀ a b, ¬ R a b) ∨ ∃ S : Tab, d = tabD S ∧ TabB B (2 * w + 1) S ∧ IsCl (2 * w + 1) (at2 S) (at2 S) ∧ ∀ a b, R a b ↔ Meets (2 * w + 1) (at2 S) (enc w a b)
def DenF (B w : Nat) (d : D) (P : Vl → Prop) : Prop := (d = .tup [] ∧ ∀ a, ¬ P a) ∨ ∃ S : Tab, d = tabD S ∧ TabB B (w + 1) S ∧ IsCl (w + 1) (at2 S) (at2 S) ∧ ∀ a, P a ↔ Meets (w + 1) (at2 S) (encF w a)
section
variable {B B' w : Nat} {d d' : D} {R R' : Rel} {P P' : Vl → Prop}
theorem TabB.mono {n : Nat} {T : Tab} (t : TabB B n T) (h : B ≤ B') : TabB B' n T := ⟨t.rows, t.cols, fun r hr e he i hi => Nat.lt_of_lt_of_le (t.ends r hr e he i hi) h⟩
theorem DenS.rep (h : DenS B w d R) : RepS B w d R := by
  rcases h with h | ⟨S, h1, h2, _, h3⟩
  · exact .inl h
  · exact .inr ⟨S, h1, h2, h3⟩
theorem DenF.rep (h : DenF B w d P) : RepF B w d P := by
  rcases h with h | ⟨S, h1, h2, _, h3⟩
  · exact .inl h
  · exact .inr ⟨S, h1, h2, h3⟩
theorem RepS.mono (h : RepS B w d R) (hB : B ≤ B') : RepS B' w d R := by
  rcases h with h | ⟨S, h1, h2, h3⟩
  · exact .inl h
  · exact .inr ⟨S, h1, h2.mono hB, h3⟩
theorem RepF.mono (h : RepF B w d P) (hB : B ≤ B') : RepF B' w d P := by
  rcases h with h | ⟨S, h1, h2, h3⟩
  · exact .inl h
  · exact .inr ⟨S, h1, h2.mono hB, h3⟩
theorem DenS.mono (h : DenS B w d R) (hB : B ≤ B') : DenS B' w d R := by
  rcases h with h | ⟨S, h1, h2, c, h3⟩
  · exact .inl h
  · exact .inr ⟨S, h1, h2.mono hB, c, h3⟩
theorem DenF.mono (h : DenF B w d P) (hB : B ≤ B') : DenF B' w d P := by
  rcases h with h | ⟨S, h1, h2, c, h3⟩
  · exact .inl h
  · exact .inr ⟨S, h1, h2.mono hB, c, h3⟩
theorem DenS.congr (h : DenS B w d R) (e : ∀ a b, R a b ↔ R' a b) : DenS B w d R' := by
  rcases h with ⟨h, g⟩ | ⟨S, h1, h2, c, h3⟩
  · exact .inl ⟨h, fun a b z => g a b ((e a b).mpr z)⟩
  · exact .inr ⟨S, h1, h2, c, fun a b => by rw [← e, h3]⟩
theorem DenF.congr (h : DenF B w d P) (e : ∀ a, P a ↔ P' a) : DenF B w d P' := by
  rcases h with ⟨h, g⟩ | ⟨S, h1, h2, c, h3⟩
  · exact .inl ⟨h, fun a z => g a ((e a).mpr z)⟩
  · exact .inr ⟨S, h1, h2, c, fun a => by rw [← e, h3]⟩
theorem RepS.congr (h : RepS B w d R) (e : ∀ a b, R a b ↔ R' a b) : RepS B w d R' := by
  rcases h with ⟨h, g⟩ | ⟨S, h1, h2, h3⟩
  · exact .inl ⟨h, fun a b z => g a b ((e a b).mpr z)⟩
  · exact .inr ⟨S, h1, h2, fun a b => by rw [← e, h3]⟩
theorem RepF.congr (h : RepF B w d P) (e : ∀ a, P a ↔ P' a) : RepF B w d P' := by
  rcases h with ⟨h, g⟩ | ⟨S, h1, h2, h3⟩
  · exact .inl ⟨h, fun a z => g a ((e a).mpr z)⟩
  · exact .inr ⟨S, h1, h2, fun a => by rw [← e, h3]⟩
theorem meets_all {n : Nat} {F G : Fn} (h : ∀ a b, Meets (2 * w + 1) F (enc w a b) ↔ Meets (2 * w + 1) G (enc w a b)) (v : Vl) : Meets (2 * w + 1) F v ↔ Meets (2 * w + 1) G v := by
  obtain ⟨a, b, e⟩ := enc_of (w := w) v
  rw [← Meets.shift (v (2 * w)) e, ← Meets.shift (v (2 * w)) e]
  exact h a b
theorem meets_allF {n : Nat} {F G : Fn} (h : ∀ a, Meets (w + 1) F (encF w a) ↔ Meets (w + 1) G (encF w a)) (v : Vl) : Meets (w + 1) F v ↔ Meets (w + 1) G v := by
  obtain ⟨a, e⟩ := encF_of (w := w) v
  rw [← Meets.shift (v w) e, ← Meets.shift (v w) e]
  exact h a
theorem some_enc {F : Fn} (h : ∃ v, Meets (2 * w + 1) F v) : ∃ a b, Meets (2 * w + 1) F (enc w a b) := by
  obtain ⟨v, m⟩ := h
  obtain ⟨a, b, e⟩ := enc_of (w := w) v
  exact ⟨a, b, (Meets.shift (v (2 * w)) e).mpr m⟩
theorem some_encF {F : Fn} (h : ∃ v, Meets (w + 1) F v) : ∃ a, Meets (w + 1) F (encF w a) := by
  obtain ⟨v, m⟩ := h
  obtain ⟨a, e⟩ := encF_of (w := w) v
  exact ⟨a, (Meets.shift (v w) e).mpr m⟩
theorem DenS.uniq (h : DenS B w d R) (h' : DenS B' w d' R') (e : ∀ a b, R a b ↔ R' a b) : d = d' := by
  rcases h with ⟨rfl, h⟩ | ⟨S, rfl, sq, c, h⟩
  · rcases h' with ⟨rfl, _⟩ | ⟨S', rfl, sq', c', h'⟩
    · rfl
    · obtain ⟨a, b, m⟩ := some_enc c'.some
      exact absurd ((e a b).mpr ((h' a b).mpr m)) (h a b)
  · rcases h' with ⟨rfl, h'⟩ | ⟨S', rfl, sq', c', h'⟩
    · obtain ⟨a, b, m⟩ := some_enc c.some
      exact absurd ((e a b).mp ((h a b).mpr m)) (h' a b)
    · rw [tab_ext sq.sq sq'.sq fun p q hp hq => cl_same c c' (meets_all (n := 0) fun a b => by rw [← h, ← h', e]) hp hq]
theorem DenF.uniq (h : DenF B w d P) (h' : DenF B' w d' P') (e : ∀ a, P a ↔ P' a) : d = d' := by
  rcases h with ⟨rfl, h⟩ | ⟨S, rfl, sq, c, h⟩
  · rcases h' with ⟨rfl, _⟩ | ⟨S', rfl, sq', c', h'⟩
    · rfl
    · obtain ⟨a, m⟩ := some_encF c'.some
      exact absurd ((e a).mpr ((h' a).mpr m)) (h a)
  · rcases h' with ⟨rfl, h'⟩ | ⟨S', rfl, sq', c', h'⟩
    · obtain ⟨a, m⟩ := some_encF c.some
      exact absurd ((e a).mp ((h a).mpr m)) (h' a)
    · rw [tab_ext sq.sq sq'.sq fun p q hp hq => cl_same c c' (meets_allF (n := 0) fun a => by rw [← h, ← h', e]) hp hq]
theorem DenS.tm (h : DenS B w d R) (hB : B ≤ 10 ^ 100) : Tm 2 ((2 * w + 1) * (2 * w + 1 + 1)) d := by
  rcases h with ⟨rfl, _⟩ | ⟨S, rfl, t, _⟩
  · exact (Tm.tup (h := 0) (n := 0) (m := 0) (ds := []) (fun d h => nomatch h) (Nat.le_refl _)).mono (by decide) (Nat.zero_le _)
  · exact Tm.tab t hB
theorem DenF.tm (h : DenF B w d P) (hB : B ≤ 10 ^ 100) : Tm 2 ((w + 1) * (w + 1 + 1)) d := by
  rcases h with ⟨rfl, _⟩ | ⟨S, rfl, t, _⟩
  · exact (Tm.tup (h := 0) (n := 0) (m := 0) (ds := []) (fun d h => nomatch h) (Nat.le_refl _)).mono (by decide) (Nat.zero_le _)
  · exact Tm.tab t hB
theorem DenS.top (h : DenS B w d R) {M : Mp} : L3.top M d = d := by
  rcases h with ⟨rfl, _⟩ | ⟨S, rfl, t, _⟩ <;> rfl
theorem DenF.top (h : DenF B w d P) {M : Mp} : L3.top M d = d := by
  rcases h with ⟨rfl, _⟩ | ⟨S, rfl, t, _⟩ <;> rfl
theorem RepS.nilOr (h : RepS B w d R) : NilOr d := by
  rcases h with ⟨rfl, _⟩ | ⟨T, rfl, t, _⟩
  · exact .inl rfl
  · exact .inr ⟨_, T, rfl, t.sq, Nat.succ_pos _⟩
theorem RepF.nilOr (h : RepF B w d P) : NilOr d := by
  rcases h with ⟨rfl, _⟩ | ⟨T, rfl, t, _⟩
  · exact .inl rfl
  · exact .inr ⟨_, T, rfl, t.sq, Nat.succ_pos _⟩
/-- a step's relation looks at its own values alone -/
def Loc (w : Nat) (R : Rel) : Prop := ∀ a a' b b', (∀ i, i < w → a i = a' i) → (∀ i, i < w → b i = b' i) → R a b → R a' b'
end
/-- first R, then R' -/
def comp (R R' : Rel) : Rel := fun a b => ∃ m, R a m ∧ R' m b
def eqW (w : Nat) : Rel := fun a b => ∀ i, i < w → a i = b i
def iter (w : Nat) (R : Rel) : Nat → Rel
  | 0 => eqW w
  | n + 1 => comp R (iter w R n)
def conv (R : Rel) : Rel := fun a b => R b a
end L3
set_option Elab.async false
set_option linter.all false
set_option maxRecDepth 100000
set_option maxHeartbeats 4000000
namespace L3
open PySem PySem.Spec PyProof.Rows L2
end L3
set_option Elab.async false
set_option linter.all false
set_option maxRecDepth 100000
set_option maxHeartbeats 4000000
namespace L3
open PySem PySem.Spec PyProof.Rows L2
end L3
set_option Elab.async false
set_option linter.all false
set_option maxRecDepth 100000
set_option maxHeartbeats 4000000
namespace L3
open PySem PySem.Spec PyProof.Rows L2
end L3
set_option Elab.async false
set_option linter.all false
set_option maxRecDepth 100000
set_option maxHeartbeats 4000000
namespace L3
open PySem PySem.Spec PyProof.Rows L2
mutual
theorem eqv_same : ∀ d : D, plain d = true → PyData.eqv (pdOf d) (pdOf d) = true
  | .non, _ => by simp [pdOf, PyData.eqv]
  | .bl b, _ => by simp [pdOf, PyData.eqv]
  | .int i, _ => by simp [pdOf, PyData.eqv]
  | .str s, _ => by simp [pdOf, PyData.eqv]
  | .ref _, h => by simp [plain] at h
  | .ty _, h => by simp [plain] at h
  | .tup xs, h => by simpa [pdOf, PyData.eqv] using eqv_sames xs (by simpa [plain] using h)
  | .rol xs, h => by simpa [pdOf, PyData.eqv] using eqv_sames xs (by simpa [plain] using h)
theorem eqv_sames : ∀ ds : List D, plains ds = true → PyData.eqvAll (pdsOf ds) (pdsOf ds) = true
  | [], _ => by simp [pdsOf, PyData.eqvAll]
  | d :: ds, h => by
    have h' : plain d = true ∧ plains ds = true := by simpa [plains] using h
    simp [pdsOf, PyData.eqvAll, eqv_same d h'.1, eqv_sames ds h'.2]
end
theorem eqD_same {d : D} (h : Pl d) : eqD d d = true := eqv_same d h.p
theorem NilOr.pl {d : D} (h : NilOr d) : Pl d := by
  rcases h with rfl | ⟨n, T, rfl, _, _⟩
  · rw [pl_nil]; trivial
  · exact pl_tab
theorem ne_self {d : D} (h : NilOr d) {M : Mp} {Q : VK3} : oEq true d d M Q = Q (.bl false) M := by
  have p := h.pl
  have e := eqD_same p
  rcases h with rfl | ⟨n, T, rfl, _, _⟩
  · exact ne_nil
  · unfold tabD at *
    rw [op_eqTt, tp_tup, e]
    exact propext ⟨fun x => x.2.2, fun x => ⟨p, p, x⟩⟩
theorem DenS.nilOr {B w : Nat} {d : D} {R : Rel} (h : DenS B w d R) : NilOr d := h.rep.nilOr
theorem DenF.nilOr {B w : Nat} {d : D} {P : Vl → Prop} (h : DenF B w d P) : NilOr d := h.rep.nilOr
theorem DenS.nil {B w : Nat} {d : D} {R : Rel} (h : DenS B w d R) (no : ∀ a b, ¬ R a b) : d = .tup [] := by
  rcases h with ⟨rfl, _⟩ | ⟨S, _, _, cl, h⟩
  · rfl
  · obtain ⟨a, b, m⟩ := some_enc cl.some
    exact absurd ((h a b).mpr m) (no a b)
theorem DenF.nil {B w : Nat} {d : D} {P : Vl → Prop} (h : DenF B w d P) (no : ∀ a, ¬ P a) : d = .tup [] := by
  rcases h with ⟨rfl, _⟩ | ⟨S, _, _, cl, h⟩
  · rfl
  · obtain ⟨a, m⟩ := some_encF cl.some
    exact absurd ((h a).mpr m) (no a)
theorem DenS.sh {B w : Nat} {d : D} {R : Rel} (h : DenS B w d R) (hB : B ≤ 10 ^ 100) (hw : w ≤ 40) : Sh d := (h.tm hB).fits (by decide) (Nat.le_trans (Nat.mul_le_mul (show 2 * w + 1 ≤ 81 by omega) (show 2 * w + 1 + 1 ≤ 82 by omega)) (by decide))
theorem DenF.sh {B w : Nat} {d : D} {P : Vl → Prop} (h : DenF B w d P) (hB : B ≤ 10 ^ 100) (hw : w ≤ 40) : Sh d := (h.tm hB).fits (by decide) (Nat.le_trans (Nat.mul_le_mul (show w + 1 ≤ 41 by omega) (show w + 1 + 1 ≤ 42 by omega)) (by decide))
end L3
set_option Elab.async false
set_option linter.all false
set_option maxRecDepth 100000
set_option maxHeartbeats 4000000
namespace L3
open PySem PySem.Spec PyProof.Rows L2
def TsB (n b : Nat) (ts : List Trip) : Prop := ∀ t ∈ ts, In2 n t ∧ t.2.2.natAbs ≤ b
theorem TsB.ok {n b : Nat} {ts : List Trip} (h : TsB n b ts) (hb : b < 100) : TsOk n ts := fun t ht => ⟨(h t ht).1, by have := (h t ht).2; omega⟩
theorem TsB.app {n b : Nat} {ts us : List Trip} (h : TsB n b ts) (h2 : TsB n b us) : TsB n b (ts ++ us) := fun t ht => (List.mem_append.mp ht).elim (h t) (h2 t)
theorem TsB.rep {n b k : Nat} {t : Trip} (h : In2 n t ∧ t.2.2.natAbs ≤ b) : TsB n b (List.replicate k t) := fun x hx => by rw [List.eq_of_mem_replicate hx]; exact h
end L3
set_option Elab.async false
set_option linter.all false
set_option maxRecDepth 100000
set_option maxHeartbeats 4000000
namespace L3
open PySem PySem.Spec PyProof.Rows L2
/-- different tables are told apart or not: alike ones -/
theorem DenS.same {B B' w : Nat} {d d' : D} {R R' : Rel} (h : DenS B w d R) (h' : DenS B' w d' R') (e : ∀ a b, R a b ↔ R' a b) {M : Mp} {Q : VK3} : oEq true d d' M Q = Q (.bl false) M := by
  rw [h.uniq h' e]; exact ne_self h'.nilOr
theorem DenF.same {B B' w : Nat} {d d' : D} {P P' : Vl → Prop} (h : DenF B w d P) (h' : DenF B' w d' P') (e : ∀ a, P a ↔ P' a) {M : Mp} {Q : VK3} : oEq true d d' M Q = Q (.bl false) M := by
  rw [h.uniq h' e]; exact ne_self h'.nilOr
end L3
set_option Elab.async false
set_option linter.all false
set_option maxRecDepth 100000
set_option maxHeartbeats 4000000
namespace L3
open PySem PySem.Spec PyProof.Rows L2
end L3
set_option Elab.async false
set_option linter.all false
set_option maxRecDepth 100000
set_option maxHeartbeats 4000000
namespace L3
open PySem PySem.Spec PyProof.Rows L2
/-- a holds cells and three numbers, the last one at most b -/
def Fd (b : Nat) (M : Mp) (a : Addr) : Prop := ∃ (cs : List Int) (i : Nat) (g : Int) (n : Nat), n ≤ b ∧ M a = some (.lst [.rol (cs.map D.int), .int i, .int g, .int n])
theorem Fd.mono {b c : Nat} {M : Mp} {a : Addr} (f : Fd b M a) (h : b ≤ c) : Fd c M a := by
  obtain ⟨cs, i, g, n, hn, e⟩ := f
  exact ⟨cs, i, g, n, by omega, e⟩
theorem Fd.put {b : Nat} {a f : Addr} {M : Mp} {o : MO} (x : Fd b M a) (h : f ≠ a) : Fd b (mset M f o) a := by
  obtain ⟨cs, i, g, n, hn, e⟩ := x
  exact ⟨cs, i, g, n, hn, by rw [mset_ne (Ne.symm h)]; exact e⟩
theorem Fd.ne {b : Nat} {a f : Addr} {M : Mp} (x : Fd b M a) (h : M f = none) : f ≠ a := by
  obtain ⟨cs, i, g, n, hn, e⟩ := x
  exact fun z => by rw [z, e] at h; cases h
end L3
set_option Elab.async false
set_option linter.all false
set_option maxRecDepth 100000
set_option maxHeartbeats 4000000
namespace L3
open PySem PySem.Spec PyProof.Rows L2
theorem Gr.none {a b : Addr} {M M' : Mp} (x : Gr a M M') (h : M' b = none) (hb : b ≠ a) : M b = none := by
  cases e : M b with
  | none => rfl
  | some o => rw [x b o hb e] at h; cases h
end L3
set_option Elab.async false
set_option linter.all false
set_option maxRecDepth 100000
set_option maxHeartbeats 4000000
namespace L3
open PySem PySem.Spec PyProof.Rows L2
def RowFrom (n : Nat) (T : Tab) (p : Nat) (d : D) : Prop := (d = .non ∧ ∀ S, ¬ IsCl n (at2 T) S) ∨ ∃ l : List Ed, d = rowD l ∧ l.length = n ∧ Stable n (at2 T) (at1 l) ∧ eLe (at1 l p) (some 0) ∧ ∀ S, IsCl n (at2 T) S → ∀ i, i < n → at1 l i = S p i
end L3
set_option Elab.async false
set_option linter.all false
set_option maxRecDepth 100000
set_option maxHeartbeats 4000000
namespace L3
open PySem PySem.Spec PyProof.Rows L2
theorem RowFrom.pl {n p : Nat} {T : Tab} {d : D} (h : RowFrom n T p d) : plain d = true ∧ deep d ≤ 1 := by
  rcases h with ⟨rfl, _⟩ | ⟨l, rfl, _⟩
  · exact ⟨rfl, by simp [deep]⟩
  · have p := pl_row (l := l)
    refine ⟨p.p, ?_⟩
    show deeps (l.map oD) + 1 ≤ 1
    have : deeps (l.map oD) = 0 := by
      clear p
      rename_i hh; clear hh
      induction l with
      | nil => rfl
      | cons a r ih => cases a <;> simp [deeps, oD, deep, ih]
    omega
end L3
set_option Elab.async false
set_option linter.all false
set_option maxRecDepth 100000
set_option maxHeartbeats 4000000
namespace L3
open PySem PySem.Spec PyProof.Rows L2
theorem eqv_tab : ∀ {S T : Tab}, PyData.eqvAll (pdsOf (S.map rowD)) (pdsOf (T.map rowD)) = decide (S = T)
  | [], [] => by simp [pdsOf, PyData.eqvAll]
  | [], b :: k => by simp [pdsOf, PyData.eqvAll]
  | a :: l, [] => by simp [pdsOf, PyData.eqvAll]
  | a :: l, b :: k => by
    have h1 : PyData.eqv (pdOf (rowD a)) (pdOf (rowD b)) = decide (a = b) := by
      simp only [rowD, pdOf, PyData.eqv, eqv_row]
    simp only [List.map_cons, pdsOf, PyData.eqvAll, h1, eqv_tab (S := l) (T := k)]
    by_cases h : a = b <;> by_cases h2 : l = k <;> simp [h, h2]
theorem eqD_tab {S T : Tab} : eqD (tabD S) (tabD T) = decide (S = T) := by
  simp only [eqD, tabD, pdOf, PyData.eqv, eqv_tab]
theorem eq_tabs {S T : Tab} {M : Mp} {Q : VK3} : oEq false (tabD S) (tabD T) M Q = Q (.bl (decide (S = T))) M := by
  rw [← eqD_tab]
  have p := pl_tab (T := S)
  have p2 := pl_tab (T := T)
  unfold tabD at *
  rw [op_eqTf, tp_tup]
  exact propext ⟨fun x => x.2.2, fun x => ⟨p, p2, x⟩⟩
theorem Fd.le {b : Nat} {a : Addr} {M M' : Mp} (x : Fd b M a) (h : Le M M') : Fd b M' a := by
  obtain ⟨cs, i, g, n, hn, e⟩ := x
  exact ⟨cs, i, g, n, hn, h _ _ e⟩
end L3
set_option Elab.async false
set_option linter.all false
set_option maxRecDepth 100000
set_option maxHeartbeats 4000000
namespace L3
open PySem PySem.Spec PyProof.Rows L2
end L3
set_option Elab.async false
set_option linter.all false
set_option maxRecDepth 100000
set_option maxHeartbeats 4000000
namespace L3
open PySem PySem.Spec PyProof.Rows L2
def leB : Ed → Ed → Bool
  | _, none => true
  | none, some _ => false
  | some x, some y => decide (x ≤ y)
/-- every end of one is at most that of the other -/
def WI (n : Nat) (S U : Tab) : Prop := ∀ p q, p < n → q < n → leB (at2 S p q) (at2 U p q) = true
/-- what is told of two tables -/
def WB (n : Nat) (S U : Tab) (b : Bool) : Prop := (S = [] ∧ b = true) ∨ (S ≠ [] ∧ U = [] ∧ b = false) ∨ (S ≠ [] ∧ U ≠ [] ∧ (b = true ↔ WI n S U))
theorem WB.uniq {n : Nat} {S U : Tab} {b c : Bool} (h : WB n S U b) (h' : WB n S U c) : b = c := by
  rcases h with ⟨e, r⟩ | ⟨e, f, r⟩ | ⟨e, f, r⟩ <;> rcases h' with ⟨e', r'⟩ | ⟨e', f', r'⟩ | ⟨e', f', r'⟩
  · rw [r, r']
  · exact absurd e e'
  · exact absurd e e'
  · exact absurd e' e
  · rw [r, r']
  · exact absurd f f'
  · exact absurd e' e
  · exact absurd f' f
  · rw [Bool.eq_iff_iff, r, r']
end L3
set_option Elab.async false
set_option linter.all false
set_option maxRecDepth 100000
set_option maxHeartbeats 4000000
namespace L3
open PySem PySem.Spec PyProof.Rows L2
end L3
set_option Elab.async false
set_option linter.all false
set_option maxRecDepth 100000
set_option maxHeartbeats 4000000
namespace L3
open PySem PySem.Spec PyProof.Rows L2
/-- tables that may be asked for: on k points or (), with what they are closed -/
structure Ct (b k : Nat) (d : D) : Prop where
  ex : ∃ (n B : Nat) (U V : Tab), d = tabD U ∧ n ≤ k ∧ 0 < B ∧ B ≤ b ∧ TabB B n U ∧ (U = [] ∨ n = k) ∧ Closes n B U (tabD V) ∧ (V = [] ∨ (Sq k V ∧ 0 < k)) ∧ (U = [] ∨ (Sq k U ∧ 0 < k)) ∧ ∃ C, C = 2 ^ k * b ∧ (V = [] ∨ TabB C k V)
theorem Ct.mono {b c k : Nat} {d : D} (h : Ct b k d) (hb : b ≤ c) : Ct c k d := by
  obtain ⟨n, B, U, V, e, h1, h2, h3, h4, h5, h6, h7, h8, C, rfl, h9⟩ := h.ex
  refine ⟨n, B, U, V, e, h1, h2, Nat.le_trans h3 hb, h4, h5, h6, h7, h8, _, rfl, ?_⟩
  rcases h9 with h | h
  · exact .inl h
  · exact .inr (h.mono (Nat.mul_le_mul_left _ hb))
theorem Ct.tm {b k : Nat} {d : D} (h : Ct b k d) (hb : b ≤ 10 ^ 100) (hk : k ≤ 7) : Tm 2 56 d := by
  obtain ⟨n, B, U, V, rfl, hn, _, hB, t, _⟩ := h.ex
  exact (Tm.tab t (Nat.le_trans hB hb)).mono (Nat.le_refl _) (Nat.mul_le_mul (Nat.le_trans hn hk) (Nat.add_le_add_right (Nat.le_trans hn hk) 1))
end L3
set_option Elab.async false
set_option linter.all false
set_option maxRecDepth 100000
set_option maxHeartbeats 4000000
namespace L3
open PySem PySem.Spec PyProof.Rows L2
def vW (vs : List Int) : Vl := fun i => (vs ++ [0]).getD i 0
def MetB (n : Nat) (T : Tab) (vs : List Int) (b : Bool) : Prop := (T = [] ∧ b = false) ∨ (T ≠ [] ∧ (b = true ↔ Meets n (at2 T) (vW vs)))
theorem MetB.uniq {n : Nat} {T : Tab} {vs : List Int} {b c : Bool} (h : MetB n T vs b) (h' : MetB n T vs c) : b = c := by
  rcases h with ⟨e, rfl⟩ | ⟨e, h⟩
  · rcases h' with ⟨_, rfl⟩ | ⟨e', _⟩
    · rfl
    · exact absurd e e'
  · rcases h' with ⟨e', _⟩ | ⟨_, h'⟩
    · exact absurd e' e
    · rw [Bool.eq_iff_iff, h, h']
end L3
set_option Elab.async false
set_option linter.all false
set_option maxRecDepth 100000
set_option maxHeartbeats 4000000
namespace L3
open PySem PySem.Spec PyProof.Rows L2
def Bxd (n : Nat) (W : Int) (T : Tab) : Prop := ∀ p, p + 1 < n → (∃ x, at2 T p (n - 1) = some x ∧ x ≤ W) ∧ ∃ x, at2 T (n - 1) p = some x ∧ x ≤ W
end L3
set_option Elab.async false
set_option linter.all false
set_option maxRecDepth 100000
set_option maxHeartbeats 4000000
namespace L3
open PySem PySem.Spec PyProof.Rows L2
/-- a list that may be written or not -/
def IsL (M : Mp) (d : D) (ds : List D) : Prop := d = .rol ds ∨ ∃ l, d = .ref l ∧ M l = some (.lst ds)
theorem IsL.items {M : Mp} {d : D} {ds : List D} (h : IsL M d ds) : items M d = some ds := by
  rcases h with rfl | ⟨l, rfl, h⟩
  · rfl
  · show lstOf (M l) = some ds
    rw [h]; rfl
theorem IsL.keep {M M' : Mp} {d : D} {ds : List D} (h : IsL M' d ds) : keepG M d ds M' := by
  rcases h with rfl | ⟨l, rfl, h⟩
  · exact True.intro
  · exact h
theorem IsL.put {M : Mp} {d : D} {ds : List D} {f : Addr} {o : MO} (h : IsL M d ds) (hf : ∀ l, d = .ref l → f ≠ l) : IsL (mset M f o) d ds := by
  rcases h with rfl | ⟨l, rfl, h⟩
  · exact .inl rfl
  · exact .inr ⟨l, rfl, (mset_ne (Ne.symm (hf l rfl))).trans h⟩
end L3
set_option Elab.async false
set_option linter.all false
set_option maxRecDepth 100000
set_option maxHeartbeats 4000000
namespace L3
open PySem PySem.Spec PyProof.Rows L2
/-- rows as they are being boxed -/
structure BxR (n : Nat) (W : Int) (V : Tab) (i : Nat) : Prop where
  len : V.length = i
  rows : ∀ r ∈ V, r.length = n ∧ ∀ e ∈ r, EdB 13 e
  low : ∀ p, p < i → p + 1 < n → ∃ x, at2 V p (n - 1) = some x ∧ x ≤ W
  last : ∀ p, p < i → p + 1 = n → ∀ j, j + 1 < n → ∃ x, at2 V p j = some x ∧ x ≤ W
theorem BxR.done {n : Nat} {W : Int} {V : Tab} (h : BxR n W V n) : TabB 13 n V ∧ Bxd n W V :=
  ⟨⟨h.len, fun r hr => (h.rows r hr).1, fun r hr e he => (h.rows r hr).2 e he⟩, fun p hp => ⟨h.low p (by omega) hp, h.last (n - 1) (by omega) (by omega) p hp⟩⟩
end L3
set_option Elab.async false
set_option linter.all false
set_option maxRecDepth 100000
set_option maxHeartbeats 4000000
namespace L3
open PySem PySem.Spec PyProof.Rows L2
end L3
set_option Elab.async false
set_option linter.all false
set_option maxRecDepth 100000
set_option maxHeartbeats 4000000
namespace L3
open PySem PySem.Spec PyProof.Rows L2
end L3
set_option Elab.async false
set_option linter.all false
set_option maxRecDepth 100000
set_option maxHeartbeats 4000000
namespace L3
open PySem PySem.Spec PyProof.Rows L2
end L3
set_option Elab.async false
set_option linter.all false
set_option maxRecDepth 100000
set_option maxHeartbeats 4000000
namespace L3
open PySem PySem.Spec PyProof.Rows L2
def PullTo (T : Tab) (pl : List Nat) (i j : Nat) (s : Nat → Ed) : Prop := ∀ p q, p < T.length → q < T.length → (p < i ∨ (p = i ∧ q < j)) → eLe (s (pl.getD q 0)) (eAdd (s (pl.getD p 0)) (at2 T p q))
structure Upto (B n : Nat) (T : Tab) (pl : List Nat) (i j : Nat) (us : List Trip) : Prop where
  ok : TripsOk n B us
  st : ∀ s, StE (us.map edgeOf) s ↔ PullTo T pl i j s
  len : us.length ≤ i * 7 + j
theorem Upto.next {B n : Nat} {T : Tab} {pl : List Nat} {i : Nat} {us : List Trip} (h : Upto B n T pl i T.length us) (h7 : T.length ≤ 7) : Upto B n T pl (i + 1) 0 us :=
  ⟨h.ok, fun s => (h.st s).trans ⟨fun a p q hp hq c => a p q hp hq (by omega), fun a p q hp hq c => a p q hp hq (by omega)⟩, by have := h.len; omega⟩
end L3
set_option Elab.async false
set_option linter.all false
set_option maxRecDepth 100000
set_option maxHeartbeats 4000000
namespace L3
open PySem PySem.Spec PyProof.Rows L2
end L3
set_option Elab.async false
set_option linter.all false
set_option maxRecDepth 100000
set_option maxHeartbeats 4000000
namespace L3
open PySem PySem.Spec PyProof.Rows L2
def tableKR : XK3 → TS3 := fun E =>
  (wSeq (wSet 2 (wLcF (wRng1 (wCons (wVar 0) wNil)) (wgName 3) wYes (wRep (wC .non) (wVar 0)) [3]))
  (wSeq (wFor (wItems (wVar 1)) (wgTupN 3 (wgCons (wgName 4) (wgCons (wgName 5) (wgCons (wgName 6) wgNil)))) (wIfS (wOr (wB (wOp (oIsN false) (wOp oIx (wOp oIx (wVar 2) (wVar 4)) (wVar 5)) (wC .non))) (wB (wOp oLt (wVar 6) (wOp oIx (wOp oIx (wVar 2) (wVar 4)) (wVar 5))))) (wAsg (wVar 6) (wgSub (wOp oIx (wVar 2) (wVar 4)) (wVar 5) oPut)) wNext))
  (wRet (wCB bTuple (wCons (wLcF (wItems (wVar 2)) (wgName 7) wYes (wCB bTuple (wCons (wVar 7) wNil)) [7]) wNil)))))
theorem put_same {n p q : Nat} {T : Tab} (s : Sq n T) (hp : p < n) (hq : q < n) : putT T p q (at2 T p q) = T := by
  have h1 : p < T.length := by rw [s.rows]; exact hp
  have e1 : T.getD p [] = T[p] := by rw [List.getD_eq_getElem?_getD, List.getElem?_eq_getElem h1]; rfl
  have h2 : q < (T[p]).length := by rw [s.cols _ (List.getElem_mem h1)]; exact hq
  unfold putT at2
  rw [e1, List.getD_eq_getElem?_getD, List.getElem?_eq_getElem h2]
  show T.set p ((T[p]).set q (T[p])[q]) = T
  rw [List.set_getElem_self h2, List.set_getElem_self h1]
theorem s_tableK : STableM (spOf 2 8 tableKR) := by
  refine fun n ts rd Q E h0 h1 hrd hin q => ⟨rfl, ?_⟩
  show tableKR E _ [some (.int n), some rd, none, none, none, none, none, none] M0
  unfold tableKR
  rw [st_seq, st_set]
  refine lc_emptyF rfl (by decide) h0 h1 fun as M1 m => ?_
  dsimp only
  rw [st_seq, st_for]
  simp only [ex_c, ex_var, ex_op, ex_un, ex_b, ex_and, ex_or, ex_not, ex_andV, ex_orV, ex_notV, ex_if, ex_chain, ex_nil, ex_cons, ex_tup, ex_lst, ex_call, ex_callP, ex_cb, ex_bm, ex_rep, ex_sl, ex_noPart, ex_part, ex_yes, it_items, it_rng1, it_rng2, tg_name, tg_sub, tg_tup, tg_cons, tg_nil, gs_0, gs_s, ss_0, ss_s, op_ii, op_ss, op_tt, op_mm, op_sb, op_ng, op_iNf, op_iNt, op_lle, op_ixT, op_ixR, op_ixL, op_putE, op_appE, it_tupE, it_rolE, it_refE, lstOf_l, exL, asS_some, asI_int, asB_bl, asL_some, asN_some, ite3_t, ite3_f, bl_1, bl_lenT, bl_lenR, bl_lenL, bl_lenS, bl_tuple, bl_list, bl_abs, bl_intI, bl_intB, bl_max, bl_min, bl_repr, op_eqSf, op_eqSt, op_eqIf, op_eqIt, op_eqTf, op_eqTt, op_eqRf, op_eqRt, op_eqNf, op_eqNt, eqD_int, eqD_nil, pl_int, pl_nil, pl_non, pl_rnil, pl_bl, sl_tupE, sl_rolE, keep_ref, keep_tup, keep_rol, tp_int, tp_tup, tp_rol, tp_str, tp_bl, tp_non, tp_ref, oFd, oMd, oPw, oShl, oLt, oLe, oGt, oGe, op_in, op_cp, wipe_nil, wipe_cons, mset_same, true_and, and_true, isN_int, sz_0, sz_1, sz_2, sz_3, sz_4, sz_5, sz_6, sz_7, sz_8, sz_9, sz_10, sz_11, sz_12, ex_lstF, ex_repF, ex_lgF1, ex_lgF2, ex_tupRg1, ex_tupRg2, ex_frz, ex_slF, ex_slM, sl_tupF, sl_rolF, op_iiF, op_ssF, op_ttF, op_rrF, op_rrM, op_mmF, op_repF, li_rol, li_ref, bl_listF, bl_allF, bl_anyF, asT_some, asJ_some, op_eqLf, op_eqLt, op_eqBf, op_eqBt, isN_non, Bool.not_true, Bool.not_false, hrd.items, hrd.keep]
  refine for_of tripD (fun i τ M' => i ≤ ts.length ∧ Rows M0 M' as ((ts.take i).foldl stepM (emptyT n.toNat)) ∧ ∃ x3 x4 x5 x6 x7, τ = [some (.int n), some rd, some (.rol (as.map D.ref)), x3, x4, x5, x6, x7]) (fun _ _ _ _ => True.intro) ?_ ?_ ⟨Nat.zero_le _, m, _, _, _, _, _, rfl⟩
  · rintro i t τ M' ht ⟨hi, m', x3, x4, x5, x6, x7, rfl⟩ X hX
    have hlt := (List.getElem?_eq_some_iff.mp ht).1
    obtain ⟨p, r, c⟩ := t
    obtain ⟨b1, b2, b3, b4⟩ := hin _ (List.mem_of_getElem? ht)
    simp only at b1 b2 b3 b4
    have s : Sq n.toNat ((ts.take i).foldl stepM (emptyT n.toNat)) := Sq.foldM .empty
    have nx : (ts.take (i + 1)).foldl stepM (emptyT n.toNat) = stepM ((ts.take i).foldl stepM (emptyT n.toNat)) (p, r, c) := by
      rw [List.take_succ, ht, List.foldl_append]; rfl
    generalize (ts.take i).foldl stepM (emptyT n.toNat) = T at m' s nx
    obtain ⟨a, row, g1, g2, g3, g4, g5, g6⟩ := m'.at2R s (p := p) (q := r) b1 (by omega) b3 (by omega)
    have val : stepM T (p, r, c) = putT T p.toNat r.toNat (eMin (at2 T p.toNat r.toNat) (some c)) := rfl
    simp only [ex_c, ex_var, ex_op, ex_un, ex_b, ex_and, ex_or, ex_not, ex_andV, ex_orV, ex_notV, ex_if, ex_chain, ex_nil, ex_cons, ex_tup, ex_lst, ex_call, ex_callP, ex_cb, ex_bm, ex_rep, ex_sl, ex_noPart, ex_part, ex_yes, it_items, it_rng1, it_rng2, tg_name, tg_sub, tg_tup, tg_cons, tg_nil, gs_0, gs_s, ss_0, ss_s, op_ii, op_ss, op_tt, op_mm, op_sb, op_ng, op_iNf, op_iNt, op_lle, op_ixT, op_ixR, op_ixL, op_putE, op_appE, it_tupE, it_rolE, it_refE, lstOf_l, exL, asS_some, asI_int, asB_bl, asL_some, asN_some, ite3_t, ite3_f, bl_1, bl_lenT, bl_lenR, bl_lenL, bl_lenS, bl_tuple, bl_list, bl_abs, bl_intI, bl_intB, bl_max, bl_min, op_eqSf, op_eqSt, op_eqIf, op_eqIt, op_eqTf, op_eqTt, op_eqRf, op_eqRt, op_eqNf, op_eqNt, eqD_int, eqD_nil, pl_int, pl_nil, pl_non, pl_rnil, pl_bl, sl_tupE, sl_rolE, keep_ref, keep_tup, keep_rol, tp_int, tp_tup, tp_rol, tp_str, tp_bl, tp_non, tp_ref, oFd, oMd, oPw, oShl, oLt, oLe, oGt, oGe, op_in, op_cp, wipe_nil, wipe_cons, mset_same, true_and, and_true, isN_int, ex_lstF, ex_repF, ex_lgF1, ex_lgF2, ex_tupRg1, ex_tupRg2, ex_frz, ex_slF, ex_slM, sl_tupF, sl_rolF, op_iiF, op_ssF, op_ttF, op_rrF, op_rrM, op_mmF, op_repF, li_rol, li_ref, bl_listF, bl_allF, bl_anyF, asT_some, asJ_some, op_eqBf, op_eqBt, isN_non, Bool.not_true, Bool.not_false, rep2, tripD, List.length_cons, List.length_nil]
    rw [st_if]
    cases he : at2 T p.toNat r.toNat with
    | none =>
      rw [he] at g3 val
      simp only [ex_c, ex_var, ex_op, ex_un, ex_b, ex_and, ex_or, ex_not, ex_andV, ex_orV, ex_notV, ex_if, ex_chain, ex_nil, ex_cons, ex_tup, ex_lst, ex_call, ex_callP, ex_cb, ex_bm, ex_rep, ex_sl, ex_noPart, ex_part, ex_yes, it_items, it_rng1, it_rng2, tg_name, tg_sub, tg_tup, tg_cons, tg_nil, gs_0, gs_s, ss_0, ss_s, op_ii, op_ss, op_tt, op_mm, op_sb, op_ng, op_iNf, op_iNt, op_lle, op_ixT, op_ixR, op_ixL, op_putE, op_appE, it_tupE, it_rolE, it_refE, lstOf_l, exL, asS_some, asI_int, asB_bl, asL_some, asN_some, ite3_t, ite3_f, bl_1, bl_lenT, bl_lenR, bl_lenL, bl_lenS, bl_tuple, bl_list, bl_abs, bl_intI, bl_intB, bl_max, bl_min, op_eqSf, op_eqSt, op_eqIf, op_eqIt, op_eqTf, op_eqTt, op_eqRf, op_eqRt, op_eqNf, op_eqNt, eqD_int, eqD_nil, pl_int, pl_nil, pl_non, pl_rnil, pl_bl, sl_tupE, sl_rolE, keep_ref, keep_tup, keep_rol, tp_int, tp_tup, tp_rol, tp_str, tp_bl, tp_non, tp_ref, oFd, oMd, oPw, oShl, oLt, oLe, oGt, oGe, op_in, op_cp, wipe_nil, wipe_cons, mset_same, true_and, and_true, isN_int, ex_lstF, ex_repF, ex_lgF1, ex_lgF2, ex_tupRg1, ex_tupRg2, ex_frz, ex_slF, ex_slM, sl_tupF, sl_rolF, op_iiF, op_ssF, op_ttF, op_rrF, op_rrM, op_mmF, op_repF, li_rol, li_ref, bl_listF, bl_allF, bl_anyF, asT_some, asJ_some, op_eqBf, op_eqBt, isN_non, Bool.not_true, Bool.not_false, rep2, g1, g2, g3, oD, isN_non]
      rw [st_asg]
      simp only [ex_c, ex_var, ex_op, ex_un, ex_b, ex_and, ex_or, ex_not, ex_andV, ex_orV, ex_notV, ex_if, ex_chain, ex_nil, ex_cons, ex_tup, ex_lst, ex_call, ex_callP, ex_cb, ex_bm, ex_rep, ex_sl, ex_noPart, ex_part, ex_yes, it_items, it_rng1, it_rng2, tg_name, tg_sub, tg_tup, tg_cons, tg_nil, gs_0, gs_s, ss_0, ss_s, op_ii, op_ss, op_tt, op_mm, op_sb, op_ng, op_iNf, op_iNt, op_lle, op_ixT, op_ixR, op_ixL, op_putE, op_appE, it_tupE, it_rolE, it_refE, lstOf_l, exL, asS_some, asI_int, asB_bl, asL_some, asN_some, ite3_t, ite3_f, bl_1, bl_lenT, bl_lenR, bl_lenL, bl_lenS, bl_tuple, bl_list, bl_abs, bl_intI, bl_intB, bl_max, bl_min, op_eqSf, op_eqSt, op_eqIf, op_eqIt, op_eqTf, op_eqTt, op_eqRf, op_eqRt, op_eqNf, op_eqNt, eqD_int, eqD_nil, pl_int, pl_nil, pl_non, pl_rnil, pl_bl, sl_tupE, sl_rolE, keep_ref, keep_tup, keep_rol, tp_int, tp_tup, tp_rol, tp_str, tp_bl, tp_non, tp_ref, oFd, oMd, oPw, oShl, oLt, oLe, oGt, oGe, op_in, op_cp, wipe_nil, wipe_cons, mset_same, true_and, and_true, isN_int, ex_lstF, ex_repF, ex_lgF1, ex_lgF2, ex_tupRg1, ex_tupRg2, ex_frz, ex_slF, ex_slM, sl_tupF, sl_rolF, op_iiF, op_ssF, op_ttF, op_rrF, op_rrM, op_mmF, op_repF, li_rol, li_ref, bl_listF, bl_allF, bl_anyF, asT_some, asJ_some, op_eqBf, op_eqBt, isN_non, Bool.not_true, Bool.not_false, rep2, g1, g2, g4]
      refine hX _ _ ⟨hlt, ?_, _, _, _, _, _, rfl⟩
      rw [nx, val]
      exact m'.putR (x := some c) g5 g6
    | some y =>
      rw [he] at g3 val
      simp only [ex_c, ex_var, ex_op, ex_un, ex_b, ex_and, ex_or, ex_not, ex_andV, ex_orV, ex_notV, ex_if, ex_chain, ex_nil, ex_cons, ex_tup, ex_lst, ex_call, ex_callP, ex_cb, ex_bm, ex_rep, ex_sl, ex_noPart, ex_part, ex_yes, it_items, it_rng1, it_rng2, tg_name, tg_sub, tg_tup, tg_cons, tg_nil, gs_0, gs_s, ss_0, ss_s, op_ii, op_ss, op_tt, op_mm, op_sb, op_ng, op_iNf, op_iNt, op_lle, op_ixT, op_ixR, op_ixL, op_putE, op_appE, it_tupE, it_rolE, it_refE, lstOf_l, exL, asS_some, asI_int, asB_bl, asL_some, asN_some, ite3_t, ite3_f, bl_1, bl_lenT, bl_lenR, bl_lenL, bl_lenS, bl_tuple, bl_list, bl_abs, bl_intI, bl_intB, bl_max, bl_min, op_eqSf, op_eqSt, op_eqIf, op_eqIt, op_eqTf, op_eqTt, op_eqRf, op_eqRt, op_eqNf, op_eqNt, eqD_int, eqD_nil, pl_int, pl_nil, pl_non, pl_rnil, pl_bl, sl_tupE, sl_rolE, keep_ref, keep_tup, keep_rol, tp_int, tp_tup, tp_rol, tp_str, tp_bl, tp_non, tp_ref, oFd, oMd, oPw, oShl, oLt, oLe, oGt, oGe, op_in, op_cp, wipe_nil, wipe_cons, mset_same, true_and, and_true, isN_int, ex_lstF, ex_repF, ex_lgF1, ex_lgF2, ex_tupRg1, ex_tupRg2, ex_frz, ex_slF, ex_slM, sl_tupF, sl_rolF, op_iiF, op_ssF, op_ttF, op_rrF, op_rrM, op_mmF, op_repF, li_rol, li_ref, bl_listF, bl_allF, bl_anyF, asT_some, asJ_some, op_eqBf, op_eqBt, isN_non, Bool.not_true, Bool.not_false, rep2, g1, g2, g3, oD, isN_int]
      refine ite3_by (fun hlt' => ?_) (fun hge => ?_)
      · have hc := of_decide_eq_true hlt'
        rw [st_asg]
        simp only [ex_c, ex_var, ex_op, ex_un, ex_b, ex_and, ex_or, ex_not, ex_andV, ex_orV, ex_notV, ex_if, ex_chain, ex_nil, ex_cons, ex_tup, ex_lst, ex_call, ex_callP, ex_cb, ex_bm, ex_rep, ex_sl, ex_noPart, ex_part, ex_yes, it_items, it_rng1, it_rng2, tg_name, tg_sub, tg_tup, tg_cons, tg_nil, gs_0, gs_s, ss_0, ss_s, op_ii, op_ss, op_tt, op_mm, op_sb, op_ng, op_iNf, op_iNt, op_lle, op_ixT, op_ixR, op_ixL, op_putE, op_appE, it_tupE, it_rolE, it_refE, lstOf_l, exL, asS_some, asI_int, asB_bl, asL_some, asN_some, ite3_t, ite3_f, bl_1, bl_lenT, bl_lenR, bl_lenL, bl_lenS, bl_tuple, bl_list, bl_abs, bl_intI, bl_intB, bl_max, bl_min, op_eqSf, op_eqSt, op_eqIf, op_eqIt, op_eqTf, op_eqTt, op_eqRf, op_eqRt, op_eqNf, op_eqNt, eqD_int, eqD_nil, pl_int, pl_nil, pl_non, pl_rnil, pl_bl, sl_tupE, sl_rolE, keep_ref, keep_tup, keep_rol, tp_int, tp_tup, tp_rol, tp_str, tp_bl, tp_non, tp_ref, oFd, oMd, oPw, oShl, oLt, oLe, oGt, oGe, op_in, op_cp, wipe_nil, wipe_cons, mset_same, true_and, and_true, isN_int, ex_lstF, ex_repF, ex_lgF1, ex_lgF2, ex_tupRg1, ex_tupRg2, ex_frz, ex_slF, ex_slM, sl_tupF, sl_rolF, op_iiF, op_ssF, op_ttF, op_rrF, op_rrM, op_mmF, op_repF, li_rol, li_ref, bl_listF, bl_allF, bl_anyF, asT_some, asJ_some, op_eqBf, op_eqBt, isN_non, Bool.not_true, Bool.not_false, rep2, g1, g2, g4]
        refine hX _ _ ⟨hlt, ?_, _, _, _, _, _, rfl⟩
        have ev : eMin (some y) (some c) = some c := by simp only [eMin]; rw [if_pos hc]
        rw [nx, val, ev]
        exact m'.putR (x := some c) g5 g6
      · have hc := of_decide_eq_false hge
        rw [st_next]
        refine hX _ _ ⟨hlt, ?_, _, _, _, _, _, rfl⟩
        have ev : eMin (some y) (some c) = some y := by simp only [eMin]; rw [if_neg hc]
        rw [nx, val, ev, ← he, put_same s (by omega) (by omega)]
        exact m'
  · rintro τ M' ⟨hi, m', x3, x4, x5, x6, x7, rfl⟩
    rw [List.take_length] at m'
    have s : Sq n.toNat (ts.foldl stepM (emptyT n.toNat)) := Sq.foldM .empty
    have big : (1000 : Nat) ≤ sizeLine := by decide
    dsimp only
    rw [st_ret]
    refine tab_of_rows rfl (by simp) m' (by rw [m'.len2 s]; omega) ?_
    exact q _
end L3
set_option Elab.async false
set_option linter.all false
set_option maxRecDepth 100000
set_option maxHeartbeats 4000000
namespace L3
open PySem PySem.Spec PyProof.Rows L2
end L3
set_option Elab.async false
set_option linter.all false
set_option maxRecDepth 100000
set_option maxHeartbeats 4000000
namespace L3
open PySem PySem.Spec PyProof.Rows L2
theorem asIn_ref {n : Str} {M : Mp} {a : Addr} {fs : List (Str × D)} {k : Addr → List (Str × D) → Prop} (h : M a = some (.ins n fs)) : asIn n M (.ref a) k = k a fs := by
  unfold asIn; dsimp only; rw [h]; exact propext ⟨fun z => z.2, fun z => ⟨rfl, z⟩⟩
theorem ex_fld {n f : Str} {te : TE3} {τ : St3} {M : Mp} {Q : VK3} : wFld n f te τ M Q = te τ M fun d M1 => asIn n M1 d fun _ fs => asS (fs.lookup f) fun v => Q v M1 := rfl
theorem st_fld {n f : Str} {to tv : TE3} {D : Ends3} {τ : St3} {M : Mp} : wFldSet n f to tv D τ M = tv τ M fun y M1 => to τ M1 fun d M2 => asIn n M2 d fun a fs => fs.length < 1000 ∧ D.nx τ (mset M2 a (.ins n (putS f y fs))) := rfl
theorem ex_meth {n m : Str} {sp : Sp3} {E : XK3} {to : TE3} {t : TA3} {τ : St3} {M : Mp} {Q : VK3} : wMeth n m sp E to t τ M Q = to τ M fun d M1 => asIn n M1 d fun a fs => fs.lookup m = none ∧ t τ M1 fun ds M2 => sp (.ref a :: ds) M2 Q E := rfl
theorem ex_prop {n : Str} {sp : Sp3} {te : TE3} {τ : St3} {M : Mp} {Q : VK3} : wProp n sp te τ M Q = te τ M fun d M1 => asIn n M1 d fun a _ => sp [.ref a] M1 Q X0 := rfl
theorem ex_make {n : Str} {dd : List D} {sp : Sp3} {t : TA3} {τ : St3} {M : Mp} {Q : VK3} : wMake n dd sp t τ M Q = t τ M fun ds M1 => ∀ a, M1 a = none → sp (.ref a :: (ds ++ dd)) (mset M1 a (.ins n [])) (fun v M2 => v = .non ∧ Q (.ref a) M2) X0 := rfl
theorem bl_lenO {n : Str} {sp : Sp3} {d : D} {M : Mp} {Q : VK3} : bLenO n sp [d] M Q = asIn n M d fun a _ => sp [.ref a] M (fun v M2 => asI v fun i => (0 ≤ i ∧ i < 2 ^ 63) ∧ Q (.int i) M2) X0 := rfl
theorem bl_reprO {n : Str} {sp : Sp3} {d : D} {M : Mp} {Q : VK3} : bReprO n sp [d] M Q = asIn n M d fun a _ => sp [.ref a] M (fun v M2 => asSt v fun z => Q (.str z) M2) X0 := rfl
theorem asSt_s {z : Str} {k : Str → Prop} : asSt (.str z) k = k z := rfl
theorem asRf_r {a : Addr} {k : Addr → Prop} : asRf (.ref a) k = k a := rfl
theorem js_nil {acc : Str} {τ : St3} {M : Mp} {Q : VK3} : wJs [] acc τ M Q = Q (.str acc) M := rfl
theorem js_cons {t : TE3} {ts : List TE3} {acc : Str} {τ : St3} {M : Mp} {Q : VK3} : wJs (t :: ts) acc τ M Q = t τ M fun d M1 => asSt d fun y => (acc ++ y).length ≤ sizeLine ∧ wJs ts (acc ++ y) τ M1 Q := rfl
theorem ex_fmtI {te : TE3} {τ : St3} {M : Mp} {Q : VK3} : wFmt te τ M Q = te τ M fun d M1 => match d with
  | .str y => y.length ≤ sizeLine ∧ Q (.str y) M1
  | .int i => i.natAbs.log2 < 1920 ∧ Q (.str (toString i)) M1
  | _ => False := rfl
abbrev lpF (w e p : D) : List (Str × D) := [(("width" : Str), w), (("ends" : Str), e), (("past" : Str), p)]
theorem lk_w {w e p : D} : (lpF w e p).lookup ("width" : Str) = some w := rfl
theorem lk_e {w e p : D} : (lpF w e p).lookup ("ends" : Str) = some e := rfl
theorem lk_p {w e p : D} : (lpF w e p).lookup ("past" : Str) = some p := rfl
theorem ps_w {w : D} : putS ("width" : Str) w [] = [(("width" : Str), w)] := rfl
theorem ps_e {w e : D} : putS ("ends" : Str) e [(("width" : Str), w)] = [(("width" : Str), w), (("ends" : Str), e)] := by
  unfold putS; rw [if_neg (by decide)]; rfl
theorem ps_p {w e p : D} : putS ("past" : Str) p [(("width" : Str), w), (("ends" : Str), e)] = lpF w e p := by
  unfold putS; rw [if_neg (by decide)]; unfold putS; rw [if_neg (by decide)]; rfl
abbrev Past := Int × Int × Ed
def pastD (x : Past) : D := .tup [.int x.1, .int x.2.1, oD x.2.2]
structure Lp (M : Mp) (o e p : Addr) (as : List Addr) (w : Nat) (T : Tab) (ps : List Past) : Prop where
  ob : M o = some (.ins "Loop" (lpF (.int w) (.ref e) (.ref p)))
  mat : Mat M e as T
  pst : M p = some (.lst (ps.map pastD))
  ne : e ≠ p
  np : p ∉ as
  sq : Sq (2 * w + 1) T
theorem Lp.le {M M' : Mp} {o e p : Addr} {as : List Addr} {w : Nat} {T : Tab} {ps : List Past} (h : Lp M o e p as w T ps) (l : Le M M') : Lp M' o e p as w T ps :=
  ⟨l _ _ h.ob, h.mat.le l, l _ _ h.pst, h.ne, h.np, h.sq⟩
theorem Mat.rows {M : Mp} {e : Addr} {as : List Addr} {T : Tab} (m : Mat M e as T) : Rows M0 M as T := ⟨(fun _ _ h => nomatch h), m.len, m.row, m.nd, fun _ _ => rfl⟩
theorem mem_ne {a b : Addr} {as : List Addr} (h : a ∈ as) (h2 : b ∉ as) : b ≠ a := fun z => h2 (z ▸ h)
/-- something else is written -/
theorem Mat.other {M : Mp} {e : Addr} {as : List Addr} {T : Tab} {b : Addr} {u : MO} (m : Mat M e as T) (h1 : b ≠ e) (h2 : b ∉ as) : Mat (mset M b u) e as T :=
  ⟨by rw [mset_ne h1.symm]; exact m.top, m.len, fun i a r e1 e2 => by rw [mset_ne (mem_ne (List.mem_of_getElem? e1) h2).symm]; exact m.row i a r e1 e2, m.nd, m.ne⟩
section
variable {M : Mp} {o e p : Addr} {as : List Addr} {w : Nat} {T : Tab} {ps : List Past}
theorem Mat.lst {a : Addr} (m : Mat M e as T) (h : a ∈ as) : ∃ ds, M a = some (.lst ds) := by
  obtain ⟨i, hi, rfl⟩ := List.mem_iff_getElem.mp h
  have hT : i < T.length := by rw [← m.len]; exact hi
  exact ⟨_, m.row i _ T[i] (List.getElem?_eq_getElem hi) (List.getElem?_eq_getElem hT)⟩
theorem Lp.op (h : Lp M o e p as w T ps) : o ≠ p := fun z => by have := h.ob; rw [z, h.pst] at this; cases this
theorem Lp.oa (h : Lp M o e p as w T ps) : o ∉ as := fun z => by
  obtain ⟨ds, hd⟩ := h.mat.lst z
  have := h.ob; rw [hd] at this; cases this
theorem Lp.putR {i q : Nat} {a : Addr} {r : List Ed} {x : Ed} (h : Lp M o e p as w T ps) (ha : as[i]? = some a) (hr : T[i]? = some r) : Lp (mset M a (.lst ((r.map oD).set q (oD x)))) o e p as w (putT T i q x) ps := by
  have am := List.mem_of_getElem? ha
  have e1 : T.getD i [] = r := by rw [List.getD_eq_getElem?_getD, hr]; rfl
  refine ⟨by rw [mset_ne (mem_ne am h.oa)]; exact h.ob, ?_, by rw [mset_ne (mem_ne am h.np)]; exact h.pst, h.ne, h.np, h.sq.put⟩
  rw [← List.map_set]
  unfold putT
  rw [e1]
  exact h.mat.put ha hr
theorem Lp.past {qs : List Past} (h : Lp M o e p as w T ps) : Lp (mset M p (.lst (qs.map pastD))) o e p as w T qs :=
  ⟨by rw [mset_ne h.op]; exact h.ob, h.mat.other h.ne.symm h.np, mset_same, h.ne, h.np, h.sq⟩
/-- what stands there -/
theorem Lp.at2 {i q : Int} (h : Lp M o e p as w T ps) (h0 : 0 ≤ i) (h1 : i < 2 * (w : Int) + 1) (h2 : 0 ≤ q) (h3 : q < 2 * (w : Int) + 1) :
    ∃ a r, atI (as.map D.ref) i = some (.ref a) ∧ M a = some (.lst (r.map oD)) ∧ atI (r.map oD) q = some (oD (at2 T i.toNat q.toNat)) ∧ ixN (r.map oD).length q = some q.toNat ∧ as[i.toNat]? = some a ∧ T[i.toNat]? = some r :=
  h.mat.rows.at2R h.sq h0 (by omega) h2 (by omega)
end
def putLR : XK3 → TS3 := fun E =>
  (wSeq (wSet 4 (wOp oIx (wOp oIx (wFld "Loop" ("ends" : PySem.Str) (wVar 0)) (wVar 1)) (wVar 2)))
  (wSeq (wDrop (wBM oApp (wFld "Loop" ("past" : PySem.Str) (wVar 0)) (wCons (wTup (wCons (wVar 1) (wCons (wVar 2) (wCons (wVar 4) wNil)))) wNil)))
  (wSeq (wAsg (wVar 3) (wgSub (wOp oIx (wFld "Loop" ("ends" : PySem.Str) (wVar 0)) (wVar 1)) (wVar 2) oPut))
  (wRet (wVar 4)))))
/-- only so much is written -/
def OnlyIn (fs : List Addr) (M M' : Mp) : Prop := ∀ b, b ∉ fs → M' b = M b
def SPutL (sp : Sp3) : Prop := ∀ (o e p : Addr) (as : List Addr) (w : Nat) (T : Tab) (ps : List Past) (i q : Int) (c : Ed) (M : Mp) (Q : VK3) (E : XK3), Lp M o e p as w T ps → 0 ≤ i → i < 2 * (w : Int) + 1 → 0 ≤ q → q < 2 * (w : Int) + 1 → ps.length < 1000 →
  (∀ M', Lp M' o e p as w (putT T i.toNat q.toNat c) (ps ++ [(i, q, at2 T i.toNat q.toNat)]) → OnlyIn (p :: as) M M' → Q (oD (at2 T i.toNat q.toNat)) M') → sp [.ref o, .int i, .int q, oD c] M Q E
theorem s_putL : SPutL (spOf 4 5 putLR) := by
  refine fun o e p as w T ps i q c M Q E h h0 h1 h2 h3 hl k => ⟨rfl, ?_⟩
  show putLR E _ [some (.ref o), some (.int i), some (.int q), some (oD c), none] M
  unfold putLR
  have big : (1000000 : Nat) ≤ sizeLine := by decide
  obtain ⟨a, r, g1, g2, g3, g4, g5, g6⟩ := h.at2 h0 h1 h2 h3
  rw [st_seq, st_set]
  simp only [ex_c, ex_var, ex_op, ex_un, ex_b, ex_and, ex_or, ex_not, ex_andV, ex_orV, ex_notV, ex_if, ex_chain, ex_nil, ex_cons, ex_tup, ex_lst, ex_call, ex_callP, ex_cb, ex_bm, ex_rep, ex_sl, ex_noPart, ex_part, ex_yes, it_items, it_rng1, it_rng2, tg_name, tg_sub, tg_tup, tg_cons, tg_nil, gs_0, gs_s, ss_0, ss_s, op_ii, op_ss, op_tt, op_mm, op_sb, op_ng, op_iNf, op_iNt, op_lle, op_ixT, op_ixR, op_ixL, op_putE, op_appE, it_tupE, it_rolE, it_refE, lstOf_l, exL, asS_some, asI_int, asB_bl, asL_some, asN_some, ite3_t, ite3_f, bl_1, bl_lenT, bl_lenR, bl_lenL, bl_lenS, bl_tuple, bl_list, bl_abs, bl_intI, bl_intB, bl_max, bl_min, op_eqSf, op_eqSt, op_eqIf, op_eqIt, op_eqTf, op_eqTt, op_eqRf, op_eqRt, op_eqNf, op_eqNt, eqD_int, eqD_nil, pl_int, pl_nil, pl_non, pl_rnil, pl_bl, sl_tupE, sl_rolE, keep_ref, keep_tup, keep_rol, tp_int, tp_tup, tp_rol, tp_str, tp_bl, tp_non, tp_ref, oFd, oMd, oPw, oShl, oLt, oLe, oGt, oGe, op_in, op_cp, wipe_nil, wipe_cons, mset_same, true_and, and_true, isN_int, ex_lstF, ex_repF, ex_lgF1, ex_lgF2, ex_tupRg1, ex_tupRg2, ex_frz, ex_slF, ex_slM, sl_tupF, sl_rolF, op_iiF, op_ssF, op_ttF, op_rrF, op_rrM, op_mmF, op_repF, li_rol, li_ref, bl_listF, bl_allF, bl_anyF, asT_some, asJ_some, op_eqBf, op_eqBt, isN_non, Bool.not_true, Bool.not_false, rep2, ex_fld, asIn_ref h.ob, lk_e, h.mat.top, g1, g2, g3]
  rw [st_seq, st_drop]
  simp only [ex_c, ex_var, ex_op, ex_un, ex_b, ex_and, ex_or, ex_not, ex_andV, ex_orV, ex_notV, ex_if, ex_chain, ex_nil, ex_cons, ex_tup, ex_lst, ex_call, ex_callP, ex_cb, ex_bm, ex_rep, ex_sl, ex_noPart, ex_part, ex_yes, it_items, it_rng1, it_rng2, tg_name, tg_sub, tg_tup, tg_cons, tg_nil, gs_0, gs_s, ss_0, ss_s, op_ii, op_ss, op_tt, op_mm, op_sb, op_ng, op_iNf, op_iNt, op_lle, op_ixT, op_ixR, op_ixL, op_putE, op_appE, it_tupE, it_rolE, it_refE, lstOf_l, exL, asS_some, asI_int, asB_bl, asL_some, asN_some, ite3_t, ite3_f, bl_1, bl_lenT, bl_lenR, bl_lenL, bl_lenS, bl_tuple, bl_list, bl_abs, bl_intI, bl_intB, bl_max, bl_min, op_eqSf, op_eqSt, op_eqIf, op_eqIt, op_eqTf, op_eqTt, op_eqRf, op_eqRt, op_eqNf, op_eqNt, eqD_int, eqD_nil, pl_int, pl_nil, pl_non, pl_rnil, pl_bl, sl_tupE, sl_rolE, keep_ref, keep_tup, keep_rol, tp_int, tp_tup, tp_rol, tp_str, tp_bl, tp_non, tp_ref, oFd, oMd, oPw, oShl, oLt, oLe, oGt, oGe, op_in, op_cp, wipe_nil, wipe_cons, mset_same, true_and, and_true, isN_int, ex_lstF, ex_repF, ex_lgF1, ex_lgF2, ex_tupRg1, ex_tupRg2, ex_frz, ex_slF, ex_slM, sl_tupF, sl_rolF, op_iiF, op_ssF, op_ttF, op_rrF, op_rrM, op_mmF, op_repF, li_rol, li_ref, bl_listF, bl_allF, bl_anyF, asT_some, asJ_some, op_eqBf, op_eqBt, isN_non, Bool.not_true, Bool.not_false, rep2, ex_fld, asIn_ref h.ob, lk_p, h.pst]
  refine ⟨by show 3 ≤ sizeLine; omega, by rw [List.length_map]; omega, ?_⟩
  have h' := h.past (qs := ps ++ [(i, q, at2 T i.toNat q.toNat)])
  simp only [List.map_append, List.map_cons, List.map_nil] at h'
  have np := h.np
  have nap : a ≠ p := fun z => np (z ▸ List.mem_of_getElem? g5)
  have g2' : mset M p (.lst (ps.map pastD ++ [pastD (i, q, at2 T i.toNat q.toNat)])) a = some (.lst (r.map oD)) := by rw [mset_ne nap]; exact g2
  show wSeq _ _ _ _ (mset M p (.lst (ps.map pastD ++ [pastD (i, q, at2 T i.toNat q.toNat)])))
  rw [st_seq, st_asg]
  simp only [ex_c, ex_var, ex_op, ex_un, ex_b, ex_and, ex_or, ex_not, ex_andV, ex_orV, ex_notV, ex_if, ex_chain, ex_nil, ex_cons, ex_tup, ex_lst, ex_call, ex_callP, ex_cb, ex_bm, ex_rep, ex_sl, ex_noPart, ex_part, ex_yes, it_items, it_rng1, it_rng2, tg_name, tg_sub, tg_tup, tg_cons, tg_nil, gs_0, gs_s, ss_0, ss_s, op_ii, op_ss, op_tt, op_mm, op_sb, op_ng, op_iNf, op_iNt, op_lle, op_ixT, op_ixR, op_ixL, op_putE, op_appE, it_tupE, it_rolE, it_refE, lstOf_l, exL, asS_some, asI_int, asB_bl, asL_some, asN_some, ite3_t, ite3_f, bl_1, bl_lenT, bl_lenR, bl_lenL, bl_lenS, bl_tuple, bl_list, bl_abs, bl_intI, bl_intB, bl_max, bl_min, op_eqSf, op_eqSt, op_eqIf, op_eqIt, op_eqTf, op_eqTt, op_eqRf, op_eqRt, op_eqNf, op_eqNt, eqD_int, eqD_nil, pl_int, pl_nil, pl_non, pl_rnil, pl_bl, sl_tupE, sl_rolE, keep_ref, keep_tup, keep_rol, tp_int, tp_tup, tp_rol, tp_str, tp_bl, tp_non, tp_ref, oFd, oMd, oPw, oShl, oLt, oLe, oGt, oGe, op_in, op_cp, wipe_nil, wipe_cons, mset_same, true_and, and_true, isN_int, ex_lstF, ex_repF, ex_lgF1, ex_lgF2, ex_tupRg1, ex_tupRg2, ex_frz, ex_slF, ex_slM, sl_tupF, sl_rolF, op_iiF, op_ssF, op_ttF, op_rrF, op_rrM, op_mmF, op_repF, li_rol, li_ref, bl_listF, bl_allF, bl_anyF, asT_some, asJ_some, op_eqBf, op_eqBt, isN_non, Bool.not_true, Bool.not_false, rep2, ex_fld, asIn_ref h'.ob, lk_e, h'.mat.top, g1, g2', g4]
  rw [st_ret]
  simp only [ex_c, ex_var, ex_op, ex_un, ex_b, ex_and, ex_or, ex_not, ex_andV, ex_orV, ex_notV, ex_if, ex_chain, ex_nil, ex_cons, ex_tup, ex_lst, ex_call, ex_callP, ex_cb, ex_bm, ex_rep, ex_sl, ex_noPart, ex_part, ex_yes, it_items, it_rng1, it_rng2, tg_name, tg_sub, tg_tup, tg_cons, tg_nil, gs_0, gs_s, ss_0, ss_s, op_ii, op_ss, op_tt, op_mm, op_sb, op_ng, op_iNf, op_iNt, op_lle, op_ixT, op_ixR, op_ixL, op_putE, op_appE, it_tupE, it_rolE, it_refE, lstOf_l, exL, asS_some, asI_int, asB_bl, asL_some, asN_some, ite3_t, ite3_f, bl_1, bl_lenT, bl_lenR, bl_lenL, bl_lenS, bl_tuple, bl_list, bl_abs, bl_intI, bl_intB, bl_max, bl_min, op_eqSf, op_eqSt, op_eqIf, op_eqIt, op_eqTf, op_eqTt, op_eqRf, op_eqRt, op_eqNf, op_eqNt, eqD_int, eqD_nil, pl_int, pl_nil, pl_non, pl_rnil, pl_bl, sl_tupE, sl_rolE, keep_ref, keep_tup, keep_rol, tp_int, tp_tup, tp_rol, tp_str, tp_bl, tp_non, tp_ref, oFd, oMd, oPw, oShl, oLt, oLe, oGt, oGe, op_in, op_cp, wipe_nil, wipe_cons, mset_same, true_and, and_true, isN_int, ex_lstF, ex_repF, ex_lgF1, ex_lgF2, ex_tupRg1, ex_tupRg2, ex_frz, ex_slF, ex_slM, sl_tupF, sl_rolF, op_iiF, op_ssF, op_ttF, op_rrF, op_rrM, op_mmF, op_repF, li_rol, li_ref, bl_listF, bl_allF, bl_anyF, asT_some, asJ_some, op_eqBf, op_eqBt, isN_non, Bool.not_true, Bool.not_false, rep2]
  refine k _ (h'.putR g5 g6) fun b hb => ?_
  simp only [List.mem_cons, not_or] at hb
  rw [mset_ne (mem_ne (List.mem_of_getElem? g5) hb.2), mset_ne hb.1]
end L3
set_option Elab.async false
set_option linter.all false
set_option maxRecDepth 100000
set_option maxHeartbeats 4000000
namespace L3
open PySem PySem.Spec PyProof.Rows L2
def stepLR : XK3 → TS3 := fun E =>
  (wRet (wCB bTuple (wCons (wLcF (wItems (wFld "Loop" ("ends" : PySem.Str) (wVar 0))) (wgName 1) wYes (wCB bTuple (wCons (wVar 1) wNil)) [1]) wNil)))
def SStepL (sp : Sp3) : Prop := ∀ (o e p : Addr) (as : List Addr) (w : Nat) (T : Tab) (ps : List Past) (M : Mp) (Q : VK3) (E : XK3), Lp M o e p as w T ps → w ≤ 400 → Q (tabD T) M → sp [.ref o] M Q E
theorem s_stepL : SStepL (spOf 1 2 stepLR) := by
  refine fun o e p as w T ps M Q E h hw q => ⟨rfl, ?_⟩
  show stepLR E _ [some (.ref o), none] M
  unfold stepLR
  have big : (1000000 : Nat) ≤ sizeLine := by decide
  have hlen := h.mat.len
  have hrow := h.sq.rows
  simp only [st_ret, ex_cb, ex_cons, ex_lcF, it_items, ex_fld, ex_var, asS_some, asIn_ref h.ob, lk_e, it_refE, h.mat.top, lstOf_l, asL_some, keep_ref, ex_nil, show getS [some (.ref o), none] 0 = some (D.ref o) from rfl]
  refine lc_pv (fun n acc M' => M' = M ∧ n ≤ T.length ∧ acc = (T.take n).map rowD) ?_ ?_ ⟨rfl, Nat.zero_le _, rfl⟩
  · rintro n d acc M' hd ⟨rfl, hn, rfl⟩ X hX
    refine ⟨h.mat.top, ?_⟩
    rw [List.getElem?_map] at hd
    obtain ⟨a, ha, rfl⟩ := Option.map_eq_some_iff.mp hd
    have hlt : n < T.length := by rw [← hlen]; exact (List.getElem?_eq_some_iff.mp ha).1
    have hT : T[n]? = some T[n] := List.getElem?_eq_getElem hlt
    simp only [tg_name, ex_yes, ite3_t, ex_cb, ex_cons, ex_var, asS_some, ex_nil, bl_tuple, items_ref (h.mat.row n a _ ha hT), asL_some, show getS (setS (wipe3 [some (D.ref o), none] [1]) 1 (some (.ref a))) 1 = some (D.ref a) from rfl]
    refine ⟨?_, hX _ _ ⟨rfl, hlt, ?_⟩⟩
    · rw [List.length_map, List.length_take]; omega
    · rw [List.take_succ, hT, List.map_append]; rfl
  · rintro acc M' ⟨rfl, hn, rfl⟩
    refine ⟨h.mat.top, ?_⟩
    rw [List.length_map, hlen, List.take_length]
    exact q
def intsR : XK3 → TS3 := fun E =>
  (wSeq (wSet 1 (wLst wNil))
  (wSeq (wFor (wItems (wVar 0)) (wgName 2) (wDrop (wBM oExtF (wVar 1) (wCons (wLcF (wItems (wVar 2)) (wgName 3) (wB (wOp (oIsN true) (wVar 3) (wC .non))) (wVar 3) [3]) wNil))))
  (wRet (wFrz (wVar 1)))))
def intsT (T : Tab) : List Ed := T.flatMap fun r => r.filter Option.isSome
theorem intsT_len {n : Nat} : ∀ {T : Tab} {m : Nat}, (∀ r ∈ T, r.length = n) → T.length = m → (intsT T).length ≤ m * n
  | [], _, _, h => by subst h; simp [intsT]
  | r :: T, m, hc, h => by
    subst h
    have ih := intsT_len (T := T) (m := T.length) (fun x hx => hc x (by simp [hx])) rfl
    have h1 : (r.filter Option.isSome).length ≤ n := Nat.le_trans (List.length_filter_le _ _) (Nat.le_of_eq (hc r (by simp)))
    have e : intsT (r :: T) = r.filter Option.isSome ++ intsT T := by simp [intsT]
    rw [e, List.length_append, List.length_cons, Nat.succ_mul]
    omega
def SInts (sp : Sp3) : Prop := ∀ (e : Addr) (as : List Addr) (n : Nat) (T : Tab) (M : Mp) (Q : VK3) (E : XK3), Mat M e as T → Sq n T → n ≤ 100 → Q (.rol ((intsT T).map oD)) M → sp [.ref e] M Q E
theorem s_ints : SInts (spOf 1 4 intsR) := by
  refine fun e as n T M Q E h sq hn q => ⟨rfl, ?_⟩
  show intsR E _ [some (.ref e), none, none, none] M
  unfold intsR
  have big : (1000000 : Nat) ≤ sizeLine := by decide
  have hlen := h.len
  have hrow := sq.rows
  rw [st_seq, st_set]
  simp only [ex_c, ex_var, ex_op, ex_un, ex_b, ex_and, ex_or, ex_not, ex_andV, ex_orV, ex_notV, ex_if, ex_chain, ex_nil, ex_cons, ex_tup, ex_lst, ex_call, ex_callP, ex_cb, ex_bm, ex_rep, ex_sl, ex_noPart, ex_part, ex_yes, it_items, it_rng1, it_rng2, tg_name, tg_sub, tg_tup, tg_cons, tg_nil, gs_0, gs_s, ss_0, ss_s, op_ii, op_ss, op_tt, op_mm, op_sb, op_ng, op_iNf, op_iNt, op_lle, op_ixT, op_ixR, op_ixL, op_putE, op_appE, it_tupE, it_rolE, it_refE, lstOf_l, exL, asS_some, asI_int, asB_bl, asL_some, asN_some, ite3_t, ite3_f, bl_1, bl_lenT, bl_lenR, bl_lenL, bl_lenS, bl_tuple, bl_list, bl_abs, bl_intI, bl_intB, bl_max, bl_min, op_eqSf, op_eqSt, op_eqIf, op_eqIt, op_eqTf, op_eqTt, op_eqRf, op_eqRt, op_eqNf, op_eqNt, eqD_int, eqD_nil, pl_int, pl_nil, pl_non, pl_rnil, pl_bl, sl_tupE, sl_rolE, keep_ref, keep_tup, keep_rol, tp_int, tp_tup, tp_rol, tp_str, tp_bl, tp_non, tp_ref, oFd, oMd, oPw, oShl, oLt, oLe, oGt, oGe, op_in, op_cp, wipe_nil, wipe_cons, mset_same, true_and, and_true, isN_int, ex_lstF, ex_repF, ex_lgF1, ex_lgF2, ex_tupRg1, ex_tupRg2, ex_frz, ex_slF, ex_slM, sl_tupF, sl_rolF, op_iiF, op_ssF, op_ttF, op_rrF, op_rrM, op_mmF, op_repF, li_rol, li_ref, bl_listF, bl_allF, bl_anyF, asT_some, asJ_some, op_eqBf, op_eqBt, isN_non, Bool.not_true, Bool.not_false, rep2]
  refine ⟨by show 0 ≤ sizeLine; omega, fun p hp => ?_⟩
  have nep : e ≠ p := ne_m h.top hp
  have htop : mset M p (.lst []) e = some (.lst (as.map D.ref)) := by rw [mset_ne nep]; exact h.top
  try dsimp only
  rw [st_seq, st_for]
  simp only [ex_c, ex_var, ex_op, ex_un, ex_b, ex_and, ex_or, ex_not, ex_andV, ex_orV, ex_notV, ex_if, ex_chain, ex_nil, ex_cons, ex_tup, ex_lst, ex_call, ex_callP, ex_cb, ex_bm, ex_rep, ex_sl, ex_noPart, ex_part, ex_yes, it_items, it_rng1, it_rng2, tg_name, tg_sub, tg_tup, tg_cons, tg_nil, gs_0, gs_s, ss_0, ss_s, op_ii, op_ss, op_tt, op_mm, op_sb, op_ng, op_iNf, op_iNt, op_lle, op_ixT, op_ixR, op_ixL, op_putE, op_appE, it_tupE, it_rolE, it_refE, lstOf_l, exL, asS_some, asI_int, asB_bl, asL_some, asN_some, ite3_t, ite3_f, bl_1, bl_lenT, bl_lenR, bl_lenL, bl_lenS, bl_tuple, bl_list, bl_abs, bl_intI, bl_intB, bl_max, bl_min, op_eqSf, op_eqSt, op_eqIf, op_eqIt, op_eqTf, op_eqTt, op_eqRf, op_eqRt, op_eqNf, op_eqNt, eqD_int, eqD_nil, pl_int, pl_nil, pl_non, pl_rnil, pl_bl, sl_tupE, sl_rolE, keep_ref, keep_tup, keep_rol, tp_int, tp_tup, tp_rol, tp_str, tp_bl, tp_non, tp_ref, oFd, oMd, oPw, oShl, oLt, oLe, oGt, oGe, op_in, op_cp, wipe_nil, wipe_cons, mset_same, true_and, and_true, isN_int, ex_lstF, ex_repF, ex_lgF1, ex_lgF2, ex_tupRg1, ex_tupRg2, ex_frz, ex_slF, ex_slM, sl_tupF, sl_rolF, op_iiF, op_ssF, op_ttF, op_rrF, op_rrM, op_mmF, op_repF, li_rol, li_ref, bl_listF, bl_allF, bl_anyF, asT_some, asJ_some, op_eqBf, op_eqBt, isN_non, Bool.not_true, Bool.not_false, rep2, htop]
  refine for_of D.ref (fun i τ M' => i ≤ T.length ∧ M' = mset M p (.lst ((intsT (T.take i)).map oD)) ∧ ∃ x2 x3, τ = [some (.ref e), some (.ref p), x2, x3]) ?_ ?_ ?_ ⟨Nat.zero_le _, rfl, _, _, rfl⟩
  · rintro i τ M' ⟨_, rfl, _⟩
    rw [mset_ne nep]; exact h.top
  · rintro i a τ M' ha ⟨hi, rfl, x2, x3, rfl⟩ X hX
    have hlt : i < T.length := by rw [← hlen]; exact (List.getElem?_eq_some_iff.mp ha).1
    have hT : T[i]? = some T[i] := List.getElem?_eq_getElem hlt
    have hMa := h.row i a _ ha hT
    have nap : a ≠ p := ne_m hMa hp
    have hMa' : mset M p (.lst ((intsT (T.take i)).map oD)) a = some (.lst (T[i].map oD)) := by rw [mset_ne nap]; exact hMa
    have hcol := sq.cols _ (List.getElem_mem hlt)
    rw [tg_name, st_drop]
    simp only [ex_c, ex_var, ex_op, ex_un, ex_b, ex_and, ex_or, ex_not, ex_andV, ex_orV, ex_notV, ex_if, ex_chain, ex_nil, ex_cons, ex_tup, ex_lst, ex_call, ex_callP, ex_cb, ex_bm, ex_rep, ex_sl, ex_noPart, ex_part, ex_yes, it_items, it_rng1, it_rng2, tg_name, tg_sub, tg_tup, tg_cons, tg_nil, gs_0, gs_s, ss_0, ss_s, op_ii, op_ss, op_tt, op_mm, op_sb, op_ng, op_iNf, op_iNt, op_lle, op_ixT, op_ixR, op_ixL, op_putE, op_appE, it_tupE, it_rolE, it_refE, lstOf_l, exL, asS_some, asI_int, asB_bl, asL_some, asN_some, ite3_t, ite3_f, bl_1, bl_lenT, bl_lenR, bl_lenL, bl_lenS, bl_tuple, bl_list, bl_abs, bl_intI, bl_intB, bl_max, bl_min, op_eqSf, op_eqSt, op_eqIf, op_eqIt, op_eqTf, op_eqTt, op_eqRf, op_eqRt, op_eqNf, op_eqNt, eqD_int, eqD_nil, pl_int, pl_nil, pl_non, pl_rnil, pl_bl, sl_tupE, sl_rolE, keep_ref, keep_tup, keep_rol, tp_int, tp_tup, tp_rol, tp_str, tp_bl, tp_non, tp_ref, oFd, oMd, oPw, oShl, oLt, oLe, oGt, oGe, op_in, op_cp, wipe_nil, wipe_cons, mset_same, true_and, and_true, isN_int, ex_lstF, ex_repF, ex_lgF1, ex_lgF2, ex_tupRg1, ex_tupRg2, ex_frz, ex_slF, ex_slM, sl_tupF, sl_rolF, op_iiF, op_ssF, op_ttF, op_rrF, op_rrM, op_mmF, op_repF, li_rol, li_ref, bl_listF, bl_allF, bl_anyF, asT_some, asJ_some, op_eqBf, op_eqBt, isN_non, Bool.not_true, Bool.not_false, rep2, hMa']
    simp only [ex_lcF, it_items, ex_var, asS_some, it_refE, hMa', lstOf_l, asL_some, keep_ref, show getS [some (D.ref e), some (D.ref p), some (D.ref a), x3] 2 = some (D.ref a) from rfl]
    refine lc_if (G := fun M' => M' a = some (.lst (T[i].map oD))) oD Option.isSome oD hMa' T[i] (by rw [hcol]; omega) ?_ ?_
    · intro x hx k k2 h1 h2
      simp only [ex_c, ex_var, ex_op, ex_un, ex_b, ex_and, ex_or, ex_not, ex_andV, ex_orV, ex_notV, ex_if, ex_chain, ex_nil, ex_cons, ex_tup, ex_lst, ex_call, ex_callP, ex_cb, ex_bm, ex_rep, ex_sl, ex_noPart, ex_part, ex_yes, it_items, it_rng1, it_rng2, tg_name, tg_sub, tg_tup, tg_cons, tg_nil, gs_0, gs_s, ss_0, ss_s, op_ii, op_ss, op_tt, op_mm, op_sb, op_ng, op_iNf, op_iNt, op_lle, op_ixT, op_ixR, op_ixL, op_putE, op_appE, it_tupE, it_rolE, it_refE, lstOf_l, exL, asS_some, asI_int, asB_bl, asL_some, asN_some, ite3_t, ite3_f, bl_1, bl_lenT, bl_lenR, bl_lenL, bl_lenS, bl_tuple, bl_list, bl_abs, bl_intI, bl_intB, bl_max, bl_min, op_eqSf, op_eqSt, op_eqIf, op_eqIt, op_eqTf, op_eqTt, op_eqRf, op_eqRt, op_eqNf, op_eqNt, eqD_int, eqD_nil, pl_int, pl_nil, pl_non, pl_rnil, pl_bl, sl_tupE, sl_rolE, keep_ref, keep_tup, keep_rol, tp_int, tp_tup, tp_rol, tp_str, tp_bl, tp_non, tp_ref, oFd, oMd, oPw, oShl, oLt, oLe, oGt, oGe, op_in, op_cp, wipe_nil, wipe_cons, mset_same, true_and, and_true, isN_int, ex_lstF, ex_repF, ex_lgF1, ex_lgF2, ex_tupRg1, ex_tupRg2, ex_frz, ex_slF, ex_slM, sl_tupF, sl_rolF, op_iiF, op_ssF, op_ttF, op_rrF, op_rrM, op_mmF, op_repF, li_rol, li_ref, bl_listF, bl_allF, bl_anyF, asT_some, asJ_some, op_eqBf, op_eqBt, isN_non, Bool.not_true, Bool.not_false, rep2, isN_oD]
      cases x with
      | none => exact h2 rfl
      | some z => exact h1 rfl
    · have e1 : intsT (T.take (i + 1)) = intsT (T.take i) ++ T[i].filter Option.isSome := by
        unfold intsT
        rw [List.take_succ, hT, List.flatMap_append]
        simp
      have l1 := intsT_len (n := n) (T := T.take i) (m := (T.take i).length) (fun r hr => sq.cols r (List.mem_of_mem_take hr)) rfl
      have l2 : (T[i].filter Option.isSome).length ≤ n := by rw [← hcol]; exact List.length_filter_le _ _
      have l3 : (T.take i).length * n ≤ 100 * 100 := Nat.mul_le_mul (by rw [List.length_take]; omega) hn
      rw [op_extF, mset_same, lstOf_l, asL_some, li_rol, asL_some]
      refine ⟨by rw [List.length_map, List.length_map]; omega, ?_⟩
      rw [mset_mset, ← List.map_append, ← e1]
      exact hX _ _ ⟨hlt, rfl, _, _, rfl⟩
  · rintro τ M' ⟨_, rfl, x2, x3, rfl⟩
    try dsimp only
    rw [st_ret]
    simp only [ex_frz, ex_var, asS_some, show getS [some (D.ref e), some (.ref p), x2, x3] 1 = some (D.ref p) from rfl]
    rw [frz_l mset_same, mdel_set hp, ← List.length_map (f := D.ref), List.length_map, hlen, List.take_length]
    exact q
def lenLR (si : Sp3) : XK3 → TS3 := fun E =>
  (wRet (wCB bLen (wCons (wCall si E (wCons (wFld "Loop" ("ends" : PySem.Str) (wVar 0)) wNil)) wNil)))
def SLenL (sp : Sp3) : Prop := ∀ (o e p : Addr) (as : List Addr) (w : Nat) (T : Tab) (ps : List Past) (M : Mp) (Q : VK3) (E : XK3), Lp M o e p as w T ps → w ≤ 40 → Q (.int (intsT T).length) M → sp [.ref o] M Q E
theorem s_lenL {si : Sp3} (ki : SInts si) : SLenL (spOf 1 1 (lenLR si)) := by
  refine fun o e p as w T ps M Q E h hw q => ⟨rfl, ?_⟩
  show lenLR si E _ [some (.ref o)] M
  unfold lenLR
  rw [st_ret]
  simp only [ex_c, ex_var, ex_op, ex_un, ex_b, ex_and, ex_or, ex_not, ex_andV, ex_orV, ex_notV, ex_if, ex_chain, ex_nil, ex_cons, ex_tup, ex_lst, ex_call, ex_callP, ex_cb, ex_bm, ex_rep, ex_sl, ex_noPart, ex_part, ex_yes, it_items, it_rng1, it_rng2, tg_name, tg_sub, tg_tup, tg_cons, tg_nil, gs_0, gs_s, ss_0, ss_s, op_ii, op_ss, op_tt, op_mm, op_sb, op_ng, op_iNf, op_iNt, op_lle, op_ixT, op_ixR, op_ixL, op_putE, op_appE, it_tupE, it_rolE, it_refE, lstOf_l, exL, asS_some, asI_int, asB_bl, asL_some, asN_some, ite3_t, ite3_f, bl_1, bl_lenT, bl_lenR, bl_lenL, bl_lenS, bl_tuple, bl_list, bl_abs, bl_intI, bl_intB, bl_max, bl_min, op_eqSf, op_eqSt, op_eqIf, op_eqIt, op_eqTf, op_eqTt, op_eqRf, op_eqRt, op_eqNf, op_eqNt, eqD_int, eqD_nil, pl_int, pl_nil, pl_non, pl_rnil, pl_bl, sl_tupE, sl_rolE, keep_ref, keep_tup, keep_rol, tp_int, tp_tup, tp_rol, tp_str, tp_bl, tp_non, tp_ref, oFd, oMd, oPw, oShl, oLt, oLe, oGt, oGe, op_in, op_cp, wipe_nil, wipe_cons, mset_same, true_and, and_true, isN_int, ex_lstF, ex_repF, ex_lgF1, ex_lgF2, ex_tupRg1, ex_tupRg2, ex_frz, ex_slF, ex_slM, sl_tupF, sl_rolF, op_iiF, op_ssF, op_ttF, op_rrF, op_rrM, op_mmF, op_repF, li_rol, li_ref, bl_listF, bl_allF, bl_anyF, asT_some, asJ_some, op_eqBf, op_eqBt, isN_non, Bool.not_true, Bool.not_false, rep2, ex_fld, asIn_ref h.ob, lk_e]
  refine ki _ _ _ _ _ _ _ h.mat h.sq (by omega) ?_
  simp only [ex_c, ex_var, ex_op, ex_un, ex_b, ex_and, ex_or, ex_not, ex_andV, ex_orV, ex_notV, ex_if, ex_chain, ex_nil, ex_cons, ex_tup, ex_lst, ex_call, ex_callP, ex_cb, ex_bm, ex_rep, ex_sl, ex_noPart, ex_part, ex_yes, it_items, it_rng1, it_rng2, tg_name, tg_sub, tg_tup, tg_cons, tg_nil, gs_0, gs_s, ss_0, ss_s, op_ii, op_ss, op_tt, op_mm, op_sb, op_ng, op_iNf, op_iNt, op_lle, op_ixT, op_ixR, op_ixL, op_putE, op_appE, it_tupE, it_rolE, it_refE, lstOf_l, exL, asS_some, asI_int, asB_bl, asL_some, asN_some, ite3_t, ite3_f, bl_1, bl_lenT, bl_lenR, bl_lenL, bl_lenS, bl_tuple, bl_list, bl_abs, bl_intI, bl_intB, bl_max, bl_min, op_eqSf, op_eqSt, op_eqIf, op_eqIt, op_eqTf, op_eqTt, op_eqRf, op_eqRt, op_eqNf, op_eqNt, eqD_int, eqD_nil, pl_int, pl_nil, pl_non, pl_rnil, pl_bl, sl_tupE, sl_rolE, keep_ref, keep_tup, keep_rol, tp_int, tp_tup, tp_rol, tp_str, tp_bl, tp_non, tp_ref, oFd, oMd, oPw, oShl, oLt, oLe, oGt, oGe, op_in, op_cp, wipe_nil, wipe_cons, mset_same, true_and, and_true, isN_int, ex_lstF, ex_repF, ex_lgF1, ex_lgF2, ex_tupRg1, ex_tupRg2, ex_frz, ex_slF, ex_slM, sl_tupF, sl_rolF, op_iiF, op_ssF, op_ttF, op_rrF, op_rrM, op_mmF, op_repF, li_rol, li_ref, bl_listF, bl_allF, bl_anyF, asT_some, asJ_some, op_eqBf, op_eqBt, isN_non, Bool.not_true, Bool.not_false, rep2]
  rw [List.length_map]
  exact q
def reprLR (sl : Sp3) : XK3 → TS3 := fun E =>
  (wRet (wJs [wC (.str ("Loop(" : PySem.Str)), (wFmt (wFld "Loop" ("width" : PySem.Str) (wVar 0))), wC (.str (", " : PySem.Str)), (wFmt (wCB (bLenO "Loop" sl) (wCons (wVar 0) wNil))), wC (.str (")" : PySem.Str))] Str.empty))
def itS (i : Int) : Str := (toString i : String)
theorem itS_len {k : Nat} (h : k < 100) : (itS k).length ≤ 3 := by
  have all : ∀ k : Fin 100, (itS ((k.val : Nat) : Int)).length ≤ 3 := by decide +kernel
  exact all ⟨k, h⟩
theorem log_small {k : Nat} (h : k < 100) : ((k : Int).natAbs).log2 < 1920 := by
  have h2 : (k : Int).natAbs = k := by omega
  rw [h2]
  have := Nat.log2_le_self k
  omega
def loopS (w k : Nat) : Str := ((((("Loop(" : Str) ++ itS w) ++ (", " : Str)) ++ itS k) ++ (")" : Str))
def SReprL (sp : Sp3) : Prop := ∀ (o e p : Addr) (as : List Addr) (w : Nat) (T : Tab) (ps : List Past) (M : Mp) (Q : VK3) (E : XK3), Lp M o e p as w T ps → w ≤ 4 → Q (.str (loopS w (intsT T).length)) M → sp [.ref o] M Q E
theorem intsT_small {w : Nat} {T : Tab} (sq : Sq (2 * w + 1) T) (hw : w ≤ 4) : (intsT T).length < 100 := by
  have h := intsT_len sq.cols sq.rows
  have : (2 * w + 1) * (2 * w + 1) ≤ 9 * 9 := Nat.mul_le_mul (by omega) (by omega)
  omega
theorem s_reprL {sl : Sp3} (kl : SLenL sl) : SReprL (spOf 1 1 (reprLR sl)) := by
  refine fun o e p as w T ps M Q E h hw q => ⟨rfl, ?_⟩
  show reprLR sl E _ [some (.ref o)] M
  unfold reprLR
  have big : (1000000 : Nat) ≤ sizeLine := by decide
  have hk := intsT_small h.sq hw
  have l1 := itS_len (k := w) (by omega)
  have l2 := itS_len hk
  have c1 : (("Loop(" : Str)).length = 5 := by decide
  have c2 : ((", " : Str)).length = 2 := by decide
  have c3 : ((")" : Str)).length = 1 := by decide
  have e0 : Str.empty ++ ("Loop(" : Str) = ("Loop(" : Str) := by decide
  rw [st_ret, js_cons]
  simp only [ex_c, ex_var, ex_op, ex_un, ex_b, ex_and, ex_or, ex_not, ex_andV, ex_orV, ex_notV, ex_if, ex_chain, ex_nil, ex_cons, ex_tup, ex_lst, ex_call, ex_callP, ex_cb, ex_bm, ex_rep, ex_sl, ex_noPart, ex_part, ex_yes, it_items, it_rng1, it_rng2, tg_name, tg_sub, tg_tup, tg_cons, tg_nil, gs_0, gs_s, ss_0, ss_s, op_ii, op_ss, op_tt, op_mm, op_sb, op_ng, op_iNf, op_iNt, op_lle, op_ixT, op_ixR, op_ixL, op_putE, op_appE, it_tupE, it_rolE, it_refE, lstOf_l, exL, asS_some, asI_int, asB_bl, asL_some, asN_some, ite3_t, ite3_f, bl_1, bl_lenT, bl_lenR, bl_lenL, bl_lenS, bl_tuple, bl_list, bl_abs, bl_intI, bl_intB, bl_max, bl_min, op_eqSf, op_eqSt, op_eqIf, op_eqIt, op_eqTf, op_eqTt, op_eqRf, op_eqRt, op_eqNf, op_eqNt, eqD_int, eqD_nil, pl_int, pl_nil, pl_non, pl_rnil, pl_bl, sl_tupE, sl_rolE, keep_ref, keep_tup, keep_rol, tp_int, tp_tup, tp_rol, tp_str, tp_bl, tp_non, tp_ref, oFd, oMd, oPw, oShl, oLt, oLe, oGt, oGe, op_in, op_cp, wipe_nil, wipe_cons, mset_same, true_and, and_true, isN_int, ex_lstF, ex_repF, ex_lgF1, ex_lgF2, ex_tupRg1, ex_tupRg2, ex_frz, ex_slF, ex_slM, sl_tupF, sl_rolF, op_iiF, op_ssF, op_ttF, op_rrF, op_rrM, op_mmF, op_repF, li_rol, li_ref, bl_listF, bl_allF, bl_anyF, asT_some, asJ_some, op_eqBf, op_eqBt, isN_non, Bool.not_true, Bool.not_false, rep2]
  rw [asSt_s, e0, js_cons]
  refine ⟨by omega, ?_⟩
  simp only [ex_fmtI, ex_fld, ex_var, asS_some, asIn_ref h.ob, lk_w, show getS [some (D.ref o)] 0 = some (D.ref o) from rfl]
  refine ⟨log_small (by omega), ?_⟩
  rw [asSt_s, js_cons]
  show ((("Loop(" : Str) ++ itS w).length ≤ sizeLine) ∧ _
  refine ⟨by rw [Str.length_append]; omega, ?_⟩
  simp only [ex_c, ex_var, ex_op, ex_un, ex_b, ex_and, ex_or, ex_not, ex_andV, ex_orV, ex_notV, ex_if, ex_chain, ex_nil, ex_cons, ex_tup, ex_lst, ex_call, ex_callP, ex_cb, ex_bm, ex_rep, ex_sl, ex_noPart, ex_part, ex_yes, it_items, it_rng1, it_rng2, tg_name, tg_sub, tg_tup, tg_cons, tg_nil, gs_0, gs_s, ss_0, ss_s, op_ii, op_ss, op_tt, op_mm, op_sb, op_ng, op_iNf, op_iNt, op_lle, op_ixT, op_ixR, op_ixL, op_putE, op_appE, it_tupE, it_rolE, it_refE, lstOf_l, exL, asS_some, asI_int, asB_bl, asL_some, asN_some, ite3_t, ite3_f, bl_1, bl_lenT, bl_lenR, bl_lenL, bl_lenS, bl_tuple, bl_list, bl_abs, bl_intI, bl_intB, bl_max, bl_min, op_eqSf, op_eqSt, op_eqIf, op_eqIt, op_eqTf, op_eqTt, op_eqRf, op_eqRt, op_eqNf, op_eqNt, eqD_int, eqD_nil, pl_int, pl_nil, pl_non, pl_rnil, pl_bl, sl_tupE, sl_rolE, keep_ref, keep_tup, keep_rol, tp_int, tp_tup, tp_rol, tp_str, tp_bl, tp_non, tp_ref, oFd, oMd, oPw, oShl, oLt, oLe, oGt, oGe, op_in, op_cp, wipe_nil, wipe_cons, mset_same, true_and, and_true, isN_int, ex_lstF, ex_repF, ex_lgF1, ex_lgF2, ex_tupRg1, ex_tupRg2, ex_frz, ex_slF, ex_slM, sl_tupF, sl_rolF, op_iiF, op_ssF, op_ttF, op_rrF, op_rrM, op_mmF, op_repF, li_rol, li_ref, bl_listF, bl_allF, bl_anyF, asT_some, asJ_some, op_eqBf, op_eqBt, isN_non, Bool.not_true, Bool.not_false, rep2]
  rw [asSt_s, js_cons]
  show (((("Loop(" : Str) ++ itS w) ++ (", " : Str)).length ≤ sizeLine) ∧ _
  refine ⟨by rw [Str.length_append, Str.length_append]; omega, ?_⟩
  simp only [ex_fmtI, ex_cb, ex_cons, ex_nil, ex_var, asS_some, bl_lenO, asIn_ref h.ob, show getS [some (D.ref o)] 0 = some (D.ref o) from rfl]
  refine kl _ _ _ _ _ _ _ _ _ _ h (by omega) ?_
  show (0 ≤ _ ∧ _) ∧ _
  refine ⟨⟨by omega, by omega⟩, ?_⟩
  show _ ∧ _
  refine ⟨log_small hk, ?_⟩
  rw [asSt_s, js_cons]
  show ((((("Loop(" : Str) ++ itS w) ++ (", " : Str)) ++ itS (intsT T).length).length ≤ sizeLine) ∧ _
  refine ⟨by rw [Str.length_append, Str.length_append, Str.length_append]; omega, ?_⟩
  simp only [ex_c, ex_var, ex_op, ex_un, ex_b, ex_and, ex_or, ex_not, ex_andV, ex_orV, ex_notV, ex_if, ex_chain, ex_nil, ex_cons, ex_tup, ex_lst, ex_call, ex_callP, ex_cb, ex_bm, ex_rep, ex_sl, ex_noPart, ex_part, ex_yes, it_items, it_rng1, it_rng2, tg_name, tg_sub, tg_tup, tg_cons, tg_nil, gs_0, gs_s, ss_0, ss_s, op_ii, op_ss, op_tt, op_mm, op_sb, op_ng, op_iNf, op_iNt, op_lle, op_ixT, op_ixR, op_ixL, op_putE, op_appE, it_tupE, it_rolE, it_refE, lstOf_l, exL, asS_some, asI_int, asB_bl, asL_some, asN_some, ite3_t, ite3_f, bl_1, bl_lenT, bl_lenR, bl_lenL, bl_lenS, bl_tuple, bl_list, bl_abs, bl_intI, bl_intB, bl_max, bl_min, op_eqSf, op_eqSt, op_eqIf, op_eqIt, op_eqTf, op_eqTt, op_eqRf, op_eqRt, op_eqNf, op_eqNt, eqD_int, eqD_nil, pl_int, pl_nil, pl_non, pl_rnil, pl_bl, sl_tupE, sl_rolE, keep_ref, keep_tup, keep_rol, tp_int, tp_tup, tp_rol, tp_str, tp_bl, tp_non, tp_ref, oFd, oMd, oPw, oShl, oLt, oLe, oGt, oGe, op_in, op_cp, wipe_nil, wipe_cons, mset_same, true_and, and_true, isN_int, ex_lstF, ex_repF, ex_lgF1, ex_lgF2, ex_tupRg1, ex_tupRg2, ex_frz, ex_slF, ex_slM, sl_tupF, sl_rolF, op_iiF, op_ssF, op_ttF, op_rrF, op_rrM, op_mmF, op_repF, li_rol, li_ref, bl_listF, bl_allF, bl_anyF, asT_some, asJ_some, op_eqBf, op_eqBt, isN_non, Bool.not_true, Bool.not_false, rep2]
  rw [asSt_s, js_nil]
  show (((((("Loop(" : Str) ++ itS w) ++ (", " : Str)) ++ itS (intsT T).length) ++ (")" : Str)).length ≤ sizeLine) ∧ _
  exact ⟨by rw [Str.length_append, Str.length_append, Str.length_append, Str.length_append]; omega, q⟩
end L3
set_option Elab.async false
set_option linter.all false
set_option maxRecDepth 100000
set_option maxHeartbeats 4000000
namespace L3
open PySem PySem.Spec PyProof.Rows L2
def initLR : XK3 → TS3 := fun E =>
  (wSeq (wFldSet "Loop" ("width" : PySem.Str) (wVar 0) (wVar 1))
  (wSeq (wFldSet "Loop" ("ends" : PySem.Str) (wVar 0) (wLc (wRng1 (wCons (wOp oAddF (wOp oMulF (wC (.int 2)) (wVar 1)) (wC (.int 1))) wNil)) (wgName 3) wYes (wRep (wC .non) (wOp oAddF (wOp oMulF (wC (.int 2)) (wVar 1)) (wC (.int 1)))) [3]))
  (wSeq (wFldSet "Loop" ("past" : PySem.Str) (wVar 0) (wLst wNil))
  (wFor (wItems (wVar 2)) (wgTupN 3 (wgCons (wgName 4) (wgCons (wgName 5) (wgCons (wgName 6) wgNil)))) (wAsg (wVar 6) (wgSub (wOp oIx (wFld "Loop" ("ends" : PySem.Str) (wVar 0)) (wVar 4)) (wVar 5) oPut))))))
def setT (T : Tab) (t : Trip) : Tab := putT T t.1.toNat t.2.1.toNat (some t.2.2)
def setTs (n : Nat) (ts : List Trip) : Tab := ts.foldl setT (emptyT n)
theorem setTs_snoc {n : Nat} {ts : List Trip} {t : Trip} : setTs n (ts ++ [t]) = setT (setTs n ts) t := by unfold setTs; rw [List.foldl_append]; rfl
/-- all else is as it was -/
def Kp (o : Addr) (M M' : Mp) : Prop := ∀ b u, b ≠ o → M b = some u → M' b = some u
def SInitL (sp : Sp3) : Prop := ∀ (o : Addr) (w : Nat) (ts : List Trip) (M : Mp) (Q : VK3) (E : XK3), M o = some (.ins "Loop" []) → w ≤ 400 → (∀ t ∈ ts, In2 (2 * (w : Int) + 1) t) →
  (∀ e p as M', Lp M' o e p as w (setTs (2 * w + 1) ts) [] → M e = none → M p = none → (∀ a ∈ as, M a = none) → Kp o M M' → Q .non M') → sp [.ref o, .int w, .tup (ts.map tripD)] M Q E
theorem take_snoc {α : Type} {l : List α} {i : Nat} {x : α} (h : l[i]? = some x) : l.take (i + 1) = l.take i ++ [x] := by rw [List.take_succ, h]; rfl
theorem s_initL : SInitL (spOf 3 7 initLR) := by
  refine fun o w ts M Q E ho hw hts k => ⟨rfl, ?_⟩
  show initLR E _ [some (.ref o), some (.int w), some (.tup (ts.map tripD)), none, none, none, none] M
  unfold initLR
  have big : (1000000 : Nat) ≤ sizeLine := by decide
  rw [st_seq, st_fld]
  simp only [ex_c, ex_var, ex_op, ex_un, ex_b, ex_and, ex_or, ex_not, ex_andV, ex_orV, ex_notV, ex_if, ex_chain, ex_nil, ex_cons, ex_tup, ex_lst, ex_call, ex_callP, ex_cb, ex_bm, ex_rep, ex_sl, ex_noPart, ex_part, ex_yes, it_items, it_rng1, it_rng2, tg_name, tg_sub, tg_tup, tg_cons, tg_nil, gs_0, gs_s, ss_0, ss_s, op_ii, op_ss, op_tt, op_mm, op_sb, op_ng, op_iNf, op_iNt, op_lle, op_ixT, op_ixR, op_ixL, op_putE, op_appE, it_tupE, it_rolE, it_refE, lstOf_l, exL, asS_some, asI_int, asB_bl, asL_some, asN_some, ite3_t, ite3_f, bl_1, bl_lenT, bl_lenR, bl_lenL, bl_lenS, bl_tuple, bl_list, bl_abs, bl_intI, bl_intB, bl_max, bl_min, op_eqSf, op_eqSt, op_eqIf, op_eqIt, op_eqTf, op_eqTt, op_eqRf, op_eqRt, op_eqNf, op_eqNt, eqD_int, eqD_nil, pl_int, pl_nil, pl_non, pl_rnil, pl_bl, sl_tupE, sl_rolE, keep_ref, keep_tup, keep_rol, tp_int, tp_tup, tp_rol, tp_str, tp_bl, tp_non, tp_ref, oFd, oMd, oPw, oShl, oLt, oLe, oGt, oGe, op_in, op_cp, wipe_nil, wipe_cons, mset_same, true_and, and_true, isN_int, ex_lstF, ex_repF, ex_lgF1, ex_lgF2, ex_tupRg1, ex_tupRg2, ex_frz, ex_slF, ex_slM, sl_tupF, sl_rolF, op_iiF, op_ssF, op_ttF, op_rrF, op_rrM, op_mmF, op_repF, li_rol, li_ref, bl_listF, bl_allF, bl_anyF, asT_some, asJ_some, op_eqBf, op_eqBt, isN_non, Bool.not_true, Bool.not_false, rep2, asIn_ref ho, ps_w]
  refine ⟨by show 0 < 1000; decide, ?_⟩
  show wSeq _ _ _ _ (mset M o (.ins "Loop" [(("width" : Str), .int w)]))
  have e2 : (2 * (w : Int) + 1).toNat = 2 * w + 1 := by omega
  rw [st_seq, st_fld]
  rw [ex_lc]
  simp only [ex_c, ex_var, ex_op, ex_un, ex_b, ex_and, ex_or, ex_not, ex_andV, ex_orV, ex_notV, ex_if, ex_chain, ex_nil, ex_cons, ex_tup, ex_lst, ex_call, ex_callP, ex_cb, ex_bm, ex_rep, ex_sl, ex_noPart, ex_part, ex_yes, it_items, it_rng1, it_rng2, tg_name, tg_sub, tg_tup, tg_cons, tg_nil, gs_0, gs_s, ss_0, ss_s, op_ii, op_ss, op_tt, op_mm, op_sb, op_ng, op_iNf, op_iNt, op_lle, op_ixT, op_ixR, op_ixL, op_putE, op_appE, it_tupE, it_rolE, it_refE, lstOf_l, exL, asS_some, asI_int, asB_bl, asL_some, asN_some, ite3_t, ite3_f, bl_1, bl_lenT, bl_lenR, bl_lenL, bl_lenS, bl_tuple, bl_list, bl_abs, bl_intI, bl_intB, bl_max, bl_min, op_eqSf, op_eqSt, op_eqIf, op_eqIt, op_eqTf, op_eqTt, op_eqRf, op_eqRt, op_eqNf, op_eqNt, eqD_int, eqD_nil, pl_int, pl_nil, pl_non, pl_rnil, pl_bl, sl_tupE, sl_rolE, keep_ref, keep_tup, keep_rol, tp_int, tp_tup, tp_rol, tp_str, tp_bl, tp_non, tp_ref, oFd, oMd, oPw, oShl, oLt, oLe, oGt, oGe, op_in, op_cp, wipe_nil, wipe_cons, mset_same, true_and, and_true, isN_int, ex_lstF, ex_repF, ex_lgF1, ex_lgF2, ex_tupRg1, ex_tupRg2, ex_frz, ex_slF, ex_slM, sl_tupF, sl_rolF, op_iiF, op_ssF, op_ttF, op_rrF, op_rrM, op_mmF, op_repF, li_rol, li_ref, bl_listF, bl_allF, bl_anyF, asT_some, asJ_some, op_eqBf, op_eqBt, isN_non, Bool.not_true, Bool.not_false, rep2]
  refine ⟨mul2, by omega, by omega, ?_⟩
  rw [e2]
  refine lc_pv (fun n acc M' => ∃ as, acc = as.map D.ref ∧ n ≤ 2 * w + 1 ∧ Rows (mset M o (.ins "Loop" [(("width" : Str), .int w)])) M' as (List.replicate n (List.replicate (2 * w + 1) none))) ?_ ?_ ⟨[], rfl, Nat.zero_le _, .nil⟩
  · rintro n d acc M' hd ⟨as, rfl, hk, hR⟩ X hX
    obtain ⟨hlt, rfl⟩ := rgD_get hd
    refine ⟨True.intro, ?_⟩
    simp only [ex_c, ex_var, ex_op, ex_un, ex_b, ex_and, ex_or, ex_not, ex_andV, ex_orV, ex_notV, ex_if, ex_chain, ex_nil, ex_cons, ex_tup, ex_lst, ex_call, ex_callP, ex_cb, ex_bm, ex_rep, ex_sl, ex_noPart, ex_part, ex_yes, it_items, it_rng1, it_rng2, tg_name, tg_sub, tg_tup, tg_cons, tg_nil, gs_0, gs_s, ss_0, ss_s, op_ii, op_ss, op_tt, op_mm, op_sb, op_ng, op_iNf, op_iNt, op_lle, op_ixT, op_ixR, op_ixL, op_putE, op_appE, it_tupE, it_rolE, it_refE, lstOf_l, exL, asS_some, asI_int, asB_bl, asL_some, asN_some, ite3_t, ite3_f, bl_1, bl_lenT, bl_lenR, bl_lenL, bl_lenS, bl_tuple, bl_list, bl_abs, bl_intI, bl_intB, bl_max, bl_min, op_eqSf, op_eqSt, op_eqIf, op_eqIt, op_eqTf, op_eqTt, op_eqRf, op_eqRt, op_eqNf, op_eqNt, eqD_int, eqD_nil, pl_int, pl_nil, pl_non, pl_rnil, pl_bl, sl_tupE, sl_rolE, keep_ref, keep_tup, keep_rol, tp_int, tp_tup, tp_rol, tp_str, tp_bl, tp_non, tp_ref, oFd, oMd, oPw, oShl, oLt, oLe, oGt, oGe, op_in, op_cp, wipe_nil, wipe_cons, mset_same, true_and, and_true, isN_int, ex_lstF, ex_repF, ex_lgF1, ex_lgF2, ex_tupRg1, ex_tupRg2, ex_frz, ex_slF, ex_slM, sl_tupF, sl_rolF, op_iiF, op_ssF, op_ttF, op_rrF, op_rrM, op_mmF, op_repF, li_rol, li_ref, bl_listF, bl_allF, bl_anyF, asT_some, asJ_some, op_eqBf, op_eqBt, isN_non, Bool.not_true, Bool.not_false, rep2, ex_rep]
    have hlen := hR.len
    rw [List.length_replicate] at hlen
    refine ⟨mul2, by omega, by omega, by omega, fun p hp => ?_⟩
    refine ⟨by rw [List.length_map]; omega, hX _ _ ⟨as ++ [p], by simp, hlt, ?_⟩⟩
    have := hR.snoc (r := List.replicate (2 * w + 1) none) hp
    rw [List.map_replicate] at this
    rw [List.replicate_succ', e2]
    exact this
  rintro acc M1 ⟨as, rfl, _, hR⟩
  rw [rgD_len] at hR
  have hR : Rows (mset M o (.ins "Loop" [(("width" : Str), .int w)])) M1 as (emptyT (2 * w + 1)) := hR
  refine ⟨True.intro, fun e he => ?_⟩
  obtain ⟨mt, le⟩ := hR.mat he
  have ho2 : mset M1 e (.lst (as.map D.ref)) o = some (.ins "Loop" [(("width" : Str), .int w)]) := le _ _ mset_same
  have oe : o ≠ e := fun z => by rw [z, mset_same] at ho2; cases ho2
  have oa : o ∉ as := fun z => by obtain ⟨ds, hd⟩ := mt.lst z; rw [hd] at ho2; cases ho2
  simp only [ex_c, ex_var, ex_op, ex_un, ex_b, ex_and, ex_or, ex_not, ex_andV, ex_orV, ex_notV, ex_if, ex_chain, ex_nil, ex_cons, ex_tup, ex_lst, ex_call, ex_callP, ex_cb, ex_bm, ex_rep, ex_sl, ex_noPart, ex_part, ex_yes, it_items, it_rng1, it_rng2, tg_name, tg_sub, tg_tup, tg_cons, tg_nil, gs_0, gs_s, ss_0, ss_s, op_ii, op_ss, op_tt, op_mm, op_sb, op_ng, op_iNf, op_iNt, op_lle, op_ixT, op_ixR, op_ixL, op_putE, op_appE, it_tupE, it_rolE, it_refE, lstOf_l, exL, asS_some, asI_int, asB_bl, asL_some, asN_some, ite3_t, ite3_f, bl_1, bl_lenT, bl_lenR, bl_lenL, bl_lenS, bl_tuple, bl_list, bl_abs, bl_intI, bl_intB, bl_max, bl_min, op_eqSf, op_eqSt, op_eqIf, op_eqIt, op_eqTf, op_eqTt, op_eqRf, op_eqRt, op_eqNf, op_eqNt, eqD_int, eqD_nil, pl_int, pl_nil, pl_non, pl_rnil, pl_bl, sl_tupE, sl_rolE, keep_ref, keep_tup, keep_rol, tp_int, tp_tup, tp_rol, tp_str, tp_bl, tp_non, tp_ref, oFd, oMd, oPw, oShl, oLt, oLe, oGt, oGe, op_in, op_cp, wipe_nil, wipe_cons, mset_same, true_and, and_true, isN_int, ex_lstF, ex_repF, ex_lgF1, ex_lgF2, ex_tupRg1, ex_tupRg2, ex_frz, ex_slF, ex_slM, sl_tupF, sl_rolF, op_iiF, op_ssF, op_ttF, op_rrF, op_rrM, op_mmF, op_repF, li_rol, li_ref, bl_listF, bl_allF, bl_anyF, asT_some, asJ_some, op_eqBf, op_eqBt, isN_non, Bool.not_true, Bool.not_false, rep2, asIn_ref ho2, ps_e]
  refine ⟨by show 1 < 1000; decide, ?_⟩
  generalize hM2 : mset (mset M1 e (.lst (as.map D.ref))) o (.ins "Loop" [(("width" : Str), .int w), (("ends" : Str), .ref e)]) = M2
  have ho3 : M2 o = some (.ins "Loop" [(("width" : Str), .int w), (("ends" : Str), .ref e)]) := by rw [← hM2]; exact mset_same
  have mt2 : Mat M2 e as (emptyT (2 * w + 1)) := by rw [← hM2]; exact mt.other oe oa
  have kp2 : Kp o M M2 := fun b u hb hu => by
    rw [← hM2, mset_ne hb]
    exact le b u (by rw [mset_ne hb]; exact hu)
  have isNew : ∀ b, b ≠ o → mset M o (.ins "Loop" [(("width" : Str), .int w)]) b = none → M b = none := fun b hb h => by rwa [mset_ne hb] at h
  have newR : ∀ b ∈ as, M b = none := fun b hb => isNew b (mem_ne hb oa).symm (hR.new b hb)
  have newE : M e = none := by
    refine isNew e oe.symm ?_
    cases q : mset M o (.ins "Loop" [(("width" : Str), .int w)]) e with
    | none => rfl
    | some u => rw [hR.le e u q] at he; cases he
  rw [st_seq, st_fld]
  simp only [ex_c, ex_var, ex_op, ex_un, ex_b, ex_and, ex_or, ex_not, ex_andV, ex_orV, ex_notV, ex_if, ex_chain, ex_nil, ex_cons, ex_tup, ex_lst, ex_call, ex_callP, ex_cb, ex_bm, ex_rep, ex_sl, ex_noPart, ex_part, ex_yes, it_items, it_rng1, it_rng2, tg_name, tg_sub, tg_tup, tg_cons, tg_nil, gs_0, gs_s, ss_0, ss_s, op_ii, op_ss, op_tt, op_mm, op_sb, op_ng, op_iNf, op_iNt, op_lle, op_ixT, op_ixR, op_ixL, op_putE, op_appE, it_tupE, it_rolE, it_refE, lstOf_l, exL, asS_some, asI_int, asB_bl, asL_some, asN_some, ite3_t, ite3_f, bl_1, bl_lenT, bl_lenR, bl_lenL, bl_lenS, bl_tuple, bl_list, bl_abs, bl_intI, bl_intB, bl_max, bl_min, op_eqSf, op_eqSt, op_eqIf, op_eqIt, op_eqTf, op_eqTt, op_eqRf, op_eqRt, op_eqNf, op_eqNt, eqD_int, eqD_nil, pl_int, pl_nil, pl_non, pl_rnil, pl_bl, sl_tupE, sl_rolE, keep_ref, keep_tup, keep_rol, tp_int, tp_tup, tp_rol, tp_str, tp_bl, tp_non, tp_ref, oFd, oMd, oPw, oShl, oLt, oLe, oGt, oGe, op_in, op_cp, wipe_nil, wipe_cons, mset_same, true_and, and_true, isN_int, ex_lstF, ex_repF, ex_lgF1, ex_lgF2, ex_tupRg1, ex_tupRg2, ex_frz, ex_slF, ex_slM, sl_tupF, sl_rolF, op_iiF, op_ssF, op_ttF, op_rrF, op_rrM, op_mmF, op_repF, li_rol, li_ref, bl_listF, bl_allF, bl_anyF, asT_some, asJ_some, op_eqBf, op_eqBt, isN_non, Bool.not_true, Bool.not_false, rep2]
  refine ⟨by show 0 ≤ sizeLine; omega, fun p hp => ?_⟩
  have op : o ≠ p := ne_m ho3 hp
  have ep : e ≠ p := ne_m mt2.top hp
  have pa : p ∉ as := fun z => by obtain ⟨ds, hd⟩ := mt2.lst z; rw [hd] at hp; cases hp
  have ho4 : mset M2 p (.lst []) o = some (.ins "Loop" [(("width" : Str), .int w), (("ends" : Str), .ref e)]) := by rw [mset_ne op]; exact ho3
  simp only [ex_c, ex_var, ex_op, ex_un, ex_b, ex_and, ex_or, ex_not, ex_andV, ex_orV, ex_notV, ex_if, ex_chain, ex_nil, ex_cons, ex_tup, ex_lst, ex_call, ex_callP, ex_cb, ex_bm, ex_rep, ex_sl, ex_noPart, ex_part, ex_yes, it_items, it_rng1, it_rng2, tg_name, tg_sub, tg_tup, tg_cons, tg_nil, gs_0, gs_s, ss_0, ss_s, op_ii, op_ss, op_tt, op_mm, op_sb, op_ng, op_iNf, op_iNt, op_lle, op_ixT, op_ixR, op_ixL, op_putE, op_appE, it_tupE, it_rolE, it_refE, lstOf_l, exL, asS_some, asI_int, asB_bl, asL_some, asN_some, ite3_t, ite3_f, bl_1, bl_lenT, bl_lenR, bl_lenL, bl_lenS, bl_tuple, bl_list, bl_abs, bl_intI, bl_intB, bl_max, bl_min, op_eqSf, op_eqSt, op_eqIf, op_eqIt, op_eqTf, op_eqTt, op_eqRf, op_eqRt, op_eqNf, op_eqNt, eqD_int, eqD_nil, pl_int, pl_nil, pl_non, pl_rnil, pl_bl, sl_tupE, sl_rolE, keep_ref, keep_tup, keep_rol, tp_int, tp_tup, tp_rol, tp_str, tp_bl, tp_non, tp_ref, oFd, oMd, oPw, oShl, oLt, oLe, oGt, oGe, op_in, op_cp, wipe_nil, wipe_cons, mset_same, true_and, and_true, isN_int, ex_lstF, ex_repF, ex_lgF1, ex_lgF2, ex_tupRg1, ex_tupRg2, ex_frz, ex_slF, ex_slM, sl_tupF, sl_rolF, op_iiF, op_ssF, op_ttF, op_rrF, op_rrM, op_mmF, op_repF, li_rol, li_ref, bl_listF, bl_allF, bl_anyF, asT_some, asJ_some, op_eqBf, op_eqBt, isN_non, Bool.not_true, Bool.not_false, rep2, asIn_ref ho4, ps_p]
  refine ⟨by show 2 < 1000; decide, ?_⟩
  generalize hM3 : mset (mset M2 p (.lst [])) o (.ins "Loop" (lpF (.int w) (.ref e) (.ref p))) = M3
  have lp : Lp M3 o e p as w (emptyT (2 * w + 1)) [] := by
    rw [← hM3]
    exact ⟨mset_same, (mt2.other ep.symm pa).other oe oa, by rw [mset_ne op.symm]; exact mset_same, ep, pa, .empty⟩
  have newP : M p = none := by
    cases q : M p with
    | none => rfl
    | some u => rw [kp2 p u op.symm q] at hp; cases hp
  have kp3 : Kp o M M3 := fun b u hb hu => by
    have h1 := kp2 b u hb hu
    rw [← hM3, mset_ne hb, mset_ne (ne_m h1 hp)]
    exact h1
  rw [st_for]
  simp only [ex_c, ex_var, ex_op, ex_un, ex_b, ex_and, ex_or, ex_not, ex_andV, ex_orV, ex_notV, ex_if, ex_chain, ex_nil, ex_cons, ex_tup, ex_lst, ex_call, ex_callP, ex_cb, ex_bm, ex_rep, ex_sl, ex_noPart, ex_part, ex_yes, it_items, it_rng1, it_rng2, tg_name, tg_sub, tg_tup, tg_cons, tg_nil, gs_0, gs_s, ss_0, ss_s, op_ii, op_ss, op_tt, op_mm, op_sb, op_ng, op_iNf, op_iNt, op_lle, op_ixT, op_ixR, op_ixL, op_putE, op_appE, it_tupE, it_rolE, it_refE, lstOf_l, exL, asS_some, asI_int, asB_bl, asL_some, asN_some, ite3_t, ite3_f, bl_1, bl_lenT, bl_lenR, bl_lenL, bl_lenS, bl_tuple, bl_list, bl_abs, bl_intI, bl_intB, bl_max, bl_min, op_eqSf, op_eqSt, op_eqIf, op_eqIt, op_eqTf, op_eqTt, op_eqRf, op_eqRt, op_eqNf, op_eqNt, eqD_int, eqD_nil, pl_int, pl_nil, pl_non, pl_rnil, pl_bl, sl_tupE, sl_rolE, keep_ref, keep_tup, keep_rol, tp_int, tp_tup, tp_rol, tp_str, tp_bl, tp_non, tp_ref, oFd, oMd, oPw, oShl, oLt, oLe, oGt, oGe, op_in, op_cp, wipe_nil, wipe_cons, mset_same, true_and, and_true, isN_int, ex_lstF, ex_repF, ex_lgF1, ex_lgF2, ex_tupRg1, ex_tupRg2, ex_frz, ex_slF, ex_slM, sl_tupF, sl_rolF, op_iiF, op_ssF, op_ttF, op_rrF, op_rrM, op_mmF, op_repF, li_rol, li_ref, bl_listF, bl_allF, bl_anyF, asT_some, asJ_some, op_eqBf, op_eqBt, isN_non, Bool.not_true, Bool.not_false, rep2]
  refine for_of tripD (fun i τ M' => i ≤ ts.length ∧ Lp M' o e p as w (setTs (2 * w + 1) (ts.take i)) [] ∧ Kp o M M' ∧ ∃ x3 x4 x5 x6, τ = [some (.ref o), some (.int w), some (.tup (ts.map tripD)), x3, x4, x5, x6]) ?_ ?_ ?_ ⟨Nat.zero_le _, lp, kp3, _, _, _, _, rfl⟩
  · exact fun _ _ _ _ => True.intro
  · rintro i t τ M' ht ⟨hi, lp, kp, x3, x4, x5, x6, rfl⟩ X hX
    obtain ⟨b0, b1, b2, b3⟩ := hts t (List.mem_of_getElem? ht)
    obtain ⟨a, r, g1, g2, g3, g4, g5, g6⟩ := lp.at2 b0 b1 b2 b3
    unfold tripD
    rw [tg_tup]
    refine ⟨rfl, ?_⟩
    simp only [ex_c, ex_var, ex_op, ex_un, ex_b, ex_and, ex_or, ex_not, ex_andV, ex_orV, ex_notV, ex_if, ex_chain, ex_nil, ex_cons, ex_tup, ex_lst, ex_call, ex_callP, ex_cb, ex_bm, ex_rep, ex_sl, ex_noPart, ex_part, ex_yes, it_items, it_rng1, it_rng2, tg_name, tg_sub, tg_tup, tg_cons, tg_nil, gs_0, gs_s, ss_0, ss_s, op_ii, op_ss, op_tt, op_mm, op_sb, op_ng, op_iNf, op_iNt, op_lle, op_ixT, op_ixR, op_ixL, op_putE, op_appE, it_tupE, it_rolE, it_refE, lstOf_l, exL, asS_some, asI_int, asB_bl, asL_some, asN_some, ite3_t, ite3_f, bl_1, bl_lenT, bl_lenR, bl_lenL, bl_lenS, bl_tuple, bl_list, bl_abs, bl_intI, bl_intB, bl_max, bl_min, op_eqSf, op_eqSt, op_eqIf, op_eqIt, op_eqTf, op_eqTt, op_eqRf, op_eqRt, op_eqNf, op_eqNt, eqD_int, eqD_nil, pl_int, pl_nil, pl_non, pl_rnil, pl_bl, sl_tupE, sl_rolE, keep_ref, keep_tup, keep_rol, tp_int, tp_tup, tp_rol, tp_str, tp_bl, tp_non, tp_ref, oFd, oMd, oPw, oShl, oLt, oLe, oGt, oGe, op_in, op_cp, wipe_nil, wipe_cons, mset_same, true_and, and_true, isN_int, ex_lstF, ex_repF, ex_lgF1, ex_lgF2, ex_tupRg1, ex_tupRg2, ex_frz, ex_slF, ex_slM, sl_tupF, sl_rolF, op_iiF, op_ssF, op_ttF, op_rrF, op_rrM, op_mmF, op_repF, li_rol, li_ref, bl_listF, bl_allF, bl_anyF, asT_some, asJ_some, op_eqBf, op_eqBt, isN_non, Bool.not_true, Bool.not_false, rep2]
    rw [st_asg]
    simp only [ex_c, ex_var, ex_op, ex_un, ex_b, ex_and, ex_or, ex_not, ex_andV, ex_orV, ex_notV, ex_if, ex_chain, ex_nil, ex_cons, ex_tup, ex_lst, ex_call, ex_callP, ex_cb, ex_bm, ex_rep, ex_sl, ex_noPart, ex_part, ex_yes, it_items, it_rng1, it_rng2, tg_name, tg_sub, tg_tup, tg_cons, tg_nil, gs_0, gs_s, ss_0, ss_s, op_ii, op_ss, op_tt, op_mm, op_sb, op_ng, op_iNf, op_iNt, op_lle, op_ixT, op_ixR, op_ixL, op_putE, op_appE, it_tupE, it_rolE, it_refE, lstOf_l, exL, asS_some, asI_int, asB_bl, asL_some, asN_some, ite3_t, ite3_f, bl_1, bl_lenT, bl_lenR, bl_lenL, bl_lenS, bl_tuple, bl_list, bl_abs, bl_intI, bl_intB, bl_max, bl_min, op_eqSf, op_eqSt, op_eqIf, op_eqIt, op_eqTf, op_eqTt, op_eqRf, op_eqRt, op_eqNf, op_eqNt, eqD_int, eqD_nil, pl_int, pl_nil, pl_non, pl_rnil, pl_bl, sl_tupE, sl_rolE, keep_ref, keep_tup, keep_rol, tp_int, tp_tup, tp_rol, tp_str, tp_bl, tp_non, tp_ref, oFd, oMd, oPw, oShl, oLt, oLe, oGt, oGe, op_in, op_cp, wipe_nil, wipe_cons, mset_same, true_and, and_true, isN_int, ex_lstF, ex_repF, ex_lgF1, ex_lgF2, ex_tupRg1, ex_tupRg2, ex_frz, ex_slF, ex_slM, sl_tupF, sl_rolF, op_iiF, op_ssF, op_ttF, op_rrF, op_rrM, op_mmF, op_repF, li_rol, li_ref, bl_listF, bl_allF, bl_anyF, asT_some, asJ_some, op_eqBf, op_eqBt, isN_non, Bool.not_true, Bool.not_false, rep2, ex_fld, asIn_ref lp.ob, lk_e, lp.mat.top, g1, g2, g4]
    refine hX _ _ ⟨(List.getElem?_eq_some_iff.mp ht).1, ?_, ?_, _, _, _, _, rfl⟩
    · have := lp.putR (q := t.2.1.toNat) (x := some t.2.2) g5 g6
      rw [take_snoc ht, setTs_snoc]
      exact this
    · intro b u hb hu
      have h1 := kp b u hb hu
      have : b ≠ a := fun z => by rw [z, newR a (List.mem_of_getElem? g5)] at hu; cases hu
      rw [mset_ne this]; exact h1
  · rintro τ M' ⟨_, lp, kp, _⟩
    rw [List.take_length] at lp
    exact k _ _ _ _ lp newE newP newR kp
end L3
set_option Elab.async false
set_option linter.all false
set_option maxRecDepth 100000
set_option maxHeartbeats 4000000
namespace L3
open PySem PySem.Spec PyProof.Rows L2
def bEd (e : Ed) : Nat := if e.isSome then 1 else 0
theorem filt_set : ∀ (r : List Ed) (q : Nat) (x : Ed) (h : q < r.length), ((r.set q x).filter Option.isSome).length + bEd r[q] = (r.filter Option.isSome).length + bEd x
  | [], q, x, h => by simp at h
  | y :: r, 0, x, h => by
    simp only [List.set_cons_zero, List.filter_cons, List.getElem_cons_zero, bEd]
    cases x <;> cases y <;> simp
  | y :: r, q + 1, x, h => by
    have ih := filt_set r q x (by simpa using h)
    simp only [List.set_cons_succ, List.filter_cons, List.getElem_cons_succ]
    cases y <;> simp <;> omega
theorem ints_set : ∀ (T : Tab) (p : Nat) (r' : List Ed) (h : p < T.length), (intsT (T.set p r')).length + (T[p].filter Option.isSome).length = (intsT T).length + (r'.filter Option.isSome).length
  | [], p, r', h => by simp at h
  | y :: T, 0, r', h => by
    simp only [List.set_cons_zero, List.getElem_cons_zero, intsT, List.flatMap_cons, List.length_append]
    omega
  | y :: T, p + 1, r', h => by
    have ih := ints_set T p r' (by simpa using h)
    simp only [List.set_cons_succ, List.getElem_cons_succ, intsT, List.flatMap_cons, List.length_append] at ih ⊢
    omega
theorem ints_put {n : Nat} {T : Tab} (sq : Sq n T) {p q : Nat} (hp : p < n) (hq : q < n) (x : Ed) : (intsT (putT T p q x)).length + bEd (at2 T p q) = (intsT T).length + bEd x := by
  have h1 : p < T.length := by rw [sq.rows]; exact hp
  have h2 : q < T[p].length := by rw [sq.cols _ (List.getElem_mem h1)]; exact hq
  have e1 : T.getD p [] = T[p] := by rw [List.getD_eq_getElem?_getD, List.getElem?_eq_getElem h1]; rfl
  have e2 : at2 T p q = T[p][q] := by unfold at2; rw [e1, List.getD_eq_getElem?_getD, List.getElem?_eq_getElem h2]; rfl
  unfold putT
  rw [e1, e2]
  have a := ints_set T p (T[p].set q x) h1
  have b := filt_set T[p] q x h2
  omega
theorem at2_putQ {n : Nat} {T : Tab} (sq : Sq n T) {p q i j : Nat} (hp : p < n) (hq : q < n) (x : Ed) : at2 (putT T p q x) i j = if i = p ∧ j = q then x else at2 T i j := by
  have h1 : p < T.length := by rw [sq.rows]; exact hp
  have h2 : q < T[p].length := by rw [sq.cols _ (List.getElem_mem h1)]; exact hq
  have e1 : T.getD p [] = T[p] := by rw [List.getD_eq_getElem?_getD, List.getElem?_eq_getElem h1]; rfl
  unfold at2 putT
  rw [e1]
  simp only [List.getD_eq_getElem?_getD]
  by_cases hi : i = p
  · subst hi
    rw [List.getElem?_set_self h1, List.getElem?_eq_getElem h1]
    simp only [Option.getD_some]
    by_cases hj : j = q
    · subst hj
      rw [List.getElem?_set_self h2]; simp
    · rw [List.getElem?_set_ne (Ne.symm hj)]; simp [hj]
  · rw [List.getElem?_set_ne (Ne.symm hi), if_neg (fun z => hi z.1)]
theorem at2_empty {n i j : Nat} : at2 (emptyT n) i j = none := by
  unfold at2 emptyT
  simp only [List.getD_eq_getElem?_getD, List.getElem?_replicate]
  split
  · simp only [Option.getD_some, List.getElem?_replicate]
    split <;> rfl
  · rfl
theorem ints_empty {n : Nat} : intsT (emptyT n) = [] := by
  unfold intsT emptyT
  rw [List.flatMap_eq_nil_iff]
  intro r hr
  rw [List.eq_of_mem_replicate hr, List.filter_eq_nil_iff]
  intro x hx
  rw [List.eq_of_mem_replicate hx]; simp
abbrev Dct := List (List Key × D)
section
variable {κ : Type} [DecidableEq κ]
theorem putG_keys {l : List (κ × D)} {k : κ} {d : D} (h : k ∈ l.map (·.1)) : putG l k d = l.map (fun p => if p.1 = k then (p.1, d) else p) := by
  unfold putG
  rw [if_pos]
  obtain ⟨x, hx, rfl⟩ := List.mem_map.mp h
  exact List.any_eq_true.mpr ⟨x, hx, by simp⟩
theorem putG_new {l : List (κ × D)} {k : κ} {d : D} (h : k ∉ l.map (·.1)) : putG l k d = l ++ [(k, d)] := by
  unfold putG
  rw [if_neg]
  intro z
  obtain ⟨x, hx, e⟩ := List.any_eq_true.mp z
  exact h (List.mem_map.mpr ⟨x, hx, of_decide_eq_true e⟩)
theorem map_fst {l : List (κ × D)} {k : κ} {d : D} : (l.map (fun p => if p.1 = k then (p.1, d) else p)).map (·.1) = l.map (·.1) := by
  rw [List.map_map]
  refine List.map_congr_left fun x _ => ?_
  simp only [Function.comp]
  split <;> rfl
theorem map_same {l : List (κ × D)} {k : κ} {d : D} (h : k ∉ l.map (·.1)) : l.map (fun p => if p.1 = k then (p.1, d) else p) = l := by
  conv => rhs; rw [← List.map_id l]
  refine List.map_congr_left fun x hx => ?_
  rw [if_neg (fun z => h (List.mem_map.mpr ⟨x, hx, z⟩))]; rfl
end
theorem valT_none {l : Dct} {k : List Key} (h : k ∉ l.map (·.1)) : valT l k = none := by
  induction l with
  | nil => rfl
  | cons x l ih =>
    rw [List.map_cons, List.mem_cons, not_or] at h
    unfold valT
    rw [if_neg (fun z => h.1 z.symm)]
    exact ih h.2
theorem valT_map {l : Dct} {k j : List Key} {d : D} (h : k ∈ l.map (·.1)) : valT (l.map (fun p => if p.1 = k then (p.1, d) else p)) j = if j = k then some d else valT l j := by
  induction l with
  | nil => simp at h
  | cons x l ih =>
    have tail : j ≠ k → valT (l.map (fun p => if p.1 = k then (p.1, d) else p)) j = valT l j := fun hj => by
      by_cases hk : k ∈ l.map (fun p : List Key × D => p.1)
      · rw [ih hk, if_neg hj]
      · rw [map_same hk]
    rw [List.map_cons]
    unfold valT
    by_cases hx : x.1 = k
    · simp only [if_pos hx]
      by_cases hj : x.1 = j
      · rw [if_pos hj, if_pos (hj.symm.trans hx)]
      · have hjk : ¬ j = k := fun z => hj (hx.trans z.symm)
        rw [if_neg hj, if_neg hjk, if_neg hj]
        exact tail hjk
    · simp only [if_neg hx]
      have hk : k ∈ l.map (fun p : List Key × D => p.1) := by
        rw [List.map_cons, List.mem_cons] at h
        rcases h with h | h
        · exact absurd h.symm hx
        · exact h
      by_cases hj : x.1 = j
      · have hjk : ¬ j = k := fun z => hx (hj.trans z)
        rw [if_pos hj, if_neg hjk, if_pos hj]
      · rw [if_neg hj, if_neg hj]
        exact ih hk
theorem valT_snoc {l : Dct} {k j : List Key} {d : D} (h : k ∉ l.map (·.1)) : valT (l ++ [(k, d)]) j = if j = k then some d else valT l j := by
  induction l with
  | nil =>
    simp only [List.nil_append, valT]
    by_cases hj : j = k
    · rw [if_pos hj.symm, if_pos hj]
    · rw [if_neg (fun z => hj z.symm), if_neg hj]
  | cons x l ih =>
    rw [List.map_cons, List.mem_cons, not_or] at h
    rw [List.cons_append]
    unfold valT
    rw [ih h.2]
    by_cases hj : x.1 = j
    · rw [if_pos hj, if_neg (fun z => h.1 (z.symm.trans hj.symm)), if_pos hj]
    · rw [if_neg hj, if_neg hj]
theorem valT_put {l : Dct} {k j : List Key} {d : D} : valT (putG l k d) j = if j = k then some d else valT l j := by
  by_cases h : k ∈ l.map (·.1)
  · rw [putG_keys h, valT_map h]
  · rw [putG_new h, valT_snoc h]
abbrev k2 (p q : Nat) : List Key := [.inl (p : Int), .inl (q : Int)]
theorem k2_inj {p q i j : Nat} (h : k2 p q = k2 i j) : p = i ∧ q = j := by
  unfold k2 at h
  injection h with h1 h2
  injection h2 with h2 _
  injection h1 with h1
  injection h2 with h2
  exact ⟨by omega, by omega⟩
def cntL (l : Dct) : Nat := (l.filter fun kv => !isN kv.2).length
def bD (d : D) : Nat := if isN d then 0 else 1
theorem bD_oD {e : Ed} : bD (oD e) = bEd e := by cases e <;> rfl
theorem isN2 (d : D) : isN d = true ∨ isN d = false := by cases isN d <;> simp
theorem cnt_map : ∀ {l : Dct} {k : List Key} {d : D}, (l.map (·.1)).Nodup → k ∈ l.map (·.1) → cntL (l.map (fun p => if p.1 = k then (p.1, d) else p)) + bD ((valT l k).getD .non) = cntL l + bD d
  | [], k, d, _, h => by simp at h
  | x :: l, k, d, nd, h => by
    rw [List.map_cons, List.nodup_cons] at nd
    rw [List.map_cons]
    unfold valT
    by_cases hx : x.1 = k
    · rw [if_pos hx, if_pos hx, map_same (by rw [← hx]; exact nd.1)]
      simp only [cntL, List.filter_cons, Option.getD_some, bD]
      rcases isN2 d with hd | hd <;> rcases isN2 x.2 with hx2 | hx2 <;> simp [hd, hx2]
    · rw [if_neg hx, if_neg hx]
      have hk : k ∈ l.map (·.1) := by
        rw [List.map_cons, List.mem_cons] at h
        rcases h with h | h
        · exact absurd h.symm hx
        · exact h
      have ih := cnt_map (d := d) nd.2 hk
      simp only [cntL, List.filter_cons] at ih ⊢
      rcases isN2 x.2 with hx2 | hx2 <;> simp [hx2] <;> omega
theorem cnt_put {l : Dct} {k : List Key} {d : D} (nd : (l.map (·.1)).Nodup) : cntL (putG l k d) + bD ((valT l k).getD .non) = cntL l + bD d := by
  by_cases h : k ∈ l.map (·.1)
  · rw [putG_keys h]; exact cnt_map nd h
  · rw [putG_new h, valT_none h]
    simp only [cntL, List.filter_append, List.filter_cons, List.filter_nil, List.length_append, Option.getD_none, bD, isN_non]
    rcases isN2 d with hd | hd <;> simp [hd]
structure DcT (n : Nat) (l : Dct) (T : Tab) : Prop where
  key : ∀ kv ∈ l, ∃ (p q : Nat) (x : Ed), p < n ∧ q < n ∧ kv = (k2 p q, oD x)
  nd : (l.map (·.1)).Nodup
  val : ∀ p q, p < n → q < n → (valT l (k2 p q)).getD .non = oD (at2 T p q)
  cnt : cntL l = (intsT T).length
theorem DcT.empty {n : Nat} : DcT n [] (emptyT n) := ⟨fun _ h => by simp at h, List.nodup_nil, fun p q _ _ => by rw [at2_empty]; rfl, by rw [ints_empty]; rfl⟩
theorem DcT.put {n : Nat} {l : Dct} {T : Tab} (h : DcT n l T) (sq : Sq n T) {p q : Nat} (hp : p < n) (hq : q < n) (x : Ed) : DcT n (putG l (k2 p q) (oD x)) (putT T p q x) := by
  refine ⟨fun kv hk => ?_, ?_, fun i j hi hj => ?_, ?_⟩
  · by_cases hm : k2 p q ∈ l.map (·.1)
    · rw [putG_keys hm] at hk
      obtain ⟨y, hy, rfl⟩ := List.mem_map.mp hk
      obtain ⟨i, j, z, a, b, rfl⟩ := h.key y hy
      by_cases e : k2 i j = k2 p q
      · exact ⟨i, j, x, a, b, by rw [if_pos e]⟩
      · exact ⟨i, j, z, a, b, by rw [if_neg e]⟩
    · rw [putG_new hm] at hk
      rcases List.mem_append.mp hk with hk | hk
      · exact h.key kv hk
      · rw [List.mem_singleton] at hk
        exact ⟨p, q, x, hp, hq, hk⟩
  · by_cases hm : k2 p q ∈ l.map (·.1)
    · rw [putG_keys hm, map_fst]; exact h.nd
    · rw [putG_new hm, List.map_append, List.nodup_append]
      exact ⟨h.nd, by simp, fun a ha b hb => by
        simp only [List.map_cons, List.map_nil, List.mem_singleton] at hb
        rw [hb]; intro z; exact hm (z ▸ ha)⟩
  · rw [valT_put, at2_putQ sq hp hq]
    by_cases e : k2 i j = k2 p q
    · rw [if_pos e, if_pos (k2_inj e)]; rfl
    · rw [if_neg e, if_neg (fun z => e (by rw [z.1, z.2]))]
      exact h.val i j hi hj
  · have a := cnt_put (d := oD x) (k := k2 p q) h.nd
    have b := ints_put sq hp hq x
    rw [h.val p q hp hq, bD_oD, bD_oD] at a
    have := h.cnt
    omega
theorem Sq.setT {n : Nat} {T : Tab} {t : Trip} (s : Sq n T) : Sq n (L3.setT T t) := s.put
theorem Sq.setTs {n : Nat} {ts : List Trip} : Sq n (L3.setTs n ts) := by
  unfold L3.setTs
  have : ∀ (ts : List Trip) (T : Tab), Sq n T → Sq n (ts.foldl L3.setT T) := by
    intro ts
    induction ts with
    | nil => exact fun _ s => s
    | cons t ts ih => exact fun T s => ih _ s.setT
  exact this ts _ .empty
end L3
set_option Elab.async false
set_option linter.all false
set_option maxRecDepth 100000
set_option maxHeartbeats 4000000
namespace L3
open PySem PySem.Spec PyProof.Rows L2
end L3
set_option Elab.async false
set_option linter.all false
set_option maxRecDepth 100000
set_option maxHeartbeats 4000000
namespace L3
open PySem PySem.Spec PyProof.Rows L2
def endLR (sn : Sp3) : XK3 → TS3 := fun E =>
  (wSeq (wIfS (wB (wOp (oEq false) (wCall sn E (wCons (wVar 0) (wCons (wC (.int 8)) wNil))) (wC (.int 0)))) (wRet (wOp oSub (wCall sn E (wCons (wVar 0) (wCons (wC (.int 25)) wNil))) (wC (.int 12)))) wNext)
  (wRet (wOp oSub (wCall sn E (wCons (wVar 0) (wCons (wC (.int 7)) wNil))) (wC (.int 3)))))
def SEndL (sp : Sp3) : Prop := ∀ (a : Addr) (M : Mp) (Q : VK3) (E : XK3), Feed M a → (∀ r M', -12 ≤ r → r ≤ 12 → Feed M' a → Only a M M' → Q (.int r) M') → sp [.ref a] M Q E
theorem s_endL {sn : Sp3} (k : SNext sn) : SEndL (spOf 1 1 (endLR sn)) := by
  refine fun a M Q E f q => ⟨rfl, ?_⟩
  show endLR sn E _ [some (.ref a)] M
  unfold endLR
  rw [st_seq, st_if]
  simp only [ex_c, ex_var, ex_op, ex_un, ex_b, ex_and, ex_or, ex_not, ex_andV, ex_orV, ex_notV, ex_if, ex_chain, ex_nil, ex_cons, ex_tup, ex_lst, ex_call, ex_callP, ex_cb, ex_bm, ex_rep, ex_sl, ex_noPart, ex_part, ex_yes, it_items, it_rng1, it_rng2, tg_name, tg_sub, tg_tup, tg_cons, tg_nil, gs_0, gs_s, ss_0, ss_s, op_ii, op_ss, op_tt, op_mm, op_sb, op_ng, op_iNf, op_iNt, op_lle, op_ixT, op_ixR, op_ixL, op_putE, op_appE, it_tupE, it_rolE, it_refE, lstOf_l, exL, asS_some, asI_int, asB_bl, asL_some, asN_some, ite3_t, ite3_f, bl_1, bl_lenT, bl_lenR, bl_lenL, bl_lenS, bl_tuple, bl_list, bl_abs, bl_intI, bl_intB, bl_max, bl_min, op_eqSf, op_eqSt, op_eqIf, op_eqIt, op_eqTf, op_eqTt, op_eqRf, op_eqRt, op_eqNf, op_eqNt, eqD_int, eqD_nil, pl_int, pl_nil, pl_non, pl_rnil, pl_bl, sl_tupE, sl_rolE, keep_ref, keep_tup, keep_rol, tp_int, tp_tup, tp_rol, tp_str, tp_bl, tp_non, tp_ref, oFd, oMd, oPw, oShl, oLt, oLe, oGt, oGe, op_in, op_cp, wipe_nil, wipe_cons, mset_same, true_and, and_true, isN_int, ex_lstF, ex_repF, ex_lgF1, ex_lgF2, ex_tupRg1, ex_tupRg2, ex_frz, ex_slF, ex_slM, sl_tupF, sl_rolF, op_iiF, op_ssF, op_ttF, op_rrF, op_rrM, op_mmF, op_repF, li_rol, li_ref, bl_listF, bl_allF, bl_anyF, asT_some, asJ_some, op_eqBf, op_eqBt, isN_non, Bool.not_true, Bool.not_false, rep2]
  refine k _ _ _ _ _ f (by decide) (by decide) fun r M1 r0 r1 f1 o1 => ?_
  simp only [ex_c, ex_var, ex_op, ex_un, ex_b, ex_and, ex_or, ex_not, ex_andV, ex_orV, ex_notV, ex_if, ex_chain, ex_nil, ex_cons, ex_tup, ex_lst, ex_call, ex_callP, ex_cb, ex_bm, ex_rep, ex_sl, ex_noPart, ex_part, ex_yes, it_items, it_rng1, it_rng2, tg_name, tg_sub, tg_tup, tg_cons, tg_nil, gs_0, gs_s, ss_0, ss_s, op_ii, op_ss, op_tt, op_mm, op_sb, op_ng, op_iNf, op_iNt, op_lle, op_ixT, op_ixR, op_ixL, op_putE, op_appE, it_tupE, it_rolE, it_refE, lstOf_l, exL, asS_some, asI_int, asB_bl, asL_some, asN_some, ite3_t, ite3_f, bl_1, bl_lenT, bl_lenR, bl_lenL, bl_lenS, bl_tuple, bl_list, bl_abs, bl_intI, bl_intB, bl_max, bl_min, op_eqSf, op_eqSt, op_eqIf, op_eqIt, op_eqTf, op_eqTt, op_eqRf, op_eqRt, op_eqNf, op_eqNt, eqD_int, eqD_nil, pl_int, pl_nil, pl_non, pl_rnil, pl_bl, sl_tupE, sl_rolE, keep_ref, keep_tup, keep_rol, tp_int, tp_tup, tp_rol, tp_str, tp_bl, tp_non, tp_ref, oFd, oMd, oPw, oShl, oLt, oLe, oGt, oGe, op_in, op_cp, wipe_nil, wipe_cons, mset_same, true_and, and_true, isN_int, ex_lstF, ex_repF, ex_lgF1, ex_lgF2, ex_tupRg1, ex_tupRg2, ex_frz, ex_slF, ex_slM, sl_tupF, sl_rolF, op_iiF, op_ssF, op_ttF, op_rrF, op_rrM, op_mmF, op_repF, li_rol, li_ref, bl_listF, bl_allF, bl_anyF, asT_some, asJ_some, op_eqBf, op_eqBt, isN_non, Bool.not_true, Bool.not_false, rep2]
  by_cases hr : r = 0
  · rw [decide_eq_true hr, ite3_t, st_ret]
    simp only [ex_c, ex_var, ex_op, ex_un, ex_b, ex_and, ex_or, ex_not, ex_andV, ex_orV, ex_notV, ex_if, ex_chain, ex_nil, ex_cons, ex_tup, ex_lst, ex_call, ex_callP, ex_cb, ex_bm, ex_rep, ex_sl, ex_noPart, ex_part, ex_yes, it_items, it_rng1, it_rng2, tg_name, tg_sub, tg_tup, tg_cons, tg_nil, gs_0, gs_s, ss_0, ss_s, op_ii, op_ss, op_tt, op_mm, op_sb, op_ng, op_iNf, op_iNt, op_lle, op_ixT, op_ixR, op_ixL, op_putE, op_appE, it_tupE, it_rolE, it_refE, lstOf_l, exL, asS_some, asI_int, asB_bl, asL_some, asN_some, ite3_t, ite3_f, bl_1, bl_lenT, bl_lenR, bl_lenL, bl_lenS, bl_tuple, bl_list, bl_abs, bl_intI, bl_intB, bl_max, bl_min, op_eqSf, op_eqSt, op_eqIf, op_eqIt, op_eqTf, op_eqTt, op_eqRf, op_eqRt, op_eqNf, op_eqNt, eqD_int, eqD_nil, pl_int, pl_nil, pl_non, pl_rnil, pl_bl, sl_tupE, sl_rolE, keep_ref, keep_tup, keep_rol, tp_int, tp_tup, tp_rol, tp_str, tp_bl, tp_non, tp_ref, oFd, oMd, oPw, oShl, oLt, oLe, oGt, oGe, op_in, op_cp, wipe_nil, wipe_cons, mset_same, true_and, and_true, isN_int, ex_lstF, ex_repF, ex_lgF1, ex_lgF2, ex_tupRg1, ex_tupRg2, ex_frz, ex_slF, ex_slM, sl_tupF, sl_rolF, op_iiF, op_ssF, op_ttF, op_rrF, op_rrM, op_mmF, op_repF, li_rol, li_ref, bl_listF, bl_allF, bl_anyF, asT_some, asJ_some, op_eqBf, op_eqBt, isN_non, Bool.not_true, Bool.not_false, rep2]
    refine k _ _ _ _ _ f1 (by decide) (by decide) fun s M2 s0 s1 f2 o2 => ?_
    simp only [ex_c, ex_var, ex_op, ex_un, ex_b, ex_and, ex_or, ex_not, ex_andV, ex_orV, ex_notV, ex_if, ex_chain, ex_nil, ex_cons, ex_tup, ex_lst, ex_call, ex_callP, ex_cb, ex_bm, ex_rep, ex_sl, ex_noPart, ex_part, ex_yes, it_items, it_rng1, it_rng2, tg_name, tg_sub, tg_tup, tg_cons, tg_nil, gs_0, gs_s, ss_0, ss_s, op_ii, op_ss, op_tt, op_mm, op_sb, op_ng, op_iNf, op_iNt, op_lle, op_ixT, op_ixR, op_ixL, op_putE, op_appE, it_tupE, it_rolE, it_refE, lstOf_l, exL, asS_some, asI_int, asB_bl, asL_some, asN_some, ite3_t, ite3_f, bl_1, bl_lenT, bl_lenR, bl_lenL, bl_lenS, bl_tuple, bl_list, bl_abs, bl_intI, bl_intB, bl_max, bl_min, op_eqSf, op_eqSt, op_eqIf, op_eqIt, op_eqTf, op_eqTt, op_eqRf, op_eqRt, op_eqNf, op_eqNt, eqD_int, eqD_nil, pl_int, pl_nil, pl_non, pl_rnil, pl_bl, sl_tupE, sl_rolE, keep_ref, keep_tup, keep_rol, tp_int, tp_tup, tp_rol, tp_str, tp_bl, tp_non, tp_ref, oFd, oMd, oPw, oShl, oLt, oLe, oGt, oGe, op_in, op_cp, wipe_nil, wipe_cons, mset_same, true_and, and_true, isN_int, ex_lstF, ex_repF, ex_lgF1, ex_lgF2, ex_tupRg1, ex_tupRg2, ex_frz, ex_slF, ex_slM, sl_tupF, sl_rolF, op_iiF, op_ssF, op_ttF, op_rrF, op_rrM, op_mmF, op_repF, li_rol, li_ref, bl_listF, bl_allF, bl_anyF, asT_some, asJ_some, op_eqBf, op_eqBt, isN_non, Bool.not_true, Bool.not_false, rep2]
    exact q _ _ (by omega) (by omega) f2 (o1.trans o2)
  · rw [decide_eq_false hr, ite3_f, st_next]
    try dsimp only
    rw [st_ret]
    simp only [ex_c, ex_var, ex_op, ex_un, ex_b, ex_and, ex_or, ex_not, ex_andV, ex_orV, ex_notV, ex_if, ex_chain, ex_nil, ex_cons, ex_tup, ex_lst, ex_call, ex_callP, ex_cb, ex_bm, ex_rep, ex_sl, ex_noPart, ex_part, ex_yes, it_items, it_rng1, it_rng2, tg_name, tg_sub, tg_tup, tg_cons, tg_nil, gs_0, gs_s, ss_0, ss_s, op_ii, op_ss, op_tt, op_mm, op_sb, op_ng, op_iNf, op_iNt, op_lle, op_ixT, op_ixR, op_ixL, op_putE, op_appE, it_tupE, it_rolE, it_refE, lstOf_l, exL, asS_some, asI_int, asB_bl, asL_some, asN_some, ite3_t, ite3_f, bl_1, bl_lenT, bl_lenR, bl_lenL, bl_lenS, bl_tuple, bl_list, bl_abs, bl_intI, bl_intB, bl_max, bl_min, op_eqSf, op_eqSt, op_eqIf, op_eqIt, op_eqTf, op_eqTt, op_eqRf, op_eqRt, op_eqNf, op_eqNt, eqD_int, eqD_nil, pl_int, pl_nil, pl_non, pl_rnil, pl_bl, sl_tupE, sl_rolE, keep_ref, keep_tup, keep_rol, tp_int, tp_tup, tp_rol, tp_str, tp_bl, tp_non, tp_ref, oFd, oMd, oPw, oShl, oLt, oLe, oGt, oGe, op_in, op_cp, wipe_nil, wipe_cons, mset_same, true_and, and_true, isN_int, ex_lstF, ex_repF, ex_lgF1, ex_lgF2, ex_tupRg1, ex_tupRg2, ex_frz, ex_slF, ex_slM, sl_tupF, sl_rolF, op_iiF, op_ssF, op_ttF, op_rrF, op_rrM, op_mmF, op_repF, li_rol, li_ref, bl_listF, bl_allF, bl_anyF, asT_some, asJ_some, op_eqBf, op_eqBt, isN_non, Bool.not_true, Bool.not_false, rep2]
    refine k _ _ _ _ _ f1 (by decide) (by decide) fun s M2 s0 s1 f2 o2 => ?_
    simp only [ex_c, ex_var, ex_op, ex_un, ex_b, ex_and, ex_or, ex_not, ex_andV, ex_orV, ex_notV, ex_if, ex_chain, ex_nil, ex_cons, ex_tup, ex_lst, ex_call, ex_callP, ex_cb, ex_bm, ex_rep, ex_sl, ex_noPart, ex_part, ex_yes, it_items, it_rng1, it_rng2, tg_name, tg_sub, tg_tup, tg_cons, tg_nil, gs_0, gs_s, ss_0, ss_s, op_ii, op_ss, op_tt, op_mm, op_sb, op_ng, op_iNf, op_iNt, op_lle, op_ixT, op_ixR, op_ixL, op_putE, op_appE, it_tupE, it_rolE, it_refE, lstOf_l, exL, asS_some, asI_int, asB_bl, asL_some, asN_some, ite3_t, ite3_f, bl_1, bl_lenT, bl_lenR, bl_lenL, bl_lenS, bl_tuple, bl_list, bl_abs, bl_intI, bl_intB, bl_max, bl_min, op_eqSf, op_eqSt, op_eqIf, op_eqIt, op_eqTf, op_eqTt, op_eqRf, op_eqRt, op_eqNf, op_eqNt, eqD_int, eqD_nil, pl_int, pl_nil, pl_non, pl_rnil, pl_bl, sl_tupE, sl_rolE, keep_ref, keep_tup, keep_rol, tp_int, tp_tup, tp_rol, tp_str, tp_bl, tp_non, tp_ref, oFd, oMd, oPw, oShl, oLt, oLe, oGt, oGe, op_in, op_cp, wipe_nil, wipe_cons, mset_same, true_and, and_true, isN_int, ex_lstF, ex_repF, ex_lgF1, ex_lgF2, ex_tupRg1, ex_tupRg2, ex_frz, ex_slF, ex_slM, sl_tupF, sl_rolF, op_iiF, op_ssF, op_ttF, op_rrF, op_rrM, op_mmF, op_repF, li_rol, li_ref, bl_listF, bl_allF, bl_anyF, asT_some, asJ_some, op_eqBf, op_eqBt, isN_non, Bool.not_true, Bool.not_false, rep2]
    exact q _ _ (by omega) (by omega) f2 (o1.trans o2)
def rowsLR (sn se : Sp3) : XK3 → TS3 := fun E =>
  (wSeq (wSet 3 (wOp oAddF (wOp oMulF (wC (.int 2)) (wVar 1)) (wC (.int 1))))
  (wSeq (wSet 4 (wLst wNil))
  (wSeq (wFor (wRng1 (wCons (wCall sn E (wCons (wVar 0) (wCons (wOp oAddF (wVar 2) (wC (.int 1))) wNil))) wNil)) (wgName 5) (wDrop (wBM oApp (wVar 4) (wCons (wTup (wCons (wCall sn E (wCons (wVar 0) (wCons (wVar 3) wNil))) (wCons (wCall sn E (wCons (wVar 0) (wCons (wVar 3) wNil))) (wCons (wCall se E (wCons (wVar 0) wNil)) wNil)))) wNil))))
  (wRet (wCB bTuple (wCons (wVar 4) wNil))))))
theorem Only.kp {a : Addr} {M M' : Mp} (o : Only a M M') : Kp a M M' := fun b u hb hu => by rw [o b hb]; exact hu
theorem Kp.trans {a : Addr} {M M1 M2 : Mp} (x : Kp a M M1) (y : Kp a M1 M2) : Kp a M M2 := fun b u hb hu => y b u hb (x b u hb hu)
theorem Kp.refl {a : Addr} {M : Mp} : Kp a M M := fun _ _ _ h => h
def SRowsL (sp : Sp3) : Prop := ∀ (a : Addr) (w : Nat) (most : Int) (M : Mp) (Q : VK3) (E : XK3), Feed M a → w ≤ 400 → 0 ≤ most → most ≤ 100 →
  (∀ (ts : List Trip) M', (∀ t ∈ ts, In2 (2 * (w : Int) + 1) t ∧ t.2.2.natAbs < 13) → ts.length ≤ 100 → Feed M' a → Kp a M M' → Q (.tup (ts.map tripD)) M') → sp [.ref a, .int w, .int most] M Q E
theorem s_rowsL {sn se : Sp3} (kn : SNext sn) (ke : SEndL se) : SRowsL (spOf 3 6 (rowsLR sn se)) := by
  refine fun a w most M Q E f hw hm hm1 q => ⟨rfl, ?_⟩
  show rowsLR sn se E _ [some (.ref a), some (.int w), some (.int most), none, none, none] M
  unfold rowsLR
  have big : (1000000 : Nat) ≤ sizeLine := by decide
  rw [st_seq, st_set]
  simp only [ex_c, ex_var, ex_op, ex_un, ex_b, ex_and, ex_or, ex_not, ex_andV, ex_orV, ex_notV, ex_if, ex_chain, ex_nil, ex_cons, ex_tup, ex_lst, ex_call, ex_callP, ex_cb, ex_bm, ex_rep, ex_sl, ex_noPart, ex_part, ex_yes, it_items, it_rng1, it_rng2, tg_name, tg_sub, tg_tup, tg_cons, tg_nil, gs_0, gs_s, ss_0, ss_s, op_ii, op_ss, op_tt, op_mm, op_sb, op_ng, op_iNf, op_iNt, op_lle, op_ixT, op_ixR, op_ixL, op_putE, op_appE, it_tupE, it_rolE, it_refE, lstOf_l, exL, asS_some, asI_int, asB_bl, asL_some, asN_some, ite3_t, ite3_f, bl_1, bl_lenT, bl_lenR, bl_lenL, bl_lenS, bl_tuple, bl_list, bl_abs, bl_intI, bl_intB, bl_max, bl_min, op_eqSf, op_eqSt, op_eqIf, op_eqIt, op_eqTf, op_eqTt, op_eqRf, op_eqRt, op_eqNf, op_eqNt, eqD_int, eqD_nil, pl_int, pl_nil, pl_non, pl_rnil, pl_bl, sl_tupE, sl_rolE, keep_ref, keep_tup, keep_rol, tp_int, tp_tup, tp_rol, tp_str, tp_bl, tp_non, tp_ref, oFd, oMd, oPw, oShl, oLt, oLe, oGt, oGe, op_in, op_cp, wipe_nil, wipe_cons, mset_same, true_and, and_true, isN_int, ex_lstF, ex_repF, ex_lgF1, ex_lgF2, ex_tupRg1, ex_tupRg2, ex_frz, ex_slF, ex_slM, sl_tupF, sl_rolF, op_iiF, op_ssF, op_ttF, op_rrF, op_rrM, op_mmF, op_repF, li_rol, li_ref, bl_listF, bl_allF, bl_anyF, asT_some, asJ_some, op_eqBf, op_eqBt, isN_non, Bool.not_true, Bool.not_false, rep2]
  refine ⟨mul2, ?_⟩
  try dsimp only
  rw [st_seq, st_set]
  simp only [ex_c, ex_var, ex_op, ex_un, ex_b, ex_and, ex_or, ex_not, ex_andV, ex_orV, ex_notV, ex_if, ex_chain, ex_nil, ex_cons, ex_tup, ex_lst, ex_call, ex_callP, ex_cb, ex_bm, ex_rep, ex_sl, ex_noPart, ex_part, ex_yes, it_items, it_rng1, it_rng2, tg_name, tg_sub, tg_tup, tg_cons, tg_nil, gs_0, gs_s, ss_0, ss_s, op_ii, op_ss, op_tt, op_mm, op_sb, op_ng, op_iNf, op_iNt, op_lle, op_ixT, op_ixR, op_ixL, op_putE, op_appE, it_tupE, it_rolE, it_refE, lstOf_l, exL, asS_some, asI_int, asB_bl, asL_some, asN_some, ite3_t, ite3_f, bl_1, bl_lenT, bl_lenR, bl_lenL, bl_lenS, bl_tuple, bl_list, bl_abs, bl_intI, bl_intB, bl_max, bl_min, op_eqSf, op_eqSt, op_eqIf, op_eqIt, op_eqTf, op_eqTt, op_eqRf, op_eqRt, op_eqNf, op_eqNt, eqD_int, eqD_nil, pl_int, pl_nil, pl_non, pl_rnil, pl_bl, sl_tupE, sl_rolE, keep_ref, keep_tup, keep_rol, tp_int, tp_tup, tp_rol, tp_str, tp_bl, tp_non, tp_ref, oFd, oMd, oPw, oShl, oLt, oLe, oGt, oGe, op_in, op_cp, wipe_nil, wipe_cons, mset_same, true_and, and_true, isN_int, ex_lstF, ex_repF, ex_lgF1, ex_lgF2, ex_tupRg1, ex_tupRg2, ex_frz, ex_slF, ex_slM, sl_tupF, sl_rolF, op_iiF, op_ssF, op_ttF, op_rrF, op_rrM, op_mmF, op_repF, li_rol, li_ref, bl_listF, bl_allF, bl_anyF, asT_some, asJ_some, op_eqBf, op_eqBt, isN_non, Bool.not_true, Bool.not_false, rep2]
  refine ⟨by show 0 ≤ sizeLine; omega, fun p hp => ?_⟩
  have fa : ∃ g m c : Int, M a = some (.lst [.int g, .int m, .int c]) := f
  have hap : a ≠ p := by obtain ⟨_, _, _, h⟩ := fa; exact ne_m h hp
  have f1 : Feed (mset M p (.lst [])) a := by
    obtain ⟨g, m, c, h⟩ := fa
    exact ⟨g, m, c, by rw [mset_ne hap]; exact h⟩
  try dsimp only
  rw [st_seq, st_for]
  simp only [ex_c, ex_var, ex_op, ex_un, ex_b, ex_and, ex_or, ex_not, ex_andV, ex_orV, ex_notV, ex_if, ex_chain, ex_nil, ex_cons, ex_tup, ex_lst, ex_call, ex_callP, ex_cb, ex_bm, ex_rep, ex_sl, ex_noPart, ex_part, ex_yes, it_items, it_rng1, it_rng2, tg_name, tg_sub, tg_tup, tg_cons, tg_nil, gs_0, gs_s, ss_0, ss_s, op_ii, op_ss, op_tt, op_mm, op_sb, op_ng, op_iNf, op_iNt, op_lle, op_ixT, op_ixR, op_ixL, op_putE, op_appE, it_tupE, it_rolE, it_refE, lstOf_l, exL, asS_some, asI_int, asB_bl, asL_some, asN_some, ite3_t, ite3_f, bl_1, bl_lenT, bl_lenR, bl_lenL, bl_lenS, bl_tuple, bl_list, bl_abs, bl_intI, bl_intB, bl_max, bl_min, op_eqSf, op_eqSt, op_eqIf, op_eqIt, op_eqTf, op_eqTt, op_eqRf, op_eqRt, op_eqNf, op_eqNt, eqD_int, eqD_nil, pl_int, pl_nil, pl_non, pl_rnil, pl_bl, sl_tupE, sl_rolE, keep_ref, keep_tup, keep_rol, tp_int, tp_tup, tp_rol, tp_str, tp_bl, tp_non, tp_ref, oFd, oMd, oPw, oShl, oLt, oLe, oGt, oGe, op_in, op_cp, wipe_nil, wipe_cons, mset_same, true_and, and_true, isN_int, ex_lstF, ex_repF, ex_lgF1, ex_lgF2, ex_tupRg1, ex_tupRg2, ex_frz, ex_slF, ex_slM, sl_tupF, sl_rolF, op_iiF, op_ssF, op_ttF, op_rrF, op_rrM, op_mmF, op_repF, li_rol, li_ref, bl_listF, bl_allF, bl_anyF, asT_some, asJ_some, op_eqBf, op_eqBt, isN_non, Bool.not_true, Bool.not_false, rep2]
  refine kn _ _ _ _ _ f1 (by omega) (by omega) fun cnt M1 c0 c1 f2 o1 => ?_
  have hp1 : M1 p = some (.lst []) := by rw [o1 p hap.symm]; exact mset_same
  have kp1 : Kp a M M1 := fun b u hb hu => by rw [o1 b hb, mset_ne (ne_m hu hp)]; exact hu
  simp only [ex_c, ex_var, ex_op, ex_un, ex_b, ex_and, ex_or, ex_not, ex_andV, ex_orV, ex_notV, ex_if, ex_chain, ex_nil, ex_cons, ex_tup, ex_lst, ex_call, ex_callP, ex_cb, ex_bm, ex_rep, ex_sl, ex_noPart, ex_part, ex_yes, it_items, it_rng1, it_rng2, tg_name, tg_sub, tg_tup, tg_cons, tg_nil, gs_0, gs_s, ss_0, ss_s, op_ii, op_ss, op_tt, op_mm, op_sb, op_ng, op_iNf, op_iNt, op_lle, op_ixT, op_ixR, op_ixL, op_putE, op_appE, it_tupE, it_rolE, it_refE, lstOf_l, exL, asS_some, asI_int, asB_bl, asL_some, asN_some, ite3_t, ite3_f, bl_1, bl_lenT, bl_lenR, bl_lenL, bl_lenS, bl_tuple, bl_list, bl_abs, bl_intI, bl_intB, bl_max, bl_min, op_eqSf, op_eqSt, op_eqIf, op_eqIt, op_eqTf, op_eqTt, op_eqRf, op_eqRt, op_eqNf, op_eqNt, eqD_int, eqD_nil, pl_int, pl_nil, pl_non, pl_rnil, pl_bl, sl_tupE, sl_rolE, keep_ref, keep_tup, keep_rol, tp_int, tp_tup, tp_rol, tp_str, tp_bl, tp_non, tp_ref, oFd, oMd, oPw, oShl, oLt, oLe, oGt, oGe, op_in, op_cp, wipe_nil, wipe_cons, mset_same, true_and, and_true, isN_int, ex_lstF, ex_repF, ex_lgF1, ex_lgF2, ex_tupRg1, ex_tupRg2, ex_frz, ex_slF, ex_slM, sl_tupF, sl_rolF, op_iiF, op_ssF, op_ttF, op_rrF, op_rrM, op_mmF, op_repF, li_rol, li_ref, bl_listF, bl_allF, bl_anyF, asT_some, asJ_some, op_eqBf, op_eqBt, isN_non, Bool.not_true, Bool.not_false, rep2]
  refine ⟨by omega, by omega, ?_⟩
  refine for_rg (fun i τ M' => i ≤ cnt.toNat ∧ Feed M' a ∧ Kp a M M' ∧ (∃ ts : List Trip, M' p = some (.lst (ts.map tripD)) ∧ ts.length = i ∧ ∀ t ∈ ts, In2 (2 * (w : Int) + 1) t ∧ t.2.2.natAbs < 13) ∧ ∃ x5, τ = [some (.ref a), some (.int w), some (.int most), some (.int (2 * (w : Int) + 1)), some (.ref p), x5]) ?_ ?_ ⟨Nat.zero_le _, f2, kp1, ⟨[], hp1, rfl, by simp⟩, _, rfl⟩
  · rintro i τ M' hi ⟨_, f, kp, ⟨ts, hts, hl, hall⟩, x5, rfl⟩ X hX
    rw [tg_name, st_drop]
    simp only [ex_c, ex_var, ex_op, ex_un, ex_b, ex_and, ex_or, ex_not, ex_andV, ex_orV, ex_notV, ex_if, ex_chain, ex_nil, ex_cons, ex_tup, ex_lst, ex_call, ex_callP, ex_cb, ex_bm, ex_rep, ex_sl, ex_noPart, ex_part, ex_yes, it_items, it_rng1, it_rng2, tg_name, tg_sub, tg_tup, tg_cons, tg_nil, gs_0, gs_s, ss_0, ss_s, op_ii, op_ss, op_tt, op_mm, op_sb, op_ng, op_iNf, op_iNt, op_lle, op_ixT, op_ixR, op_ixL, op_putE, op_appE, it_tupE, it_rolE, it_refE, lstOf_l, exL, asS_some, asI_int, asB_bl, asL_some, asN_some, ite3_t, ite3_f, bl_1, bl_lenT, bl_lenR, bl_lenL, bl_lenS, bl_tuple, bl_list, bl_abs, bl_intI, bl_intB, bl_max, bl_min, op_eqSf, op_eqSt, op_eqIf, op_eqIt, op_eqTf, op_eqTt, op_eqRf, op_eqRt, op_eqNf, op_eqNt, eqD_int, eqD_nil, pl_int, pl_nil, pl_non, pl_rnil, pl_bl, sl_tupE, sl_rolE, keep_ref, keep_tup, keep_rol, tp_int, tp_tup, tp_rol, tp_str, tp_bl, tp_non, tp_ref, oFd, oMd, oPw, oShl, oLt, oLe, oGt, oGe, op_in, op_cp, wipe_nil, wipe_cons, mset_same, true_and, and_true, isN_int, ex_lstF, ex_repF, ex_lgF1, ex_lgF2, ex_tupRg1, ex_tupRg2, ex_frz, ex_slF, ex_slM, sl_tupF, sl_rolF, op_iiF, op_ssF, op_ttF, op_rrF, op_rrM, op_mmF, op_repF, li_rol, li_ref, bl_listF, bl_allF, bl_anyF, asT_some, asJ_some, op_eqBf, op_eqBt, isN_non, Bool.not_true, Bool.not_false, rep2, hts]
    refine kn _ _ _ _ _ f (by omega) (by omega) fun x M2 x0 x1 f2 o2 => ?_
    (try simp only [ex_c, ex_var, ex_op, ex_un, ex_b, ex_and, ex_or, ex_not, ex_andV, ex_orV, ex_notV, ex_if, ex_chain, ex_nil, ex_cons, ex_tup, ex_lst, ex_call, ex_callP, ex_cb, ex_bm, ex_rep, ex_sl, ex_noPart, ex_part, ex_yes, it_items, it_rng1, it_rng2, tg_name, tg_sub, tg_tup, tg_cons, tg_nil, gs_0, gs_s, ss_0, ss_s, op_ii, op_ss, op_tt, op_mm, op_sb, op_ng, op_iNf, op_iNt, op_lle, op_ixT, op_ixR, op_ixL, op_putE, op_appE, it_tupE, it_rolE, it_refE, lstOf_l, exL, asS_some, asI_int, asB_bl, asL_some, asN_some, ite3_t, ite3_f, bl_1, bl_lenT, bl_lenR, bl_lenL, bl_lenS, bl_tuple, bl_list, bl_abs, bl_intI, bl_intB, bl_max, bl_min, op_eqSf, op_eqSt, op_eqIf, op_eqIt, op_eqTf, op_eqTt, op_eqRf, op_eqRt, op_eqNf, op_eqNt, eqD_int, eqD_nil, pl_int, pl_nil, pl_non, pl_rnil, pl_bl, sl_tupE, sl_rolE, keep_ref, keep_tup, keep_rol, tp_int, tp_tup, tp_rol, tp_str, tp_bl, tp_non, tp_ref, oFd, oMd, oPw, oShl, oLt, oLe, oGt, oGe, op_in, op_cp, wipe_nil, wipe_cons, mset_same, true_and, and_true, isN_int, ex_lstF, ex_repF, ex_lgF1, ex_lgF2, ex_tupRg1, ex_tupRg2, ex_frz, ex_slF, ex_slM, sl_tupF, sl_rolF, op_iiF, op_ssF, op_ttF, op_rrF, op_rrM, op_mmF, op_repF, li_rol, li_ref, bl_listF, bl_allF, bl_anyF, asT_some, asJ_some, op_eqBf, op_eqBt, isN_non, Bool.not_true, Bool.not_false, rep2])
    refine kn _ _ _ _ _ f2 (by omega) (by omega) fun y M3 y0 y1 f3 o3 => ?_
    (try simp only [ex_c, ex_var, ex_op, ex_un, ex_b, ex_and, ex_or, ex_not, ex_andV, ex_orV, ex_notV, ex_if, ex_chain, ex_nil, ex_cons, ex_tup, ex_lst, ex_call, ex_callP, ex_cb, ex_bm, ex_rep, ex_sl, ex_noPart, ex_part, ex_yes, it_items, it_rng1, it_rng2, tg_name, tg_sub, tg_tup, tg_cons, tg_nil, gs_0, gs_s, ss_0, ss_s, op_ii, op_ss, op_tt, op_mm, op_sb, op_ng, op_iNf, op_iNt, op_lle, op_ixT, op_ixR, op_ixL, op_putE, op_appE, it_tupE, it_rolE, it_refE, lstOf_l, exL, asS_some, asI_int, asB_bl, asL_some, asN_some, ite3_t, ite3_f, bl_1, bl_lenT, bl_lenR, bl_lenL, bl_lenS, bl_tuple, bl_list, bl_abs, bl_intI, bl_intB, bl_max, bl_min, op_eqSf, op_eqSt, op_eqIf, op_eqIt, op_eqTf, op_eqTt, op_eqRf, op_eqRt, op_eqNf, op_eqNt, eqD_int, eqD_nil, pl_int, pl_nil, pl_non, pl_rnil, pl_bl, sl_tupE, sl_rolE, keep_ref, keep_tup, keep_rol, tp_int, tp_tup, tp_rol, tp_str, tp_bl, tp_non, tp_ref, oFd, oMd, oPw, oShl, oLt, oLe, oGt, oGe, op_in, op_cp, wipe_nil, wipe_cons, mset_same, true_and, and_true, isN_int, ex_lstF, ex_repF, ex_lgF1, ex_lgF2, ex_tupRg1, ex_tupRg2, ex_frz, ex_slF, ex_slM, sl_tupF, sl_rolF, op_iiF, op_ssF, op_ttF, op_rrF, op_rrM, op_mmF, op_repF, li_rol, li_ref, bl_listF, bl_allF, bl_anyF, asT_some, asJ_some, op_eqBf, op_eqBt, isN_non, Bool.not_true, Bool.not_false, rep2])
    refine ke _ _ _ _ f3 fun z M4 z0 z1 f4 o4 => ?_
    have o := (o2.trans o3).trans o4
    have hp4 : M4 p = some (.lst (ts.map tripD)) := by rw [o p hap.symm]; exact hts
    simp only [ex_c, ex_var, ex_op, ex_un, ex_b, ex_and, ex_or, ex_not, ex_andV, ex_orV, ex_notV, ex_if, ex_chain, ex_nil, ex_cons, ex_tup, ex_lst, ex_call, ex_callP, ex_cb, ex_bm, ex_rep, ex_sl, ex_noPart, ex_part, ex_yes, it_items, it_rng1, it_rng2, tg_name, tg_sub, tg_tup, tg_cons, tg_nil, gs_0, gs_s, ss_0, ss_s, op_ii, op_ss, op_tt, op_mm, op_sb, op_ng, op_iNf, op_iNt, op_lle, op_ixT, op_ixR, op_ixL, op_putE, op_appE, it_tupE, it_rolE, it_refE, lstOf_l, exL, asS_some, asI_int, asB_bl, asL_some, asN_some, ite3_t, ite3_f, bl_1, bl_lenT, bl_lenR, bl_lenL, bl_lenS, bl_tuple, bl_list, bl_abs, bl_intI, bl_intB, bl_max, bl_min, op_eqSf, op_eqSt, op_eqIf, op_eqIt, op_eqTf, op_eqTt, op_eqRf, op_eqRt, op_eqNf, op_eqNt, eqD_int, eqD_nil, pl_int, pl_nil, pl_non, pl_rnil, pl_bl, sl_tupE, sl_rolE, keep_ref, keep_tup, keep_rol, tp_int, tp_tup, tp_rol, tp_str, tp_bl, tp_non, tp_ref, oFd, oMd, oPw, oShl, oLt, oLe, oGt, oGe, op_in, op_cp, wipe_nil, wipe_cons, mset_same, true_and, and_true, isN_int, ex_lstF, ex_repF, ex_lgF1, ex_lgF2, ex_tupRg1, ex_tupRg2, ex_frz, ex_slF, ex_slM, sl_tupF, sl_rolF, op_iiF, op_ssF, op_ttF, op_rrF, op_rrM, op_mmF, op_repF, li_rol, li_ref, bl_listF, bl_allF, bl_anyF, asT_some, asJ_some, op_eqBf, op_eqBt, isN_non, Bool.not_true, Bool.not_false, rep2, hp4]
    refine ⟨by show 3 ≤ sizeLine; omega, by rw [List.length_map]; omega, ?_⟩
    refine hX _ _ ⟨hi, ?_, ?_, ⟨ts ++ [(x, y, z)], by rw [mset_same, List.map_append]; rfl, by rw [List.length_append, hl]; rfl, ?_⟩, _, rfl⟩
    · obtain ⟨g, m, c, h⟩ := (show ∃ g m c : Int, M4 a = some (.lst [.int g, .int m, .int c]) from f4)
      exact ⟨g, m, c, by rw [mset_ne hap]; exact h⟩
    · intro b u hb hu
      have hbp : b ≠ p := ne_m hu hp
      rw [mset_ne hbp]
      exact (kp.trans o.kp) b u hb hu
    · intro t ht
      rcases List.mem_append.mp ht with h | h
      · exact hall t h
      · rw [List.mem_singleton] at h
        subst h
        exact ⟨⟨x0, x1, y0, y1⟩, by simp only; omega⟩
  · rintro τ M' ⟨_, f, kp, ⟨ts, hts, hl, hall⟩, x5, rfl⟩
    try dsimp only
    rw [st_ret]
    simp only [ex_c, ex_var, ex_op, ex_un, ex_b, ex_and, ex_or, ex_not, ex_andV, ex_orV, ex_notV, ex_if, ex_chain, ex_nil, ex_cons, ex_tup, ex_lst, ex_call, ex_callP, ex_cb, ex_bm, ex_rep, ex_sl, ex_noPart, ex_part, ex_yes, it_items, it_rng1, it_rng2, tg_name, tg_sub, tg_tup, tg_cons, tg_nil, gs_0, gs_s, ss_0, ss_s, op_ii, op_ss, op_tt, op_mm, op_sb, op_ng, op_iNf, op_iNt, op_lle, op_ixT, op_ixR, op_ixL, op_putE, op_appE, it_tupE, it_rolE, it_refE, lstOf_l, exL, asS_some, asI_int, asB_bl, asL_some, asN_some, ite3_t, ite3_f, bl_1, bl_lenT, bl_lenR, bl_lenL, bl_lenS, bl_tuple, bl_list, bl_abs, bl_intI, bl_intB, bl_max, bl_min, op_eqSf, op_eqSt, op_eqIf, op_eqIt, op_eqTf, op_eqTt, op_eqRf, op_eqRt, op_eqNf, op_eqNt, eqD_int, eqD_nil, pl_int, pl_nil, pl_non, pl_rnil, pl_bl, sl_tupE, sl_rolE, keep_ref, keep_tup, keep_rol, tp_int, tp_tup, tp_rol, tp_str, tp_bl, tp_non, tp_ref, oFd, oMd, oPw, oShl, oLt, oLe, oGt, oGe, op_in, op_cp, wipe_nil, wipe_cons, mset_same, true_and, and_true, isN_int, ex_lstF, ex_repF, ex_lgF1, ex_lgF2, ex_tupRg1, ex_tupRg2, ex_frz, ex_slF, ex_slM, sl_tupF, sl_rolF, op_iiF, op_ssF, op_ttF, op_rrF, op_rrM, op_mmF, op_repF, li_rol, li_ref, bl_listF, bl_allF, bl_anyF, asT_some, asJ_some, op_eqBf, op_eqBt, isN_non, Bool.not_true, Bool.not_false, rep2, items_ref hts]
    exact q ts _ hall (by omega) f kp
theorem Lp.same {M M' : Mp} {o e p : Addr} {as : List Addr} {w : Nat} {T : Tab} {ps : List Past} (h : Lp M o e p as w T ps) (s : ∀ b ∈ o :: e :: p :: as, M' b = M b) : Lp M' o e p as w T ps :=
  ⟨by rw [s o (by simp)]; exact h.ob, ⟨by rw [s e (by simp)]; exact h.mat.top, h.mat.len, fun i a r h1 h2 => by rw [s a (by simp [List.mem_of_getElem? h1])]; exact h.mat.row i a r h1 h2, h.mat.nd, h.mat.ne⟩,
    by rw [s p (by simp)]; exact h.pst, h.ne, h.np, h.sq⟩
theorem Lp.only {M M' : Mp} {o e p a : Addr} {as : List Addr} {w : Nat} {T : Tab} {ps : List Past} (h : Lp M o e p as w T ps) (s : Only a M M') (ha : a ∉ o :: e :: p :: as) : Lp M' o e p as w T ps :=
  h.same fun b hb => s b (mem_ne hb ha).symm
theorem Lp.set {M : Mp} {o e p a : Addr} {u : MO} {as : List Addr} {w : Nat} {T : Tab} {ps : List Past} (h : Lp M o e p as w T ps) (ha : a ∉ o :: e :: p :: as) : Lp (mset M a u) o e p as w T ps :=
  h.same fun b hb => mset_ne (mem_ne hb ha).symm
theorem Feed.le {M M' : Mp} {a : Addr} (f : Feed M a) (l : Le M M') : Feed M' a := by
  obtain ⟨g, m, c, h⟩ := f
  exact ⟨g, m, c, l _ _ h⟩
theorem Feed.to {M M' : Mp} {a : Addr} (f : Feed M a) (e : M' a = M a) : Feed M' a := by
  obtain ⟨g, m, c, h⟩ := f
  exact ⟨g, m, c, by rw [e]; exact h⟩
theorem Ends.setTs {B n : Nat} {ts : List Trip} (h : ∀ t ∈ ts, t.2.2.natAbs < B) : Ends B (L3.setTs n ts) := by
  have go : ∀ (ts : List Trip) (T : Tab), Ends B T → (∀ t ∈ ts, t.2.2.natAbs < B) → Ends B (ts.foldl L3.setT T) := by
    intro ts
    induction ts with
    | nil => exact fun _ s _ => s
    | cons t ts ih => exact fun T s h => ih _ (s.put fun i hi => by cases hi; exact h t (by simp)) fun x hx => h x (by simp [hx])
  exact go ts _ .empty h
end L3
set_option Elab.async false
set_option linter.all false
set_option maxRecDepth 100000
set_option maxHeartbeats 4000000
namespace L3
open PySem PySem.Spec PyProof.Rows L2
theorem eqD_rnl {x : List D} : eqD (.rol x) (.rol []) = x.isEmpty := by
  cases x <;> simp only [eqD, pdOf, pdsOf, PyData.eqv, PyData.eqvAll, List.isEmpty]
/-- what a loop remembers is within it -/
def PastB (n : Int) (ps : List Past) : Prop := ∀ x ∈ ps, (0 ≤ x.1 ∧ x.1 < n ∧ 0 ≤ x.2.1 ∧ x.2.1 < n) ∧ EdB 100 x.2.2
theorem tm_past {n : Int} {x : Past} (hn : n ≤ 1000) (h : (0 ≤ x.1 ∧ x.1 < n ∧ 0 ≤ x.2.1 ∧ x.2.1 < n) ∧ EdB 100 x.2.2) : Tm 1 3 (pastD x) := by
  obtain ⟨⟨a, b, c, d⟩, e⟩ := h
  have sm : (10 : Nat) ^ 4 ≤ 10 ^ 100 := Nat.pow_le_pow_right (by decide) (by decide)
  refine Tm.tup (h := 0) (n := 0) (m := 3) (fun y hy => ?_) (Nat.le_refl _)
  simp only [List.mem_cons, List.not_mem_nil, or_false] at hy
  rcases hy with rfl | rfl | rfl
  · exact Tm.int (by omega)
  · exact Tm.int (by omega)
  · exact Tm.ed e (by decide)
theorem pl_past {n : Int} {ps : List Past} (hn : n ≤ 1000) (h : PastB n ps) : Pl (.rol (ps.map pastD)) :=
  (Tm.rol (h := 1) (n := 3) (m := ps.length) (fun d hd => by
    obtain ⟨x, hx, rfl⟩ := List.mem_map.mp hd
    exact tm_past hn (h x hx)) (by rw [List.length_map]; exact Nat.le_refl _)).pl (by decide)
theorem isE_map {ps : List Past} : (ps.map pastD).isEmpty = ps.isEmpty := by cases ps <;> rfl
def undoR : XK3 → TS3 := fun E =>
  (wSeq (wIfS (wB (wOp (oEq false) (wFld "Loop" ("past" : PySem.Str) (wVar 0)) (wLstF wNil))) (wRaise0 ("NothingToUndo" : PySem.Str) (fun _ => E)) wNext)
  (wSeq (wSet 1 (wBM0 oPop (wFld "Loop" ("past" : PySem.Str) (wVar 0))))
  (wSeq (wAsg (wOp oIx (wVar 1) (wC (.int 2))) (wgSub (wOp oIx (wFld "Loop" ("ends" : PySem.Str) (wVar 0)) (wOp oIx (wVar 1) (wC (.int 0)))) (wOp oIx (wVar 1) (wC (.int 1))) oPut))
  (wRet (wVar 1)))))
structure SUndo (sp : Sp3) : Prop where
  no : ∀ (o e p : Addr) (as : List Addr) (w : Nat) (T : Tab) (M : Mp) (Q : VK3) (E : XK3), Lp M o e p as w T [] → E ("NothingToUndo" : Str) [] M → sp [.ref o] M Q E
  yes : ∀ (o e p : Addr) (as : List Addr) (w : Nat) (T : Tab) (ps : List Past) (x : Past) (M : Mp) (Q : VK3) (E : XK3), Lp M o e p as w T (ps ++ [x]) → w ≤ 400 → PastB (2 * (w : Int) + 1) (ps ++ [x]) →
    (∀ M', Lp M' o e p as w (putT T x.1.toNat x.2.1.toNat x.2.2) ps → OnlyIn (p :: as) M M' → Q (pastD x) M') → sp [.ref o] M Q E
theorem at_p0 {x : Past} : atI [D.int x.1, .int x.2.1, oD x.2.2] 0 = some (.int x.1) := rfl
theorem at_p1 {x : Past} : atI [D.int x.1, .int x.2.1, oD x.2.2] 1 = some (.int x.2.1) := rfl
theorem at_p2 {x : Past} : atI [D.int x.1, .int x.2.1, oD x.2.2] 2 = some (oD x.2.2) := rfl
theorem s_undo : SUndo (spOf 1 2 undoR) where
  no := by
    refine fun o e p as w T M Q E h q => ⟨rfl, ?_⟩
    show undoR E _ [some (.ref o), none] M
    unfold undoR
    rw [st_seq, st_if]
    simp only [ex_c, ex_var, ex_op, ex_un, ex_b, ex_and, ex_or, ex_not, ex_andV, ex_orV, ex_notV, ex_if, ex_chain, ex_nil, ex_cons, ex_tup, ex_lst, ex_call, ex_callP, ex_cb, ex_bm, ex_rep, ex_sl, ex_noPart, ex_part, ex_yes, it_items, it_rng1, it_rng2, tg_name, tg_sub, tg_tup, tg_cons, tg_nil, gs_0, gs_s, ss_0, ss_s, op_ii, op_ss, op_tt, op_mm, op_sb, op_ng, op_iNf, op_iNt, op_lle, op_ixT, op_ixR, op_ixL, op_putE, op_appE, it_tupE, it_rolE, it_refE, lstOf_l, exL, asS_some, asI_int, asB_bl, asL_some, asN_some, ite3_t, ite3_f, bl_1, bl_lenT, bl_lenR, bl_lenL, bl_lenS, bl_tuple, bl_list, bl_abs, bl_intI, bl_intB, bl_max, bl_min, op_eqSf, op_eqSt, op_eqIf, op_eqIt, op_eqTf, op_eqTt, op_eqRf, op_eqRt, op_eqNf, op_eqNt, eqD_int, eqD_nil, pl_int, pl_nil, pl_non, pl_rnil, pl_bl, sl_tupE, sl_rolE, keep_ref, keep_tup, keep_rol, tp_int, tp_tup, tp_rol, tp_str, tp_bl, tp_non, tp_ref, oFd, oMd, oPw, oShl, oLt, oLe, oGt, oGe, op_in, op_cp, wipe_nil, wipe_cons, mset_same, true_and, and_true, isN_int, ex_lstF, ex_repF, ex_lgF1, ex_lgF2, ex_tupRg1, ex_tupRg2, ex_frz, ex_slF, ex_slM, sl_tupF, sl_rolF, op_iiF, op_ssF, op_ttF, op_rrF, op_rrM, op_mmF, op_repF, li_rol, li_ref, bl_listF, bl_allF, bl_anyF, asT_some, asJ_some, op_eqBf, op_eqBt, isN_non, Bool.not_true, Bool.not_false, rep2, ex_fld, asIn_ref h.ob, lk_p]
    refine ⟨Nat.zero_le _, ?_⟩
    rw [h.pst, List.map_nil, topOf_l, eqD_rnl]
    refine ⟨of_eq_true pl_rnil, ?_⟩
    exact q
  yes := by
    refine fun o e p as w T ps x M Q E h hw hb k => ⟨rfl, ?_⟩
    show undoR E _ [some (.ref o), none] M
    unfold undoR
    obtain ⟨⟨b0, b1, b2, b3⟩, b4⟩ := hb x (by simp)
    obtain ⟨a, r, g1, g2, g3, g4, g5, g6⟩ := h.at2 b0 b1 b2 b3
    rw [st_seq, st_if]
    simp only [ex_c, ex_var, ex_op, ex_un, ex_b, ex_and, ex_or, ex_not, ex_andV, ex_orV, ex_notV, ex_if, ex_chain, ex_nil, ex_cons, ex_tup, ex_lst, ex_call, ex_callP, ex_cb, ex_bm, ex_rep, ex_sl, ex_noPart, ex_part, ex_yes, it_items, it_rng1, it_rng2, tg_name, tg_sub, tg_tup, tg_cons, tg_nil, gs_0, gs_s, ss_0, ss_s, op_ii, op_ss, op_tt, op_mm, op_sb, op_ng, op_iNf, op_iNt, op_lle, op_ixT, op_ixR, op_ixL, op_putE, op_appE, it_tupE, it_rolE, it_refE, lstOf_l, exL, asS_some, asI_int, asB_bl, asL_some, asN_some, ite3_t, ite3_f, bl_1, bl_lenT, bl_lenR, bl_lenL, bl_lenS, bl_tuple, bl_list, bl_abs, bl_intI, bl_intB, bl_max, bl_min, op_eqSf, op_eqSt, op_eqIf, op_eqIt, op_eqTf, op_eqTt, op_eqRf, op_eqRt, op_eqNf, op_eqNt, eqD_int, eqD_nil, pl_int, pl_nil, pl_non, pl_rnil, pl_bl, sl_tupE, sl_rolE, keep_ref, keep_tup, keep_rol, tp_int, tp_tup, tp_rol, tp_str, tp_bl, tp_non, tp_ref, oFd, oMd, oPw, oShl, oLt, oLe, oGt, oGe, op_in, op_cp, wipe_nil, wipe_cons, mset_same, true_and, and_true, isN_int, ex_lstF, ex_repF, ex_lgF1, ex_lgF2, ex_tupRg1, ex_tupRg2, ex_frz, ex_slF, ex_slM, sl_tupF, sl_rolF, op_iiF, op_ssF, op_ttF, op_rrF, op_rrM, op_mmF, op_repF, li_rol, li_ref, bl_listF, bl_allF, bl_anyF, asT_some, asJ_some, op_eqBf, op_eqBt, isN_non, Bool.not_true, Bool.not_false, rep2, ex_fld, asIn_ref h.ob, lk_p]
    refine ⟨Nat.zero_le _, ?_⟩
    rw [h.pst, topOf_l, eqD_rnl]
    refine ⟨pl_past (by omega) hb, ?_⟩
    have e1 : ((ps ++ [x]).map pastD).isEmpty = false := by rw [isE_map]; simp
    rw [e1]
    show wNext _ _ _
    rw [st_next]
    try dsimp only
    rw [st_seq, st_set]
    rw [ex_bm0, ex_fld, ex_var]
    simp only [show getS [some (D.ref o), none] 0 = some (D.ref o) from rfl, asS_some]
    rw [asIn_ref h.ob, lk_p, asS_some]
    refine ⟨⟨_, h.pst⟩, op_pop (xs := ps.map pastD) (y := pastD x) (by rw [h.pst, List.map_append]; rfl) ?_⟩
    have h' := h.past (qs := ps)
    have nap : a ≠ p := (mem_ne (List.mem_of_getElem? g5) h.np).symm
    have g2' : mset M p (.lst (ps.map pastD)) a = some (.lst (r.map oD)) := by rw [mset_ne nap]; exact g2
    have on1 : ∀ b, b ≠ p → mset M p (.lst (ps.map pastD)) b = M b := fun b hb => mset_ne hb
    generalize mset M p (.lst (ps.map pastD)) = M1 at h' g2' on1
    show wSeq _ _ _ [some (.ref o), some (pastD x)] M1
    rw [st_seq, st_asg]
    unfold pastD
    simp only [ex_c, ex_var, ex_op, ex_un, ex_b, ex_and, ex_or, ex_not, ex_andV, ex_orV, ex_notV, ex_if, ex_chain, ex_nil, ex_cons, ex_tup, ex_lst, ex_call, ex_callP, ex_cb, ex_bm, ex_rep, ex_sl, ex_noPart, ex_part, ex_yes, it_items, it_rng1, it_rng2, tg_name, tg_sub, tg_tup, tg_cons, tg_nil, gs_0, gs_s, ss_0, ss_s, op_ii, op_ss, op_tt, op_mm, op_sb, op_ng, op_iNf, op_iNt, op_lle, op_ixT, op_ixR, op_ixL, op_putE, op_appE, it_tupE, it_rolE, it_refE, lstOf_l, exL, asS_some, asI_int, asB_bl, asL_some, asN_some, ite3_t, ite3_f, bl_1, bl_lenT, bl_lenR, bl_lenL, bl_lenS, bl_tuple, bl_list, bl_abs, bl_intI, bl_intB, bl_max, bl_min, op_eqSf, op_eqSt, op_eqIf, op_eqIt, op_eqTf, op_eqTt, op_eqRf, op_eqRt, op_eqNf, op_eqNt, eqD_int, eqD_nil, pl_int, pl_nil, pl_non, pl_rnil, pl_bl, sl_tupE, sl_rolE, keep_ref, keep_tup, keep_rol, tp_int, tp_tup, tp_rol, tp_str, tp_bl, tp_non, tp_ref, oFd, oMd, oPw, oShl, oLt, oLe, oGt, oGe, op_in, op_cp, wipe_nil, wipe_cons, mset_same, true_and, and_true, isN_int, ex_lstF, ex_repF, ex_lgF1, ex_lgF2, ex_tupRg1, ex_tupRg2, ex_frz, ex_slF, ex_slM, sl_tupF, sl_rolF, op_iiF, op_ssF, op_ttF, op_rrF, op_rrM, op_mmF, op_repF, li_rol, li_ref, bl_listF, bl_allF, bl_anyF, asT_some, asJ_some, op_eqBf, op_eqBt, isN_non, Bool.not_true, Bool.not_false, rep2, ex_fld, asIn_ref h'.ob, lk_e, at_p0, at_p1, at_p2, h'.mat.top, g1, g2', g4]
    rw [st_ret]
    simp only [ex_c, ex_var, ex_op, ex_un, ex_b, ex_and, ex_or, ex_not, ex_andV, ex_orV, ex_notV, ex_if, ex_chain, ex_nil, ex_cons, ex_tup, ex_lst, ex_call, ex_callP, ex_cb, ex_bm, ex_rep, ex_sl, ex_noPart, ex_part, ex_yes, it_items, it_rng1, it_rng2, tg_name, tg_sub, tg_tup, tg_cons, tg_nil, gs_0, gs_s, ss_0, ss_s, op_ii, op_ss, op_tt, op_mm, op_sb, op_ng, op_iNf, op_iNt, op_lle, op_ixT, op_ixR, op_ixL, op_putE, op_appE, it_tupE, it_rolE, it_refE, lstOf_l, exL, asS_some, asI_int, asB_bl, asL_some, asN_some, ite3_t, ite3_f, bl_1, bl_lenT, bl_lenR, bl_lenL, bl_lenS, bl_tuple, bl_list, bl_abs, bl_intI, bl_intB, bl_max, bl_min, op_eqSf, op_eqSt, op_eqIf, op_eqIt, op_eqTf, op_eqTt, op_eqRf, op_eqRt, op_eqNf, op_eqNt, eqD_int, eqD_nil, pl_int, pl_nil, pl_non, pl_rnil, pl_bl, sl_tupE, sl_rolE, keep_ref, keep_tup, keep_rol, tp_int, tp_tup, tp_rol, tp_str, tp_bl, tp_non, tp_ref, oFd, oMd, oPw, oShl, oLt, oLe, oGt, oGe, op_in, op_cp, wipe_nil, wipe_cons, mset_same, true_and, and_true, isN_int, ex_lstF, ex_repF, ex_lgF1, ex_lgF2, ex_tupRg1, ex_tupRg2, ex_frz, ex_slF, ex_slM, sl_tupF, sl_rolF, op_iiF, op_ssF, op_ttF, op_rrF, op_rrM, op_mmF, op_repF, li_rol, li_ref, bl_listF, bl_allF, bl_anyF, asT_some, asJ_some, op_eqBf, op_eqBt, isN_non, Bool.not_true, Bool.not_false, rep2]
    refine k _ (h'.putR g5 g6) fun b hb => ?_
    simp only [List.mem_cons, not_or] at hb
    rw [mset_ne (mem_ne (List.mem_of_getElem? g5) hb.2), on1 b hb.1]
end L3
set_option Elab.async false
set_option linter.all false
set_option maxRecDepth 100000
set_option maxHeartbeats 4000000
namespace L3
open PySem PySem.Spec PyProof.Rows L2
end L3
set_option Elab.async false
set_option linter.all false
set_option maxRecDepth 100000
set_option maxHeartbeats 4000000
namespace L3
open PySem PySem.Spec PyProof.Rows L2
def fieldKR (sn se st : Sp3) : XK3 → TS3 := fun E =>
  (wSeq (wSet 2 (wCall sn E (wCons (wVar 0) (wCons (wC (.int 5)) wNil))))
  (wSeq (wSet 3 (wLstF wNil))
  (wSeq (wFor (wRng1 (wCons (wVar 1) wNil)) (wgName 4) (wSeq (wSet 5 (wCall se E (wCons (wVar 0) wNil)))
  (wSeq (wIfS (wOr (wB (wOp oLt (wVar 2) (wC (.int 2)))) (wB (wOp (oEq false) (wCall sn E (wCons (wVar 0) (wCons (wC (.int 2)) wNil))) (wC (.int 0))))) (wSet 3 (wOp oAddF (wVar 3) (wLstF (wCons (wTup (wCons (wVar 4) (wCons (wVar 1) (wCons (wVar 5) wNil)))) wNil)))) wNext)
  (wIfS (wOr (wB (wOp oLt (wVar 2) (wC (.int 2)))) (wB (wOp (oEq false) (wCall sn E (wCons (wVar 0) (wCons (wC (.int 3)) wNil))) (wC (.int 0))))) (wSet 3 (wOp oAddF (wVar 3) (wLstF (wCons (wTup (wCons (wVar 1) (wCons (wVar 4) (wCons (wOp oAddF (wUn oNeg (wVar 5)) (wCall sn E (wCons (wVar 0) (wCons (wOp oAddF (wC (.int 1)) (wOp oMulF (wC (.int 2)) (wCB bInt (wCons (wOp oGt (wVar 2) (wC (.int 0))) wNil)))) wNil)))) wNil)))) wNil)))) wNext))))
  (wSeq (wIfS (wAnd (wB (wOp (oEq false) (wVar 2) (wC (.int 4)))) (wB (wOp oGt (wVar 1) (wC (.int 1))))) (wSet 3 (wOp oAddF (wVar 3) (wLstF (wCons (wTup (wCons (wC (.int 0)) (wCons (wC (.int 1)) (wCons (wCall se E (wCons (wVar 0) wNil)) wNil)))) wNil)))) wNext)
  (wRet (wCallP st E (wCons (wOp oAddF (wVar 1) (wC (.int 1))) (wCons (wVar 3) wNil))))))))
def SFieldK (sp : Sp3) : Prop := ∀ (a : Addr) (w : Nat) (M : Mp) (Q : VK3) (E : XK3), Feed M a → 0 < w → w ≤ 3 → (∀ F M', TabB 100 (w + 1) F → Feed M' a → Only a M M' → Q (tabD F) M') → sp [.ref a, .int w] M Q E
theorem test_ok {sn : Sp3} (kn : SNext sn) {a : Addr} {k : Int} {M : Mp} {τ : St3} {way : Int} {E : XK3} {Q : Bool → Mp → Prop} (hk : 0 < k) (hk1 : k < 100) (f : Feed M a) (h0 : getS τ 0 = some (.ref a)) (h2 : getS τ 2 = some (.int way)) (q : ∀ b M1, Feed M1 a → Only a M M1 → Q b M1) :
    wOr (wB (wOp oLt (wVar 2) (wC (.int 2)))) (wB (wOp (oEq false) (wCall sn E (wCons (wVar 0) (wCons (wC (.int k)) wNil))) (wC (.int 0)))) τ M Q := by
  simp only [ex_c, ex_var, ex_op, ex_un, ex_b, ex_and, ex_or, ex_not, ex_andV, ex_orV, ex_notV, ex_if, ex_chain, ex_nil, ex_cons, ex_tup, ex_lst, ex_call, ex_callP, ex_cb, ex_bm, ex_rep, ex_sl, ex_noPart, ex_part, ex_yes, it_items, it_rng1, it_rng2, tg_name, tg_sub, tg_tup, tg_cons, tg_nil, gs_0, gs_s, ss_0, ss_s, op_ii, op_ss, op_tt, op_mm, op_sb, op_ng, op_iNf, op_iNt, op_lle, op_ixT, op_ixR, op_ixL, op_putE, op_appE, it_tupE, it_rolE, it_refE, lstOf_l, exL, asS_some, asI_int, asB_bl, asL_some, asN_some, ite3_t, ite3_f, bl_1, bl_lenT, bl_lenR, bl_lenL, bl_lenS, bl_tuple, bl_list, bl_abs, bl_intI, bl_intB, bl_max, bl_min, op_eqSf, op_eqSt, op_eqIf, op_eqIt, op_eqTf, op_eqTt, op_eqRf, op_eqRt, op_eqNf, op_eqNt, eqD_int, eqD_nil, pl_int, pl_nil, pl_non, pl_rnil, pl_bl, sl_tupE, sl_rolE, keep_ref, keep_tup, keep_rol, tp_int, tp_tup, tp_rol, tp_str, tp_bl, tp_non, tp_ref, oFd, oMd, oPw, oShl, oLt, oLe, oGt, oGe, op_in, op_cp, wipe_nil, wipe_cons, mset_same, true_and, and_true, isN_int, ex_lstF, ex_repF, ex_lgF1, ex_lgF2, ex_tupRg1, ex_tupRg2, ex_frz, ex_slF, ex_slM, sl_tupF, sl_rolF, op_iiF, op_ssF, op_ttF, op_rrF, op_rrM, op_mmF, op_repF, li_rol, li_ref, bl_listF, bl_allF, bl_anyF, asT_some, asJ_some, op_eqBf, op_eqBt, isN_non, Bool.not_true, Bool.not_false, rep2, h0, h2]
  refine ite3_by (fun _ => q _ _ f .refl) (fun _ => ?_)
  refine kn _ _ _ _ _ f hk (by omega) fun r M1 r0 r1 f1 o1 => ?_
  simp only [ex_c, ex_var, ex_op, ex_un, ex_b, ex_and, ex_or, ex_not, ex_andV, ex_orV, ex_notV, ex_if, ex_chain, ex_nil, ex_cons, ex_tup, ex_lst, ex_call, ex_callP, ex_cb, ex_bm, ex_rep, ex_sl, ex_noPart, ex_part, ex_yes, it_items, it_rng1, it_rng2, tg_name, tg_sub, tg_tup, tg_cons, tg_nil, gs_0, gs_s, ss_0, ss_s, op_ii, op_ss, op_tt, op_mm, op_sb, op_ng, op_iNf, op_iNt, op_lle, op_ixT, op_ixR, op_ixL, op_putE, op_appE, it_tupE, it_rolE, it_refE, lstOf_l, exL, asS_some, asI_int, asB_bl, asL_some, asN_some, ite3_t, ite3_f, bl_1, bl_lenT, bl_lenR, bl_lenL, bl_lenS, bl_tuple, bl_list, bl_abs, bl_intI, bl_intB, bl_max, bl_min, op_eqSf, op_eqSt, op_eqIf, op_eqIt, op_eqTf, op_eqTt, op_eqRf, op_eqRt, op_eqNf, op_eqNt, eqD_int, eqD_nil, pl_int, pl_nil, pl_non, pl_rnil, pl_bl, sl_tupE, sl_rolE, keep_ref, keep_tup, keep_rol, tp_int, tp_tup, tp_rol, tp_str, tp_bl, tp_non, tp_ref, oFd, oMd, oPw, oShl, oLt, oLe, oGt, oGe, op_in, op_cp, wipe_nil, wipe_cons, mset_same, true_and, and_true, isN_int, ex_lstF, ex_repF, ex_lgF1, ex_lgF2, ex_tupRg1, ex_tupRg2, ex_frz, ex_slF, ex_slM, sl_tupF, sl_rolF, op_iiF, op_ssF, op_ttF, op_rrF, op_rrM, op_mmF, op_repF, li_rol, li_ref, bl_listF, bl_allF, bl_anyF, asT_some, asJ_some, op_eqBf, op_eqBt, isN_non, Bool.not_true, Bool.not_false, rep2]
  exact q _ _ f1 o1
theorem s_fieldK {sn se st : Sp3} (kn : SNext sn) (ke : SEndL se) (kt : STableM st) : SFieldK (spOf 2 6 (fieldKR sn se st)) := by
  refine fun a w M0' Q E f hw hw3 q => ⟨rfl, ?_⟩
  show fieldKR sn se st E _ [some (.ref a), some (.int w), none, none, none, none] M0'
  unfold fieldKR
  have big : (1000000 : Nat) ≤ sizeLine := by decide
  rw [st_seq, st_set]
  simp only [ex_c, ex_var, ex_op, ex_un, ex_b, ex_and, ex_or, ex_not, ex_andV, ex_orV, ex_notV, ex_if, ex_chain, ex_nil, ex_cons, ex_tup, ex_lst, ex_call, ex_callP, ex_cb, ex_bm, ex_rep, ex_sl, ex_noPart, ex_part, ex_yes, it_items, it_rng1, it_rng2, tg_name, tg_sub, tg_tup, tg_cons, tg_nil, gs_0, gs_s, ss_0, ss_s, op_ii, op_ss, op_tt, op_mm, op_sb, op_ng, op_iNf, op_iNt, op_lle, op_ixT, op_ixR, op_ixL, op_putE, op_appE, it_tupE, it_rolE, it_refE, lstOf_l, exL, asS_some, asI_int, asB_bl, asL_some, asN_some, ite3_t, ite3_f, bl_1, bl_lenT, bl_lenR, bl_lenL, bl_lenS, bl_tuple, bl_list, bl_abs, bl_intI, bl_intB, bl_max, bl_min, op_eqSf, op_eqSt, op_eqIf, op_eqIt, op_eqTf, op_eqTt, op_eqRf, op_eqRt, op_eqNf, op_eqNt, eqD_int, eqD_nil, pl_int, pl_nil, pl_non, pl_rnil, pl_bl, sl_tupE, sl_rolE, keep_ref, keep_tup, keep_rol, tp_int, tp_tup, tp_rol, tp_str, tp_bl, tp_non, tp_ref, oFd, oMd, oPw, oShl, oLt, oLe, oGt, oGe, op_in, op_cp, wipe_nil, wipe_cons, mset_same, true_and, and_true, isN_int, ex_lstF, ex_repF, ex_lgF1, ex_lgF2, ex_tupRg1, ex_tupRg2, ex_frz, ex_slF, ex_slM, sl_tupF, sl_rolF, op_iiF, op_ssF, op_ttF, op_rrF, op_rrM, op_mmF, op_repF, li_rol, li_ref, bl_listF, bl_allF, bl_anyF, asT_some, asJ_some, op_eqBf, op_eqBt, isN_non, Bool.not_true, Bool.not_false, rep2]
  refine kn _ _ _ _ _ f (by decide) (by decide) fun way M1 w0 w1 f1 o1 => ?_
  try dsimp only
  rw [st_seq, st_set]
  simp only [ex_c, ex_var, ex_op, ex_un, ex_b, ex_and, ex_or, ex_not, ex_andV, ex_orV, ex_notV, ex_if, ex_chain, ex_nil, ex_cons, ex_tup, ex_lst, ex_call, ex_callP, ex_cb, ex_bm, ex_rep, ex_sl, ex_noPart, ex_part, ex_yes, it_items, it_rng1, it_rng2, tg_name, tg_sub, tg_tup, tg_cons, tg_nil, gs_0, gs_s, ss_0, ss_s, op_ii, op_ss, op_tt, op_mm, op_sb, op_ng, op_iNf, op_iNt, op_lle, op_ixT, op_ixR, op_ixL, op_putE, op_appE, it_tupE, it_rolE, it_refE, lstOf_l, exL, asS_some, asI_int, asB_bl, asL_some, asN_some, ite3_t, ite3_f, bl_1, bl_lenT, bl_lenR, bl_lenL, bl_lenS, bl_tuple, bl_list, bl_abs, bl_intI, bl_intB, bl_max, bl_min, op_eqSf, op_eqSt, op_eqIf, op_eqIt, op_eqTf, op_eqTt, op_eqRf, op_eqRt, op_eqNf, op_eqNt, eqD_int, eqD_nil, pl_int, pl_nil, pl_non, pl_rnil, pl_bl, sl_tupE, sl_rolE, keep_ref, keep_tup, keep_rol, tp_int, tp_tup, tp_rol, tp_str, tp_bl, tp_non, tp_ref, oFd, oMd, oPw, oShl, oLt, oLe, oGt, oGe, op_in, op_cp, wipe_nil, wipe_cons, mset_same, true_and, and_true, isN_int, ex_lstF, ex_repF, ex_lgF1, ex_lgF2, ex_tupRg1, ex_tupRg2, ex_frz, ex_slF, ex_slM, sl_tupF, sl_rolF, op_iiF, op_ssF, op_ttF, op_rrF, op_rrM, op_mmF, op_repF, li_rol, li_ref, bl_listF, bl_allF, bl_anyF, asT_some, asJ_some, op_eqBf, op_eqBt, isN_non, Bool.not_true, Bool.not_false, rep2]
  refine ⟨Nat.zero_le _, ?_⟩
  try dsimp only
  rw [st_seq, st_for]
  simp only [ex_c, ex_var, ex_op, ex_un, ex_b, ex_and, ex_or, ex_not, ex_andV, ex_orV, ex_notV, ex_if, ex_chain, ex_nil, ex_cons, ex_tup, ex_lst, ex_call, ex_callP, ex_cb, ex_bm, ex_rep, ex_sl, ex_noPart, ex_part, ex_yes, it_items, it_rng1, it_rng2, tg_name, tg_sub, tg_tup, tg_cons, tg_nil, gs_0, gs_s, ss_0, ss_s, op_ii, op_ss, op_tt, op_mm, op_sb, op_ng, op_iNf, op_iNt, op_lle, op_ixT, op_ixR, op_ixL, op_putE, op_appE, it_tupE, it_rolE, it_refE, lstOf_l, exL, asS_some, asI_int, asB_bl, asL_some, asN_some, ite3_t, ite3_f, bl_1, bl_lenT, bl_lenR, bl_lenL, bl_lenS, bl_tuple, bl_list, bl_abs, bl_intI, bl_intB, bl_max, bl_min, op_eqSf, op_eqSt, op_eqIf, op_eqIt, op_eqTf, op_eqTt, op_eqRf, op_eqRt, op_eqNf, op_eqNt, eqD_int, eqD_nil, pl_int, pl_nil, pl_non, pl_rnil, pl_bl, sl_tupE, sl_rolE, keep_ref, keep_tup, keep_rol, tp_int, tp_tup, tp_rol, tp_str, tp_bl, tp_non, tp_ref, oFd, oMd, oPw, oShl, oLt, oLe, oGt, oGe, op_in, op_cp, wipe_nil, wipe_cons, mset_same, true_and, and_true, isN_int, ex_lstF, ex_repF, ex_lgF1, ex_lgF2, ex_tupRg1, ex_tupRg2, ex_frz, ex_slF, ex_slM, sl_tupF, sl_rolF, op_iiF, op_ssF, op_ttF, op_rrF, op_rrM, op_mmF, op_repF, li_rol, li_ref, bl_listF, bl_allF, bl_anyF, asT_some, asJ_some, op_eqBf, op_eqBt, isN_non, Bool.not_true, Bool.not_false, rep2]
  refine ⟨by omega, by omega, ?_⟩
  rw [Int.toNat_natCast]
  refine for_rg (fun i τ M => i ≤ w ∧ (∃ ts : List Trip, TripsOk (w + 1) 100 ts ∧ ts.length ≤ 2 * i ∧ Feed M a ∧ Only a M0' M ∧ ∃ x4 x5, τ = [some (.ref a), some (.int w), some (.int way), some (.rol (ts.map tripD)), x4, x5])) ?_ ?_ ⟨Nat.zero_le _, [], (fun _ h => nomatch h), Nat.le_refl _, f1, o1, _, _, rfl⟩
  · rintro i τ M hi ⟨_, ts, hts, hl, f, o, x4, x5, rfl⟩ X hX
    rw [tg_name, st_seq, st_set]
    simp only [ex_c, ex_var, ex_op, ex_un, ex_b, ex_and, ex_or, ex_not, ex_andV, ex_orV, ex_notV, ex_if, ex_chain, ex_nil, ex_cons, ex_tup, ex_lst, ex_call, ex_callP, ex_cb, ex_bm, ex_rep, ex_sl, ex_noPart, ex_part, ex_yes, it_items, it_rng1, it_rng2, tg_name, tg_sub, tg_tup, tg_cons, tg_nil, gs_0, gs_s, ss_0, ss_s, op_ii, op_ss, op_tt, op_mm, op_sb, op_ng, op_iNf, op_iNt, op_lle, op_ixT, op_ixR, op_ixL, op_putE, op_appE, it_tupE, it_rolE, it_refE, lstOf_l, exL, asS_some, asI_int, asB_bl, asL_some, asN_some, ite3_t, ite3_f, bl_1, bl_lenT, bl_lenR, bl_lenL, bl_lenS, bl_tuple, bl_list, bl_abs, bl_intI, bl_intB, bl_max, bl_min, op_eqSf, op_eqSt, op_eqIf, op_eqIt, op_eqTf, op_eqTt, op_eqRf, op_eqRt, op_eqNf, op_eqNt, eqD_int, eqD_nil, pl_int, pl_nil, pl_non, pl_rnil, pl_bl, sl_tupE, sl_rolE, keep_ref, keep_tup, keep_rol, tp_int, tp_tup, tp_rol, tp_str, tp_bl, tp_non, tp_ref, oFd, oMd, oPw, oShl, oLt, oLe, oGt, oGe, op_in, op_cp, wipe_nil, wipe_cons, mset_same, true_and, and_true, isN_int, ex_lstF, ex_repF, ex_lgF1, ex_lgF2, ex_tupRg1, ex_tupRg2, ex_frz, ex_slF, ex_slM, sl_tupF, sl_rolF, op_iiF, op_ssF, op_ttF, op_rrF, op_rrM, op_mmF, op_repF, li_rol, li_ref, bl_listF, bl_allF, bl_anyF, asT_some, asJ_some, op_eqBf, op_eqBt, isN_non, Bool.not_true, Bool.not_false, rep2]
    refine ke _ _ _ _ f fun c M2 c0 c1 f2 o2 => ?_
    have snd : ∀ (D1 : Ends3), D1.nx = X → ∀ (us : List Trip) (M : Mp), TripsOk (w + 1) 100 us → us.length ≤ 2 * i + 1 → Feed M a → Only a M0' M →
        wIfS (wOr (wB (wOp oLt (wVar 2) (wC (.int 2)))) (wB (wOp (oEq false) (wCall sn E (wCons (wVar 0) (wCons (wC (.int 3)) wNil))) (wC (.int 0))))) (wSet 3 (wOp oAddF (wVar 3) (wLstF (wCons (wTup (wCons (wVar 1) (wCons (wVar 4) (wCons (wOp oAddF (wUn oNeg (wVar 5)) (wCall sn E (wCons (wVar 0) (wCons (wOp oAddF (wC (.int 1)) (wOp oMulF (wC (.int 2)) (wCB bInt (wCons (wOp oGt (wVar 2) (wC (.int 0))) wNil)))) wNil)))) wNil)))) wNil)))) wNext
          D1 [some (.ref a), some (.int w), some (.int way), some (.rol (us.map tripD)), some (.int (0 + (i : Int))), some (.int c)] M := by
      intro D1 hD us M hus hul f o
      rw [st_if]
      refine test_ok kn (by decide) (by decide) f rfl rfl fun b M3 f3 o3 => ?_
      cases b with
      | false =>
        rw [ite3_f, st_next, hD]
        exact hX _ _ ⟨hi, us, hus, by omega, f3, o.trans o3, _, _, rfl⟩
      | true =>
        rw [ite3_t, st_set]
        simp only [ex_c, ex_var, ex_op, ex_un, ex_b, ex_and, ex_or, ex_not, ex_andV, ex_orV, ex_notV, ex_if, ex_chain, ex_nil, ex_cons, ex_tup, ex_lst, ex_call, ex_callP, ex_cb, ex_bm, ex_rep, ex_sl, ex_noPart, ex_part, ex_yes, it_items, it_rng1, it_rng2, tg_name, tg_sub, tg_tup, tg_cons, tg_nil, gs_0, gs_s, ss_0, ss_s, op_ii, op_ss, op_tt, op_mm, op_sb, op_ng, op_iNf, op_iNt, op_lle, op_ixT, op_ixR, op_ixL, op_putE, op_appE, it_tupE, it_rolE, it_refE, lstOf_l, exL, asS_some, asI_int, asB_bl, asL_some, asN_some, ite3_t, ite3_f, bl_1, bl_lenT, bl_lenR, bl_lenL, bl_lenS, bl_tuple, bl_list, bl_abs, bl_intI, bl_intB, bl_max, bl_min, op_eqSf, op_eqSt, op_eqIf, op_eqIt, op_eqTf, op_eqTt, op_eqRf, op_eqRt, op_eqNf, op_eqNt, eqD_int, eqD_nil, pl_int, pl_nil, pl_non, pl_rnil, pl_bl, sl_tupE, sl_rolE, keep_ref, keep_tup, keep_rol, tp_int, tp_tup, tp_rol, tp_str, tp_bl, tp_non, tp_ref, oFd, oMd, oPw, oShl, oLt, oLe, oGt, oGe, op_in, op_cp, wipe_nil, wipe_cons, mset_same, true_and, and_true, isN_int, ex_lstF, ex_repF, ex_lgF1, ex_lgF2, ex_tupRg1, ex_tupRg2, ex_frz, ex_slF, ex_slM, sl_tupF, sl_rolF, op_iiF, op_ssF, op_ttF, op_rrF, op_rrM, op_mmF, op_repF, li_rol, li_ref, bl_listF, bl_allF, bl_anyF, asT_some, asJ_some, op_eqBf, op_eqBt, isN_non, Bool.not_true, Bool.not_false, rep2]
        have hb : ∃ k : Int, (if decide (0 < way) = true then (1 : Int) else 0) = k ∧ 0 ≤ k ∧ k ≤ 1 := by
          by_cases h : decide (0 < way) = true
          · exact ⟨1, if_pos h, by decide, by decide⟩
          · exact ⟨0, if_neg h, by decide, by decide⟩
        obtain ⟨k, ek, hk0, hk1⟩ := hb
        rw [ek]
        refine ⟨mul2, kn _ _ _ _ _ f3 (by omega) (by omega) fun r M4 r0 r1 f4 o4 => ?_⟩
        simp only [ex_c, ex_var, ex_op, ex_un, ex_b, ex_and, ex_or, ex_not, ex_andV, ex_orV, ex_notV, ex_if, ex_chain, ex_nil, ex_cons, ex_tup, ex_lst, ex_call, ex_callP, ex_cb, ex_bm, ex_rep, ex_sl, ex_noPart, ex_part, ex_yes, it_items, it_rng1, it_rng2, tg_name, tg_sub, tg_tup, tg_cons, tg_nil, gs_0, gs_s, ss_0, ss_s, op_ii, op_ss, op_tt, op_mm, op_sb, op_ng, op_iNf, op_iNt, op_lle, op_ixT, op_ixR, op_ixL, op_putE, op_appE, it_tupE, it_rolE, it_refE, lstOf_l, exL, asS_some, asI_int, asB_bl, asL_some, asN_some, ite3_t, ite3_f, bl_1, bl_lenT, bl_lenR, bl_lenL, bl_lenS, bl_tuple, bl_list, bl_abs, bl_intI, bl_intB, bl_max, bl_min, op_eqSf, op_eqSt, op_eqIf, op_eqIt, op_eqTf, op_eqTt, op_eqRf, op_eqRt, op_eqNf, op_eqNt, eqD_int, eqD_nil, pl_int, pl_nil, pl_non, pl_rnil, pl_bl, sl_tupE, sl_rolE, keep_ref, keep_tup, keep_rol, tp_int, tp_tup, tp_rol, tp_str, tp_bl, tp_non, tp_ref, oFd, oMd, oPw, oShl, oLt, oLe, oGt, oGe, op_in, op_cp, wipe_nil, wipe_cons, mset_same, true_and, and_true, isN_int, ex_lstF, ex_repF, ex_lgF1, ex_lgF2, ex_tupRg1, ex_tupRg2, ex_frz, ex_slF, ex_slM, sl_tupF, sl_rolF, op_iiF, op_ssF, op_ttF, op_rrF, op_rrM, op_mmF, op_repF, li_rol, li_ref, bl_listF, bl_allF, bl_anyF, asT_some, asJ_some, op_eqBf, op_eqBt, isN_non, Bool.not_true, Bool.not_false, rep2]
        refine ⟨by show 3 ≤ sizeLine; omega, by show 1 ≤ sizeLine; omega, by rw [List.length_map]; show _ + 1 ≤ sizeLine; omega, ?_⟩
        have e1 : us.map tripD ++ [D.tup [.int (w : Int), .int (0 + (i : Int)), .int (-c + r)]] = (us ++ [((w : Int), (0 + (i : Int)), -c + r)]).map tripD := by rw [List.map_append]; rfl
        rw [e1, hD]
        refine hX _ _ ⟨hi, us ++ [((w : Int), (0 + (i : Int)), -c + r)], fun t ht => ?_, by rw [List.length_append]; show _ + 1 ≤ _; omega, f4, (o.trans o3).trans o4, _, _, rfl⟩
        rcases List.mem_append.mp ht with h | h
        · exact hus t h
        · rw [List.mem_singleton] at h
          subst h
          exact ⟨⟨by dsimp only; omega, by dsimp only; omega, by dsimp only; omega, by dsimp only; omega⟩, by dsimp only; omega⟩
    rw [st_seq, st_if]
    refine test_ok kn (by decide) (by decide) f2 rfl rfl fun b M3 f3 o3 => ?_
    cases b with
    | false =>
      rw [ite3_f, st_next]
      exact snd _ rfl ts M3 hts (by omega) f3 ((o.trans o2).trans o3)
    | true =>
      rw [ite3_t, st_set]
      simp only [ex_c, ex_var, ex_op, ex_un, ex_b, ex_and, ex_or, ex_not, ex_andV, ex_orV, ex_notV, ex_if, ex_chain, ex_nil, ex_cons, ex_tup, ex_lst, ex_call, ex_callP, ex_cb, ex_bm, ex_rep, ex_sl, ex_noPart, ex_part, ex_yes, it_items, it_rng1, it_rng2, tg_name, tg_sub, tg_tup, tg_cons, tg_nil, gs_0, gs_s, ss_0, ss_s, op_ii, op_ss, op_tt, op_mm, op_sb, op_ng, op_iNf, op_iNt, op_lle, op_ixT, op_ixR, op_ixL, op_putE, op_appE, it_tupE, it_rolE, it_refE, lstOf_l, exL, asS_some, asI_int, asB_bl, asL_some, asN_some, ite3_t, ite3_f, bl_1, bl_lenT, bl_lenR, bl_lenL, bl_lenS, bl_tuple, bl_list, bl_abs, bl_intI, bl_intB, bl_max, bl_min, op_eqSf, op_eqSt, op_eqIf, op_eqIt, op_eqTf, op_eqTt, op_eqRf, op_eqRt, op_eqNf, op_eqNt, eqD_int, eqD_nil, pl_int, pl_nil, pl_non, pl_rnil, pl_bl, sl_tupE, sl_rolE, keep_ref, keep_tup, keep_rol, tp_int, tp_tup, tp_rol, tp_str, tp_bl, tp_non, tp_ref, oFd, oMd, oPw, oShl, oLt, oLe, oGt, oGe, op_in, op_cp, wipe_nil, wipe_cons, mset_same, true_and, and_true, isN_int, ex_lstF, ex_repF, ex_lgF1, ex_lgF2, ex_tupRg1, ex_tupRg2, ex_frz, ex_slF, ex_slM, sl_tupF, sl_rolF, op_iiF, op_ssF, op_ttF, op_rrF, op_rrM, op_mmF, op_repF, li_rol, li_ref, bl_listF, bl_allF, bl_anyF, asT_some, asJ_some, op_eqBf, op_eqBt, isN_non, Bool.not_true, Bool.not_false, rep2]
      refine ⟨by show 3 ≤ sizeLine; omega, by show 1 ≤ sizeLine; omega, by rw [List.length_map]; show _ + 1 ≤ sizeLine; omega, ?_⟩
      have e1 : ts.map tripD ++ [D.tup [.int (0 + (i : Int)), .int (w : Int), .int c]] = (ts ++ [((0 + (i : Int)), (w : Int), c)]).map tripD := by rw [List.map_append]; rfl
      rw [e1]
      refine snd _ rfl _ M3 (fun t ht => ?_) (by rw [List.length_append]; show _ + 1 ≤ _; omega) f3 ((o.trans o2).trans o3)
      rcases List.mem_append.mp ht with h | h
      · exact hts t h
      · rw [List.mem_singleton] at h
        subst h
        exact ⟨⟨by dsimp only; omega, by dsimp only; omega, by dsimp only; omega, by dsimp only; omega⟩, by dsimp only; omega⟩
  · rintro τ M ⟨_, ts, hts, hl, f, o, x4, x5, rfl⟩
    have fin : ∀ (us : List Trip) (M : Mp), TripsOk (w + 1) 100 us → Feed M a → Only a M0' M →
        wRet (wCallP st E (wCons (wOp oAddF (wVar 1) (wC (.int 1))) (wCons (wVar 3) wNil))) { nx := fun _ M' => Q .non M', rt := Q } [some (.ref a), some (.int w), some (.int way), some (.rol (us.map tripD)), x4, x5] M := by
      intro us M hus f o
      rw [st_ret]
      simp only [ex_c, ex_var, ex_op, ex_un, ex_b, ex_and, ex_or, ex_not, ex_andV, ex_orV, ex_notV, ex_if, ex_chain, ex_nil, ex_cons, ex_tup, ex_lst, ex_call, ex_callP, ex_cb, ex_bm, ex_rep, ex_sl, ex_noPart, ex_part, ex_yes, it_items, it_rng1, it_rng2, tg_name, tg_sub, tg_tup, tg_cons, tg_nil, gs_0, gs_s, ss_0, ss_s, op_ii, op_ss, op_tt, op_mm, op_sb, op_ng, op_iNf, op_iNt, op_lle, op_ixT, op_ixR, op_ixL, op_putE, op_appE, it_tupE, it_rolE, it_refE, lstOf_l, exL, asS_some, asI_int, asB_bl, asL_some, asN_some, ite3_t, ite3_f, bl_1, bl_lenT, bl_lenR, bl_lenL, bl_lenS, bl_tuple, bl_list, bl_abs, bl_intI, bl_intB, bl_max, bl_min, op_eqSf, op_eqSt, op_eqIf, op_eqIt, op_eqTf, op_eqTt, op_eqRf, op_eqRt, op_eqNf, op_eqNt, eqD_int, eqD_nil, pl_int, pl_nil, pl_non, pl_rnil, pl_bl, sl_tupE, sl_rolE, keep_ref, keep_tup, keep_rol, tp_int, tp_tup, tp_rol, tp_str, tp_bl, tp_non, tp_ref, oFd, oMd, oPw, oShl, oLt, oLe, oGt, oGe, op_in, op_cp, wipe_nil, wipe_cons, mset_same, true_and, and_true, isN_int, ex_lstF, ex_repF, ex_lgF1, ex_lgF2, ex_tupRg1, ex_tupRg2, ex_frz, ex_slF, ex_slM, sl_tupF, sl_rolF, op_iiF, op_ssF, op_ttF, op_rrF, op_rrM, op_mmF, op_repF, li_rol, li_ref, bl_listF, bl_allF, bl_anyF, asT_some, asJ_some, op_eqBf, op_eqBt, isN_non, Bool.not_true, Bool.not_false, rep2]
      refine kt _ us _ _ _ (by omega) (by omega) .r (fun t ht => ?_) fun _ => ?_
      · have := (hus t ht).1
        exact this
      · have e1 : ((w : Int) + 1).toNat = w + 1 := by omega
        rw [e1]
        exact q _ _ (mtab_b fun t ht => (hus t ht).2) f o
    try dsimp only
    rw [st_seq, st_if]
    simp only [ex_c, ex_var, ex_op, ex_un, ex_b, ex_and, ex_or, ex_not, ex_andV, ex_orV, ex_notV, ex_if, ex_chain, ex_nil, ex_cons, ex_tup, ex_lst, ex_call, ex_callP, ex_cb, ex_bm, ex_rep, ex_sl, ex_noPart, ex_part, ex_yes, it_items, it_rng1, it_rng2, tg_name, tg_sub, tg_tup, tg_cons, tg_nil, gs_0, gs_s, ss_0, ss_s, op_ii, op_ss, op_tt, op_mm, op_sb, op_ng, op_iNf, op_iNt, op_lle, op_ixT, op_ixR, op_ixL, op_putE, op_appE, it_tupE, it_rolE, it_refE, lstOf_l, exL, asS_some, asI_int, asB_bl, asL_some, asN_some, ite3_t, ite3_f, bl_1, bl_lenT, bl_lenR, bl_lenL, bl_lenS, bl_tuple, bl_list, bl_abs, bl_intI, bl_intB, bl_max, bl_min, op_eqSf, op_eqSt, op_eqIf, op_eqIt, op_eqTf, op_eqTt, op_eqRf, op_eqRt, op_eqNf, op_eqNt, eqD_int, eqD_nil, pl_int, pl_nil, pl_non, pl_rnil, pl_bl, sl_tupE, sl_rolE, keep_ref, keep_tup, keep_rol, tp_int, tp_tup, tp_rol, tp_str, tp_bl, tp_non, tp_ref, oFd, oMd, oPw, oShl, oLt, oLe, oGt, oGe, op_in, op_cp, wipe_nil, wipe_cons, mset_same, true_and, and_true, isN_int, ex_lstF, ex_repF, ex_lgF1, ex_lgF2, ex_tupRg1, ex_tupRg2, ex_frz, ex_slF, ex_slM, sl_tupF, sl_rolF, op_iiF, op_ssF, op_ttF, op_rrF, op_rrM, op_mmF, op_repF, li_rol, li_ref, bl_listF, bl_allF, bl_anyF, asT_some, asJ_some, op_eqBf, op_eqBt, isN_non, Bool.not_true, Bool.not_false, rep2]
    refine ite3_by (fun _ => ?_) (fun _ => ?_)
    · refine ite3_by (fun hw1 => ?_) (fun _ => ?_)
      · have hw1 := of_decide_eq_true hw1
        rw [st_set]
        simp only [ex_c, ex_var, ex_op, ex_un, ex_b, ex_and, ex_or, ex_not, ex_andV, ex_orV, ex_notV, ex_if, ex_chain, ex_nil, ex_cons, ex_tup, ex_lst, ex_call, ex_callP, ex_cb, ex_bm, ex_rep, ex_sl, ex_noPart, ex_part, ex_yes, it_items, it_rng1, it_rng2, tg_name, tg_sub, tg_tup, tg_cons, tg_nil, gs_0, gs_s, ss_0, ss_s, op_ii, op_ss, op_tt, op_mm, op_sb, op_ng, op_iNf, op_iNt, op_lle, op_ixT, op_ixR, op_ixL, op_putE, op_appE, it_tupE, it_rolE, it_refE, lstOf_l, exL, asS_some, asI_int, asB_bl, asL_some, asN_some, ite3_t, ite3_f, bl_1, bl_lenT, bl_lenR, bl_lenL, bl_lenS, bl_tuple, bl_list, bl_abs, bl_intI, bl_intB, bl_max, bl_min, op_eqSf, op_eqSt, op_eqIf, op_eqIt, op_eqTf, op_eqTt, op_eqRf, op_eqRt, op_eqNf, op_eqNt, eqD_int, eqD_nil, pl_int, pl_nil, pl_non, pl_rnil, pl_bl, sl_tupE, sl_rolE, keep_ref, keep_tup, keep_rol, tp_int, tp_tup, tp_rol, tp_str, tp_bl, tp_non, tp_ref, oFd, oMd, oPw, oShl, oLt, oLe, oGt, oGe, op_in, op_cp, wipe_nil, wipe_cons, mset_same, true_and, and_true, isN_int, ex_lstF, ex_repF, ex_lgF1, ex_lgF2, ex_tupRg1, ex_tupRg2, ex_frz, ex_slF, ex_slM, sl_tupF, sl_rolF, op_iiF, op_ssF, op_ttF, op_rrF, op_rrM, op_mmF, op_repF, li_rol, li_ref, bl_listF, bl_allF, bl_anyF, asT_some, asJ_some, op_eqBf, op_eqBt, isN_non, Bool.not_true, Bool.not_false, rep2]
        refine ke _ _ _ _ f fun c M2 c0 c1 f2 o2 => ?_
        (try simp only [ex_c, ex_var, ex_op, ex_un, ex_b, ex_and, ex_or, ex_not, ex_andV, ex_orV, ex_notV, ex_if, ex_chain, ex_nil, ex_cons, ex_tup, ex_lst, ex_call, ex_callP, ex_cb, ex_bm, ex_rep, ex_sl, ex_noPart, ex_part, ex_yes, it_items, it_rng1, it_rng2, tg_name, tg_sub, tg_tup, tg_cons, tg_nil, gs_0, gs_s, ss_0, ss_s, op_ii, op_ss, op_tt, op_mm, op_sb, op_ng, op_iNf, op_iNt, op_lle, op_ixT, op_ixR, op_ixL, op_putE, op_appE, it_tupE, it_rolE, it_refE, lstOf_l, exL, asS_some, asI_int, asB_bl, asL_some, asN_some, ite3_t, ite3_f, bl_1, bl_lenT, bl_lenR, bl_lenL, bl_lenS, bl_tuple, bl_list, bl_abs, bl_intI, bl_intB, bl_max, bl_min, op_eqSf, op_eqSt, op_eqIf, op_eqIt, op_eqTf, op_eqTt, op_eqRf, op_eqRt, op_eqNf, op_eqNt, eqD_int, eqD_nil, pl_int, pl_nil, pl_non, pl_rnil, pl_bl, sl_tupE, sl_rolE, keep_ref, keep_tup, keep_rol, tp_int, tp_tup, tp_rol, tp_str, tp_bl, tp_non, tp_ref, oFd, oMd, oPw, oShl, oLt, oLe, oGt, oGe, op_in, op_cp, wipe_nil, wipe_cons, mset_same, true_and, and_true, isN_int, ex_lstF, ex_repF, ex_lgF1, ex_lgF2, ex_tupRg1, ex_tupRg2, ex_frz, ex_slF, ex_slM, sl_tupF, sl_rolF, op_iiF, op_ssF, op_ttF, op_rrF, op_rrM, op_mmF, op_repF, li_rol, li_ref, bl_listF, bl_allF, bl_anyF, asT_some, asJ_some, op_eqBf, op_eqBt, isN_non, Bool.not_true, Bool.not_false, rep2])
        refine ⟨by show 3 ≤ sizeLine; omega, by show 1 ≤ sizeLine; omega, by rw [List.length_map]; show _ + 1 ≤ sizeLine; omega, ?_⟩
        have e1 : ts.map tripD ++ [D.tup [.int 0, .int 1, .int c]] = (ts ++ [((0 : Int), (1 : Int), c)]).map tripD := by rw [List.map_append]; rfl
        rw [e1]
        refine fin _ M2 (fun t ht => ?_) f2 (o.trans o2)
        rcases List.mem_append.mp ht with h | h
        · exact hts t h
        · rw [List.mem_singleton] at h
          subst h
          exact ⟨⟨by dsimp only; omega, by dsimp only; omega, by dsimp only; omega, by dsimp only; omega⟩, by dsimp only; omega⟩
      · rw [st_next]
        exact fin ts M hts f o
    · rw [st_next]
      exact fin ts M hts f o
end L3
set_option Elab.async false
set_option linter.all false
set_option maxRecDepth 100000
set_option maxHeartbeats 4000000
namespace L3
open PySem PySem.Spec PyProof.Rows L2
def callLR (sn ss : Sp3) : XK3 → TS3 := fun E =>
  (wRet (wCallP sn E (wCons (wVar 1) (wCons (wProp "Loop" ss (wVar 0)) wNil))))
def SCallL (sp sn : Sp3) : Prop := ∀ (o e p : Addr) (as : List Addr) (w : Nat) (T : Tab) (ps : List Past) (fd : D) (M : Mp) (Q : VK3) (E : XK3), Lp M o e p as w T ps → w ≤ 40 → sn [fd, tabD T] M0 (fun d _ => Q d M) (fun n fs _ => E n fs M) → sp [.ref o, fd] M Q E
theorem s_callL {sn ss : Sp3} (ks : SStepL ss) : SCallL (spOf 2 2 (callLR sn ss)) sn := by
  refine fun o e p as w T ps fd M Q E lp hw q => ⟨rfl, ?_⟩
  show callLR sn ss E _ [some (.ref o), some fd] M
  unfold callLR
  rw [st_ret]
  simp only [ex_c, ex_var, ex_op, ex_un, ex_b, ex_and, ex_or, ex_not, ex_andV, ex_orV, ex_notV, ex_if, ex_chain, ex_nil, ex_cons, ex_tup, ex_lst, ex_call, ex_callP, ex_cb, ex_bm, ex_rep, ex_sl, ex_noPart, ex_part, ex_yes, it_items, it_rng1, it_rng2, tg_name, tg_sub, tg_tup, tg_cons, tg_nil, gs_0, gs_s, ss_0, ss_s, op_ii, op_ss, op_tt, op_mm, op_sb, op_ng, op_iNf, op_iNt, op_lle, op_ixT, op_ixR, op_ixL, op_putE, op_appE, it_tupE, it_rolE, it_refE, lstOf_l, exL, asS_some, asI_int, asB_bl, asL_some, asN_some, ite3_t, ite3_f, bl_1, bl_lenT, bl_lenR, bl_lenL, bl_lenS, bl_tuple, bl_list, bl_abs, bl_intI, bl_intB, bl_max, bl_min, op_eqSf, op_eqSt, op_eqIf, op_eqIt, op_eqTf, op_eqTt, op_eqRf, op_eqRt, op_eqNf, op_eqNt, eqD_int, eqD_nil, pl_int, pl_nil, pl_non, pl_rnil, pl_bl, sl_tupE, sl_rolE, keep_ref, keep_tup, keep_rol, tp_int, tp_tup, tp_rol, tp_str, tp_bl, tp_non, tp_ref, oFd, oMd, oPw, oShl, oLt, oLe, oGt, oGe, op_in, op_cp, wipe_nil, wipe_cons, mset_same, true_and, and_true, isN_int, ex_lstF, ex_repF, ex_lgF1, ex_lgF2, ex_tupRg1, ex_tupRg2, ex_frz, ex_slF, ex_slM, sl_tupF, sl_rolF, op_iiF, op_ssF, op_ttF, op_rrF, op_rrM, op_mmF, op_repF, li_rol, li_ref, bl_listF, bl_allF, bl_anyF, asT_some, asJ_some, op_eqBf, op_eqBt, isN_non, Bool.not_true, Bool.not_false, rep2, ex_prop, asIn_ref lp.ob]
  refine ks _ _ _ _ _ _ _ _ _ _ lp (by omega) ?_
  (try simp only [ex_c, ex_var, ex_op, ex_un, ex_b, ex_and, ex_or, ex_not, ex_andV, ex_orV, ex_notV, ex_if, ex_chain, ex_nil, ex_cons, ex_tup, ex_lst, ex_call, ex_callP, ex_cb, ex_bm, ex_rep, ex_sl, ex_noPart, ex_part, ex_yes, it_items, it_rng1, it_rng2, tg_name, tg_sub, tg_tup, tg_cons, tg_nil, gs_0, gs_s, ss_0, ss_s, op_ii, op_ss, op_tt, op_mm, op_sb, op_ng, op_iNf, op_iNt, op_lle, op_ixT, op_ixR, op_ixL, op_putE, op_appE, it_tupE, it_rolE, it_refE, lstOf_l, exL, asS_some, asI_int, asB_bl, asL_some, asN_some, ite3_t, ite3_f, bl_1, bl_lenT, bl_lenR, bl_lenL, bl_lenS, bl_tuple, bl_list, bl_abs, bl_intI, bl_intB, bl_max, bl_min, op_eqSf, op_eqSt, op_eqIf, op_eqIt, op_eqTf, op_eqTt, op_eqRf, op_eqRt, op_eqNf, op_eqNt, eqD_int, eqD_nil, pl_int, pl_nil, pl_non, pl_rnil, pl_bl, sl_tupE, sl_rolE, keep_ref, keep_tup, keep_rol, tp_int, tp_tup, tp_rol, tp_str, tp_bl, tp_non, tp_ref, oFd, oMd, oPw, oShl, oLt, oLe, oGt, oGe, op_in, op_cp, wipe_nil, wipe_cons, mset_same, true_and, and_true, isN_int, ex_lstF, ex_repF, ex_lgF1, ex_lgF2, ex_tupRg1, ex_tupRg2, ex_frz, ex_slF, ex_slM, sl_tupF, sl_rolF, op_iiF, op_ssF, op_ttF, op_rrF, op_rrM, op_mmF, op_repF, li_rol, li_ref, bl_listF, bl_allF, bl_anyF, asT_some, asJ_some, op_eqBf, op_eqBt, isN_non, Bool.not_true, Bool.not_false, rep2])
  exact q
end L3
set_option Elab.async false
set_option linter.all false
set_option maxRecDepth 100000
set_option maxHeartbeats 4000000
namespace L3
open PySem PySem.Spec PyProof.Rows L2
def eqLR (ss : Sp3) : XK3 → TS3 := fun E =>
  (wRet (wAndV (wIsO "Loop" (wVar 1)) (wOp (oEq false) (wProp "Loop" ss (wVar 0)) (wProp "Loop" ss (wVar 1)))))
theorem ex_isO {n : Str} {te : TE3} {τ : St3} {M : Mp} {Q : VK3} : wIsO n te τ M Q = te τ M fun d M1 => (asIn n M1 d fun _ _ => Q (.bl true) M1) ∨ asStr (tyN M1 d) fun T => T ∈ bTys ∧ Q (.bl false) M1 := rfl
structure SEqL (sp : Sp3) : Prop where
  l : ∀ (o e p : Addr) (as : List Addr) (w : Nat) (T : Tab) (ps : List Past) (o' e' p' : Addr) (as' : List Addr) (w' : Nat) (T' : Tab) (ps' : List Past) (M : Mp) (Q : VK3) (E : XK3), Lp M o e p as w T ps → Lp M o' e' p' as' w' T' ps' → w ≤ 40 → w' ≤ 40 → Q (.bl (decide (T = T'))) M → sp [.ref o, .ref o'] M Q E
  n : ∀ (o e p : Addr) (as : List Addr) (w : Nat) (T : Tab) (ps : List Past) (d : D) (t : String) (M : Mp) (Q : VK3) (E : XK3), Lp M o e p as w T ps → tyN M d = some t → t ∈ bTys → Q (.bl false) M → sp [.ref o, d] M Q E
theorem s_eqL {ss : Sp3} (ks : SStepL ss) : SEqL (spOf 2 2 (eqLR ss)) where
  l := by
    refine fun o e p as w T ps o' e' p' as' w' T' ps' M Q E lp lp' hw hw' q => ⟨rfl, ?_⟩
    show eqLR ss E _ [some (.ref o), some (.ref o')] M
    unfold eqLR
    rw [st_ret]
    simp only [ex_c, ex_var, ex_op, ex_un, ex_b, ex_and, ex_or, ex_not, ex_andV, ex_orV, ex_notV, ex_if, ex_chain, ex_nil, ex_cons, ex_tup, ex_lst, ex_call, ex_callP, ex_cb, ex_bm, ex_rep, ex_sl, ex_noPart, ex_part, ex_yes, it_items, it_rng1, it_rng2, tg_name, tg_sub, tg_tup, tg_cons, tg_nil, gs_0, gs_s, ss_0, ss_s, op_ii, op_ss, op_tt, op_mm, op_sb, op_ng, op_iNf, op_iNt, op_lle, op_ixT, op_ixR, op_ixL, op_putE, op_appE, it_tupE, it_rolE, it_refE, lstOf_l, exL, asS_some, asI_int, asB_bl, asL_some, asN_some, ite3_t, ite3_f, bl_1, bl_lenT, bl_lenR, bl_lenL, bl_lenS, bl_tuple, bl_list, bl_abs, bl_intI, bl_intB, bl_max, bl_min, op_eqSf, op_eqSt, op_eqIf, op_eqIt, op_eqTf, op_eqTt, op_eqRf, op_eqRt, op_eqNf, op_eqNt, eqD_int, eqD_nil, pl_int, pl_nil, pl_non, pl_rnil, pl_bl, sl_tupE, sl_rolE, keep_ref, keep_tup, keep_rol, tp_int, tp_tup, tp_rol, tp_str, tp_bl, tp_non, tp_ref, oFd, oMd, oPw, oShl, oLt, oLe, oGt, oGe, op_in, op_cp, wipe_nil, wipe_cons, mset_same, true_and, and_true, isN_int, ex_lstF, ex_repF, ex_lgF1, ex_lgF2, ex_tupRg1, ex_tupRg2, ex_frz, ex_slF, ex_slM, sl_tupF, sl_rolF, op_iiF, op_ssF, op_ttF, op_rrF, op_rrM, op_mmF, op_repF, li_rol, li_ref, bl_listF, bl_allF, bl_anyF, asT_some, asJ_some, op_eqBf, op_eqBt, isN_non, Bool.not_true, Bool.not_false, rep2, ex_isO]
    refine .inl ?_
    rw [asIn_ref lp'.ob]
    simp only [ex_c, ex_var, ex_op, ex_un, ex_b, ex_and, ex_or, ex_not, ex_andV, ex_orV, ex_notV, ex_if, ex_chain, ex_nil, ex_cons, ex_tup, ex_lst, ex_call, ex_callP, ex_cb, ex_bm, ex_rep, ex_sl, ex_noPart, ex_part, ex_yes, it_items, it_rng1, it_rng2, tg_name, tg_sub, tg_tup, tg_cons, tg_nil, gs_0, gs_s, ss_0, ss_s, op_ii, op_ss, op_tt, op_mm, op_sb, op_ng, op_iNf, op_iNt, op_lle, op_ixT, op_ixR, op_ixL, op_putE, op_appE, it_tupE, it_rolE, it_refE, lstOf_l, exL, asS_some, asI_int, asB_bl, asL_some, asN_some, ite3_t, ite3_f, bl_1, bl_lenT, bl_lenR, bl_lenL, bl_lenS, bl_tuple, bl_list, bl_abs, bl_intI, bl_intB, bl_max, bl_min, op_eqSf, op_eqSt, op_eqIf, op_eqIt, op_eqTf, op_eqTt, op_eqRf, op_eqRt, op_eqNf, op_eqNt, eqD_int, eqD_nil, pl_int, pl_nil, pl_non, pl_rnil, pl_bl, sl_tupE, sl_rolE, keep_ref, keep_tup, keep_rol, tp_int, tp_tup, tp_rol, tp_str, tp_bl, tp_non, tp_ref, oFd, oMd, oPw, oShl, oLt, oLe, oGt, oGe, op_in, op_cp, wipe_nil, wipe_cons, mset_same, true_and, and_true, isN_int, ex_lstF, ex_repF, ex_lgF1, ex_lgF2, ex_tupRg1, ex_tupRg2, ex_frz, ex_slF, ex_slM, sl_tupF, sl_rolF, op_iiF, op_ssF, op_ttF, op_rrF, op_rrM, op_mmF, op_repF, li_rol, li_ref, bl_listF, bl_allF, bl_anyF, asT_some, asJ_some, op_eqBf, op_eqBt, isN_non, Bool.not_true, Bool.not_false, rep2, ex_prop, asIn_ref lp.ob]
    refine ks _ _ _ _ _ _ _ _ _ _ lp (by omega) ?_
    (try simp only [ex_c, ex_var, ex_op, ex_un, ex_b, ex_and, ex_or, ex_not, ex_andV, ex_orV, ex_notV, ex_if, ex_chain, ex_nil, ex_cons, ex_tup, ex_lst, ex_call, ex_callP, ex_cb, ex_bm, ex_rep, ex_sl, ex_noPart, ex_part, ex_yes, it_items, it_rng1, it_rng2, tg_name, tg_sub, tg_tup, tg_cons, tg_nil, gs_0, gs_s, ss_0, ss_s, op_ii, op_ss, op_tt, op_mm, op_sb, op_ng, op_iNf, op_iNt, op_lle, op_ixT, op_ixR, op_ixL, op_putE, op_appE, it_tupE, it_rolE, it_refE, lstOf_l, exL, asS_some, asI_int, asB_bl, asL_some, asN_some, ite3_t, ite3_f, bl_1, bl_lenT, bl_lenR, bl_lenL, bl_lenS, bl_tuple, bl_list, bl_abs, bl_intI, bl_intB, bl_max, bl_min, op_eqSf, op_eqSt, op_eqIf, op_eqIt, op_eqTf, op_eqTt, op_eqRf, op_eqRt, op_eqNf, op_eqNt, eqD_int, eqD_nil, pl_int, pl_nil, pl_non, pl_rnil, pl_bl, sl_tupE, sl_rolE, keep_ref, keep_tup, keep_rol, tp_int, tp_tup, tp_rol, tp_str, tp_bl, tp_non, tp_ref, oFd, oMd, oPw, oShl, oLt, oLe, oGt, oGe, op_in, op_cp, wipe_nil, wipe_cons, mset_same, true_and, and_true, isN_int, ex_lstF, ex_repF, ex_lgF1, ex_lgF2, ex_tupRg1, ex_tupRg2, ex_frz, ex_slF, ex_slM, sl_tupF, sl_rolF, op_iiF, op_ssF, op_ttF, op_rrF, op_rrM, op_mmF, op_repF, li_rol, li_ref, bl_listF, bl_allF, bl_anyF, asT_some, asJ_some, op_eqBf, op_eqBt, isN_non, Bool.not_true, Bool.not_false, rep2, ex_prop, asIn_ref lp'.ob])
    refine ks _ _ _ _ _ _ _ _ _ _ lp' (by omega) ?_
    rw [eq_tabs]
    exact q
  n := by
    refine fun o e p as w T ps d t M Q E lp ht hm q => ⟨rfl, ?_⟩
    show eqLR ss E _ [some (.ref o), some d] M
    unfold eqLR
    rw [st_ret]
    simp only [ex_c, ex_var, ex_op, ex_un, ex_b, ex_and, ex_or, ex_not, ex_andV, ex_orV, ex_notV, ex_if, ex_chain, ex_nil, ex_cons, ex_tup, ex_lst, ex_call, ex_callP, ex_cb, ex_bm, ex_rep, ex_sl, ex_noPart, ex_part, ex_yes, it_items, it_rng1, it_rng2, tg_name, tg_sub, tg_tup, tg_cons, tg_nil, gs_0, gs_s, ss_0, ss_s, op_ii, op_ss, op_tt, op_mm, op_sb, op_ng, op_iNf, op_iNt, op_lle, op_ixT, op_ixR, op_ixL, op_putE, op_appE, it_tupE, it_rolE, it_refE, lstOf_l, exL, asS_some, asI_int, asB_bl, asL_some, asN_some, ite3_t, ite3_f, bl_1, bl_lenT, bl_lenR, bl_lenL, bl_lenS, bl_tuple, bl_list, bl_abs, bl_intI, bl_intB, bl_max, bl_min, op_eqSf, op_eqSt, op_eqIf, op_eqIt, op_eqTf, op_eqTt, op_eqRf, op_eqRt, op_eqNf, op_eqNt, eqD_int, eqD_nil, pl_int, pl_nil, pl_non, pl_rnil, pl_bl, sl_tupE, sl_rolE, keep_ref, keep_tup, keep_rol, tp_int, tp_tup, tp_rol, tp_str, tp_bl, tp_non, tp_ref, oFd, oMd, oPw, oShl, oLt, oLe, oGt, oGe, op_in, op_cp, wipe_nil, wipe_cons, mset_same, true_and, and_true, isN_int, ex_lstF, ex_repF, ex_lgF1, ex_lgF2, ex_tupRg1, ex_tupRg2, ex_frz, ex_slF, ex_slM, sl_tupF, sl_rolF, op_iiF, op_ssF, op_ttF, op_rrF, op_rrM, op_mmF, op_repF, li_rol, li_ref, bl_listF, bl_allF, bl_anyF, asT_some, asJ_some, op_eqBf, op_eqBt, isN_non, Bool.not_true, Bool.not_false, rep2, ex_isO]
    refine .inr ?_
    rw [ht, asStr_some]
    exact ⟨hm, q⟩
theorem op_eqO {n : Str} {sp : Sp3} {x c : D} {M : Mp} {Q : VK3} : oEqO n sp x c M Q = (((asIn n M c fun _ _ => True) ∨ asStr (tyN M c) fun T => T ∈ bTys) ∧ asIn n M x fun a _ => sp [.ref a, c] M (fun v M2 => asB v fun k => Q (.bl k) M2) X0) := rfl
end L3
set_option Elab.async false
set_option linter.all false
set_option maxRecDepth 100000
set_option maxHeartbeats 4000000
namespace L3
open PySem PySem.Spec PyProof.Rows L2
theorem ex_callOL {n : Str} {sp : Sp3} {tf : TE3} {t : TA3} {τ : St3} {M : Mp} {Q : VK3} : wCallO n sp tf t τ M Q = tf τ M fun d M1 => asRf d fun a => t τ M1 fun ds M2 => asIn n M2 (.ref a) fun _ _ => sp (.ref a :: ds) M2 Q X0 := rfl
end L3
set_option Elab.async false
set_option linter.all false
set_option maxRecDepth 100000
set_option maxHeartbeats 4000000
namespace L3
open PySem PySem.Spec PyProof.Rows L2
def keyT2 (t : Trip) : Nat × Nat := (t.1.toNat, t.2.1.toNat)
def InN (n : Nat) (t : Trip) : Prop := t.1.toNat < n ∧ t.2.1.toNat < n
theorem at2_set {n p q : Nat} {T : Tab} {t : Trip} (sq : Sq n T) (h : InN n t) : at2 (setT T t) p q = if keyT2 t = (p, q) then some t.2.2 else at2 T p q := by
  unfold setT keyT2
  rw [at2_putQ sq h.1 h.2]
  by_cases e : p = t.1.toNat ∧ q = t.2.1.toNat
  · rw [if_pos e, if_pos (by rw [e.1, e.2])]
  · rw [if_neg e, if_neg (fun z => e ⟨(congrArg Prod.fst z).symm, (congrArg Prod.snd z).symm⟩)]
theorem fold_not {n p q : Nat} : ∀ {ts : List Trip} {T : Tab}, Sq n T → (∀ t ∈ ts, InN n t) → (p, q) ∉ ts.map keyT2 → at2 (ts.foldl setT T) p q = at2 T p q
  | [], _, _, _, _ => rfl
  | t :: ts, T, sq, hi, h => by
    rw [List.map_cons, List.mem_cons, not_or] at h
    rw [List.foldl_cons, fold_not (ts := ts) sq.setT (fun x hx => hi x (by simp [hx])) h.2, at2_set sq (hi t (by simp)), if_neg (fun z => h.1 z.symm)]
theorem fold_in {n p q : Nat} {c : Int} : ∀ {ts : List Trip} {T : Tab}, Sq n T → (∀ t ∈ ts, InN n t) → (ts.map keyT2).Nodup → (∃ t ∈ ts, keyT2 t = (p, q) ∧ t.2.2 = c) → at2 (ts.foldl setT T) p q = some c
  | [], _, _, _, _, h => by obtain ⟨t, ht, _⟩ := h; simp at ht
  | t :: ts, T, sq, hi, nd, h => by
    rw [List.map_cons, List.nodup_cons] at nd
    rw [List.foldl_cons]
    obtain ⟨x, hx, e1, e2⟩ := h
    rcases List.mem_cons.mp hx with hx | hx
    · subst hx
      rw [fold_not (ts := ts) sq.setT (fun x hx => hi x (by simp [hx])) (by rw [← e1]; exact nd.1), at2_set sq (hi x (by simp)), if_pos e1, e2]
    · exact fold_in (ts := ts) sq.setT (fun x hx => hi x (by simp [hx])) nd.2 ⟨x, hx, e1, e2⟩
theorem Sq.foldT {n : Nat} : ∀ {ts : List Trip} {T : Tab}, Sq n T → Sq n (ts.foldl L3.setT T)
  | [], _, s => s
  | _ :: ts, _, s => Sq.foldT (ts := ts) s.setT
theorem Sq.ext2 {n : Nat} {S T : Tab} (s : Sq n S) (t : Sq n T) (h : ∀ p q, p < n → q < n → at2 S p q = at2 T p q) : S = T := by
  refine List.ext_getElem (by rw [s.rows, t.rows]) fun p h1 h2 => ?_
  refine List.ext_getElem (by rw [s.cols _ (List.getElem_mem h1), t.cols _ (List.getElem_mem h2)]) fun q h3 h4 => ?_
  have := h p q (by rw [← s.rows]; exact h1) (by rw [← s.cols _ (List.getElem_mem h1)]; exact h3)
  unfold at2 at this
  rw [List.getD_eq_getElem?_getD, List.getD_eq_getElem?_getD, List.getD_eq_getElem?_getD, List.getD_eq_getElem?_getD, List.getElem?_eq_getElem h1, List.getElem?_eq_getElem h2, Option.getD_some, Option.getD_some, List.getElem?_eq_getElem h3, List.getElem?_eq_getElem h4] at this
  exact this
/-- rows that tell a table: each end once -/
structure Tells (n : Nat) (T : Tab) (ts : List Trip) : Prop where
  inn : ∀ t ∈ ts, InN n t
  nd : (ts.map keyT2).Nodup
  is : ∀ t ∈ ts, at2 T t.1.toNat t.2.1.toNat = some t.2.2
  all : ∀ p q c, p < n → q < n → at2 T p q = some c → ∃ t ∈ ts, keyT2 t = (p, q) ∧ t.2.2 = c
  pos : ∀ t ∈ ts, In2 n t
/-- other ends ahead of them do not matter -/
theorem Tells.made {n : Nat} {T : Tab} {ts us : List Trip} (h : Tells n T ts) (sq : Sq n T) (hu : ∀ u ∈ us, InN n u ∧ keyT2 u ∈ ts.map keyT2) : setTs n (us ++ ts) = T := by
  have s0 : Sq n (us.foldl setT (emptyT n)) := Sq.foldT .empty
  refine Sq.ext2 Sq.setTs sq fun p q hp hq => ?_
  unfold setTs
  rw [List.foldl_append]
  cases e : at2 T p q with
  | some c => exact fold_in s0 h.inn h.nd (h.all p q c hp hq e)
  | none =>
    have nk : (p, q) ∉ ts.map keyT2 := fun z => by
      obtain ⟨t, ht, ek⟩ := List.mem_map.mp z
      have := h.is t ht
      have e1 : t.1.toNat = p := congrArg Prod.fst ek
      have e2 : t.2.1.toNat = q := congrArg Prod.snd ek
      rw [e1, e2, e] at this
      cases this
    rw [fold_not s0 h.inn nk, fold_not .empty (fun u hu' => (hu u hu').1) (fun z => by
      obtain ⟨u, hu', ek⟩ := List.mem_map.mp z
      exact nk (ek ▸ (hu u hu').2)), at2_empty]
end L3
set_option Elab.async false
set_option linter.all false
set_option maxRecDepth 100000
set_option maxHeartbeats 4000000
namespace L3
open PySem PySem.Spec PyProof.Rows L2
end L3
set_option Elab.async false
set_option linter.all false
set_option maxRecDepth 100000
set_option maxHeartbeats 4000000
namespace L3
open PySem PySem.Spec PyProof.Rows L2
theorem op_neO {n : Str} {sp : Sp3} {x c : D} {M : Mp} {Q : VK3} : oNeO n sp x c M Q = (((asIn n M c fun _ _ => True) ∨ asStr (tyN M c) fun T => T ∈ bTys) ∧ asIn n M x fun a _ => sp [.ref a, c] M (fun v M2 => asB v fun k => Q (.bl (!k)) M2) X0) := rfl
section
variable {sq : Sp3} {o e p o' e' p' : Addr} {as as' : List Addr} {w w' : Nat} {T T' : Tab} {ps ps' : List Past} {M : Mp} {Q : VK3}
theorem eqO_l (k : SEqL sq) (lp : Lp M o e p as w T ps) (lp' : Lp M o' e' p' as' w' T' ps') (hw : w ≤ 40) (hw' : w' ≤ 40) (q : Q (.bl (decide (T = T'))) M) : oEqO "Loop" sq (.ref o) (.ref o') M Q := by
  rw [op_eqO]
  refine ⟨.inl (asIn_at lp'.ob trivial), ?_⟩
  rw [asIn_ref lp.ob]
  refine k.l _ _ _ _ _ _ _ _ _ _ _ _ _ _ _ _ _ lp lp' hw hw' ?_
  exact q
theorem neO_l (k : SEqL sq) (lp : Lp M o e p as w T ps) (lp' : Lp M o' e' p' as' w' T' ps') (hw : w ≤ 40) (hw' : w' ≤ 40) (q : Q (.bl (!decide (T = T'))) M) : oNeO "Loop" sq (.ref o) (.ref o') M Q := by
  rw [op_neO]
  refine ⟨.inl (asIn_at lp'.ob trivial), ?_⟩
  rw [asIn_ref lp.ob]
  refine k.l _ _ _ _ _ _ _ _ _ _ _ _ _ _ _ _ _ lp lp' hw hw' ?_
  exact q
theorem eqO_n {d : D} {t : String} (k : SEqL sq) (lp : Lp M o e p as w T ps) (ht : tyN M d = some t) (hm : t ∈ bTys) (q : Q (.bl false) M) : oEqO "Loop" sq (.ref o) d M Q := by
  rw [op_eqO]
  refine ⟨.inr (by rw [ht, asStr_some]; exact hm), ?_⟩
  rw [asIn_ref lp.ob]
  refine k.n _ _ _ _ _ _ _ _ _ _ _ _ lp ht hm ?_
  exact q
theorem neO_n {d : D} {t : String} (k : SEqL sq) (lp : Lp M o e p as w T ps) (ht : tyN M d = some t) (hm : t ∈ bTys) (q : Q (.bl true) M) : oNeO "Loop" sq (.ref o) d M Q := by
  rw [op_neO]
  refine ⟨.inr (by rw [ht, asStr_some]; exact hm), ?_⟩
  rw [asIn_ref lp.ob]
  refine k.n _ _ _ _ _ _ _ _ _ _ _ _ lp ht hm ?_
  exact q
end
/-- a loop made -/
theorem init_new {si : Sp3} (k : SInitL si) {w : Nat} {ts : List Trip} {M : Mp} {K : Addr → Mp → Prop} (hw : w ≤ 400) (ht : ∀ t ∈ ts, In2 (2 * (w : Int) + 1) t)
    (q : ∀ o e p as M', Lp M' o e p as w (setTs (2 * w + 1) ts) [] → (∀ b ∈ o :: e :: p :: as, M b = none) → Le M M' → K o M') (a : Addr) (ha : M a = none) :
    si [.ref a, .int w, .tup (ts.map tripD)] (mset M a (.ins "Loop" [])) (fun v M2 => v = .non ∧ K a M2) X0 := by
  refine k _ w ts _ _ _ mset_same hw ht fun e p as M' lp ne np na kp => ⟨rfl, q a e p as M' lp ?_ ?_⟩
  · have old : ∀ b, mset M a (.ins "Loop" []) b = none → M b = none := fun b hb => by
      by_cases h : b = a
      · rw [h]; exact ha
      · rw [mset_ne h] at hb; exact hb
    intro b hb
    simp only [List.mem_cons] at hb
    rcases hb with rfl | rfl | rfl | hb
    · exact ha
    · exact old _ ne
    · exact old _ np
    · exact old _ (na _ hb)
  · intro b u hu
    have hne : b ≠ a := ne_m hu ha
    exact kp b u hne (by rw [mset_ne hne]; exact hu)
def HoleS (f : Str → Str) : Prop := ∃ A B : Str, ∀ x, f x = A ++ x ++ B
theorem HoleS.inj {f : Str → Str} (h : HoleS f) {x y : Str} (e : f x = f y) : x = y := by
  obtain ⟨A, B, h⟩ := h
  rw [h, h] at e
  have e2 := congrArg (fun s : Str => s.cps.toList) e
  simp only [Str.cps_append, Array.toList_append] at e2
  have e3 := List.append_cancel_right e2
  have e4 := List.append_cancel_left e3
  exact Str.ext' (Array.toList_inj.mp e4)
theorem HoleS.comp {f g : Str → Str} (hf : HoleS f) (hg : HoleS g) : HoleS fun x => f (g x) := by
  obtain ⟨A, B, hf⟩ := hf
  obtain ⟨C, D, hg⟩ := hg
  refine ⟨A ++ C, D ++ B, fun x => ?_⟩
  show f (g x) = _
  rw [hf, hg]
  simp only [Str.append_assoc]
theorem join_hole (sep : Str) (l2 : List Str) : ∀ l1 : List Str, HoleS fun x => Str.join sep (l1 ++ x :: l2)
  | [] => by
    cases l2 with
    | nil => exact ⟨Str.empty, Str.empty, fun x => by rw [Str.empty_append, Str.append_empty]; rfl⟩
    | cons y r => exact ⟨Str.empty, sep ++ Str.join sep (y :: r), fun x => by rw [Str.empty_append, ← Str.append_assoc]; rfl⟩
  | [a] => by
    obtain ⟨A, B, h⟩ := join_hole sep l2 []
    refine ⟨a ++ sep ++ A, B, fun x => ?_⟩
    show a ++ sep ++ Str.join sep ([] ++ x :: l2) = _
    have h := h x
    dsimp only at h
    rw [h]
    simp only [Str.append_assoc]
  | a :: b :: l => by
    obtain ⟨A, B, h⟩ := join_hole sep l2 (b :: l)
    refine ⟨a ++ sep ++ A, B, fun x => ?_⟩
    show a ++ sep ++ Str.join sep ((b :: l) ++ x :: l2) = _
    have h := h x
    dsimp only at h
    rw [h]
    simp only [Str.append_assoc]
theorem tuple_hole (l1 l2 : List Str) : HoleS fun x => tupleText (l1 ++ x :: l2) := by
  obtain ⟨A, B, h⟩ := join_hole ", " l2 l1
  refine ⟨("(" : Str) ++ A, B ++ (if (l1.length + (l2.length + 1)) == 1 then (",)" : Str) else (")" : Str)), fun x => ?_⟩
  have h := h x
  dsimp only at h
  have hl : (l1 ++ x :: l2).length = l1.length + (l2.length + 1) := by rw [List.length_append, List.length_cons]
  show tupleText (l1 ++ x :: l2) = _
  unfold tupleText
  rw [h, hl]
  cases (l1.length + (l2.length + 1)) == 1 <;> simp only [Str.append_assoc] <;> rfl
theorem shown_all : ∀ ds : List D, PyData.shownAll (pdsOf ds) = ds.map shown
  | [] => rfl
  | d :: ds => by
    show PyData.shownAll (pdOf d :: pdsOf ds) = _
    rw [PyData.shownAll, shown_all ds]; rfl
theorem shown_tup {ds : List D} : shown (.tup ds) = tupleText (ds.map shown) := by
  show PyData.shown (.tuple (pdsOf ds)) = _
  rw [PyData.shown, shown_all]
theorem set_parts {α : Type} {l : List α} {i : Nat} {x : α} (h : i < l.length) : l.set i x = l.take i ++ x :: l.drop (i + 1) := by
  rw [List.set_eq_take_append_cons_drop, if_pos h]
/-- a table shown with one end put -/
theorem shown_put {n p q : Nat} {T : Tab} (sq : Sq n T) (hp : p < n) (hq : q < n) : ∃ f, HoleS f ∧ ∀ x, shown (tabD (putT T p q x)) = f (shown (oD x)) := by
  have hp' : p < T.length := by rw [sq.rows]; exact hp
  have hg : T.getD p [] = T[p] := by rw [List.getD_eq_getElem?_getD, List.getElem?_eq_getElem hp']; rfl
  have hq' : q < T[p].length := by rw [sq.cols _ (List.getElem_mem hp')]; exact hq
  refine ⟨_, (tuple_hole ((T.take p).map fun r => shown (rowD r)) ((T.drop (p + 1)).map fun r => shown (rowD r))).comp (tuple_hole ((T[p].take q).map fun e => shown (oD e)) ((T[p].drop (q + 1)).map fun e => shown (oD e))), fun x => ?_⟩
  unfold putT
  rw [hg, set_parts hp', set_parts hq']
  show shown (.tup _) = _
  rw [shown_tup, List.map_map, List.map_append, List.map_cons]
  congr 1
  show _ ++ shown (.tup _) :: _ = _
  rw [shown_tup, List.map_map, List.map_append, List.map_cons]
  rfl
theorem five_fin : ∀ k : Fin 199, itS ((k.val : Int) - 99) = itS 5 → (k.val : Int) - 99 = 5 := by decide +kernel
theorem five_non : ¬ (("None" : Str) = itS 5) := by decide +kernel
/-- five and what stands there otherwise -/
def otherE (e : Ed) : Ed := if e = some 5 then none else some 5
theorem otherE_shown {e : Ed} (h : EdB 100 e) : shown (oD (otherE e)) ≠ shown (oD e) := by
  unfold otherE
  by_cases he : e = some 5
  · rw [if_pos he, he]
    exact five_non
  · rw [if_neg he]
    intro z
    cases e with
    | none => exact five_non z.symm
    | some i =>
      have hi := h i rfl
      have z : itS 5 = itS i := z
      have f := five_fin ⟨(i + 99).toNat, by omega⟩
      have g : (((i + 99).toNat : Nat) : Int) - 99 = i := by omega
      dsimp only at f
      rw [g] at f
      exact he (by rw [f z.symm])
theorem otherE_b {e : Ed} : EdB 100 (otherE e) := by
  unfold otherE
  split
  · intro i hi; cases hi
  · intro i hi; cases hi; decide
theorem put_other {n p q : Nat} {T : Tab} (sq : Sq n T) (hp : p < n) (hq : q < n) (en : Ends 100 T) (hE : EdB 100 (at2 T p q)) : shown (tabD (putT T p q (otherE (at2 T p q)))) ≠ shown (tabD T) := by
  obtain ⟨f, hf, h⟩ := shown_put sq hp hq
  intro z
  have h2 := h (at2 T p q)
  rw [put_same sq hp hq] at h2
  rw [h, h2] at z
  exact otherE_shown hE (hf.inj z)
theorem put_back {n p q : Nat} {T : Tab} {x : Ed} (sq : Sq n T) (hp : p < n) (hq : q < n) : putT (putT T p q x) p q (at2 T p q) = T := by
  have hp' : p < T.length := by rw [sq.rows]; exact hp
  have e : ∀ y, putT (putT T p q x) p q y = putT T p q y := fun y => by
    unfold putT
    rw [List.getD_eq_getElem?_getD, List.getD_eq_getElem?_getD, List.getElem?_set_self hp', List.set_set, Option.getD_some, List.set_set]
  rw [e, put_same sq hp hq]
structure NewsIs (w : Nat) (F T : Tab) (d : D) : Prop where
  row : RowIs 100 (2 * w + 1) [(T, allN w), (F, placesN w 0)] (keptNews w) d
theorem keptNews_lt {w : Nat} : ∀ p ∈ keptNews w, p < 2 * w + 1 := fun p hp => by
  unfold keptNews at hp
  rcases List.mem_append.mp hp with h | h
  · have := rgN_mem.mp h; omega
  · rw [List.mem_singleton] at h; omega
theorem NewsIs.uniq {w : Nat} {F T : Tab} {d d' : D} (h : NewsIs w F T d) (h' : NewsIs w F T d') : d = d' := RowIs.uniq keptNews_lt h.row h'.row
theorem NewsIs.top {w : Nat} {F T : Tab} {d : D} (h : NewsIs w F T d) {M : Mp} : L3.top M d = d := h.row.top
theorem NewsIs.sh {w : Nat} {F T : Tab} {d : D} (h : NewsIs w F T d) (w3 : w ≤ 3) : Sh d := by
  have kl : (keptNews w).length ≤ 100 := by unfold keptNews; rw [List.length_append, rgN_len]; show w + 1 ≤ 100; omega
  exact h.row.sh (Nat.le_trans (Nat.mul_le_mul_right _ (Nat.pow_le_pow_right (by decide) (show 2 * w + 1 ≤ 7 by omega))) (Nat.le_trans (show 2 ^ 7 * 100 ≤ 10 ^ 40 by decide) (Nat.pow_le_pow_right (by decide) (by decide)))) kl
theorem news_is {sn : Sp3} (kn : SNews sn) {w : Nat} {F T : Tab} (w3 : w ≤ 3) (tF : TabB 100 (w + 1) F) (tT : TabB 100 (2 * w + 1) T) {K : D → Prop} {E : XK3} (q : ∀ d, NewsIs w F T d → K d) : sn [tabD F, tabD T] M0 (fun d _ => K d) E :=
  kn.t w 100 F T _ _ (by omega) tF tT (by decide) fun X d _ hX hd => q d ⟨X, hX, hd⟩
theorem three_tm {w : Nat} {T F : Tab} {ts : List Trip} (w3 : w ≤ 3) (tT : TabB 100 (2 * w + 1) T) (tF : TabB 100 (w + 1) F) (ht : ∀ t ∈ ts, In2 (2 * (w : Int) + 1) t ∧ t.2.2.natAbs < 13) (hl : ts.length ≤ 100) :
    Sh (.tup [tabD T, tabD F, .tup (ts.map tripD)]) := by
  have b : (1000 : Nat) ≤ 10 ^ 100 := Nat.le_trans (show 1000 ≤ 10 ^ 3 by decide) (Nat.pow_le_pow_right (by decide) (by decide))
  have hn : (2 * w + 1) * (2 * w + 1 + 1) ≤ 7 * 8 := Nat.mul_le_mul (by omega) (by omega)
  have hm : (w + 1) * (w + 1 + 1) ≤ 4 * 5 := Nat.mul_le_mul (by omega) (by omega)
  have h1 : Tm 2 400 (tabD T) := (Tm.tab tT (by omega)).mono (Nat.le_refl _) (by omega)
  have h2 : Tm 2 400 (tabD F) := (Tm.tab tF (by omega)).mono (Nat.le_refl _) (by omega)
  have h3 : Tm 2 400 (.tup (ts.map tripD)) := Tm.tup (h := 1) (n := 3) (m := 100) (fun d hd => by
    obtain ⟨t, hm, rfl⟩ := List.mem_map.mp hd
    obtain ⟨⟨a, b1, c, d1⟩, e⟩ := ht t hm
    exact tm_trip (by omega) (by omega) (by omega)) (by rw [List.length_map]; exact hl)
  refine (Tm.tup (h := 2) (n := 400) (m := 3) (fun d hd => ?_) (by show 3 ≤ 3; omega)).fits (by decide) (by decide)
  simp only [List.mem_cons, List.not_mem_nil, or_false] at hd
  rcases hd with rfl | rfl | rfl
  · exact h1
  · exact h2
  · exact h3
theorem setTs_ends {B n : Nat} {ts : List Trip} (h : ∀ t ∈ ts, t.2.2.natAbs < B) : Ends B (L3.setTs n ts) := Ends.setTs h
end L3
set_option Elab.async false
set_option linter.all false
set_option maxRecDepth 100000
set_option maxHeartbeats 4000000
namespace W
open PySem PySem.Spec PyProof.Rows L2 L3
def top (i : Nat) : PySem.Stmt := PySem.Challenge.pw_everturns_k98_loops_and_other_things.main.body.getD i (.Pass ⟨0, 0, 0, 0⟩)
section
variable {P : Program} {w : World} {K : PySem.W.Frag} {mg : PySem.Str → Option Value} {base : Heap}
abbrev s__wall : PySem.Stmt := top 0
abbrev N__wall : List PySem.Str := [("k" : PySem.Str)]
theorem sc__wall : FnScope N__wall [("k" : PySem.Str)] (defScope s__wall) := ⟨rfl, rfl, rfl, by decide +kernel, rfl, by decide +kernel, by decide +kernel⟩
def r__wall : XK3 → TS3 := fun E =>
  (wWhile (wB (wC (.bl true))) wNext)
def sp__wall : Sp3 := spOf 1 1 r__wall
theorem ok__wall {f : Addr} {fd : FuncData} (hm : mg ("_wall" : PySem.Str) = some (.ref f)) (F : Fun K ("_wall" : PySem.Str) ("_wall" : PySem.Str) s__wall f fd) (bd : Binds K fd [("k" : PySem.Str)] []) : Def3 P w K mg base (L2.CX P w) 1 ("_wall" : PySem.Str) sp__wall := by
  refine def_of (t := r__wall) hm F bd sc__wall ?_
  intro cdv A outer s H E bs E3 hG hr hE
  have hG : (A.deeper (envOfC ("_wall" : PySem.Str) (defScope s__wall) s.heap.objs.size f cdv)).guards = some [] := hG
  have hu := hr.units
  have hu2 := hu_more hr
  have nd := sc__wall.nd
  exact (ss_one (s_while (passes_of rfl) (t_val e_bl) (ss_one s_pass)))
abbrev s_joined : PySem.Stmt := top 2
abbrev N_joined : List PySem.Str := [("first" : PySem.Str), ("second" : PySem.Str)]
theorem sc_joined : FnScope N_joined [("first" : PySem.Str), ("second" : PySem.Str)] (defScope s_joined) := ⟨rfl, rfl, rfl, by decide +kernel, rfl, by decide +kernel, by decide +kernel⟩
def r_joined : XK3 → TS3 := fun E =>
  (wRet (wIf (wOr (wB (wOp (oIsN false) (wVar 0) (wC .non))) (wB (wOp (oIsN false) (wVar 1) (wC .non)))) (wC .non) (wOp oAddF (wVar 0) (wVar 1))))
def sp_joined : Sp3 := spOf 2 2 r_joined
theorem ok_joined {f : Addr} {fd : FuncData} (hm : mg ("joined" : PySem.Str) = some (.ref f)) (F : Fun K ("joined" : PySem.Str) ("joined" : PySem.Str) s_joined f fd) (bd : Binds K fd [("first" : PySem.Str), ("second" : PySem.Str)] []) : Def3 P w K mg base (L2.CX P w) 1 ("joined" : PySem.Str) sp_joined := by
  refine def_of (t := r_joined) hm F bd sc_joined ?_
  intro cdv A outer s H E bs E3 hG hr hE
  have hG : (A.deeper (envOfC ("joined" : PySem.Str) (defScope s_joined) s.heap.objs.size f cdv)).guards = some [] := hG
  have hu := hr.units
  have hu2 := hu_more hr
  have nd := sc_joined.nd
  exact (ss_one (s_ret (e_if (PW3.pt (t_or (t_cmp o_is (ev 0) e_non (nomark _)) (t_or1 (t_cmp o_is (ev 1) e_non (nomark _))))) e_non (e_op o_addF (ev 0) (ev 1)))))
abbrev s_lesser : PySem.Stmt := top 3
abbrev N_lesser : List PySem.Str := [("first" : PySem.Str), ("second" : PySem.Str)]
theorem sc_lesser : FnScope N_lesser [("first" : PySem.Str), ("second" : PySem.Str)] (defScope s_lesser) := ⟨rfl, rfl, rfl, by decide +kernel, rfl, by decide +kernel, by decide +kernel⟩
def r_lesser : XK3 → TS3 := fun E =>
  (wSeq (wIfS (wOr (wB (wOp (oIsN false) (wVar 0) (wC .non))) (wB (wOp (oIsN false) (wVar 1) (wC .non)))) (wRet (wIf (wB (wOp (oIsN false) (wVar 0) (wC .non))) (wVar 1) (wVar 0))) wNext)
  (wRet (wCB bMin (wCons (wVar 0) (wCons (wVar 1) wNil)))))
def sp_lesser : Sp3 := spOf 2 2 r_lesser
theorem ok_lesser {f : Addr} {fd : FuncData} (hm : mg ("lesser" : PySem.Str) = some (.ref f)) (F : Fun K ("lesser" : PySem.Str) ("lesser" : PySem.Str) s_lesser f fd) (bd : Binds K fd [("first" : PySem.Str), ("second" : PySem.Str)] []) (z_min : mg ("min" : PySem.Str) = none) : Def3 P w K mg base (L2.CX P w) 1 ("lesser" : PySem.Str) sp_lesser := by
  refine def_of (t := r_lesser) hm F bd sc_lesser ?_
  intro cdv A outer s H E bs E3 hG hr hE
  have hG : (A.deeper (envOfC ("lesser" : PySem.Str) (defScope s_lesser) s.heap.objs.size f cdv)).guards = some [] := hG
  have hu := hr.units
  have hu2 := hu_more hr
  have nd := sc_lesser.nd
  exact (ss_cons (s_if (PW3.pt (t_or (t_cmp o_is (ev 0) e_non (nomark _)) (t_or1 (t_cmp o_is (ev 1) e_non (nomark _))))) (ss_one (s_ret (e_if (t_cmp o_is (ev 0) e_non (nomark _)) (ev 1) (ev 0)))) ss_nil)
     (ss_one (s_ret (e_callB (c_min rfl) z_min (by decide +kernel) (a_cons (ev 0) (a_cons (ev 1) a_nil))))))
abbrev s_is_at_most : PySem.Stmt := top 4
abbrev N_is_at_most : List PySem.Str := [("first" : PySem.Str), ("second" : PySem.Str)]
theorem sc_is_at_most : FnScope N_is_at_most [("first" : PySem.Str), ("second" : PySem.Str)] (defScope s_is_at_most) := ⟨rfl, rfl, rfl, by decide +kernel, rfl, by decide +kernel, by decide +kernel⟩
def r_is_at_most : XK3 → TS3 := fun E =>
  (wRet (wOrV (wOp (oIsN false) (wVar 1) (wC .non)) (wAndV (wOp (oIsN true) (wVar 0) (wC .non)) (wOp oLe (wVar 0) (wVar 1)))))
def sp_is_at_most : Sp3 := spOf 2 2 r_is_at_most
theorem ok_is_at_most {f : Addr} {fd : FuncData} (hm : mg ("is_at_most" : PySem.Str) = some (.ref f)) (F : Fun K ("is_at_most" : PySem.Str) ("is_at_most" : PySem.Str) s_is_at_most f fd) (bd : Binds K fd [("first" : PySem.Str), ("second" : PySem.Str)] []) : Def3 P w K mg base (L2.CX P w) 1 ("is_at_most" : PySem.Str) sp_is_at_most := by
  refine def_of (t := r_is_at_most) hm F bd sc_is_at_most ?_
  intro cdv A outer s H E bs E3 hG hr hE
  have hG : (A.deeper (envOfC ("is_at_most" : PySem.Str) (defScope s_is_at_most) s.heap.objs.size f cdv)).guards = some [] := hG
  have hu := hr.units
  have hu2 := hu_more hr
  have nd := sc_is_at_most.nd
  exact (ss_one (s_ret (e_or (e_cmp o_is (ev 1) e_non (nomark _)) (e_one (e_and (e_cmp o_isnot (ev 0) e_non (nomark _)) (e_one (e_cmp o_le (ev 0) (ev 1) (nomark _))))))))
abbrev s_closed : PySem.Stmt := top 5
abbrev N_closed : List PySem.Str := [("table" : PySem.Str), ("points" : PySem.Str), ("ends" : PySem.Str), ("row" : PySem.Str), ("p" : PySem.Str), ("middle" : PySem.Str), ("q" : PySem.Str)]
theorem sc_closed : FnScope N_closed [("table" : PySem.Str)] (defScope s_closed) := ⟨rfl, rfl, rfl, by decide +kernel, rfl, by decide +kernel, by decide +kernel⟩
def r_closed (sp_lesser : Sp3) (sp_joined : Sp3) : XK3 → TS3 := fun E =>
  (wSeq (wSet 1 (wLstRgF1 (wCB bLen (wCons (wVar 0) wNil))))
  (wSeq (wSet 2 (wLcF (wItems (wVar 0)) (wgName 3) wYes (wCB bList (wCons (wVar 3) wNil)) [3]))
  (wSeq (wFor (wItems (wVar 1)) (wgName 4) (wAsg (wCallP sp_lesser E (wCons (wOp oIx (wOp oIx (wVar 2) (wVar 4)) (wVar 4)) (wCons (wC (.int 0)) wNil))) (wgSub (wOp oIx (wVar 2) (wVar 4)) (wVar 4) oPut)))
  (wSeq (wFor (wItems (wVar 1)) (wgName 5) (wFor (wItems (wVar 1)) (wgName 4) (wFor (wItems (wVar 1)) (wgName 6) (wAsg (wCallP sp_lesser E (wCons (wOp oIx (wOp oIx (wVar 2) (wVar 4)) (wVar 6)) (wCons (wCallP sp_joined E (wCons (wOp oIx (wOp oIx (wVar 2) (wVar 4)) (wVar 5)) (wCons (wOp oIx (wOp oIx (wVar 2) (wVar 5)) (wVar 6)) wNil))) wNil))) (wgSub (wOp oIx (wVar 2) (wVar 4)) (wVar 6) oPut)))))
  (wSeq (wIfS (wB (wCB bAnyF (wCons (wLcF (wItems (wVar 1)) (wgName 4) wYes (wOp oLt (wOp oIx (wOp oIx (wVar 2) (wVar 4)) (wVar 4)) (wC (.int 0))) [4]) wNil))) (wRet (wTup wNil)) wNext)
  (wRet (wCB bTuple (wCons (wLcF (wItems (wVar 2)) (wgName 3) wYes (wCB bTuple (wCons (wVar 3) wNil)) [3]) wNil))))))))
def sp_closed : Sp3 := spOf 1 7 (r_closed sp_lesser sp_joined)
theorem ok_closed {f : Addr} {fd : FuncData} (hm : mg ("closed" : PySem.Str) = some (.ref f)) (F : Fun K ("closed" : PySem.Str) ("closed" : PySem.Str) s_closed f fd) (bd : Binds K fd [("table" : PySem.Str)] []) (z_any : mg ("any" : PySem.Str) = none) (z_len : mg ("len" : PySem.Str) = none) (z_list : mg ("list" : PySem.Str) = none) (z_range : mg ("range" : PySem.Str) = none) (z_tuple : mg ("tuple" : PySem.Str) = none) (d_lesser : Def3 P w K mg base (L2.CX P w) 1 ("lesser" : PySem.Str) sp_lesser) (d_joined : Def3 P w K mg base (L2.CX P w) 1 ("joined" : PySem.Str) sp_joined) : Def3 P w K mg base (L2.CX P w) 2 ("closed" : PySem.Str) sp_closed := by
  refine def_of (t := (r_closed sp_lesser sp_joined)) hm F bd sc_closed ?_
  intro cdv A outer s H E bs E3 hG hr hE
  have hG : (A.deeper (envOfC ("closed" : PySem.Str) (defScope s_closed) s.heap.objs.size f cdv)).guards = some [] := hG
  have hu := hr.units
  have hu2 := hu_more hr
  have nd := sc_closed.nd
  exact (ss_cons (s_set (i := 1) nd rfl (by first | exact Or.inl rfl | exact Or.inr rfl) (e_listRgF1 rfl z_list z_range (e_callB c_len z_len (by decide +kernel) (a_cons (ev 0) a_nil))))
     (ss_cons (s_set (i := 2) nd rfl (by first | exact Or.inl rfl | exact Or.inr rfl) (e_lcF (own := [(("row" : PySem.Str), 3)]) (by decide) rfl nd (w_seq (ev 0)) (blkOk_by (N := N_closed) (sc := defScope s_closed) (by decide +kernel)) (fun _ _ _ _ _ => (g_name (i := 3) nd rfl (by first | exact Or.inl rfl | exact Or.inr rfl))) (fun _ _ _ _ _ => ts_nil) (fun _ _ _ _ _ => (e_callTy c_list z_list (by decide +kernel) (a_cons (ev 3) a_nil)))))
     (ss_cons (s_for (passes_of rfl) rfl (w_seq (ev 1)) (g_name (i := 4) nd rfl (by first | exact Or.inl rfl | exact Or.inr rfl)) (ss_one (s_asg (e_callP d_lesser hG (hr.mono (by decide)) (passXE hE) (a_cons (e_ix (e_ix (ev 2) (ev 4)) (ev 4)) (a_cons e_int a_nil))) (g_sub (e_ix (ev 2) (ev 4)) (ev 4) p_put))))
     (ss_cons (s_for (passes_of rfl) rfl (w_seq (ev 1)) (g_name (i := 5) nd rfl (by first | exact Or.inl rfl | exact Or.inr rfl)) (ss_one (s_for (passes_of rfl) rfl (w_seq (ev 1)) (g_name (i := 4) nd rfl (by first | exact Or.inl rfl | exact Or.inr rfl)) (ss_one (s_for (passes_of rfl) rfl (w_seq (ev 1)) (g_name (i := 6) nd rfl (by first | exact Or.inl rfl | exact Or.inr rfl)) (ss_one (s_asg (e_callP d_lesser hG (hr.mono (by decide)) (passXE hE) (a_cons (e_ix (e_ix (ev 2) (ev 4)) (ev 6)) (a_cons (e_callP d_joined hG (hr.mono (by decide)) (passXE hE) (a_cons (e_ix (e_ix (ev 2) (ev 4)) (ev 5)) (a_cons (e_ix (e_ix (ev 2) (ev 5)) (ev 6)) a_nil))) a_nil))) (g_sub (e_ix (ev 2) (ev 4)) (ev 6) p_put))))))))
     (ss_cons (s_if (t_val (e_callB (c_anyF rfl) z_any (by decide +kernel) (a_cons (e_lcF (own := [(("p" : PySem.Str), 4)]) (by decide) rfl nd (w_seq (ev 1)) (blkOk_by (N := N_closed) (sc := defScope s_closed) (by decide +kernel)) (fun _ _ _ _ _ => (g_name (i := 4) nd rfl (by first | exact Or.inl rfl | exact Or.inr rfl))) (fun _ _ _ _ _ => ts_nil) (fun _ _ _ _ _ => (e_cmp o_lt (e_ix (e_ix (ev 2) (ev 4)) (ev 4)) e_int (nomark _)))) a_nil))) (ss_one (s_ret (e_tup a_nil))) ss_nil)
     (ss_one (s_ret (e_callTy c_tuple z_tuple (by decide +kernel) (a_cons (e_lcF (own := [(("row" : PySem.Str), 3)]) (by decide) rfl nd (w_seq (ev 2)) (blkOk_by (N := N_closed) (sc := defScope s_closed) (by decide +kernel)) (fun _ _ _ _ _ => (g_name (i := 3) nd rfl (by first | exact Or.inl rfl | exact Or.inr rfl))) (fun _ _ _ _ _ => ts_nil) (fun _ _ _ _ _ => (e_callTy c_tuple z_tuple (by decide +kernel) (a_cons (ev 3) a_nil)))) a_nil)))))))))
abbrev s_is_met : PySem.Stmt := top 6
abbrev N_is_met : List PySem.Str := [("table" : PySem.Str), ("values" : PySem.Str), ("whole" : PySem.Str), ("p" : PySem.Str), ("row" : PySem.Str), ("q" : PySem.Str), ("end" : PySem.Str)]
theorem sc_is_met : FnScope N_is_met [("table" : PySem.Str), ("values" : PySem.Str)] (defScope s_is_met) := ⟨rfl, rfl, rfl, by decide +kernel, rfl, by decide +kernel, by decide +kernel⟩
def r_is_met (sp_is_at_most : Sp3) : XK3 → TS3 := fun E =>
  (wSeq (wIfS (wB (wOp (oEq false) (wVar 0) (wTup wNil))) (wRet (wC (.bl false))) wNext)
  (wSeq (wSet 2 (wOp oAddF (wCB bTuple (wCons (wVar 1) wNil)) (wTup (wCons (wC (.int 0)) wNil))))
  (wSeq (wFor (wEnum (wCons (wVar 0) wNil)) (wgTupN 2 (wgCons (wgName 3) (wgCons (wgName 4) wgNil))) (wIfS (wNot (wB (wCB bAllF (wCons (wLcF (wEnum (wCons (wVar 4) wNil)) (wgTupN 2 (wgCons (wgName 5) (wgCons (wgName 6) wgNil))) wYes (wCallP sp_is_at_most X0 (wCons (wOp oSub (wOp oIx (wVar 2) (wVar 3)) (wOp oIx (wVar 2) (wVar 5))) (wCons (wVar 6) wNil))) [5, 6]) wNil)))) (wRet (wC (.bl false))) wNext))
  (wRet (wC (.bl true))))))
def sp_is_met : Sp3 := spOf 2 7 (r_is_met sp_is_at_most)
theorem ok_is_met {f : Addr} {fd : FuncData} (hm : mg ("is_met" : PySem.Str) = some (.ref f)) (F : Fun K ("is_met" : PySem.Str) ("is_met" : PySem.Str) s_is_met f fd) (bd : Binds K fd [("table" : PySem.Str), ("values" : PySem.Str)] []) (z_all : mg ("all" : PySem.Str) = none) (z_enumerate : mg ("enumerate" : PySem.Str) = none) (z_tuple : mg ("tuple" : PySem.Str) = none) (d_is_at_most : Def3 P w K mg base (L2.CX P w) 1 ("is_at_most" : PySem.Str) sp_is_at_most) : Def3 P w K mg base (L2.CX P w) 2 ("is_met" : PySem.Str) sp_is_met := by
  refine def_of (t := (r_is_met sp_is_at_most)) hm F bd sc_is_met ?_
  intro cdv A outer s H E bs E3 hG hr hE
  have hG : (A.deeper (envOfC ("is_met" : PySem.Str) (defScope s_is_met) s.heap.objs.size f cdv)).guards = some [] := hG
  have hu := hr.units
  have hu2 := hu_more hr
  have nd := sc_is_met.nd
  exact (ss_cons (s_if (t_cmp (o_eq hu) (ev 0) (e_tup a_nil) (nomark _)) (ss_one (s_ret e_bl)) ss_nil)
     (ss_cons (s_set (i := 2) nd rfl (by first | exact Or.inl rfl | exact Or.inr rfl) (e_op o_addF (e_callTy c_tuple z_tuple (by decide +kernel) (a_cons (ev 1) a_nil)) (e_tup (a_cons e_int a_nil))))
     (ss_cons (s_for (passes_of rfl) rfl (w_enum z_enumerate (a_cons (ev 0) a_nil)) (g_tupN rfl (gs_cons (g_name (i := 3) nd rfl (by first | exact Or.inl rfl | exact Or.inr rfl)) (gs_cons (g_name (i := 4) nd rfl (by first | exact Or.inl rfl | exact Or.inr rfl)) gs_nil))) (ss_one (s_if (t_not (t_val (e_callB (c_allF rfl) z_all (by decide +kernel) (a_cons (e_lcF (own := [(("q" : PySem.Str), 5), (("end" : PySem.Str), 6)]) (by decide) rfl nd (w_enum z_enumerate (a_cons (ev 4) a_nil)) (blkOk_by (N := N_is_met) (sc := defScope s_is_met) (by decide +kernel)) (fun _ _ _ _ _ => (g_tupN rfl (gs_cons (g_name (i := 5) nd rfl (by first | exact Or.inl rfl | exact Or.inr rfl)) (gs_cons (g_name (i := 6) nd rfl (by first | exact Or.inl rfl | exact Or.inr rfl)) gs_nil)))) (fun _ _ _ _ _ => ts_nil) (fun _ _ _ _ _ => (e_callP d_is_at_most hG (hr.mono (by decide)) passX1 (a_cons (e_op o_sub (e_ix (ev 2) (ev 3)) (e_ix (ev 2) (ev 5))) (a_cons (ev 6) a_nil))))) a_nil)))) (ss_one (s_ret e_bl)) ss_nil)))
     (ss_one (s_ret e_bl)))))
abbrev s_only : PySem.Stmt := top 7
abbrev N_only : List PySem.Str := [("table" : PySem.Str), ("points" : PySem.Str), ("whole" : PySem.Str), ("zero" : PySem.Str), ("kept" : PySem.Str), ("p" : PySem.Str), ("q" : PySem.Str)]
theorem sc_only : FnScope N_only [("table" : PySem.Str), ("points" : PySem.Str)] (defScope s_only) := ⟨rfl, rfl, rfl, by decide +kernel, rfl, by decide +kernel, by decide +kernel⟩
def r_only (sp_closed : Sp3) : XK3 → TS3 := fun E =>
  (wSeq (wSet 2 (wCallP sp_closed E (wCons (wVar 0) wNil)))
  (wSeq (wIfS (wB (wOp (oEq false) (wVar 2) (wTup wNil))) (wRet (wTup wNil)) wNext)
  (wSeq (wSet 3 (wOp oSub (wCB bLen (wCons (wVar 2) wNil)) (wC (.int 1))))
  (wSeq (wSet 4 (wOp oAddF (wLcF (wItems (wVar 1)) (wgName 5) (wB (wOp (oEq true) (wVar 5) (wVar 3))) (wVar 5) [5]) (wLstF (wCons (wVar 3) wNil))))
  (wRet (wCB bTuple (wCons (wLcF (wItems (wVar 4)) (wgName 5) wYes (wCB bTuple (wCons (wLcF (wItems (wVar 4)) (wgName 6) wYes (wOp oIx (wOp oIx (wVar 2) (wVar 5)) (wVar 6)) [6]) wNil)) [5]) wNil)))))))
def sp_only : Sp3 := spOf 2 7 (r_only sp_closed)
theorem ok_only {f : Addr} {fd : FuncData} (hm : mg ("only" : PySem.Str) = some (.ref f)) (F : Fun K ("only" : PySem.Str) ("only" : PySem.Str) s_only f fd) (bd : Binds K fd [("table" : PySem.Str), ("points" : PySem.Str)] []) (z_len : mg ("len" : PySem.Str) = none) (z_tuple : mg ("tuple" : PySem.Str) = none) (d_closed : Def3 P w K mg base (L2.CX P w) 2 ("closed" : PySem.Str) sp_closed) : Def3 P w K mg base (L2.CX P w) 3 ("only" : PySem.Str) sp_only := by
  refine def_of (t := (r_only sp_closed)) hm F bd sc_only ?_
  intro cdv A outer s H E bs E3 hG hr hE
  have hG : (A.deeper (envOfC ("only" : PySem.Str) (defScope s_only) s.heap.objs.size f cdv)).guards = some [] := hG
  have hu := hr.units
  have hu2 := hu_more hr
  have nd := sc_only.nd
  exact (ss_cons (s_set (i := 2) nd rfl (by first | exact Or.inl rfl | exact Or.inr rfl) (e_callP d_closed hG (hr.mono (by decide)) (passXE hE) (a_cons (ev 0) a_nil)))
     (ss_cons (s_if (t_cmp (o_eq hu) (ev 2) (e_tup a_nil) (nomark _)) (ss_one (s_ret (e_tup a_nil))) ss_nil)
     (ss_cons (s_set (i := 3) nd rfl (by first | exact Or.inl rfl | exact Or.inr rfl) (e_op o_sub (e_callB c_len z_len (by decide +kernel) (a_cons (ev 2) a_nil)) e_int))
     (ss_cons (s_set (i := 4) nd rfl (by first | exact Or.inl rfl | exact Or.inr rfl) (e_op o_addF (e_lcF (own := [(("p" : PySem.Str), 5)]) (by decide) rfl nd (w_seq (ev 1)) (blkOk_by (N := N_only) (sc := defScope s_only) (by decide +kernel)) (fun _ _ _ _ _ => (g_name (i := 5) nd rfl (by first | exact Or.inl rfl | exact Or.inr rfl))) (fun _ _ _ _ _ => (ts_one (t_cmp (o_ne hu) (ev 5) (ev 3) (nomark _)))) (fun _ _ _ _ _ => (ev 5))) (e_lstF (a_cons (ev 3) a_nil))))
     (ss_one (s_ret (e_callTy c_tuple z_tuple (by decide +kernel) (a_cons (e_lcF (own := [(("p" : PySem.Str), 5)]) (by decide) rfl nd (w_seq (ev 4)) (blkOk_by (N := N_only) (sc := defScope s_only) (by decide +kernel)) (fun _ _ _ _ _ => (g_name (i := 5) nd rfl (by first | exact Or.inl rfl | exact Or.inr rfl))) (fun _ _ _ _ _ => ts_nil) (fun _ _ _ _ _ => (e_callTy c_tuple z_tuple (by decide +kernel) (a_cons (e_lcF (own := [(("q" : PySem.Str), 6)]) (by decide) rfl nd (w_seq (ev 4)) (blkOk_by (N := N_only) (by rfl)) (fun _ _ _ _ _ => (g_name (i := 6) nd rfl (by first | exact Or.inl rfl | exact Or.inr rfl))) (fun _ _ _ _ _ => ts_nil) (fun _ _ _ _ _ => (e_ix (e_ix (ev 2) (ev 5)) (ev 6)))) a_nil)))) a_nil))))))))
abbrev s_put_together : PySem.Stmt := top 9
abbrev N_put_together : List PySem.Str := [("many" : PySem.Str), ("parts" : PySem.Str), ("rows" : PySem.Str), ("k" : PySem.Str), ("table" : PySem.Str), ("places" : PySem.Str), ("p" : PySem.Str), ("row" : PySem.Str), ("q" : PySem.Str), ("end" : PySem.Str)]
theorem sc_put_together : FnScope N_put_together [("many" : PySem.Str), ("parts" : PySem.Str)] (defScope s_put_together) := ⟨rfl, rfl, rfl, by decide +kernel, rfl, by decide +kernel, by decide +kernel⟩
def r_put_together (sp_lesser : Sp3) : XK3 → TS3 := fun E =>
  (wSeq (wSet 2 (wLcF (wRng1 (wCons (wVar 0) wNil)) (wgName 3) wYes (wRep (wC .non) (wVar 0)) [3]))
  (wSeq (wFor (wItems (wVar 1)) (wgTupN 2 (wgCons (wgName 4) (wgCons (wgName 5) wgNil))) (wFor (wEnum (wCons (wVar 4) wNil)) (wgTupN 2 (wgCons (wgName 6) (wgCons (wgName 7) wgNil))) (wFor (wEnum (wCons (wVar 7) wNil)) (wgTupN 2 (wgCons (wgName 8) (wgCons (wgName 9) wgNil))) (wAsg (wCallP sp_lesser E (wCons (wOp oIx (wOp oIx (wVar 2) (wOp oIx (wVar 5) (wVar 6))) (wOp oIx (wVar 5) (wVar 8))) (wCons (wVar 9) wNil))) (wgSub (wOp oIx (wVar 2) (wOp oIx (wVar 5) (wVar 6))) (wOp oIx (wVar 5) (wVar 8)) oPut)))))
  (wRet (wCB bTuple (wCons (wLcF (wItems (wVar 2)) (wgName 7) wYes (wCB bTuple (wCons (wVar 7) wNil)) [7]) wNil)))))
def sp_put_together : Sp3 := spOf 2 10 (r_put_together sp_lesser)
theorem ok_put_together {f : Addr} {fd : FuncData} (hm : mg ("put_together" : PySem.Str) = some (.ref f)) (F : Fun K ("put_together" : PySem.Str) ("put_together" : PySem.Str) s_put_together f fd) (bd : Binds K fd [("many" : PySem.Str), ("parts" : PySem.Str)] []) (z_enumerate : mg ("enumerate" : PySem.Str) = none) (z_range : mg ("range" : PySem.Str) = none) (z_tuple : mg ("tuple" : PySem.Str) = none) (d_lesser : Def3 P w K mg base (L2.CX P w) 1 ("lesser" : PySem.Str) sp_lesser) : Def3 P w K mg base (L2.CX P w) 2 ("put_together" : PySem.Str) sp_put_together := by
  refine def_of (t := (r_put_together sp_lesser)) hm F bd sc_put_together ?_
  intro cdv A outer s H E bs E3 hG hr hE
  have hG : (A.deeper (envOfC ("put_together" : PySem.Str) (defScope s_put_together) s.heap.objs.size f cdv)).guards = some [] := hG
  have hu := hr.units
  have hu2 := hu_more hr
  have nd := sc_put_together.nd
  exact (ss_cons (s_setLcF (i := 2) (own := [(("k" : PySem.Str), 3)]) (by decide) rfl nd rfl rfl (sw_true rfl rfl rfl (by decide +kernel)) (w_rng1 z_range (a_cons (ev 0) a_nil)) (blkOk_by (N := N_put_together) (sc := defScope s_put_together) (by decide +kernel)) (fun _ _ _ _ _ => (g_name (i := 3) nd rfl (by first | exact Or.inl rfl | exact Or.inr rfl))) (fun _ _ _ _ _ => ts_nil) (fun _ _ _ _ _ => (e_rep e_non (ev 0))))
     (ss_cons (s_for (passes_of rfl) rfl (w_seq (ev 1)) (g_tupN rfl (gs_cons (g_name (i := 4) nd rfl (by first | exact Or.inl rfl | exact Or.inr rfl)) (gs_cons (g_name (i := 5) nd rfl (by first | exact Or.inl rfl | exact Or.inr rfl)) gs_nil))) (ss_one (s_for (passes_of rfl) rfl (w_enum z_enumerate (a_cons (ev 4) a_nil)) (g_tupN rfl (gs_cons (g_name (i := 6) nd rfl (by first | exact Or.inl rfl | exact Or.inr rfl)) (gs_cons (g_name (i := 7) nd rfl (by first | exact Or.inl rfl | exact Or.inr rfl)) gs_nil))) (ss_one (s_for (passes_of rfl) rfl (w_enum z_enumerate (a_cons (ev 7) a_nil)) (g_tupN rfl (gs_cons (g_name (i := 8) nd rfl (by first | exact Or.inl rfl | exact Or.inr rfl)) (gs_cons (g_name (i := 9) nd rfl (by first | exact Or.inl rfl | exact Or.inr rfl)) gs_nil))) (ss_one (s_asg (e_callP d_lesser hG (hr.mono (by decide)) (passXE hE) (a_cons (e_ix (e_ix (ev 2) (e_ix (ev 5) (ev 6))) (e_ix (ev 5) (ev 8))) (a_cons (ev 9) a_nil))) (g_sub (e_ix (ev 2) (e_ix (ev 5) (ev 6))) (e_ix (ev 5) (ev 8)) p_put))))))))
     (ss_one (s_ret (e_callTy c_tuple z_tuple (by decide +kernel) (a_cons (e_lcF (own := [(("row" : PySem.Str), 7)]) (by decide) rfl nd (w_seq (ev 2)) (blkOk_by (N := N_put_together) (sc := defScope s_put_together) (by decide +kernel)) (fun _ _ _ _ _ => (g_name (i := 7) nd rfl (by first | exact Or.inl rfl | exact Or.inr rfl))) (fun _ _ _ _ _ => ts_nil) (fun _ _ _ _ _ => (e_callTy c_tuple z_tuple (by decide +kernel) (a_cons (ev 7) a_nil)))) a_nil))))))
abbrev s_places_of : PySem.Stmt := top 10
abbrev N_places_of : List PySem.Str := [("width" : PySem.Str), ("first" : PySem.Str)]
theorem sc_places_of : FnScope N_places_of [("width" : PySem.Str), ("first" : PySem.Str)] (defScope s_places_of) := ⟨rfl, rfl, rfl, by decide +kernel, rfl, by decide +kernel, by decide +kernel⟩
def r_places_of : XK3 → TS3 := fun E =>
  (wRet (wOp oAddF (wLstRgF2 (wVar 1) (wOp oAddF (wVar 1) (wVar 0))) (wLstF (wCons (wOp oMulF (wC (.int 2)) (wVar 0)) wNil))))
def sp_places_of : Sp3 := spOf 2 2 r_places_of
theorem ok_places_of {f : Addr} {fd : FuncData} (hm : mg ("places_of" : PySem.Str) = some (.ref f)) (F : Fun K ("places_of" : PySem.Str) ("places_of" : PySem.Str) s_places_of f fd) (bd : Binds K fd [("width" : PySem.Str), ("first" : PySem.Str)] []) (z_list : mg ("list" : PySem.Str) = none) (z_range : mg ("range" : PySem.Str) = none) : Def3 P w K mg base (L2.CX P w) 1 ("places_of" : PySem.Str) sp_places_of := by
  refine def_of (t := r_places_of) hm F bd sc_places_of ?_
  intro cdv A outer s H E bs E3 hG hr hE
  have hG : (A.deeper (envOfC ("places_of" : PySem.Str) (defScope s_places_of) s.heap.objs.size f cdv)).guards = some [] := hG
  have hu := hr.units
  have hu2 := hu_more hr
  have nd := sc_places_of.nd
  exact (ss_one (s_ret (e_op o_addF (e_listRgF2 rfl z_list z_range (ev 1) (e_op o_addF (ev 1) (ev 0))) (e_lstF (a_cons (e_op o_mulF e_int (ev 0)) a_nil)))))
abbrev s_news : PySem.Stmt := top 11
abbrev N_news : List PySem.Str := [("field" : PySem.Str), ("step" : PySem.Str), ("width" : PySem.Str), ("table" : PySem.Str)]
theorem sc_news : FnScope N_news [("field" : PySem.Str), ("step" : PySem.Str)] (defScope s_news) := ⟨rfl, rfl, rfl, by decide +kernel, rfl, by decide +kernel, by decide +kernel⟩
def r_news (sp_put_together : Sp3) (sp_places_of : Sp3) (sp_only : Sp3) : XK3 → TS3 := fun E =>
  (wSeq (wIfS (wOr (wB (wOp (oEq false) (wVar 0) (wTup wNil))) (wB (wOp (oEq false) (wVar 1) (wTup wNil)))) (wRet (wTup wNil)) wNext)
  (wSeq (wSet 2 (wOp oFd (wCB bLen (wCons (wVar 1) wNil)) (wC (.int 2))))
  (wSeq (wSet 3 (wCallP sp_put_together E (wCons (wCB bLen (wCons (wVar 1) wNil)) (wCons (wLstF (wCons (wTup (wCons (wVar 1) (wCons (wLstRgF1 (wCB bLen (wCons (wVar 1) wNil))) wNil))) (wCons (wTup (wCons (wVar 0) (wCons (wCallP sp_places_of E (wCons (wVar 2) (wCons (wC (.int 0)) wNil))) wNil))) wNil))) wNil))))
  (wRet (wCallP sp_only E (wCons (wVar 3) (wCons (wTupRg2 (wVar 2) (wOp oMulF (wC (.int 2)) (wVar 2))) wNil)))))))
def sp_news : Sp3 := spOf 2 4 (r_news sp_put_together sp_places_of sp_only)
theorem ok_news {f : Addr} {fd : FuncData} (hm : mg ("news" : PySem.Str) = some (.ref f)) (F : Fun K ("news" : PySem.Str) ("news" : PySem.Str) s_news f fd) (bd : Binds K fd [("field" : PySem.Str), ("step" : PySem.Str)] []) (z_len : mg ("len" : PySem.Str) = none) (z_list : mg ("list" : PySem.Str) = none) (z_range : mg ("range" : PySem.Str) = none) (z_tuple : mg ("tuple" : PySem.Str) = none) (d_put_together : Def3 P w K mg base (L2.CX P w) 2 ("put_together" : PySem.Str) sp_put_together) (d_places_of : Def3 P w K mg base (L2.CX P w) 1 ("places_of" : PySem.Str) sp_places_of) (d_only : Def3 P w K mg base (L2.CX P w) 3 ("only" : PySem.Str) sp_only) : Def3 P w K mg base (L2.CX P w) 4 ("news" : PySem.Str) sp_news := by
  refine def_of (t := (r_news sp_put_together sp_places_of sp_only)) hm F bd sc_news ?_
  intro cdv A outer s H E bs E3 hG hr hE
  have hG : (A.deeper (envOfC ("news" : PySem.Str) (defScope s_news) s.heap.objs.size f cdv)).guards = some [] := hG
  have hu := hr.units
  have hu2 := hu_more hr
  have nd := sc_news.nd
  exact (ss_cons (s_if (PW3.pt (t_or (t_cmp (o_eq hu) (ev 0) (e_tup a_nil) (nomark _)) (t_or1 (t_cmp (o_eq hu) (ev 1) (e_tup a_nil) (nomark _))))) (ss_one (s_ret (e_tup a_nil))) ss_nil)
     (ss_cons (s_set (i := 2) nd rfl (by first | exact Or.inl rfl | exact Or.inr rfl) (e_op o_fd (e_callB c_len z_len (by decide +kernel) (a_cons (ev 1) a_nil)) e_int))
     (ss_cons (s_set (i := 3) nd rfl (by first | exact Or.inl rfl | exact Or.inr rfl) (e_callP d_put_together hG (hr.mono (by decide)) (passXE hE) (a_cons (e_callB c_len z_len (by decide +kernel) (a_cons (ev 1) a_nil)) (a_cons (e_lstF (a_cons (e_tup (a_cons (ev 1) (a_cons (e_listRgF1 rfl z_list z_range (e_callB c_len z_len (by decide +kernel) (a_cons (ev 1) a_nil))) a_nil))) (a_cons (e_tup (a_cons (ev 0) (a_cons (e_callP d_places_of hG (hr.mono (by decide)) (passXE hE) (a_cons (ev 2) (a_cons e_int a_nil))) a_nil))) a_nil))) a_nil))))
     (ss_one (s_ret (e_callP d_only hG (hr.mono (by decide)) (passXE hE) (a_cons (ev 3) (a_cons (e_tupRg2 rfl z_tuple z_range (ev 2) (e_op o_mulF e_int (ev 2))) a_nil))))))))
abbrev s_integers_of : PySem.Stmt := top 16
abbrev N_integers_of : List PySem.Str := [("ends" : PySem.Str), ("found" : PySem.Str), ("row" : PySem.Str), ("end" : PySem.Str)]
theorem sc_integers_of : FnScope N_integers_of [("ends" : PySem.Str)] (defScope s_integers_of) := ⟨rfl, rfl, rfl, by decide +kernel, rfl, by decide +kernel, by decide +kernel⟩
def r_integers_of : XK3 → TS3 := fun E =>
  (wSeq (wSet 1 (wLst wNil))
  (wSeq (wFor (wItems (wVar 0)) (wgName 2) (wDrop (wBM oExtF (wVar 1) (wCons (wLcF (wItems (wVar 2)) (wgName 3) (wB (wOp (oIsN true) (wVar 3) (wC .non))) (wVar 3) [3]) wNil))))
  (wRet (wFrz (wVar 1)))))
def sp_integers_of : Sp3 := spOf 1 4 r_integers_of
theorem ok_integers_of {f : Addr} {fd : FuncData} (hm : mg ("integers_of" : PySem.Str) = some (.ref f)) (F : Fun K ("integers_of" : PySem.Str) ("integers_of" : PySem.Str) s_integers_of f fd) (bd : Binds K fd [("ends" : PySem.Str)] []) : Def3 P w K mg base (L2.CX P w) 1 ("integers_of" : PySem.Str) sp_integers_of := by
  refine def_of (t := r_integers_of) hm F bd sc_integers_of ?_
  intro cdv A outer s H E bs E3 hG hr hE
  have hG : (A.deeper (envOfC ("integers_of" : PySem.Str) (defScope s_integers_of) s.heap.objs.size f cdv)).guards = some [] := hG
  have hu := hr.units
  have hu2 := hu_more hr
  have nd := sc_integers_of.nd
  exact (ss_cons (s_set (i := 1) nd rfl (by first | exact Or.inl rfl | exact Or.inr rfl) (e_lst a_nil))
     (ss_cons (s_for (passes_of rfl) rfl (w_seq (ev 0)) (g_name (i := 2) nd rfl (by first | exact Or.inl rfl | exact Or.inr rfl)) (ss_one (s_expr (e_extendF (ev 1) (e_lcF (own := [(("end" : PySem.Str), 3)]) (by decide) rfl nd (w_seq (ev 2)) (blkOk_by (N := N_integers_of) (sc := defScope s_integers_of) (by decide +kernel)) (fun _ _ _ _ _ => (g_name (i := 3) nd rfl (by first | exact Or.inl rfl | exact Or.inr rfl))) (fun _ _ _ _ _ => (ts_one (t_cmp o_isnot (ev 3) e_non (nomark _)))) (fun _ _ _ _ _ => (ev 3)))))))
     (ss_one (s_ret (e_frz (ev 1))))))
abbrev s__law_draws : PySem.Stmt := top 19
abbrev N__law_draws : List PySem.Str := [("_law_script" : PySem.Str), ("_law_great" : PySem.Str), ("_law_mixed" : PySem.Str), ("_law_cell" : PySem.Str)]
theorem sc__law_draws : FnScope N__law_draws [("_law_script" : PySem.Str)] (defScope s__law_draws) := ⟨rfl, rfl, rfl, by decide +kernel, rfl, by decide +kernel, by decide +kernel⟩
def r__law_draws : XK3 → TS3 := fun E =>
  (wSeq (wPar 1 2 (wCons (wC (.int 0)) (wCons (wOp oAddF (wC (.int 29150)) (wOp oMulF (wC (.int 31)) (wCB bLen (wCons (wVar 0) wNil)))) wNil)))
  (wSeq (wFor (wItems (wSlF (wVar 0) wNoPart (wPart (wC (.int 60))))) (wgName 3) (wSeq (wSet 2 (wOp oMd (wOp oAddF (wOp oAddF (wOp oAddF (wOp oMulF (wVar 2) (wC (.int 1000003))) (wOp oMulF (wC (.int 2)) (wCB bAbs (wCons (wVar 3) wNil)))) (wCB bInt (wCons (wOp oLt (wVar 3) (wC (.int 0))) wNil))) (wC (.int 17))) (wC (.int 2305843009213693951))))
  (wIfS (wB (wOp oGe (wCB bAbs (wCons (wVar 3) wNil)) (wOp oPw (wC (.int 10)) (wC (.int 18))))) (wSet 1 (wOp oAddF (wOp oMulF (wVar 1) (wC (.int 19))) (wCB bAbs (wCons (wVar 3) wNil)))) wNext)))
  (wRet (wLst (wCons (wVar 1) (wCons (wVar 2) (wCons (wC (.int 0)) wNil)))))))
def sp__law_draws : Sp3 := spOf 1 4 r__law_draws
theorem ok__law_draws {f : Addr} {fd : FuncData} (hm : mg ("_law_draws" : PySem.Str) = some (.ref f)) (F : Fun K ("_law_draws" : PySem.Str) ("_law_draws" : PySem.Str) s__law_draws f fd) (bd : Binds K fd [("_law_script" : PySem.Str)] []) (z_abs : mg ("abs" : PySem.Str) = none) (z_int : mg ("int" : PySem.Str) = none) (z_len : mg ("len" : PySem.Str) = none) : Def3 P w K mg base (L2.CX P w) 1 ("_law_draws" : PySem.Str) sp__law_draws := by
  refine def_of (t := r__law_draws) hm F bd sc__law_draws ?_
  intro cdv A outer s H E bs E3 hG hr hE
  have hG : (A.deeper (envOfC ("_law_draws" : PySem.Str) (defScope s__law_draws) s.heap.objs.size f cdv)).guards = some [] := hG
  have hu := hr.units
  have hu2 := hu_more hr
  have nd := sc__law_draws.nd
  exact (ss_cons (s_par (i := 1) (j := 2) rfl nd rfl rfl (by decide) rfl rfl (a_cons e_int (a_cons (e_op o_addF e_int (e_op o_mulF e_int (e_callB c_len z_len (by decide +kernel) (a_cons (ev 0) a_nil)))) a_nil)) rfl)
     (ss_cons (s_for (passes_of rfl) rfl (w_seq (e_sliceF (ev 0) p_none (p_some e_int))) (g_name (i := 3) nd rfl (by first | exact Or.inl rfl | exact Or.inr rfl)) (ss_cons (s_set (i := 2) nd rfl (by first | exact Or.inl rfl | exact Or.inr rfl) (e_op o_md (e_op o_addF (e_op o_addF (e_op o_addF (e_op o_mulF (ev 2) e_int) (e_op o_mulF e_int (e_callB c_abs z_abs (by decide +kernel) (a_cons (ev 3) a_nil)))) (e_callTy c_int z_int (by decide +kernel) (a_cons (e_cmp o_lt (ev 3) e_int (nomark _)) a_nil))) e_int) e_int))
     (ss_one (s_if (t_cmp o_ge (e_callB c_abs z_abs (by decide +kernel) (a_cons (ev 3) a_nil)) (e_op o_pw e_int e_int) (nomark _)) (ss_one (s_set (i := 1) nd rfl (by first | exact Or.inl rfl | exact Or.inr rfl) (e_op o_addF (e_op o_mulF (ev 1) e_int) (e_callB c_abs z_abs (by decide +kernel) (a_cons (ev 3) a_nil))))) ss_nil))))
     (ss_one (s_ret (e_lst (a_cons (ev 1) (a_cons (ev 2) (a_cons e_int a_nil))))))))
abbrev s__law_next : PySem.Stmt := top 20
abbrev N__law_next : List PySem.Str := [("_law_drawn" : PySem.Str), ("_law_many" : PySem.Str), ("_law_digit" : PySem.Str), ("_law_mixed" : PySem.Str)]
theorem sc__law_next : FnScope N__law_next [("_law_drawn" : PySem.Str), ("_law_many" : PySem.Str)] (defScope s__law_next) := ⟨rfl, rfl, rfl, by decide +kernel, rfl, by decide +kernel, by decide +kernel⟩
def r__law_next : XK3 → TS3 := fun E =>
  (wSeq (wIfS (wB (wOp oGt (wOp oIx (wVar 0) (wC (.int 0))) (wC (.int 0)))) (wSeq (wSet 2 (wOp oMd (wOp oIx (wVar 0) (wC (.int 0))) (wVar 1)))
  (wSeq (wAsg (wOp oFd (wOp oIx (wVar 0) (wC (.int 0))) (wVar 1)) (wgSub (wVar 0) (wC (.int 0)) oPut))
  (wRet (wVar 2)))) wNext)
  (wSeq (wAsg (wOp oAddF (wOp oIx (wVar 0) (wC (.int 2))) (wC (.int 1))) (wgSub (wVar 0) (wC (.int 2)) oPut))
  (wSeq (wSet 3 (wOp oMd (wOp oAddF (wOp oIx (wVar 0) (wC (.int 1))) (wOp oMulF (wC (.int 11400714819323198485)) (wOp oIx (wVar 0) (wC (.int 2))))) (wC (.int 18446744073709551557))))
  (wSeq (wSet 3 (wOp oMd (wOp oMulF (wVar 3) (wOp oAddF (wOp oMd (wVar 3) (wC (.int 4294967291))) (wC (.int 5)))) (wC (.int 2305843009213693951))))
  (wRet (wOp oMd (wOp oFd (wOp oMd (wOp oMulF (wVar 3) (wVar 3)) (wC (.int 2305843009213693921))) (wC (.int 2048))) (wVar 1)))))))
def sp__law_next : Sp3 := spOf 2 4 r__law_next
theorem ok__law_next {f : Addr} {fd : FuncData} (hm : mg ("_law_next" : PySem.Str) = some (.ref f)) (F : Fun K ("_law_next" : PySem.Str) ("_law_next" : PySem.Str) s__law_next f fd) (bd : Binds K fd [("_law_drawn" : PySem.Str), ("_law_many" : PySem.Str)] []) : Def3 P w K mg base (L2.CX P w) 1 ("_law_next" : PySem.Str) sp__law_next := by
  refine def_of (t := r__law_next) hm F bd sc__law_next ?_
  intro cdv A outer s H E bs E3 hG hr hE
  have hG : (A.deeper (envOfC ("_law_next" : PySem.Str) (defScope s__law_next) s.heap.objs.size f cdv)).guards = some [] := hG
  have hu := hr.units
  have hu2 := hu_more hr
  have nd := sc__law_next.nd
  exact (ss_cons (s_if (t_cmp o_gt (e_ix (ev 0) e_int) e_int (nomark _)) (ss_cons (s_set (i := 2) nd rfl (by first | exact Or.inl rfl | exact Or.inr rfl) (e_op o_md (e_ix (ev 0) e_int) (ev 1)))
     (ss_cons (s_asg (e_op o_fd (e_ix (ev 0) e_int) (ev 1)) (g_sub (ev 0) e_int p_put))
     (ss_one (s_ret (ev 2))))) ss_nil)
     (ss_cons (s_asg (e_op o_addF (e_ix (ev 0) e_int) e_int) (g_sub (ev 0) e_int p_put))
     (ss_cons (s_set (i := 3) nd rfl (by first | exact Or.inl rfl | exact Or.inr rfl) (e_op o_md (e_op o_addF (e_ix (ev 0) e_int) (e_op o_mulF e_int (e_ix (ev 0) e_int))) e_int))
     (ss_cons (s_set (i := 3) nd rfl (by first | exact Or.inl rfl | exact Or.inr rfl) (e_op o_md (e_op o_mulF (ev 3) (e_op o_addF (e_op o_md (ev 3) e_int) e_int)) e_int))
     (ss_one (s_ret (e_op o_md (e_op o_fd (e_op o_md (e_op o_mulF (ev 3) (ev 3)) e_int) e_int) (ev 1))))))))
abbrev s__law_end : PySem.Stmt := top 21
abbrev N__law_end : List PySem.Str := [("_law_drawn" : PySem.Str)]
theorem sc__law_end : FnScope N__law_end [("_law_drawn" : PySem.Str)] (defScope s__law_end) := ⟨rfl, rfl, rfl, by decide +kernel, rfl, by decide +kernel, by decide +kernel⟩
def r__law_end (sp__law_next : Sp3) : XK3 → TS3 := fun E =>
  (wSeq (wIfS (wB (wOp (oEq false) (wCall sp__law_next E (wCons (wVar 0) (wCons (wC (.int 8)) wNil))) (wC (.int 0)))) (wRet (wOp oSub (wCall sp__law_next E (wCons (wVar 0) (wCons (wC (.int 25)) wNil))) (wC (.int 12)))) wNext)
  (wRet (wOp oSub (wCall sp__law_next E (wCons (wVar 0) (wCons (wC (.int 7)) wNil))) (wC (.int 3)))))
def sp__law_end : Sp3 := spOf 1 1 (r__law_end sp__law_next)
theorem ok__law_end {f : Addr} {fd : FuncData} (hm : mg ("_law_end" : PySem.Str) = some (.ref f)) (F : Fun K ("_law_end" : PySem.Str) ("_law_end" : PySem.Str) s__law_end f fd) (bd : Binds K fd [("_law_drawn" : PySem.Str)] []) (d__law_next : Def3 P w K mg base (L2.CX P w) 1 ("_law_next" : PySem.Str) sp__law_next) : Def3 P w K mg base (L2.CX P w) 2 ("_law_end" : PySem.Str) sp__law_end := by
  refine def_of (t := (r__law_end sp__law_next)) hm F bd sc__law_end ?_
  intro cdv A outer s H E bs E3 hG hr hE
  have hG : (A.deeper (envOfC ("_law_end" : PySem.Str) (defScope s__law_end) s.heap.objs.size f cdv)).guards = some [] := hG
  have hu := hr.units
  have hu2 := hu_more hr
  have nd := sc__law_end.nd
  exact (ss_cons (s_if (t_cmp (o_eq hu) (e_call d__law_next hG (hr.mono (by decide)) (passXE hE) (a_cons (ev 0) (a_cons e_int a_nil))) e_int (nomark _)) (ss_one (s_ret (e_op o_sub (e_call d__law_next hG (hr.mono (by decide)) (passXE hE) (a_cons (ev 0) (a_cons e_int a_nil))) e_int))) ss_nil)
     (ss_one (s_ret (e_op o_sub (e_call d__law_next hG (hr.mono (by decide)) (passXE hE) (a_cons (ev 0) (a_cons e_int a_nil))) e_int))))
abbrev s__law_table : PySem.Stmt := top 22
abbrev N__law_table : List PySem.Str := [("_law_many" : PySem.Str), ("_law_rows" : PySem.Str), ("_law_found" : PySem.Str), ("_law_k" : PySem.Str), ("_law_p" : PySem.Str), ("_law_q" : PySem.Str), ("_law_c" : PySem.Str), ("_law_row" : PySem.Str)]
theorem sc__law_table : FnScope N__law_table [("_law_many" : PySem.Str), ("_law_rows" : PySem.Str)] (defScope s__law_table) := ⟨rfl, rfl, rfl, by decide +kernel, rfl, by decide +kernel, by decide +kernel⟩
def r__law_table : XK3 → TS3 := fun E =>
  (wSeq (wSet 2 (wLcF (wRng1 (wCons (wVar 0) wNil)) (wgName 3) wYes (wRep (wC .non) (wVar 0)) [3]))
  (wSeq (wFor (wItems (wVar 1)) (wgTupN 3 (wgCons (wgName 4) (wgCons (wgName 5) (wgCons (wgName 6) wgNil)))) (wIfS (wOr (wB (wOp (oIsN false) (wOp oIx (wOp oIx (wVar 2) (wVar 4)) (wVar 5)) (wC .non))) (wB (wOp oLt (wVar 6) (wOp oIx (wOp oIx (wVar 2) (wVar 4)) (wVar 5))))) (wAsg (wVar 6) (wgSub (wOp oIx (wVar 2) (wVar 4)) (wVar 5) oPut)) wNext))
  (wRet (wCB bTuple (wCons (wLcF (wItems (wVar 2)) (wgName 7) wYes (wCB bTuple (wCons (wVar 7) wNil)) [7]) wNil)))))
def sp__law_table : Sp3 := spOf 2 8 r__law_table
theorem ok__law_table {f : Addr} {fd : FuncData} (hm : mg ("_law_table" : PySem.Str) = some (.ref f)) (F : Fun K ("_law_table" : PySem.Str) ("_law_table" : PySem.Str) s__law_table f fd) (bd : Binds K fd [("_law_many" : PySem.Str), ("_law_rows" : PySem.Str)] []) (z_range : mg ("range" : PySem.Str) = none) (z_tuple : mg ("tuple" : PySem.Str) = none) : Def3 P w K mg base (L2.CX P w) 1 ("_law_table" : PySem.Str) sp__law_table := by
  refine def_of (t := r__law_table) hm F bd sc__law_table ?_
  intro cdv A outer s H E bs E3 hG hr hE
  have hG : (A.deeper (envOfC ("_law_table" : PySem.Str) (defScope s__law_table) s.heap.objs.size f cdv)).guards = some [] := hG
  have hu := hr.units
  have hu2 := hu_more hr
  have nd := sc__law_table.nd
  exact (ss_cons (s_setLcF (i := 2) (own := [(("_law_k" : PySem.Str), 3)]) (by decide) rfl nd rfl rfl (sw_true rfl rfl rfl (by decide +kernel)) (w_rng1 z_range (a_cons (ev 0) a_nil)) (blkOk_by (N := N__law_table) (sc := defScope s__law_table) (by decide +kernel)) (fun _ _ _ _ _ => (g_name (i := 3) nd rfl (by first | exact Or.inl rfl | exact Or.inr rfl))) (fun _ _ _ _ _ => ts_nil) (fun _ _ _ _ _ => (e_rep e_non (ev 0))))
     (ss_cons (s_for (passes_of rfl) rfl (w_seq (ev 1)) (g_tupN rfl (gs_cons (g_name (i := 4) nd rfl (by first | exact Or.inl rfl | exact Or.inr rfl)) (gs_cons (g_name (i := 5) nd rfl (by first | exact Or.inl rfl | exact Or.inr rfl)) (gs_cons (g_name (i := 6) nd rfl (by first | exact Or.inl rfl | exact Or.inr rfl)) gs_nil)))) (ss_one (s_if (PW3.pt (t_or (t_cmp o_is (e_ix (e_ix (ev 2) (ev 4)) (ev 5)) e_non (nomark _)) (t_or1 (t_cmp o_lt (ev 6) (e_ix (e_ix (ev 2) (ev 4)) (ev 5)) (nomark _))))) (ss_one (s_asg (ev 6) (g_sub (e_ix (ev 2) (ev 4)) (ev 5) p_put))) ss_nil)))
     (ss_one (s_ret (e_callTy c_tuple z_tuple (by decide +kernel) (a_cons (e_lcF (own := [(("_law_row" : PySem.Str), 7)]) (by decide) rfl nd (w_seq (ev 2)) (blkOk_by (N := N__law_table) (sc := defScope s__law_table) (by decide +kernel)) (fun _ _ _ _ _ => (g_name (i := 7) nd rfl (by first | exact Or.inl rfl | exact Or.inr rfl))) (fun _ _ _ _ _ => ts_nil) (fun _ _ _ _ _ => (e_callTy c_tuple z_tuple (by decide +kernel) (a_cons (ev 7) a_nil)))) a_nil))))))
abbrev s__law_field : PySem.Stmt := top 23
abbrev N__law_field : List PySem.Str := [("_law_drawn" : PySem.Str), ("_law_width" : PySem.Str), ("_law_way" : PySem.Str), ("_law_rows" : PySem.Str), ("_law_x" : PySem.Str), ("_law_c" : PySem.Str)]
theorem sc__law_field : FnScope N__law_field [("_law_drawn" : PySem.Str), ("_law_width" : PySem.Str)] (defScope s__law_field) := ⟨rfl, rfl, rfl, by decide +kernel, rfl, by decide +kernel, by decide +kernel⟩
def r__law_field (sp__law_next : Sp3) (sp__law_end : Sp3) (sp__law_table : Sp3) : XK3 → TS3 := fun E =>
  (wSeq (wSet 2 (wCall sp__law_next E (wCons (wVar 0) (wCons (wC (.int 5)) wNil))))
  (wSeq (wSet 3 (wLstF wNil))
  (wSeq (wFor (wRng1 (wCons (wVar 1) wNil)) (wgName 4) (wSeq (wSet 5 (wCall sp__law_end E (wCons (wVar 0) wNil)))
  (wSeq (wIfS (wOr (wB (wOp oLt (wVar 2) (wC (.int 2)))) (wB (wOp (oEq false) (wCall sp__law_next E (wCons (wVar 0) (wCons (wC (.int 2)) wNil))) (wC (.int 0))))) (wSet 3 (wOp oAddF (wVar 3) (wLstF (wCons (wTup (wCons (wVar 4) (wCons (wVar 1) (wCons (wVar 5) wNil)))) wNil)))) wNext)
  (wIfS (wOr (wB (wOp oLt (wVar 2) (wC (.int 2)))) (wB (wOp (oEq false) (wCall sp__law_next E (wCons (wVar 0) (wCons (wC (.int 3)) wNil))) (wC (.int 0))))) (wSet 3 (wOp oAddF (wVar 3) (wLstF (wCons (wTup (wCons (wVar 1) (wCons (wVar 4) (wCons (wOp oAddF (wUn oNeg (wVar 5)) (wCall sp__law_next E (wCons (wVar 0) (wCons (wOp oAddF (wC (.int 1)) (wOp oMulF (wC (.int 2)) (wCB bInt (wCons (wOp oGt (wVar 2) (wC (.int 0))) wNil)))) wNil)))) wNil)))) wNil)))) wNext))))
  (wSeq (wIfS (wAnd (wB (wOp (oEq false) (wVar 2) (wC (.int 4)))) (wB (wOp oGt (wVar 1) (wC (.int 1))))) (wSet 3 (wOp oAddF (wVar 3) (wLstF (wCons (wTup (wCons (wC (.int 0)) (wCons (wC (.int 1)) (wCons (wCall sp__law_end E (wCons (wVar 0) wNil)) wNil)))) wNil)))) wNext)
  (wRet (wCallP sp__law_table E (wCons (wOp oAddF (wVar 1) (wC (.int 1))) (wCons (wVar 3) wNil))))))))
def sp__law_field : Sp3 := spOf 2 6 (r__law_field sp__law_next sp__law_end sp__law_table)
theorem ok__law_field {f : Addr} {fd : FuncData} (hm : mg ("_law_field" : PySem.Str) = some (.ref f)) (F : Fun K ("_law_field" : PySem.Str) ("_law_field" : PySem.Str) s__law_field f fd) (bd : Binds K fd [("_law_drawn" : PySem.Str), ("_law_width" : PySem.Str)] []) (z_int : mg ("int" : PySem.Str) = none) (z_range : mg ("range" : PySem.Str) = none) (d__law_next : Def3 P w K mg base (L2.CX P w) 1 ("_law_next" : PySem.Str) sp__law_next) (d__law_end : Def3 P w K mg base (L2.CX P w) 2 ("_law_end" : PySem.Str) sp__law_end) (d__law_table : Def3 P w K mg base (L2.CX P w) 1 ("_law_table" : PySem.Str) sp__law_table) : Def3 P w K mg base (L2.CX P w) 3 ("_law_field" : PySem.Str) sp__law_field := by
  refine def_of (t := (r__law_field sp__law_next sp__law_end sp__law_table)) hm F bd sc__law_field ?_
  intro cdv A outer s H E bs E3 hG hr hE
  have hG : (A.deeper (envOfC ("_law_field" : PySem.Str) (defScope s__law_field) s.heap.objs.size f cdv)).guards = some [] := hG
  have hu := hr.units
  have hu2 := hu_more hr
  have nd := sc__law_field.nd
  exact (ss_cons (s_set (i := 2) nd rfl (by first | exact Or.inl rfl | exact Or.inr rfl) (e_call d__law_next hG (hr.mono (by decide)) (passXE hE) (a_cons (ev 0) (a_cons e_int a_nil))))
     (ss_cons (s_set (i := 3) nd rfl (by first | exact Or.inl rfl | exact Or.inr rfl) (e_lstF a_nil))
     (ss_cons (s_for (passes_of rfl) rfl (w_rng1 z_range (a_cons (ev 1) a_nil)) (g_name (i := 4) nd rfl (by first | exact Or.inl rfl | exact Or.inr rfl)) (ss_cons (s_set (i := 5) nd rfl (by first | exact Or.inl rfl | exact Or.inr rfl) (e_call d__law_end hG (hr.mono (by decide)) (passXE hE) (a_cons (ev 0) a_nil)))
     (ss_cons (s_if (PW3.pt (t_or (t_cmp o_lt (ev 2) e_int (nomark _)) (t_or1 (t_cmp (o_eq hu) (e_call d__law_next hG (hr.mono (by decide)) (passXE hE) (a_cons (ev 0) (a_cons e_int a_nil))) e_int (nomark _))))) (ss_one (s_set (i := 3) nd rfl (by first | exact Or.inl rfl | exact Or.inr rfl) (e_op o_addF (ev 3) (e_lstF (a_cons (e_tup (a_cons (ev 4) (a_cons (ev 1) (a_cons (ev 5) a_nil)))) a_nil))))) ss_nil)
     (ss_one (s_if (PW3.pt (t_or (t_cmp o_lt (ev 2) e_int (nomark _)) (t_or1 (t_cmp (o_eq hu) (e_call d__law_next hG (hr.mono (by decide)) (passXE hE) (a_cons (ev 0) (a_cons e_int a_nil))) e_int (nomark _))))) (ss_one (s_set (i := 3) nd rfl (by first | exact Or.inl rfl | exact Or.inr rfl) (e_op o_addF (ev 3) (e_lstF (a_cons (e_tup (a_cons (ev 1) (a_cons (ev 4) (a_cons (e_op o_addF (e_neg (ev 5)) (e_call d__law_next hG (hr.mono (by decide)) (passXE hE) (a_cons (ev 0) (a_cons (e_op o_addF e_int (e_op o_mulF e_int (e_callTy c_int z_int (by decide +kernel) (a_cons (e_cmp o_gt (ev 2) e_int (nomark _)) a_nil)))) a_nil)))) a_nil)))) a_nil))))) ss_nil)))))
     (ss_cons (s_if (PW3.pt (t_and (t_cmp (o_eq hu) (ev 2) e_int (nomark _)) (t_and1 (t_cmp o_gt (ev 1) e_int (nomark _))))) (ss_one (s_set (i := 3) nd rfl (by first | exact Or.inl rfl | exact Or.inr rfl) (e_op o_addF (ev 3) (e_lstF (a_cons (e_tup (a_cons e_int (a_cons e_int (a_cons (e_call d__law_end hG (hr.mono (by decide)) (passXE hE) (a_cons (ev 0) a_nil)) a_nil)))) a_nil))))) ss_nil)
     (ss_one (s_ret (e_callP d__law_table hG (hr.mono (by decide)) (passXE hE) (a_cons (e_op o_addF (ev 1) e_int) (a_cons (ev 3) a_nil)))))))))
abbrev s__law_loop_rows : PySem.Stmt := top 24
abbrev N__law_loop_rows : List PySem.Str := [("_law_drawn" : PySem.Str), ("_law_width" : PySem.Str), ("_law_most" : PySem.Str), ("_law_many" : PySem.Str), ("_law_found" : PySem.Str), ("_law_k" : PySem.Str)]
theorem sc__law_loop_rows : FnScope N__law_loop_rows [("_law_drawn" : PySem.Str), ("_law_width" : PySem.Str), ("_law_most" : PySem.Str)] (defScope s__law_loop_rows) := ⟨rfl, rfl, rfl, by decide +kernel, rfl, by decide +kernel, by decide +kernel⟩
def r__law_loop_rows (sp__law_next : Sp3) (sp__law_end : Sp3) : XK3 → TS3 := fun E =>
  (wSeq (wSet 3 (wOp oAddF (wOp oMulF (wC (.int 2)) (wVar 1)) (wC (.int 1))))
  (wSeq (wSet 4 (wLst wNil))
  (wSeq (wFor (wRng1 (wCons (wCall sp__law_next E (wCons (wVar 0) (wCons (wOp oAddF (wVar 2) (wC (.int 1))) wNil))) wNil)) (wgName 5) (wDrop (wBM oApp (wVar 4) (wCons (wTup (wCons (wCall sp__law_next E (wCons (wVar 0) (wCons (wVar 3) wNil))) (wCons (wCall sp__law_next E (wCons (wVar 0) (wCons (wVar 3) wNil))) (wCons (wCall sp__law_end E (wCons (wVar 0) wNil)) wNil)))) wNil))))
  (wRet (wCB bTuple (wCons (wVar 4) wNil))))))
def sp__law_loop_rows : Sp3 := spOf 3 6 (r__law_loop_rows sp__law_next sp__law_end)
theorem ok__law_loop_rows {f : Addr} {fd : FuncData} (hm : mg ("_law_loop_rows" : PySem.Str) = some (.ref f)) (F : Fun K ("_law_loop_rows" : PySem.Str) ("_law_loop_rows" : PySem.Str) s__law_loop_rows f fd) (bd : Binds K fd [("_law_drawn" : PySem.Str), ("_law_width" : PySem.Str), ("_law_most" : PySem.Str)] []) (z_range : mg ("range" : PySem.Str) = none) (z_tuple : mg ("tuple" : PySem.Str) = none) (d__law_next : Def3 P w K mg base (L2.CX P w) 1 ("_law_next" : PySem.Str) sp__law_next) (d__law_end : Def3 P w K mg base (L2.CX P w) 2 ("_law_end" : PySem.Str) sp__law_end) : Def3 P w K mg base (L2.CX P w) 3 ("_law_loop_rows" : PySem.Str) sp__law_loop_rows := by
  refine def_of (t := (r__law_loop_rows sp__law_next sp__law_end)) hm F bd sc__law_loop_rows ?_
  intro cdv A outer s H E bs E3 hG hr hE
  have hG : (A.deeper (envOfC ("_law_loop_rows" : PySem.Str) (defScope s__law_loop_rows) s.heap.objs.size f cdv)).guards = some [] := hG
  have hu := hr.units
  have hu2 := hu_more hr
  have nd := sc__law_loop_rows.nd
  exact (ss_cons (s_set (i := 3) nd rfl (by first | exact Or.inl rfl | exact Or.inr rfl) (e_op o_addF (e_op o_mulF e_int (ev 1)) e_int))
     (ss_cons (s_set (i := 4) nd rfl (by first | exact Or.inl rfl | exact Or.inr rfl) (e_lst a_nil))
     (ss_cons (s_for (passes_of rfl) rfl (w_rng1 z_range (a_cons (e_call d__law_next hG (hr.mono (by decide)) (passXE hE) (a_cons (ev 0) (a_cons (e_op o_addF (ev 2) e_int) a_nil))) a_nil)) (g_name (i := 5) nd rfl (by first | exact Or.inl rfl | exact Or.inr rfl)) (ss_one (s_expr (e_append (ev 4) (e_tup (a_cons (e_call d__law_next hG (hr.mono (by decide)) (passXE hE) (a_cons (ev 0) (a_cons (ev 3) a_nil))) (a_cons (e_call d__law_next hG (hr.mono (by decide)) (passXE hE) (a_cons (ev 0) (a_cons (ev 3) a_nil))) (a_cons (e_call d__law_end hG (hr.mono (by decide)) (passXE hE) (a_cons (ev 0) a_nil)) a_nil))))))))
     (ss_one (s_ret (e_callTy c_tuple z_tuple (by decide +kernel) (a_cons (ev 4) a_nil)))))))
abbrev s_Loop___init__ : PySem.Stmt := inClass (top 17) 0
abbrev N_Loop___init__ : List PySem.Str := [("self" : PySem.Str), ("width" : PySem.Str), ("rows" : PySem.Str), ("point" : PySem.Str), ("p" : PySem.Str), ("q" : PySem.Str), ("end" : PySem.Str)]
theorem sc_Loop___init__ : FnScope N_Loop___init__ [("self" : PySem.Str), ("width" : PySem.Str), ("rows" : PySem.Str)] (defScope s_Loop___init__) := ⟨rfl, rfl, rfl, by decide +kernel, rfl, by decide +kernel, by decide +kernel⟩
def r_Loop___init__ : XK3 → TS3 := fun E =>
  (wSeq (wFldSet "Loop" ("width" : PySem.Str) (wVar 0) (wVar 1))
  (wSeq (wFldSet "Loop" ("ends" : PySem.Str) (wVar 0) (wLc (wRng1 (wCons (wOp oAddF (wOp oMulF (wC (.int 2)) (wVar 1)) (wC (.int 1))) wNil)) (wgName 3) wYes (wRep (wC .non) (wOp oAddF (wOp oMulF (wC (.int 2)) (wVar 1)) (wC (.int 1)))) [3]))
  (wSeq (wFldSet "Loop" ("past" : PySem.Str) (wVar 0) (wLst wNil))
  (wFor (wItems (wVar 2)) (wgTupN 3 (wgCons (wgName 4) (wgCons (wgName 5) (wgCons (wgName 6) wgNil)))) (wAsg (wVar 6) (wgSub (wOp oIx (wFld "Loop" ("ends" : PySem.Str) (wVar 0)) (wVar 4)) (wVar 5) oPut))))))
def sp_Loop___init__ : Sp3 := spOf 3 7 r_Loop___init__
theorem ok_Loop___init__ {f e0 : Addr} {fd : FuncData} (F : FunD K ("__init__" : PySem.Str) ("Loop.__init__" : PySem.Str) (defArgs s_Loop___init__) (defBody s_Loop___init__) (defScope s_Loop___init__) [.ref e0] [] f fd) (z_range : mg ("range" : PySem.Str) = none) (u_cf_Loop : CF K "Loop") (u_na_width : NA K "Loop" ("width" : PySem.Str)) (u_na_ends : NA K "Loop" ("ends" : PySem.Str)) (u_na_past : NA K "Loop" ("past" : PySem.Str)) : FnG P w K mg base (L2.CX P w) 1 f fd [("self" : PySem.Str), ("width" : PySem.Str), ("rows" : PySem.Str)] (liftSp K sp_Loop___init__) := by
  refine fng_ofD (t := r_Loop___init__) F sc_Loop___init__ ?_
  intro cdv A outer s H E bs E3 hG hr hE
  have hG : (A.deeper (envOfC ("Loop.__init__" : PySem.Str) (defScope s_Loop___init__) s.heap.objs.size f cdv)).guards = some [] := hG
  have hu := hr.units
  have hu2 := hu_more hr
  have nd := sc_Loop___init__.nd
  exact (ss_cons (s_fld u_cf_Loop u_na_width (ev 0) (ev 1))
     (ss_cons (s_fld u_cf_Loop u_na_ends (ev 0) (e_lc (own := [(("point" : PySem.Str), 3)]) (by decide) rfl nd (w_rng1 z_range (a_cons (e_op o_addF (e_op o_mulF e_int (ev 1)) e_int) a_nil)) (blkOk_by (N := N_Loop___init__) (sc := defScope s_Loop___init__) (by decide +kernel)) (fun _ _ _ _ _ => (g_name (i := 3) nd rfl (by first | exact Or.inl rfl | exact Or.inr rfl))) (fun _ _ _ _ _ => ts_nil) (fun _ _ _ _ _ => (e_rep e_non (e_op o_addF (e_op o_mulF e_int (ev 1)) e_int)))))
     (ss_cons (s_fld u_cf_Loop u_na_past (ev 0) (e_lst a_nil))
     (ss_one (s_for (passes_of rfl) rfl (w_seq (ev 2)) (g_tupN rfl (gs_cons (g_name (i := 4) nd rfl (by first | exact Or.inl rfl | exact Or.inr rfl)) (gs_cons (g_name (i := 5) nd rfl (by first | exact Or.inl rfl | exact Or.inr rfl)) (gs_cons (g_name (i := 6) nd rfl (by first | exact Or.inl rfl | exact Or.inr rfl)) gs_nil)))) (ss_one (s_asg (ev 6) (g_sub (e_ix (e_fld u_cf_Loop u_na_ends (ev 0)) (ev 4)) (ev 5) p_put))))))))
abbrev s_Loop___len__ : PySem.Stmt := inClass (top 17) 11
abbrev N_Loop___len__ : List PySem.Str := [("self" : PySem.Str)]
theorem sc_Loop___len__ : FnScope N_Loop___len__ [("self" : PySem.Str)] (defScope s_Loop___len__) := ⟨rfl, rfl, rfl, by decide +kernel, rfl, by decide +kernel, by decide +kernel⟩
def r_Loop___len__ (sp_integers_of : Sp3) : XK3 → TS3 := fun E =>
  (wRet (wCB bLen (wCons (wCall sp_integers_of E (wCons (wFld "Loop" ("ends" : PySem.Str) (wVar 0)) wNil)) wNil)))
def sp_Loop___len__ : Sp3 := spOf 1 1 (r_Loop___len__ sp_integers_of)
theorem ok_Loop___len__ {f : Addr} {fd : FuncData} (F : Fun K ("__len__" : PySem.Str) ("Loop.__len__" : PySem.Str) s_Loop___len__ f fd) (z_len : mg ("len" : PySem.Str) = none) (u_cf_Loop : CF K "Loop") (u_na_ends : NA K "Loop" ("ends" : PySem.Str)) (d_integers_of : Def3 P w K mg base (L2.CX P w) 1 ("integers_of" : PySem.Str) sp_integers_of) : FnG P w K mg base (L2.CX P w) 2 f fd [("self" : PySem.Str)] (liftSp K sp_Loop___len__) := by
  refine fng_of (t := (r_Loop___len__ sp_integers_of)) F sc_Loop___len__ ?_
  intro cdv A outer s H E bs E3 hG hr hE
  have hG : (A.deeper (envOfC ("Loop.__len__" : PySem.Str) (defScope s_Loop___len__) s.heap.objs.size f cdv)).guards = some [] := hG
  have hu := hr.units
  have hu2 := hu_more hr
  have nd := sc_Loop___len__.nd
  exact (ss_one (s_ret (e_callB c_len z_len (by decide +kernel) (a_cons (e_call d_integers_of hG (hr.mono (by decide)) (passXE hE) (a_cons (e_fld u_cf_Loop u_na_ends (ev 0)) a_nil)) a_nil))))
abbrev s_Loop___repr__ : PySem.Stmt := inClass (top 17) 13
abbrev N_Loop___repr__ : List PySem.Str := [("self" : PySem.Str)]
theorem sc_Loop___repr__ : FnScope N_Loop___repr__ [("self" : PySem.Str)] (defScope s_Loop___repr__) := ⟨rfl, rfl, rfl, by decide +kernel, rfl, by decide +kernel, by decide +kernel⟩
def r_Loop___repr__ (sp_Loop___len__ : Sp3) : XK3 → TS3 := fun E =>
  (wRet (wJs [wC (.str ("Loop(" : PySem.Str)), (wFmt (wFld "Loop" ("width" : PySem.Str) (wVar 0))), wC (.str (", " : PySem.Str)), (wFmt (wCB (bLenO "Loop" sp_Loop___len__) (wCons (wVar 0) wNil))), wC (.str (")" : PySem.Str))] Str.empty))
def sp_Loop___repr__ : Sp3 := spOf 1 1 (r_Loop___repr__ sp_Loop___len__)
theorem ok_Loop___repr__ {f : Addr} {fd : FuncData} (F : Fun K ("__repr__" : PySem.Str) ("Loop.__repr__" : PySem.Str) s_Loop___repr__ f fd) (z_len : mg ("len" : PySem.Str) = none) (u_cf_Loop : CF K "Loop") (u_na_width : NA K "Loop" ("width" : PySem.Str)) (u_own___len__ : Own3 P w K mg base 2 "Loop" ("__len__" : PySem.Str) sp_Loop___len__) : FnG P w K mg base (L2.CX P w) 4 f fd [("self" : PySem.Str)] (liftSp K sp_Loop___repr__) := by
  refine fng_of (t := (r_Loop___repr__ sp_Loop___len__)) F sc_Loop___repr__ ?_
  intro cdv A outer s H E bs E3 hG hr hE
  have hG : (A.deeper (envOfC ("Loop.__repr__" : PySem.Str) (defScope s_Loop___repr__) s.heap.objs.size f cdv)).guards = some [] := hG
  have hu := hr.units
  have hu2 := hu_more hr
  have nd := sc_Loop___repr__.nd
  exact (ss_one (s_ret (e_joined (.cons e_str (.cons (e_fmt (e_fld u_cf_Loop u_na_width (ev 0))) (.cons e_str (.cons (e_fmt (e_callB (c_lenO u_own___len__ hG (hr.mono (by decide))) z_len (by decide +kernel) (a_cons (ev 0) a_nil))) (.cons e_str .nil))))))))
abbrev s_Loop_step : PySem.Stmt := inClass (top 17) 3
abbrev N_Loop_step : List PySem.Str := [("self" : PySem.Str), ("row" : PySem.Str)]
theorem sc_Loop_step : FnScope N_Loop_step [("self" : PySem.Str)] (defScope s_Loop_step) := ⟨rfl, rfl, rfl, by decide +kernel, rfl, by decide +kernel, by decide +kernel⟩
def r_Loop_step : XK3 → TS3 := fun E =>
  (wRet (wCB bTuple (wCons (wLcF (wItems (wFld "Loop" ("ends" : PySem.Str) (wVar 0))) (wgName 1) wYes (wCB bTuple (wCons (wVar 1) wNil)) [1]) wNil)))
def sp_Loop_step : Sp3 := spOf 1 2 r_Loop_step
theorem ok_Loop_step {f : Addr} {fd : FuncData} (F : Fun K ("step" : PySem.Str) ("Loop.step" : PySem.Str) s_Loop_step f fd) (z_tuple : mg ("tuple" : PySem.Str) = none) (u_cf_Loop : CF K "Loop") (u_na_ends : NA K "Loop" ("ends" : PySem.Str)) : FnG P w K mg base (L2.CX P w) 1 f fd [("self" : PySem.Str)] (liftSp K sp_Loop_step) := by
  refine fng_of (t := r_Loop_step) F sc_Loop_step ?_
  intro cdv A outer s H E bs E3 hG hr hE
  have hG : (A.deeper (envOfC ("Loop.step" : PySem.Str) (defScope s_Loop_step) s.heap.objs.size f cdv)).guards = some [] := hG
  have hu := hr.units
  have hu2 := hu_more hr
  have nd := sc_Loop_step.nd
  exact (ss_one (s_ret (e_callTy c_tuple z_tuple (by decide +kernel) (a_cons (e_lcF (own := [(("row" : PySem.Str), 1)]) (by decide) rfl nd (w_seq (e_fld u_cf_Loop u_na_ends (ev 0))) (blkOk_by (N := N_Loop_step) (sc := defScope s_Loop_step) (by decide +kernel)) (fun _ _ _ _ _ => (g_name (i := 1) nd rfl (by first | exact Or.inl rfl | exact Or.inr rfl))) (fun _ _ _ _ _ => ts_nil) (fun _ _ _ _ _ => (e_callTy c_tuple z_tuple (by decide +kernel) (a_cons (ev 1) a_nil)))) a_nil))))
abbrev s_Loop___eq__ : PySem.Stmt := inClass (top 17) 12
abbrev N_Loop___eq__ : List PySem.Str := [("self" : PySem.Str), ("other" : PySem.Str)]
theorem sc_Loop___eq__ : FnScope N_Loop___eq__ [("self" : PySem.Str), ("other" : PySem.Str)] (defScope s_Loop___eq__) := ⟨rfl, rfl, rfl, by decide +kernel, rfl, by decide +kernel, by decide +kernel⟩
def r_Loop___eq__ (sp_Loop_step : Sp3) : XK3 → TS3 := fun E =>
  (wRet (wAndV (wIsO "Loop" (wVar 1)) (wOp (oEq false) (wProp "Loop" sp_Loop_step (wVar 0)) (wProp "Loop" sp_Loop_step (wVar 1)))))
def sp_Loop___eq__ : Sp3 := spOf 2 2 (r_Loop___eq__ sp_Loop_step)
theorem ok_Loop___eq__ {f : Addr} {fd : FuncData} (F : Fun K ("__eq__" : PySem.Str) ("Loop.__eq__" : PySem.Str) s_Loop___eq__ f fd) (z_isinstance : mg ("isinstance" : PySem.Str) = none) (u_iso_Loop : IsO K mg "Loop") (u_prop_step : Prop3 P w K mg base 1 "Loop" ("step" : PySem.Str) sp_Loop_step) : FnG P w K mg base (L2.CX P w) 3 f fd [("self" : PySem.Str), ("other" : PySem.Str)] (liftSp K sp_Loop___eq__) := by
  refine fng_of (t := (r_Loop___eq__ sp_Loop_step)) F sc_Loop___eq__ ?_
  intro cdv A outer s H E bs E3 hG hr hE
  have hG : (A.deeper (envOfC ("Loop.__eq__" : PySem.Str) (defScope s_Loop___eq__) s.heap.objs.size f cdv)).guards = some [] := hG
  have hu := hr.units
  have hu2 := hu_more hr
  have nd := sc_Loop___eq__.nd
  exact (ss_one (s_ret (e_and (e_isO u_iso_Loop z_isinstance (ev 1)) (e_one (e_cmp (o_eq hu) (e_prop u_prop_step hG (hr.mono (by decide)) (ev 0)) (e_prop u_prop_step hG (hr.mono (by decide)) (ev 1)) (nomark _))))))
abbrev s_Loop___call__ : PySem.Stmt := inClass (top 17) 9
abbrev N_Loop___call__ : List PySem.Str := [("self" : PySem.Str), ("field" : PySem.Str)]
theorem sc_Loop___call__ : FnScope N_Loop___call__ [("self" : PySem.Str), ("field" : PySem.Str)] (defScope s_Loop___call__) := ⟨rfl, rfl, rfl, by decide +kernel, rfl, by decide +kernel, by decide +kernel⟩
def r_Loop___call__ (sp_news : Sp3) (sp_Loop_step : Sp3) : XK3 → TS3 := fun E =>
  (wRet (wCallP sp_news E (wCons (wVar 1) (wCons (wProp "Loop" sp_Loop_step (wVar 0)) wNil))))
def sp_Loop___call__ : Sp3 := spOf 2 2 (r_Loop___call__ sp_news sp_Loop_step)
theorem ok_Loop___call__ {f : Addr} {fd : FuncData} (F : Fun K ("__call__" : PySem.Str) ("Loop.__call__" : PySem.Str) s_Loop___call__ f fd) (u_prop_step : Prop3 P w K mg base 1 "Loop" ("step" : PySem.Str) sp_Loop_step) (d_news : Def3 P w K mg base (L2.CX P w) 4 ("news" : PySem.Str) sp_news) : FnG P w K mg base (L2.CX P w) 5 f fd [("self" : PySem.Str), ("field" : PySem.Str)] (liftSp K sp_Loop___call__) := by
  refine fng_of (t := (r_Loop___call__ sp_news sp_Loop_step)) F sc_Loop___call__ ?_
  intro cdv A outer s H E bs E3 hG hr hE
  have hG : (A.deeper (envOfC ("Loop.__call__" : PySem.Str) (defScope s_Loop___call__) s.heap.objs.size f cdv)).guards = some [] := hG
  have hu := hr.units
  have hu2 := hu_more hr
  have nd := sc_Loop___call__.nd
  exact (ss_one (s_ret (e_callP d_news hG (hr.mono (by decide)) (passXE hE) (a_cons (ev 1) (a_cons (e_prop u_prop_step hG (hr.mono (by decide)) (ev 0)) a_nil)))))
abbrev s_Loop_put : PySem.Stmt := inClass (top 17) 1
abbrev N_Loop_put : List PySem.Str := [("self" : PySem.Str), ("p" : PySem.Str), ("q" : PySem.Str), ("c" : PySem.Str), ("found" : PySem.Str)]
theorem sc_Loop_put : FnScope N_Loop_put [("self" : PySem.Str), ("p" : PySem.Str), ("q" : PySem.Str), ("c" : PySem.Str)] (defScope s_Loop_put) := ⟨rfl, rfl, rfl, by decide +kernel, rfl, by decide +kernel, by decide +kernel⟩
def r_Loop_put : XK3 → TS3 := fun E =>
  (wSeq (wSet 4 (wOp oIx (wOp oIx (wFld "Loop" ("ends" : PySem.Str) (wVar 0)) (wVar 1)) (wVar 2)))
  (wSeq (wDrop (wBM oApp (wFld "Loop" ("past" : PySem.Str) (wVar 0)) (wCons (wTup (wCons (wVar 1) (wCons (wVar 2) (wCons (wVar 4) wNil)))) wNil)))
  (wSeq (wAsg (wVar 3) (wgSub (wOp oIx (wFld "Loop" ("ends" : PySem.Str) (wVar 0)) (wVar 1)) (wVar 2) oPut))
  (wRet (wVar 4)))))
def sp_Loop_put : Sp3 := spOf 4 5 r_Loop_put
theorem ok_Loop_put {f : Addr} {fd : FuncData} (F : Fun K ("put" : PySem.Str) ("Loop.put" : PySem.Str) s_Loop_put f fd) (u_cf_Loop : CF K "Loop") (u_na_ends : NA K "Loop" ("ends" : PySem.Str)) (u_na_past : NA K "Loop" ("past" : PySem.Str)) : FnG P w K mg base (L2.CX P w) 1 f fd [("self" : PySem.Str), ("p" : PySem.Str), ("q" : PySem.Str), ("c" : PySem.Str)] (liftSp K sp_Loop_put) := by
  refine fng_of (t := r_Loop_put) F sc_Loop_put ?_
  intro cdv A outer s H E bs E3 hG hr hE
  have hG : (A.deeper (envOfC ("Loop.put" : PySem.Str) (defScope s_Loop_put) s.heap.objs.size f cdv)).guards = some [] := hG
  have hu := hr.units
  have hu2 := hu_more hr
  have nd := sc_Loop_put.nd
  exact (ss_cons (s_set (i := 4) nd rfl (by first | exact Or.inl rfl | exact Or.inr rfl) (e_ix (e_ix (e_fld u_cf_Loop u_na_ends (ev 0)) (ev 1)) (ev 2)))
     (ss_cons (s_expr (e_append (e_fld u_cf_Loop u_na_past (ev 0)) (e_tup (a_cons (ev 1) (a_cons (ev 2) (a_cons (ev 4) a_nil))))))
     (ss_cons (s_asg (ev 3) (g_sub (e_ix (e_fld u_cf_Loop u_na_ends (ev 0)) (ev 1)) (ev 2) p_put))
     (ss_one (s_ret (ev 4))))))
abbrev s_Loop_undo : PySem.Stmt := inClass (top 17) 2
abbrev N_Loop_undo : List PySem.Str := [("self" : PySem.Str), ("found" : PySem.Str)]
theorem sc_Loop_undo : FnScope N_Loop_undo [("self" : PySem.Str)] (defScope s_Loop_undo) := ⟨rfl, rfl, rfl, by decide +kernel, rfl, by decide +kernel, by decide +kernel⟩
def r_Loop_undo : XK3 → TS3 := fun E =>
  (wSeq (wIfS (wB (wOp (oEq false) (wFld "Loop" ("past" : PySem.Str) (wVar 0)) (wLstF wNil))) (wRaise0 ("NothingToUndo" : PySem.Str) (fun _ => E)) wNext)
  (wSeq (wSet 1 (wBM0 oPop (wFld "Loop" ("past" : PySem.Str) (wVar 0))))
  (wSeq (wAsg (wOp oIx (wVar 1) (wC (.int 2))) (wgSub (wOp oIx (wFld "Loop" ("ends" : PySem.Str) (wVar 0)) (wOp oIx (wVar 1) (wC (.int 0)))) (wOp oIx (wVar 1) (wC (.int 1))) oPut))
  (wRet (wVar 1)))))
def sp_Loop_undo : Sp3 := spOf 1 2 r_Loop_undo
theorem ok_Loop_undo {f : Addr} {fd : FuncData} (F : Fun K ("undo" : PySem.Str) ("Loop.undo" : PySem.Str) s_Loop_undo f fd) (u_cf_Loop : CF K "Loop") (u_na_past : NA K "Loop" ("past" : PySem.Str)) (u_mkx0_NothingToUndo : MkX0 K mg ("NothingToUndo" : PySem.Str)) (u_na_ends : NA K "Loop" ("ends" : PySem.Str)) : FnG P w K mg base (L2.CX P w) 3 f fd [("self" : PySem.Str)] (liftSp K sp_Loop_undo) := by
  refine fng_of (t := r_Loop_undo) F sc_Loop_undo ?_
  intro cdv A outer s H E bs E3 hG hr hE
  have hG : (A.deeper (envOfC ("Loop.undo" : PySem.Str) (defScope s_Loop_undo) s.heap.objs.size f cdv)).guards = some [] := hG
  have hu := hr.units
  have hu2 := hu_more hr
  have nd := sc_Loop_undo.nd
  exact (ss_cons (s_if (t_cmp (o_eq hu) (e_fld u_cf_Loop u_na_past (ev 0)) (e_lstF a_nil) (nomark _)) (ss_one (s_raise0 rfl u_mkx0_NothingToUndo (takesXE hE))) ss_nil)
     (ss_cons (s_set (i := 1) nd rfl (by first | exact Or.inl rfl | exact Or.inr rfl) (e_pop (e_fld u_cf_Loop u_na_past (ev 0))))
     (ss_cons (s_asg (e_ix (ev 1) e_int) (g_sub (e_ix (e_fld u_cf_Loop u_na_ends (ev 0)) (e_ix (ev 1) e_int)) (e_ix (ev 1) e_int) p_put))
     (ss_one (s_ret (ev 1))))))
abbrev s_law : PySem.Stmt := top 25
abbrev N_law : List PySem.Str := [("_law_script" : PySem.Str), ("_law_drawn" : PySem.Str), ("_law_turn" : PySem.Str), ("_law_width" : PySem.Str), ("_law_rows" : PySem.Str), ("_law_loop" : PySem.Str), ("_law_other" : PySem.Str), ("_law_wide" : PySem.Str), ("_law_p" : PySem.Str), ("_law_q" : PySem.Str), ("_law_told" : PySem.Str), ("_law_field_here" : PySem.Str), ("_law_copied" : PySem.Str), ("_law_image" : PySem.Str), ("_law_due" : PySem.Str), ("_law_there" : PySem.Str)]
theorem sc_law : FnScope N_law [("_law_script" : PySem.Str)] (defScope s_law) := ⟨rfl, rfl, rfl, by decide +kernel, rfl, by decide +kernel, by decide +kernel⟩
def r_law (sp__law_draws : Sp3) (sp__law_next : Sp3) (sp__law_loop_rows : Sp3) (sp__law_field : Sp3) (sp_Loop___init__ : Sp3) (sp_Loop___repr__ : Sp3) (sp_Loop_step : Sp3) (sp_Loop___eq__ : Sp3) (sp_Loop___call__ : Sp3) (sp_Loop_put : Sp3) (sp_Loop_undo : Sp3) : XK3 → TS3 := fun E =>
  (wSeq (wSet 1 (wCall sp__law_draws E (wCons (wVar 0) wNil)))
  (wSeq (wFor (wRng1 (wCons (wC (.int 4)) wNil)) (wgName 2) (wSeq (wSet 3 (wOp oAddF (wC (.int 1)) (wCall sp__law_next E (wCons (wVar 1) (wCons (wC (.int 3)) wNil)))))
  (wSeq (wSet 4 (wCall sp__law_loop_rows E (wCons (wVar 1) (wCons (wVar 3) (wCons (wC (.int 8)) wNil)))))
  (wSeq (wSet 5 (wMake "Loop" [] sp_Loop___init__ (wCons (wVar 3) (wCons (wVar 4) wNil))))
  (wSeq (wFor (wItems (wLstF (wCons (wC .non) (wCons (wC (.int 7)) (wCons (wC (.str ("Loop" : PySem.Str))) (wCons (wVar 4) (wCons (wProp "Loop" sp_Loop_step (wVar 5)) (wCons (wLstF (wCons (wVar 5) wNil)) (wCons (wVar 3) (wCons (wTup wNil) (wCons (wC (.bl true)) (wCons (wCB (bReprO "Loop" sp_Loop___repr__) (wCons (wVar 5) wNil)) wNil)))))))))))) (wgName 6) (wIfS (wOr (wB (wOp (oEqO "Loop" sp_Loop___eq__) (wVar 5) (wVar 6))) (wNot (wB (wOp (oNeO "Loop" sp_Loop___eq__) (wVar 5) (wVar 6))))) (wRet (wC (.bl false))) wNext))
  (wSeq (wSet 7 (wMake "Loop" [] sp_Loop___init__ (wCons (wOp oAddF (wC (.int 1)) (wOp oMd (wVar 3) (wC (.int 3)))) (wCons (wTup wNil) wNil))))
  (wSeq (wIfS (wOr (wB (wOp (oEqO "Loop" sp_Loop___eq__) (wVar 5) (wVar 7))) (wOr (wB (wOp (oEqO "Loop" sp_Loop___eq__) (wVar 7) (wVar 5))) (wOr (wNot (wB (wOp (oEqO "Loop" sp_Loop___eq__) (wVar 5) (wMake "Loop" [] sp_Loop___init__ (wCons (wVar 3) (wCons (wVar 4) wNil)))))) (wB (wOp (oNeO "Loop" sp_Loop___eq__) (wVar 5) (wMake "Loop" [] sp_Loop___init__ (wCons (wVar 3) (wCons (wVar 4) wNil)))))))) (wRet (wC (.bl false))) wNext)
  (wSeq (wPar 8 9 (wCons (wCall sp__law_next E (wCons (wVar 1) (wCons (wOp oAddF (wOp oMulF (wC (.int 2)) (wVar 3)) (wC (.int 1))) wNil))) (wCons (wCall sp__law_next E (wCons (wVar 1) (wCons (wOp oAddF (wOp oMulF (wC (.int 2)) (wVar 3)) (wC (.int 1))) wNil))) wNil)))
  (wSeq (wPar 10 11 (wCons (wProp "Loop" sp_Loop_step (wVar 5)) (wCons (wCall sp__law_field E (wCons (wVar 1) (wCons (wVar 3) wNil))) wNil)))
  (wSeq (wSet 12 (wCB bRepr (wCons (wTup (wCons (wVar 10) (wCons (wVar 11) (wCons (wVar 4) wNil)))) wNil)))
  (wSeq (wSet 13 (wCallO "Loop" sp_Loop___call__ (wVar 5) (wCons (wVar 11) wNil)))
  (wSeq (wSet 14 (wCB bRepr (wCons (wVar 13) wNil)))
  (wSeq (wSet 15 (wOp oIx (wOp oIx (wVar 10) (wVar 8)) (wVar 9)))
  (wSeq (wDrop (wMeth "Loop" ("put" : PySem.Str) sp_Loop_put E (wVar 5) (wCons (wVar 8) (wCons (wVar 9) (wCons (wIf (wB (wOp (oEq true) (wVar 15) (wC (.int 5)))) (wC (.int 5)) (wC .non)) wNil)))))
  (wSeq (wIfS (wOr (wB (wOp (oEqO "Loop" sp_Loop___eq__) (wVar 5) (wMake "Loop" [] sp_Loop___init__ (wCons (wVar 3) (wCons (wVar 4) wNil))))) (wNot (wB (wOp (oNeO "Loop" sp_Loop___eq__) (wVar 5) (wMake "Loop" [] sp_Loop___init__ (wCons (wVar 3) (wCons (wVar 4) wNil))))))) (wRet (wC (.bl false))) wNext)
  (wSeq (wDrop (wCallO "Loop" sp_Loop___call__ (wVar 5) (wCons (wVar 11) wNil)))
  (wSeq (wIfS (wOr (wB (wOp (oEq true) (wCB bRepr (wCons (wTup (wCons (wVar 10) (wCons (wVar 11) (wCons (wVar 4) wNil)))) wNil)) (wVar 12))) (wOr (wB (wOp (oEq true) (wCB bRepr (wCons (wVar 13) wNil)) (wVar 14))) (wB (wOp (oEq false) (wCB bRepr (wCons (wProp "Loop" sp_Loop_step (wVar 5)) wNil)) (wCB bRepr (wCons (wVar 10) wNil)))))) (wRet (wC (.bl false))) wNext)
  (wSeq (wDrop (wMeth "Loop" ("undo" : PySem.Str) sp_Loop_undo E (wVar 5) wNil))
  (wIfS (wOr (wNot (wB (wOp (oEqO "Loop" sp_Loop___eq__) (wVar 5) (wMake "Loop" [] sp_Loop___init__ (wCons (wVar 3) (wCons (wVar 4) wNil)))))) (wOr (wB (wOp (oEq true) (wCB bRepr (wCons (wProp "Loop" sp_Loop_step (wVar 5)) wNil)) (wCB bRepr (wCons (wVar 10) wNil)))) (wB (wOp (oEq true) (wCB bRepr (wCons (wCallO "Loop" sp_Loop___call__ (wVar 5) (wCons (wVar 11) wNil)) wNil)) (wVar 14))))) (wRet (wC (.bl false))) wNext)))))))))))))))))))
  (wRet (wC (.bl true)))))
def sp_law : Sp3 := spOf 1 16 (r_law sp__law_draws sp__law_next sp__law_loop_rows sp__law_field sp_Loop___init__ sp_Loop___repr__ sp_Loop_step sp_Loop___eq__ sp_Loop___call__ sp_Loop_put sp_Loop_undo)
theorem ok_law {f : Addr} {fd : FuncData} (F : Fun K ("law" : PySem.Str) ("law" : PySem.Str) s_law f fd) (z_range : mg ("range" : PySem.Str) = none) (z_repr : mg ("repr" : PySem.Str) = none) (u_make_0 : Make3 P w K mg base 1 "Loop" [] sp_Loop___init__) (u_own___repr__ : Own3 P w K mg base 4 "Loop" ("__repr__" : PySem.Str) sp_Loop___repr__) (u_prop_step : Prop3 P w K mg base 1 "Loop" ("step" : PySem.Str) sp_Loop_step) (u_own___eq__ : Own3 P w K mg base 3 "Loop" ("__eq__" : PySem.Str) sp_Loop___eq__) (u_eqnf_Loop : EqNF K "Loop") (u_nenf_Loop : NeNF K "Loop") (u_callo___call__ : Call3 P w K mg base 5 "Loop" sp_Loop___call__) (u_meth_put : Meth3 P w K mg base (L2.CX P w) 1 "Loop" ("put" : PySem.Str) sp_Loop_put) (u_meth_undo : Meth3 P w K mg base (L2.CX P w) 3 "Loop" ("undo" : PySem.Str) sp_Loop_undo) (d__law_draws : Def3 P w K mg base (L2.CX P w) 1 ("_law_draws" : PySem.Str) sp__law_draws) (d__law_next : Def3 P w K mg base (L2.CX P w) 1 ("_law_next" : PySem.Str) sp__law_next) (d__law_loop_rows : Def3 P w K mg base (L2.CX P w) 3 ("_law_loop_rows" : PySem.Str) sp__law_loop_rows) (d__law_field : Def3 P w K mg base (L2.CX P w) 3 ("_law_field" : PySem.Str) sp__law_field) : FnG P w K mg base (L2.CX P w) 6 f fd [("_law_script" : PySem.Str)] (liftSp K sp_law) := by
  refine fng_of (t := (r_law sp__law_draws sp__law_next sp__law_loop_rows sp__law_field sp_Loop___init__ sp_Loop___repr__ sp_Loop_step sp_Loop___eq__ sp_Loop___call__ sp_Loop_put sp_Loop_undo)) F sc_law ?_
  intro cdv A outer s H E bs E3 hG hr hE
  have hG : (A.deeper (envOfC ("law" : PySem.Str) (defScope s_law) s.heap.objs.size f cdv)).guards = some [] := hG
  have hu := hr.units
  have hu2 := hu_more hr
  have nd := sc_law.nd
  exact (ss_cons (s_set (i := 1) nd rfl (by first | exact Or.inl rfl | exact Or.inr rfl) (e_call d__law_draws hG (hr.mono (by decide)) (passXE hE) (a_cons (ev 0) a_nil)))
     (ss_cons (s_for (passes_of rfl) rfl (w_rng1 z_range (a_cons e_int a_nil)) (g_name (i := 2) nd rfl (by first | exact Or.inl rfl | exact Or.inr rfl)) (ss_cons (s_set (i := 3) nd rfl (by first | exact Or.inl rfl | exact Or.inr rfl) (e_op o_addF e_int (e_call d__law_next hG (hr.mono (by decide)) (passXE hE) (a_cons (ev 1) (a_cons e_int a_nil)))))
     (ss_cons (s_set (i := 4) nd rfl (by first | exact Or.inl rfl | exact Or.inr rfl) (e_call d__law_loop_rows hG (hr.mono (by decide)) (passXE hE) (a_cons (ev 1) (a_cons (ev 3) (a_cons e_int a_nil)))))
     (ss_cons (s_set (i := 5) nd rfl (by first | exact Or.inl rfl | exact Or.inr rfl) (e_make u_make_0 hG (hr.mono (by decide)) (a_cons (ev 3) (a_cons (ev 4) a_nil))))
     (ss_cons (s_for (passes_of rfl) rfl (w_seq (e_lstF (a_cons e_non (a_cons e_int (a_cons e_str (a_cons (ev 4) (a_cons (e_prop u_prop_step hG (hr.mono (by decide)) (ev 5)) (a_cons (e_lstF (a_cons (ev 5) a_nil)) (a_cons (ev 3) (a_cons (e_tup a_nil) (a_cons e_bl (a_cons (e_callB (c_reprO u_own___repr__ hG (hr.mono (by decide))) z_repr (by decide +kernel) (a_cons (ev 5) a_nil)) a_nil)))))))))))) (g_name (i := 6) nd rfl (by first | exact Or.inl rfl | exact Or.inr rfl)) (ss_one (s_if (PW3.pt (t_or (t_cmp (o_eqO u_own___eq__ u_eqnf_Loop hG (hr.mono (by decide))) (ev 5) (ev 6) (nomark _)) (t_or1 (t_not (t_cmp (o_neO u_own___eq__ u_eqnf_Loop u_nenf_Loop hG (hr.mono (by decide))) (ev 5) (ev 6) (nomark _)))))) (ss_one (s_ret e_bl)) ss_nil)))
     (ss_cons (s_set (i := 7) nd rfl (by first | exact Or.inl rfl | exact Or.inr rfl) (e_make u_make_0 hG (hr.mono (by decide)) (a_cons (e_op o_addF e_int (e_op o_md (ev 3) e_int)) (a_cons (e_tup a_nil) a_nil))))
     (ss_cons (s_if (PW3.pt (t_or (t_cmp (o_eqO u_own___eq__ u_eqnf_Loop hG (hr.mono (by decide))) (ev 5) (ev 7) (nomark _)) (t_or (t_cmp (o_eqO u_own___eq__ u_eqnf_Loop hG (hr.mono (by decide))) (ev 7) (ev 5) (nomark _)) (t_or (t_not (t_cmp (o_eqO u_own___eq__ u_eqnf_Loop hG (hr.mono (by decide))) (ev 5) (e_make u_make_0 hG (hr.mono (by decide)) (a_cons (ev 3) (a_cons (ev 4) a_nil))) (nomark _))) (t_or1 (t_cmp (o_neO u_own___eq__ u_eqnf_Loop u_nenf_Loop hG (hr.mono (by decide))) (ev 5) (e_make u_make_0 hG (hr.mono (by decide)) (a_cons (ev 3) (a_cons (ev 4) a_nil))) (nomark _))))))) (ss_one (s_ret e_bl)) ss_nil)
     (ss_cons (s_par (i := 8) (j := 9) rfl nd rfl rfl (by decide) rfl rfl (a_cons (e_call d__law_next hG (hr.mono (by decide)) (passXE hE) (a_cons (ev 1) (a_cons (e_op o_addF (e_op o_mulF e_int (ev 3)) e_int) a_nil))) (a_cons (e_call d__law_next hG (hr.mono (by decide)) (passXE hE) (a_cons (ev 1) (a_cons (e_op o_addF (e_op o_mulF e_int (ev 3)) e_int) a_nil))) a_nil)) rfl)
     (ss_cons (s_par (i := 10) (j := 11) rfl nd rfl rfl (by decide) rfl rfl (a_cons (e_prop u_prop_step hG (hr.mono (by decide)) (ev 5)) (a_cons (e_call d__law_field hG (hr.mono (by decide)) (passXE hE) (a_cons (ev 1) (a_cons (ev 3) a_nil))) a_nil)) rfl)
     (ss_cons (s_set (i := 12) nd rfl (by first | exact Or.inl rfl | exact Or.inr rfl) (e_callB (c_repr hG hu2) z_repr (by decide +kernel) (a_cons (e_tup (a_cons (ev 10) (a_cons (ev 11) (a_cons (ev 4) a_nil)))) a_nil)))
     (ss_cons (s_set (i := 13) nd rfl (by first | exact Or.inl rfl | exact Or.inr rfl) (e_callO u_callo___call__ hG (hr.mono (by decide)) (ev 5) (a_cons (ev 11) a_nil)))
     (ss_cons (s_set (i := 14) nd rfl (by first | exact Or.inl rfl | exact Or.inr rfl) (e_callB (c_repr hG hu2) z_repr (by decide +kernel) (a_cons (ev 13) a_nil)))
     (ss_cons (s_set (i := 15) nd rfl (by first | exact Or.inl rfl | exact Or.inr rfl) (e_ix (e_ix (ev 10) (ev 8)) (ev 9)))
     (ss_cons (s_expr (e_meth u_meth_put hG (hr.mono (by decide)) (passXE hE) (ev 5) (a_cons (ev 8) (a_cons (ev 9) (a_cons (e_if (t_cmp (o_ne hu) (ev 15) e_int (nomark _)) e_int e_non) a_nil)))))
     (ss_cons (s_if (PW3.pt (t_or (t_cmp (o_eqO u_own___eq__ u_eqnf_Loop hG (hr.mono (by decide))) (ev 5) (e_make u_make_0 hG (hr.mono (by decide)) (a_cons (ev 3) (a_cons (ev 4) a_nil))) (nomark _)) (t_or1 (t_not (t_cmp (o_neO u_own___eq__ u_eqnf_Loop u_nenf_Loop hG (hr.mono (by decide))) (ev 5) (e_make u_make_0 hG (hr.mono (by decide)) (a_cons (ev 3) (a_cons (ev 4) a_nil))) (nomark _)))))) (ss_one (s_ret e_bl)) ss_nil)
     (ss_cons (s_expr (e_callO u_callo___call__ hG (hr.mono (by decide)) (ev 5) (a_cons (ev 11) a_nil)))
     (ss_cons (s_if (PW3.pt (t_or (t_cmp (o_ne hu) (e_callB (c_repr hG hu2) z_repr (by decide +kernel) (a_cons (e_tup (a_cons (ev 10) (a_cons (ev 11) (a_cons (ev 4) a_nil)))) a_nil)) (ev 12) (nomark _)) (t_or (t_cmp (o_ne hu) (e_callB (c_repr hG hu2) z_repr (by decide +kernel) (a_cons (ev 13) a_nil)) (ev 14) (nomark _)) (t_or1 (t_cmp (o_eq hu) (e_callB (c_repr hG hu2) z_repr (by decide +kernel) (a_cons (e_prop u_prop_step hG (hr.mono (by decide)) (ev 5)) a_nil)) (e_callB (c_repr hG hu2) z_repr (by decide +kernel) (a_cons (ev 10) a_nil)) (nomark _)))))) (ss_one (s_ret e_bl)) ss_nil)
     (ss_cons (s_expr (e_meth0 u_meth_undo hG (hr.mono (by decide)) (passXE hE) (ev 5)))
     (ss_one (s_if (PW3.pt (t_or (t_not (t_cmp (o_eqO u_own___eq__ u_eqnf_Loop hG (hr.mono (by decide))) (ev 5) (e_make u_make_0 hG (hr.mono (by decide)) (a_cons (ev 3) (a_cons (ev 4) a_nil))) (nomark _))) (t_or (t_cmp (o_ne hu) (e_callB (c_repr hG hu2) z_repr (by decide +kernel) (a_cons (e_prop u_prop_step hG (hr.mono (by decide)) (ev 5)) a_nil)) (e_callB (c_repr hG hu2) z_repr (by decide +kernel) (a_cons (ev 10) a_nil)) (nomark _)) (t_or1 (t_cmp (o_ne hu) (e_callB (c_repr hG hu2) z_repr (by decide +kernel) (a_cons (e_callO u_callo___call__ hG (hr.mono (by decide)) (ev 5) (a_cons (ev 11) a_nil)) a_nil)) (ev 14) (nomark _)))))) (ss_one (s_ret e_bl)) ss_nil))))))))))))))))))))
     (ss_one (s_ret e_bl))))
end
end W
set_option Elab.async false
set_option linter.all false
set_option maxRecDepth 100000
set_option maxHeartbeats 4000000
namespace W
open PySem PySem.Spec PyProof.Rows L2 L3
theorem m_lesser : SLesser sp_lesser := L3.s_lesser
theorem m_joined : SJoined sp_joined := L3.s_joined
theorem m_closed : SClosed sp_closed := L3.s_closed m_lesser m_joined
theorem m_only : SOnly sp_only := L3.s_only m_closed
theorem m_put : SPut sp_put_together := L3.s_put m_lesser
theorem m_places : SPlaces sp_places_of := L3.s_places
theorem m_news : SNews sp_news := L3.s_news m_put m_places m_only
theorem m_next : SNext sp__law_next := L3.s_next (by decide)
theorem m_draws : SDraws sp__law_draws := L3.s_draws (by decide)
theorem m_end : SEndL sp__law_end := L3.s_endL m_next
theorem m_table : STableM sp__law_table := L3.s_tableK
theorem m_field : SFieldK sp__law_field := L3.s_fieldK m_next m_end m_table
theorem m_rows : SRowsL sp__law_loop_rows := L3.s_rowsL m_next m_end
theorem m_ints : SInts sp_integers_of := L3.s_ints
theorem m_stepL : SStepL sp_Loop_step := L3.s_stepL
theorem m_lenL : SLenL sp_Loop___len__ := L3.s_lenL m_ints
theorem m_reprL : SReprL sp_Loop___repr__ := L3.s_reprL m_lenL
theorem m_initL : SInitL sp_Loop___init__ := L3.s_initL
theorem m_putL : SPutL sp_Loop_put := L3.s_putL
theorem m_undo : SUndo sp_Loop_undo := L3.s_undo
theorem m_callL : SCallL sp_Loop___call__ sp_news := L3.s_callL m_stepL
theorem m_eqL : SEqL sp_Loop___eq__ := L3.s_eqL m_stepL
theorem ends_at {B n p q : Nat} {T : Tab} (en : Ends B T) (sq : Sq n T) (hp : p < n) (hq : q < n) : EdB B (at2 T p q) := by
  obtain ⟨r, h1, h2, _⟩ := sq.get (p := (p : Int)) (q := (q : Int)) (by omega) (by omega) (by omega) (by omega)
  exact en r (List.mem_of_getElem? h1) _ (List.mem_of_getElem? h2)
theorem wide_of {w : Nat} (h0 : 0 < w) (h3 : w ≤ 3) : ∃ w' : Nat, 1 + (w : Int).fmod 3 = w' ∧ w' ≠ w ∧ w' ≤ 3 := by
  obtain rfl | rfl | rfl : w = 1 ∨ w = 2 ∨ w = 3 := by omega
  · exact ⟨2, by decide, by decide, by decide⟩
  · exact ⟨3, by decide, by decide, by decide⟩
  · exact ⟨1, by decide, by decide, by decide⟩
theorem ex_other {e : Ed} {τ : St3} {M : Mp} {Q : VK3} (h : getS τ 15 = some (oD e)) (q : Q (oD (otherE e)) M) : wIf (wB (wOp (oEq true) (wVar 15) (wC (.int 5)))) (wC (.int 5)) (wC .non) τ M Q := by
  rw [ex_if, ex_b, ex_op, ex_var, h, asS_some, ex_c]
  unfold otherE at q
  cases e with
  | none =>
    rw [if_neg (by simp)] at q
    simp only [oD, op_eqNt, pl_non, pl_int, tp_int, true_and, asB_bl]
    rw [show (!eqD .non (.int 5)) = true from by simp [eqD, pdOf, PyData.eqv], ite3_t]
    exact q
  | some i =>
    simp only [oD, op_eqIt, pl_int, tp_int, eqD_int, true_and, asB_bl]
    by_cases hi : i = 5
    · rw [if_pos (by rw [hi])] at q
      rw [decide_eq_true hi]; exact q
    · rw [if_neg (by simpa using hi)] at q
      rw [decide_eq_false hi]; exact q
theorem in3 {b o e p : Addr} {as : List Addr} (h : b ∉ o :: e :: p :: as) : b ∉ p :: as := fun z => h (by simp only [List.mem_cons] at z ⊢; exact .inr (.inr z))
/-- what a loop is not equal to -/
theorem others {o : Addr} {w k : Nat} {ts : List Trip} {T : Tab} {M : Mp} : ∀ d ∈ [D.non, .int 7, .str ("Loop" : Str), .tup (ts.map tripD), tabD T, .rol [.ref o], .int w, .tup [], .bl true, .str (loopS w k)], ∃ t, tyN M d = some t ∧ t ∈ bTys := by
  intro d hd
  simp only [List.mem_cons, List.not_mem_nil, or_false] at hd
  rcases hd with rfl | rfl | rfl | rfl | rfl | rfl | rfl | rfl | rfl | rfl <;> exact ⟨_, rfl, by decide⟩
theorem m_law {s1 s2 s3 s4 s5 s6 s7 s8 s9 s10 s11 sn : Sp3} (k1 : SDraws s1) (k2 : SNext s2) (k3 : SRowsL s3) (k4 : SFieldK s4) (k5 : SInitL s5) (k6 : SReprL s6) (k7 : SStepL s7) (k8 : SEqL s8) (k9 : SCallL s9 sn) (kn : SNews sn) (k10 : SPutL s10) (k11 : SUndo s11) (ns : List Int) :
    spOf 1 16 (r_law s1 s2 s3 s4 s5 s6 s7 s8 s9 s10 s11) [.rol (ns.map D.int)] M0 (fun v _ => v = .bl true) (fun _ _ _ => False) := by
  refine ⟨rfl, ?_⟩
  show r_law s1 s2 s3 s4 s5 s6 s7 s8 s9 s10 s11 _ _ [some (.rol (ns.map D.int)), none, none, none, none, none, none, none, none, none, none, none, none, none, none, none] M0
  unfold r_law
  have big : (1000000 : Nat) ≤ sizeLine := by decide
  rw [st_seq, st_set]
  simp only [ex_c, ex_var, ex_op, ex_un, ex_b, ex_and, ex_or, ex_not, ex_andV, ex_orV, ex_notV, ex_if, ex_chain, ex_nil, ex_cons, ex_tup, ex_lst, ex_call, ex_callP, ex_cb, ex_bm, ex_rep, ex_sl, ex_noPart, ex_part, ex_yes, it_items, it_rng1, it_rng2, tg_name, tg_sub, tg_tup, tg_cons, tg_nil, gs_0, gs_s, ss_0, ss_s, op_ii, op_ss, op_tt, op_mm, op_sb, op_ng, op_iNf, op_iNt, op_lle, op_ixT, op_ixR, op_ixL, op_putE, op_appE, it_tupE, it_rolE, it_refE, lstOf_l, exL, asS_some, asI_int, asB_bl, asL_some, asN_some, ite3_t, ite3_f, bl_1, bl_lenT, bl_lenR, bl_lenL, bl_lenS, bl_tuple, bl_list, bl_abs, bl_intI, bl_intB, bl_max, bl_min, op_eqSf, op_eqSt, op_eqIf, op_eqIt, op_eqTf, op_eqTt, op_eqRf, op_eqRt, op_eqNf, op_eqNt, eqD_int, eqD_nil, pl_int, pl_nil, pl_non, pl_rnil, pl_bl, sl_tupE, sl_rolE, keep_ref, keep_tup, keep_rol, tp_int, tp_tup, tp_rol, tp_str, tp_bl, tp_non, tp_ref, oFd, oMd, oPw, oShl, oLt, oLe, oGt, oGe, op_in, op_cp, wipe_nil, wipe_cons, mset_same, true_and, and_true, isN_int, ex_lstF, ex_repF, ex_lgF1, ex_lgF2, ex_tupRg1, ex_tupRg2, ex_frz, ex_slF, ex_slM, sl_tupF, sl_rolF, op_iiF, op_ssF, op_ttF, op_rrF, op_rrM, op_mmF, op_repF, li_rol, li_ref, bl_listF, bl_allF, bl_anyF, asT_some, asJ_some, op_eqBf, op_eqBt, isN_non, Bool.not_true, Bool.not_false, rep2]
  refine k1 _ _ _ _ fun a M1 _ f _ => ?_
  try dsimp only
  rw [st_seq, st_for]
  simp only [ex_c, ex_var, ex_op, ex_un, ex_b, ex_and, ex_or, ex_not, ex_andV, ex_orV, ex_notV, ex_if, ex_chain, ex_nil, ex_cons, ex_tup, ex_lst, ex_call, ex_callP, ex_cb, ex_bm, ex_rep, ex_sl, ex_noPart, ex_part, ex_yes, it_items, it_rng1, it_rng2, tg_name, tg_sub, tg_tup, tg_cons, tg_nil, gs_0, gs_s, ss_0, ss_s, op_ii, op_ss, op_tt, op_mm, op_sb, op_ng, op_iNf, op_iNt, op_lle, op_ixT, op_ixR, op_ixL, op_putE, op_appE, it_tupE, it_rolE, it_refE, lstOf_l, exL, asS_some, asI_int, asB_bl, asL_some, asN_some, ite3_t, ite3_f, bl_1, bl_lenT, bl_lenR, bl_lenL, bl_lenS, bl_tuple, bl_list, bl_abs, bl_intI, bl_intB, bl_max, bl_min, op_eqSf, op_eqSt, op_eqIf, op_eqIt, op_eqTf, op_eqTt, op_eqRf, op_eqRt, op_eqNf, op_eqNt, eqD_int, eqD_nil, pl_int, pl_nil, pl_non, pl_rnil, pl_bl, sl_tupE, sl_rolE, keep_ref, keep_tup, keep_rol, tp_int, tp_tup, tp_rol, tp_str, tp_bl, tp_non, tp_ref, oFd, oMd, oPw, oShl, oLt, oLe, oGt, oGe, op_in, op_cp, wipe_nil, wipe_cons, mset_same, true_and, and_true, isN_int, ex_lstF, ex_repF, ex_lgF1, ex_lgF2, ex_tupRg1, ex_tupRg2, ex_frz, ex_slF, ex_slM, sl_tupF, sl_rolF, op_iiF, op_ssF, op_ttF, op_rrF, op_rrM, op_mmF, op_repF, li_rol, li_ref, bl_listF, bl_allF, bl_anyF, asT_some, asJ_some, op_eqBf, op_eqBt, isN_non, Bool.not_true, Bool.not_false, rep2]
  refine ⟨by decide, by decide, ?_⟩
  refine for_rg (fun i τ M => Feed M a ∧ ∃ x2 x3 x4 x5 x6 x7 x8 x9 x10 x11 x12 x13 x14 x15, τ = [some (.rol (ns.map D.int)), some (.ref a), x2, x3, x4, x5, x6, x7, x8, x9, x10, x11, x12, x13, x14, x15]) ?_ ?_ ⟨f, _, _, _, _, _, _, _, _, _, _, _, _, _, _, rfl⟩
  rotate_left
  · rintro τ M ⟨f, x2, x3, x4, x5, x6, x7, x8, x9, x10, x11, x12, x13, x14, x15, rfl⟩
    try dsimp only
    rw [st_ret]
    simp only [ex_c, ex_var, ex_op, ex_un, ex_b, ex_and, ex_or, ex_not, ex_andV, ex_orV, ex_notV, ex_if, ex_chain, ex_nil, ex_cons, ex_tup, ex_lst, ex_call, ex_callP, ex_cb, ex_bm, ex_rep, ex_sl, ex_noPart, ex_part, ex_yes, it_items, it_rng1, it_rng2, tg_name, tg_sub, tg_tup, tg_cons, tg_nil, gs_0, gs_s, ss_0, ss_s, op_ii, op_ss, op_tt, op_mm, op_sb, op_ng, op_iNf, op_iNt, op_lle, op_ixT, op_ixR, op_ixL, op_putE, op_appE, it_tupE, it_rolE, it_refE, lstOf_l, exL, asS_some, asI_int, asB_bl, asL_some, asN_some, ite3_t, ite3_f, bl_1, bl_lenT, bl_lenR, bl_lenL, bl_lenS, bl_tuple, bl_list, bl_abs, bl_intI, bl_intB, bl_max, bl_min, op_eqSf, op_eqSt, op_eqIf, op_eqIt, op_eqTf, op_eqTt, op_eqRf, op_eqRt, op_eqNf, op_eqNt, eqD_int, eqD_nil, pl_int, pl_nil, pl_non, pl_rnil, pl_bl, sl_tupE, sl_rolE, keep_ref, keep_tup, keep_rol, tp_int, tp_tup, tp_rol, tp_str, tp_bl, tp_non, tp_ref, oFd, oMd, oPw, oShl, oLt, oLe, oGt, oGe, op_in, op_cp, wipe_nil, wipe_cons, mset_same, true_and, and_true, isN_int, ex_lstF, ex_repF, ex_lgF1, ex_lgF2, ex_tupRg1, ex_tupRg2, ex_frz, ex_slF, ex_slM, sl_tupF, sl_rolF, op_iiF, op_ssF, op_ttF, op_rrF, op_rrM, op_mmF, op_repF, li_rol, li_ref, bl_listF, bl_allF, bl_anyF, asT_some, asJ_some, op_eqBf, op_eqBt, isN_non, Bool.not_true, Bool.not_false, rep2]
  clear f
  rintro i τ M hi ⟨f, x2, x3, x4, x5, x6, x7, x8, x9, x10, x11, x12, x13, x14, x15, rfl⟩ X hX
  rw [tg_name, st_seq, st_set]
  simp only [ex_c, ex_var, ex_op, ex_un, ex_b, ex_and, ex_or, ex_not, ex_andV, ex_orV, ex_notV, ex_if, ex_chain, ex_nil, ex_cons, ex_tup, ex_lst, ex_call, ex_callP, ex_cb, ex_bm, ex_rep, ex_sl, ex_noPart, ex_part, ex_yes, it_items, it_rng1, it_rng2, tg_name, tg_sub, tg_tup, tg_cons, tg_nil, gs_0, gs_s, ss_0, ss_s, op_ii, op_ss, op_tt, op_mm, op_sb, op_ng, op_iNf, op_iNt, op_lle, op_ixT, op_ixR, op_ixL, op_putE, op_appE, it_tupE, it_rolE, it_refE, lstOf_l, exL, asS_some, asI_int, asB_bl, asL_some, asN_some, ite3_t, ite3_f, bl_1, bl_lenT, bl_lenR, bl_lenL, bl_lenS, bl_tuple, bl_list, bl_abs, bl_intI, bl_intB, bl_max, bl_min, op_eqSf, op_eqSt, op_eqIf, op_eqIt, op_eqTf, op_eqTt, op_eqRf, op_eqRt, op_eqNf, op_eqNt, eqD_int, eqD_nil, pl_int, pl_nil, pl_non, pl_rnil, pl_bl, sl_tupE, sl_rolE, keep_ref, keep_tup, keep_rol, tp_int, tp_tup, tp_rol, tp_str, tp_bl, tp_non, tp_ref, oFd, oMd, oPw, oShl, oLt, oLe, oGt, oGe, op_in, op_cp, wipe_nil, wipe_cons, mset_same, true_and, and_true, isN_int, ex_lstF, ex_repF, ex_lgF1, ex_lgF2, ex_tupRg1, ex_tupRg2, ex_frz, ex_slF, ex_slM, sl_tupF, sl_rolF, op_iiF, op_ssF, op_ttF, op_rrF, op_rrM, op_mmF, op_repF, li_rol, li_ref, bl_listF, bl_allF, bl_anyF, asT_some, asJ_some, op_eqBf, op_eqBt, isN_non, Bool.not_true, Bool.not_false, rep2]
  refine k2 _ _ _ _ _ f (by decide) (by decide) fun r M2 h0 h1 f2 _ => ?_
  obtain ⟨w, hw⟩ : ∃ w : Nat, 1 + r = w := ⟨(1 + r).toNat, by omega⟩
  simp only [ex_c, ex_var, ex_op, ex_un, ex_b, ex_and, ex_or, ex_not, ex_andV, ex_orV, ex_notV, ex_if, ex_chain, ex_nil, ex_cons, ex_tup, ex_lst, ex_call, ex_callP, ex_cb, ex_bm, ex_rep, ex_sl, ex_noPart, ex_part, ex_yes, it_items, it_rng1, it_rng2, tg_name, tg_sub, tg_tup, tg_cons, tg_nil, gs_0, gs_s, ss_0, ss_s, op_ii, op_ss, op_tt, op_mm, op_sb, op_ng, op_iNf, op_iNt, op_lle, op_ixT, op_ixR, op_ixL, op_putE, op_appE, it_tupE, it_rolE, it_refE, lstOf_l, exL, asS_some, asI_int, asB_bl, asL_some, asN_some, ite3_t, ite3_f, bl_1, bl_lenT, bl_lenR, bl_lenL, bl_lenS, bl_tuple, bl_list, bl_abs, bl_intI, bl_intB, bl_max, bl_min, op_eqSf, op_eqSt, op_eqIf, op_eqIt, op_eqTf, op_eqTt, op_eqRf, op_eqRt, op_eqNf, op_eqNt, eqD_int, eqD_nil, pl_int, pl_nil, pl_non, pl_rnil, pl_bl, sl_tupE, sl_rolE, keep_ref, keep_tup, keep_rol, tp_int, tp_tup, tp_rol, tp_str, tp_bl, tp_non, tp_ref, oFd, oMd, oPw, oShl, oLt, oLe, oGt, oGe, op_in, op_cp, wipe_nil, wipe_cons, mset_same, true_and, and_true, isN_int, ex_lstF, ex_repF, ex_lgF1, ex_lgF2, ex_tupRg1, ex_tupRg2, ex_frz, ex_slF, ex_slM, sl_tupF, sl_rolF, op_iiF, op_ssF, op_ttF, op_rrF, op_rrM, op_mmF, op_repF, li_rol, li_ref, bl_listF, bl_allF, bl_anyF, asT_some, asJ_some, op_eqBf, op_eqBt, isN_non, Bool.not_true, Bool.not_false, rep2, hw]
  try dsimp only
  rw [st_seq, st_set]
  simp only [ex_c, ex_var, ex_op, ex_un, ex_b, ex_and, ex_or, ex_not, ex_andV, ex_orV, ex_notV, ex_if, ex_chain, ex_nil, ex_cons, ex_tup, ex_lst, ex_call, ex_callP, ex_cb, ex_bm, ex_rep, ex_sl, ex_noPart, ex_part, ex_yes, it_items, it_rng1, it_rng2, tg_name, tg_sub, tg_tup, tg_cons, tg_nil, gs_0, gs_s, ss_0, ss_s, op_ii, op_ss, op_tt, op_mm, op_sb, op_ng, op_iNf, op_iNt, op_lle, op_ixT, op_ixR, op_ixL, op_putE, op_appE, it_tupE, it_rolE, it_refE, lstOf_l, exL, asS_some, asI_int, asB_bl, asL_some, asN_some, ite3_t, ite3_f, bl_1, bl_lenT, bl_lenR, bl_lenL, bl_lenS, bl_tuple, bl_list, bl_abs, bl_intI, bl_intB, bl_max, bl_min, op_eqSf, op_eqSt, op_eqIf, op_eqIt, op_eqTf, op_eqTt, op_eqRf, op_eqRt, op_eqNf, op_eqNt, eqD_int, eqD_nil, pl_int, pl_nil, pl_non, pl_rnil, pl_bl, sl_tupE, sl_rolE, keep_ref, keep_tup, keep_rol, tp_int, tp_tup, tp_rol, tp_str, tp_bl, tp_non, tp_ref, oFd, oMd, oPw, oShl, oLt, oLe, oGt, oGe, op_in, op_cp, wipe_nil, wipe_cons, mset_same, true_and, and_true, isN_int, ex_lstF, ex_repF, ex_lgF1, ex_lgF2, ex_tupRg1, ex_tupRg2, ex_frz, ex_slF, ex_slM, sl_tupF, sl_rolF, op_iiF, op_ssF, op_ttF, op_rrF, op_rrM, op_mmF, op_repF, li_rol, li_ref, bl_listF, bl_allF, bl_anyF, asT_some, asJ_some, op_eqBf, op_eqBt, isN_non, Bool.not_true, Bool.not_false, rep2]
  refine k3 _ w 8 _ _ _ f2 (by omega) (by decide) (by decide) fun ts M3 hts htl f3 _ => ?_
  have hin : ∀ t ∈ ts, In2 (2 * (w : Int) + 1) t := fun t ht => (hts t ht).1
  have en : Ends 100 (setTs (2 * w + 1) ts) := setTs_ends fun t ht => Nat.lt_trans (hts t ht).2 (by decide)
  try dsimp only
  rw [st_seq, st_set]
  simp only [ex_c, ex_var, ex_op, ex_un, ex_b, ex_and, ex_or, ex_not, ex_andV, ex_orV, ex_notV, ex_if, ex_chain, ex_nil, ex_cons, ex_tup, ex_lst, ex_call, ex_callP, ex_cb, ex_bm, ex_rep, ex_sl, ex_noPart, ex_part, ex_yes, it_items, it_rng1, it_rng2, tg_name, tg_sub, tg_tup, tg_cons, tg_nil, gs_0, gs_s, ss_0, ss_s, op_ii, op_ss, op_tt, op_mm, op_sb, op_ng, op_iNf, op_iNt, op_lle, op_ixT, op_ixR, op_ixL, op_putE, op_appE, it_tupE, it_rolE, it_refE, lstOf_l, exL, asS_some, asI_int, asB_bl, asL_some, asN_some, ite3_t, ite3_f, bl_1, bl_lenT, bl_lenR, bl_lenL, bl_lenS, bl_tuple, bl_list, bl_abs, bl_intI, bl_intB, bl_max, bl_min, op_eqSf, op_eqSt, op_eqIf, op_eqIt, op_eqTf, op_eqTt, op_eqRf, op_eqRt, op_eqNf, op_eqNt, eqD_int, eqD_nil, pl_int, pl_nil, pl_non, pl_rnil, pl_bl, sl_tupE, sl_rolE, keep_ref, keep_tup, keep_rol, tp_int, tp_tup, tp_rol, tp_str, tp_bl, tp_non, tp_ref, oFd, oMd, oPw, oShl, oLt, oLe, oGt, oGe, op_in, op_cp, wipe_nil, wipe_cons, mset_same, true_and, and_true, isN_int, ex_lstF, ex_repF, ex_lgF1, ex_lgF2, ex_tupRg1, ex_tupRg2, ex_frz, ex_slF, ex_slM, sl_tupF, sl_rolF, op_iiF, op_ssF, op_ttF, op_rrF, op_rrM, op_mmF, op_repF, li_rol, li_ref, bl_listF, bl_allF, bl_anyF, asT_some, asJ_some, op_eqBf, op_eqBt, isN_non, Bool.not_true, Bool.not_false, rep2, ex_make]
  refine init_new k5 (by omega) hin fun o e p as M4 lp fresh le4 => ?_
  have f4 : Feed M4 a := f3.le le4
  have af : a ∉ o :: e :: p :: as := fun z => by
    have := fresh a z
    obtain ⟨_, _, _, h⟩ := f3
    rw [h] at this; cases this
  clear fresh le4
  have tT : TabB 100 (2 * w + 1) (setTs (2 * w + 1) ts) := .of lp.sq en
  generalize hT : setTs (2 * w + 1) ts = T at *
  try dsimp only
  rw [st_seq, st_for]
  simp only [ex_c, ex_var, ex_op, ex_un, ex_b, ex_and, ex_or, ex_not, ex_andV, ex_orV, ex_notV, ex_if, ex_chain, ex_nil, ex_cons, ex_tup, ex_lst, ex_call, ex_callP, ex_cb, ex_bm, ex_rep, ex_sl, ex_noPart, ex_part, ex_yes, it_items, it_rng1, it_rng2, tg_name, tg_sub, tg_tup, tg_cons, tg_nil, gs_0, gs_s, ss_0, ss_s, op_ii, op_ss, op_tt, op_mm, op_sb, op_ng, op_iNf, op_iNt, op_lle, op_ixT, op_ixR, op_ixL, op_putE, op_appE, it_tupE, it_rolE, it_refE, lstOf_l, exL, asS_some, asI_int, asB_bl, asL_some, asN_some, ite3_t, ite3_f, bl_1, bl_lenT, bl_lenR, bl_lenL, bl_lenS, bl_tuple, bl_list, bl_abs, bl_intI, bl_intB, bl_max, bl_min, op_eqSf, op_eqSt, op_eqIf, op_eqIt, op_eqTf, op_eqTt, op_eqRf, op_eqRt, op_eqNf, op_eqNt, eqD_int, eqD_nil, pl_int, pl_nil, pl_non, pl_rnil, pl_bl, sl_tupE, sl_rolE, keep_ref, keep_tup, keep_rol, tp_int, tp_tup, tp_rol, tp_str, tp_bl, tp_non, tp_ref, oFd, oMd, oPw, oShl, oLt, oLe, oGt, oGe, op_in, op_cp, wipe_nil, wipe_cons, mset_same, true_and, and_true, isN_int, ex_lstF, ex_repF, ex_lgF1, ex_lgF2, ex_tupRg1, ex_tupRg2, ex_frz, ex_slF, ex_slM, sl_tupF, sl_rolF, op_iiF, op_ssF, op_ttF, op_rrF, op_rrM, op_mmF, op_repF, li_rol, li_ref, bl_listF, bl_allF, bl_anyF, asT_some, asJ_some, op_eqBf, op_eqBt, isN_non, Bool.not_true, Bool.not_false, rep2, ex_prop, asIn_ref lp.ob]
  refine k7 _ _ _ _ _ _ _ _ _ _ lp (by omega) ?_
  simp only [ex_c, ex_var, ex_op, ex_un, ex_b, ex_and, ex_or, ex_not, ex_andV, ex_orV, ex_notV, ex_if, ex_chain, ex_nil, ex_cons, ex_tup, ex_lst, ex_call, ex_callP, ex_cb, ex_bm, ex_rep, ex_sl, ex_noPart, ex_part, ex_yes, it_items, it_rng1, it_rng2, tg_name, tg_sub, tg_tup, tg_cons, tg_nil, gs_0, gs_s, ss_0, ss_s, op_ii, op_ss, op_tt, op_mm, op_sb, op_ng, op_iNf, op_iNt, op_lle, op_ixT, op_ixR, op_ixL, op_putE, op_appE, it_tupE, it_rolE, it_refE, lstOf_l, exL, asS_some, asI_int, asB_bl, asL_some, asN_some, ite3_t, ite3_f, bl_1, bl_lenT, bl_lenR, bl_lenL, bl_lenS, bl_tuple, bl_list, bl_abs, bl_intI, bl_intB, bl_max, bl_min, op_eqSf, op_eqSt, op_eqIf, op_eqIt, op_eqTf, op_eqTt, op_eqRf, op_eqRt, op_eqNf, op_eqNt, eqD_int, eqD_nil, pl_int, pl_nil, pl_non, pl_rnil, pl_bl, sl_tupE, sl_rolE, keep_ref, keep_tup, keep_rol, tp_int, tp_tup, tp_rol, tp_str, tp_bl, tp_non, tp_ref, oFd, oMd, oPw, oShl, oLt, oLe, oGt, oGe, op_in, op_cp, wipe_nil, wipe_cons, mset_same, true_and, and_true, isN_int, ex_lstF, ex_repF, ex_lgF1, ex_lgF2, ex_tupRg1, ex_tupRg2, ex_frz, ex_slF, ex_slM, sl_tupF, sl_rolF, op_iiF, op_ssF, op_ttF, op_rrF, op_rrM, op_mmF, op_repF, li_rol, li_ref, bl_listF, bl_allF, bl_anyF, asT_some, asJ_some, op_eqBf, op_eqBt, isN_non, Bool.not_true, Bool.not_false, rep2, bl_reprO, asIn_ref lp.ob]
  have shT : Sh (tabD T) := (Tm.tab tT (by decide)).fits (by decide) (Nat.le_trans (Nat.mul_le_mul (show 2 * w + 1 ≤ 7 by omega) (show 2 * w + 1 + 1 ≤ 8 by omega)) (by decide))
  refine ⟨by show 1 ≤ sizeLine; omega, Nat.zero_le _, ?_⟩
  refine k6 _ _ _ _ _ _ _ _ _ _ lp (by omega) ?_
  rw [asSt_s]
  refine ⟨by show 10 ≤ sizeLine; omega, ?_⟩
  refine for_pv (fun j τ M' => M' = M4 ∧ ∃ x6, τ = [some (.rol (ns.map D.int)), some (.ref a), some (.int (0 + (i : Nat))), some (.int w), some (.tup (ts.map tripD)), some (.ref o), x6, x7, x8, x9, x10, x11, x12, x13, x14, x15]) ?_ ?_ ⟨rfl, _, rfl⟩
  · rintro j d τ M' hd ⟨e0, y6, rfl⟩ Y hY
    rw [e0]
    obtain ⟨t, ht1, ht2⟩ := others (M := M4) d (List.mem_of_getElem? hd)
    refine ⟨True.intro, ?_⟩
    rw [tg_name, st_if]
    simp only [ex_c, ex_var, ex_op, ex_un, ex_b, ex_and, ex_or, ex_not, ex_andV, ex_orV, ex_notV, ex_if, ex_chain, ex_nil, ex_cons, ex_tup, ex_lst, ex_call, ex_callP, ex_cb, ex_bm, ex_rep, ex_sl, ex_noPart, ex_part, ex_yes, it_items, it_rng1, it_rng2, tg_name, tg_sub, tg_tup, tg_cons, tg_nil, gs_0, gs_s, ss_0, ss_s, op_ii, op_ss, op_tt, op_mm, op_sb, op_ng, op_iNf, op_iNt, op_lle, op_ixT, op_ixR, op_ixL, op_putE, op_appE, it_tupE, it_rolE, it_refE, lstOf_l, exL, asS_some, asI_int, asB_bl, asL_some, asN_some, ite3_t, ite3_f, bl_1, bl_lenT, bl_lenR, bl_lenL, bl_lenS, bl_tuple, bl_list, bl_abs, bl_intI, bl_intB, bl_max, bl_min, op_eqSf, op_eqSt, op_eqIf, op_eqIt, op_eqTf, op_eqTt, op_eqRf, op_eqRt, op_eqNf, op_eqNt, eqD_int, eqD_nil, pl_int, pl_nil, pl_non, pl_rnil, pl_bl, sl_tupE, sl_rolE, keep_ref, keep_tup, keep_rol, tp_int, tp_tup, tp_rol, tp_str, tp_bl, tp_non, tp_ref, oFd, oMd, oPw, oShl, oLt, oLe, oGt, oGe, op_in, op_cp, wipe_nil, wipe_cons, mset_same, true_and, and_true, isN_int, ex_lstF, ex_repF, ex_lgF1, ex_lgF2, ex_tupRg1, ex_tupRg2, ex_frz, ex_slF, ex_slM, sl_tupF, sl_rolF, op_iiF, op_ssF, op_ttF, op_rrF, op_rrM, op_mmF, op_repF, li_rol, li_ref, bl_listF, bl_allF, bl_anyF, asT_some, asJ_some, op_eqBf, op_eqBt, isN_non, Bool.not_true, Bool.not_false, rep2]
    refine eqO_n k8 lp ht1 ht2 ?_
    simp only [ex_c, ex_var, ex_op, ex_un, ex_b, ex_and, ex_or, ex_not, ex_andV, ex_orV, ex_notV, ex_if, ex_chain, ex_nil, ex_cons, ex_tup, ex_lst, ex_call, ex_callP, ex_cb, ex_bm, ex_rep, ex_sl, ex_noPart, ex_part, ex_yes, it_items, it_rng1, it_rng2, tg_name, tg_sub, tg_tup, tg_cons, tg_nil, gs_0, gs_s, ss_0, ss_s, op_ii, op_ss, op_tt, op_mm, op_sb, op_ng, op_iNf, op_iNt, op_lle, op_ixT, op_ixR, op_ixL, op_putE, op_appE, it_tupE, it_rolE, it_refE, lstOf_l, exL, asS_some, asI_int, asB_bl, asL_some, asN_some, ite3_t, ite3_f, bl_1, bl_lenT, bl_lenR, bl_lenL, bl_lenS, bl_tuple, bl_list, bl_abs, bl_intI, bl_intB, bl_max, bl_min, op_eqSf, op_eqSt, op_eqIf, op_eqIt, op_eqTf, op_eqTt, op_eqRf, op_eqRt, op_eqNf, op_eqNt, eqD_int, eqD_nil, pl_int, pl_nil, pl_non, pl_rnil, pl_bl, sl_tupE, sl_rolE, keep_ref, keep_tup, keep_rol, tp_int, tp_tup, tp_rol, tp_str, tp_bl, tp_non, tp_ref, oFd, oMd, oPw, oShl, oLt, oLe, oGt, oGe, op_in, op_cp, wipe_nil, wipe_cons, mset_same, true_and, and_true, isN_int, ex_lstF, ex_repF, ex_lgF1, ex_lgF2, ex_tupRg1, ex_tupRg2, ex_frz, ex_slF, ex_slM, sl_tupF, sl_rolF, op_iiF, op_ssF, op_ttF, op_rrF, op_rrM, op_mmF, op_repF, li_rol, li_ref, bl_listF, bl_allF, bl_anyF, asT_some, asJ_some, op_eqBf, op_eqBt, isN_non, Bool.not_true, Bool.not_false, rep2]
    refine neO_n k8 lp ht1 ht2 ?_
    simp only [ex_c, ex_var, ex_op, ex_un, ex_b, ex_and, ex_or, ex_not, ex_andV, ex_orV, ex_notV, ex_if, ex_chain, ex_nil, ex_cons, ex_tup, ex_lst, ex_call, ex_callP, ex_cb, ex_bm, ex_rep, ex_sl, ex_noPart, ex_part, ex_yes, it_items, it_rng1, it_rng2, tg_name, tg_sub, tg_tup, tg_cons, tg_nil, gs_0, gs_s, ss_0, ss_s, op_ii, op_ss, op_tt, op_mm, op_sb, op_ng, op_iNf, op_iNt, op_lle, op_ixT, op_ixR, op_ixL, op_putE, op_appE, it_tupE, it_rolE, it_refE, lstOf_l, exL, asS_some, asI_int, asB_bl, asL_some, asN_some, ite3_t, ite3_f, bl_1, bl_lenT, bl_lenR, bl_lenL, bl_lenS, bl_tuple, bl_list, bl_abs, bl_intI, bl_intB, bl_max, bl_min, op_eqSf, op_eqSt, op_eqIf, op_eqIt, op_eqTf, op_eqTt, op_eqRf, op_eqRt, op_eqNf, op_eqNt, eqD_int, eqD_nil, pl_int, pl_nil, pl_non, pl_rnil, pl_bl, sl_tupE, sl_rolE, keep_ref, keep_tup, keep_rol, tp_int, tp_tup, tp_rol, tp_str, tp_bl, tp_non, tp_ref, oFd, oMd, oPw, oShl, oLt, oLe, oGt, oGe, op_in, op_cp, wipe_nil, wipe_cons, mset_same, true_and, and_true, isN_int, ex_lstF, ex_repF, ex_lgF1, ex_lgF2, ex_tupRg1, ex_tupRg2, ex_frz, ex_slF, ex_slM, sl_tupF, sl_rolF, op_iiF, op_ssF, op_ttF, op_rrF, op_rrM, op_mmF, op_repF, li_rol, li_ref, bl_listF, bl_allF, bl_anyF, asT_some, asJ_some, op_eqBf, op_eqBt, isN_non, Bool.not_true, Bool.not_false, rep2]
    rw [st_next]
    exact hY _ _ ⟨rfl, _, rfl⟩
  rintro τ M' ⟨e0, y6, rfl⟩
  rw [e0]
  clear e0
  refine ⟨True.intro, ?_⟩
  try dsimp only
  obtain ⟨w', hw', hne, hw3⟩ := wide_of (w := w) (by omega) (by omega)
  rw [st_seq, st_set]
  simp only [ex_c, ex_var, ex_op, ex_un, ex_b, ex_and, ex_or, ex_not, ex_andV, ex_orV, ex_notV, ex_if, ex_chain, ex_nil, ex_cons, ex_tup, ex_lst, ex_call, ex_callP, ex_cb, ex_bm, ex_rep, ex_sl, ex_noPart, ex_part, ex_yes, it_items, it_rng1, it_rng2, tg_name, tg_sub, tg_tup, tg_cons, tg_nil, gs_0, gs_s, ss_0, ss_s, op_ii, op_ss, op_tt, op_mm, op_sb, op_ng, op_iNf, op_iNt, op_lle, op_ixT, op_ixR, op_ixL, op_putE, op_appE, it_tupE, it_rolE, it_refE, lstOf_l, exL, asS_some, asI_int, asB_bl, asL_some, asN_some, ite3_t, ite3_f, bl_1, bl_lenT, bl_lenR, bl_lenL, bl_lenS, bl_tuple, bl_list, bl_abs, bl_intI, bl_intB, bl_max, bl_min, op_eqSf, op_eqSt, op_eqIf, op_eqIt, op_eqTf, op_eqTt, op_eqRf, op_eqRt, op_eqNf, op_eqNt, eqD_int, eqD_nil, pl_int, pl_nil, pl_non, pl_rnil, pl_bl, sl_tupE, sl_rolE, keep_ref, keep_tup, keep_rol, tp_int, tp_tup, tp_rol, tp_str, tp_bl, tp_non, tp_ref, oFd, oMd, oPw, oShl, oLt, oLe, oGt, oGe, op_in, op_cp, wipe_nil, wipe_cons, mset_same, true_and, and_true, isN_int, ex_lstF, ex_repF, ex_lgF1, ex_lgF2, ex_tupRg1, ex_tupRg2, ex_frz, ex_slF, ex_slM, sl_tupF, sl_rolF, op_iiF, op_ssF, op_ttF, op_rrF, op_rrM, op_mmF, op_repF, li_rol, li_ref, bl_listF, bl_allF, bl_anyF, asT_some, asJ_some, op_eqBf, op_eqBt, isN_non, Bool.not_true, Bool.not_false, rep2, ex_make, hw']
  refine ⟨by decide, Nat.zero_le _, ?_⟩
  refine init_new k5 (ts := []) (by omega) (by simp) fun o2 e2 p2 as2 M5 lp2 _ le5 => ?_
  have f5 := f4.le le5
  have lp5 := lp.le le5
  have neT : T ≠ setTs (2 * w' + 1) [] := fun z => by
    have h1 := lp.sq.rows
    have h2 := lp2.sq.rows
    rw [← z, h1] at h2
    omega
  try dsimp only
  rw [st_seq, st_if]
  simp only [ex_c, ex_var, ex_op, ex_un, ex_b, ex_and, ex_or, ex_not, ex_andV, ex_orV, ex_notV, ex_if, ex_chain, ex_nil, ex_cons, ex_tup, ex_lst, ex_call, ex_callP, ex_cb, ex_bm, ex_rep, ex_sl, ex_noPart, ex_part, ex_yes, it_items, it_rng1, it_rng2, tg_name, tg_sub, tg_tup, tg_cons, tg_nil, gs_0, gs_s, ss_0, ss_s, op_ii, op_ss, op_tt, op_mm, op_sb, op_ng, op_iNf, op_iNt, op_lle, op_ixT, op_ixR, op_ixL, op_putE, op_appE, it_tupE, it_rolE, it_refE, lstOf_l, exL, asS_some, asI_int, asB_bl, asL_some, asN_some, ite3_t, ite3_f, bl_1, bl_lenT, bl_lenR, bl_lenL, bl_lenS, bl_tuple, bl_list, bl_abs, bl_intI, bl_intB, bl_max, bl_min, op_eqSf, op_eqSt, op_eqIf, op_eqIt, op_eqTf, op_eqTt, op_eqRf, op_eqRt, op_eqNf, op_eqNt, eqD_int, eqD_nil, pl_int, pl_nil, pl_non, pl_rnil, pl_bl, sl_tupE, sl_rolE, keep_ref, keep_tup, keep_rol, tp_int, tp_tup, tp_rol, tp_str, tp_bl, tp_non, tp_ref, oFd, oMd, oPw, oShl, oLt, oLe, oGt, oGe, op_in, op_cp, wipe_nil, wipe_cons, mset_same, true_and, and_true, isN_int, ex_lstF, ex_repF, ex_lgF1, ex_lgF2, ex_tupRg1, ex_tupRg2, ex_frz, ex_slF, ex_slM, sl_tupF, sl_rolF, op_iiF, op_ssF, op_ttF, op_rrF, op_rrM, op_mmF, op_repF, li_rol, li_ref, bl_listF, bl_allF, bl_anyF, asT_some, asJ_some, op_eqBf, op_eqBt, isN_non, Bool.not_true, Bool.not_false, rep2]
  refine eqO_l k8 lp5 lp2 (by omega) (by omega) ?_
  rw [decide_eq_false neT]
  simp only [ex_c, ex_var, ex_op, ex_un, ex_b, ex_and, ex_or, ex_not, ex_andV, ex_orV, ex_notV, ex_if, ex_chain, ex_nil, ex_cons, ex_tup, ex_lst, ex_call, ex_callP, ex_cb, ex_bm, ex_rep, ex_sl, ex_noPart, ex_part, ex_yes, it_items, it_rng1, it_rng2, tg_name, tg_sub, tg_tup, tg_cons, tg_nil, gs_0, gs_s, ss_0, ss_s, op_ii, op_ss, op_tt, op_mm, op_sb, op_ng, op_iNf, op_iNt, op_lle, op_ixT, op_ixR, op_ixL, op_putE, op_appE, it_tupE, it_rolE, it_refE, lstOf_l, exL, asS_some, asI_int, asB_bl, asL_some, asN_some, ite3_t, ite3_f, bl_1, bl_lenT, bl_lenR, bl_lenL, bl_lenS, bl_tuple, bl_list, bl_abs, bl_intI, bl_intB, bl_max, bl_min, op_eqSf, op_eqSt, op_eqIf, op_eqIt, op_eqTf, op_eqTt, op_eqRf, op_eqRt, op_eqNf, op_eqNt, eqD_int, eqD_nil, pl_int, pl_nil, pl_non, pl_rnil, pl_bl, sl_tupE, sl_rolE, keep_ref, keep_tup, keep_rol, tp_int, tp_tup, tp_rol, tp_str, tp_bl, tp_non, tp_ref, oFd, oMd, oPw, oShl, oLt, oLe, oGt, oGe, op_in, op_cp, wipe_nil, wipe_cons, mset_same, true_and, and_true, isN_int, ex_lstF, ex_repF, ex_lgF1, ex_lgF2, ex_tupRg1, ex_tupRg2, ex_frz, ex_slF, ex_slM, sl_tupF, sl_rolF, op_iiF, op_ssF, op_ttF, op_rrF, op_rrM, op_mmF, op_repF, li_rol, li_ref, bl_listF, bl_allF, bl_anyF, asT_some, asJ_some, op_eqBf, op_eqBt, isN_non, Bool.not_true, Bool.not_false, rep2]
  refine eqO_l k8 lp2 lp5 (by omega) (by omega) ?_
  rw [decide_eq_false neT.symm]
  simp only [ex_c, ex_var, ex_op, ex_un, ex_b, ex_and, ex_or, ex_not, ex_andV, ex_orV, ex_notV, ex_if, ex_chain, ex_nil, ex_cons, ex_tup, ex_lst, ex_call, ex_callP, ex_cb, ex_bm, ex_rep, ex_sl, ex_noPart, ex_part, ex_yes, it_items, it_rng1, it_rng2, tg_name, tg_sub, tg_tup, tg_cons, tg_nil, gs_0, gs_s, ss_0, ss_s, op_ii, op_ss, op_tt, op_mm, op_sb, op_ng, op_iNf, op_iNt, op_lle, op_ixT, op_ixR, op_ixL, op_putE, op_appE, it_tupE, it_rolE, it_refE, lstOf_l, exL, asS_some, asI_int, asB_bl, asL_some, asN_some, ite3_t, ite3_f, bl_1, bl_lenT, bl_lenR, bl_lenL, bl_lenS, bl_tuple, bl_list, bl_abs, bl_intI, bl_intB, bl_max, bl_min, op_eqSf, op_eqSt, op_eqIf, op_eqIt, op_eqTf, op_eqTt, op_eqRf, op_eqRt, op_eqNf, op_eqNt, eqD_int, eqD_nil, pl_int, pl_nil, pl_non, pl_rnil, pl_bl, sl_tupE, sl_rolE, keep_ref, keep_tup, keep_rol, tp_int, tp_tup, tp_rol, tp_str, tp_bl, tp_non, tp_ref, oFd, oMd, oPw, oShl, oLt, oLe, oGt, oGe, op_in, op_cp, wipe_nil, wipe_cons, mset_same, true_and, and_true, isN_int, ex_lstF, ex_repF, ex_lgF1, ex_lgF2, ex_tupRg1, ex_tupRg2, ex_frz, ex_slF, ex_slM, sl_tupF, sl_rolF, op_iiF, op_ssF, op_ttF, op_rrF, op_rrM, op_mmF, op_repF, li_rol, li_ref, bl_listF, bl_allF, bl_anyF, asT_some, asJ_some, op_eqBf, op_eqBt, isN_non, Bool.not_true, Bool.not_false, rep2, ex_make]
  refine init_new k5 (by omega) hin fun o3 e3 p3 as3 M6 lp3 _ le6 => ?_
  rw [hT] at lp3
  have f6 := f5.le le6
  have lp6 := lp5.le le6
  refine eqO_l k8 lp6 lp3 (by omega) (by omega) ?_
  rw [decide_eq_true rfl]
  simp only [ex_c, ex_var, ex_op, ex_un, ex_b, ex_and, ex_or, ex_not, ex_andV, ex_orV, ex_notV, ex_if, ex_chain, ex_nil, ex_cons, ex_tup, ex_lst, ex_call, ex_callP, ex_cb, ex_bm, ex_rep, ex_sl, ex_noPart, ex_part, ex_yes, it_items, it_rng1, it_rng2, tg_name, tg_sub, tg_tup, tg_cons, tg_nil, gs_0, gs_s, ss_0, ss_s, op_ii, op_ss, op_tt, op_mm, op_sb, op_ng, op_iNf, op_iNt, op_lle, op_ixT, op_ixR, op_ixL, op_putE, op_appE, it_tupE, it_rolE, it_refE, lstOf_l, exL, asS_some, asI_int, asB_bl, asL_some, asN_some, ite3_t, ite3_f, bl_1, bl_lenT, bl_lenR, bl_lenL, bl_lenS, bl_tuple, bl_list, bl_abs, bl_intI, bl_intB, bl_max, bl_min, op_eqSf, op_eqSt, op_eqIf, op_eqIt, op_eqTf, op_eqTt, op_eqRf, op_eqRt, op_eqNf, op_eqNt, eqD_int, eqD_nil, pl_int, pl_nil, pl_non, pl_rnil, pl_bl, sl_tupE, sl_rolE, keep_ref, keep_tup, keep_rol, tp_int, tp_tup, tp_rol, tp_str, tp_bl, tp_non, tp_ref, oFd, oMd, oPw, oShl, oLt, oLe, oGt, oGe, op_in, op_cp, wipe_nil, wipe_cons, mset_same, true_and, and_true, isN_int, ex_lstF, ex_repF, ex_lgF1, ex_lgF2, ex_tupRg1, ex_tupRg2, ex_frz, ex_slF, ex_slM, sl_tupF, sl_rolF, op_iiF, op_ssF, op_ttF, op_rrF, op_rrM, op_mmF, op_repF, li_rol, li_ref, bl_listF, bl_allF, bl_anyF, asT_some, asJ_some, op_eqBf, op_eqBt, isN_non, Bool.not_true, Bool.not_false, rep2, ex_make]
  refine init_new k5 (by omega) hin fun o4 e4 p4 as4 M7 lp4 _ le7 => ?_
  rw [hT] at lp4
  have f7 := f6.le le7
  have lp7 := lp6.le le7
  refine neO_l k8 lp7 lp4 (by omega) (by omega) ?_
  rw [decide_eq_true rfl]
  simp only [ex_c, ex_var, ex_op, ex_un, ex_b, ex_and, ex_or, ex_not, ex_andV, ex_orV, ex_notV, ex_if, ex_chain, ex_nil, ex_cons, ex_tup, ex_lst, ex_call, ex_callP, ex_cb, ex_bm, ex_rep, ex_sl, ex_noPart, ex_part, ex_yes, it_items, it_rng1, it_rng2, tg_name, tg_sub, tg_tup, tg_cons, tg_nil, gs_0, gs_s, ss_0, ss_s, op_ii, op_ss, op_tt, op_mm, op_sb, op_ng, op_iNf, op_iNt, op_lle, op_ixT, op_ixR, op_ixL, op_putE, op_appE, it_tupE, it_rolE, it_refE, lstOf_l, exL, asS_some, asI_int, asB_bl, asL_some, asN_some, ite3_t, ite3_f, bl_1, bl_lenT, bl_lenR, bl_lenL, bl_lenS, bl_tuple, bl_list, bl_abs, bl_intI, bl_intB, bl_max, bl_min, op_eqSf, op_eqSt, op_eqIf, op_eqIt, op_eqTf, op_eqTt, op_eqRf, op_eqRt, op_eqNf, op_eqNt, eqD_int, eqD_nil, pl_int, pl_nil, pl_non, pl_rnil, pl_bl, sl_tupE, sl_rolE, keep_ref, keep_tup, keep_rol, tp_int, tp_tup, tp_rol, tp_str, tp_bl, tp_non, tp_ref, oFd, oMd, oPw, oShl, oLt, oLe, oGt, oGe, op_in, op_cp, wipe_nil, wipe_cons, mset_same, true_and, and_true, isN_int, ex_lstF, ex_repF, ex_lgF1, ex_lgF2, ex_tupRg1, ex_tupRg2, ex_frz, ex_slF, ex_slM, sl_tupF, sl_rolF, op_iiF, op_ssF, op_ttF, op_rrF, op_rrM, op_mmF, op_repF, li_rol, li_ref, bl_listF, bl_allF, bl_anyF, asT_some, asJ_some, op_eqBf, op_eqBt, isN_non, Bool.not_true, Bool.not_false, rep2]
  rw [st_next]
  try dsimp only
  rw [st_seq, st_parE (d := .non) (e := .non)]
  simp only [ex_c, ex_var, ex_op, ex_un, ex_b, ex_and, ex_or, ex_not, ex_andV, ex_orV, ex_notV, ex_if, ex_chain, ex_nil, ex_cons, ex_tup, ex_lst, ex_call, ex_callP, ex_cb, ex_bm, ex_rep, ex_sl, ex_noPart, ex_part, ex_yes, it_items, it_rng1, it_rng2, tg_name, tg_sub, tg_tup, tg_cons, tg_nil, gs_0, gs_s, ss_0, ss_s, op_ii, op_ss, op_tt, op_mm, op_sb, op_ng, op_iNf, op_iNt, op_lle, op_ixT, op_ixR, op_ixL, op_putE, op_appE, it_tupE, it_rolE, it_refE, lstOf_l, exL, asS_some, asI_int, asB_bl, asL_some, asN_some, ite3_t, ite3_f, bl_1, bl_lenT, bl_lenR, bl_lenL, bl_lenS, bl_tuple, bl_list, bl_abs, bl_intI, bl_intB, bl_max, bl_min, op_eqSf, op_eqSt, op_eqIf, op_eqIt, op_eqTf, op_eqTt, op_eqRf, op_eqRt, op_eqNf, op_eqNt, eqD_int, eqD_nil, pl_int, pl_nil, pl_non, pl_rnil, pl_bl, sl_tupE, sl_rolE, keep_ref, keep_tup, keep_rol, tp_int, tp_tup, tp_rol, tp_str, tp_bl, tp_non, tp_ref, oFd, oMd, oPw, oShl, oLt, oLe, oGt, oGe, op_in, op_cp, wipe_nil, wipe_cons, mset_same, true_and, and_true, isN_int, ex_lstF, ex_repF, ex_lgF1, ex_lgF2, ex_tupRg1, ex_tupRg2, ex_frz, ex_slF, ex_slM, sl_tupF, sl_rolF, op_iiF, op_ssF, op_ttF, op_rrF, op_rrM, op_mmF, op_repF, li_rol, li_ref, bl_listF, bl_allF, bl_anyF, asT_some, asJ_some, op_eqBf, op_eqBt, isN_non, Bool.not_true, Bool.not_false, rep2]
  refine ⟨mul2, k2 _ _ _ _ _ f7 (by omega) (by omega) fun x N1 x0 x1 f8 o8 => ?_⟩
  (try simp only [ex_c, ex_var, ex_op, ex_un, ex_b, ex_and, ex_or, ex_not, ex_andV, ex_orV, ex_notV, ex_if, ex_chain, ex_nil, ex_cons, ex_tup, ex_lst, ex_call, ex_callP, ex_cb, ex_bm, ex_rep, ex_sl, ex_noPart, ex_part, ex_yes, it_items, it_rng1, it_rng2, tg_name, tg_sub, tg_tup, tg_cons, tg_nil, gs_0, gs_s, ss_0, ss_s, op_ii, op_ss, op_tt, op_mm, op_sb, op_ng, op_iNf, op_iNt, op_lle, op_ixT, op_ixR, op_ixL, op_putE, op_appE, it_tupE, it_rolE, it_refE, lstOf_l, exL, asS_some, asI_int, asB_bl, asL_some, asN_some, ite3_t, ite3_f, bl_1, bl_lenT, bl_lenR, bl_lenL, bl_lenS, bl_tuple, bl_list, bl_abs, bl_intI, bl_intB, bl_max, bl_min, op_eqSf, op_eqSt, op_eqIf, op_eqIt, op_eqTf, op_eqTt, op_eqRf, op_eqRt, op_eqNf, op_eqNt, eqD_int, eqD_nil, pl_int, pl_nil, pl_non, pl_rnil, pl_bl, sl_tupE, sl_rolE, keep_ref, keep_tup, keep_rol, tp_int, tp_tup, tp_rol, tp_str, tp_bl, tp_non, tp_ref, oFd, oMd, oPw, oShl, oLt, oLe, oGt, oGe, op_in, op_cp, wipe_nil, wipe_cons, mset_same, true_and, and_true, isN_int, ex_lstF, ex_repF, ex_lgF1, ex_lgF2, ex_tupRg1, ex_tupRg2, ex_frz, ex_slF, ex_slM, sl_tupF, sl_rolF, op_iiF, op_ssF, op_ttF, op_rrF, op_rrM, op_mmF, op_repF, li_rol, li_ref, bl_listF, bl_allF, bl_anyF, asT_some, asJ_some, op_eqBf, op_eqBt, isN_non, Bool.not_true, Bool.not_false, rep2])
  refine ⟨mul2, k2 _ _ _ _ _ f8 (by omega) (by omega) fun y N2 y0 y1 f9 o9 => ?_⟩
  have lp9 := (lp7.only o8 af).only o9 af
  try dsimp only
  rw [st_seq, st_parE (d := .non) (e := .non)]
  simp only [ex_c, ex_var, ex_op, ex_un, ex_b, ex_and, ex_or, ex_not, ex_andV, ex_orV, ex_notV, ex_if, ex_chain, ex_nil, ex_cons, ex_tup, ex_lst, ex_call, ex_callP, ex_cb, ex_bm, ex_rep, ex_sl, ex_noPart, ex_part, ex_yes, it_items, it_rng1, it_rng2, tg_name, tg_sub, tg_tup, tg_cons, tg_nil, gs_0, gs_s, ss_0, ss_s, op_ii, op_ss, op_tt, op_mm, op_sb, op_ng, op_iNf, op_iNt, op_lle, op_ixT, op_ixR, op_ixL, op_putE, op_appE, it_tupE, it_rolE, it_refE, lstOf_l, exL, asS_some, asI_int, asB_bl, asL_some, asN_some, ite3_t, ite3_f, bl_1, bl_lenT, bl_lenR, bl_lenL, bl_lenS, bl_tuple, bl_list, bl_abs, bl_intI, bl_intB, bl_max, bl_min, op_eqSf, op_eqSt, op_eqIf, op_eqIt, op_eqTf, op_eqTt, op_eqRf, op_eqRt, op_eqNf, op_eqNt, eqD_int, eqD_nil, pl_int, pl_nil, pl_non, pl_rnil, pl_bl, sl_tupE, sl_rolE, keep_ref, keep_tup, keep_rol, tp_int, tp_tup, tp_rol, tp_str, tp_bl, tp_non, tp_ref, oFd, oMd, oPw, oShl, oLt, oLe, oGt, oGe, op_in, op_cp, wipe_nil, wipe_cons, mset_same, true_and, and_true, isN_int, ex_lstF, ex_repF, ex_lgF1, ex_lgF2, ex_tupRg1, ex_tupRg2, ex_frz, ex_slF, ex_slM, sl_tupF, sl_rolF, op_iiF, op_ssF, op_ttF, op_rrF, op_rrM, op_mmF, op_repF, li_rol, li_ref, bl_listF, bl_allF, bl_anyF, asT_some, asJ_some, op_eqBf, op_eqBt, isN_non, Bool.not_true, Bool.not_false, rep2, ex_prop, asIn_ref lp9.ob]
  refine k7 _ _ _ _ _ _ _ _ _ _ lp9 (by omega) ?_
  (try simp only [ex_c, ex_var, ex_op, ex_un, ex_b, ex_and, ex_or, ex_not, ex_andV, ex_orV, ex_notV, ex_if, ex_chain, ex_nil, ex_cons, ex_tup, ex_lst, ex_call, ex_callP, ex_cb, ex_bm, ex_rep, ex_sl, ex_noPart, ex_part, ex_yes, it_items, it_rng1, it_rng2, tg_name, tg_sub, tg_tup, tg_cons, tg_nil, gs_0, gs_s, ss_0, ss_s, op_ii, op_ss, op_tt, op_mm, op_sb, op_ng, op_iNf, op_iNt, op_lle, op_ixT, op_ixR, op_ixL, op_putE, op_appE, it_tupE, it_rolE, it_refE, lstOf_l, exL, asS_some, asI_int, asB_bl, asL_some, asN_some, ite3_t, ite3_f, bl_1, bl_lenT, bl_lenR, bl_lenL, bl_lenS, bl_tuple, bl_list, bl_abs, bl_intI, bl_intB, bl_max, bl_min, op_eqSf, op_eqSt, op_eqIf, op_eqIt, op_eqTf, op_eqTt, op_eqRf, op_eqRt, op_eqNf, op_eqNt, eqD_int, eqD_nil, pl_int, pl_nil, pl_non, pl_rnil, pl_bl, sl_tupE, sl_rolE, keep_ref, keep_tup, keep_rol, tp_int, tp_tup, tp_rol, tp_str, tp_bl, tp_non, tp_ref, oFd, oMd, oPw, oShl, oLt, oLe, oGt, oGe, op_in, op_cp, wipe_nil, wipe_cons, mset_same, true_and, and_true, isN_int, ex_lstF, ex_repF, ex_lgF1, ex_lgF2, ex_tupRg1, ex_tupRg2, ex_frz, ex_slF, ex_slM, sl_tupF, sl_rolF, op_iiF, op_ssF, op_ttF, op_rrF, op_rrM, op_mmF, op_repF, li_rol, li_ref, bl_listF, bl_allF, bl_anyF, asT_some, asJ_some, op_eqBf, op_eqBt, isN_non, Bool.not_true, Bool.not_false, rep2])
  refine k4 _ _ _ _ _ f9 (by omega) (by omega) fun F N3 tF f10 o10 => ?_
  have lp10 := lp9.only o10 af
  have sh3 := three_tm (by omega) tT tF hts htl
  have top3 : ∀ M, L3.top M (D.tup [tabD T, tabD F, .tup (ts.map tripD)]) = D.tup [tabD T, tabD F, .tup (ts.map tripD)] := fun _ => rfl
  try dsimp only
  rw [st_seq, st_set]
  simp only [ex_c, ex_var, ex_op, ex_un, ex_b, ex_and, ex_or, ex_not, ex_andV, ex_orV, ex_notV, ex_if, ex_chain, ex_nil, ex_cons, ex_tup, ex_lst, ex_call, ex_callP, ex_cb, ex_bm, ex_rep, ex_sl, ex_noPart, ex_part, ex_yes, it_items, it_rng1, it_rng2, tg_name, tg_sub, tg_tup, tg_cons, tg_nil, gs_0, gs_s, ss_0, ss_s, op_ii, op_ss, op_tt, op_mm, op_sb, op_ng, op_iNf, op_iNt, op_lle, op_ixT, op_ixR, op_ixL, op_putE, op_appE, it_tupE, it_rolE, it_refE, lstOf_l, exL, asS_some, asI_int, asB_bl, asL_some, asN_some, ite3_t, ite3_f, bl_1, bl_lenT, bl_lenR, bl_lenL, bl_lenS, bl_tuple, bl_list, bl_abs, bl_intI, bl_intB, bl_max, bl_min, op_eqSf, op_eqSt, op_eqIf, op_eqIt, op_eqTf, op_eqTt, op_eqRf, op_eqRt, op_eqNf, op_eqNt, eqD_int, eqD_nil, pl_int, pl_nil, pl_non, pl_rnil, pl_bl, sl_tupE, sl_rolE, keep_ref, keep_tup, keep_rol, tp_int, tp_tup, tp_rol, tp_str, tp_bl, tp_non, tp_ref, oFd, oMd, oPw, oShl, oLt, oLe, oGt, oGe, op_in, op_cp, wipe_nil, wipe_cons, mset_same, true_and, and_true, isN_int, ex_lstF, ex_repF, ex_lgF1, ex_lgF2, ex_tupRg1, ex_tupRg2, ex_frz, ex_slF, ex_slM, sl_tupF, sl_rolF, op_iiF, op_ssF, op_ttF, op_rrF, op_rrM, op_mmF, op_repF, li_rol, li_ref, bl_listF, bl_allF, bl_anyF, asT_some, asJ_some, op_eqBf, op_eqBt, isN_non, Bool.not_true, Bool.not_false, rep2, bl_reprE (top3 _) sh3]
  refine ⟨by show 3 ≤ sizeLine; omega, ?_⟩
  try dsimp only
  rw [st_seq, st_set]
  simp only [ex_c, ex_var, ex_op, ex_un, ex_b, ex_and, ex_or, ex_not, ex_andV, ex_orV, ex_notV, ex_if, ex_chain, ex_nil, ex_cons, ex_tup, ex_lst, ex_call, ex_callP, ex_cb, ex_bm, ex_rep, ex_sl, ex_noPart, ex_part, ex_yes, it_items, it_rng1, it_rng2, tg_name, tg_sub, tg_tup, tg_cons, tg_nil, gs_0, gs_s, ss_0, ss_s, op_ii, op_ss, op_tt, op_mm, op_sb, op_ng, op_iNf, op_iNt, op_lle, op_ixT, op_ixR, op_ixL, op_putE, op_appE, it_tupE, it_rolE, it_refE, lstOf_l, exL, asS_some, asI_int, asB_bl, asL_some, asN_some, ite3_t, ite3_f, bl_1, bl_lenT, bl_lenR, bl_lenL, bl_lenS, bl_tuple, bl_list, bl_abs, bl_intI, bl_intB, bl_max, bl_min, op_eqSf, op_eqSt, op_eqIf, op_eqIt, op_eqTf, op_eqTt, op_eqRf, op_eqRt, op_eqNf, op_eqNt, eqD_int, eqD_nil, pl_int, pl_nil, pl_non, pl_rnil, pl_bl, sl_tupE, sl_rolE, keep_ref, keep_tup, keep_rol, tp_int, tp_tup, tp_rol, tp_str, tp_bl, tp_non, tp_ref, oFd, oMd, oPw, oShl, oLt, oLe, oGt, oGe, op_in, op_cp, wipe_nil, wipe_cons, mset_same, true_and, and_true, isN_int, ex_lstF, ex_repF, ex_lgF1, ex_lgF2, ex_tupRg1, ex_tupRg2, ex_frz, ex_slF, ex_slM, sl_tupF, sl_rolF, op_iiF, op_ssF, op_ttF, op_rrF, op_rrM, op_mmF, op_repF, li_rol, li_ref, bl_listF, bl_allF, bl_anyF, asT_some, asJ_some, op_eqBf, op_eqBt, isN_non, Bool.not_true, Bool.not_false, rep2, ex_callOL, asRf_r, asIn_ref lp10.ob]
  refine k9 _ _ _ _ _ _ _ _ _ _ _ lp10 (by omega) ?_
  refine news_is kn (by omega) tF tT fun im him => ?_
  have shI := him.sh (by omega)
  try dsimp only
  rw [st_seq, st_set]
  simp only [ex_c, ex_var, ex_op, ex_un, ex_b, ex_and, ex_or, ex_not, ex_andV, ex_orV, ex_notV, ex_if, ex_chain, ex_nil, ex_cons, ex_tup, ex_lst, ex_call, ex_callP, ex_cb, ex_bm, ex_rep, ex_sl, ex_noPart, ex_part, ex_yes, it_items, it_rng1, it_rng2, tg_name, tg_sub, tg_tup, tg_cons, tg_nil, gs_0, gs_s, ss_0, ss_s, op_ii, op_ss, op_tt, op_mm, op_sb, op_ng, op_iNf, op_iNt, op_lle, op_ixT, op_ixR, op_ixL, op_putE, op_appE, it_tupE, it_rolE, it_refE, lstOf_l, exL, asS_some, asI_int, asB_bl, asL_some, asN_some, ite3_t, ite3_f, bl_1, bl_lenT, bl_lenR, bl_lenL, bl_lenS, bl_tuple, bl_list, bl_abs, bl_intI, bl_intB, bl_max, bl_min, op_eqSf, op_eqSt, op_eqIf, op_eqIt, op_eqTf, op_eqTt, op_eqRf, op_eqRt, op_eqNf, op_eqNt, eqD_int, eqD_nil, pl_int, pl_nil, pl_non, pl_rnil, pl_bl, sl_tupE, sl_rolE, keep_ref, keep_tup, keep_rol, tp_int, tp_tup, tp_rol, tp_str, tp_bl, tp_non, tp_ref, oFd, oMd, oPw, oShl, oLt, oLe, oGt, oGe, op_in, op_cp, wipe_nil, wipe_cons, mset_same, true_and, and_true, isN_int, ex_lstF, ex_repF, ex_lgF1, ex_lgF2, ex_tupRg1, ex_tupRg2, ex_frz, ex_slF, ex_slM, sl_tupF, sl_rolF, op_iiF, op_ssF, op_ttF, op_rrF, op_rrM, op_mmF, op_repF, li_rol, li_ref, bl_listF, bl_allF, bl_anyF, asT_some, asJ_some, op_eqBf, op_eqBt, isN_non, Bool.not_true, Bool.not_false, rep2, bl_reprE him.top shI]
  try dsimp only
  rw [st_seq, st_set]
  obtain ⟨row, g1, g2⟩ := ix_tab lp10.sq (p := x) (q := y) x0 (by omega) y0 (by omega)
  simp only [ex_c, ex_var, ex_op, ex_un, ex_b, ex_and, ex_or, ex_not, ex_andV, ex_orV, ex_notV, ex_if, ex_chain, ex_nil, ex_cons, ex_tup, ex_lst, ex_call, ex_callP, ex_cb, ex_bm, ex_rep, ex_sl, ex_noPart, ex_part, ex_yes, it_items, it_rng1, it_rng2, tg_name, tg_sub, tg_tup, tg_cons, tg_nil, gs_0, gs_s, ss_0, ss_s, op_ii, op_ss, op_tt, op_mm, op_sb, op_ng, op_iNf, op_iNt, op_lle, op_ixT, op_ixR, op_ixL, op_putE, op_appE, it_tupE, it_rolE, it_refE, lstOf_l, exL, asS_some, asI_int, asB_bl, asL_some, asN_some, ite3_t, ite3_f, bl_1, bl_lenT, bl_lenR, bl_lenL, bl_lenS, bl_tuple, bl_list, bl_abs, bl_intI, bl_intB, bl_max, bl_min, op_eqSf, op_eqSt, op_eqIf, op_eqIt, op_eqTf, op_eqTt, op_eqRf, op_eqRt, op_eqNf, op_eqNt, eqD_int, eqD_nil, pl_int, pl_nil, pl_non, pl_rnil, pl_bl, sl_tupE, sl_rolE, keep_ref, keep_tup, keep_rol, tp_int, tp_tup, tp_rol, tp_str, tp_bl, tp_non, tp_ref, oFd, oMd, oPw, oShl, oLt, oLe, oGt, oGe, op_in, op_cp, wipe_nil, wipe_cons, mset_same, true_and, and_true, isN_int, ex_lstF, ex_repF, ex_lgF1, ex_lgF2, ex_tupRg1, ex_tupRg2, ex_frz, ex_slF, ex_slM, sl_tupF, sl_rolF, op_iiF, op_ssF, op_ttF, op_rrF, op_rrM, op_mmF, op_repF, li_rol, li_ref, bl_listF, bl_allF, bl_anyF, asT_some, asJ_some, op_eqBf, op_eqBt, isN_non, Bool.not_true, Bool.not_false, rep2, g1, g2]
  have hx : x.toNat < 2 * w + 1 := by omega
  have hy : y.toNat < 2 * w + 1 := by omega
  have enA : EdB 100 (at2 T x.toNat y.toNat) := ends_at en lp10.sq hx hy
  try dsimp only
  generalize hO : wIf (wB (wOp (oEq true) (wVar 15) (wC (.int 5)))) (wC (.int 5)) (wC .non) = O
  rw [st_seq, st_drop]
  simp only [ex_c, ex_var, ex_op, ex_un, ex_b, ex_and, ex_or, ex_not, ex_andV, ex_orV, ex_notV, ex_if, ex_chain, ex_nil, ex_cons, ex_tup, ex_lst, ex_call, ex_callP, ex_cb, ex_bm, ex_rep, ex_sl, ex_noPart, ex_part, ex_yes, it_items, it_rng1, it_rng2, tg_name, tg_sub, tg_tup, tg_cons, tg_nil, gs_0, gs_s, ss_0, ss_s, op_ii, op_ss, op_tt, op_mm, op_sb, op_ng, op_iNf, op_iNt, op_lle, op_ixT, op_ixR, op_ixL, op_putE, op_appE, it_tupE, it_rolE, it_refE, lstOf_l, exL, asS_some, asI_int, asB_bl, asL_some, asN_some, ite3_t, ite3_f, bl_1, bl_lenT, bl_lenR, bl_lenL, bl_lenS, bl_tuple, bl_list, bl_abs, bl_intI, bl_intB, bl_max, bl_min, op_eqSf, op_eqSt, op_eqIf, op_eqIt, op_eqTf, op_eqTt, op_eqRf, op_eqRt, op_eqNf, op_eqNt, eqD_int, eqD_nil, pl_int, pl_nil, pl_non, pl_rnil, pl_bl, sl_tupE, sl_rolE, keep_ref, keep_tup, keep_rol, tp_int, tp_tup, tp_rol, tp_str, tp_bl, tp_non, tp_ref, oFd, oMd, oPw, oShl, oLt, oLe, oGt, oGe, op_in, op_cp, wipe_nil, wipe_cons, mset_same, true_and, and_true, isN_int, ex_lstF, ex_repF, ex_lgF1, ex_lgF2, ex_tupRg1, ex_tupRg2, ex_frz, ex_slF, ex_slM, sl_tupF, sl_rolF, op_iiF, op_ssF, op_ttF, op_rrF, op_rrM, op_mmF, op_repF, li_rol, li_ref, bl_listF, bl_allF, bl_anyF, asT_some, asJ_some, op_eqBf, op_eqBt, isN_non, Bool.not_true, Bool.not_false, rep2, ex_meth, asIn_ref lp10.ob]
  refine ⟨rfl, ?_⟩
  rw [← hO]
  clear hO
  refine ex_other (e := at2 T x.toNat y.toNat) rfl ?_
  refine k10 _ _ _ _ _ _ _ _ _ _ _ _ _ lp10 x0 x1 y0 y1 (by simp) fun N4 lp11 oi => ?_
  have f11 : Feed N4 a := f10.to (oi a (in3 af))
  have shP := put_other lp10.sq hx hy en enA
  have neP : putT T x.toNat y.toNat (otherE (at2 T x.toNat y.toNat)) ≠ T := fun z => shP (by rw [z])
  have tP : TabB 100 (2 * w + 1) (putT T x.toNat y.toNat (otherE (at2 T x.toNat y.toNat))) := .of lp11.sq (en.put otherE_b)
  have shU : Sh (tabD (putT T x.toNat y.toNat (otherE (at2 T x.toNat y.toNat)))) := (Tm.tab tP (by decide)).fits (by decide) (Nat.le_trans (Nat.mul_le_mul (show 2 * w + 1 ≤ 7 by omega) (show 2 * w + 1 + 1 ≤ 8 by omega)) (by decide))
  try dsimp only
  rw [st_seq, st_if]
  simp only [ex_c, ex_var, ex_op, ex_un, ex_b, ex_and, ex_or, ex_not, ex_andV, ex_orV, ex_notV, ex_if, ex_chain, ex_nil, ex_cons, ex_tup, ex_lst, ex_call, ex_callP, ex_cb, ex_bm, ex_rep, ex_sl, ex_noPart, ex_part, ex_yes, it_items, it_rng1, it_rng2, tg_name, tg_sub, tg_tup, tg_cons, tg_nil, gs_0, gs_s, ss_0, ss_s, op_ii, op_ss, op_tt, op_mm, op_sb, op_ng, op_iNf, op_iNt, op_lle, op_ixT, op_ixR, op_ixL, op_putE, op_appE, it_tupE, it_rolE, it_refE, lstOf_l, exL, asS_some, asI_int, asB_bl, asL_some, asN_some, ite3_t, ite3_f, bl_1, bl_lenT, bl_lenR, bl_lenL, bl_lenS, bl_tuple, bl_list, bl_abs, bl_intI, bl_intB, bl_max, bl_min, op_eqSf, op_eqSt, op_eqIf, op_eqIt, op_eqTf, op_eqTt, op_eqRf, op_eqRt, op_eqNf, op_eqNt, eqD_int, eqD_nil, pl_int, pl_nil, pl_non, pl_rnil, pl_bl, sl_tupE, sl_rolE, keep_ref, keep_tup, keep_rol, tp_int, tp_tup, tp_rol, tp_str, tp_bl, tp_non, tp_ref, oFd, oMd, oPw, oShl, oLt, oLe, oGt, oGe, op_in, op_cp, wipe_nil, wipe_cons, mset_same, true_and, and_true, isN_int, ex_lstF, ex_repF, ex_lgF1, ex_lgF2, ex_tupRg1, ex_tupRg2, ex_frz, ex_slF, ex_slM, sl_tupF, sl_rolF, op_iiF, op_ssF, op_ttF, op_rrF, op_rrM, op_mmF, op_repF, li_rol, li_ref, bl_listF, bl_allF, bl_anyF, asT_some, asJ_some, op_eqBf, op_eqBt, isN_non, Bool.not_true, Bool.not_false, rep2, ex_make]
  refine init_new k5 (by omega) hin fun o5 e5 p5 as5 N5 lpA _ leA => ?_
  rw [hT] at lpA
  have f12 := f11.le leA
  have lp12 := lp11.le leA
  refine eqO_l k8 lp12 lpA (by omega) (by omega) ?_
  rw [decide_eq_false neP]
  simp only [ex_c, ex_var, ex_op, ex_un, ex_b, ex_and, ex_or, ex_not, ex_andV, ex_orV, ex_notV, ex_if, ex_chain, ex_nil, ex_cons, ex_tup, ex_lst, ex_call, ex_callP, ex_cb, ex_bm, ex_rep, ex_sl, ex_noPart, ex_part, ex_yes, it_items, it_rng1, it_rng2, tg_name, tg_sub, tg_tup, tg_cons, tg_nil, gs_0, gs_s, ss_0, ss_s, op_ii, op_ss, op_tt, op_mm, op_sb, op_ng, op_iNf, op_iNt, op_lle, op_ixT, op_ixR, op_ixL, op_putE, op_appE, it_tupE, it_rolE, it_refE, lstOf_l, exL, asS_some, asI_int, asB_bl, asL_some, asN_some, ite3_t, ite3_f, bl_1, bl_lenT, bl_lenR, bl_lenL, bl_lenS, bl_tuple, bl_list, bl_abs, bl_intI, bl_intB, bl_max, bl_min, op_eqSf, op_eqSt, op_eqIf, op_eqIt, op_eqTf, op_eqTt, op_eqRf, op_eqRt, op_eqNf, op_eqNt, eqD_int, eqD_nil, pl_int, pl_nil, pl_non, pl_rnil, pl_bl, sl_tupE, sl_rolE, keep_ref, keep_tup, keep_rol, tp_int, tp_tup, tp_rol, tp_str, tp_bl, tp_non, tp_ref, oFd, oMd, oPw, oShl, oLt, oLe, oGt, oGe, op_in, op_cp, wipe_nil, wipe_cons, mset_same, true_and, and_true, isN_int, ex_lstF, ex_repF, ex_lgF1, ex_lgF2, ex_tupRg1, ex_tupRg2, ex_frz, ex_slF, ex_slM, sl_tupF, sl_rolF, op_iiF, op_ssF, op_ttF, op_rrF, op_rrM, op_mmF, op_repF, li_rol, li_ref, bl_listF, bl_allF, bl_anyF, asT_some, asJ_some, op_eqBf, op_eqBt, isN_non, Bool.not_true, Bool.not_false, rep2, ex_make]
  refine init_new k5 (by omega) hin fun o6 e6 p6 as6 N6 lpB _ leB => ?_
  rw [hT] at lpB
  have f13 := f12.le leB
  have lp13 := lp12.le leB
  refine neO_l k8 lp13 lpB (by omega) (by omega) ?_
  rw [decide_eq_false neP]
  simp only [ex_c, ex_var, ex_op, ex_un, ex_b, ex_and, ex_or, ex_not, ex_andV, ex_orV, ex_notV, ex_if, ex_chain, ex_nil, ex_cons, ex_tup, ex_lst, ex_call, ex_callP, ex_cb, ex_bm, ex_rep, ex_sl, ex_noPart, ex_part, ex_yes, it_items, it_rng1, it_rng2, tg_name, tg_sub, tg_tup, tg_cons, tg_nil, gs_0, gs_s, ss_0, ss_s, op_ii, op_ss, op_tt, op_mm, op_sb, op_ng, op_iNf, op_iNt, op_lle, op_ixT, op_ixR, op_ixL, op_putE, op_appE, it_tupE, it_rolE, it_refE, lstOf_l, exL, asS_some, asI_int, asB_bl, asL_some, asN_some, ite3_t, ite3_f, bl_1, bl_lenT, bl_lenR, bl_lenL, bl_lenS, bl_tuple, bl_list, bl_abs, bl_intI, bl_intB, bl_max, bl_min, op_eqSf, op_eqSt, op_eqIf, op_eqIt, op_eqTf, op_eqTt, op_eqRf, op_eqRt, op_eqNf, op_eqNt, eqD_int, eqD_nil, pl_int, pl_nil, pl_non, pl_rnil, pl_bl, sl_tupE, sl_rolE, keep_ref, keep_tup, keep_rol, tp_int, tp_tup, tp_rol, tp_str, tp_bl, tp_non, tp_ref, oFd, oMd, oPw, oShl, oLt, oLe, oGt, oGe, op_in, op_cp, wipe_nil, wipe_cons, mset_same, true_and, and_true, isN_int, ex_lstF, ex_repF, ex_lgF1, ex_lgF2, ex_tupRg1, ex_tupRg2, ex_frz, ex_slF, ex_slM, sl_tupF, sl_rolF, op_iiF, op_ssF, op_ttF, op_rrF, op_rrM, op_mmF, op_repF, li_rol, li_ref, bl_listF, bl_allF, bl_anyF, asT_some, asJ_some, op_eqBf, op_eqBt, isN_non, Bool.not_true, Bool.not_false, rep2]
  rw [st_next]
  try dsimp only
  rw [st_seq, st_drop]
  simp only [ex_c, ex_var, ex_op, ex_un, ex_b, ex_and, ex_or, ex_not, ex_andV, ex_orV, ex_notV, ex_if, ex_chain, ex_nil, ex_cons, ex_tup, ex_lst, ex_call, ex_callP, ex_cb, ex_bm, ex_rep, ex_sl, ex_noPart, ex_part, ex_yes, it_items, it_rng1, it_rng2, tg_name, tg_sub, tg_tup, tg_cons, tg_nil, gs_0, gs_s, ss_0, ss_s, op_ii, op_ss, op_tt, op_mm, op_sb, op_ng, op_iNf, op_iNt, op_lle, op_ixT, op_ixR, op_ixL, op_putE, op_appE, it_tupE, it_rolE, it_refE, lstOf_l, exL, asS_some, asI_int, asB_bl, asL_some, asN_some, ite3_t, ite3_f, bl_1, bl_lenT, bl_lenR, bl_lenL, bl_lenS, bl_tuple, bl_list, bl_abs, bl_intI, bl_intB, bl_max, bl_min, op_eqSf, op_eqSt, op_eqIf, op_eqIt, op_eqTf, op_eqTt, op_eqRf, op_eqRt, op_eqNf, op_eqNt, eqD_int, eqD_nil, pl_int, pl_nil, pl_non, pl_rnil, pl_bl, sl_tupE, sl_rolE, keep_ref, keep_tup, keep_rol, tp_int, tp_tup, tp_rol, tp_str, tp_bl, tp_non, tp_ref, oFd, oMd, oPw, oShl, oLt, oLe, oGt, oGe, op_in, op_cp, wipe_nil, wipe_cons, mset_same, true_and, and_true, isN_int, ex_lstF, ex_repF, ex_lgF1, ex_lgF2, ex_tupRg1, ex_tupRg2, ex_frz, ex_slF, ex_slM, sl_tupF, sl_rolF, op_iiF, op_ssF, op_ttF, op_rrF, op_rrM, op_mmF, op_repF, li_rol, li_ref, bl_listF, bl_allF, bl_anyF, asT_some, asJ_some, op_eqBf, op_eqBt, isN_non, Bool.not_true, Bool.not_false, rep2, ex_callOL, asRf_r, asIn_ref lp13.ob]
  refine k9 _ _ _ _ _ _ _ _ _ _ _ lp13 (by omega) ?_
  refine news_is kn (by omega) tF tP fun im2 _ => ?_
  try dsimp only
  rw [st_seq, st_if]
  simp only [ex_c, ex_var, ex_op, ex_un, ex_b, ex_and, ex_or, ex_not, ex_andV, ex_orV, ex_notV, ex_if, ex_chain, ex_nil, ex_cons, ex_tup, ex_lst, ex_call, ex_callP, ex_cb, ex_bm, ex_rep, ex_sl, ex_noPart, ex_part, ex_yes, it_items, it_rng1, it_rng2, tg_name, tg_sub, tg_tup, tg_cons, tg_nil, gs_0, gs_s, ss_0, ss_s, op_ii, op_ss, op_tt, op_mm, op_sb, op_ng, op_iNf, op_iNt, op_lle, op_ixT, op_ixR, op_ixL, op_putE, op_appE, it_tupE, it_rolE, it_refE, lstOf_l, exL, asS_some, asI_int, asB_bl, asL_some, asN_some, ite3_t, ite3_f, bl_1, bl_lenT, bl_lenR, bl_lenL, bl_lenS, bl_tuple, bl_list, bl_abs, bl_intI, bl_intB, bl_max, bl_min, op_eqSf, op_eqSt, op_eqIf, op_eqIt, op_eqTf, op_eqTt, op_eqRf, op_eqRt, op_eqNf, op_eqNt, eqD_int, eqD_nil, pl_int, pl_nil, pl_non, pl_rnil, pl_bl, sl_tupE, sl_rolE, keep_ref, keep_tup, keep_rol, tp_int, tp_tup, tp_rol, tp_str, tp_bl, tp_non, tp_ref, oFd, oMd, oPw, oShl, oLt, oLe, oGt, oGe, op_in, op_cp, wipe_nil, wipe_cons, mset_same, true_and, and_true, isN_int, ex_lstF, ex_repF, ex_lgF1, ex_lgF2, ex_tupRg1, ex_tupRg2, ex_frz, ex_slF, ex_slM, sl_tupF, sl_rolF, op_iiF, op_ssF, op_ttF, op_rrF, op_rrM, op_mmF, op_repF, li_rol, li_ref, bl_listF, bl_allF, bl_anyF, asT_some, asJ_some, op_eqBf, op_eqBt, isN_non, Bool.not_true, Bool.not_false, rep2, bl_reprE (top3 _) sh3, decide_true]
  refine ⟨by show 3 ≤ sizeLine; omega, ?_⟩
  (try simp only [ex_c, ex_var, ex_op, ex_un, ex_b, ex_and, ex_or, ex_not, ex_andV, ex_orV, ex_notV, ex_if, ex_chain, ex_nil, ex_cons, ex_tup, ex_lst, ex_call, ex_callP, ex_cb, ex_bm, ex_rep, ex_sl, ex_noPart, ex_part, ex_yes, it_items, it_rng1, it_rng2, tg_name, tg_sub, tg_tup, tg_cons, tg_nil, gs_0, gs_s, ss_0, ss_s, op_ii, op_ss, op_tt, op_mm, op_sb, op_ng, op_iNf, op_iNt, op_lle, op_ixT, op_ixR, op_ixL, op_putE, op_appE, it_tupE, it_rolE, it_refE, lstOf_l, exL, asS_some, asI_int, asB_bl, asL_some, asN_some, ite3_t, ite3_f, bl_1, bl_lenT, bl_lenR, bl_lenL, bl_lenS, bl_tuple, bl_list, bl_abs, bl_intI, bl_intB, bl_max, bl_min, op_eqSf, op_eqSt, op_eqIf, op_eqIt, op_eqTf, op_eqTt, op_eqRf, op_eqRt, op_eqNf, op_eqNt, eqD_int, eqD_nil, pl_int, pl_nil, pl_non, pl_rnil, pl_bl, sl_tupE, sl_rolE, keep_ref, keep_tup, keep_rol, tp_int, tp_tup, tp_rol, tp_str, tp_bl, tp_non, tp_ref, oFd, oMd, oPw, oShl, oLt, oLe, oGt, oGe, op_in, op_cp, wipe_nil, wipe_cons, mset_same, true_and, and_true, isN_int, ex_lstF, ex_repF, ex_lgF1, ex_lgF2, ex_tupRg1, ex_tupRg2, ex_frz, ex_slF, ex_slM, sl_tupF, sl_rolF, op_iiF, op_ssF, op_ttF, op_rrF, op_rrM, op_mmF, op_repF, li_rol, li_ref, bl_listF, bl_allF, bl_anyF, asT_some, asJ_some, op_eqBf, op_eqBt, isN_non, Bool.not_true, Bool.not_false, rep2, bl_reprE him.top shI, ex_prop, asIn_ref lp13.ob, decide_true])
  refine k7 _ _ _ _ _ _ _ _ _ _ lp13 (by omega) ?_
  (try simp only [ex_c, ex_var, ex_op, ex_un, ex_b, ex_and, ex_or, ex_not, ex_andV, ex_orV, ex_notV, ex_if, ex_chain, ex_nil, ex_cons, ex_tup, ex_lst, ex_call, ex_callP, ex_cb, ex_bm, ex_rep, ex_sl, ex_noPart, ex_part, ex_yes, it_items, it_rng1, it_rng2, tg_name, tg_sub, tg_tup, tg_cons, tg_nil, gs_0, gs_s, ss_0, ss_s, op_ii, op_ss, op_tt, op_mm, op_sb, op_ng, op_iNf, op_iNt, op_lle, op_ixT, op_ixR, op_ixL, op_putE, op_appE, it_tupE, it_rolE, it_refE, lstOf_l, exL, asS_some, asI_int, asB_bl, asL_some, asN_some, ite3_t, ite3_f, bl_1, bl_lenT, bl_lenR, bl_lenL, bl_lenS, bl_tuple, bl_list, bl_abs, bl_intI, bl_intB, bl_max, bl_min, op_eqSf, op_eqSt, op_eqIf, op_eqIt, op_eqTf, op_eqTt, op_eqRf, op_eqRt, op_eqNf, op_eqNt, eqD_int, eqD_nil, pl_int, pl_nil, pl_non, pl_rnil, pl_bl, sl_tupE, sl_rolE, keep_ref, keep_tup, keep_rol, tp_int, tp_tup, tp_rol, tp_str, tp_bl, tp_non, tp_ref, oFd, oMd, oPw, oShl, oLt, oLe, oGt, oGe, op_in, op_cp, wipe_nil, wipe_cons, mset_same, true_and, and_true, isN_int, ex_lstF, ex_repF, ex_lgF1, ex_lgF2, ex_tupRg1, ex_tupRg2, ex_frz, ex_slF, ex_slM, sl_tupF, sl_rolF, op_iiF, op_ssF, op_ttF, op_rrF, op_rrM, op_mmF, op_repF, li_rol, li_ref, bl_listF, bl_allF, bl_anyF, asT_some, asJ_some, op_eqBf, op_eqBt, isN_non, Bool.not_true, Bool.not_false, rep2, bl_reprT shU, bl_reprT shT])
  rw [decide_eq_false shP]
  (try simp only [ex_c, ex_var, ex_op, ex_un, ex_b, ex_and, ex_or, ex_not, ex_andV, ex_orV, ex_notV, ex_if, ex_chain, ex_nil, ex_cons, ex_tup, ex_lst, ex_call, ex_callP, ex_cb, ex_bm, ex_rep, ex_sl, ex_noPart, ex_part, ex_yes, it_items, it_rng1, it_rng2, tg_name, tg_sub, tg_tup, tg_cons, tg_nil, gs_0, gs_s, ss_0, ss_s, op_ii, op_ss, op_tt, op_mm, op_sb, op_ng, op_iNf, op_iNt, op_lle, op_ixT, op_ixR, op_ixL, op_putE, op_appE, it_tupE, it_rolE, it_refE, lstOf_l, exL, asS_some, asI_int, asB_bl, asL_some, asN_some, ite3_t, ite3_f, bl_1, bl_lenT, bl_lenR, bl_lenL, bl_lenS, bl_tuple, bl_list, bl_abs, bl_intI, bl_intB, bl_max, bl_min, op_eqSf, op_eqSt, op_eqIf, op_eqIt, op_eqTf, op_eqTt, op_eqRf, op_eqRt, op_eqNf, op_eqNt, eqD_int, eqD_nil, pl_int, pl_nil, pl_non, pl_rnil, pl_bl, sl_tupE, sl_rolE, keep_ref, keep_tup, keep_rol, tp_int, tp_tup, tp_rol, tp_str, tp_bl, tp_non, tp_ref, oFd, oMd, oPw, oShl, oLt, oLe, oGt, oGe, op_in, op_cp, wipe_nil, wipe_cons, mset_same, true_and, and_true, isN_int, ex_lstF, ex_repF, ex_lgF1, ex_lgF2, ex_tupRg1, ex_tupRg2, ex_frz, ex_slF, ex_slM, sl_tupF, sl_rolF, op_iiF, op_ssF, op_ttF, op_rrF, op_rrM, op_mmF, op_repF, li_rol, li_ref, bl_listF, bl_allF, bl_anyF, asT_some, asJ_some, op_eqBf, op_eqBt, isN_non, Bool.not_true, Bool.not_false, rep2])
  rw [st_next]
  try dsimp only
  rw [st_seq, st_drop]
  simp only [ex_c, ex_var, ex_op, ex_un, ex_b, ex_and, ex_or, ex_not, ex_andV, ex_orV, ex_notV, ex_if, ex_chain, ex_nil, ex_cons, ex_tup, ex_lst, ex_call, ex_callP, ex_cb, ex_bm, ex_rep, ex_sl, ex_noPart, ex_part, ex_yes, it_items, it_rng1, it_rng2, tg_name, tg_sub, tg_tup, tg_cons, tg_nil, gs_0, gs_s, ss_0, ss_s, op_ii, op_ss, op_tt, op_mm, op_sb, op_ng, op_iNf, op_iNt, op_lle, op_ixT, op_ixR, op_ixL, op_putE, op_appE, it_tupE, it_rolE, it_refE, lstOf_l, exL, asS_some, asI_int, asB_bl, asL_some, asN_some, ite3_t, ite3_f, bl_1, bl_lenT, bl_lenR, bl_lenL, bl_lenS, bl_tuple, bl_list, bl_abs, bl_intI, bl_intB, bl_max, bl_min, op_eqSf, op_eqSt, op_eqIf, op_eqIt, op_eqTf, op_eqTt, op_eqRf, op_eqRt, op_eqNf, op_eqNt, eqD_int, eqD_nil, pl_int, pl_nil, pl_non, pl_rnil, pl_bl, sl_tupE, sl_rolE, keep_ref, keep_tup, keep_rol, tp_int, tp_tup, tp_rol, tp_str, tp_bl, tp_non, tp_ref, oFd, oMd, oPw, oShl, oLt, oLe, oGt, oGe, op_in, op_cp, wipe_nil, wipe_cons, mset_same, true_and, and_true, isN_int, ex_lstF, ex_repF, ex_lgF1, ex_lgF2, ex_tupRg1, ex_tupRg2, ex_frz, ex_slF, ex_slM, sl_tupF, sl_rolF, op_iiF, op_ssF, op_ttF, op_rrF, op_rrM, op_mmF, op_repF, li_rol, li_ref, bl_listF, bl_allF, bl_anyF, asT_some, asJ_some, op_eqBf, op_eqBt, isN_non, Bool.not_true, Bool.not_false, rep2, ex_meth, asIn_ref lp13.ob]
  have pb : PastB (2 * (w : Int) + 1) ([] ++ [(x, y, at2 T x.toNat y.toNat)]) := fun z hz => by
    rw [List.nil_append, List.mem_singleton] at hz
    subst hz
    exact ⟨⟨x0, x1, y0, y1⟩, enA⟩
  refine ⟨rfl, k11.yes _ _ _ _ _ _ [] (x, y, at2 T x.toNat y.toNat) _ _ _ lp13 (by omega) pb fun N7 lp14 oi2 => ?_⟩
  have f14 : Feed N7 a := f13.to (oi2 a (in3 af))
  have lp14 : Lp N7 o e p as w (putT (putT T x.toNat y.toNat (otherE (at2 T x.toNat y.toNat))) x.toNat y.toNat (at2 T x.toNat y.toNat)) [] := lp14
  rw [put_back lp10.sq hx hy] at lp14
  try dsimp only
  rw [st_if]
  simp only [ex_c, ex_var, ex_op, ex_un, ex_b, ex_and, ex_or, ex_not, ex_andV, ex_orV, ex_notV, ex_if, ex_chain, ex_nil, ex_cons, ex_tup, ex_lst, ex_call, ex_callP, ex_cb, ex_bm, ex_rep, ex_sl, ex_noPart, ex_part, ex_yes, it_items, it_rng1, it_rng2, tg_name, tg_sub, tg_tup, tg_cons, tg_nil, gs_0, gs_s, ss_0, ss_s, op_ii, op_ss, op_tt, op_mm, op_sb, op_ng, op_iNf, op_iNt, op_lle, op_ixT, op_ixR, op_ixL, op_putE, op_appE, it_tupE, it_rolE, it_refE, lstOf_l, exL, asS_some, asI_int, asB_bl, asL_some, asN_some, ite3_t, ite3_f, bl_1, bl_lenT, bl_lenR, bl_lenL, bl_lenS, bl_tuple, bl_list, bl_abs, bl_intI, bl_intB, bl_max, bl_min, op_eqSf, op_eqSt, op_eqIf, op_eqIt, op_eqTf, op_eqTt, op_eqRf, op_eqRt, op_eqNf, op_eqNt, eqD_int, eqD_nil, pl_int, pl_nil, pl_non, pl_rnil, pl_bl, sl_tupE, sl_rolE, keep_ref, keep_tup, keep_rol, tp_int, tp_tup, tp_rol, tp_str, tp_bl, tp_non, tp_ref, oFd, oMd, oPw, oShl, oLt, oLe, oGt, oGe, op_in, op_cp, wipe_nil, wipe_cons, mset_same, true_and, and_true, isN_int, ex_lstF, ex_repF, ex_lgF1, ex_lgF2, ex_tupRg1, ex_tupRg2, ex_frz, ex_slF, ex_slM, sl_tupF, sl_rolF, op_iiF, op_ssF, op_ttF, op_rrF, op_rrM, op_mmF, op_repF, li_rol, li_ref, bl_listF, bl_allF, bl_anyF, asT_some, asJ_some, op_eqBf, op_eqBt, isN_non, Bool.not_true, Bool.not_false, rep2, ex_make]
  refine init_new k5 (by omega) hin fun o7 e7 p7 as7 N8 lpC _ leC => ?_
  rw [hT] at lpC
  have f15 := f14.le leC
  have lp15 := lp14.le leC
  refine eqO_l k8 lp15 lpC (by omega) (by omega) ?_
  rw [decide_eq_true rfl]
  simp only [ex_c, ex_var, ex_op, ex_un, ex_b, ex_and, ex_or, ex_not, ex_andV, ex_orV, ex_notV, ex_if, ex_chain, ex_nil, ex_cons, ex_tup, ex_lst, ex_call, ex_callP, ex_cb, ex_bm, ex_rep, ex_sl, ex_noPart, ex_part, ex_yes, it_items, it_rng1, it_rng2, tg_name, tg_sub, tg_tup, tg_cons, tg_nil, gs_0, gs_s, ss_0, ss_s, op_ii, op_ss, op_tt, op_mm, op_sb, op_ng, op_iNf, op_iNt, op_lle, op_ixT, op_ixR, op_ixL, op_putE, op_appE, it_tupE, it_rolE, it_refE, lstOf_l, exL, asS_some, asI_int, asB_bl, asL_some, asN_some, ite3_t, ite3_f, bl_1, bl_lenT, bl_lenR, bl_lenL, bl_lenS, bl_tuple, bl_list, bl_abs, bl_intI, bl_intB, bl_max, bl_min, op_eqSf, op_eqSt, op_eqIf, op_eqIt, op_eqTf, op_eqTt, op_eqRf, op_eqRt, op_eqNf, op_eqNt, eqD_int, eqD_nil, pl_int, pl_nil, pl_non, pl_rnil, pl_bl, sl_tupE, sl_rolE, keep_ref, keep_tup, keep_rol, tp_int, tp_tup, tp_rol, tp_str, tp_bl, tp_non, tp_ref, oFd, oMd, oPw, oShl, oLt, oLe, oGt, oGe, op_in, op_cp, wipe_nil, wipe_cons, mset_same, true_and, and_true, isN_int, ex_lstF, ex_repF, ex_lgF1, ex_lgF2, ex_tupRg1, ex_tupRg2, ex_frz, ex_slF, ex_slM, sl_tupF, sl_rolF, op_iiF, op_ssF, op_ttF, op_rrF, op_rrM, op_mmF, op_repF, li_rol, li_ref, bl_listF, bl_allF, bl_anyF, asT_some, asJ_some, op_eqBf, op_eqBt, isN_non, Bool.not_true, Bool.not_false, rep2, ex_prop, asIn_ref lp15.ob]
  refine k7 _ _ _ _ _ _ _ _ _ _ lp15 (by omega) ?_
  (try simp only [ex_c, ex_var, ex_op, ex_un, ex_b, ex_and, ex_or, ex_not, ex_andV, ex_orV, ex_notV, ex_if, ex_chain, ex_nil, ex_cons, ex_tup, ex_lst, ex_call, ex_callP, ex_cb, ex_bm, ex_rep, ex_sl, ex_noPart, ex_part, ex_yes, it_items, it_rng1, it_rng2, tg_name, tg_sub, tg_tup, tg_cons, tg_nil, gs_0, gs_s, ss_0, ss_s, op_ii, op_ss, op_tt, op_mm, op_sb, op_ng, op_iNf, op_iNt, op_lle, op_ixT, op_ixR, op_ixL, op_putE, op_appE, it_tupE, it_rolE, it_refE, lstOf_l, exL, asS_some, asI_int, asB_bl, asL_some, asN_some, ite3_t, ite3_f, bl_1, bl_lenT, bl_lenR, bl_lenL, bl_lenS, bl_tuple, bl_list, bl_abs, bl_intI, bl_intB, bl_max, bl_min, op_eqSf, op_eqSt, op_eqIf, op_eqIt, op_eqTf, op_eqTt, op_eqRf, op_eqRt, op_eqNf, op_eqNt, eqD_int, eqD_nil, pl_int, pl_nil, pl_non, pl_rnil, pl_bl, sl_tupE, sl_rolE, keep_ref, keep_tup, keep_rol, tp_int, tp_tup, tp_rol, tp_str, tp_bl, tp_non, tp_ref, oFd, oMd, oPw, oShl, oLt, oLe, oGt, oGe, op_in, op_cp, wipe_nil, wipe_cons, mset_same, true_and, and_true, isN_int, ex_lstF, ex_repF, ex_lgF1, ex_lgF2, ex_tupRg1, ex_tupRg2, ex_frz, ex_slF, ex_slM, sl_tupF, sl_rolF, op_iiF, op_ssF, op_ttF, op_rrF, op_rrM, op_mmF, op_repF, li_rol, li_ref, bl_listF, bl_allF, bl_anyF, asT_some, asJ_some, op_eqBf, op_eqBt, isN_non, Bool.not_true, Bool.not_false, rep2, bl_reprT shT, decide_true])
  simp only [ex_c, ex_var, ex_op, ex_un, ex_b, ex_and, ex_or, ex_not, ex_andV, ex_orV, ex_notV, ex_if, ex_chain, ex_nil, ex_cons, ex_tup, ex_lst, ex_call, ex_callP, ex_cb, ex_bm, ex_rep, ex_sl, ex_noPart, ex_part, ex_yes, it_items, it_rng1, it_rng2, tg_name, tg_sub, tg_tup, tg_cons, tg_nil, gs_0, gs_s, ss_0, ss_s, op_ii, op_ss, op_tt, op_mm, op_sb, op_ng, op_iNf, op_iNt, op_lle, op_ixT, op_ixR, op_ixL, op_putE, op_appE, it_tupE, it_rolE, it_refE, lstOf_l, exL, asS_some, asI_int, asB_bl, asL_some, asN_some, ite3_t, ite3_f, bl_1, bl_lenT, bl_lenR, bl_lenL, bl_lenS, bl_tuple, bl_list, bl_abs, bl_intI, bl_intB, bl_max, bl_min, op_eqSf, op_eqSt, op_eqIf, op_eqIt, op_eqTf, op_eqTt, op_eqRf, op_eqRt, op_eqNf, op_eqNt, eqD_int, eqD_nil, pl_int, pl_nil, pl_non, pl_rnil, pl_bl, sl_tupE, sl_rolE, keep_ref, keep_tup, keep_rol, tp_int, tp_tup, tp_rol, tp_str, tp_bl, tp_non, tp_ref, oFd, oMd, oPw, oShl, oLt, oLe, oGt, oGe, op_in, op_cp, wipe_nil, wipe_cons, mset_same, true_and, and_true, isN_int, ex_lstF, ex_repF, ex_lgF1, ex_lgF2, ex_tupRg1, ex_tupRg2, ex_frz, ex_slF, ex_slM, sl_tupF, sl_rolF, op_iiF, op_ssF, op_ttF, op_rrF, op_rrM, op_mmF, op_repF, li_rol, li_ref, bl_listF, bl_allF, bl_anyF, asT_some, asJ_some, op_eqBf, op_eqBt, isN_non, Bool.not_true, Bool.not_false, rep2, ex_callOL, asRf_r, asIn_ref lp15.ob]
  refine k9 _ _ _ _ _ _ _ _ _ _ _ lp15 (by omega) ?_
  refine news_is kn (by omega) tF tT fun im3 him3 => ?_
  rw [him3.uniq him]
  (try simp only [ex_c, ex_var, ex_op, ex_un, ex_b, ex_and, ex_or, ex_not, ex_andV, ex_orV, ex_notV, ex_if, ex_chain, ex_nil, ex_cons, ex_tup, ex_lst, ex_call, ex_callP, ex_cb, ex_bm, ex_rep, ex_sl, ex_noPart, ex_part, ex_yes, it_items, it_rng1, it_rng2, tg_name, tg_sub, tg_tup, tg_cons, tg_nil, gs_0, gs_s, ss_0, ss_s, op_ii, op_ss, op_tt, op_mm, op_sb, op_ng, op_iNf, op_iNt, op_lle, op_ixT, op_ixR, op_ixL, op_putE, op_appE, it_tupE, it_rolE, it_refE, lstOf_l, exL, asS_some, asI_int, asB_bl, asL_some, asN_some, ite3_t, ite3_f, bl_1, bl_lenT, bl_lenR, bl_lenL, bl_lenS, bl_tuple, bl_list, bl_abs, bl_intI, bl_intB, bl_max, bl_min, op_eqSf, op_eqSt, op_eqIf, op_eqIt, op_eqTf, op_eqTt, op_eqRf, op_eqRt, op_eqNf, op_eqNt, eqD_int, eqD_nil, pl_int, pl_nil, pl_non, pl_rnil, pl_bl, sl_tupE, sl_rolE, keep_ref, keep_tup, keep_rol, tp_int, tp_tup, tp_rol, tp_str, tp_bl, tp_non, tp_ref, oFd, oMd, oPw, oShl, oLt, oLe, oGt, oGe, op_in, op_cp, wipe_nil, wipe_cons, mset_same, true_and, and_true, isN_int, ex_lstF, ex_repF, ex_lgF1, ex_lgF2, ex_tupRg1, ex_tupRg2, ex_frz, ex_slF, ex_slM, sl_tupF, sl_rolF, op_iiF, op_ssF, op_ttF, op_rrF, op_rrM, op_mmF, op_repF, li_rol, li_ref, bl_listF, bl_allF, bl_anyF, asT_some, asJ_some, op_eqBf, op_eqBt, isN_non, Bool.not_true, Bool.not_false, rep2, bl_reprE him.top shI, decide_true])
  rw [st_next]
  exact hX _ _ ⟨f15, _, _, _, _, _, _, _, _, _, _, _, _, _, _, rfl⟩
theorem said : ∀ ns : List Int, ns.length ≤ 63 → sp_law [.rol (ns.map D.int)] M0 (fun v _ => v = .bl true) (fun _ _ _ => False) := fun ns _ =>
  m_law m_draws m_next m_rows m_field m_initL m_reprL m_stepL m_eqL m_callL m_news m_putL m_undo ns
end W
set_option Elab.async false
set_option linter.all false
set_option maxRecDepth 100000
set_option maxHeartbeats 4000000
namespace W
open PySem PySem.Spec PyProof.Rows L2 L3
theorem all_mk {l : PySem.W.OpenLaw} {w : World} {K : PySem.W.Frag} {h : Heap} {mg : PySem.Str → Option Value} {fa f1 f2 f3 f4 f5 f6 f7 f8 f9 f10 f11 f12 f13 f14 f15 f16 f17 f18 f19 f20 f21 f22 f23 f24 f25 f26 : Addr} (X : K.In h) (G : h.Ns mainGlobals mg) (hfa : mg "law" = some (.ref fa))
    {od1 an1 od2 an2 od3 an3 od4 an4 od5 an5 od6 an6 od7 an7 od8 an8 od9 an9 od10 an10 od11 an11 od12 an12 od13 an13 od14 an14 od15 an15 od16 an16 od17 an17 od18 an18 od19 an19 od20 an20 od21 an21 od22 an22 od23 an23 od24 an24 od25 an25 od26 an26 : Option Addr} {sl1 sl2 sl3 sl4 sl5 sl6 sl7 sl8 sl9 sl10 sl11 sl12 sl13 sl14 sl15 sl16 sl17 sl18 sl19 sl20 sl21 sl22 sl23 sl24 sl25 sl26 : Array (Option Value)} {oc1 kV1 dc1 pm1 cd1 ct1 oc2 kV2 dc2 pm2 cd2 ct2 oc3 kV3 dc3 pm3 cd3 ct3 oc4 kV4 dc4 pm4 cd4 ct4 oc5 kV5 dc5 pm5 cd5 ct5 oc6 kV6 dc6 pm6 cd6 ct6 oc7 kV7 dc7 pm7 cd7 ct7 oc8 kV8 dc8 pm8 cd8 ct8 oc9 kV9 dc9 pm9 cd9 ct9 oc10 kV10 dc10 pm10 cd10 ct10 oc11 kV11 dc11 pm11 cd11 ct11 oc12 kV12 dc12 pm12 cd12 ct12 oc13 kV13 dc13 pm13 cd13 ct13 oc14 kV14 dc14 pm14 cd14 ct14 oc15 kV15 dc15 pm15 cd15 ct15 oc16 kV16 dc16 pm16 cd16 ct16 oc17 kV17 dc17 pm17 cd17 ct17 oc18 kV18 dc18 pm18 cd18 ct18 oc19 kV19 dc19 pm19 cd19 ct19 oc20 kV20 dc20 pm20 cd20 ct20 oc21 kV21 dc21 pm21 cd21 ct21 oc22 kV22 dc22 pm22 cd22 ct22 oc23 kV23 dc23 pm23 cd23 ct23 oc24 kV24 dc24 pm24 cd24 ct24 oc25 kV25 dc25 pm25 cd25 ct25 oc26 kV26 dc26 pm26 cd26 ct26 : Value}
    {C_Loop : Addr}
    (uC : PySem.W.nsIn K mainGlobals "Loop" = some (some (.ref C_Loop)))
    (uc1 : PySem.W.plainGet K C_Loop Str.empty = true)
    (uc2 : PySem.W.hasDictIn K C_Loop = true)
    (uc3 : PySem.W.plainOver K C_Loop = true)
    (uc4 : PySem.W.findIn K (.ref C_Loop) "__setattr__" = some (some (.builtin "object.__setattr__")))
    (un_width : PySem.W.findIn K (.ref C_Loop) ("width" : PySem.Str) = some none)
    (un_ends : PySem.W.findIn K (.ref C_Loop) ("ends" : PySem.Str) = some none)
    (un_past : PySem.W.findIn K (.ref C_Loop) ("past" : PySem.Str) = some none)
    (us_NoneType : PySem.W.subIn K (.type "NoneType") (.ref C_Loop) = some false)
    (us_bool : PySem.W.subIn K (.type "bool") (.ref C_Loop) = some false)
    (us_int : PySem.W.subIn K (.type "int") (.ref C_Loop) = some false)
    (us_str : PySem.W.subIn K (.type "str") (.ref C_Loop) = some false)
    (us_tuple : PySem.W.subIn K (.type "tuple") (.ref C_Loop) = some false)
    (us_list : PySem.W.subIn K (.type "list") (.ref C_Loop) = some false)
    (ui1 : PySem.W.findIn K (.ref C_Loop) "__class__" = some (some (.builtin "object.__class__")))
    (ui2 : PySem.W.specialIn K (.builtin "object.__class__") "__get__" = some (some (.builtin "getset_descriptor.__get__")))
    (ui3 : PySem.W.takesIn K (.builtin "object.__class__") = some true)
    (ui4 : PySem.W.mroIn K C_Loop (.type "object") = some true)
    (ui5 : PySem.W.typeIn K (.ref C_Loop) = some (.type "type"))
    (un1 : PySem.W.findIn K (.ref C_Loop) "__ne__" = some (some (.builtin "object.__ne__")))
    (un2 : PySem.W.mroIn K C_Loop (.type "object") = some true)
    (um1 : PySem.W.makesIn K C_Loop = true)
    (um2 : PySem.W.keepIn K (.ref C_Loop) = true)
    (a1 : PySem.W.nsIn K mainGlobals ("_wall" : PySem.Str) = some (some (.ref f1))) (l1 : K.lookup f1 = some ⟨oc1, od1, .func (PySem.W.fnOf ("_wall" : PySem.Str) ("_wall" : PySem.Str) (defArgs s__wall) (defBody s__wall) (defScope s__wall) .none kV1 dc1 pm1 an1 cd1 ct1), sl1⟩) (c1 : PySem.W.codeIn K cd1 ("_wall" : PySem.Str) = true) (k1 : PySem.W.keepIn K (.ref f1) = true)
    (a2 : PySem.W.nsIn K mainGlobals ("joined" : PySem.Str) = some (some (.ref f2))) (l2 : K.lookup f2 = some ⟨oc2, od2, .func (PySem.W.fnOf ("joined" : PySem.Str) ("joined" : PySem.Str) (defArgs s_joined) (defBody s_joined) (defScope s_joined) .none kV2 dc2 pm2 an2 cd2 ct2), sl2⟩) (c2 : PySem.W.codeIn K cd2 ("joined" : PySem.Str) = true) (k2 : PySem.W.keepIn K (.ref f2) = true)
    (a3 : PySem.W.nsIn K mainGlobals ("lesser" : PySem.Str) = some (some (.ref f3))) (l3 : K.lookup f3 = some ⟨oc3, od3, .func (PySem.W.fnOf ("lesser" : PySem.Str) ("lesser" : PySem.Str) (defArgs s_lesser) (defBody s_lesser) (defScope s_lesser) .none kV3 dc3 pm3 an3 cd3 ct3), sl3⟩) (c3 : PySem.W.codeIn K cd3 ("lesser" : PySem.Str) = true) (k3 : PySem.W.keepIn K (.ref f3) = true)
    (a4 : PySem.W.nsIn K mainGlobals ("is_at_most" : PySem.Str) = some (some (.ref f4))) (l4 : K.lookup f4 = some ⟨oc4, od4, .func (PySem.W.fnOf ("is_at_most" : PySem.Str) ("is_at_most" : PySem.Str) (defArgs s_is_at_most) (defBody s_is_at_most) (defScope s_is_at_most) .none kV4 dc4 pm4 an4 cd4 ct4), sl4⟩) (c4 : PySem.W.codeIn K cd4 ("is_at_most" : PySem.Str) = true) (k4 : PySem.W.keepIn K (.ref f4) = true)
    (a5 : PySem.W.nsIn K mainGlobals ("closed" : PySem.Str) = some (some (.ref f5))) (l5 : K.lookup f5 = some ⟨oc5, od5, .func (PySem.W.fnOf ("closed" : PySem.Str) ("closed" : PySem.Str) (defArgs s_closed) (defBody s_closed) (defScope s_closed) .none kV5 dc5 pm5 an5 cd5 ct5), sl5⟩) (c5 : PySem.W.codeIn K cd5 ("closed" : PySem.Str) = true) (k5 : PySem.W.keepIn K (.ref f5) = true)
    (a6 : PySem.W.nsIn K mainGlobals ("is_met" : PySem.Str) = some (some (.ref f6))) (l6 : K.lookup f6 = some ⟨oc6, od6, .func (PySem.W.fnOf ("is_met" : PySem.Str) ("is_met" : PySem.Str) (defArgs s_is_met) (defBody s_is_met) (defScope s_is_met) .none kV6 dc6 pm6 an6 cd6 ct6), sl6⟩) (c6 : PySem.W.codeIn K cd6 ("is_met" : PySem.Str) = true) (k6 : PySem.W.keepIn K (.ref f6) = true)
    (a7 : PySem.W.nsIn K mainGlobals ("only" : PySem.Str) = some (some (.ref f7))) (l7 : K.lookup f7 = some ⟨oc7, od7, .func (PySem.W.fnOf ("only" : PySem.Str) ("only" : PySem.Str) (defArgs s_only) (defBody s_only) (defScope s_only) .none kV7 dc7 pm7 an7 cd7 ct7), sl7⟩) (c7 : PySem.W.codeIn K cd7 ("only" : PySem.Str) = true) (k7 : PySem.W.keepIn K (.ref f7) = true)
    (a8 : PySem.W.nsIn K mainGlobals ("put_together" : PySem.Str) = some (some (.ref f8))) (l8 : K.lookup f8 = some ⟨oc8, od8, .func (PySem.W.fnOf ("put_together" : PySem.Str) ("put_together" : PySem.Str) (defArgs s_put_together) (defBody s_put_together) (defScope s_put_together) .none kV8 dc8 pm8 an8 cd8 ct8), sl8⟩) (c8 : PySem.W.codeIn K cd8 ("put_together" : PySem.Str) = true) (k8 : PySem.W.keepIn K (.ref f8) = true)
    (a9 : PySem.W.nsIn K mainGlobals ("places_of" : PySem.Str) = some (some (.ref f9))) (l9 : K.lookup f9 = some ⟨oc9, od9, .func (PySem.W.fnOf ("places_of" : PySem.Str) ("places_of" : PySem.Str) (defArgs s_places_of) (defBody s_places_of) (defScope s_places_of) .none kV9 dc9 pm9 an9 cd9 ct9), sl9⟩) (c9 : PySem.W.codeIn K cd9 ("places_of" : PySem.Str) = true) (k9 : PySem.W.keepIn K (.ref f9) = true)
    (a10 : PySem.W.nsIn K mainGlobals ("news" : PySem.Str) = some (some (.ref f10))) (l10 : K.lookup f10 = some ⟨oc10, od10, .func (PySem.W.fnOf ("news" : PySem.Str) ("news" : PySem.Str) (defArgs s_news) (defBody s_news) (defScope s_news) .none kV10 dc10 pm10 an10 cd10 ct10), sl10⟩) (c10 : PySem.W.codeIn K cd10 ("news" : PySem.Str) = true) (k10 : PySem.W.keepIn K (.ref f10) = true)
    (a11 : PySem.W.nsIn K mainGlobals ("integers_of" : PySem.Str) = some (some (.ref f11))) (l11 : K.lookup f11 = some ⟨oc11, od11, .func (PySem.W.fnOf ("integers_of" : PySem.Str) ("integers_of" : PySem.Str) (defArgs s_integers_of) (defBody s_integers_of) (defScope s_integers_of) .none kV11 dc11 pm11 an11 cd11 ct11), sl11⟩) (c11 : PySem.W.codeIn K cd11 ("integers_of" : PySem.Str) = true) (k11 : PySem.W.keepIn K (.ref f11) = true)
    (a12 : PySem.W.nsIn K mainGlobals ("_law_draws" : PySem.Str) = some (some (.ref f12))) (l12 : K.lookup f12 = some ⟨oc12, od12, .func (PySem.W.fnOf ("_law_draws" : PySem.Str) ("_law_draws" : PySem.Str) (defArgs s__law_draws) (defBody s__law_draws) (defScope s__law_draws) .none kV12 dc12 pm12 an12 cd12 ct12), sl12⟩) (c12 : PySem.W.codeIn K cd12 ("_law_draws" : PySem.Str) = true) (k12 : PySem.W.keepIn K (.ref f12) = true)
    (a13 : PySem.W.nsIn K mainGlobals ("_law_next" : PySem.Str) = some (some (.ref f13))) (l13 : K.lookup f13 = some ⟨oc13, od13, .func (PySem.W.fnOf ("_law_next" : PySem.Str) ("_law_next" : PySem.Str) (defArgs s__law_next) (defBody s__law_next) (defScope s__law_next) .none kV13 dc13 pm13 an13 cd13 ct13), sl13⟩) (c13 : PySem.W.codeIn K cd13 ("_law_next" : PySem.Str) = true) (k13 : PySem.W.keepIn K (.ref f13) = true)
    (a14 : PySem.W.nsIn K mainGlobals ("_law_end" : PySem.Str) = some (some (.ref f14))) (l14 : K.lookup f14 = some ⟨oc14, od14, .func (PySem.W.fnOf ("_law_end" : PySem.Str) ("_law_end" : PySem.Str) (defArgs s__law_end) (defBody s__law_end) (defScope s__law_end) .none kV14 dc14 pm14 an14 cd14 ct14), sl14⟩) (c14 : PySem.W.codeIn K cd14 ("_law_end" : PySem.Str) = true) (k14 : PySem.W.keepIn K (.ref f14) = true)
    (a15 : PySem.W.nsIn K mainGlobals ("_law_table" : PySem.Str) = some (some (.ref f15))) (l15 : K.lookup f15 = some ⟨oc15, od15, .func (PySem.W.fnOf ("_law_table" : PySem.Str) ("_law_table" : PySem.Str) (defArgs s__law_table) (defBody s__law_table) (defScope s__law_table) .none kV15 dc15 pm15 an15 cd15 ct15), sl15⟩) (c15 : PySem.W.codeIn K cd15 ("_law_table" : PySem.Str) = true) (k15 : PySem.W.keepIn K (.ref f15) = true)
    (a16 : PySem.W.nsIn K mainGlobals ("_law_field" : PySem.Str) = some (some (.ref f16))) (l16 : K.lookup f16 = some ⟨oc16, od16, .func (PySem.W.fnOf ("_law_field" : PySem.Str) ("_law_field" : PySem.Str) (defArgs s__law_field) (defBody s__law_field) (defScope s__law_field) .none kV16 dc16 pm16 an16 cd16 ct16), sl16⟩) (c16 : PySem.W.codeIn K cd16 ("_law_field" : PySem.Str) = true) (k16 : PySem.W.keepIn K (.ref f16) = true)
    (a17 : PySem.W.nsIn K mainGlobals ("_law_loop_rows" : PySem.Str) = some (some (.ref f17))) (l17 : K.lookup f17 = some ⟨oc17, od17, .func (PySem.W.fnOf ("_law_loop_rows" : PySem.Str) ("_law_loop_rows" : PySem.Str) (defArgs s__law_loop_rows) (defBody s__law_loop_rows) (defScope s__law_loop_rows) .none kV17 dc17 pm17 an17 cd17 ct17), sl17⟩) (c17 : PySem.W.codeIn K cd17 ("_law_loop_rows" : PySem.Str) = true) (k17 : PySem.W.keepIn K (.ref f17) = true)
    (ua_Loop___init__ : PySem.W.findIn K (.ref C_Loop) ("__init__" : PySem.Str) = some (some (.ref f18)))
    {T_Loop___init__ e_Loop___init__ : Addr} {dT_Loop___init__ dE_Loop___init__ : Option Addr} {nT_Loop___init__ nE_Loop___init__ : Nat} {sT_Loop___init__ sE_Loop___init__ : Array (Option Value)}
    (ul_Loop___init__ : K.lookup f18 = some ⟨oc18, od18, .func (PySem.W.fnOf ("__init__" : PySem.Str) ("Loop.__init__" : PySem.Str) (defArgs s_Loop___init__) (defBody s_Loop___init__) (defScope s_Loop___init__) (.ref T_Loop___init__) kV18 dc18 pm18 an18 cd18 ct18), sl18⟩)
    (uT_Loop___init__ : K.lookup T_Loop___init__ = some ⟨.type "tuple", dT_Loop___init__, .seq #[.ref e_Loop___init__] nT_Loop___init__, sT_Loop___init__⟩)
    (uE_Loop___init__ : K.lookup e_Loop___init__ = some ⟨.type "tuple", dE_Loop___init__, .seq #[] nE_Loop___init__, sE_Loop___init__⟩)
    (ud_Loop___init__ : PySem.W.codeIn K cd18 ("Loop.__init__" : PySem.Str) = true)
    (uk_Loop___init__ : PySem.W.keepIn K (.ref f18) = true)
    (uf_Loop___init__ : PySem.W.isFn K (.ref f18) = true)
    (ua_Loop___len__ : PySem.W.findIn K (.ref C_Loop) ("__len__" : PySem.Str) = some (some (.ref f19)))
    (ul_Loop___len__ : K.lookup f19 = some ⟨oc19, od19, .func (PySem.W.fnOf ("__len__" : PySem.Str) ("Loop.__len__" : PySem.Str) (defArgs s_Loop___len__) (defBody s_Loop___len__) (defScope s_Loop___len__) .none kV19 dc19 pm19 an19 cd19 ct19), sl19⟩)
    (ud_Loop___len__ : PySem.W.codeIn K cd19 ("Loop.__len__" : PySem.Str) = true)
    (uk_Loop___len__ : PySem.W.keepIn K (.ref f19) = true)
    (uf_Loop___len__ : PySem.W.isFn K (.ref f19) = true)
    (ua_Loop___repr__ : PySem.W.findIn K (.ref C_Loop) ("__repr__" : PySem.Str) = some (some (.ref f20)))
    (ul_Loop___repr__ : K.lookup f20 = some ⟨oc20, od20, .func (PySem.W.fnOf ("__repr__" : PySem.Str) ("Loop.__repr__" : PySem.Str) (defArgs s_Loop___repr__) (defBody s_Loop___repr__) (defScope s_Loop___repr__) .none kV20 dc20 pm20 an20 cd20 ct20), sl20⟩)
    (ud_Loop___repr__ : PySem.W.codeIn K cd20 ("Loop.__repr__" : PySem.Str) = true)
    (uk_Loop___repr__ : PySem.W.keepIn K (.ref f20) = true)
    (uf_Loop___repr__ : PySem.W.isFn K (.ref f20) = true)
    {p_Loop_step : Addr} {rest_Loop_step : List Value}
    (ua_Loop_step : PySem.W.findIn K (.ref C_Loop) ("step" : PySem.Str) = some (some (.ref p_Loop_step)))
    (ur_Loop_step : PySem.W.recIn K p_Loop_step "property" = some (.ref f21 :: rest_Loop_step))
    (ug_Loop_step : PySem.W.specialIn K (.ref p_Loop_step) "__get__" = some (some (.builtin "property.__get__")))
    (ut_Loop_step : PySem.W.takesIn K (.ref p_Loop_step) = some true)
    (ul_Loop_step : K.lookup f21 = some ⟨oc21, od21, .func (PySem.W.fnOf ("step" : PySem.Str) ("Loop.step" : PySem.Str) (defArgs s_Loop_step) (defBody s_Loop_step) (defScope s_Loop_step) .none kV21 dc21 pm21 an21 cd21 ct21), sl21⟩)
    (ud_Loop_step : PySem.W.codeIn K cd21 ("Loop.step" : PySem.Str) = true)
    (uk_Loop_step : PySem.W.keepIn K (.ref f21) = true)
    (ua_Loop___eq__ : PySem.W.findIn K (.ref C_Loop) ("__eq__" : PySem.Str) = some (some (.ref f22)))
    (ul_Loop___eq__ : K.lookup f22 = some ⟨oc22, od22, .func (PySem.W.fnOf ("__eq__" : PySem.Str) ("Loop.__eq__" : PySem.Str) (defArgs s_Loop___eq__) (defBody s_Loop___eq__) (defScope s_Loop___eq__) .none kV22 dc22 pm22 an22 cd22 ct22), sl22⟩)
    (ud_Loop___eq__ : PySem.W.codeIn K cd22 ("Loop.__eq__" : PySem.Str) = true)
    (uk_Loop___eq__ : PySem.W.keepIn K (.ref f22) = true)
    (uf_Loop___eq__ : PySem.W.isFn K (.ref f22) = true)
    (ua_Loop___call__ : PySem.W.findIn K (.ref C_Loop) ("__call__" : PySem.Str) = some (some (.ref f23)))
    (ul_Loop___call__ : K.lookup f23 = some ⟨oc23, od23, .func (PySem.W.fnOf ("__call__" : PySem.Str) ("Loop.__call__" : PySem.Str) (defArgs s_Loop___call__) (defBody s_Loop___call__) (defScope s_Loop___call__) .none kV23 dc23 pm23 an23 cd23 ct23), sl23⟩)
    (ud_Loop___call__ : PySem.W.codeIn K cd23 ("Loop.__call__" : PySem.Str) = true)
    (uk_Loop___call__ : PySem.W.keepIn K (.ref f23) = true)
    (uf_Loop___call__ : PySem.W.isFn K (.ref f23) = true)
    (ui_Loop___call__ : PySem.W.fnIn K f23 = true)
    (ua_Loop_put : PySem.W.findIn K (.ref C_Loop) ("put" : PySem.Str) = some (some (.ref f24)))
    (ul_Loop_put : K.lookup f24 = some ⟨oc24, od24, .func (PySem.W.fnOf ("put" : PySem.Str) ("Loop.put" : PySem.Str) (defArgs s_Loop_put) (defBody s_Loop_put) (defScope s_Loop_put) .none kV24 dc24 pm24 an24 cd24 ct24), sl24⟩)
    (ud_Loop_put : PySem.W.codeIn K cd24 ("Loop.put" : PySem.Str) = true)
    (uk_Loop_put : PySem.W.keepIn K (.ref f24) = true)
    (uf_Loop_put : PySem.W.isFn K (.ref f24) = true)
    (ua_Loop_undo : PySem.W.findIn K (.ref C_Loop) ("undo" : PySem.Str) = some (some (.ref f25)))
    (ul_Loop_undo : K.lookup f25 = some ⟨oc25, od25, .func (PySem.W.fnOf ("undo" : PySem.Str) ("Loop.undo" : PySem.Str) (defArgs s_Loop_undo) (defBody s_Loop_undo) (defScope s_Loop_undo) .none kV25 dc25 pm25 an25 cd25 ct25), sl25⟩)
    (ud_Loop_undo : PySem.W.codeIn K cd25 ("Loop.undo" : PySem.Str) = true)
    (uk_Loop_undo : PySem.W.keepIn K (.ref f25) = true)
    (uf_Loop_undo : PySem.W.isFn K (.ref f25) = true)
    (a26 : PySem.W.nsIn K mainGlobals ("law" : PySem.Str) = some (some (.ref f26))) (l26 : K.lookup f26 = some ⟨oc26, od26, .func (PySem.W.fnOf ("law" : PySem.Str) ("law" : PySem.Str) (defArgs s_law) (defBody s_law) (defScope s_law) .none kV26 dc26 pm26 an26 cd26 ct26), sl26⟩) (c26 : PySem.W.codeIn K cd26 ("law" : PySem.Str) = true) (k26 : PySem.W.keepIn K (.ref f26) = true)
    (z0 : PySem.W.nsIn K mainGlobals ("abs" : PySem.Str) = some none)
    (z1 : PySem.W.nsIn K mainGlobals ("all" : PySem.Str) = some none)
    (z2 : PySem.W.nsIn K mainGlobals ("any" : PySem.Str) = some none)
    (z3 : PySem.W.nsIn K mainGlobals ("enumerate" : PySem.Str) = some none)
    (z4 : PySem.W.nsIn K mainGlobals ("int" : PySem.Str) = some none)
    (z5 : PySem.W.nsIn K mainGlobals ("isinstance" : PySem.Str) = some none)
    (z6 : PySem.W.nsIn K mainGlobals ("len" : PySem.Str) = some none)
    (z7 : PySem.W.nsIn K mainGlobals ("list" : PySem.Str) = some none)
    (z8 : PySem.W.nsIn K mainGlobals ("min" : PySem.Str) = some none)
    (z9 : PySem.W.nsIn K mainGlobals ("range" : PySem.Str) = some none)
    (z10 : PySem.W.nsIn K mainGlobals ("repr" : PySem.Str) = some none)
    (z11 : PySem.W.nsIn K mainGlobals ("tuple" : PySem.Str) = some none)
    {C_NothingToUndo : Addr}
    (ac_NothingToUndo : PySem.W.nsIn K mainGlobals ("NothingToUndo" : PySem.Str) = some (some (.ref C_NothingToUndo)))
    (xb_NothingToUndo : PySem.W.subIn K (.ref C_NothingToUndo) (.type "BaseException") = some true)
    (xt_NothingToUndo : PySem.W.typeIn K (.ref C_NothingToUndo) = some (.type "type"))
    (xd_NothingToUndo : PySem.W.hasDictIn K C_NothingToUndo = true)
    (xq_NothingToUndo : PySem.W.excIn K C_NothingToUndo veTail "ValueError.__new__" = true)
    (xk_NothingToUndo : PySem.W.keepIn K (.ref C_NothingToUndo) = true)
    : ∃ fd : FuncData, (∀ (s : Shared) (v : Value), BindsTo s fd ⟨[v], []⟩ [(("_law_script" : PySem.Str), v)]) ∧ ∀ base : Heap, K.In base → base.Ns mainGlobals mg → FnG l.prog w K mg base (L2.CX l.prog w) 6 fa fd [("_law_script" : PySem.Str)] (liftSp K sp_law) := by
  have e := hfa.symm.trans (PySem.W.mg_of X G a26)
  cases e
  have uCls : L2.Cls K C_Loop := ⟨uc1, uc2, uc3, uc4⟩
  have U_cf_Loop : CF K "Loop" := ⟨_, uC, uCls⟩
  have U_na_width : NA K "Loop" ("width" : PySem.Str) := fun C h => by cases Cl.uniq h uC; exact un_width
  have U_na_ends : NA K "Loop" ("ends" : PySem.Str) := fun C h => by cases Cl.uniq h uC; exact un_ends
  have U_na_past : NA K "Loop" ("past" : PySem.Str) := fun C h => by cases Cl.uniq h uC; exact un_past
  have U_iso_Loop : IsO K mg "Loop" := ⟨_, uC, PySem.W.mg_of X G uC, uCls, ui1, ui2, ui3, ui4, ui5, fun T hT => by
    simp only [List.mem_cons, List.not_mem_nil, or_false] at hT
    rcases hT with rfl | rfl | rfl | rfl | rfl | rfl
    · exact us_NoneType
    · exact us_bool
    · exact us_int
    · exact us_str
    · exact us_tuple
    · exact us_list⟩
  have U_mkx0_NothingToUndo : MkX0 K mg ("NothingToUndo" : PySem.Str) := ⟨_, ac_NothingToUndo, PySem.W.mg_of X G ac_NothingToUndo, xq_NothingToUndo, xk_NothingToUndo, xb_NothingToUndo, xt_NothingToUndo⟩
  have U_eqnf_Loop : EqNF K "Loop" := fun C h T hT => by
    cases Cl.uniq h uC
    simp only [List.mem_cons, List.not_mem_nil, or_false] at hT
    rcases hT with rfl | rfl | rfl | rfl | rfl | rfl
    · exact us_NoneType
    · exact us_bool
    · exact us_int
    · exact us_str
    · exact us_tuple
    · exact us_list
  have U_nenf_Loop : NeNF K "Loop" := fun C h => by
    cases Cl.uniq h uC
    exact ⟨un1, un2⟩
  have F1 := fun_mk (st := s__wall) l1 c1 k1
  have b1 := F1.binds (ps := [("k" : PySem.Str)]) fun _ _ _ _ _ _ us hl => match us, hl with | [_], _ => rfl
  have F2 := fun_mk (st := s_joined) l2 c2 k2
  have b2 := F2.binds (ps := [("first" : PySem.Str), ("second" : PySem.Str)]) fun _ _ _ _ _ _ us hl => match us, hl with | [_, _], _ => rfl
  have F3 := fun_mk (st := s_lesser) l3 c3 k3
  have b3 := F3.binds (ps := [("first" : PySem.Str), ("second" : PySem.Str)]) fun _ _ _ _ _ _ us hl => match us, hl with | [_, _], _ => rfl
  have F4 := fun_mk (st := s_is_at_most) l4 c4 k4
  have b4 := F4.binds (ps := [("first" : PySem.Str), ("second" : PySem.Str)]) fun _ _ _ _ _ _ us hl => match us, hl with | [_, _], _ => rfl
  have F5 := fun_mk (st := s_closed) l5 c5 k5
  have b5 := F5.binds (ps := [("table" : PySem.Str)]) fun _ _ _ _ _ _ us hl => match us, hl with | [_], _ => rfl
  have F6 := fun_mk (st := s_is_met) l6 c6 k6
  have b6 := F6.binds (ps := [("table" : PySem.Str), ("values" : PySem.Str)]) fun _ _ _ _ _ _ us hl => match us, hl with | [_, _], _ => rfl
  have F7 := fun_mk (st := s_only) l7 c7 k7
  have b7 := F7.binds (ps := [("table" : PySem.Str), ("points" : PySem.Str)]) fun _ _ _ _ _ _ us hl => match us, hl with | [_, _], _ => rfl
  have F8 := fun_mk (st := s_put_together) l8 c8 k8
  have b8 := F8.binds (ps := [("many" : PySem.Str), ("parts" : PySem.Str)]) fun _ _ _ _ _ _ us hl => match us, hl with | [_, _], _ => rfl
  have F9 := fun_mk (st := s_places_of) l9 c9 k9
  have b9 := F9.binds (ps := [("width" : PySem.Str), ("first" : PySem.Str)]) fun _ _ _ _ _ _ us hl => match us, hl with | [_, _], _ => rfl
  have F10 := fun_mk (st := s_news) l10 c10 k10
  have b10 := F10.binds (ps := [("field" : PySem.Str), ("step" : PySem.Str)]) fun _ _ _ _ _ _ us hl => match us, hl with | [_, _], _ => rfl
  have F11 := fun_mk (st := s_integers_of) l11 c11 k11
  have b11 := F11.binds (ps := [("ends" : PySem.Str)]) fun _ _ _ _ _ _ us hl => match us, hl with | [_], _ => rfl
  have F12 := fun_mk (st := s__law_draws) l12 c12 k12
  have b12 := F12.binds (ps := [("_law_script" : PySem.Str)]) fun _ _ _ _ _ _ us hl => match us, hl with | [_], _ => rfl
  have F13 := fun_mk (st := s__law_next) l13 c13 k13
  have b13 := F13.binds (ps := [("_law_drawn" : PySem.Str), ("_law_many" : PySem.Str)]) fun _ _ _ _ _ _ us hl => match us, hl with | [_, _], _ => rfl
  have F14 := fun_mk (st := s__law_end) l14 c14 k14
  have b14 := F14.binds (ps := [("_law_drawn" : PySem.Str)]) fun _ _ _ _ _ _ us hl => match us, hl with | [_], _ => rfl
  have F15 := fun_mk (st := s__law_table) l15 c15 k15
  have b15 := F15.binds (ps := [("_law_many" : PySem.Str), ("_law_rows" : PySem.Str)]) fun _ _ _ _ _ _ us hl => match us, hl with | [_, _], _ => rfl
  have F16 := fun_mk (st := s__law_field) l16 c16 k16
  have b16 := F16.binds (ps := [("_law_drawn" : PySem.Str), ("_law_width" : PySem.Str)]) fun _ _ _ _ _ _ us hl => match us, hl with | [_, _], _ => rfl
  have F17 := fun_mk (st := s__law_loop_rows) l17 c17 k17
  have b17 := F17.binds (ps := [("_law_drawn" : PySem.Str), ("_law_width" : PySem.Str), ("_law_most" : PySem.Str)]) fun _ _ _ _ _ _ us hl => match us, hl with | [_, _, _], _ => rfl
  have F18 := fund_mk (st := s_Loop___init__) ul_Loop___init__ ud_Loop___init__ uk_Loop___init__ uT_Loop___init__
  obtain ⟨ds18_0, vd18_0, b18_0⟩ := F18.binds1 (ps := [("self" : PySem.Str), ("width" : PySem.Str), ("rows" : PySem.Str)]) 3 1 (fun z => nomatch z) rfl (fun T kV doc pm an cdv ct us its hl hi => by
    match us, hl, its, hi with
    | [_, _, _], _, [_], _ => exact ⟨_, rfl, rfl⟩)
  obtain ⟨ds18_1, vd18_1, b18_1⟩ := F18.binds1 (ps := [("self" : PySem.Str), ("width" : PySem.Str), ("rows" : PySem.Str)]) 2 0 (fun z => nomatch z) rfl (fun T kV doc pm an cdv ct us its hl hi => by
    match us, hl, its, hi with
    | [_, _], _, [_], _ => exact ⟨_, rfl, rfl⟩)
  have F19 := fun_mk (st := s_Loop___len__) ul_Loop___len__ ud_Loop___len__ uk_Loop___len__
  have b19 := F19.binds (ps := [("self" : PySem.Str)]) fun _ _ _ _ _ _ us hl => match us, hl with | [_], _ => rfl
  have F20 := fun_mk (st := s_Loop___repr__) ul_Loop___repr__ ud_Loop___repr__ uk_Loop___repr__
  have b20 := F20.binds (ps := [("self" : PySem.Str)]) fun _ _ _ _ _ _ us hl => match us, hl with | [_], _ => rfl
  have F21 := fun_mk (st := s_Loop_step) ul_Loop_step ud_Loop_step uk_Loop_step
  have b21 := F21.binds (ps := [("self" : PySem.Str)]) fun _ _ _ _ _ _ us hl => match us, hl with | [_], _ => rfl
  have F22 := fun_mk (st := s_Loop___eq__) ul_Loop___eq__ ud_Loop___eq__ uk_Loop___eq__
  have b22 := F22.binds (ps := [("self" : PySem.Str), ("other" : PySem.Str)]) fun _ _ _ _ _ _ us hl => match us, hl with | [_, _], _ => rfl
  have F23 := fun_mk (st := s_Loop___call__) ul_Loop___call__ ud_Loop___call__ uk_Loop___call__
  have b23 := F23.binds (ps := [("self" : PySem.Str), ("field" : PySem.Str)]) fun _ _ _ _ _ _ us hl => match us, hl with | [_, _], _ => rfl
  have F24 := fun_mk (st := s_Loop_put) ul_Loop_put ud_Loop_put uk_Loop_put
  have b24 := F24.binds (ps := [("self" : PySem.Str), ("p" : PySem.Str), ("q" : PySem.Str), ("c" : PySem.Str)]) fun _ _ _ _ _ _ us hl => match us, hl with | [_, _, _, _], _ => rfl
  have F25 := fun_mk (st := s_Loop_undo) ul_Loop_undo ud_Loop_undo uk_Loop_undo
  have b25 := F25.binds (ps := [("self" : PySem.Str)]) fun _ _ _ _ _ _ us hl => match us, hl with | [_], _ => rfl
  have F26 := fun_mk (st := s_law) l26 c26 k26
  have b26 := F26.binds (ps := [("_law_script" : PySem.Str)]) fun _ _ _ _ _ _ us hl => match us, hl with | [_], _ => rfl
  have zz_abs := PySem.W.mg_none_of X G z0
  have zz_all := PySem.W.mg_none_of X G z1
  have zz_any := PySem.W.mg_none_of X G z2
  have zz_enumerate := PySem.W.mg_none_of X G z3
  have zz_int := PySem.W.mg_none_of X G z4
  have zz_isinstance := PySem.W.mg_none_of X G z5
  have zz_len := PySem.W.mg_none_of X G z6
  have zz_list := PySem.W.mg_none_of X G z7
  have zz_min := PySem.W.mg_none_of X G z8
  have zz_range := PySem.W.mg_none_of X G z9
  have zz_repr := PySem.W.mg_none_of X G z10
  have zz_tuple := PySem.W.mg_none_of X G z11
  refine ⟨PySem.W.fnOf "law" "law" (defArgs s_law) (defBody s_law) (defScope s_law) .none kV26 dc26 pm26 an26 cd26 ct26, fun s v => .of_eq rfl, fun base _ _ => ?_⟩
  have D__wall := ok__wall (P := l.prog) (w := w) (base := base) (PySem.W.mg_of X G a1) F1 b1         
  have D_joined := ok_joined (P := l.prog) (w := w) (base := base) (PySem.W.mg_of X G a2) F2 b2         
  have D_lesser := ok_lesser (P := l.prog) (w := w) (base := base) (PySem.W.mg_of X G a3) F3 b3 zz_min        
  have D_is_at_most := ok_is_at_most (P := l.prog) (w := w) (base := base) (PySem.W.mg_of X G a4) F4 b4         
  have D_closed := ok_closed (P := l.prog) (w := w) (base := base) (PySem.W.mg_of X G a5) F5 b5 zz_any zz_len zz_list zz_range zz_tuple        D_lesser D_joined
  have D_is_met := ok_is_met (P := l.prog) (w := w) (base := base) (PySem.W.mg_of X G a6) F6 b6 zz_all zz_enumerate zz_tuple        D_is_at_most
  have D_only := ok_only (P := l.prog) (w := w) (base := base) (PySem.W.mg_of X G a7) F7 b7 zz_len zz_tuple        D_closed
  have D_put_together := ok_put_together (P := l.prog) (w := w) (base := base) (PySem.W.mg_of X G a8) F8 b8 zz_enumerate zz_range zz_tuple        D_lesser
  have D_places_of := ok_places_of (P := l.prog) (w := w) (base := base) (PySem.W.mg_of X G a9) F9 b9 zz_list zz_range        
  have D_news := ok_news (P := l.prog) (w := w) (base := base) (PySem.W.mg_of X G a10) F10 b10 zz_len zz_list zz_range zz_tuple        D_put_together D_places_of D_only
  have D_integers_of := ok_integers_of (P := l.prog) (w := w) (base := base) (PySem.W.mg_of X G a11) F11 b11         
  have D__law_draws := ok__law_draws (P := l.prog) (w := w) (base := base) (PySem.W.mg_of X G a12) F12 b12 zz_abs zz_int zz_len        
  have D__law_next := ok__law_next (P := l.prog) (w := w) (base := base) (PySem.W.mg_of X G a13) F13 b13         
  have D__law_end := ok__law_end (P := l.prog) (w := w) (base := base) (PySem.W.mg_of X G a14) F14 b14         D__law_next
  have D__law_table := ok__law_table (P := l.prog) (w := w) (base := base) (PySem.W.mg_of X G a15) F15 b15 zz_range zz_tuple        
  have D__law_field := ok__law_field (P := l.prog) (w := w) (base := base) (PySem.W.mg_of X G a16) F16 b16 zz_int zz_range        D__law_next D__law_end D__law_table
  have D__law_loop_rows := ok__law_loop_rows (P := l.prog) (w := w) (base := base) (PySem.W.mg_of X G a17) F17 b17 zz_range zz_tuple        D__law_next D__law_end
  have G_Loop___init__ := ok_Loop___init__ (P := l.prog) (w := w) (mg := mg) (base := base) F18 zz_range      U_cf_Loop U_na_width U_na_ends U_na_past  
  have U_make_0 : Make3 l.prog w K mg base 1 "Loop" [] sp_Loop___init__ := ⟨_, _, _, _, _, _, uC, PySem.W.mg_of X G uC, ⟨um1, ua_Loop___init__, uf_Loop___init__, um2⟩, b18_0, vd18_0, (fun _ => .nil), G_Loop___init__⟩
  have G_Loop___len__ := ok_Loop___len__ (P := l.prog) (w := w) (mg := mg) (base := base) F19 zz_len      U_cf_Loop U_na_ends  D_integers_of
  have U_own___len__ : Own3 l.prog w K mg base 2 "Loop" ("__len__" : PySem.Str) sp_Loop___len__ := ⟨_, _, _, _, uC, ua_Loop___len__, uf_Loop___len__, b19, G_Loop___len__⟩
  have G_Loop___repr__ := ok_Loop___repr__ (P := l.prog) (w := w) (mg := mg) (base := base) F20 zz_len      U_cf_Loop U_na_width U_own___len__  
  have U_own___repr__ : Own3 l.prog w K mg base 4 "Loop" ("__repr__" : PySem.Str) sp_Loop___repr__ := ⟨_, _, _, _, uC, ua_Loop___repr__, uf_Loop___repr__, b20, G_Loop___repr__⟩
  have G_Loop_step := ok_Loop_step (P := l.prog) (w := w) (mg := mg) (base := base) F21 zz_tuple      U_cf_Loop U_na_ends  
  have U_prop_step : Prop3 l.prog w K mg base 1 "Loop" ("step" : PySem.Str) sp_Loop_step := ⟨_, _, _, _, _, uC, uCls, ⟨ua_Loop_step, ug_Loop_step, ut_Loop_step, ⟨_, ur_Loop_step⟩⟩, b21, G_Loop_step⟩
  have G_Loop___eq__ := ok_Loop___eq__ (P := l.prog) (w := w) (mg := mg) (base := base) F22 zz_isinstance      U_iso_Loop U_prop_step  
  have U_own___eq__ : Own3 l.prog w K mg base 3 "Loop" ("__eq__" : PySem.Str) sp_Loop___eq__ := ⟨_, _, _, _, uC, ua_Loop___eq__, uf_Loop___eq__, b22, G_Loop___eq__⟩
  have G_Loop___call__ := ok_Loop___call__ (P := l.prog) (w := w) (mg := mg) (base := base) F23       U_prop_step  D_news
  have U_callo___call__ : Call3 l.prog w K mg base 5 "Loop" sp_Loop___call__ := ⟨_, _, _, _, uC, ⟨ua_Loop___call__, uf_Loop___call__, ui_Loop___call__⟩, b23, G_Loop___call__⟩
  have G_Loop_put := ok_Loop_put (P := l.prog) (w := w) (mg := mg) (base := base) F24       U_cf_Loop U_na_ends U_na_past  
  have U_meth_put : Meth3 l.prog w K mg base (L2.CX l.prog w) 1 "Loop" ("put" : PySem.Str) sp_Loop_put := ⟨_, _, _, _, uC, uCls, ⟨ua_Loop_put, uf_Loop_put, uk_Loop_put⟩, b24, G_Loop_put⟩
  have G_Loop_undo := ok_Loop_undo (P := l.prog) (w := w) (mg := mg) (base := base) F25       U_cf_Loop U_na_past U_mkx0_NothingToUndo U_na_ends  
  have U_meth_undo : Meth3 l.prog w K mg base (L2.CX l.prog w) 3 "Loop" ("undo" : PySem.Str) sp_Loop_undo := ⟨_, _, _, _, uC, uCls, ⟨ua_Loop_undo, uf_Loop_undo, uk_Loop_undo⟩, b25, G_Loop_undo⟩
  exact ok_law (P := l.prog) (w := w) (base := base) F26 zz_range zz_repr      U_make_0 U_own___repr__ U_prop_step U_own___eq__ U_eqnf_Loop U_nenf_Loop U_callo___call__ U_meth_put U_meth_undo  D__law_draws D__law_next D__law_loop_rows D__law_field
end W
open PySem PySem.W PyProof.Rows
set_option maxRecDepth 100000 in
set_option maxHeartbeats 0 in
theorem PySem.Challenge.cw_everturns_k98_loops_and_other_things_holds : PySem.Challenge.rw_everturns_k98_loops_and_other_things.Holds := by
  w_on; o_law; k_head; (case hw => w_witness2)
  k_fill
  refine L3.law_end (l := PySem.Challenge.rw_everturns_k98_loops_and_other_things) (CX := fun P w => L2.CX P w) (sp := W.sp_law) (k := 6) (x := ("_law_script" : PySem.Str)) rfl rfl ⟨rfl, by decide, by decide⟩ (fun w h Y => PySem.W.kIn_of Y) ?F W.said L3.quietX
  case F =>
    intro w mg fa h KX G hmg
    refine' W.all_mk KX G hmg ?uC ?uc1 ?uc2 ?uc3 ?uc4 ?un_width ?un_ends ?un_past ?us_NoneType ?us_bool ?us_int ?us_str ?us_tuple ?us_list ?ui1 ?ui2 ?ui3 ?ui4 ?ui5 ?un1 ?un2 ?um1 ?um2 ?ua_Loop___init__ ?ul_Loop___init__ ?uT_Loop___init__ ?uE_Loop___init__ ?ud_Loop___init__ ?uk_Loop___init__ ?uf_Loop___init__ ?ua_Loop___len__ ?ul_Loop___len__ ?ud_Loop___len__ ?uk_Loop___len__ ?uf_Loop___len__ ?ua_Loop___repr__ ?ul_Loop___repr__ ?ud_Loop___repr__ ?uk_Loop___repr__ ?uf_Loop___repr__ ?ua_Loop_step ?ur_Loop_step ?ug_Loop_step ?ut_Loop_step ?ul_Loop_step ?ud_Loop_step ?uk_Loop_step ?ua_Loop___eq__ ?ul_Loop___eq__ ?ud_Loop___eq__ ?uk_Loop___eq__ ?uf_Loop___eq__ ?ua_Loop___call__ ?ul_Loop___call__ ?ud_Loop___call__ ?uk_Loop___call__ ?uf_Loop___call__ ?ui_Loop___call__ ?ua_Loop_put ?ul_Loop_put ?ud_Loop_put ?uk_Loop_put ?uf_Loop_put ?ua_Loop_undo ?ul_Loop_undo ?ud_Loop_undo ?uk_Loop_undo ?uf_Loop_undo ?a1 ?l1 ?c1 ?k1 ?a2 ?l2 ?c2 ?k2 ?a3 ?l3 ?c3 ?k3 ?a4 ?l4 ?c4 ?k4 ?a5 ?l5 ?c5 ?k5 ?a6 ?l6 ?c6 ?k6 ?a7 ?l7 ?c7 ?k7 ?a8 ?l8 ?c8 ?k8 ?a9 ?l9 ?c9 ?k9 ?a10 ?l10 ?c10 ?k10 ?a11 ?l11 ?c11 ?k11 ?a12 ?l12 ?c12 ?k12 ?a13 ?l13 ?c13 ?k13 ?a14 ?l14 ?c14 ?k14 ?a15 ?l15 ?c15 ?k15 ?a16 ?l16 ?c16 ?k16 ?a17 ?l17 ?c17 ?k17 ?a26 ?l26 ?c26 ?k26 ?z0 ?z1 ?z2 ?z3 ?z4 ?z5 ?z6 ?z7 ?z8 ?z9 ?z10 ?z11 ?ac_NothingToUndo ?xb_NothingToUndo ?xt_NothingToUndo ?xd_NothingToUndo ?xq_NothingToUndo ?xk_NothingToUndo
    (case uC => k_is)
    (case uc1 => k_is)
    (case uc2 => k_is)
    (case uc3 => k_is)
    (case uc4 => k_is)
    (case un_width => k_is)
    (case un_ends => k_is)
    (case un_past => k_is)
    (case us_NoneType => k_is)
    (case us_bool => k_is)
    (case us_int => k_is)
    (case us_str => k_is)
    (case us_tuple => k_is)
    (case us_list => k_is)
    (case ui1 => k_is)
    (case ui2 => k_is)
    (case ui3 => k_is)
    (case ui4 => k_is)
    (case ui5 => k_is)
    (case un1 => k_is)
    (case un2 => k_is)
    (case um1 => k_is)
    (case um2 => k_is)
    (case ua_Loop___init__ => k_is)
    (case ul_Loop___init__ => k_is)
    (case uT_Loop___init__ => k_is)
    (case uE_Loop___init__ => k_is)
    (case ud_Loop___init__ => k_is)
    (case uk_Loop___init__ => k_is)
    (case uf_Loop___init__ => k_is)
    (case ua_Loop___len__ => k_is)
    (case ul_Loop___len__ => k_is)
    (case ud_Loop___len__ => k_is)
    (case uk_Loop___len__ => k_is)
    (case uf_Loop___len__ => k_is)
    (case ua_Loop___repr__ => k_is)
    (case ul_Loop___repr__ => k_is)
    (case ud_Loop___repr__ => k_is)
    (case uk_Loop___repr__ => k_is)
    (case uf_Loop___repr__ => k_is)
    (case ua_Loop_step => k_is)
    (case ur_Loop_step => k_is)
    (case ug_Loop_step => k_is)
    (case ut_Loop_step => k_is)
    (case ul_Loop_step => k_is)
    (case ud_Loop_step => k_is)
    (case uk_Loop_step => k_is)
    (case ua_Loop___eq__ => k_is)
    (case ul_Loop___eq__ => k_is)
    (case ud_Loop___eq__ => k_is)
    (case uk_Loop___eq__ => k_is)
    (case uf_Loop___eq__ => k_is)
    (case ua_Loop___call__ => k_is)
    (case ul_Loop___call__ => k_is)
    (case ud_Loop___call__ => k_is)
    (case uk_Loop___call__ => k_is)
    (case uf_Loop___call__ => k_is)
    (case ui_Loop___call__ => k_is)
    (case ua_Loop_put => k_is)
    (case ul_Loop_put => k_is)
    (case ud_Loop_put => k_is)
    (case uk_Loop_put => k_is)
    (case uf_Loop_put => k_is)
    (case ua_Loop_undo => k_is)
    (case ul_Loop_undo => k_is)
    (case ud_Loop_undo => k_is)
    (case uk_Loop_undo => k_is)
    (case uf_Loop_undo => k_is)
    (case a1 => k_is)
    (case l1 => k_is)
    (case c1 => k_is)
    (case k1 => k_is)
    (case a2 => k_is)
    (case l2 => k_is)
    (case c2 => k_is)
    (case k2 => k_is)
    (case a3 => k_is)
    (case l3 => k_is)
    (case c3 => k_is)
    (case k3 => k_is)
    (case a4 => k_is)
    (case l4 => k_is)
    (case c4 => k_is)
    (case k4 => k_is)
    (case a5 => k_is)
    (case l5 => k_is)
    (case c5 => k_is)
    (case k5 => k_is)
    (case a6 => k_is)
    (case l6 => k_is)
    (case c6 => k_is)
    (case k6 => k_is)
    (case a7 => k_is)
    (case l7 => k_is)
    (case c7 => k_is)
    (case k7 => k_is)
    (case a8 => k_is)
    (case l8 => k_is)
    (case c8 => k_is)
    (case k8 => k_is)
    (case a9 => k_is)
    (case l9 => k_is)
    (case c9 => k_is)
    (case k9 => k_is)
    (case a10 => k_is)
    (case l10 => k_is)
    (case c10 => k_is)
    (case k10 => k_is)
    (case a11 => k_is)
    (case l11 => k_is)
    (case c11 => k_is)
    (case k11 => k_is)
    (case a12 => k_is)
    (case l12 => k_is)
    (case c12 => k_is)
    (case k12 => k_is)
    (case a13 => k_is)
    (case l13 => k_is)
    (case c13 => k_is)
    (case k13 => k_is)
    (case a14 => k_is)
    (case l14 => k_is)
    (case c14 => k_is)
    (case k14 => k_is)
    (case a15 => k_is)
    (case l15 => k_is)
    (case c15 => k_is)
    (case k15 => k_is)
    (case a16 => k_is)
    (case l16 => k_is)
    (case c16 => k_is)
    (case k16 => k_is)
    (case a17 => k_is)
    (case l17 => k_is)
    (case c17 => k_is)
    (case k17 => k_is)
    (case a26 => k_is)
    (case l26 => k_is)
    (case c26 => k_is)
    (case k26 => k_is)
    (case z0 => k_is)
    (case z1 => k_is)
    (case z2 => k_is)
    (case z3 => k_is)
    (case z4 => k_is)
    (case z5 => k_is)
    (case z6 => k_is)
    (case z7 => k_is)
    (case z8 => k_is)
    (case z9 => k_is)
    (case z10 => k_is)
    (case z11 => k_is)
    (case ac_NothingToUndo => k_is)
    (case xb_NothingToUndo => k_is)
    (case xt_NothingToUndo => k_is)
    (case xd_NothingToUndo => k_is)
    (case xq_NothingToUndo => kernel_rfl)
    (case xk_NothingToUndo => k_is)
