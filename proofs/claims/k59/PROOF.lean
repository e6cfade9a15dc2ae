import PyProof.Rows.All
import Wide.All
import OpenK.AllK
import Wide.FinOn
import HandS.ForMost
import HandS.Wide
import HandS.Zip
import HandS.TupAny
import HandS.Conv
import HandS.WordsExc
import KE.GoesMore
import HandS.Style
import HandS.Deep
import KE.DatumOrd
import HandS.IsInst
import HandS.Dict
import HandS.SetFor
import HandS.Exc
import HandS.ExcInit
import HandS.TryOnly
import HandS.CallSlots
import HandS.ExcIs
import HandS.ExcField
import KE.KIsAll
import KE.KTryMore
import HandS.Property
import HandS.Star
import HandS.FStr
import OpenK.KOps
import OpenK.KMeth
import KE.KCallOwn
import HandS.Defaults
import PyProof.ReprBulk
import PyProof.Rows.ReprOcc
import PySem.Challenge.RW_everturns_k59_can_do_by_columns
set_option Elab.async false
set_option linter.all false
set_option maxRecDepth 100000
set_option maxHeartbeats 4000000
namespace L3
open PySem PySem.Spec PyProof.Rows L2
inductive D where
  | non | bl (b : Bool) | int (i : Int) | str (x : Str)
  | tup (xs : List D)
  | rol (xs : List D)
  | ref (a : Addr)
  | ty (n : String)
/-- a list that nobody writes: the script -/
def RoL (K : PySem.W.Frag) (H : Hp) (a : Addr) (xs : List V) : Prop :=
  (∃ o, H a = some (.frz o (.lst xs))) ∨
    ∃ (its : Array Value) (n : Nat), K.lookup a = some { cls := .type "list", data := .seq its n } ∧ its.size ≤ sizeLine ∧ Vals xs its.toList
theorem RoL.sq {K : PySem.W.Frag} {H : Hp} {a : Addr} {xs : List V} (h : RoL K H a xs) : SqL K H a xs := by
  rcases h with h | ⟨its, n, h, z, v⟩
  · exact .inl (.inr h)
  · exact .inr ⟨_, its, n, h, rfl, rfl, rfl, z, v⟩
mutual
inductive RD (K : PySem.W.Frag) (H : Hp) : V → D → Prop
  | non : RD K H .non .non
  | bl (b : Bool) : RD K H (.bl b) (.bl b)
  | int (i : Int) : RD K H (.int i) (.int i)
  | str (x : Str) : RD K H (.str x) (.str x)
  | ref (a : Addr) : RD K H (.ref a) (.ref a)
  | ty (n : String) : RD K H (.ty n) (.ty n)
  | tup {a : Addr} {vs : List V} {ds : List D} : SqT K H a vs → RDs K H vs ds → RD K H (.ref a) (.tup ds)
  | rol {a : Addr} {vs : List V} {ds : List D} : RoL K H a vs → RDs K H vs ds → RD K H (.ref a) (.rol ds)
inductive RDs (K : PySem.W.Frag) (H : Hp) : List V → List D → Prop
  | nil : RDs K H [] []
  | cons {v : V} {vs : List V} {d : D} {ds : List D} : RD K H v d → RDs K H vs ds → RDs K H (v :: vs) (d :: ds)
end
/-- what stands at a mutable address -/
inductive MO where
  | lst (ds : List D)
  | dK (kvs : List (Key × D))
  | dT (kvs : List (List Key × D))
  /-- a dict that is walked: read, not written -/
  | dL (o : Obj) (ks : List (Key × V)) (kvs : List (Key × D))
  /-- the same, its keys tuples -/
  | dM (o : Obj) (ks : List (List Key × V)) (kvs : List (List Key × D))
  | ins (n : Str) (fs : List (Str × D))
abbrev Mp := Addr → Option MO
def mset (M : Mp) (a : Addr) (o : MO) : Mp := fun b => if b = a then some o else M b
def M0 : Mp := fun _ => none
theorem mset_same {M : Mp} {a : Addr} {o : MO} : mset M a o a = some o := if_pos rfl
theorem mset_ne {M : Mp} {a b : Addr} {o : MO} (h : b ≠ a) : mset M a o b = M b := if_neg h
theorem ne_m {M : Mp} {a p : Addr} {o : MO} (h : M a = some o) (hp : M p = none) : a ≠ p := by
  intro e; subst e; rw [h] at hp; cases hp
def RKv {κ : Type} (K : PySem.W.Frag) (H : Hp) : List (κ × V) → List (κ × D) → Prop
  | [], [] => True
  | (k, v) :: r, (j, d) :: q => k = j ∧ RD K H v d ∧ RKv K H r q
  | _, _ => False
/-- the program's name n is that value -/
def Cl (K : PySem.W.Frag) (n : Str) (c : Value) : Prop := PySem.W.nsIn K mainGlobals n = some (some c)
def RO (K : PySem.W.Frag) (H : Hp) (a : Addr) : MO → Prop
  | .lst ds => ∃ vs, H a = some (.lst vs) ∧ RDs K H vs ds
  | .dK kvs => ∃ ks, H a = some (.dK ks) ∧ RKv K H ks kvs
  | .dT kvs => ∃ ks, H a = some (.dT ks) ∧ RKv K H ks kvs
  | .dL o ks kvs => H a = some (.frz o (.dK ks)) ∧ RKv K H ks kvs
  | .dM o ks kvs => H a = some (.frz o (.dT ks)) ∧ RKv K H ks kvs
  | .ins n fs => ∃ C dx gs, Cl K n (.ref C) ∧ H a = some (.ins C dx gs) ∧ RKv K H gs fs
def RM0 (K : PySem.W.Frag) (H : Hp) (M : Mp) : Prop := ∀ a o, M a = some o → RO K H a o
/-- M to M', H to H': what is not in M stays; what is new in M' was free -/
structure Ext (M M' : Mp) (H H' : Hp) : Prop where
  fr : ∀ a o, H a = some o → M a = none → H' a = some o
  dom : ∀ a, M' a ≠ none → M a ≠ none ∨ H a = none
theorem Ext.refl {M : Mp} {H : Hp} : Ext M M H H := ⟨fun _ _ h _ => h, fun _ h => .inl h⟩
theorem Ext.trans {M M1 M2 : Mp} {H H1 H2 : Hp} (x : Ext M M1 H H1) (y : Ext M1 M2 H1 H2) : Ext M M2 H H2 := by
  refine ⟨fun a o h hm => ?_, fun a h => ?_⟩
  · have h1 := x.fr a o h hm
    refine y.fr a o h1 ?_
    cases q : M1 a with
    | none => rfl
    | some u =>
      rcases x.dom a (by rw [q]; exact fun z => nomatch z) with z | z
      · exact absurd hm z
      · rw [h] at z; cases z
  · rcases y.dom a h with z | z
    · exact x.dom a z
    · cases q : H a with
      | none => exact .inr rfl
      | some o =>
        left
        intro hm
        have := x.fr a o q hm
        rw [z] at this; cases this
/-- some of M forgotten -/
theorem Ext.less {M M1 M2 : Mp} {H H1 : Hp} (x : Ext M M1 H H1) (l : ∀ a o, M2 a = some o → M1 a = some o) : Ext M M2 H H1 :=
  ⟨x.fr, fun a h => x.dom a (by
    cases q : M2 a with
    | none => exact absurd q h
    | some o => rw [l a o q]; exact fun z => nomatch z)⟩
theorem RM0.less {K : PySem.W.Frag} {H : Hp} {M1 M2 : Mp} (m : RM0 K H M1) (l : ∀ a o, M2 a = some o → M1 a = some o) : RM0 K H M2 := fun a o h => m a o (l a o h)
section
variable {K : PySem.W.Frag} {M M' : Mp} {H H' : Hp} {a : Addr}
theorem RM0.noTup {xs : List V} (m : RM0 K H M) (h : H a = some (.tup xs)) : M a = none := by
  cases q : M a with
  | none => rfl
  | some o =>
    have r := m a o q
    cases o with
    | lst ds => obtain ⟨_, e, _⟩ := r; rw [h] at e; cases e
    | dK ds => obtain ⟨_, e, _⟩ := r; rw [h] at e; cases e
    | dT ds => obtain ⟨_, e, _⟩ := r; rw [h] at e; cases e
    | dL o ks ds => obtain ⟨e, _⟩ := r; rw [h] at e; cases e
    | dM o ks ds => obtain ⟨e, _⟩ := r; rw [h] at e; cases e
    | ins C ds => obtain ⟨_, _, _, _, e, _⟩ := r; rw [h] at e; cases e
theorem RM0.noFrz {ob : Obj} {u : HO} (m : RM0 K H M) (h : H a = some (.frz ob u)) (hu : ∀ ks, u ≠ .dK ks) (hu2 : ∀ ks, u ≠ .dT ks := by exact fun _ z => nomatch z) : M a = none := by
  cases q : M a with
  | none => rfl
  | some o =>
    have r := m a o q
    cases o with
    | lst ds => obtain ⟨_, e, _⟩ := r; rw [h] at e; cases e
    | dK ds => obtain ⟨_, e, _⟩ := r; rw [h] at e; cases e
    | dT ds => obtain ⟨_, e, _⟩ := r; rw [h] at e; cases e
    | dL o ks ds => obtain ⟨e, _⟩ := r; rw [h] at e; cases e; exact absurd rfl (hu _)
    | dM o ks ds => obtain ⟨e, _⟩ := r; rw [h] at e; cases e; exact absurd rfl (hu2 _)
    | ins C ds => obtain ⟨_, _, _, _, e, _⟩ := r; rw [h] at e; cases e
theorem RM0.free (m : RM0 K H M) (h : H a = none) : M a = none := by
  cases q : M a with
  | none => rfl
  | some o =>
    have r := m a o q
    cases o with
    | lst ds => obtain ⟨_, e, _⟩ := r; rw [h] at e; cases e
    | dK ds => obtain ⟨_, e, _⟩ := r; rw [h] at e; cases e
    | dT ds => obtain ⟨_, e, _⟩ := r; rw [h] at e; cases e
    | dL o ks ds => obtain ⟨e, _⟩ := r; rw [h] at e; cases e
    | dM o ks ds => obtain ⟨e, _⟩ := r; rw [h] at e; cases e
    | ins C ds => obtain ⟨_, _, _, _, e, _⟩ := r; rw [h] at e; cases e
/-- what a value's reading leans on -/
def Still (K : PySem.W.Frag) (H H' : Hp) : Prop := (∀ a xs, SqT K H a xs → SqT K H' a xs) ∧ ∀ a xs, RoL K H a xs → RoL K H' a xs
theorem Still.refl : Still K H H := ⟨fun _ _ h => h, fun _ _ h => h⟩
theorem Still.trans {H1 H2 : Hp} (x : Still K H H1) (y : Still K H1 H2) : Still K H H2 := ⟨fun a xs h => y.1 a xs (x.1 a xs h), fun a xs h => y.2 a xs (x.2 a xs h)⟩
theorem Ext.still0 (x : Ext M M' H H') (m : RM0 K H M) : Still K H H' := by
  refine ⟨fun a xs h => ?_, fun a xs h => ?_⟩
  · rcases h with (h | ⟨o, h⟩) | h
    · exact .inl (.inl (x.fr a _ h (m.noTup h)))
    · exact .inl (.inr ⟨o, x.fr a _ h (m.noFrz h fun _ z => nomatch z)⟩)
    · exact .inr h
  · rcases h with ⟨o, h⟩ | h
    · exact .inl ⟨o, x.fr a _ h (m.noFrz h fun _ z => nomatch z)⟩
    · exact .inr h
mutual
theorem RD.still (s : Still K H H') : ∀ (d : D) (v : V), RD K H v d → RD K H' v d
  | .non, _, h => by cases h; exact .non
  | .bl b, _, h => by cases h; exact .bl b
  | .int i, _, h => by cases h; exact .int i
  | .str x, _, h => by cases h; exact .str x
  | .ref a, _, h => by cases h; exact .ref a
  | .ty n, _, h => by cases h; exact .ty n
  | .tup ds, _, h => by
    cases h with
    | tup h1 h2 => exact .tup (s.1 _ _ h1) (RDs.still s ds _ h2)
  | .rol ds, _, h => by
    cases h with
    | rol h1 h2 => exact .rol (s.2 _ _ h1) (RDs.still s ds _ h2)
theorem RDs.still (s : Still K H H') : ∀ (ds : List D) (vs : List V), RDs K H vs ds → RDs K H' vs ds
  | [], _, h => by cases h; exact .nil
  | d :: ds, _, h => by
    cases h with
    | cons h1 h2 => exact .cons (RD.still s d _ h1) (RDs.still s ds _ h2)
end
theorem RD.go {v : V} {d : D} (r : RD K H v d) (s : Still K H H') : RD K H' v d := RD.still s d v r
theorem RDs.go {vs : List V} {ds : List D} (r : RDs K H vs ds) (s : Still K H H') : RDs K H' vs ds := RDs.still s ds vs r
theorem RKv.go {κ : Type} (s : Still K H H') : ∀ {ks : List (κ × V)} {ds : List (κ × D)}, RKv K H ks ds → RKv K H' ks ds
  | [], [], _ => True.intro
  | (k, v) :: r, (j, d) :: q, h => ⟨h.1, h.2.1.go s, RKv.go s h.2.2⟩
  | [], _ :: _, h => h.elim
  | _ :: _, [], h => h.elim
theorem RO.go {o : MO} (r : RO K H a o) (s : Still K H H') (k : ∀ u, H a = some u → H' a = some u) : RO K H' a o := by
  cases o with
  | lst ds => obtain ⟨vs, e, q⟩ := r; exact ⟨vs, k _ e, q.go s⟩
  | dK ds => obtain ⟨vs, e, q⟩ := r; exact ⟨vs, k _ e, RKv.go s q⟩
  | dT ds => obtain ⟨vs, e, q⟩ := r; exact ⟨vs, k _ e, RKv.go s q⟩
  | dL o ks ds => obtain ⟨e, q⟩ := r; exact ⟨k _ e, RKv.go s q⟩
  | dM o ks ds => obtain ⟨e, q⟩ := r; exact ⟨k _ e, RKv.go s q⟩
  | ins n fs => obtain ⟨C, dx, vs, c, e, q⟩ := r; exact ⟨C, dx, vs, c, k _ e, RKv.go s q⟩
/-- all that was tracked is kept: M is as it was -/
theorem RM0.keep (m : RM0 K H M) (k : ∀ b u, H b = some u → H' b = some u) : Ext M M H H' ∧ RM0 K H' M := by
  have x : Ext M M H H' := ⟨fun b u h _ => k b u h, fun _ h => .inl h⟩
  exact ⟨x, fun b o h => (m b o h).go (x.still0 m) (k b)⟩
theorem RM0.upNew {p : Addr} {o : HO} (m : RM0 K H M) (hp : H p = none) : Ext M M H (upd H p o) ∧ RM0 K (upd H p o) M :=
  m.keep fun b u h => by rw [upd_ne (ne_of_none h hp)]; exact h
/-- a new object laid -/
theorem RM0.new {p : Addr} {o : HO} {mo : MO} (m : RM0 K H M) (hp : H p = none) (r : RO K (upd H p o) p mo) : Ext M (mset M p mo) H (upd H p o) ∧ RM0 K (upd H p o) (mset M p mo) := by
  have x0 : Ext M M H (upd H p o) := (m.upNew hp).1
  have x : Ext M (mset M p mo) H (upd H p o) := ⟨x0.fr, fun b h => by
    by_cases e : b = p
    · subst e; exact .inr hp
    · rw [mset_ne e] at h; exact .inl h⟩
  refine ⟨x, fun b u h => ?_⟩
  by_cases e : b = p
  · subst e; rw [mset_same] at h; cases h; exact r
  · rw [mset_ne e] at h
    exact (m.upNew hp).2 b u h
theorem RM0.newL {p : Addr} {vs : List V} {ds : List D} (m : RM0 K H M) (hp : H p = none) (r : RDs K H vs ds) : Ext M (mset M p (.lst ds)) H (upd H p (.lst vs)) ∧ RM0 K (upd H p (.lst vs)) (mset M p (.lst ds)) :=
  m.new hp ⟨vs, upd_same, r.go ((m.upNew hp).1.still0 m)⟩
/-- an object written -/
theorem RM0.put {p : Addr} {o : HO} {mo mo' : MO} (m : RM0 K H M) (hp : M p = some mo) (r : Still K H (upd H p o) → RO K (upd H p o) p mo') : Ext M (mset M p mo') H (upd H p o) ∧ RM0 K (upd H p o) (mset M p mo') := by
  have x : Ext M (mset M p mo') H (upd H p o) := by
    refine ⟨fun b u h hm => ?_, fun b h => ?_⟩
    · rw [upd_ne (by intro e; subst e; rw [hp] at hm; cases hm)]; exact h
    · by_cases e : b = p
      · subst e; left; rw [hp]; exact fun z => nomatch z
      · rw [mset_ne e] at h; exact .inl h
  refine ⟨x, fun b u h => ?_⟩
  by_cases e : b = p
  · subst e; rw [mset_same] at h; cases h; exact r (x.still0 m)
  · rw [mset_ne e] at h
    exact (m b u h).go (x.still0 m) fun v hv => by rw [upd_ne e]; exact hv
theorem RM0.putL {p : Addr} {vs : List V} {ds : List D} {mo : MO} (m : RM0 K H M) (hp : M p = some mo) (r : RDs K H vs ds) : Ext M (mset M p (.lst ds)) H (upd H p (.lst vs)) ∧ RM0 K (upd H p (.lst vs)) (mset M p (.lst ds)) :=
  m.put hp fun s => ⟨vs, upd_same, r.go s⟩
end
structure BS where
  ok : Mp → Hp → Prop
  go : ∀ {M M' : Mp} {H H' : Hp}, ok M H → Ext M M' H H' → ok M' H'
def bsOf (M : Mp) (H : Hp) : BS := ⟨fun M' H' => Ext M M' H H', fun a b => a.trans b⟩
structure RM (K : PySem.W.Frag) (bs : BS) (H : Hp) (M : Mp) : Prop where
  m : RM0 K H M
  b : bs.ok M H
section
variable {K : PySem.W.Frag} {bs : BS} {M M' : Mp} {H H' : Hp} {a : Addr}
theorem Ext.still (x : Ext M M' H H') (m : RM K bs H M) : Still K H H' := x.still0 m.m
theorem RM.go (m : RM K bs H M) (x : Ext M M' H H' ∧ RM0 K H' M') : Ext M M' H H' ∧ RM K bs H' M' := ⟨x.1, x.2, bs.go m.b x.1⟩
theorem RM.to (m : RM K bs H M) (x : Ext M M' H H') (m' : RM0 K H' M') : RM K bs H' M' := ⟨m', bs.go m.b x⟩
theorem RM.free (m : RM K bs H M) (h : H a = none) : M a = none := m.m.free h
theorem RM.keep (m : RM K bs H M) (k : ∀ b u, H b = some u → H' b = some u) : Ext M M H H' ∧ RM K bs H' M := m.go (m.m.keep k)
theorem RM.upNew {p : Addr} {o : HO} (m : RM K bs H M) (hp : H p = none) : Ext M M H (upd H p o) ∧ RM K bs (upd H p o) M := m.go (m.m.upNew hp)
theorem RM.new {p : Addr} {o : HO} {mo : MO} (m : RM K bs H M) (hp : H p = none) (r : RO K (upd H p o) p mo) : Ext M (mset M p mo) H (upd H p o) ∧ RM K bs (upd H p o) (mset M p mo) := m.go (m.m.new hp r)
theorem RM.newL {p : Addr} {vs : List V} {ds : List D} (m : RM K bs H M) (hp : H p = none) (r : RDs K H vs ds) : Ext M (mset M p (.lst ds)) H (upd H p (.lst vs)) ∧ RM K bs (upd H p (.lst vs)) (mset M p (.lst ds)) := m.go (m.m.newL hp r)
theorem RM.put {p : Addr} {o : HO} {mo mo' : MO} (m : RM K bs H M) (hp : M p = some mo) (r : Still K H (upd H p o) → RO K (upd H p o) p mo') : Ext M (mset M p mo') H (upd H p o) ∧ RM K bs (upd H p o) (mset M p mo') := m.go (m.m.put hp r)
theorem RM.putL {p : Addr} {vs : List V} {ds : List D} {mo : MO} (m : RM K bs H M) (hp : M p = some mo) (r : RDs K H vs ds) : Ext M (mset M p (.lst ds)) H (upd H p (.lst vs)) ∧ RM K bs (upd H p (.lst vs)) (mset M p (.lst ds)) := m.go (m.m.putL hp r)
theorem RM.less {M2 : Mp} (m : RM K bs H M) (l : ∀ a o, M2 a = some o → M a = some o) : Ext M M2 H H ∧ RM K bs H M2 := m.go ⟨Ext.refl.less l, m.m.less l⟩
theorem RM.at (m : RM K bs H M) {o : MO} (h : M a = some o) : RO K H a o := m.m a o h
end
section
variable {K : PySem.W.Frag} {H : Hp}
theorem RDs.length : ∀ {vs : List V} {ds : List D}, RDs K H vs ds → vs.length = ds.length
  | _, _, .nil => rfl
  | _, _, .cons _ t => by rw [List.length_cons, List.length_cons, t.length]
theorem RDs.get : ∀ {vs : List V} {ds : List D} {i : Nat} {d : D}, RDs K H vs ds → ds[i]? = some d → ∃ v, vs[i]? = some v ∧ RD K H v d
  | _, _, _, _, .nil, e => by simp at e
  | _, _, 0, _, .cons r _, e => by simp at e; subst e; exact ⟨_, rfl, r⟩
  | _, _, i + 1, d, .cons _ t, e => by
    obtain ⟨u, h1, h2⟩ := RDs.get (i := i) (d := d) t (by simpa using e)
    exact ⟨u, by simpa using h1, h2⟩
theorem RDs.app : ∀ {vs ws : List V} {ds es : List D}, RDs K H vs ds → RDs K H ws es → RDs K H (vs ++ ws) (ds ++ es)
  | _, _, _, _, .nil, s => s
  | _, _, _, _, .cons r t, s => .cons r (RDs.app t s)
theorem RDs.take : ∀ {vs : List V} {ds : List D} (n : Nat), RDs K H vs ds → RDs K H (vs.take n) (ds.take n)
  | _, _, 0, _ => .nil
  | _, _, _ + 1, .nil => .nil
  | _, _, n + 1, .cons r t => .cons r (RDs.take n t)
theorem RDs.drop : ∀ {vs : List V} {ds : List D} (n : Nat), RDs K H vs ds → RDs K H (vs.drop n) (ds.drop n)
  | _, _, 0, r => r
  | _, _, _ + 1, .nil => .nil
  | _, _, n + 1, .cons _ t => RDs.drop n t
theorem RDs.set {v : V} {d : D} (r : RD K H v d) : ∀ {vs : List V} {ds : List D} (i : Nat), RDs K H vs ds → RDs K H (vs.set i v) (ds.set i d)
  | _, _, _, .nil => .nil
  | _, _, 0, .cons _ t => .cons r t
  | _, _, i + 1, .cons q t => .cons q (RDs.set r i t)
theorem RDs.ofInts : ∀ (ns : List Int), RDs K H (ns.map V.int) (ns.map D.int)
  | [] => .nil
  | n :: ns => .cons (.int n) (RDs.ofInts ns)
end
abbrev St3 := List (Option D)
abbrev VK3 := D → Mp → Prop
abbrev TE3 := St3 → Mp → VK3 → Prop
abbrev TT3 := St3 → Mp → (Bool → Mp → Prop) → Prop
abbrev TA3 := St3 → Mp → (List D → Mp → Prop) → Prop
def getS : St3 → Nat → Option D
  | [], _ => none
  | x :: _, 0 => x
  | _ :: r, i + 1 => getS r i
def setS : St3 → Nat → Option D → St3
  | [], _, _ => []
  | _ :: r, 0, d => d :: r
  | x :: r, i + 1, d => x :: setS r i d
structure RE (K : PySem.W.Frag) (H : Hp) (σ : L2.St) (τ : St3) : Prop where
  len : σ.length = τ.length
  get : ∀ i d, getS τ i = some d → ∃ v, σ[i]? = some (some v) ∧ RD K H v d
theorem setS_len : ∀ (τ : St3) (i : Nat) (d : Option D), (setS τ i d).length = τ.length
  | [], _, _ => rfl
  | _ :: _, 0, _ => rfl
  | _ :: r, i + 1, d => by show (setS r i d).length + 1 = r.length + 1; rw [setS_len]
theorem getS_set : ∀ (τ : St3) (i j : Nat) (d : Option D), getS (setS τ i d) j = if j = i ∧ i < τ.length then d else getS τ j
  | [], i, j, d => by
    show none = _
    split
    · rename_i h; exact absurd h.2 (by simp)
    · rfl
  | x :: r, 0, 0, d => by simp [setS, getS]
  | x :: r, 0, j + 1, d => by simp [setS, getS]
  | x :: r, i + 1, 0, d => by simp [setS, getS]
  | x :: r, i + 1, j + 1, d => by
    show getS (setS r i d) j = _
    rw [getS_set r i j d]
    simp [getS]
theorem getS_lt : ∀ (τ : St3) (i : Nat) (d : D), getS τ i = some d → i < τ.length
  | [], _, _, h => by cases h
  | _ :: _, 0, _, _ => Nat.succ_pos _
  | _ :: r, i + 1, d, h => Nat.succ_lt_succ (getS_lt r i d h)
section
variable {K : PySem.W.Frag} {H H' : Hp} {σ : L2.St} {τ : St3}
theorem RE.go (r : RE K H σ τ) (s : Still K H H') : RE K H' σ τ := ⟨r.len, fun i d e => let ⟨v, a, b⟩ := r.get i d e; ⟨v, a, b.go s⟩⟩
theorem RE.set {i : Nat} {v : V} {d : D} (r : RE K H σ τ) (rv : RD K H v d) : RE K H (σ.set i (some v)) (setS τ i (some d)) := by
  refine ⟨by rw [List.length_set, setS_len]; exact r.len, fun j e h => ?_⟩
  rw [getS_set] at h
  split at h
  · rename_i q
    obtain ⟨rfl, q⟩ := q
    cases h
    exact ⟨v, by rw [List.getElem?_set_self (by rw [r.len]; exact q)], rv⟩
  · rename_i q
    obtain ⟨u, e1, e2⟩ := r.get j e h
    refine ⟨u, ?_, e2⟩
    by_cases hij : i = j
    · subst hij
      exact absurd ⟨rfl, getS_lt _ _ _ h⟩ q
    · rw [List.getElem?_set_ne hij]; exact e1
theorem RE.drop {i : Nat} (r : RE K H σ τ) (x : Option V) : RE K H (σ.set i x) (setS τ i none) := by
  refine ⟨by rw [List.length_set, setS_len]; exact r.len, fun j e h => ?_⟩
  rw [getS_set] at h
  split at h
  · cases h
  · rename_i q
    obtain ⟨u, e1, e2⟩ := r.get j e h
    refine ⟨u, ?_, e2⟩
    by_cases hij : i = j
    · subst hij
      exact absurd ⟨rfl, getS_lt _ _ _ h⟩ q
    · rw [List.getElem?_set_ne hij]; exact e1
def wipe3 (τ : St3) : List Nat → St3
  | [] => τ
  | v :: vs => setS (wipe3 τ vs) v none
theorem RE.wipe (r : RE K H σ τ) : ∀ vs : List Nat, RE K H (wipe σ vs) (wipe3 τ vs)
  | [] => r
  | v :: vs => by
    unfold wipe3 L2.wipe
    exact (RE.wipe r vs).drop none
end
def ite3 (b : Bool) (A B : Prop) : Prop := match b with
  | true => A
  | false => B
def asB (d : D) (k : Bool → Prop) : Prop := match d with
  | .bl b => k b
  | _ => False
def asI (d : D) (k : Int → Prop) : Prop := match d with
  | .int i => k i
  | _ => False
def asS (d : Option D) (k : D → Prop) : Prop := match d with
  | some d => k d
  | none => False
theorem ite3_t {A B : Prop} : ite3 true A B = A := rfl
theorem ite3_f {A B : Prop} : ite3 false A B = B := rfl
theorem asB_bl {b : Bool} {k : Bool → Prop} : asB (.bl b) k = k b := rfl
theorem asI_int {i : Int} {k : Int → Prop} : asI (.int i) k = k i := rfl
theorem asS_some {d : D} {k : D → Prop} : asS (some d) k = k d := rfl
theorem ite3_by {b : Bool} {A B : Prop} (h1 : b = true → A) (h2 : b = false → B) : ite3 b A B := by
  cases b with
  | true => exact h1 rfl
  | false => exact h2 rfl
section
variable (K : PySem.W.Frag) (bs : BS)
def lift (t : TE3) : TE := fun σ H Q => ∃ τ M Q3, RE K H σ τ ∧ RM K bs H M ∧ t τ M Q3 ∧
  ∀ v H' d M', Ext M M' H H' → RM K bs H' M' → RD K H' v d → Q3 d M' → Q v H'
def liftT (t : TT3) : TT := fun σ H Q => ∃ τ M Q3, RE K H σ τ ∧ RM K bs H M ∧ t τ M Q3 ∧
  ∀ b H' M', Ext M M' H H' → RM K bs H' M' → Q3 b M' → Q b H'
def liftA (t : TA3) : TA := fun σ H Q => ∃ τ M Q3, RE K H σ τ ∧ RM K bs H M ∧ t τ M Q3 ∧
  ∀ vs H' ds M', Ext M M' H H' → RM K bs H' M' → RDs K H' vs ds → Q3 ds M' → Q vs H'
abbrev R23 := D → D → Mp → VK3 → Prop
def lift2 (r : R23) : R2 := fun x y H Q => ∃ d e M Q3, RD K H x d ∧ RD K H y e ∧ RM K bs H M ∧ r d e M Q3 ∧
  ∀ v H' z M', Ext M M' H H' → RM K bs H' M' → RD K H' v z → Q3 z M' → Q v H'
def liftV (r : List D → Mp → VK3 → Prop) : List V → Hp → VK → Prop := fun xs H Q => ∃ ds M Q3, RDs K H xs ds ∧ RM K bs H M ∧ r ds M Q3 ∧
  ∀ v H' z M', Ext M M' H H' → RM K bs H' M' → RD K H' v z → Q3 z M' → Q v H'
end
def PE3 (bs : BS) (X : Cx) (e : Expr) (t : TE3) : Prop := PE X e (lift X.K bs t)
def PT3 (bs : BS) (X : Cx) (e : Expr) (t : TT3) : Prop := PT X e (liftT X.K bs t)
def PA3 (bs : BS) (X : Cx) (es : List Expr) (t : TA3) : Prop := PA X es (liftA X.K bs t)
end L3
namespace L2
open PySem PySem.Spec PyProof.Rows
theorem PE.weak {X : Cx} {e : Expr} {t t' : TE} (h : PE X e t) (i : ∀ σ H Q, t' σ H Q → t σ H Q) : PE X e t' := ⟨fun pins s σ H Q I q => h.run pins s σ H Q I (i σ H Q q)⟩
theorem PT.weak {X : Cx} {e : Expr} {t t' : TT} (h : PT X e t) (i : ∀ σ H Q, t' σ H Q → t σ H Q) : PT X e t' := ⟨fun pins s σ H Q I q => h.run pins s σ H Q I (i σ H Q q)⟩
theorem PW.weak {X : Cx} {e : Expr} {t t' : TT} (h : PW X e t) (i : ∀ σ H Q, t' σ H Q → t σ H Q) : PW X e t' := ⟨fun wh pins s σ H Q I q => h.run wh pins s σ H Q I (i σ H Q q)⟩
theorem PA.weak {X : Cx} {e : List Expr} {t t' : TA} (h : PA X e t) (i : ∀ σ H Q, t' σ H Q → t σ H Q) : PA X e t' := ⟨fun pos pins s σ H Q I q => h.run pos pins s σ H Q I (i σ H Q q)⟩
theorem PS.weak {X : Cx} {e : Stmt} {t t' : TS} (h : PS X e t) (i : ∀ D σ H, t' D σ H → t D σ H) : PS X e t' := ⟨fun pins s σ H D I q => h.run pins s σ H D I (i D σ H q)⟩
theorem PSs.weak {X : Cx} {e : List Stmt} {t t' : TS} (h : PSs X e t) (i : ∀ D σ H, t' D σ H → t D σ H) : PSs X e t' := ⟨fun pins s σ H D I q => h.run pins s σ H D I (i D σ H q)⟩
theorem PG.weak {X : Cx} {e : Expr} {t t' : TG} (h : PG X e t) (i : ∀ v σ H Q, t' v σ H Q → t v σ H Q) : PG X e t' := ⟨fun pins s σ H v u Q I r q => h.run pins s σ H v u Q I r (i v σ H Q q)⟩
theorem PGs.weak {X : Cx} {e : List Expr} {t t' : TGs} (h : PGs X e t) (i : ∀ v σ H Q, t' v σ H Q → t v σ H Q) : PGs X e t' := ⟨fun pins s σ H v u Q I r q => h.run pins s σ H v u Q I r (i v σ H Q q)⟩
theorem PI.weak {X : Cx} {g e : Expr} {t t' : TI} (h : PI X g e t) (i : ∀ σ H R, t' σ H R → t σ H R) : PI X g e t' := ⟨fun pins s σ H R I q => h.run pins s σ H R I (i σ H R q)⟩
theorem OpR.weak {X : Cx} {f : Value → Value → Sem Value} {r r' : R2} (h : OpR X f r) (i : ∀ x y H Q, r' x y H Q → r x y H Q) : OpR X f r' :=
  fun pins s σ H x y v u Q I rx ry q => h pins s σ H x y v u Q I rx ry (i x y H Q q)
theorem CallR.weak {X : Cx} {f : Value} {r r' : List V → Hp → VK → Prop} (h : CallR X f r) (i : ∀ xs H Q, r' xs H Q → r xs H Q) : CallR X f r' :=
  fun pins s σ H xs us Q I rx q => h pins s σ H xs us Q I rx (i xs H Q q)
end L2
namespace L3
open PySem PySem.Spec PyProof.Rows L2
section
variable {bs : BS} {X : Cx} {a b c : Expr} {ta tb tc : TE3} {pos : Pos}
def wC (d : D) : TE3 := fun _ M Q => Q d M
def wVar (i : Nat) : TE3 := fun τ M Q => asS (getS τ i) fun d => Q d M
theorem e_c {v : V} {d : D} (h : PE X a (tC v)) (r : ∀ H, RD X.K H v d) : PE3 bs X a (wC d) :=
  h.weak fun σ H Q ⟨τ, M, Q3, e, m, q, k⟩ => k v H d M .refl m (r H) q
theorem e_int {i j} : PE3 bs X (.Constant (.int i) j pos) (wC (.int i)) := e_c pe_int fun _ => .int i
theorem e_bl {i j} : PE3 bs X (.Constant (.bool i) j pos) (wC (.bl i)) := e_c pe_bl fun _ => .bl i
theorem e_non {j} : PE3 bs X (.Constant .none j pos) (wC .non) := e_c pe_non fun _ => .non
theorem e_var (i : Nat) (h : PE X a (tVar i)) : PE3 bs X a (wVar i) :=
  h.weak fun σ H Q ⟨τ, M, Q3, e, m, q, k⟩ => by
    unfold wVar at q
    cases hd : getS τ i with
    | none => rw [hd] at q; exact False.elim q
    | some d =>
      rw [hd] at q
      obtain ⟨v, hv, r⟩ := e.get i d hd
      exact ⟨v, hv, k v H d M .refl m r q⟩
theorem ev (i : Nat) {x : Str} {pos : Pos} (hN : X.N[i]? = some x := by rfl) (hv : Vis X.env.scope x := by first | exact Or.inl rfl | exact Or.inr (Or.inl rfl) | exact Or.inr (Or.inr rfl)) (hd : (x == ("__debug__" : Str)) = false := by decide)
    (hcd : (x == ("__classdict__" : Str)) = false := by decide) : PE3 bs X (.Name x pos) (wVar i) := e_var i (pe_var hN hv hd hcd)
def wOp (r : R23) (ta tb : TE3) : TE3 := fun τ M Q => ta τ M fun x M1 => tb τ M1 fun y M2 => r x y M2 Q
theorem lift_op {r : R23} : ∀ σ H Q, lift X.K bs (wOp r ta tb) σ H Q → tOp (lift2 X.K bs r) (lift X.K bs ta) (lift X.K bs tb) σ H Q := by
  rintro σ H Q ⟨τ, M, Q3, e, m, q, k⟩
  refine ⟨τ, M, _, e, m, q, fun x H1 d M1 x1 m1 r1 q1 => ⟨τ, M1, _, e.go (x1.still m), m1, q1, fun y H2 d2 M2 x2 m2 r2 q2 => ?_⟩⟩
  exact ⟨d, d2, M2, Q3, r1.go (x2.still m1), r2, m2, q2, fun v H' z M' x3 m3 r3 q3 => k v H' z M' (x1.trans (x2.trans x3)) m3 r3 q3⟩
theorem e_op {op : Operator} {r : R23} (ho : OpR X (binaryOp op) (lift2 X.K bs r)) (ha : PE3 bs X a ta) (hb : PE3 bs X b tb) : PE3 bs X (.BinOp a op b pos) (wOp r ta tb) := (pe_op ho ha hb).weak lift_op
theorem e_cmp {op : CmpOp} {r : R23} (ho : OpR X (compareOp op) (lift2 X.K bs r)) (ha : PE3 bs X a ta) (hb : PE3 bs X b tb) (hm : behindInMarks op b = false) : PE3 bs X (.Compare a [op] [b] pos) (wOp r ta tb) := (pe_cmpR ho ha hb hm).weak lift_op
/-- a value as a test: a truth -/
def wB (t : TE3) : TT3 := fun τ M Q => t τ M fun d M' => asB d fun k => Q k M'
theorem lift_b : ∀ σ H Q, liftT X.K bs (wB ta) σ H Q → tB (lift X.K bs ta) σ H Q := by
  rintro σ H Q ⟨τ, M, Q3, e, m, q, k⟩
  refine ⟨τ, M, _, e, m, q, fun x H1 d M1 x1 m1 r1 q1 => ?_⟩
  cases d with
  | bl z =>
    cases r1
    exact ⟨z, rfl, k z H1 M1 x1 m1 q1⟩
  | _ => exact False.elim q1
theorem lift_tt {r : R23} : ∀ σ H Q, liftT X.K bs (wB (wOp r ta tb)) σ H Q → tTest (tOp (lift2 X.K bs r) (lift X.K bs ta) (lift X.K bs tb)) σ H Q := by
  rintro σ H Q ⟨τ, M, Q3, e, m, q, k⟩
  refine lift_op (r := r) σ H _ ⟨τ, M, _, e, m, q, fun x H1 d M1 x1 m1 r1 q1 => ?_⟩
  cases d with
  | bl z =>
    cases r1
    exact ⟨z, rfl, k z H1 M1 x1 m1 q1⟩
  | _ => exact False.elim q1
theorem t_cmp {op : CmpOp} {r : R23} (ho : OpR X (compareOp op) (lift2 X.K bs r)) (ha : PE3 bs X a ta) (hb : PE3 bs X b tb) (hm : behindInMarks op b = false) : PT3 bs X (.Compare a [op] [b] pos) (wB (wOp r ta tb)) := (pt_cmpR ho ha hb hm).weak lift_tt
theorem t_val (h : PE3 bs X a ta) (he : ∀ whole, isTrue a X.env whole = (do let v ← whole; standAt a.pos; holding [v] (truthy v)) := by intro _; rfl) : PT3 bs X a (wB ta) := (pt_val h he).weak lift_b
/-- a op b op' c -/
def wChain (r r' : R23) (ta tb tc : TE3) : TE3 := fun τ M Q => ta τ M fun x M1 => tb τ M1 fun y M2 => r x y M2 fun z M3 => asB z fun c => ite3 c (tc τ M3 fun w M4 => r' y w M4 Q) (Q (.bl false) M3)
variable {A B : TT3} {rest : List Expr}
def wAnd (t u : TT3) : TT3 := fun τ M Q => t τ M fun c M1 => ite3 c (u τ M1 Q) (Q false M1)
def wOr (t u : TT3) : TT3 := fun τ M Q => t τ M fun c M1 => ite3 c (Q true M1) (u τ M1 Q)
def wNot (t : TT3) : TT3 := fun τ M Q => t τ M fun c M1 => Q (!c) M1
def PW3 (bs : BS) (X : Cx) (e : Expr) (t : TT3) : Prop := PW X e (liftT X.K bs t)
theorem PW3.pt {e : Expr} {t : TT3} (h : PW3 bs X e t) : PT3 bs X e t := PW.pt h
theorem t_and1 (ha : PT3 bs X a A) : PW3 bs X (.BoolOp .And [a] pos) A := pw_and1 ha
theorem t_or1 (ha : PT3 bs X a A) : PW3 bs X (.BoolOp .Or [a] pos) A := pw_or1 ha
theorem t_and (ha : PT3 bs X a A) (hb : PW3 bs X (.BoolOp .And (b :: rest) pos) B) : PW3 bs X (.BoolOp .And (a :: b :: rest) pos) (wAnd A B) := by
  refine (pw_and ha hb).weak ?_
  rintro σ H Q ⟨τ, M, Q3, e, m, q, k⟩
  refine ⟨τ, M, _, e, m, q, fun z H1 M1 x1 m1 q1 => ?_⟩
  cases z with
  | true => exact iteT ⟨τ, M1, Q3, e.go (x1.still m), m1, q1, fun z H' M' x2 m2 q2 => k z H' M' (x1.trans x2) m2 q2⟩
  | false => exact iteF (k false H1 M1 x1 m1 q1)
theorem t_or (ha : PT3 bs X a A) (hb : PW3 bs X (.BoolOp .Or (b :: rest) pos) B) : PW3 bs X (.BoolOp .Or (a :: b :: rest) pos) (wOr A B) := by
  refine (pw_or ha hb).weak ?_
  rintro σ H Q ⟨τ, M, Q3, e, m, q, k⟩
  refine ⟨τ, M, _, e, m, q, fun z H1 M1 x1 m1 q1 => ?_⟩
  cases z with
  | true => exact iteT (k true H1 M1 x1 m1 q1)
  | false => exact iteF ⟨τ, M1, Q3, e.go (x1.still m), m1, q1, fun z H' M' x2 m2 q2 => k z H' M' (x1.trans x2) m2 q2⟩
theorem t_not (ha : PT3 bs X a A) : PT3 bs X (.UnaryOp .Not a pos) (wNot A) := by
  refine (pt_not ha).weak ?_
  rintro σ H Q ⟨τ, M, Q3, e, m, q, k⟩
  exact ⟨τ, M, _, e, m, q, fun z H1 M1 x1 m1 q1 => k (!z) H1 M1 x1 m1 q1⟩
def wAndV (ta tb : TE3) : TE3 := fun τ M Q => ta τ M fun x M1 => asB x fun c => ite3 c (tb τ M1 Q) (Q (.bl false) M1)
def wOrV (ta tb : TE3) : TE3 := fun τ M Q => ta τ M fun x M1 => asB x fun c => ite3 c (Q (.bl true) M1) (tb τ M1 Q)
def wNotV (ta : TE3) : TE3 := fun τ M Q => ta τ M fun x M1 => asB x fun c => Q (.bl (!c)) M1
theorem e_one {op} (h : PE3 bs X a ta) : PE3 bs X (.BoolOp op [a] pos) ta := pe_one h
theorem e_and (ha : PE3 bs X a ta) (hb : PE3 bs X (.BoolOp .And (b :: rest) pos) tb) : PE3 bs X (.BoolOp .And (a :: b :: rest) pos) (wAndV ta tb) := by
  refine (pe_and ha hb).weak ?_
  rintro σ H Q ⟨τ, M, Q3, e, m, q, k⟩
  refine ⟨τ, M, _, e, m, q, fun z H1 d M1 x1 m1 r1 q1 => ?_⟩
  cases d with
  | bl t =>
    cases r1
    cases t with
    | true => exact ⟨true, rfl, iteT ⟨τ, M1, Q3, e.go (x1.still m), m1, q1, fun z H' d M' x2 m2 r2 q2 => k z H' d M' (x1.trans x2) m2 r2 q2⟩⟩
    | false => exact ⟨false, rfl, iteF (k _ H1 _ M1 x1 m1 (.bl _) q1)⟩
  | _ => exact False.elim q1
def wIf (c : TT3) (ta tb : TE3) : TE3 := fun τ M Q => c τ M fun z M1 => ite3 z (ta τ M1 Q) (tb τ M1 Q)
theorem e_if (hc : PT3 bs X c A) (ha : PE3 bs X a ta) (hb : PE3 bs X b tb) : PE3 bs X (.IfExp c a b pos) (wIf A ta tb) := by
  refine (pe_ifExp hc ha hb).weak ?_
  rintro σ H Q ⟨τ, M, Q3, e, m, q, k⟩
  refine ⟨τ, M, _, e, m, q, fun z H1 M1 x1 m1 q1 => ?_⟩
  cases z with
  | true => exact iteT ⟨τ, M1, Q3, e.go (x1.still m), m1, q1, fun z H' d M' x2 m2 r2 q2 => k z H' d M' (x1.trans x2) m2 r2 q2⟩
  | false => exact iteF ⟨τ, M1, Q3, e.go (x1.still m), m1, q1, fun z H' d M' x2 m2 r2 q2 => k z H' d M' (x1.trans x2) m2 r2 q2⟩
variable {es : List Expr} {t : TA3}
def wNil : TA3 := fun _ M Q => Q [] M
def wCons (ta : TE3) (tr : TA3) : TA3 := fun τ M Q => ta τ M fun x M1 => tr τ M1 fun xs M2 => Q (x :: xs) M2
theorem a_nil : PA3 bs X [] wNil := pa_nil.weak fun σ H Q ⟨τ, M, Q3, e, m, q, k⟩ => k [] H [] M .refl m .nil q
theorem a_cons (ha : PE3 bs X a ta) (hr : PA3 bs X es t) (hs : starEach (a :: es) X.env = (false, eval a X.env) :: starEach es X.env := by rfl) : PA3 bs X (a :: es) (wCons ta t) := by
  refine PA.weak (pa_cons ha hr hs) ?_
  rintro σ H Q ⟨τ, M, Q3, e, m, q, k⟩
  refine ⟨τ, M, _, e, m, q, fun z H1 d M1 x1 m1 r1 q1 => ⟨τ, M1, _, e.go (x1.still m), m1, q1, fun zs H2 ds M2 x2 m2 r2 q2 => ?_⟩⟩
  exact k _ H2 _ M2 (x1.trans x2) m2 (.cons (r1.go (x2.still m1)) r2) q2
def wTup (t : TA3) : TE3 := fun τ M Q => t τ M fun xs M1 => xs.length ≤ sizeLine ∧ Q (.tup xs) M1
def wLst (t : TA3) : TE3 := fun τ M Q => t τ M fun xs M1 => xs.length ≤ sizeLine ∧ ∀ p, M1 p = none → Q (.ref p) (mset M1 p (.lst xs))
theorem e_tup {x1} (h : PA3 bs X es t) : PE3 bs X (.Tuple es x1 pos) (wTup t) := by
  refine PE.weak (pe_tup h) ?_
  rintro σ H Q ⟨τ, M, Q3, e, m, q, k⟩
  refine ⟨τ, M, _, e, m, q, fun zs H1 ds M1 x1 m1 r1 q1 => ⟨by rw [r1.length]; exact q1.1, fun p hp => ?_⟩⟩
  obtain ⟨x2, m2⟩ := m1.upNew (o := .tup zs) hp
  exact k _ _ (.tup ds) M1 (x1.trans x2) m2 (.tup (SqT.of upd_same) (r1.go (x2.still m1))) q1.2
theorem e_lst (h : PA3 bs X es t) : PE3 bs X (.List es pos) (wLst t) := by
  refine PE.weak (pe_lst h) ?_
  rintro σ H Q ⟨τ, M, Q3, e, m, q, k⟩
  refine ⟨τ, M, _, e, m, q, fun zs H1 ds M1 x1 m1 r1 q1 => ⟨by rw [r1.length]; exact q1.1, fun p hp => ?_⟩⟩
  obtain ⟨x2, m2⟩ := m1.newL hp r1
  exact k _ _ (.ref p) _ (x1.trans x2) m2 (.ref p) (q1.2 p (m1.free hp))
/-- a built-in's call by values -/
def wCB (r : List D → Mp → VK3 → Prop) (t : TA3) : TE3 := fun τ M Q => t τ M fun ds M1 => r ds M1 Q
theorem lift_cb {r : List D → Mp → VK3 → Prop} : ∀ σ H Q, lift X.K bs (wCB r t) σ H Q → tCB (liftV X.K bs r) (liftA X.K bs t) σ H Q := by
  rintro σ H Q ⟨τ, M, Q3, e, m, q, k⟩
  refine ⟨τ, M, _, e, m, q, fun zs H1 ds M1 x1 m1 r1 q1 => ?_⟩
  exact ⟨ds, M1, Q3, r1, m1, q1, fun v H' z M' x2 m2 r2 q2 => k v H' z M' (x1.trans x2) m2 r2 q2⟩
end
end L3
set_option Elab.async false
set_option linter.all false
set_option maxRecDepth 100000
set_option maxHeartbeats 4000000
namespace L3
open PySem PySem.Spec PyProof.Rows L2
/-- what is wanted behind a statement -/
structure Ends3 where
  nx : St3 → Mp → Prop
  rt : VK3
  bk : St3 → Mp → Prop := fun _ _ => False
  ct : St3 → Mp → Prop := fun _ _ => False
abbrev TS3 := Ends3 → St3 → Mp → Prop
abbrev TG3 := D → St3 → Mp → (St3 → Mp → Prop) → Prop
abbrev TGs3 := List D → St3 → Mp → (St3 → Mp → Prop) → Prop
/-- σ' is σ but at some places -/
def But (ix : List Nat) (σ σ' : L2.St) : Prop := σ'.length = σ.length ∧ ∀ i, i ∉ ix → σ'[i]? = σ[i]?
theorem But.refl {ix : List Nat} {σ : L2.St} : But ix σ σ := ⟨rfl, fun _ _ => rfl⟩
theorem But.trans {ix : List Nat} {σ σ1 σ2 : L2.St} (a : But ix σ σ1) (b : But ix σ1 σ2) : But ix σ σ2 := ⟨b.1.trans a.1, fun i h => (b.2 i h).trans (a.2 i h)⟩
theorem But.more {ix iy : List Nat} {σ σ1 : L2.St} (a : But ix σ σ1) (h : ∀ i ∈ ix, i ∈ iy) : But iy σ σ1 := ⟨a.1, fun i hi => a.2 i fun z => hi (h i z)⟩
theorem wipe_at (σ : L2.St) (i : Nat) : ∀ vs : List Nat, i ∈ vs → i < σ.length → (L2.wipe σ vs)[i]? = some none
  | [], h, _ => by simp at h
  | v :: vs, h, hl => by
    unfold L2.wipe
    by_cases e : v = i
    · subst e
      rw [List.getElem?_set_self (by rw [L2.wipe_length]; exact hl)]
    · rw [List.getElem?_set_ne e]
      rcases List.mem_cons.mp h with z | z
      · exact absurd z.symm e
      · exact wipe_at σ i vs z hl
theorem wipe_off (σ : L2.St) (i : Nat) (vs : List Nat) (h : i ∉ vs) : (L2.wipe σ vs)[i]? = σ[i]? := L2.wipe_out h
theorem But.wipe {ix vs : List Nat} {σ σ' : L2.St} (b : But ix σ σ') (h : ∀ i ∈ ix, i ∈ vs) : L2.wipe σ' vs = L2.wipe σ vs := by
  refine List.ext_getElem? fun i => ?_
  by_cases hi : i ∈ vs
  · by_cases hl : i < σ.length
    · rw [wipe_at σ i vs hi hl, wipe_at σ' i vs hi (by rw [b.1]; exact hl)]
    · rw [List.getElem?_eq_none (by rw [L2.wipe_length, b.1]; omega), List.getElem?_eq_none (by rw [L2.wipe_length]; omega)]
  · rw [wipe_off σ' i vs hi, wipe_off σ i vs hi]
    exact b.2 i fun z => hi (h i z)
theorem wipe_wipe (σ : L2.St) (vs : List Nat) : L2.wipe (L2.wipe σ vs) vs = L2.wipe σ vs := by
  refine List.ext_getElem? fun i => ?_
  by_cases hi : i ∈ vs
  · by_cases hl : i < σ.length
    · rw [wipe_at _ i vs hi (by rw [L2.wipe_length]; exact hl), wipe_at σ i vs hi hl]
    · rw [List.getElem?_eq_none (by rw [L2.wipe_length, L2.wipe_length]; omega), List.getElem?_eq_none (by rw [L2.wipe_length]; omega)]
  · rw [wipe_off _ i vs hi]
section
variable (K : PySem.W.Frag) (bs : BS)
def liftS (t : TS3) : TS := fun D σ H => ∃ τ M D3, RE K H σ τ ∧ RM K bs H M ∧ t D3 τ M ∧
  (∀ σ' τ' H' M', Ext M M' H H' → RE K H' σ' τ' → RM K bs H' M' → D3.nx τ' M' → D.nx σ' H') ∧
  (∀ v d H' M', Ext M M' H H' → RM K bs H' M' → RD K H' v d → D3.rt d M' → D.rt v H') ∧
  (∀ σ' τ' H' M', Ext M M' H H' → RE K H' σ' τ' → RM K bs H' M' → D3.bk τ' M' → D.bk σ' H') ∧
  (∀ σ' τ' H' M', Ext M M' H H' → RE K H' σ' τ' → RM K bs H' M' → D3.ct τ' M' → D.ct σ' H')
def liftG (ix : List Nat) (g : TG3) : TG := fun v σ H Q => ∃ d τ M Q3, RD K H v d ∧ RE K H σ τ ∧ RM K bs H M ∧ g d τ M Q3 ∧
  ∀ σ' τ' H' M', Ext M M' H H' → But ix σ σ' → RE K H' σ' τ' → RM K bs H' M' → Q3 τ' M' → Q σ' H'
def liftGs (ix : List Nat) (g : TGs3) : TGs := fun vs σ H Q => ∃ ds τ M Q3, RDs K H vs ds ∧ RE K H σ τ ∧ RM K bs H M ∧ g ds τ M Q3 ∧
  ∀ σ' τ' H' M', Ext M M' H H' → But ix σ σ' → RE K H' σ' τ' → RM K bs H' M' → Q3 τ' M' → Q σ' H'
end
def PS3 (bs : BS) (X : Cx) (st : Stmt) (t : TS3) : Prop := PS X st (liftS X.K bs t)
def PSs3 (bs : BS) (X : Cx) (st : List Stmt) (t : TS3) : Prop := PSs X st (liftS X.K bs t)
def PG3 (bs : BS) (X : Cx) (e : Expr) (ix : List Nat) (g : TG3) : Prop := PG X e (liftG X.K bs ix g)
def PGs3 (bs : BS) (X : Cx) (es : List Expr) (ix : List Nat) (g : TGs3) : Prop := PGs X es (liftGs X.K bs ix g)
section
variable {bs : BS} {X : Cx} {st : Stmt} {sts : List Stmt} {t u : TS3} {e : Expr} {te : TE3} {pos : Pos}
def wNext : TS3 := fun D τ M => D.nx τ M
def wSeq (t u : TS3) : TS3 := fun D τ M => t { D with nx := u D } τ M
theorem ss_nil : PSs3 bs X [] wNext := pss_nil.weak fun D σ H ⟨τ, M, D3, e, m, q, k, _⟩ => k σ τ H M .refl e m q
theorem ss_cons (h1 : PS3 bs X st t) (h2 : PSs3 bs X sts u) : PSs3 bs X (st :: sts) (wSeq t u) := by
  refine PSs.weak (pss_cons h1 h2) ?_
  rintro D σ H ⟨τ, M, D3, e, m, q, kn, kr, kb, kc⟩
  refine ⟨τ, M, _, e, m, q, fun σ' τ' H' M' x e1 m1 q1 => ⟨τ', M', D3, e1, m1, q1, ?_, ?_, ?_, ?_⟩, kr, kb, kc⟩
  · exact fun σ2 τ2 H2 M2 x2 => kn σ2 τ2 H2 M2 (x.trans x2)
  · exact fun v d H2 M2 x2 => kr v d H2 M2 (x.trans x2)
  · exact fun σ2 τ2 H2 M2 x2 => kb σ2 τ2 H2 M2 (x.trans x2)
  · exact fun σ2 τ2 H2 M2 x2 => kc σ2 τ2 H2 M2 (x.trans x2)
theorem ss_one (h1 : PS3 bs X st t) : PSs3 bs X [st] t := pss_one h1
def wBreak : TS3 := fun D τ M => D.bk τ M
def wCont : TS3 := fun D τ M => D.ct τ M
def wDrop (te : TE3) : TS3 := fun D τ M => te τ M fun _ M1 => D.nx τ M1
theorem s_expr (he : PE3 bs X e te) (hs : swapsWith e none pos.line X.env = pure false := by rfl) : PS3 bs X (.Expr e pos) (wDrop te) := by
  refine PS.weak (ps_expr he hs) ?_
  rintro D σ H ⟨τ, M, D3, e, m, q, kn, _⟩
  exact ⟨τ, M, _, e, m, q, fun v H' d M' x m1 r q1 => kn σ τ H' M' x (e.go (x.still m)) m1 q1⟩
def wRet (te : TE3) : TS3 := fun D τ M => te τ M D.rt
theorem s_ret (he : PE3 bs X e te) : PS3 bs X (.Return (some e) pos) (wRet te) := by
  refine PS.weak (ps_ret he) ?_
  rintro D σ H ⟨τ, M, D3, e, m, q, _, kr, _⟩
  exact ⟨τ, M, _, e, m, q, fun v H' d M' x m1 r q1 => kr v d H' M' x m1 r q1⟩
def wRetN : TS3 := fun D _ M => D.rt .non M
def wIfS (c : TT3) (t u : TS3) : TS3 := fun D τ M => c τ M fun b M1 => ite3 b (t D τ M1) (u D τ M1)
theorem s_if {c : Expr} {a b : List Stmt} {tc : TT3} (hc : PT3 bs X c tc) (ha : PSs3 bs X a t) (hb : PSs3 bs X b u) : PS3 bs X (.If c a b pos) (wIfS tc t u) := by
  refine PS.weak (ps_if hc ha hb) ?_
  rintro D σ H ⟨τ, M, D3, e, m, q, kn, kr, kb, kc⟩
  refine ⟨τ, M, _, e, m, q, fun z H1 M1 x m1 q1 => ?_⟩
  have L : ∀ t : TS3, t D3 τ M1 → liftS X.K bs t D σ H1 := fun t q => ⟨τ, M1, D3, e.go (x.still m), m1, q, fun σ2 τ2 H2 M2 x2 => kn σ2 τ2 H2 M2 (x.trans x2), fun v d H2 M2 x2 => kr v d H2 M2 (x.trans x2),
    fun σ2 τ2 H2 M2 x2 => kb σ2 τ2 H2 M2 (x.trans x2), fun σ2 τ2 H2 M2 x2 => kc σ2 τ2 H2 M2 (x.trans x2)⟩
  cases z with
  | true => exact iteT (L t q1)
  | false => exact iteF (L u q1)
def wSet (i : Nat) (te : TE3) : TS3 := fun D τ M => te τ M fun d M1 => D.nx (setS τ i (some d)) M1
theorem lift_set {i : Nat} : ∀ D σ H, liftS X.K bs (wSet i te) D σ H → tAsg (lift X.K bs te) (gName i) D σ H := by
  rintro D σ H ⟨τ, M, D3, e, m, q, kn, _⟩
  exact ⟨τ, M, _, e, m, q, fun v H' d M' x m1 r q1 => kn _ _ H' M' x ((e.go (x.still m)).set r) m1 q1⟩
theorem s_set {i : Nat} {x : Str} {pos' : Pos} (hN : X.N.Nodup) (hi : X.N[i]? = some x) (hx : Loc X.env.scope x) (he : PE3 bs X e te) (hs : swapsWith e (some (.Name x pos')) pos.line X.env = pure false := by rfl)
    (hf : X.fn x = true ∨ X.env.scope.names.lookup x = some .local := by first | exact .inl rfl | exact .inr rfl | assumption) : PS3 bs X (.Assign [.Name x pos'] e pos) (wSet i te) :=
  PS.weak (ps_set hN hi hx he hs hf) lift_set
def wgName (i : Nat) : TG3 := fun d τ M Q => Q (setS τ i (some d)) M
theorem g_name {i : Nat} {x : Str} (hN : X.N.Nodup) (hi : X.N[i]? = some x) (hx : Loc X.env.scope x) (hf : X.fn x = true ∨ X.env.scope.names.lookup x = some .local := by first | exact .inl rfl | exact .inr rfl | assumption) : PG3 bs X (.Name x pos) [i] (wgName i) := by
  refine PG.weak (pg_name hN hi hx hf) ?_
  rintro v σ H Q ⟨d, τ, M, Q3, r, e, m, q, k⟩
  exact k _ _ H M .refl ⟨List.length_set, fun j hj => List.getElem?_set_ne (fun z => hj (by simp [z]))⟩ (e.set r) m q
def wgNil : TGs3 := fun ds τ M Q => match ds with
  | [] => Q τ M
  | _ => False
def wgCons (t : TG3) (u : TGs3) : TGs3 := fun ds τ M Q => match ds with
  | d :: r => t d τ M fun τ' M' => u r τ' M' Q
  | [] => False
theorem gs_nil : PGs3 bs X [] [] wgNil := by
  refine PGs.weak pgs_nil ?_
  rintro vs σ H Q ⟨ds, τ, M, Q3, r, e, m, q, k⟩
  cases ds with
  | nil => cases r; exact ⟨rfl, k _ _ H M .refl .refl e m q⟩
  | cons _ _ => exact False.elim q
theorem gs_cons {g : Expr} {gs : List Expr} {ix iy : List Nat} {t : TG3} {u : TGs3} (h1 : PG3 bs X g ix t) (h2 : PGs3 bs X gs iy u)
    (hs : (assignEach (g :: gs) X.env).map (·.2) = assign g X.env :: (assignEach gs X.env).map (·.2) := by rfl) : PGs3 bs X (g :: gs) (ix ++ iy) (wgCons t u) := by
  refine PGs.weak (pgs_cons h1 h2 hs) ?_
  rintro vs σ H Q ⟨ds, τ, M, Q3, r, e, m, q, k⟩
  cases ds with
  | nil => exact False.elim q
  | cons d ds =>
    cases r with
    | cons r1 r2 =>
      refine ⟨_, _, rfl, d, τ, M, _, r1, e, m, q, fun σ1 τ1 H1 M1 x b e1 m1 q1 => ?_⟩
      exact ⟨ds, τ1, M1, Q3, r2.go (x.still m), e1, m1, q1, fun σ2 τ2 H2 M2 x2 b2 e2 m2 q2 =>
        k σ2 τ2 H2 M2 (x.trans x2) ((b.more fun i h => List.mem_append_left _ h).trans (b2.more fun i h => List.mem_append_right _ h)) e2 m2 q2⟩
/-- (a, b, ..) = a tuple; ds of that length is what t asks -/
theorem g_tup {es : List Expr} {k n : Nat} {ix : List Nat} {t : TGs3} (hc : X.calm = true) (h : PGs3 bs X es ix t)
    (hn : (assignEach es X.env).length = n := by rfl) (hst : (assignEach es X.env).findIdx? (·.1) = none := by rfl) : PG3 bs X (.Tuple es k pos) ix (fun d τ M Q => match d with
      | .tup ds => ds.length = n ∧ t ds τ M Q
      | _ => False) := by
  refine PG.weak (pg_tup hc h hn hst) ?_
  rintro v σ H Q ⟨d, τ, M, Q3, r, e, m, q, k⟩
  cases d with
  | tup ds =>
    cases r with
    | tup h1 h2 => exact ⟨_, _, rfl, h1, by rw [h2.length]; exact q.1, ds, τ, M, Q3, h2, e, m, q.2, k⟩
  | _ => exact False.elim q
/-- o[i] = v by values -/
abbrev TSet3 := D → D → D → Mp → (Mp → Prop) → Prop
def liftSet (K : PySem.W.Frag) (bs : BS) (t : TSet3) : TSet := fun o i v H Q => ∃ do_ di dv M Q3, RD K H o do_ ∧ RD K H i di ∧ RD K H v dv ∧ RM K bs H M ∧ t do_ di dv M Q3 ∧ ∀ H' M', Ext M M' H H' → RM K bs H' M' → Q3 M' → Q H'
theorem PSet.weak {t t' : TSet} (h : PSet X t) (i : ∀ o i v H Q, t' o i v H Q → t o i v H Q) : PSet X t' := fun pins s σ H o j v ov iv u Q I r1 r2 r3 q => h pins s σ H o j v ov iv u Q I r1 r2 r3 (i o j v H Q q)
def wgSub (to ti : TE3) (t : TSet3) : TG3 := fun d τ M Q => to τ M fun o M1 => ti τ M1 fun i M2 => t o i d M2 fun M3 => Q τ M3
theorem g_sub {o i : Expr} {to ti : TE3} {t : TSet3} (ho : PE3 bs X o to) (hi : PE3 bs X i ti) (hs : PSet X (liftSet X.K bs t))
    (ha : ∀ v, assign (.Subscript o i pos) X.env v = (do
      let ov ← holding [v] (eval o X.env)
      let iv ← holding [v, ov] (eval i X.env)
      standAt pos
      holding [v, ov, iv] (setItem ov iv v)
      release [v, ov, iv] []) := by intro _; rfl) : PG3 bs X (.Subscript o i pos) [] (wgSub to ti t) := by
  refine PG.weak (pg_sub ho hi hs ha) ?_
  rintro v σ H Q ⟨d, τ, M, Q3, r, e, m, q, k⟩
  refine ⟨τ, M, _, e, m, q, fun ov H1 od M1 x1 m1 r1 q1 => ⟨τ, M1, _, e.go (x1.still m), m1, q1, fun iv H2 id M2 x2 m2 r2 q2 => ?_⟩⟩
  exact ⟨od, id, d, M2, _, r1.go (x2.still m1), r2, (r.go (x1.still m)).go (x2.still m1), m2, q2, fun H3 M3 x3 m3 q3 =>
    k σ τ H3 M3 (x1.trans (x2.trans x3)) .refl (((e.go (x1.still m)).go (x2.still m1)).go (x3.still m2)) m3 q3⟩
def wAsg (te : TE3) (g : TG3) : TS3 := fun D τ M => te τ M fun d M1 => g d τ M1 D.nx
theorem s_asg {tg : Expr} {g : TG3} {ix : List Nat} (he : PE3 bs X e te) (hg : PG3 bs X tg ix g) (hs : swapsWithSole [tg] e pos.line X.env = pure false := by rfl) (hw : swappedStores [tg] e X.env = pure none := by rfl)
    (h1 : (assignEach [tg] X.env).map (·.2) = [assign tg X.env] := by rfl) : PS3 bs X (.Assign [tg] e pos) (wAsg te g) := by
  refine PS.weak (ps_asg he hg hs hw h1) ?_
  rintro D σ H ⟨τ, M, D3, e, m, q, kn, _⟩
  refine ⟨τ, M, _, e, m, q, fun v H1 d M1 x m1 r q1 => ?_⟩
  exact ⟨d, τ, M1, D3.nx, r, e.go (x.still m), m1, q1, fun σ2 τ2 H2 M2 x2 _ e2 m2 q2 => kn σ2 τ2 H2 M2 (x.trans x2) e2 m2 q2⟩
/-- a, b = x, y of plain local names -/
def wPar (i j : Nat) (ta : TA3) : TS3 := fun D τ M => ta τ M fun ds M1 => match ds with
  | [d, e] => D.nx (setS (setS τ i (some d)) j (some e)) M1
  | _ => False
theorem s_par {i j : Nat} {x y : Str} {a b : Expr} {ta : TA3} {px py pt : Pos} {kt k2 pt2} (hc : X.calm = true) (hN : X.N.Nodup) (hi : X.N[i]? = some x) (hj : X.N[j]? = some y) (hij : i ≠ j)
    (hx : X.env.scope.names.lookup x = some .local) (hy : X.env.scope.names.lookup y = some .local) (ha : PA3 bs X [a, b] ta)
    (hw : swappedStores [.Tuple [.Name x px, .Name y py] kt pt] (.Tuple [a, b] k2 pt2) X.env = pure (some [x, y]))
    (hs : swapsWithSole [.Tuple [.Name x px, .Name y py] kt pt] (.Tuple [a, b] k2 pt2) pos.line X.env = pure false := by rfl) :
    PS3 bs X (.Assign [.Tuple [.Name x px, .Name y py] kt pt] (.Tuple [a, b] k2 pt2) pos) (wPar i j ta) := by
  refine PS.weak (ps_par hc hN hi hj hij hx hy ha hw hs) ?_
  rintro D σ H ⟨τ, M, D3, e, m, q, kn, _⟩
  refine ⟨τ, M, _, e, m, q, fun vs H1 ds M1 x m1 r q1 => ?_⟩
  match ds, r, q1 with
  | [], _, q1 => exact False.elim q1
  | [_], _, q1 => exact False.elim q1
  | [d, e'], r, q1 =>
    cases r with
    | cons r1 r2 =>
      cases r2 with
      | cons r2 r3 =>
        cases r3
        exact ⟨_, _, rfl, kn _ _ H1 M1 x (((e.go (x.still m)).set r1).set r2) m1 q1⟩
  | _ :: _ :: _ :: _, _, q1 => exact False.elim q1
end
structure ItOk (K : PySem.W.Frag) (J : It) (P : Hp → Prop) (G : Mp → Prop) (ds : List D) : Prop where
  mono : ∀ M M' H H', RM0 K H M → Ext M M' H H' → P H → P H'
  stop : ∀ H M, RM0 K H M → P H → G M → J.stop ds.length H
  go : ∀ i d H M, RM0 K H M → P H → G M → ds[i]? = some d → J.go i H ∧ ∀ x H', J.yld i H x H' → Ext M M H H' ∧ RM0 K H' M ∧ RD K H' x d
abbrev TI3 := St3 → Mp → (List D → (Mp → Prop) → Mp → Prop) → Prop
def liftI (K : PySem.W.Frag) (bs : BS) (w : TI3) : TI := fun σ H R => ∃ τ M R3, RE K H σ τ ∧ RM K bs H M ∧ w τ M R3 ∧
  ∀ J P G ds H' M', Ext M M' H H' → RM K bs H' M' → ItOk K J P G ds → P H' → R3 ds G M' → R J H'
def PI3 (bs : BS) (X : Cx) (tg e : Expr) (w : TI3) : Prop := PI X tg e (liftI X.K bs w)
/-- a loop over ds -/
def forW (G : Mp → Prop) (g : TG3) (tb : TS3) (E : Ends3) : List D → St3 → Mp → Prop
  | [], τ, M => G M ∧ E.nx τ M
  | d :: r, τ, M => G M ∧ g d τ M fun τ2 M2 => tb { E with nx := forW G g tb E r, ct := forW G g tb E r, bk := E.nx } τ2 M2
def wFor (wi : TI3) (g : TG3) (tb : TS3) : TS3 := fun E τ M => wi τ M fun ds G M1 => forW G g tb E ds τ M1
section
variable {bs : BS} {X : Cx} {tg iter : Expr} {body : List Stmt} {wi : TI3} {g : TG3} {tb : TS3} {ix : List Nat} {pos : Pos}
theorem s_for (hp : PassesOwn (model X.prog X.w) X.A X.env X.xe) (hc : X.calm = true) (hi : PI3 bs X tg iter wi) (hg : PG3 bs X tg ix g) (hb : PSs3 bs X body tb)
    (hs : ∀ x, foldedSetIterable iter X.env x = pure x := by intro _; rfl) : PS3 bs X (.For tg iter body [] pos) (wFor wi g tb) := by
  refine PS.weak (ps_for hp hc hi hg hb hs) ?_
  rintro E σ H ⟨τ, M, D3, e, m, q, kn, kr, kb, kc⟩
  refine ⟨τ, M, _, e, m, q, fun J P G ds H1 M1 x1 m1 it p1 q1 => ?_⟩
  refine ⟨fun i mm σ' H' => mm = ds.length - i ∧ i ≤ ds.length ∧ P H' ∧ ∃ τ' M', RE X.K H' σ' τ' ∧ RM X.K bs H' M' ∧ Ext M M' H H' ∧ forW G g tb D3 (ds.drop i) τ' M', ?_, ?_⟩
  · exact ⟨ds.length, by simp, Nat.zero_le _, p1, τ, M1, e.go (x1.still m), m1, x1, by simpa using q1⟩
  · rintro i mm σ2 H2 ⟨rfl, hi', p2, τ2, M2, e2, m2, x2, q2⟩
    by_cases hlt : i < ds.length
    · right
      have hd : ds[i]? = some ds[i] := List.getElem?_eq_getElem hlt
      rw [List.drop_eq_getElem_cons hlt] at q2
      obtain ⟨g2, q2⟩ := q2
      obtain ⟨go, yl⟩ := it.go i ds[i] H2 M2 m2.m p2 g2 hd
      refine ⟨go, fun σ' H' => P H' ∧ ∃ τ' M', RE X.K H' σ' τ' ∧ RM X.K bs H' M' ∧ Ext M M' H H' ∧ forW G g tb D3 (ds.drop (i + 1)) τ' M', fun σ' H' h => ?_, fun x H3 y => ?_⟩
      · exact ⟨ds.length - (i + 1), by omega, rfl, hlt, h⟩
      · obtain ⟨x3, m30, r3⟩ := yl x H3 y
        have m3 := m2.to x3 m30
        have p3 := it.mono M2 M2 H2 H3 m2.m x3 p2
        refine ⟨ds[i], τ2, M2, _, r3, e2.go (x3.still m2), m3, q2, fun σ4 τ4 H4 M4 x4 b4 e4 m4 q4 => ?_⟩
        have p4 := it.mono M2 M4 H3 H4 m3.m x4 p3
        have x24 : Ext M M4 H H4 := x2.trans (x3.trans x4)
        refine ⟨τ4, M4, _, e4, m4, q4, fun σ5 τ5 H5 M5 x5 e5 m5 q5 => ?_, fun v d H5 M5 x5 m5 r5 q5 => kr v d H5 M5 (x24.trans x5) m5 r5 q5, fun σ5 τ5 H5 M5 x5 e5 m5 q5 => kn σ5 τ5 H5 M5 (x24.trans x5) e5 m5 q5, fun σ5 τ5 H5 M5 x5 e5 m5 q5 => ?_⟩
        · exact ⟨it.mono M4 M5 H4 H5 m4.m x5 p4, τ5, M5, e5, m5, x24.trans x5, q5⟩
        · exact ⟨it.mono M4 M5 H4 H5 m4.m x5 p4, τ5, M5, e5, m5, x24.trans x5, q5⟩
    · left
      have ei : i = ds.length := by omega
      subst ei
      rw [List.drop_length] at q2
      obtain ⟨g2, q2⟩ := q2
      exact ⟨it.stop H2 M2 m2.m p2 g2, kn σ2 τ2 H2 M2 x2 e2 m2 q2⟩
end
def whileW (c : TT3) (tb : TS3) (E : Ends3) : Nat → St3 → Mp → Prop
  | 0, _, _ => False
  | n + 1, τ, M => c τ M fun b M1 => ite3 b (tb { E with nx := whileW c tb E n, ct := whileW c tb E n, bk := E.nx } τ M1) (E.nx τ M1)
def wWhile (c : TT3) (tb : TS3) : TS3 := fun E τ M => ∃ n, whileW c tb E n τ M
section
variable {bs : BS} {X : Cx} {c : Expr} {body : List Stmt} {tc : TT3} {tb : TS3} {pos : Pos}
theorem s_while (hp : PassesOwn (model X.prog X.w) X.A X.env X.xe) (hc : PT3 bs X c tc) (hb : PSs3 bs X body tb) : PS3 bs X (.While c body [] pos) (wWhile tc tb) := by
  refine PS.weak (ps_while hp hc hb) ?_
  rintro E σ H ⟨τ, M, D3, e, m, ⟨n, q⟩, kn, kr, kb, kc⟩
  refine ⟨fun mm σ H' => ∃ τ' M', RE X.K H' σ τ' ∧ RM X.K bs H' M' ∧ Ext M M' H H' ∧ whileW tc tb D3 mm τ' M', ⟨n, τ, M, e, m, .refl, q⟩, ?_⟩
  rintro mm σ2 H2 ⟨τ2, M2, e2, m2, x2, q2⟩
  cases mm with
  | zero => exact False.elim q2
  | succ mm =>
    refine ⟨τ2, M2, _, e2, m2, q2, fun b H3 M3 x3 m3 q3 => ?_⟩
    cases b with
    | true =>
      refine iteT ⟨fun σ' H' => ∃ τ' M', RE X.K H' σ' τ' ∧ RM X.K bs H' M' ∧ Ext M M' H H' ∧ whileW tc tb D3 mm τ' M', fun σ' H' h => ⟨mm, Nat.lt_succ_self _, h⟩, ?_⟩
      have x23 : Ext M M3 H H3 := x2.trans x3
      exact ⟨τ2, M3, _, e2.go (x3.still m2), m3, q3, fun σ5 τ5 H5 M5 x5 e5 m5 q5 => ⟨τ5, M5, e5, m5, x23.trans x5, q5⟩, fun v d H5 M5 x5 m5 r5 q5 => kr v d H5 M5 (x23.trans x5) m5 r5 q5,
        fun σ5 τ5 H5 M5 x5 e5 m5 q5 => kn σ5 τ5 H5 M5 (x23.trans x5) e5 m5 q5, fun σ5 τ5 H5 M5 x5 e5 m5 q5 => ⟨τ5, M5, e5, m5, x23.trans x5, q5⟩⟩
    | false => exact iteF (kn σ2 τ2 H3 M3 (x2.trans x3) (e2.go (x3.still m2)) m3 q3)
end
/-- the list that comes of ds, from τ with the block's names forgotten -/
def lcW (G : Mp → Prop) (g : TG3) (tt : TT3) (te : TE3) (τ : St3) (Q : List D → Mp → Prop) : List D → List D → Mp → Prop
  | [], acc, M => G M ∧ Q acc M
  | d :: r, acc, M => G M ∧ g d τ M fun τ2 M2 => tt τ2 M2 fun b M3 => ite3 b (te τ2 M3 fun y M4 => acc.length < sizeLine ∧ lcW G g tt te τ Q r (acc ++ [y]) M4) (lcW G g tt te τ Q r acc M3)
def wLcL (wi : TI3) (g : TG3) (tt : TT3) (te : TE3) (vs : List Nat) : St3 → Mp → (List D → Mp → Prop) → Prop := fun τ M Q => wi τ M fun ds G M1 => lcW G g tt te (wipe3 τ vs) Q ds [] M1
def wLc (wi : TI3) (g : TG3) (tt : TT3) (te : TE3) (vs : List Nat) : TE3 := fun τ M Q => wLcL wi g tt te vs τ M fun acc M2 => ∀ p, M2 p = none → Q (.ref p) (mset M2 p (.lst acc))
def PTs3 (bs : BS) (X : Cx) (ifs : List Expr) (t : TT3) : Prop := PTs X ifs (liftT X.K bs t)
def wYes : TT3 := fun _ M Q => Q true M
theorem ts_nil {bs : BS} {X : Cx} : PTs3 bs X [] wYes := ⟨fun pins s σ H Q I ⟨τ, M, Q3, e, m, q, k⟩ => pts_nil.run pins s σ H Q I (k true H M .refl m q)⟩
theorem ts_one {bs : BS} {X : Cx} {c : Expr} {t : TT3} (h : PT3 bs X c t) : PTs3 bs X [c] t := pts_one h
/-- a fresh list at p, not in M -/
structure Fresh (K : PySem.W.Frag) (H : Hp) (M : Mp) (p : Addr) (ds : List D) : Prop where
  free : M p = none
  lst : ∃ vs, H p = some (.lst vs) ∧ RDs K H vs ds
theorem Fresh.go {K : PySem.W.Frag} {H H' : Hp} {M M' : Mp} {p : Addr} {ds : List D} (f : Fresh K H M p ds) (m : RM0 K H M) (x : Ext M M' H H') : Fresh K H' M' p ds := by
  obtain ⟨vs, h, r⟩ := f.lst
  refine ⟨?_, vs, x.fr p _ h f.free, r.go (x.still0 m)⟩
  cases q : M' p with
  | none => rfl
  | some o =>
    rcases x.dom p (by rw [q]; exact fun z => nomatch z) with z | z
    · exact absurd f.free z
    · rw [h] at z; cases z
theorem Fresh.laid {K : PySem.W.Frag} {H : Hp} {M : Mp} {p : Addr} {vs : List V} {ds : List D} (m : RM0 K H M) (hp : H p = none) (r : RDs K H vs ds) : Fresh K (upd H p (.lst vs)) M p ds :=
  ⟨m.free hp, vs, upd_same, r.go ((m.upNew hp).1.still0 m)⟩
/-- it is written, M stays -/
theorem Fresh.put {K : PySem.W.Frag} {H : Hp} {M : Mp} {p : Addr} {ds ds' : List D} {vs : List V} (f : Fresh K H M p ds) (m : RM0 K H M) (r : RDs K H vs ds') : Still K H (upd H p (.lst vs)) ∧ RM0 K (upd H p (.lst vs)) M ∧ Fresh K (upd H p (.lst vs)) M p ds' := by
  obtain ⟨ws, h, _⟩ := f.lst
  have s : Still K H (upd H p (.lst vs)) := by
    refine ⟨fun a xs q => ?_, fun a xs q => ?_⟩
    · rcases q with (q | ⟨o, q⟩) | q
      · exact .inl (.inl (by rw [upd_ne (by intro z; subst z; rw [h] at q; cases q)]; exact q))
      · exact .inl (.inr ⟨o, by rw [upd_ne (by intro z; subst z; rw [h] at q; cases q)]; exact q⟩)
      · exact .inr q
    · rcases q with ⟨o, q⟩ | q
      · exact .inl ⟨o, by rw [upd_ne (by intro z; subst z; rw [h] at q; cases q)]; exact q⟩
      · exact .inr q
  refine ⟨s, fun a o q => (m a o q).go s fun u hu => ?_, f.free, vs, upd_same, r.go s⟩
  rw [upd_ne (ne_m q f.free)]; exact hu
/-- it comes into M -/
theorem Fresh.take {K : PySem.W.Frag} {H : Hp} {M' : Mp} {p : Addr} {ds : List D} (f : Fresh K H M' p ds) (m : RM0 K H M') : RM0 K H (mset M' p (.lst ds)) := by
  intro a o q
  by_cases e : a = p
  · subst e; rw [mset_same] at q; cases q; exact f.lst
  · rw [mset_ne e] at q; exact m a o q
/-- a step that leaves out p: from H (p fresh there) to H' with p's list otherwise -/
theorem ext_but {M M' : Mp} {H H1 : Hp} {p : Addr} (h0 : H p = none) (x : Ext M M' H H1) (o : HO) : Ext M M' H (upd H1 p o) :=
  ⟨fun a u ha hm => by rw [upd_ne (ne_of_none ha h0)]; exact x.fr a u ha hm, x.dom⟩
section
variable {bs : BS} {X : Cx} {elt tg iter : Expr} {ifs : List Expr} {scope : Scope} {own : List (Str × Nat)} {pos : Pos} {wi : TI3} {g : TG3} {tt : TT3} {te : TE3} {ix : List Nat}
theorem lift_lcL (hix : ∀ i ∈ ix, i ∈ own.map (·.2)) : ∀ σ H (Q : VK), (∃ τ M Q3, RE X.K H σ τ ∧ RM X.K bs H M ∧ wLcL wi g tt te (own.map (·.2)) τ M Q3 ∧
      ∀ D H' acc M', Ext M M' H H' → RM X.K bs H' M' → Fresh X.K H' M' D acc → (M D ≠ none ∨ H D = none) → Q3 acc M' → Q (.ref D) H') →
    tLc (liftI X.K bs wi) (liftG X.K bs ix g) (liftT X.K bs tt) (lift X.K bs te) (own.map (·.2)) σ H Q := by
  rintro σ H Q ⟨τ, M, Q3, e, m, q, k⟩
  refine ⟨τ, M, _, e, m, q, fun J P G ds H1 M1 x1 m1 it p1 q1 => ?_⟩
  intro L hL
  refine ⟨fun i mm H' => mm = ds.length - i ∧ i ≤ ds.length ∧ P H' ∧ ∃ M' acc, RM X.K bs H' M' ∧ Ext M1 M' H1 H' ∧ Fresh X.K H' M' L acc ∧ lcW G g tt te (wipe3 τ (own.map (·.2))) Q3 (ds.drop i) acc M', ?_, ?_⟩
  · obtain ⟨x2, m2⟩ := m1.upNew (o := .lst []) hL
    exact ⟨ds.length, by simp, Nat.zero_le _, it.mono M1 M1 H1 _ m1.m x2 p1, M1, [], m2, x2, Fresh.laid m1.m hL .nil, by simpa using q1⟩
  · rintro i mm H2 ⟨rfl, hi', p2, M2, acc, m2, x2, f2, q2⟩
    by_cases hlt : i < ds.length
    · right
      have hd : ds[i]? = some ds[i] := List.getElem?_eq_getElem hlt
      rw [List.drop_eq_getElem_cons hlt] at q2
      obtain ⟨g2, q2⟩ := q2
      obtain ⟨go, yl⟩ := it.go i ds[i] H2 M2 m2.m p2 g2 hd
      refine ⟨go, fun H' => P H' ∧ ∃ M' acc, RM X.K bs H' M' ∧ Ext M1 M' H1 H' ∧ Fresh X.K H' M' L acc ∧ lcW G g tt te (wipe3 τ (own.map (·.2))) Q3 (ds.drop (i + 1)) acc M', fun H' h => ⟨ds.length - (i + 1), by omega, rfl, hlt, h⟩, fun x H3 y => ?_⟩
      obtain ⟨x3, m30, r3⟩ := yl x H3 y
      have m3 := m2.to x3 m30
      have p3 := it.mono M2 M2 H2 H3 m2.m x3 p2
      have f3 := f2.go m2.m x3
      have x13 := x2.trans x3
      have e3 : RE X.K H3 (L2.wipe σ (own.map (·.2))) (wipe3 τ (own.map (·.2))) := (e.go ((x1.still m).trans (x13.still m1))).wipe _
      refine ⟨ds[i], _, M2, _, r3, e3, m3, q2, fun σ4 τ4 H4 M4 x4 b4 e4 m4 q4 => ⟨(b4.wipe hix).trans (wipe_wipe _ _), ?_⟩⟩
      have p4 := it.mono M2 M4 H3 H4 m3.m x4 p3
      have f4 := f3.go m3.m x4
      have x14 := x13.trans x4
      refine ⟨τ4, M4, _, e4, m4, q4, fun b H5 M5 x5 m5 q5 => ?_⟩
      have p5 := it.mono M4 M5 H4 H5 m4.m x5 p4
      have f5 := f4.go m4.m x5
      have x15 := x14.trans x5
      cases b with
      | false => exact iteF ⟨p5, M5, acc, m5, x15, f5, q5⟩
      | true =>
        refine iteT ⟨τ4, M5, _, e4.go (x5.still m4), m5, q5, fun z H6 dz M6 x6 m6 r6 q6 => ?_⟩
        have f6 := f5.go m5.m x6
        have x16 := x15.trans x6
        obtain ⟨vs, hv, rv⟩ := f6.lst
        obtain ⟨s7, m7, f7⟩ := f6.put (vs := vs ++ [z]) m6.m (rv.app (.cons r6 .nil))
        have x17 : Ext M1 M6 H1 (upd H6 L (.lst (vs ++ [z]))) := ext_but hL x16 _
        have m7 := m1.to x17 m7
        refine ⟨vs, hv, by rw [rv.length]; exact q6.1, it.mono M1 M6 H1 _ m1.m x17 p1, M6, acc ++ [dz], m7, x17, f7, q6.2⟩
    · left
      have ei : i = ds.length := by omega
      subst ei
      rw [List.drop_length] at q2
      obtain ⟨g2, q2⟩ := q2
      refine ⟨it.stop H2 M2 m2.m p2 g2, k L H2 acc M2 (x1.trans x2) m2 f2 ?_ q2⟩
      cases z : H L with
      | none => exact .inr rfl
      | some o =>
        left
        intro zm
        rw [x1.fr L o z zm] at hL; cases hL
end
end L3
set_option Elab.async false
set_option linter.all false
set_option maxRecDepth 100000
set_option maxHeartbeats 4000000
namespace L3
open PySem PySem.Spec PyProof.Rows L2
section
variable {bs : BS} {X : Cx}
/-- from a rule by values to a rule by data -/
theorem op3 {f : Value → Value → Sem Value} {r : R23} (h : ∀ (d e : D) (x y : V) (H : Hp) (M : Mp) (Q : VK) (Q3 : VK3), RD X.K H x d → RD X.K H y e → RM X.K bs H M → r d e M Q3 →
    (∀ v H' z M', Ext M M' H H' → RM X.K bs H' M' → RD X.K H' v z → Q3 z M' → Q v H') → ∃ r2 : R2, OpR X f r2 ∧ r2 x y H Q) : OpR X f (lift2 X.K bs r) := by
  rintro pins s σ H x y v u Q I rx ry ⟨d, e, M, Q3, r1, r2, m, q, k⟩
  obtain ⟨rr, ho, hq⟩ := h d e x y H M Q Q3 r1 r2 m q k
  exact ho pins s σ H x y v u Q I rx ry hq
theorem call3 {f : Value} {r : List D → Mp → VK3 → Prop} (h : ∀ (ds : List D) (xs : List V) (H : Hp) (M : Mp) (Q : VK) (Q3 : VK3), RDs X.K H xs ds → RM X.K bs H M → r ds M Q3 →
    (∀ v H' z M', Ext M M' H H' → RM X.K bs H' M' → RD X.K H' v z → Q3 z M' → Q v H') → ∃ r2 : List V → Hp → VK → Prop, CallR X f r2 ∧ r2 xs H Q) : CallR X f (liftV X.K bs r) := by
  rintro pins s σ H xs us Q I rx ⟨ds, M, Q3, r1, m, q, k⟩
  obtain ⟨rr, ho, hq⟩ := h ds xs H M Q Q3 r1 m q k
  exact ho pins s σ H xs us Q I rx hq
def oAdd : R23 := fun d e M Q => match d, e with
  | .int i, .int j => Q (.int (i + j)) M
  | .str x, .str y => x.length + y.length ≤ sizeLine ∧ Q (.str (x ++ y)) M
  | .tup xs, .tup ys => xs.length + ys.length ≤ sizeLine ∧ Q (.tup (xs ++ ys)) M
  | .ref a, .ref b => match M a, M b with
    | some (.lst xs), some (.lst ys) => xs.length + ys.length ≤ sizeLine ∧ ∀ p, M p = none → Q (.ref p) (mset M p (.lst (xs ++ ys)))
    | _, _ => False
  | _, _ => False
theorem o_add : OpR X (binaryOp .Add) (lift2 X.K bs oAdd) := op3 fun d e x y H M Q Q3 r1 r2 m q k => by
  cases d with
  | int i =>
    cases e with
    | int j => cases r1; cases r2; exact ⟨_, op_add, _, _, rfl, rfl, k _ _ _ M .refl m (.int _) q⟩
    | _ => exact False.elim q
  | str i =>
    cases e with
    | str j => cases r1; cases r2; exact ⟨_, op_add_str, _, _, rfl, rfl, q.1, k _ _ _ M .refl m (.str _) q.2⟩
    | _ => exact False.elim q
  | tup xs =>
    cases e with
    | tup ys =>
      cases r1 with
      | tup h1 l1 =>
        cases r2 with
        | tup h2 l2 =>
          refine ⟨_, op_catA, _, _, _, _, rfl, rfl, h1, h2, by rw [l1.length, l2.length]; exact q.1, fun e => ?_, fun _ e => ?_, fun _ _ p hp => ?_⟩
          · subst e; cases l1; exact k _ _ _ M .refl m (.tup h2 l2) q.2
          · subst e; cases l2
            have q' : xs.length + 0 ≤ sizeLine ∧ Q3 (.tup (xs ++ [])) M := q
            rw [List.append_nil] at q'
            exact k _ _ _ M .refl m (.tup h1 l1) q'.2
          · obtain ⟨x2, m2⟩ := m.upNew (o := .tup _) hp
            exact k _ _ _ M x2 m2 (.tup (SqT.of upd_same) ((l1.app l2).go (x2.still m))) q.2
    | _ => exact False.elim q
  | ref a =>
    cases e with
    | ref b =>
      cases r1; cases r2
      simp only [oAdd] at q
      split at q
      · rename_i xs ys ha hb
        obtain ⟨vs, hv, l1⟩ := m.at ha
        obtain ⟨ws, hw, l2⟩ := m.at hb
        refine ⟨_, op_cat, _, _, _, _, rfl, rfl, hv, hw, by rw [l1.length, l2.length]; exact q.1, fun p hp => ?_⟩
        obtain ⟨x2, m2⟩ := m.newL hp (l1.app l2)
        exact k _ _ _ _ x2 m2 (.ref p) (q.2 p (m.free hp))
      · exact False.elim q
    | _ => exact False.elim q
  | _ => cases e <;> exact False.elim q
def oInt (C : Int → Int → Prop) (g : Int → Int → Int) : R23 := fun d e M Q => asI d fun i => asI e fun j => C i j ∧ Q (.int (g i j)) M
theorem o_int {f : Value → Value → Sem Value} {C : Int → Int → Prop} {g : Int → Int → Int} (h : OpR X f (rI C fun i j => .int (g i j))) : OpR X f (lift2 X.K bs (oInt C g)) := op3 fun d e x y H M Q Q3 r1 r2 m q k => by
  cases d with
  | int i =>
    cases e with
    | int j => cases r1; cases r2; exact ⟨_, h, _, _, rfl, rfl, q.1, k _ _ _ M .refl m (.int _) q.2⟩
    | _ => exact False.elim q
  | _ => cases e <;> exact False.elim q
def oSub : R23 := fun d e M Q => asI d fun i => asI e fun j => Q (.int (i - j)) M
theorem o_sub : OpR X (binaryOp .Sub) (lift2 X.K bs oSub) := op3 fun d e x y H M Q Q3 r1 r2 m q k => by
  cases d with
  | int i =>
    cases e with
    | int j => cases r1; cases r2; exact ⟨_, op_sub, _, _, rfl, rfl, k _ _ _ M .refl m (.int _) q⟩
    | _ => exact False.elim q
  | _ => cases e <;> exact False.elim q
/-- // by a positive divisor below 2 ^ 9000, or by a small one of any sign -/
def CFd (i j : Int) : Prop := j ≠ 0 ∧ j.natAbs.log2 < 9000
theorem op_fd : OpR X (binaryOp .FloorDiv) (rI CFd fun i j => .int (i.fdiv j)) := opI fun i j _ _ _ _ _ hc q => floordiv_int hc.1 q (.inl (PyProof.noPylong_of_log2 hc.2))
theorem op_ml : OpR X (binaryOp .Mult) (rI IntMulOk fun i j => .int (i * j)) := opI fun _ _ _ _ _ _ _ hc q => mul_int q hc
def oFd : R23 := oInt CFd fun i j => i.fdiv j
def oMd : R23 := oInt (fun _ j => j ≠ 0) fun i j => i.fmod j
def oPw : R23 := oInt CPow fun i j => i ^ j.toNat
def oShl : R23 := oInt CPow fun i j => i * 2 ^ j.toNat
theorem o_fd : OpR X (binaryOp .FloorDiv) (lift2 X.K bs oFd) := o_int op_fd
theorem o_md : OpR X (binaryOp .Mod) (lift2 X.K bs oMd) := o_int op_modN
theorem o_pw : OpR X (binaryOp .Pow) (lift2 X.K bs oPw) := o_int op_pow
def oMul : R23 := fun d e M Q => match d, e with
  | .int i, .int j => IntMulOk i j ∧ Q (.int (i * j)) M
  | .ref a, .int k => match M a with
    | some (.lst xs) => (-(2 ^ 63) ≤ k ∧ k < 2 ^ 63 ∧ xs.length * k.toNat ≤ sizeLine) ∧ ∀ p, M p = none → Q (.ref p) (mset M p (.lst (List.replicate k.toNat xs).flatten))
    | _ => False
  | _, _ => False
theorem RDs.rep {K : PySem.W.Frag} {H : Hp} {vs : List V} {ds : List D} (h : RDs K H vs ds) : ∀ k : Nat, RDs K H (List.replicate k vs).flatten (List.replicate k ds).flatten
  | 0 => .nil
  | k + 1 => by
    rw [List.replicate_succ, List.replicate_succ, List.flatten_cons, List.flatten_cons]
    exact h.app (RDs.rep h k)
theorem o_mul : OpR X (binaryOp .Mult) (lift2 X.K bs oMul) := op3 fun d e x y H M Q Q3 r1 r2 m q k => by
  cases d with
  | int i =>
    cases e with
    | int j => cases r1; cases r2; exact ⟨_, op_ml, _, _, rfl, rfl, q.1, k _ _ _ M .refl m (.int _) q.2⟩
    | _ => exact False.elim q
  | ref a =>
    cases e with
    | int j =>
      cases r1; cases r2
      simp only [oMul] at q
      split at q
      · rename_i xs ha
        obtain ⟨vs, hv, l1⟩ := m.at ha
        refine ⟨_, op_rep, _, _, _, rfl, rfl, hv, q.1.1, q.1.2.1, by rw [l1.length]; exact q.1.2.2, fun p hp => ?_⟩
        obtain ⟨x2, m2⟩ := m.newL hp (l1.rep j.toNat)
        exact k _ _ _ _ x2 m2 (.ref p) (q.2 p (m.free hp))
      · exact False.elim q
    | _ => exact False.elim q
  | _ => cases e <;> exact False.elim q
def oNeg : D → Mp → VK3 → Prop := fun d M Q => asI d fun i => Q (.int (-i)) M
def wUn (r : D → Mp → VK3 → Prop) (ta : TE3) : TE3 := fun τ M Q => ta τ M fun x M1 => r x M1 Q
theorem e_neg {a : Expr} {ta : TE3} {pos : Pos} (ha : PE3 bs X a ta) : PE3 bs X (.UnaryOp .USub a pos) (wUn oNeg ta) := by
  refine PE.weak (pe_un un_neg ha) ?_
  rintro σ H Q ⟨τ, M, Q3, e, m, q, k⟩
  refine ⟨τ, M, _, e, m, q, fun x H1 d M1 x1 m1 r1 q1 => ?_⟩
  cases d with
  | int i => cases r1; exact ⟨i, rfl, k _ H1 _ M1 x1 m1 (.int _) q1⟩
  | _ => exact False.elim q1
def oCmp (p : Int → Int → Bool) : R23 := fun d e M Q => asI d fun i => asI e fun j => Q (.bl (p i j)) M
theorem o_cmp {f : Value → Value → Sem Value} {p : Int → Int → Bool} (h : OpR X f (rI0 fun i j => .bl (p i j))) : OpR X f (lift2 X.K bs (oCmp p)) := op3 fun d e x y H M Q Q3 r1 r2 m q k => by
  cases d with
  | int i =>
    cases e with
    | int j => cases r1; cases r2; exact ⟨_, h, _, _, rfl, rfl, k _ _ _ M .refl m (.bl _) q⟩
    | _ => exact False.elim q
  | _ => cases e <;> exact False.elim q
def oLt : R23 := oCmp fun i j => decide (i < j)
def oLe : R23 := oCmp fun i j => decide (i ≤ j)
def oGt : R23 := oCmp fun i j => decide (j < i)
def oGe : R23 := oCmp fun i j => decide (j ≤ i)
theorem o_lt : OpR X (compareOp .Lt) (lift2 X.K bs oLt) := o_cmp op_lt
theorem o_gt : OpR X (compareOp .Gt) (lift2 X.K bs oGt) := o_cmp op_gt
/-- is None -/
def isN : D → Bool
  | .non => true
  | _ => false
def oIsN (neg : Bool) : R23 := fun d e M Q => match e with
  | .non => Q (.bl (if neg then !isN d else isN d)) M
  | _ => False
theorem isN_of {K : PySem.W.Frag} {H : Hp} {v : V} {d : D} (r : RD K H v d) : decide (v = .non) = isN d := by
  cases r <;> simp [isN]
theorem o_is : OpR X (compareOp .Is) (lift2 X.K bs (oIsN false)) := op3 fun d e x y H M Q Q3 r1 r2 m q k => by
  cases e with
  | non => cases r2; exact ⟨_, op_isN, rfl, k _ _ _ M .refl m (.bl _) (by rw [isN_of r1]; exact q)⟩
  | _ => exact False.elim q
theorem o_isnot : OpR X (compareOp .IsNot) (lift2 X.K bs (oIsN true)) := op3 fun d e x y H M Q Q3 r1 r2 m q k => by
  cases e with
  | non => cases r2; exact ⟨_, op_notN, rfl, k _ _ _ M .refl m (.bl _) (by rw [isN_of r1]; exact q)⟩
  | _ => exact False.elim q
mutual
def pdOf : D → PyData
  | .non => .none
  | .bl b => .bool b
  | .int i => .int i
  | .str x => .str x
  | .tup xs => .tuple (pdsOf xs)
  | .rol xs => .list (pdsOf xs)
  | .ref _ => .none
  | .ty _ => .none
def pdsOf : List D → List PyData
  | [] => []
  | d :: ds => pdOf d :: pdsOf ds
end
mutual
/-- no addresses within, texts that are texts -/
def plain : D → Bool
  | .non => true
  | .bl _ => true
  | .int _ => true
  | .str x => PyData.strOk x
  | .tup xs => plains xs
  | .rol xs => plains xs
  | .ref _ => false
  | .ty _ => false
def plains : List D → Bool
  | [] => true
  | d :: ds => plain d && plains ds
end
mutual
def deep : D → Nat
  | .tup xs => deeps xs + 1
  | .rol xs => deeps xs + 1
  | _ => 0
def deeps : List D → Nat
  | [] => 0
  | d :: ds => max (deep d) (deeps ds)
end
mutual
theorem depth_pd : ∀ d : D, (pdOf d).depth = deep d
  | .non => by simp [pdOf, deep, PyData.depth]
  | .bl _ => by simp [pdOf, deep, PyData.depth]
  | .int _ => by simp [pdOf, deep, PyData.depth]
  | .str _ => by simp [pdOf, deep, PyData.depth]
  | .ref _ => by simp [pdOf, deep, PyData.depth]
  | .ty _ => by simp [pdOf, deep, PyData.depth]
  | .tup xs => by simp [pdOf, deep, PyData.depth, depth_pds xs]
  | .rol xs => by simp [pdOf, deep, PyData.depth, depth_pds xs]
theorem depth_pds : ∀ ds : List D, PyData.depthAll (pdsOf ds) = deeps ds
  | [] => by simp [pdsOf, deeps, PyData.depthAll]
  | d :: ds => by simp [pdsOf, deeps, PyData.depthAll, depth_pd d, depth_pds ds]
end
mutual
theorem canLay_pd : ∀ d : D, plain d = true → (pdOf d).canLay0 = true
  | .non, _ => by simp [pdOf, PyData.canLay0]
  | .bl _, _ => by simp [pdOf, PyData.canLay0]
  | .int _, _ => by simp [pdOf, PyData.canLay0]
  | .str _, h => by simpa [pdOf, PyData.canLay0, plain] using h
  | .ref _, h => by simp [plain] at h
  | .ty _, h => by simp [plain] at h
  | .tup xs, h => by simpa [pdOf, PyData.canLay0] using canLay_pds xs (by simpa [plain] using h)
  | .rol xs, h => by simpa [pdOf, PyData.canLay0] using canLay_pds xs (by simpa [plain] using h)
theorem canLay_pds : ∀ ds : List D, plains ds = true → PyData.canLayAll0 (pdsOf ds) = true
  | [], _ => by simp [pdsOf, PyData.canLayAll0]
  | d :: ds, h => by
    have h' : plain d = true ∧ plains ds = true := by simpa [plains] using h
    simp [pdsOf, PyData.canLayAll0, canLay_pd d h'.1, canLay_pds ds h'.2]
end
mutual
theorem dp_of {K : PySem.W.Frag} {H : Hp} : ∀ (d : D) (v : V), plain d = true → RD K H v d → Dp K H v (pdOf d)
  | .non, _, _, r => by cases r; simp only [pdOf]; exact .non
  | .bl b, _, _, r => by cases r; simp only [pdOf]; exact .bl b
  | .int i, _, _, r => by cases r; simp only [pdOf]; exact .int i
  | .str x, _, _, r => by cases r; simp only [pdOf]; exact .str x
  | .ref _, _, h, _ => by simp [plain] at h
  | .ty _, _, h, _ => by simp [plain] at h
  | .tup xs, _, h, r => by
    cases r with
    | tup h1 h2 => simp only [pdOf]; exact .tup h1 (dps_of xs _ (by simpa [plain] using h) h2)
  | .rol xs, _, h, r => by
    cases r with
    | rol h1 h2 => simp only [pdOf]; exact .lst h1.sq (dps_of xs _ (by simpa [plain] using h) h2)
theorem dps_of {K : PySem.W.Frag} {H : Hp} : ∀ (ds : List D) (vs : List V), plains ds = true → RDs K H vs ds → DpAll K H vs (pdsOf ds)
  | [], _, _, r => by cases r; simp only [pdsOf]; exact .nil
  | d :: ds, _, h, r => by
    have h' : plain d = true ∧ plains ds = true := by simpa [plains] using h
    cases r with
    | cons r1 r2 => simp only [pdsOf]; exact .cons (dp_of d _ h'.1 r1) (dps_of ds _ h'.2 r2)
end
/-- a list at an address as a list of data -/
def top (M : Mp) : D → D
  | .ref a => match M a with
    | some (.lst ds) => .rol ds
    | _ => .ref a
  | d => d
theorem dp_top {K : PySem.W.Frag} {H : Hp} {M : Mp} {v : V} {d : D} (m : RM0 K H M) (r : RD K H v d) (h : plain (top M d) = true) : Dp K H v (pdOf (top M d)) := by
  cases d with
  | ref a =>
    cases r
    simp only [top] at h ⊢
    split at h
    · rename_i ds ha
      obtain ⟨vs, hv, l⟩ := m a _ ha
      simp only [ha, pdOf]
      exact .lst (SqL.of hv) (dps_of ds vs (by simpa [plain] using h) l)
    · simp [plain] at h
  | _ => exact dp_of _ v h r
/-- data that == and repr take -/
structure Pl (d : D) : Prop where
  p : plain d = true
  d : deep d ≤ 64
def eqD (d e : D) : Bool := PyData.eqv (pdOf d) (pdOf e)
def eqP (neg : Bool) (d e : D) (Q : D → Prop) : Prop := Pl d ∧ Pl e ∧ Q (.bl (if neg then !eqD d e else eqD d e))
def oEq (neg : Bool) : R23 := fun d e M Q => match d with
  | .str x => match e with
    | .str y => Q (.bl (if neg then !decide (x = y) else decide (x = y))) M
    | e => eqP neg (.str x) (top M e) fun z => Q z M
  | d => eqP neg (top M d) (top M e) fun z => Q z M
theorem shaped_pl {d : D} (h : Pl d) : SeqAt.shaped (pdOf d) = true := by
  unfold SeqAt.shaped
  rw [canLay_pd d h.p, depth_pd, decide_eq_true h.d]
  rfl
theorem o_eqG {neg : Bool} {f : Value → Value → Sem Value} {r1 r2 : R2} (h1 : OpR X f r1) (h2 : OpR X f r2)
    (g1 : ∀ x y : V, ∀ H Q, scal x y = true → Q (V.bl (if neg then !decide (x = y) else decide (x = y))) H → r1 x y H Q)
    (g2 : ∀ (x y : V) H (Q : VK) (d e : PyData), Dp X.K H x d → Dp X.K H y e → SeqAt.shaped d = true → SeqAt.shaped e = true → Q (.bl (if neg then !PyData.eqv d e else PyData.eqv d e)) H → r2 x y H Q) : OpR X f (lift2 X.K bs (oEq neg)) := op3 fun d e x y H M Q Q3 w1 w2 m q k => by
  have gen : ∀ d e, RD X.K H x d → RD X.K H y e → eqP neg (top M d) (top M e) (fun z => Q3 z M) → ∃ r, OpR X f r ∧ r x y H Q := fun d e w1 w2 q =>
    ⟨_, h2, g2 _ _ _ _ _ _ (dp_top m.m w1 q.1.p) (dp_top m.m w2 q.2.1.p) (shaped_pl q.1) (shaped_pl q.2.1) (k _ _ _ M .refl m (.bl _) q.2.2)⟩
  cases d with
  | str a =>
    cases e with
    | str b =>
      cases w1; cases w2
      refine ⟨_, h1, g1 _ _ _ _ rfl (k _ _ _ M .refl m (.bl _) ?_)⟩
      have e : decide (V.str a = V.str b) = decide (a = b) := by
        rw [Bool.eq_iff_iff]; simp
      rw [e]
      exact q
    | _ => exact gen _ _ w1 w2 q
  | _ => exact gen _ _ w1 w2 q
theorem o_eq (hu : X.A.units + 64 < cLine) : OpR X (compareOp .Eq) (lift2 X.K bs (oEq false)) := o_eqG op_eq (op_eqD hu) (fun _ _ _ _ hs q => ⟨hs, q⟩) fun _ _ _ _ _ _ a b c d q => ⟨_, _, a, b, c, d, q⟩
theorem o_ne (hu : X.A.units + 64 < cLine) : OpR X (compareOp .NotEq) (lift2 X.K bs (oEq true)) := o_eqG op_ne (op_neD hu) (fun _ _ _ _ hs q => ⟨hs, q⟩) fun _ _ _ _ _ _ a b c d q => ⟨_, _, a, b, c, d, q⟩
/-- the items of a tuple, a list -/
def lstOf : Option MO → Option (List D)
  | some (.lst ds) => some ds
  | _ => none
def items (M : Mp) : D → Option (List D)
  | .tup ds => some ds
  | .rol ds => some ds
  | .ref a => lstOf (M a)
  | _ => none
def asL (o : Option (List D)) (k : List D → Prop) : Prop := match o with
  | some ds => k ds
  | none => False
theorem asL_some {ds : List D} {k : List D → Prop} : asL (some ds) k = k ds := rfl
theorem lstOf_some {o : Option MO} {ds : List D} (h : lstOf o = some ds) : o = some (.lst ds) := by
  unfold lstOf at h
  split at h
  · cases h; rfl
  · cases h
theorem items_of {K : PySem.W.Frag} {H : Hp} {M : Mp} {v : V} {d : D} {ds : List D} (m : RM0 K H M) (r : RD K H v d) (h : items M d = some ds) : ∃ p vs, v = .ref p ∧ (SqL K H p vs ∨ SqT K H p vs) ∧ RDs K H vs ds := by
  cases d with
  | tup es =>
    cases r with
    | tup h1 h2 => cases h; exact ⟨_, _, rfl, .inr h1, h2⟩
  | rol es =>
    cases r with
    | rol h1 h2 => cases h; exact ⟨_, _, rfl, .inl h1.sq, h2⟩
  | ref a =>
    cases r
    obtain ⟨vs, hv, l⟩ := m a _ (lstOf_some h)
    exact ⟨_, _, rfl, .inl (SqL.of hv), l⟩
  | _ => cases h
theorem atI_rel {K : PySem.W.Frag} {H : Hp} {vs : List V} {ds : List D} {i : Int} {d : D} (l : RDs K H vs ds) (h : atI ds i = some d) : ∃ v, atI vs i = some v ∧ RD K H v d := by
  unfold atI at h ⊢
  rw [l.length]
  cases e : ixN ds.length i with
  | none => rw [e] at h; cases h
  | some j =>
    rw [e] at h
    exact l.get (i := j) h
def oIxS (z : Str) (i : Int) (M : Mp) (Q : VK3) : Prop := match atI z.cps.toList i with
  | some c => z.length ≤ sizeLine ∧ Q (.str ⟨#[c]⟩) M
  | none => False
def oIx : R23 := fun d e M Q => asI e fun i => match d with
  | .str z => oIxS z i M Q
  | d => asL (items M d) fun ds => asS (atI ds i) fun v => Q v M
theorem i_ix : IxR X (lift2 X.K bs oIx) := by
  rintro value slice pins s σ H x y v u Q I rx ry ⟨d, e, M, Q3, r1, r2, m, q, k⟩ hs
  have it : ∀ i, (asL (items M d) fun ds => asS (atI ds i) fun v => Q3 v M) → y = .int i → wpAny (model X.prog X.w) X.A (subscriptTail value slice v u) (EP X pins σ Q) X.xe s := by
    intro i q hy
    unfold asL at q
    split at q
    · rename_i ds hd
      unfold asS at q
      split at q
      · rename_i z hz
        obtain ⟨p, vs, rfl, hq, l⟩ := items_of m.m r1 hd
        obtain ⟨w, hw, rw'⟩ := atI_rel l hz
        refine ix_seq value slice pins s σ H _ y v u Q I rx ry ?_ hs
        rcases hq with hq | hq
        · exact .inl ⟨p, vs, i, w, rfl, hy, hq, hw, k _ _ _ M .refl m rw' q⟩
        · exact .inr (.inl ⟨p, vs, i, w, rfl, hy, hq, hw, k _ _ _ M .refl m rw' q⟩)
      · exact False.elim q
    · exact False.elim q
  cases e with
  | int i =>
    cases r2
    cases d with
    | str z =>
      cases r1
      have q : oIxS z i M Q3 := q
      unfold oIxS at q
      split at q
      · rename_i c hc
        exact ix_seq value slice pins s σ H _ _ v u Q I rx ry (.inr (.inr ⟨z, i, c, rfl, rfl, q.1, hc, k _ _ _ M .refl m (.str _) q.2⟩)) hs
      · exact False.elim q
    | _ => exact it i q rfl
  | _ => exact False.elim q
theorem e_ix {a b : Expr} {ta tb : TE3} {pos : Pos} (ha : PE3 bs X a ta) (hb : PE3 bs X b tb) (hs : PlainIx b := by exact fun _ _ => rfl) : PE3 bs X (.Subscript a b pos) (wOp oIx ta tb) := PE.weak (pe_ix i_ix ha hb hs) lift_op
def wNoPart : St3 → Mp → (Option Int → Mp → Prop) → Prop := fun _ M Q => Q none M
def wPart (t : TE3) : St3 → Mp → (Option Int → Mp → Prop) → Prop := fun τ M Q => t τ M fun d M1 => asI d fun i => Q (some i) M1
def cutD (xs : List D) (lo hi : Option Int) : List D := (xs.drop (HT.sIx xs.length 0 lo)).take (HT.sIx xs.length xs.length hi - HT.sIx xs.length 0 lo)
def oSl : D → Option Int → Option Int → Mp → VK3 → Prop := fun d lo hi M Q => match d with
  | .tup ds => Q (.tup (cutD ds lo hi)) M
  | .rol ds => ∀ p, M p = none → Q (.ref p) (mset M p (.lst (cutD ds lo hi)))
  | .ref a => match M a with
    | some (.lst ds) => ∀ p, M p = none → Q (.ref p) (mset M p (.lst (cutD ds lo hi)))
    | _ => False
  | _ => False
def wSl (te : TE3) (tl th : St3 → Mp → (Option Int → Mp → Prop) → Prop) : TE3 := fun τ M Q => te τ M fun d M1 => tl τ M1 fun lo M2 => th τ M2 fun hi M3 => oSl d lo hi M3 Q
def oPut : TSet3 := fun o i v M Q => match o, i with
  | .ref a, .int k => match M a with
    | some (.lst ds) => match ixN ds.length k with
      | some j => Q (mset M a (.lst (ds.set j v)))
      | none => False
    | _ => False
  | _, _ => False
theorem p_put : PSet X (liftSet X.K bs oPut) := by
  rintro pins s σ H o i v ov iv u Q I r1 r2 r3 ⟨od, id, dv, M, Q3, ro, ri, rv, m, q, k⟩
  cases od with
  | ref a =>
    cases id with
    | int z =>
      cases ro; cases ri
      simp only [oPut] at q
      split at q
      · rename_i ds ha
        split at q
        · rename_i j hj
          obtain ⟨vs, hv, l⟩ := m.at ha
          refine set_list pins s σ H _ _ v ov iv u Q I r1 r2 r3 ⟨a, vs, z, j, rfl, rfl, hv, by rw [l.length]; exact hj, ?_⟩
          obtain ⟨x2, m2⟩ := m.putL ha (RDs.set rv j l)
          exact k _ _ x2 m2 q
        · exact False.elim q
      · exact False.elim q
    | _ => exact False.elim q
  | _ => cases id <;> exact False.elim q
abbrev M23 := D → List D → Mp → VK3 → Prop
def liftM (K : PySem.W.Frag) (bs : BS) (r : M23) : V → List V → Hp → VK → Prop := fun x xs H Q => ∃ d ds M Q3, RD K H x d ∧ RDs K H xs ds ∧ RM K bs H M ∧ r d ds M Q3 ∧ ∀ v H' z M', Ext M M' H H' → RM K bs H' M' → RD K H' v z → Q3 z M' → Q v H'
def wBM (r : M23) (to : TE3) (t : TA3) : TE3 := fun τ M Q => to τ M fun d M1 => (match d with | .ref a => ∃ ds, M1 a = some (.lst ds) | _ => False) ∧ t τ M1 fun ds M2 => r d ds M2 Q
theorem e_bm {o e : Expr} {es : List Expr} {to : TE3} {t : TA3} {name : Str} {apos cpos : Pos} {id : String} {r : M23} (pa : PlainAttrs "list") (slot : Slot "list" name id) (hty : typeOf (.builtin id) = pure (.type "method_descriptor")) (hm : MtR X id (liftM X.K bs r))
    (ho : PE3 bs X o to) (ha : PA3 bs X (e :: es) t)
    (hbase : attributeBase o name X.env (eval o X.env) = eval o X.env := by rfl)
    (hfew : ((backTo cpos (starEach (e :: es) X.env)).all (fun x => !x.1) && (backToKw cpos (keywordEach [] X.env)).all (fun x => x.1.isSome)
      && decide ((e :: es).length + ([] : List Keyword).length + (if ([] : List Keyword).isEmpty then 0 else 1) < 30)) = true := by rfl)
    (hline : (apos.endLine == cpos.line) = true := by rfl) (hs : starEach (e :: es) X.env = (false, eval e X.env) :: starEach es X.env := by rfl) (hplain : (backTo cpos (starEach es X.env)).any (·.1) = false := by rfl) :
    PE3 bs X (.Call (.Attribute o name apos) (e :: es) [] cpos) (wBM r to t) := by
  refine PE.weak (pe_bm pa slot hty hm ho ha hbase hfew hline hs hplain) ?_
  rintro σ H Q ⟨τ, M, Q3, e, m, q, k⟩
  refine ⟨τ, M, _, e, m, q, fun v H1 d M1 x1 m1 r1 q1 => ?_⟩
  cases d with
  | ref a =>
    cases r1
    obtain ⟨⟨ds, ha⟩, q1⟩ := q1
    obtain ⟨vs, hv, l⟩ := m1.at ha
    refine ⟨.inl ⟨rfl, vs, SqL.of hv⟩, τ, M1, _, e.go (x1.still m), m1, q1, fun ws H2 es M2 x2 m2 r2 q2 => ?_⟩
    exact ⟨.ref a, es, M2, Q3, .ref a, r2, m2, q2, fun v H' z M' x3 m3 r3 q3 => k v H' z M' (x1.trans (x2.trans x3)) m3 r3 q3⟩
  | _ => exact False.elim q1.1
def oApp : M23 := fun d ds M Q => match d, ds with
  | .ref a, [y] => match M a with
    | some (.lst xs) => xs.length < sizeLine ∧ Q .non (mset M a (.lst (xs ++ [y])))
    | _ => False
  | _, _ => False
end
end L3
set_option Elab.async false
set_option linter.all false
set_option maxRecDepth 100000
set_option maxHeartbeats 4000000
namespace L3
open PySem PySem.Spec PyProof.Rows L2
section
variable {bs : BS} {X : Cx} {tg : Expr}
def iSeq (K : PySem.W.Frag) (tl : TE) : TI := fun σ H R => tl σ H fun x H1 => ∃ a, x = .ref a ∧ ((∃ xs, SqL K H1 a xs ∧ R (Itl K a) H1) ∨ ∃ xs, SqT K H1 a xs ∧ R (Itt K a) H1)
theorem pi_seq {l : Expr} {tl : TE} (hl : PE X l tl) : PI X tg l (iSeq X.K tl) := by
  constructor
  intro pins s σ H R I h
  refine thn (hl.run pins s σ H _ I h) ?_
  rintro v s1 ⟨x, H1, I1, r1, a, rfl, q1⟩
  cases r1
  have nw : ∀ b, b ∈ [s1.heap.objs.size] → FpOk X pins H1 b := by
    intro b hb
    rw [List.mem_singleton] at hb
    rw [hb]
    exact I1.fpOk (Nat.le_refl _) I1.fresh
  rcases q1 with ⟨xs, hq, q⟩ | ⟨xs, hq, q⟩
  · obtain ⟨its, rv, p, hz⟩ := I1.list hq
    exact wpAny_pyIter_list p.isList ⟨_, [s1.heap.objs.size], _, _, H1, rfl, I1.kept (t' := s1.toks) (fun b o e => Heap.get?_push_of_some _ e), turn_list a _, ⟨_, Heap.get?_push_size _ rfl, rfl, rfl⟩, nw, q⟩
  · obtain ⟨its, rv, p, hz⟩ := I1.tuple hq
    have p' : s1.heap.IsTuple a its.toArray := p
    exact wpAny_pyIter_tuple p' ⟨_, [s1.heap.objs.size], _, _, H1, rfl, I1.kept (t' := s1.toks) (fun b o e => Heap.get?_push_of_some _ e), turn_tuple a _, ⟨_, Heap.get?_push_size _ rfl, rfl, rfl⟩, nw, q⟩
/-- what must stand still while a sequence is walked -/
def keepG (M : Mp) (d : D) (ds : List D) : Mp → Prop := match d with
  | .ref a => fun M' => M' a = some (.lst ds)
  | _ => fun _ => True
theorem it_tup {K : PySem.W.Frag} {a : Addr} {vs : List V} {ds : List D} {H0 : Hp} : ItOk K (Itt K a) (fun H => SqT K H a vs ∧ RDs K H vs ds) (fun _ => True) ds where
  mono := fun M M' H H' m x p => ⟨(x.still0 m).1 _ _ p.1, p.2.go (x.still0 m)⟩
  stop := fun H M m p _ => ⟨vs, p.1, by rw [p.2.length]; exact Nat.le_refl _⟩
  go := fun i d H M m p _ hd => by
    obtain ⟨v, hv, r⟩ := p.2.get hd
    refine ⟨⟨vs, v, p.1, hv⟩, ?_⟩
    rintro x H' ⟨rfl, y⟩
    have e := y vs p.1
    rw [hv] at e
    cases e
    exact ⟨.refl, m, r⟩
theorem it_rol {K : PySem.W.Frag} {a : Addr} {vs : List V} {ds : List D} : ItOk K (Itl K a) (fun H => RoL K H a vs ∧ RDs K H vs ds) (fun _ => True) ds where
  mono := fun M M' H H' m x p => ⟨(x.still0 m).2 _ _ p.1, p.2.go (x.still0 m)⟩
  stop := fun H M m p _ => ⟨vs, p.1.sq, by rw [p.2.length]; exact Nat.le_refl _⟩
  go := fun i d H M m p _ hd => by
    obtain ⟨v, hv, r⟩ := p.2.get hd
    refine ⟨⟨vs, v, p.1.sq, hv⟩, ?_⟩
    rintro x H' ⟨rfl, y⟩
    have e := y vs p.1.sq
    rw [hv] at e
    cases e
    exact ⟨.refl, m, r⟩
theorem it_lst {K : PySem.W.Frag} {a : Addr} {ds : List D} : ItOk K (Itl K a) (fun _ => True) (fun M => M a = some (.lst ds)) ds where
  mono := fun _ _ _ _ _ _ _ => True.intro
  stop := fun H M m _ g => by
    obtain ⟨vs, hv, l⟩ := m a _ g
    exact ⟨vs, SqL.of hv, by rw [l.length]; exact Nat.le_refl _⟩
  go := fun i d H M m _ g hd => by
    obtain ⟨vs, hv, l⟩ := m a _ g
    obtain ⟨v, hv', r⟩ := l.get hd
    refine ⟨⟨vs, v, SqL.of hv, hv'⟩, ?_⟩
    rintro x H' ⟨rfl, y⟩
    have e := y vs (SqL.of hv)
    rw [hv'] at e
    cases e
    exact ⟨.refl, m, r⟩
def wItems (tl : TE3) : TI3 := fun τ M R => tl τ M fun d M1 => asL (items M1 d) fun ds => R ds (keepG M1 d ds) M1
theorem w_seq {l : Expr} {tl : TE3} (hl : PE3 bs X l tl) : PI3 bs X tg l (wItems tl) := by
  refine PI.weak (pi_seq hl) ?_
  rintro σ H R ⟨τ, M, R3, e, m, q, k⟩
  refine ⟨τ, M, _, e, m, q, fun v H1 d M1 x1 m1 r1 q1 => ?_⟩
  unfold asL at q1
  split at q1
  · rename_i ds hd
    cases d with
    | tup es =>
      cases hd
      cases r1 with
      | tup h1 h2 => exact ⟨_, rfl, .inr ⟨_, h1, k _ _ _ _ H1 M1 x1 m1 (it_tup (H0 := H1)) ⟨h1, h2⟩ q1⟩⟩
    | rol es =>
      cases hd
      cases r1 with
      | rol h1 h2 => exact ⟨_, rfl, .inl ⟨_, h1.sq, k _ _ _ _ H1 M1 x1 m1 it_rol ⟨h1, h2⟩ q1⟩⟩
    | ref a =>
      cases r1
      obtain ⟨vs, hv, l⟩ := m1.at (lstOf_some hd)
      exact ⟨_, rfl, .inl ⟨vs, SqL.of hv, k _ _ _ _ H1 M1 x1 m1 it_lst True.intro q1⟩⟩
    | _ => cases hd
  · exact False.elim q1
/-- range -/
def rgD (lo : Int) (n : Nat) : List D := (List.range n).map fun i => D.int (lo + (i : Nat))
theorem rgD_get {lo : Int} {n i : Nat} {d : D} (h : (rgD lo n)[i]? = some d) : i < n ∧ d = .int (lo + (i : Nat)) := by
  unfold rgD at h
  rw [List.getElem?_map] at h
  by_cases hi : i < n
  · rw [List.getElem?_range hi] at h
    exact ⟨hi, (Option.some.inj h).symm⟩
  · rw [List.getElem?_eq_none (by rw [List.length_range]; omega)] at h
    cases h
theorem it_rg {K : PySem.W.Frag} {lo : Int} {n : Nat} : ItOk K (Itr lo n) (fun _ => True) (fun _ => True) (rgD lo n) where
  mono := fun _ _ _ _ _ _ _ => True.intro
  stop := fun H M m _ g => by show n ≤ (rgD lo n).length; unfold rgD; rw [List.length_map, List.length_range]; exact Nat.le_refl _
  go := fun i d H M m _ g hd => by
    obtain ⟨hi, rfl⟩ := rgD_get hd
    refine ⟨hi, ?_⟩
    rintro x H' ⟨rfl, rfl⟩
    exact ⟨.refl, m, .int _⟩
def wRng1 (t : TA3) : TI3 := fun τ M R => t τ M fun ds M1 => match ds with
  | [.int j] => -(2 ^ 62) ≤ j ∧ j < 2 ^ 62 ∧ R (rgD 0 j.toNat) (fun _ => True) M1
  | _ => False
def wRng2 (t : TA3) : TI3 := fun τ M R => t τ M fun ds M1 => match ds with
  | [.int i, .int j] => (-(2 ^ 62) ≤ i ∧ i < 2 ^ 62 ∧ -(2 ^ 62) ≤ j ∧ j < 2 ^ 62) ∧ R (rgD i (j - i).toNat) (fun _ => True) M1
  | _ => False
theorem w_rng1 {a : Expr} {ta : TA3} {p pos : Pos} (hm : X.mg "range" = none) (ha : PA3 bs X [a] ta) (hg : Gl X "range" := by rfl) (hs : starEach [a] X.env = [(false, eval a X.env)] := by rfl) : PI3 bs X tg (.Call (.Name "range" p) [a] [] pos) (wRng1 ta) := by
  refine PI.weak (pi_range1 hg hm ha hs) ?_
  rintro σ H R ⟨τ, M, R3, e, m, q, k⟩
  refine ⟨τ, M, _, e, m, q, fun vs H1 ds M1 x1 m1 r1 q1 => ?_⟩
  split at q1
  · rename_i j
    cases r1 with
    | cons r rn =>
      cases rn
      cases r
      exact ⟨j, rfl, q1.1, q1.2.1, k _ _ _ _ H1 M1 x1 m1 it_rg True.intro q1.2.2⟩
  · exact False.elim q1
end
section
variable {bs : BS} {X : Cx} {e : Expr} {es : List Expr} {t : TA3} {x : Str} {p pos : Pos}
theorem e_callB {id : String} {r : List D → Mp → VK3 → Prop} (hc : CallR X (.builtin id) (liftV X.K bs r)) (hm : X.mg x = none) (hv : bootBuiltins x = some (.builtin id)) (ha : PA3 bs X (e :: es) t) (hg : Gl X x := by rfl) (hn : x ≠ "__name__" := by decide) (hdb : (x == ("__debug__" : Str)) = false := by decide)
    (he : starEach (e :: es) X.env = (false, eval e X.env) :: starEach es X.env := by rfl) (hpl : (backTo pos (starEach es X.env)).any (·.1) = false := by rfl) : PE3 bs X (.Call (.Name x p) (e :: es) [] pos) (wCB r t) :=
  PE.weak (pe_callB hc hg hm hv ha hn hdb he hpl) lift_cb
theorem e_callTy {T : String} {r : List D → Mp → VK3 → Prop} (hc : CallR X (.type T) (liftV X.K bs r)) (hm : X.mg x = none) (hv : bootBuiltins x = some (.type T)) (ha : PA3 bs X (e :: es) t) (hg : Gl X x := by rfl) (hn : x ≠ "__name__" := by decide) (hdb : (x == ("__debug__" : Str)) = false := by decide)
    (he : starEach (e :: es) X.env = (false, eval e X.env) :: starEach es X.env := by rfl) (hpl : (backTo pos (starEach es X.env)).any (·.1) = false := by rfl) : PE3 bs X (.Call (.Name x p) (e :: es) [] pos) (wCB r t) :=
  PE.weak (pe_callTy hc hg hm hv ha hn hdb he hpl) lift_cb
/-- one argument -/
def b1 (r : D → Mp → VK3 → Prop) : List D → Mp → VK3 → Prop := fun ds M Q => match ds with
  | [d] => r d M Q
  | _ => False
theorem call1 {f : Value} {r : D → Mp → VK3 → Prop} (h : ∀ (d : D) (x : V) (H : Hp) (M : Mp) (Q : VK) (Q3 : VK3), RD X.K H x d → RM X.K bs H M → r d M Q3 →
    (∀ v H' z M', Ext M M' H H' → RM X.K bs H' M' → RD X.K H' v z → Q3 z M' → Q v H') → ∃ r2 : List V → Hp → VK → Prop, CallR X f r2 ∧ r2 [x] H Q) : CallR X f (liftV X.K bs (b1 r)) := call3 fun ds xs H M Q Q3 r1 m q k => by
  match ds, r1, q with
  | [], _, q => exact False.elim q
  | [d], .cons r1 .nil, q => exact h d _ H M Q Q3 r1 m q k
  | _ :: _ :: _, _, q => exact False.elim q
def bLen : List D → Mp → VK3 → Prop := b1 fun d M Q => match d with
  | .str z => z.length ≤ sizeLine ∧ Q (.int z.length) M
  | d => asL (items M d) fun ds => Q (.int ds.length) M
theorem c_len : CallR X (.builtin "len") (liftV X.K bs bLen) := call1 fun d x H M Q Q3 r m q k => by
  have it : (asL (items M d) fun ds => Q3 (.int ds.length) M) → ∃ r2 : List V → Hp → VK → Prop, CallR X (.builtin "len") r2 ∧ r2 [x] H Q := fun q => by
    unfold asL at q
    split at q
    · rename_i ds hd
      obtain ⟨p, vs, rfl, hs, l⟩ := items_of m.m r hd
      exact ⟨_, call_len_seq, p, vs, rfl, hs, by rw [l.length]; exact k _ _ _ M .refl m (.int _) q⟩
    · exact False.elim q
  cases d with
  | str z => cases r; exact ⟨_, call_len_str, z, rfl, q.1, k _ _ _ M .refl m (.int _) q.2⟩
  | _ => exact it q
def bTuple : List D → Mp → VK3 → Prop := b1 fun d M Q => asL (items M d) fun ds => Q (.tup ds) M
theorem c_tuple : CallR X (.type "tuple") (liftV X.K bs bTuple) := call1 fun d x H M Q Q3 r m q k => by
  unfold asL at q
  split at q
  · rename_i ds hd
    obtain ⟨p, vs, rfl, hs, l⟩ := items_of m.m r hd
    refine ⟨_, call_tuple_of, p, vs, rfl, ?_⟩
    rcases hs with hs | hs
    · refine .inl ⟨hs, fun c hc => ?_⟩
      obtain ⟨x2, m2⟩ := m.upNew (o := .tup vs) hc
      exact k _ _ _ M x2 m2 (.tup (SqT.of upd_same) (l.go (x2.still m))) q
    · exact .inr ⟨hs, k _ _ _ M .refl m (.tup hs l) q⟩
  · exact False.elim q
def bList : List D → Mp → VK3 → Prop := b1 fun d M Q => asL (items M d) fun ds => ∀ p, M p = none → Q (.ref p) (mset M p (.lst ds))
theorem c_list : CallR X (.type "list") (liftV X.K bs bList) := call1 fun d x H M Q Q3 r m q k => by
  unfold asL at q
  split at q
  · rename_i ds hd
    obtain ⟨p, vs, rfl, hs, l⟩ := items_of m.m r hd
    refine ⟨_, call_list_of, p, vs, rfl, hs, fun c hc => ?_⟩
    obtain ⟨x2, m2⟩ := m.newL hc l
    exact k _ _ _ _ x2 m2 (.ref c) (q c (m.free hc))
  · exact False.elim q
def bAbs : List D → Mp → VK3 → Prop := b1 fun d M Q => asI d fun i => Q (.int (if i < 0 then -i else i)) M
theorem c_abs : CallR X (.builtin "abs") (liftV X.K bs bAbs) := call1 fun d x H M Q Q3 r m q k => by
  cases d with
  | int i => cases r; exact ⟨_, call_abs, i, rfl, k _ _ _ M .refl m (.int _) q⟩
  | _ => exact False.elim q
def bInt : List D → Mp → VK3 → Prop := b1 fun d M Q => match d with
  | .int i => Q (.int i) M
  | .bl b => Q (.int (if b then 1 else 0)) M
  | _ => False
theorem c_int : CallR X (.type "int") (liftV X.K bs bInt) := call1 fun d x H M Q Q3 r m q k => by
  cases d with
  | int i => cases r; exact ⟨_, call_int1, .inl ⟨i, rfl, k _ _ _ M .refl m (.int _) q⟩⟩
  | bl i => cases r; exact ⟨_, call_int1, .inr ⟨i, rfl, k _ _ _ M .refl m (.int _) q⟩⟩
  | _ => exact False.elim q
def b2I (g : Int → Int → Int) : List D → Mp → VK3 → Prop := fun ds M Q => match ds with
  | [.int i, .int j] => Q (.int (g i j)) M
  | _ => False
def bMax : List D → Mp → VK3 → Prop := b2I fun i j => if j > i then j else i
def bMin : List D → Mp → VK3 → Prop := b2I fun i j => if j < i then j else i
theorem c_2I {f : Value} {g : Int → Int → Int} (h : CallR X f (fun xs H Q => ∃ i j, xs = [V.int i, V.int j] ∧ Q (.int (g i j)) H)) : CallR X f (liftV X.K bs (b2I g)) := call3 fun ds xs H M Q Q3 r1 m q k => by
  unfold b2I at q
  split at q
  · rename_i i j
    cases r1 with
    | cons r rn =>
      cases rn with
      | cons r' rn =>
        cases rn
        cases r
        cases r'
        exact ⟨_, h, i, j, rfl, k _ _ _ M .refl m (.int _) q⟩
  · exact False.elim q
theorem c_min (hc : X.calm = true) : CallR X (.builtin "min") (liftV X.K bs bMin) := c_2I (call_min2 hc)
/-- a list of truths -/
def bls : List D → Option (List Bool)
  | [] => some []
  | .bl b :: r => (bls r).map (b :: ·)
  | _ :: _ => none
theorem bls_of {K : PySem.W.Frag} {H : Hp} : ∀ {ds : List D} {vs : List V} {l : List Bool}, bls ds = some l → RDs K H vs ds → vs = l.map V.bl
  | [], _, _, h, r => by cases r; cases h; rfl
  | d :: ds, _, l, h, r => by
    cases r with
    | cons r1 r2 =>
      cases d with
      | bl b =>
        cases r1
        simp only [bls] at h
        obtain ⟨l', h', rfl⟩ := Option.map_eq_some_iff.mp h
        rw [bls_of h' r2]; rfl
      | _ => cases h
mutual
def showOk : D → Bool
  | .int i => decide (i.natAbs.log2 < 1920)
  | .tup xs => showOks xs
  | .rol xs => showOks xs
  | _ => true
def showOks : List D → Bool
  | [] => true
  | d :: ds => showOk d && showOks ds
end
def shown (d : D) : Str := (pdOf d).shown
/-- data whose text fits -/
structure Sh (d : D) : Prop where
  pl : Pl d
  ok : showOk d = true
  sz : (shown d).length ≤ sizeLine
def bRepr : List D → Mp → VK3 → Prop := b1 fun d M Q => Sh (top M d) ∧ Q (.str (shown (top M d))) M
end
/-- what is wished of an exception: its class by name, its fields -/
abbrev XK3 := Str → List (Str × D) → Mp → Prop
abbrev Sp3 := List D → Mp → VK3 → XK3 → Prop
/-- an exception's own dict -/
def RXd (K : PySem.W.Frag) (H : Hp) : Option Addr → List (Str × D) → Prop
  | some a, fs => ∃ gs, H a = some (.xd gs) ∧ RKv K H gs fs
  | none, fs => fs = []
/-- its class c is the one called n, its own dict is a's -/
def RX (K : PySem.W.Frag) (H : Hp) (n : Str) (c : Value) (a : Option Addr) (fs : List (Str × D)) : Prop := Cl K n c ∧ RXd K H a fs
def liftSp (K : PySem.W.Frag) (sp : Sp3) : Sp := fun vs H Q E => ∃ ds M Q3 E3, RDs K H vs ds ∧ RM0 K H M ∧ sp ds M Q3 E3 ∧
  (∀ v H' d M', Ext M M' H H' → RM0 K H' M' → RD K H' v d → Q3 d M' → Q v H') ∧
  ∀ n c a H' fs M', Ext M M' H H' → RM0 K H' M' → RX K H' n c a fs → E3 n fs M' → E c a H'
structure FnG (P : Program) (w : World) (K : PySem.W.Frag) (mg : Str → Option Value) (base : Heap) (CX : CXT) (k : Nat) (f : Addr) (fd : FuncData) (ps : List Str) (sp : Sp) : Prop where
  len : ∀ vs H Q E, sp vs H Q E → vs.length = ps.length
  run : ∀ (A : Around) (outer : List Env) (s : Shared) (H : Hp) (args : Args) (us : List Value) (vs : List V) (Q : VK) (E : XK), A.guards = some [] → Room k A → Env0 P w K mg base A outer s H → BindsTo s fd args (ps.zip us) →
    Vals vs us → sp vs H Q E → codeAny (model P w) A (.call (.ref f) args) (CR CX outer P w H s Q E) s
theorem FnG.mono {P : Program} {w : World} {K : PySem.W.Frag} {mg : Str → Option Value} {base : Heap} {CX : CXT} {j k : Nat} {f : Addr} {fd : FuncData} {ps : List Str} {sp : Sp} (F : FnG P w K mg base CX j f fd ps sp) (h : j ≤ k) :
    FnG P w K mg base CX k f fd ps sp := ⟨F.len, fun A outer s H args us vs Q E hg hr => F.run A outer s H args us vs Q E hg (hr.mono h)⟩
/-- a def by its body -/
theorem fn_g {CX : CXT} {P : Program} {w : World} {K : PySem.W.Frag} {mg : Str → Option Value} {base : Heap} {k : Nat} {f : Addr} {x qual : Str} {st : Stmt} {fd : FuncData} {N ps : List Str} {sp : Sp} (F : Fun K x qual st f fd) (S : FnScope N ps (defScope st))
    (len : ∀ vs H Q E, sp vs H Q E → vs.length = ps.length)
    (body : ∀ (cdv : Value) (A : Around) (outer : List Env) (s : Shared) (H : Hp) (vs : List V) (Q : VK) (E : XK), A.guards = some [] → Room k (A.deeper (envOfC qual (defScope st) s.heap.objs.size f cdv)) → sp vs H Q E →
      ∃ t, PSs (cxOf CX P w K mg base N qual (defScope st) f cdv A outer s H E) (defBody st) t ∧ t { nx := fun _ H' => Q .non H', rt := Q } (L2.start N vs) H) :
    FnG P w K mg base CX (k + 1) f fd ps sp := by
  obtain ⟨oc, od, kV, doc, pm, an, cdv, ct, osl, rfl, lk, hcd⟩ := F.ex
  constructor
  · exact len
  intro A outer s H args us vs Q E hG hr e0 hb r hsp
  have sizes := len vs H Q E hsp
  have inK : K.In s.heap := e0.mod.kin.keeps (fun b o z => (e0.bs b o z).1)
  have noLim : s.heap.NoLimit := e0.mod.nolimit.keeps (fun b o z => (e0.bs b o z).1)
  have kinds : ∀ y ∈ ps.zip us, (defScope st).names.lookup y.1 = some .local ∨ ((defScope st).names.lookup y.1 = some .cell ∧ ((cellsFrom (s.heap.objs.size + 1) (defScope st).names []).lookup y.1).isSome = true) := by
    rintro ⟨n, v⟩ hy
    rcases S.par n (List.of_mem_zip hy).1 with z | z
    · exact .inl z
    · exact .inr ⟨z, PySem.W.cellsFrom_some _ _ _ (.inl z)⟩
  refine codeAny_call_function hr.depth (inK _ _ lk) rfl S.co S.gen rfl (PySem.W.codeRec_of inK hcd) (hb _ _ _ _ ?_)
  refine wpAny_newFunctionEnv_cells S.kind kinds ?_
  rintro env rfl s1 x
  refine ⟨noLim.keeps x.toInCall.keep, codeAny_func ?_⟩
  obtain ⟨t, ht, hq⟩ := body cdv A outer s H vs Q E hG (hr.deeper _) hsp
  have I := inv_start (CX := CX) (E := E) S hr.hd e0 sizes r x
  refine wpAny_mono (ht.run [] s1 (L2.start N vs) H _ I hq) ?_ (fun _ _ z => z)
  have done : ∀ (σ' : L2.St) (H' : Hp) (v : V) (u : Value) (s' : Shared), Inv (cxOf CX P w K mg base N qual (defScope st) f cdv A outer s H E) [] σ' H' s' → RelV v u → Q v H' → CE outer P w H s Q u s' :=
    fun σ' H' v u s' J rv q => ⟨v, H', J.os, J.bare, J.base, J.hok, rv, q⟩
  intro fl s' hs
  cases fl with
  | next =>
    obtain ⟨σ', H', J, q⟩ := hs
    exact done σ' H' .non .none s' J rfl q
  | ret u =>
    obtain ⟨v, σ', H', J, rv, q⟩ := hs
    exact done σ' H' v u s' J rv q
  | brk => obtain ⟨_, _, _, q⟩ := hs; cases q
  | cont => obtain ⟨_, _, _, q⟩ := hs; cases q
/-- what a def's body is read to -/
def start3 (n : Nat) (ds : List D) : St3 := ds.map some ++ List.replicate (n - ds.length) none
def spOf (np n : Nat) (t : XK3 → TS3) : Sp3 := fun ds M Q E => ds.length = np ∧ t E { nx := fun _ M' => Q .non M', rt := Q } (start3 n ds) M
theorem getS_app_l : ∀ (ds : List D) (r : St3) (i : Nat), i < ds.length → getS (ds.map some ++ r) i = ds[i]?
  | [], _, _, h => by simp at h
  | d :: ds, r, 0, _ => rfl
  | d :: ds, r, i + 1, h => by
    show getS (ds.map some ++ r) i = _
    rw [getS_app_l ds r i (by simpa using h)]
    simp
theorem getS_none (n i : Nat) : getS (List.replicate n none) i = none := by
  induction n generalizing i with
  | zero => rfl
  | succ n ih =>
    cases i with
    | zero => rfl
    | succ i => exact ih i
theorem getS_app_r : ∀ (ds : List D) (n i : Nat), ds.length ≤ i → getS (ds.map some ++ List.replicate n none) i = none
  | [], n, i, _ => getS_none n i
  | d :: ds, n, 0, h => by simp at h
  | d :: ds, n, i + 1, h => getS_app_r ds n i (by simpa using h)
theorem re_start {K : PySem.W.Frag} {H : Hp} {N : List Str} {vs : List V} {ds : List D} (r : RDs K H vs ds) : RE K H (L2.start N vs) (start3 N.length ds) := by
  have hl := r.length
  constructor
  · unfold L2.start start3
    simp [hl]
  · intro i d h
    unfold start3 at h
    by_cases hi : i < ds.length
    · rw [getS_app_l ds _ i hi] at h
      obtain ⟨v, hv, rv⟩ := r.get h
      refine ⟨v, ?_, rv⟩
      unfold L2.start
      rw [List.getElem?_append_left (by rw [List.length_map]; omega), List.getElem?_map, hv]
      rfl
    · rw [getS_app_r ds _ i (by omega)] at h
      cases h
/-- the def called x, with n parameters, keeps sp at so deep a level -/
def Def3 (P : Program) (w : World) (K : PySem.W.Frag) (mg : Str → Option Value) (base : Heap) (CX : CXT) (k : Nat) (x : Str) (sp : Sp3) : Prop :=
  ∃ f fd ps, mg x = some (.ref f) ∧ PySem.W.keepIn K (.ref f) = true ∧ Binds K fd ps [] ∧ FnG P w K mg base CX k f fd ps (liftSp K sp)
theorem Def3.mono {P : Program} {w : World} {K : PySem.W.Frag} {mg : Str → Option Value} {base : Heap} {CX : CXT} {j k : Nat} {x : Str} {sp : Sp3} (F : Def3 P w K mg base CX j x sp) (h : j ≤ k) : Def3 P w K mg base CX k x sp := by
  obtain ⟨f, fd, ps, a, b, c, d⟩ := F
  exact ⟨f, fd, ps, a, b, c, d.mono h⟩
/-- from its body's reading: E3 is the wish of the exceptions, bs the standing condition -/
theorem fng_of {CX : CXT} {P : Program} {w : World} {K : PySem.W.Frag} {mg : Str → Option Value} {base : Heap} {k : Nat} {f : Addr} {x qual : Str} {st : Stmt} {fd : FuncData} {N ps : List Str} {t : XK3 → TS3} (F : Fun K x qual st f fd) (S : FnScope N ps (defScope st))
    (body : ∀ (cdv : Value) (A : Around) (outer : List Env) (s : Shared) (H : Hp) (E : XK) (bs : BS) (E3 : XK3), A.guards = some [] → Room k (A.deeper (envOfC qual (defScope st) s.heap.objs.size f cdv)) →
      (∀ n c a H' fs M', RM0 K H' M' → bs.ok M' H' → RX K H' n c a fs → E3 n fs M' → E c a H') →
      PSs3 bs (cxOf CX P w K mg base N qual (defScope st) f cdv A outer s H E) (defBody st) (t E3)) :
    FnG P w K mg base CX (k + 1) f fd ps (liftSp K (spOf ps.length N.length t)) := by
  refine fn_g F S (fun vs H Q E h => ?_) fun cdv A outer s H vs Q E hG hr h => ?_
  · obtain ⟨ds, M, Q3, E3, r, m, ⟨l, q⟩, _⟩ := h
    rw [r.length]; exact l
  · obtain ⟨ds, M, Q3, E3, r, m, ⟨l, q⟩, kq, ke⟩ := h
    refine ⟨_, body cdv A outer s H E (bsOf M H) E3 hG hr (fun n c a H' fs M' m' x r' e => ke n c a H' fs M' x m' r' e), ?_⟩
    refine ⟨start3 N.length ds, M, _, re_start r, ⟨m, .refl⟩, q, fun σ' τ' H' M' x e m' q' => ?_, fun v d H' M' x m' r' q' => ?_, fun _ _ _ _ _ _ _ z => z.elim, fun _ _ _ _ _ _ _ z => z.elim⟩
    · exact kq .non H' .non M' x m'.m .non q'
    · exact kq v H' d M' x m'.m r' q'
theorem def_of {CX : CXT} {P : Program} {w : World} {K : PySem.W.Frag} {mg : Str → Option Value} {base : Heap} {k : Nat} {f : Addr} {x qual : Str} {st : Stmt} {fd : FuncData} {N ps : List Str} {t : XK3 → TS3} (hm : mg x = some (.ref f)) (F : Fun K x qual st f fd) (b : Binds K fd ps [])
    (S : FnScope N ps (defScope st))
    (body : ∀ (cdv : Value) (A : Around) (outer : List Env) (s : Shared) (H : Hp) (E : XK) (bs : BS) (E3 : XK3), A.guards = some [] → Room k (A.deeper (envOfC qual (defScope st) s.heap.objs.size f cdv)) →
      (∀ n c a H' fs M', RM0 K H' M' → bs.ok M' H' → RX K H' n c a fs → E3 n fs M' → E c a H') →
      PSs3 bs (cxOf CX P w K mg base N qual (defScope st) f cdv A outer s H E) (defBody st) (t E3)) :
    Def3 P w K mg base CX (k + 1) x (spOf ps.length N.length t) := ⟨f, fd, ps, hm, F.kp, b, fng_of F S body⟩
section
variable {bs : BS} {X : Cx} {CX : CXT} {k : Nat} {x : Str} {sp : Sp3} {E3 : XK3} {e : Expr} {es : List Expr} {t : TA3} {p pos : Pos}
def wCall (sp : Sp3) (E : XK3) (t : TA3) : TE3 := fun τ M Q => t τ M fun ds M1 => sp ds M1 Q E
/-- a def that leans on nothing in M, and whose answer does not either -/
def wCallP (sp : Sp3) (E : XK3) (t : TA3) : TE3 := fun τ M Q => t τ M fun ds M1 => sp ds M0 (fun d _ => Q d M1) (fun c fs _ => E c fs M1)
theorem run_g {f : Addr} {fd : FuncData} {ps : List Str} {spv : Sp} {E : XK} {pins : List (Addr × Obj)} {σ : L2.St} {H : Hp} {s : Shared} {Q : VK} {us : List Value} {vs : List V} (F : FnG X.prog X.w X.K X.mg X.base CX k f fd ps spv) (hG : X.A.guards = some []) (hr : Room k X.A)
    (hb : Binds X.K fd ps []) (hx : Passes CX X E) (I : Inv X pins σ H s) (r : Vals vs us) (h : spv vs H Q E) : wpAny (model X.prog X.w) X.A (call (.ref f) us) (EP X pins σ Q) X.xe s := by
  have hl : (us ++ []).length = ps.length := by rw [List.append_nil, ← r.length]; exact F.len _ _ _ _ h
  have bd := hb s us I.kIn hl
  rw [List.append_nil] at bd
  refine wpAny_call (codeAny_mono (F.run X.A X.stack s H ⟨us, []⟩ us vs Q E hG hr I.env0 bd r h) ?_)
  intro res s' hq
  cases res with
  | error z => exact hx pins σ H s z s' I hq
  | ok fl =>
    cases fl with
    | ret u => exact I.after hq
    | next => cases hq
    | brk => cases hq
    | cont => cases hq
theorem pe_g {f : Addr} {fd : FuncData} {ps : List Str} {spv : Sp} {E : XK} {ta : TA} (F : FnG X.prog X.w X.K X.mg X.base CX k f fd ps spv) (hG : X.A.guards = some []) (hr : Room k X.A) (hm : X.mg x = some (.ref f)) (hk : PySem.W.keepIn X.K (.ref f) = true) (hb : Binds X.K fd ps []) (hx : Passes CX X E)
    (ha : PA X (e :: es) ta) (hg : Gl X x) (hdb : (x == ("__debug__" : Str)) = false) (he : starEach (e :: es) X.env = (false, eval e X.env) :: starEach es X.env) (hpl : (backTo pos (starEach es X.env)).any (·.1) = false) :
    PE X (.Call (.Name x p) (e :: es) [] pos) (tCall spv [] E ta) := by
  constructor
  intro pins s σ H Q I h
  refine wpAny_Call_Name_kw (ld_glob I hg hm ?_ hdb)
  refine PySem.W.callWith_K (h₀ := X.base) I.ok.mod.kin hk (thn (ha.run pos pins s σ H _ I h) ?_) he hpl
  rintro us s1 ⟨vs, H1, I1, r, q⟩
  have q' : spv (vs ++ []) H1 Q E := q
  rw [List.append_nil] at q'
  exact ⟨I1.kIn, run_g F hG hr hb hx I1 r q'⟩
/-- how an exception of a callee passes on: what is wanted of it here -/
def PassX (bs : BS) (CX : CXT) (X : Cx) (E3 : XK3) : Prop := ∃ E : XK, Passes CX X E ∧ ∀ n c a H' fs M', RM0 X.K H' M' → bs.ok M' H' → RX X.K H' n c a fs → E3 n fs M' → E c a H'
theorem e_call (F : Def3 X.prog X.w X.K X.mg X.base CX k x sp) (hG : X.A.guards = some []) (hr : Room k X.A) (hx : PassX bs CX X E3) (ha : PA3 bs X (e :: es) t) (hg : Gl X x := by rfl) (hdb : (x == ("__debug__" : Str)) = false := by decide)
    (he : starEach (e :: es) X.env = (false, eval e X.env) :: starEach es X.env := by rfl) (hpl : (backTo pos (starEach es X.env)).any (·.1) = false := by rfl) : PE3 bs X (.Call (.Name x p) (e :: es) [] pos) (wCall sp E3 t) := by
  obtain ⟨f, fd, ps, hm, hk, hb, F⟩ := F
  obtain ⟨E, hp, he3⟩ := hx
  refine PE.weak (pe_g F hG hr hm hk hb hp ha hg hdb he hpl) ?_
  rintro σ H Q ⟨τ, M, Q3, e, m, q, kk⟩
  refine ⟨τ, M, _, e, m, q, fun vs H1 ds M1 x1 m1 r1 q1 => ?_⟩
  show liftSp X.K sp (vs ++ []) H1 Q E
  rw [List.append_nil]
  refine ⟨ds, M1, Q3, E3, r1, m1.m, q1, fun v H' d M' x2 m2 r2 q2 => kk v H' d M' (x1.trans x2) (m1.to x2 m2) r2 q2, fun n c a H' fs M' x2 m2 r2 q2 => he3 n c a H' fs M' m2 (bs.go m1.b x2) r2 q2⟩
/-- from nothing: all that stood is kept -/
theorem ext_all {M M' : Mp} {H H' : Hp} (x : Ext M0 M' H H') : Ext M M H H' := ⟨fun a o h _ => x.fr a o h rfl, fun _ h => .inl h⟩
theorem rm_all {K : PySem.W.Frag} {M M' : Mp} {H H' : Hp} (m : RM0 K H M) (x : Ext M0 M' H H') : RM0 K H' M := (m.keep fun a o h => x.fr a o h rfl).2
theorem e_callP (F : Def3 X.prog X.w X.K X.mg X.base CX k x sp) (hG : X.A.guards = some []) (hr : Room k X.A) (hx : PassX bs CX X E3) (ha : PA3 bs X (e :: es) t) (hg : Gl X x := by rfl) (hdb : (x == ("__debug__" : Str)) = false := by decide)
    (he : starEach (e :: es) X.env = (false, eval e X.env) :: starEach es X.env := by rfl) (hpl : (backTo pos (starEach es X.env)).any (·.1) = false := by rfl) : PE3 bs X (.Call (.Name x p) (e :: es) [] pos) (wCallP sp E3 t) := by
  obtain ⟨f, fd, ps, hm, hk, hb, F⟩ := F
  obtain ⟨E, hp, he3⟩ := hx
  refine PE.weak (pe_g F hG hr hm hk hb hp ha hg hdb he hpl) ?_
  rintro σ H Q ⟨τ, M, Q3, e, m, q, kk⟩
  refine ⟨τ, M, _, e, m, q, fun vs H1 ds M1 x1 m1 r1 q1 => ?_⟩
  show liftSp X.K sp (vs ++ []) H1 Q E
  rw [List.append_nil]
  refine ⟨ds, M0, _, _, r1, (fun a o h => nomatch h), q1, fun v H' d M' x2 m2 r2 q2 => ?_, fun n c a H' fs M' x2 m2 r2 q2 => ?_⟩
  · exact kk v H' d M1 (x1.trans (ext_all x2)) (m1.to (ext_all x2) (rm_all m1.m x2)) r2 q2
  · exact he3 n c a H' fs M1 (rm_all m1.m x2) (bs.go m1.b (ext_all x2)) r2 q2
end
end L3
set_option Elab.async false
set_option linter.all false
set_option maxRecDepth 100000
set_option maxHeartbeats 4000000
namespace L3
open PySem PySem.Spec PyProof.Rows L2
theorem law_at {P : Program} {w : World} {K : PySem.W.Frag} {mg mb : Str → Option Value} {CX : CXT} {k : Nat} {fa a : Addr} {fd : FuncData} {x : Str} {sp : Sp} {t : Shared} {vs : List Value} {ns : List Int}
    (inK : K.In t.heap) (nsM : t.heap.Ns mainGlobals mg) (nsB : t.heap.Ns builtinsNs mb) (boots : ∀ y : Str, y ≠ "__name__" → mb y = bootBuiltins y) (noLim : t.heap.NoLimit) (noGen : t.gens = #[])
    (obj : t.heap.get? a = some { cls := .type "list", data := .seq vs.toArray }) (hnt : IntsAre vs ns) (len : ns.length ≤ sizeLine) (room : Room k callerA)
    (F : ∀ base : Heap, K.In base → base.Ns mainGlobals mg → FnG P w K mg base CX k fa fd [x] sp) (bind : ∀ (s : Shared) (u : Value), BindsTo s fd ⟨[u], []⟩ [(x, u)])
    (said : ∀ H : Hp, RoL K H a (ns.map V.int) → sp [.ref a] H (fun v _ => v = .bl true) (fun _ _ _ => False)) (quiet : ∀ H e s', CX [] H t (fun _ _ _ => False) e s' → False) :
    codeAny (model P w) callerA (.call (.ref fa) ⟨[.ref a], []⟩) (fun r s' => r = .ok (.ret (.bool true)) ∧ OldK t.heap s'.heap ∧ s'.os = t.os ∧ AllBare s'.gens) t := by
  have vals := vals_ints hnt
  have lens := hnt.length
  -- H: nothing, or the script as a thing that nobody writes
  suffices main : ∀ H : Hp, RoL K H a (ns.map V.int) → HOk P w H t.heap → (∀ b u, H b = some u → b = a ∧ ∃ o xs, u = .frz o (.lst xs)) → (H a ≠ none → K.lookup a = none) →
      codeAny (model P w) callerA (.call (.ref fa) ⟨[.ref a], []⟩) (fun r s' => r = .ok (.ret (.bool true)) ∧ OldK t.heap s'.heap ∧ s'.os = t.os ∧ AllBare s'.gens) t by
    cases q : K.lookup a with
    | some o =>
      have z := inK a o q
      rw [obj] at z
      cases z
      exact main (fun _ => none) (.inr ⟨vs.toArray, _, q, by rw [List.size_toArray, lens]; exact len, by simpa using vals⟩) (fun _ _ z => nomatch z) (fun _ _ z => nomatch z) fun z => absurd rfl z
    | none =>
      refine main (upd (fun _ => none) a (.frz { cls := .type "list", data := .seq vs.toArray } (.lst (ns.map V.int)))) (.inl ⟨_, upd_same⟩) (fun b u z => ?_) (fun b u z => ?_) fun _ => q
      · by_cases e : b = a
        · subst e
          rw [upd_same] at z
          cases z
          exact ⟨obj, by rw [List.length_map]; exact len, vs, _, vals, obj⟩
        · rw [upd_ne e] at z; cases z
      · by_cases e : b = a
        · subst e
          rw [upd_same] at z
          cases z
          exact ⟨rfl, _, _, rfl⟩
        · rw [upd_ne e] at z; cases z
  intro H ro hok one out
  have dataH : ∀ {b : Addr} {o : Obj} {es : Array DictEntry} {n : Nat}, t.heap.get? b = some o → o.data = .dict es n → H b = none := by
    intro b o es n z d
    cases q : H b with
    | none => rfl
    | some u =>
      obtain ⟨rfl, _⟩ := one b u q
      rw [obj] at z
      cases z
      cases d
  have nsH : ∀ {b : Addr} {m : Str → Option Value}, t.heap.Ns b m → (hidT t.heap H).Ns b m := by
    rintro b m ⟨o, es, n, z, d, r⟩
    exact ⟨o, es, n, hidT_get z (dataH z d), d, r⟩
  have inH : K.In (hidT t.heap H) := by
    intro b o z
    refine hidT_get (inK b o z) ?_
    cases q : H b with
    | none => rfl
    | some u =>
      obtain ⟨rfl, _⟩ := one b u q
      rw [out (by rw [q]; exact fun z => nomatch z)] at z
      cases z
  have limH : (hidT t.heap H).NoLimit := by
    obtain ⟨mc, l1, l2⟩ := noLim
    exact ⟨mc, nsH l1, l2⟩
  have env : Env0 P w K mg (hidT t.heap H) callerA [] t H :=
    ⟨rfl, ⟨inH, nsH nsM, ⟨mb, nsH nsB, boots⟩, limH⟩, fun _ _ z => of_hidT z, Nat.le_of_eq (hidT_size _ _), True.intro, fun b z => (List.not_mem_nil (show b ∈ ([] : List Addr) from z)).elim, hok, .of_eq noGen⟩
  refine codeAny_mono ((F _ inH (nsH nsM)).run callerA [] t H ⟨[.ref a], []⟩ [.ref a] [.ref a] _ _ rfl room env (bind t (.ref a)) (.cons rfl .nil) (said H ro)) ?_
  intro r s' z
  cases r with
  | error e => exact (quiet H e s' z).elim
  | ok fl =>
    cases fl with
    | ret u =>
      obtain ⟨v, H', os, bare, un, hok', rv, e⟩ := z
      have e' : v = .bl true := e
      subst e'
      cases rv
      refine ⟨rfl, OldK.of_keep fun b o z => ?_, os, bare⟩
      cases q : H b with
      | none => exact un.keep b o z q (by simp [frs]) (by simp)
      | some u =>
        obtain ⟨rfl, ob, xs, rfl⟩ := one b u q
        obtain ⟨z1, _⟩ := hok b _ q
        obtain ⟨z2, _⟩ := hok' b _ (un.frzs b ob _ q)
        rw [z] at z1
        cases z1
        exact z2
    | next => cases z
    | brk => cases z
    | cont => cases z
theorem rm_nil {K : PySem.W.Frag} {H : Hp} : RM0 K H M0 := by
  intro a o h
  cases h
/-- the goal that k_head leaves, from the law's def -/
theorem law_end {l : PySem.W.OpenLaw} {k : Nat} {q : Program} {loose : List Str} {XP : (Str → Option Value) → Heap → Prop} {YP : World → Heap → Prop} {d : DefRec} {K : Params → PySem.W.Frag} {CX : Program → World → CXT} {sp : Sp3} {x : Str}
    (hn : l.most = some 63) (hdf : d.params.defaults = []) (room : Room k callerA) (hY : ∀ (w : World) (h : Heap), YP w h → (K w.params).In h)
    (F : ∀ (w : World) (mg : Str → Option Value) (fa : Addr) (h : Heap), (K w.params).In h → h.Ns mainGlobals mg → mg d.name = some (.ref fa) →
      ∃ fd : FuncData, (∀ (s : Shared) (u : Value), BindsTo s fd ⟨[u], []⟩ [(x, u)]) ∧
        ∀ base : Heap, (K w.params).In base → base.Ns mainGlobals mg → FnG l.prog w (K w.params) mg base (CX l.prog w) k fa fd [x] (liftSp (K w.params) sp))
    (said : ∀ ns : List Int, ns.length ≤ 63 → sp [.rol (ns.map D.int)] M0 (fun v _ => v = .bl true) (fun _ _ _ => False))
    (quiet : ∀ (P : Program) (w : World) (H : Hp) (s : Shared) (e : Value) (s' : Shared), CX P w [] H s (fun _ _ _ => False) e s' → False) :
    PySem.W.WalkO q loose XP YP l.row.toRowW d [] (fun f vs => PySem.call f vs) := by
  refine Att.attach_call hn hdf ?_
  intro w s0 t mg mb fa o pm cd doc a vs ns G Y ho hd hcd hmg hobj hints hlen hg
  have inK := hY w _ Y
  obtain ⟨fd, hb, hF⟩ := F w mg fa _ inK G.T.g hmg
  refine law_at inK G.T.g G.T.b G.T.builtins G.T.nolimit hg hobj hints (Nat.le_trans hlen (by decide)) room hF hb (fun H ro => ?_) fun H e s' => quiet l.prog w H t e s'
  refine ⟨[.rol (ns.map D.int)], M0, _, _, .cons (.rol ro (RDs.ofInts ns)) .nil, rm_nil, said ns hlen, fun v H' d' M' _ _ rd e => ?_, fun _ _ _ _ _ _ _ _ _ z => z⟩
  subst e
  cases rd
  rfl
end L3
set_option Elab.async false
set_option linter.all false
set_option maxRecDepth 100000
set_option maxHeartbeats 4000000
namespace L3
open PySem PySem.Spec PyProof.Rows L2
/-- no exception -/
def X0 : XK3 := fun _ _ _ => False
theorem passX1 {bs : BS} {X : Cx} : PassX bs (L2.CX X.prog X.w) X X0 := ⟨E0, passL, fun _ _ _ _ _ _ _ _ _ z => z.elim⟩
theorem passXE {bs : BS} {P : Program} {w : World} {K : PySem.W.Frag} {mg : Str → Option Value} {base : Heap} {N : List Str} {qual : Str} {scope : Scope} {f : Addr} {cd : Value} {A : Around} {outer : List Env} {s : Shared} {H : Hp} {E : XK} {E3 : XK3}
    (h : ∀ n c a H' fs M', RM0 K H' M' → bs.ok M' H' → RX K H' n c a fs → E3 n fs M' → E c a H') : PassX bs (L2.CX P w) (cxOf (L2.CX P w) P w K mg base N qual scope f cd A outer s H E) E3 :=
  ⟨E, passes_call (W := fun c a _ H => E c a H) (takes_of rfl rfl rfl rfl) (fun _ _ _ _ z => z), h⟩
theorem quietX : ∀ (P : Program) (w : World) (H : Hp) (s : Shared) (e : Value) (s' : Shared), L2.CX P w [] H s (fun _ _ _ => False) e s' → False := by
  intro P w H s e s' h
  obtain ⟨_, _, _, _, _, _, _, _, _, _, _, _, z⟩ := h
  exact z.elim
theorem hu_more {k : Nat} {A : Around} (r : Room k A) : A.units + 64 + 100 < cLine := by have := r.un; omega
def wgTupN (n : Nat) (t : TGs3) : TG3 := fun d τ M Q => match d with
  | .tup ds => ds.length = n ∧ t ds τ M Q
  | _ => False
section
variable {bs : BS} {X : Cx} {e b : Expr} {es : List Expr} {te tb : TE3} {pos : Pos}
theorem g_tupN {es : List Expr} {k n : Nat} {ix : List Nat} {t : TGs3} (hc : X.calm = true) (h : PGs3 bs X es ix t)
    (hn : (assignEach es X.env).length = n := by rfl) (hst : (assignEach es X.env).findIdx? (·.1) = none := by rfl) : PG3 bs X (.Tuple es k pos) ix (wgTupN n t) := g_tup hc h hn hst
/-- [e] * k: the list of one is forgotten -/
def wRep (te tb : TE3) : TE3 := fun τ M Q => te τ M fun d M1 => tb τ M1 fun i M2 => match i with
  | .int k => -(2 ^ 63) ≤ k ∧ k < 2 ^ 63 ∧ k.toNat ≤ sizeLine ∧ ∀ p, M2 p = none → Q (.ref p) (mset M2 p (.lst (List.replicate k.toNat d)))
  | _ => False
theorem flat_one (k : Nat) (d : D) : (List.replicate k [d]).flatten = List.replicate k d := by
  induction k with
  | zero => rfl
  | succ k ih => rw [List.replicate_succ, List.flatten_cons, ih, List.replicate_succ]; rfl
theorem e_rep {p1 : Pos} (he : PE3 bs X e te) (hb : PE3 bs X b tb) (hs : starEach [e] X.env = (false, eval e X.env) :: starEach [] X.env := by rfl) : PE3 bs X (.BinOp (.List [e] p1) .Mult b pos) (wRep te tb) := by
  refine PE.weak (pe_op op_rep (pe_lst (pa_cons he pa_nil hs)) hb) ?_
  rintro σ H Q ⟨τ, M, Q3, e, m, q, k⟩
  refine ⟨τ, M, _, e, m, q, fun v H1 d M1 x1 m1 r1 q1 => ⟨(by show 1 ≤ sizeLine; decide), fun p hp => ?_⟩⟩
  obtain ⟨x2, m2⟩ := m1.upNew (o := .lst [v]) hp
  have f2 : Fresh X.K (upd H1 p (.lst [v])) M1 p [d] := Fresh.laid m1.m hp (.cons r1 .nil)
  refine ⟨τ, M1, _, (e.go (x1.still m)).go (x2.still m1), m2, q1, fun y H2 dy M2 x3 m3 r3 q3 => ?_⟩
  have f3 := f2.go m2.m x3
  obtain ⟨vs, hv, rv⟩ := f3.lst
  cases dy with
  | int z =>
    cases r3
    obtain ⟨b1, b2, b3, q3⟩ := q3
    refine ⟨p, z, vs, rfl, rfl, hv, b1, b2, by rw [rv.length]; simpa using b3, fun p2 hp2 => ?_⟩
    obtain ⟨x4, m4⟩ := m3.newL hp2 (rv.rep z.toNat)
    rw [flat_one] at x4 m4
    exact k _ _ _ _ (x1.trans (x2.trans (x3.trans x4))) m4 (.ref p2) (q3 p2 (m3.free hp2))
  | _ => exact False.elim q3
end
end L3
set_option Elab.async false
set_option linter.all false
set_option maxRecDepth 100000
set_option maxHeartbeats 4000000
namespace L3
open PySem PySem.Spec PyProof.Rows L2
section
variable {bs : BS} {X : Cx} {a b : Expr} {ta tb : TE3} {pos p p2 pos2 : Pos}
theorem rds_rg {K : PySem.W.Frag} {H : Hp} (i j : Int) : RDs K H (rgV i j) (rgD i (j - i).toNat) := by
  unfold rgV rgD
  generalize List.range (j - i).toNat = l
  induction l with
  | nil => exact .nil
  | cons x r ih => exact .cons (.int _) ih
def wTupRg1 (ta : TE3) : TE3 := fun τ M Q => ta τ M fun d M1 => asI d fun n => (-(2 ^ 62) ≤ n ∧ n ≤ 16777216) ∧ Q (.tup (rgD 0 n.toNat)) M1
theorem rg1_ok {n : Int} (h : -(2 ^ 62) ≤ n ∧ n ≤ 16777216) : RgOk 0 n := ⟨by omega, by omega, by omega, by omega, by omega⟩
theorem rg2_ok {i j : Int} (h : -(2 ^ 60) ≤ i ∧ i < 2 ^ 60 ∧ -(2 ^ 60) ≤ j ∧ j < 2 ^ 60 ∧ j - i ≤ 16777216) : RgOk i j := ⟨by omega, by omega, by omega, by omega, by omega⟩
theorem e_tupRg1 (hc : X.calm = true) (zl : X.mg "tuple" = none) (zr : X.mg "range" = none) (ha : PE3 bs X a ta) (gl : Gl X "tuple" := by rfl) (gr : Gl X "range" := by rfl)
    (na : starEach [a] X.env = (false, eval a X.env) :: starEach [] X.env := by rfl) (nb : starEach [.Call (.Name "range" p2) [a] [] pos2] X.env = (false, eval (.Call (.Name "range" p2) [a] [] pos2) X.env) :: starEach [] X.env := by rfl) :
    PE3 bs X (.Call (.Name "tuple" p) [.Call (.Name "range" p2) [a] [] pos2] [] pos) (wTupRg1 ta) := by
  refine PE.weak (pe_tupRg hc gl zl (prg_1 gr zr ha na) nb) ?_
  rintro σ H Q ⟨τ, M, Q3, e, m, q, k⟩
  refine ⟨τ, M, _, e, m, q, fun v H1 d M1 x1 m1 r1 q1 => ?_⟩
  cases d with
  | int n =>
    cases r1
    refine ⟨n, rfl, rg1_ok q1.1, fun p hp => ?_⟩
    have l := rds_rg (K := X.K) (H := H1) 0 n
    rw [Int.sub_zero] at l
    obtain ⟨x2, m2⟩ := m1.upNew (o := .tup (rgV 0 n)) hp
    exact k _ _ (.tup _) M1 (x1.trans x2) m2 (.tup (SqT.of upd_same) (l.go (x2.still m1))) q1.2
  | _ => exact False.elim q1
end
end L3
set_option Elab.async false
set_option linter.all false
set_option maxRecDepth 100000
set_option maxHeartbeats 4000000
namespace L3
open PySem PySem.Spec PyProof.Rows L2
/-- the cell that goes over the tuple at a -/
abbrev cellT (a : Addr) : Obj := { cls := .type "tuple_iterator", data := .fields #[.ref a, .int 0 0] }
/-- the cell that counts with it -/
abbrev cellE (c : Addr) : Obj := { cls := .type "enumerate", data := .fields #[.none, .bool false, .ref c, rawInt 0, .none, .none] }
theorem newE_tup (a : Addr) (its : Array Value) : Meets (Builtin.«enumerate.__new__» ⟨[.type "enumerate", .ref a], []⟩)
    (fun _ R s => s.heap.IsTuple a its ∧ R (.ok (.ret (.ref (s.heap.push (cellT a)).objs.size))) { s with heap := (s.heap.push (cellT a)).push (cellE s.heap.objs.size) }) :=
  .of_wp fun prog w A R s h => by
    obtain ⟨hp, g, d, tk, os⟩ := s
    obtain ⟨ht, h⟩ := h
    have sub := sub_enumerate
    have go : ∀ {A' : Around} {E : Value → Shared → Prop} {Q : Value → Shared → Prop},
        Q (.ref hp.objs.size) ⟨hp.push (cellT a), g, d, tk, os⟩ → wpAny (model prog w) A' (pyIter (.ref a)) Q E ⟨hp, g, d, tk, os⟩ := fun q => wpAny_pyIter_tuple ht q
    wp_walk using go
    refine wpAny_stack_any fun _ => wpAny_pure ?_
    split
    · rename_i cl _ _ _ _ _
      cases (cl == Value.type "enumerate")
      all_goals
        wp_walk using go
        exact ⟨_, rfl, h⟩
    · wp_walk using go
      exact ⟨_, rfl, h⟩
section
variable {prog : Program} {w : World} {A : Around} {E : Value → Shared → Prop} {s : Shared}
theorem callE_tup {a : Addr} {its : Array Value} {Q : Value → Shared → Prop} (ht : s.heap.IsTuple a its)
    (h : ∀ h', IsEnum h' (s.heap.objs.size + 1) s.heap.objs.size 0 .none → h'.IsTupleIter s.heap.objs.size a 0 → (∀ b o, s.heap.get? b = some o → h'.get? b = some o) → Q (.ref (s.heap.objs.size + 1)) { s with heap := h' }) :
    wpAny (model prog w) A (call (.type "enumerate") [.ref a]) Q E s := by
  refine callType_new F.called_enumerate (by decide) (F.typeCall_enumerate_1 _) (F.newCall_enumerate_1 _) (fun _ => F.args_object_init_2 _ _) F.entry_enumerate_new (newE_tup a its) ⟨ht, ?_⟩
  have hz : (s.heap.push (cellT a)).objs.size = s.heap.objs.size + 1 := Heap.size_push ..
  show _ ∧ _
  rw [hz]
  have he : IsEnum ((s.heap.push (cellT a)).push (cellE s.heap.objs.size)) (s.heap.objs.size + 1) s.heap.objs.size 0 .none := by
    have z := Heap.get?_push_size (s.heap.push (cellT a)) (o := cellE s.heap.objs.size) rfl
    rwa [hz] at z
  have hi : ((s.heap.push (cellT a)).push (cellE s.heap.objs.size)).IsTupleIter s.heap.objs.size a 0 := ⟨_, Heap.get?_push_of_some _ (Heap.get?_push_size _ rfl), rfl, rfl⟩
  exact ⟨⟨_, he, rfl⟩, h _ he hi fun b o x => Heap.get?_push_of_some _ (Heap.get?_push_of_some _ x)⟩
end
/-- the tuple at a, each item in a new pair with its number -/
def IteT (K : PySem.W.Frag) (a : Addr) : It :=
  ⟨fun i H => ∃ (xs : List V) (x : V), SqT K H a xs ∧ xs[i]? = some x, fun i H v H' => ∃ T x, v = .ref T ∧ H T = none ∧ H' = upd H T (.tup [.int (i : Nat), x]) ∧ ∀ xs, SqT K H a xs → xs[i]? = some x, fun i H => ∃ xs : List V, SqT K H a xs ∧ xs.length = i⟩
theorem turn_enumT {P : Program} {w : World} {K : PySem.W.Frag} {elts : List Expr} {kk : Nat} {tpos : Pos} (a e it : Addr) (hat : a ≠ it) (hae : e ≠ a) :
    Turn P w K (.Tuple elts kk tpos) (IteT K a) [e, it] e (fun i h => (∃ old, IsEnum h e it ((i : Nat) : Int) old) ∧ h.IsTupleIter it a i ∧ e ≠ it) where
  mem := by simp
  obj := fun i h st b hb => by
    obtain ⟨⟨old, he⟩, ⟨o, ho, _, hd⟩, _⟩ := st
    rcases (by simpa using hb : b = e ∨ b = it) with z | z
    · subst z; exact ⟨_, he, fun v q => nomatch q⟩
    · subst z; exact ⟨o, ho, fun v q => by rw [hd] at q; cases q⟩
  keep := fun i h h' st k => ⟨⟨st.1.choose, k e (by simp) _ st.1.choose_spec⟩, st.2.1.at fun o q => k it (by simp) o q, st.2.2⟩
  item := by
    intro X hP hw hK hc i pins s σ H E I hf st hg
    subst hP hw hK
    obtain ⟨⟨old, he⟩, hit, hne⟩ := st
    obtain ⟨xs, x, hq, hx⟩ := hg
    obtain ⟨its, rv, p, hz⟩ := I.tuple hq
    obtain ⟨u, hu, ru⟩ := rv.get hx
    have hel : e < s.heap.objs.size := Heap.lt_size he
    have hil : it < s.heap.objs.size := by obtain ⟨_, q, _⟩ := hit; exact Heap.lt_size q
    have p' : s.heap.IsTuple a its.toArray := p
    have hsz : i < its.toArray.size := by
      have := (List.getElem?_eq_some_iff.mp hu).1
      simpa using this
    have hef : e ∉ [it, a] := by simp [hne, hae]
    have hd1 : X.A.in1.handled = none := I.ok.hd hc
    refine wpAny_pyNext_enum_itemD (Draws.tuple hd1 it a hat its.toArray) he ⟨hit, p'⟩ hsz hne hef fun y h' tk hy ho hst hT hsz2 hk => ?_
    have hyu : y = u := by
      have e1 : its.toArray[i]? = some u := by simpa using hu
      rw [e1] at hy; exact (Option.some.inj hy).symm
    subst hyu
    refine ⟨_, rfl, wpAny_letOwnedTupleGo_enum (s := { s with heap := h', toks := tk + 1 }) ho fun h2 he2 sb => ?_⟩
    have hT2 : h2.get? s.heap.objs.size = some { cls := .type "tuple", data := .seq #[.int i tk, y] } := (sb.2 _ (Nat.ne_of_gt hel)).trans hT
    have new : ObjOk X.prog X.w (upd H s.heap.objs.size (.tup [.int (i : Nat), x])) h2 s.heap.objs.size (.tup [.int (i : Nat), x]) := ⟨by show 2 ≤ sizeLine; decide, [.int i tk, y], .cons ⟨_, rfl⟩ (.cons ru .nil), ⟨_, hT2, rfl, _, rfl⟩⟩
    have I1 : Inv X pins σ (upd H s.heap.objs.size (.tup [.int (i : Nat), x])) { s with heap := h2, toks := tk + 1 } :=
      I.turnedNew (t' := tk + 1) (ch := [e, it]) (fun b ob hb q => by
        have n1 : b ≠ e := fun z => hb (by simp [z])
        have n2 : b ≠ it := fun z => hb (by simp [z])
        exact (sb.2 b n1).trans (hk b ob n1 n2 q)) hf (Nat.le_refl _) new
    refine ⟨.ref s.heap.objs.size, _, I1, rfl, ⟨_, x, rfl, I.hok.fresh (Nat.le_refl _), rfl, fun ys hy => by rw [I.tuple_inj hy hq]; exact hx⟩, ⟨⟨y, ?_⟩, hst.1.at fun o q => (sb.2 it (Ne.symm hne)).trans q, hne⟩, fun b hb => ?_⟩
    · have e1 : ((i + 1 : Nat) : Int) = (i : Int) + 1 := by omega
      rw [e1]; exact he2
    · have hb' : b < s.heap.objs.size := by
        rcases (by simpa using hb : b = e ∨ b = it) with z | z <;> subst z <;> assumption
      rw [upd_ne (Nat.ne_of_lt hb')]
      exact (hf b hb).1
  done := by
    intro X hP hw hK hc i pins s σ H E I hf st hg
    subst hP hw hK
    obtain ⟨⟨old, he⟩, hit, hne⟩ := st
    obtain ⟨xs, hq, hx⟩ := hg
    obtain ⟨its, rv, p, hz⟩ := I.tuple hq
    obtain ⟨f0, f1, f2, f3, f4, f5⟩ := hf it (by simp)
    have hd1 : X.A.in1.handled = none := I.ok.hd hc
    have p' : s.heap.IsTuple a its.toArray := p
    have hn : its.toArray.size = i := by rw [List.size_toArray, ← rv.length, hx]
    have hit' : s.heap.IsTupleIter it a its.toArray.size := by rw [hn]; exact hit
    exact wpAny_pyNext_enum_endD (Draws.tuple hd1 it a hat its.toArray) he ⟨hit', p'⟩ fun h' eb => ⟨rfl, I.turned (t' := s.toks) (fun b o hb q => eb b o hb q) f0 f1 f3 f4 f5⟩
  self := fun A i s Q E st h => wpAny_pyIter_enum st.1.choose_spec h
def iEnumA (K : PySem.W.Frag) (ta : TA) : TI := fun σ H R => ta σ H fun vs H1 => ∃ a xs, vs = [.ref a] ∧ ((SqL K H1 a xs ∧ R (Ite K a) H1) ∨ (SqT K H1 a xs ∧ R (IteT K a) H1))
theorem pi_enumA {X : Cx} {e : Expr} {ta : TA} {p pos tpos : Pos} {elts : List Expr} {kk : Nat} (hg : Gl X "enumerate") (hm : X.mg "enumerate" = none) (ha : PA X [e] ta) (hs : starEach [e] X.env = [(false, eval e X.env)] := by rfl) :
    PI X (.Tuple elts kk tpos) (.Call (.Name "enumerate" p) [e] [] pos) (iEnumA X.K ta) := by
  refine ⟨fun pins s σ H R I h => ?_⟩
  refine Call_ (ld_blt I hg hm boot_enumerate (PyProof.Rows.callWith_type1 (thn (ha.run pos pins s σ H _ I h) fun us s1 ⟨vs, H1, I1, r1, a, xs, ex, q⟩ => ?_) hs rfl))
  subst ex
  cases r1 with
  | cons r rr =>
    cases rr
    cases r
    have fresh : ∀ b, b ∈ [s1.heap.objs.size + 1, s1.heap.objs.size] → FpOk X pins H1 b := fun b hb => by
      have hle : s1.heap.objs.size ≤ b := by
        rcases (by simpa using hb : b = s1.heap.objs.size + 1 ∨ b = s1.heap.objs.size) with z | z <;> omega
      exact I1.fpOk hle (I1.hok.fresh hle)
    rcases q with ⟨hq, q⟩ | ⟨hq, q⟩
    · obtain ⟨its, rv, p', hz⟩ := I1.list hq
      refine call_enumerate_list p'.isList fun h' he hit hsz hk => wpAny_pyIter_enum he ?_
      exact ⟨s1.heap.objs.size + 1, [s1.heap.objs.size + 1, s1.heap.objs.size], _, _, H1, rfl, I1.kept (t' := s1.toks) hk, turn_enum a _ _, ⟨⟨.none, he⟩, hit, Nat.succ_ne_self _⟩, fresh, q⟩
    · obtain ⟨its, rv, p', hz⟩ := I1.tuple hq
      have p2 : s1.heap.IsTuple a its.toArray := p'
      have hal : a < s1.heap.objs.size := by obtain ⟨_, y, _⟩ := p2; exact Heap.lt_size y
      refine callE_tup p2 fun h' he hit hk => wpAny_pyIter_enum he ?_
      exact ⟨s1.heap.objs.size + 1, [s1.heap.objs.size + 1, s1.heap.objs.size], _, _, H1, rfl, I1.kept (t' := s1.toks) hk, turn_enumT a (s1.heap.objs.size + 1) s1.heap.objs.size (Nat.ne_of_lt hal) (Nat.ne_of_gt (Nat.lt_succ_of_lt hal)), ⟨⟨.none, he⟩, hit, Nat.succ_ne_self _⟩, fresh, q⟩
section
variable {bs : BS} {X : Cx}
def enD (ds : List D) : List D := (List.range ds.length).map fun i => .tup [.int (i : Nat), ds.getD i .non]
theorem enD_get {ds : List D} {i : Nat} {d : D} (h : (enD ds)[i]? = some d) : ∃ x, ds[i]? = some x ∧ d = .tup [.int (i : Nat), x] := by
  unfold enD at h
  rw [List.getElem?_map] at h
  obtain ⟨j, hj, rfl⟩ := Option.map_eq_some_iff.mp h
  obtain ⟨hlt, hij⟩ := List.getElem?_eq_some_iff.mp hj
  rw [List.getElem_range] at hij
  subst hij
  rw [List.length_range] at hlt
  refine ⟨ds[i], List.getElem?_eq_getElem hlt, ?_⟩
  rw [List.getD_eq_getElem?_getD, List.getElem?_eq_getElem hlt]; rfl
theorem enD_len {ds : List D} : (enD ds).length = ds.length := by simp [enD]
theorem it_enT {K : PySem.W.Frag} {a : Addr} {vs : List V} {ds : List D} : ItOk K (IteT K a) (fun H => SqT K H a vs ∧ RDs K H vs ds) (fun _ => True) (enD ds) where
  mono := fun M M' H H' m x p => ⟨(x.still0 m).1 _ _ p.1, p.2.go (x.still0 m)⟩
  stop := fun H M m p _ => ⟨vs, p.1, by rw [p.2.length, enD_len]⟩
  go := fun i d H M m p _ hd => by
    obtain ⟨x, hx, rfl⟩ := enD_get hd
    obtain ⟨v, hv, r⟩ := p.2.get hx
    refine ⟨⟨vs, v, p.1, hv⟩, ?_⟩
    rintro x' H' ⟨T, v', rfl, hT, rfl, e1⟩
    have f1 := e1 vs p.1
    rw [hv] at f1; cases f1
    obtain ⟨x2, m2⟩ := m.upNew (o := .tup [.int (i : Nat), v]) hT
    exact ⟨x2, m2, .tup (SqT.of upd_same) (.cons (.int _) (.cons (r.go (x2.still0 m)) .nil))⟩
theorem it_enL {K : PySem.W.Frag} {a : Addr} {ds : List D} : ItOk K (Ite K a) (fun _ => True) (fun M => M a = some (.lst ds)) (enD ds) where
  mono := fun _ _ _ _ _ _ _ => True.intro
  stop := fun H M m _ g => by
    obtain ⟨vs, hv, l⟩ := m a _ g
    exact ⟨vs, SqL.of hv, by rw [l.length, enD_len]; exact Nat.le_refl _⟩
  go := fun i d H M m _ g hd => by
    obtain ⟨x, hx, rfl⟩ := enD_get hd
    obtain ⟨vs, hvs, l⟩ := m a _ g
    obtain ⟨v, hv, r⟩ := l.get hx
    refine ⟨⟨vs, v, SqL.of hvs, hv⟩, ?_⟩
    rintro x' H' ⟨T, v', rfl, hT, rfl, e1⟩
    have f1 := e1 vs (SqL.of hvs)
    rw [hv] at f1; cases f1
    obtain ⟨x2, m2⟩ := m.upNew (o := .tup [.int (i : Nat), v]) hT
    exact ⟨x2, m2, .tup (SqT.of upd_same) (.cons (.int _) (.cons (r.go (x2.still0 m)) .nil))⟩
theorem it_enR {K : PySem.W.Frag} {a : Addr} {vs : List V} {ds : List D} : ItOk K (Ite K a) (fun H => RoL K H a vs ∧ RDs K H vs ds) (fun _ => True) (enD ds) where
  mono := fun M M' H H' m x p => ⟨(x.still0 m).2 _ _ p.1, p.2.go (x.still0 m)⟩
  stop := fun H M m p _ => ⟨vs, p.1.sq, by rw [p.2.length, enD_len]; exact Nat.le_refl _⟩
  go := fun i d H M m p _ hd => by
    obtain ⟨x, hx, rfl⟩ := enD_get hd
    obtain ⟨v, hv, r⟩ := p.2.get hx
    refine ⟨⟨vs, v, p.1.sq, hv⟩, ?_⟩
    rintro x' H' ⟨T, v', rfl, hT, rfl, e1⟩
    have f1 := e1 vs p.1.sq
    rw [hv] at f1; cases f1
    obtain ⟨x2, m2⟩ := m.upNew (o := .tup [.int (i : Nat), v]) hT
    exact ⟨x2, m2, .tup (SqT.of upd_same) (.cons (.int _) (.cons (r.go (x2.still0 m)) .nil))⟩
def wEnum (t : TA3) : TI3 := fun τ M R => t τ M fun ds M1 => match ds with
  | [d] => asL (items M1 d) fun xs => R (enD xs) (keepG M1 d xs) M1
  | _ => False
theorem w_enum {a : Expr} {ta : TA3} {p pos tpos : Pos} {elts : List Expr} {kk : Nat} (hm : X.mg "enumerate" = none) (ha : PA3 bs X [a] ta) (hg : Gl X "enumerate" := by rfl)
    (hs : starEach [a] X.env = [(false, eval a X.env)] := by rfl) : PI3 bs X (.Tuple elts kk tpos) (.Call (.Name "enumerate" p) [a] [] pos) (wEnum ta) := by
  refine PI.weak (pi_enumA hg hm ha hs) ?_
  rintro σ H R ⟨τ, M, R3, e, m, q, k⟩
  refine ⟨τ, M, _, e, m, q, fun vs H1 ds M1 x1 m1 r1 q1 => ?_⟩
  split at q1
  · rename_i d
    unfold asL at q1
    split at q1
    · rename_i xs hd
      cases r1 with
      | cons r rn =>
        cases rn
        cases d with
        | tup es =>
          cases hd
          cases r with
          | tup h1 h2 => exact ⟨_, _, rfl, .inr ⟨h1, k _ _ _ _ H1 M1 x1 m1 it_enT ⟨h1, h2⟩ q1⟩⟩
        | rol es =>
          cases hd
          cases r with
          | rol h1 h2 => exact ⟨_, _, rfl, .inl ⟨h1.sq, k _ _ _ _ H1 M1 x1 m1 it_enR ⟨h1, h2⟩ q1⟩⟩
        | ref b =>
          cases r
          obtain ⟨vs, hv, l⟩ := m1.at (lstOf_some hd)
          exact ⟨_, vs, rfl, .inl ⟨SqL.of hv, k _ _ _ _ H1 M1 x1 m1 it_enL True.intro q1⟩⟩
        | _ => cases hd
    · exact False.elim q1
  · exact False.elim q1
end
section
variable {bs : BS} {X : Cx}
/-- three names from three values -/
def wPar3 (i j l : Nat) (ta : TA3) : TS3 := fun D τ M => ta τ M fun ds M1 => match ds with
  | [d, e, f] => D.nx (setS (setS (setS τ i (some d)) j (some e)) l (some f)) M1
  | _ => False
theorem s_par3 {i j l : Nat} {x y z : Str} {a b c : Expr} {ta : TA3} {px py pz pt pos : Pos} {kt k2 pt2} (hc : X.calm = true) (hN : X.N.Nodup) (hi : X.N[i]? = some x) (hj : X.N[j]? = some y) (hl : X.N[l]? = some z) (hij : i ≠ j) (hil : i ≠ l) (hjl : j ≠ l)
    (hx : X.env.scope.names.lookup x = some .local) (hy : X.env.scope.names.lookup y = some .local) (hz : X.env.scope.names.lookup z = some .local) (ha : PA3 bs X [a, b, c] ta)
    (hw : swappedStores [.Tuple [.Name x px, .Name y py, .Name z pz] kt pt] (.Tuple [a, b, c] k2 pt2) X.env = pure (some [x, y, z]))
    (hs : swapsWithSole [.Tuple [.Name x px, .Name y py, .Name z pz] kt pt] (.Tuple [a, b, c] k2 pt2) pos.line X.env = pure false := by rfl) :
    PS3 bs X (.Assign [.Tuple [.Name x px, .Name y py, .Name z pz] kt pt] (.Tuple [a, b, c] k2 pt2) pos) (wPar3 i j l ta) := by
  refine PS.weak (ps_par3 hc hN hi hj hl hij hil hjl hx hy hz ha hw hs) ?_
  rintro D σ H ⟨τ, M, D3, e, m, q, kn, _⟩
  refine ⟨τ, M, _, e, m, q, fun vs H1 ds M1 x m1 r q1 => ?_⟩
  match ds, r, q1 with
  | [], _, q1 => exact False.elim q1
  | [_], _, q1 => exact False.elim q1
  | [_, _], _, q1 => exact False.elim q1
  | [d, e', f], r, q1 =>
    cases r with
    | cons r1 r2 =>
      cases r2 with
      | cons r2 r3 =>
        cases r3 with
        | cons r3 r4 =>
          cases r4
          exact ⟨_, _, _, rfl, kn _ _ H1 M1 x ((((e.go (x.still m)).set r1).set r2).set r3) m1 q1⟩
  | _ :: _ :: _ :: _ :: _, _, q1 => exact False.elim q1
theorem st_par3E {i j l : Nat} {D1 : Ends3} {τ : St3} {M : Mp} {ta tb tc : TE3} : wPar3 i j l (wCons ta (wCons tb (wCons tc wNil))) D1 τ M = ta τ M fun d M1 => tb τ M1 fun e M2 => tc τ M2 fun f M3 => D1.nx (setS (setS (setS τ i (some d)) j (some e)) l (some f)) M3 := rfl
def wTupRg2 (ta tb : TE3) : TE3 := fun τ M Q => ta τ M fun d M1 => tb τ M1 fun e M2 => asI d fun i => asI e fun j => (-(2 ^ 60) ≤ i ∧ i < 2 ^ 60 ∧ -(2 ^ 60) ≤ j ∧ j < 2 ^ 60 ∧ j - i ≤ 16777216) ∧ Q (.tup (rgD i (j - i).toNat)) M2
end
end L3
set_option Elab.async false
set_option linter.all false
set_option maxRecDepth 100000
set_option maxHeartbeats 4000000
namespace L3
open PySem PySem.Spec PyProof.Rows L2
/-- a new list may be taken as a thing that nobody writes -/
def FQ (Q : VK) : VK := fun v H => Q v H ∨ ∃ p vs, H p = some (.lst vs) ∧ ∀ o, Q v (upd H p (.frz o (.lst vs)))
section
variable {X : Cx} {pins : List (Addr × Obj)} {σ : L2.St} {H : Hp} {s : Shared}
theorem inv_frz {p : Addr} {vs : List V} (I : Inv X pins σ H s) (h : H p = some (.lst vs)) : ∃ o, Inv X pins σ (upd H p (.frz o (.lst vs))) s := by
  obtain ⟨z, its, n, r, e⟩ := I.hok p _ h
  have hok : HOk X.prog X.w (upd H p (.frz { cls := .type "list", data := .seq its.toArray n } (.lst vs))) s.heap := by
    intro b u q
    by_cases hb : b = p
    · subst hb
      rw [upd_same] at q
      cases q
      exact ⟨e, z, its, n, r, e⟩
    · rw [upd_ne hb] at q
      refine (I.hok b u q).stay (fun _ _ _ w => w) (fun c w => ?_) fun c xs w => ?_
      · rw [upd_ne (by intro y; subst y; rw [h] at w; cases w)]; exact w
      · rw [upd_ne (by intro y; subst y; rw [h] at w; cases w)]; exact w
  refine ⟨_, I.un (h' := s.heap) (t' := s.toks) (H' := upd H p (.frz { cls := .type "list", data := .seq its.toArray n } (.lst vs))) ⟨fun _ _ q _ _ _ => q, fun b o q _ _ _ => ⟨o.slots, q⟩, fun b o q n' _ => ?_, fun b o q _ => ⟨o, q⟩, fun b xs q => ?_, fun b o u q => ?_, fun b ps q => ⟨#[], ?_⟩⟩ hok⟩
  · rw [upd_ne (by intro w; subst w; rw [n'] at h; cases h)]; exact n'
  · rw [upd_ne (by intro w; subst w; rw [h] at q; cases q)]; exact q
  · rw [upd_ne (by intro w; subst w; rw [h] at q; cases q)]; exact q
  · rw [upd_ne (by intro w; subst w; rw [h] at q; cases q), q]; simp
theorem ep_frz {Q : VK} {u : Value} (h : EP X pins σ (FQ Q) u s) : EP X pins σ Q u s := by
  obtain ⟨v, H', I, r, q | ⟨p, vs, hp, k⟩⟩ := h
  · exact ⟨v, H', I, r, q⟩
  · obtain ⟨o, I'⟩ := inv_frz I hp
    exact ⟨v, _, I', r, k o⟩
end
section
variable {X : Cx}
theorem PE_frz {e : Expr} {t : TE} (h : PE X e t) : PE X e fun σ H Q => t σ H (FQ Q) := ⟨fun pins s σ H Q I q => thn (h.run pins s σ H _ I q) fun _ _ => ep_frz⟩
theorem OpR_frz {f : Value → Value → Sem Value} {r : R2} (h : OpR X f r) : OpR X f fun x y H Q => r x y H (FQ Q) := fun pins s σ H x y v u Q I r1 r2 q => thn (h pins s σ H x y v u _ I r1 r2 q) fun _ _ => ep_frz
theorem CallR_frz {f : Value} {r : List V → Hp → VK → Prop} (h : CallR X f r) : CallR X f fun xs H Q => r xs H (FQ Q) := fun pins s σ H xs us Q I r1 q => thn (h pins s σ H xs us _ I r1 q) fun _ _ => ep_frz
def FD (D : Ends) : Ends := { nx := fun σ H => D.nx σ H ∨ ∃ p vs, H p = some (.lst vs) ∧ ∀ o, D.nx σ (upd H p (.frz o (.lst vs))), rt := D.rt, bk := D.bk, ct := D.ct }
theorem PS_frz {st : Stmt} {t : TS} (h : PS X st t) : PS X st fun D σ H => t (FD D) σ H := ⟨fun pins s σ H D I q => thn (h.run pins s σ H _ I q) fun f s' z => by
  cases f with
  | next =>
    obtain ⟨σ', H', J, q | ⟨p, vs, hp, k⟩⟩ := z
    · exact ⟨σ', H', J, q⟩
    · obtain ⟨o, J'⟩ := inv_frz J hp
      exact ⟨σ', _, J', k o⟩
  | brk => exact z
  | cont => exact z
  | ret u => exact z⟩
end
section
variable {K : PySem.W.Frag} {bs : BS} {M M1 : Mp} {H H1 : Hp} {p : Addr} {vs : List V} {ds : List D} {Q : VK}
theorem still_frz {o : Obj} (h : H p = some (.lst vs)) : Still K H (upd H p (.frz o (.lst vs))) := by
  refine ⟨fun a xs q => ?_, fun a xs q => ?_⟩
  · rcases q with (q | ⟨u, q⟩) | q
    · exact .inl (.inl (by rw [upd_ne (by intro z; subst z; rw [h] at q; cases q)]; exact q))
    · exact .inl (.inr ⟨u, by rw [upd_ne (by intro z; subst z; rw [h] at q; cases q)]; exact q⟩)
    · exact .inr q
  · rcases q with ⟨u, q⟩ | q
    · exact .inl ⟨u, by rw [upd_ne (by intro z; subst z; rw [h] at q; cases q)]; exact q⟩
    · exact .inr q
/-- a list just laid -/
theorem fq_new (m : RM K bs H M) (hp : H p = none) (r : RDs K H vs ds) (k : ∀ H', Ext M M H H' → RM K bs H' M → RD K H' (.ref p) (.rol ds) → Q (.ref p) H') : FQ Q (.ref p) (upd H p (.lst vs)) := by
  refine .inr ⟨p, vs, upd_same, fun o => ?_⟩
  rw [upd_upd]
  obtain ⟨x2, m2⟩ := m.upNew (o := .frz o (.lst vs)) hp
  exact k _ x2 m2 (.rol (.inl ⟨o, upd_same⟩) (r.go (x2.still m)))
end
/-- M without a -/
def mdel (M : Mp) (a : Addr) : Mp := fun b => if b = a then none else M b
theorem mdel_same {M : Mp} {a : Addr} : mdel M a a = none := if_pos rfl
theorem mdel_ne {M : Mp} {a b : Addr} (h : b ≠ a) : mdel M a b = M b := if_neg h
/-- a list in M is taken out, as data -/
def frzK (Q : VK3) : VK3 := fun d M => match d with
  | .ref p => match M p with
    | some (.lst ds) => Q (.rol ds) (mdel M p)
    | _ => False
  | d => Q d M
def wFrz (te : TE3) : TE3 := fun τ M Q => te τ M (frzK Q)
section
variable {bs : BS} {X : Cx} {e a b : Expr} {te ta tb : TE3} {t : TA3} {es : List Expr} {pos : Pos}
theorem e_frz (h : PE3 bs X e te) : PE3 bs X e (wFrz te) := by
  refine PE.weak (PE_frz h) ?_
  rintro σ H Q ⟨τ, M, Q3, e, m, q, k⟩
  refine ⟨τ, M, _, e, m, q, fun v H1 d M1 x1 m1 r1 q1 => ?_⟩
  cases d with
  | ref p =>
    cases r1
    simp only [frzK] at q1
    split at q1
    · rename_i ds hp
      obtain ⟨vs, hv, rs⟩ := m1.at hp
      refine .inr ⟨p, vs, hv, fun o => ?_⟩
      have st := still_frz (K := X.K) (o := o) hv
      have y : Ext M1 (mdel M1 p) H1 (upd H1 p (.frz o (.lst vs))) := ⟨fun b u hb hm => by rw [upd_ne (by intro z; subst z; rw [hp] at hm; cases hm)]; exact hb, fun b hb => by
        by_cases z : b = p
        · subst z; rw [mdel_same] at hb; exact absurd rfl hb
        · rw [mdel_ne z] at hb; exact .inl hb⟩
      refine k (.ref p) _ (.rol ds) (mdel M1 p) (x1.trans y) (m1.to y fun b u hb => ?_) (.rol (.inl ⟨o, upd_same⟩) (rs.go st)) q1
      by_cases z : b = p
      · subst z; rw [mdel_same] at hb; cases hb
      · rw [mdel_ne z] at hb
        exact (m1.m b u hb).go st fun w hw => by rw [upd_ne z]; exact hw
    · exact False.elim q1
  | _ => exact .inl (k _ _ _ _ x1 m1 r1 q1)
def wLstF (t : TA3) : TE3 := fun τ M Q => t τ M fun xs M1 => xs.length ≤ sizeLine ∧ Q (.rol xs) M1
theorem e_lstF (h : PA3 bs X es t) : PE3 bs X (.List es pos) (wLstF t) := by
  refine PE.weak (PE_frz (pe_lst h)) ?_
  rintro σ H Q ⟨τ, M, Q3, e, m, q, k⟩
  refine ⟨τ, M, _, e, m, q, fun zs H1 ds M1 x1 m1 r1 q1 => ⟨by rw [r1.length]; exact q1.1, fun p hp => ?_⟩⟩
  exact fq_new m1 hp r1 fun H' x2 m2 r2 => k _ H' _ M1 (x1.trans x2) m2 r2 q1.2
def wRepF (te tb : TE3) : TE3 := fun τ M Q => te τ M fun d M1 => tb τ M1 fun i M2 => asI i fun k => -(2 ^ 63) ≤ k ∧ k < 2 ^ 63 ∧ k.toNat ≤ sizeLine ∧ Q (.rol (List.replicate k.toNat d)) M2
theorem e_repF {p1 : Pos} (he : PE3 bs X e te) (hb : PE3 bs X b tb) (hs : starEach [e] X.env = (false, eval e X.env) :: starEach [] X.env := by rfl) : PE3 bs X (.BinOp (.List [e] p1) .Mult b pos) (wRepF te tb) := by
  refine PE.weak (PE_frz (pe_op op_rep (pe_lst (pa_cons he pa_nil hs)) hb)) ?_
  rintro σ H Q ⟨τ, M, Q3, e, m, q, k⟩
  refine ⟨τ, M, _, e, m, q, fun v H1 d M1 x1 m1 r1 q1 => ⟨(by show 1 ≤ sizeLine; decide), fun p hp => ?_⟩⟩
  obtain ⟨x2, m2⟩ := m1.upNew (o := .lst [v]) hp
  have f2 : Fresh X.K (upd H1 p (.lst [v])) M1 p [d] := Fresh.laid m1.m hp (.cons r1 .nil)
  refine ⟨τ, M1, _, (e.go (x1.still m)).go (x2.still m1), m2, q1, fun y H2 dy M2 x3 m3 r3 q3 => ?_⟩
  have f3 := f2.go m2.m x3
  obtain ⟨vs, hv, rv⟩ := f3.lst
  cases dy with
  | int z =>
    cases r3
    obtain ⟨b1, b2, b3, q3⟩ := q3
    refine ⟨p, z, vs, rfl, rfl, hv, b1, b2, by rw [rv.length]; simpa using b3, fun p2 hp2 => ?_⟩
    have rr := rv.rep z.toNat
    rw [flat_one] at rr
    exact fq_new m3 hp2 rr fun H' x4 m4 r4 => k _ H' _ M2 (x1.trans (x2.trans (x3.trans x4))) m4 r4 q3
  | _ => exact False.elim q3
variable {p p2 pos2 : Pos}
def wLstRgF1 (ta : TE3) : TE3 := fun τ M Q => ta τ M fun d M1 => asI d fun n => (-(2 ^ 62) ≤ n ∧ n ≤ 16777216) ∧ Q (.rol (rgD 0 n.toNat)) M1
def wLstRgF2 (ta tb : TE3) : TE3 := fun τ M Q => ta τ M fun d M1 => tb τ M1 fun e M2 => asI d fun i => asI e fun j => (-(2 ^ 60) ≤ i ∧ i < 2 ^ 60 ∧ -(2 ^ 60) ≤ j ∧ j < 2 ^ 60 ∧ j - i ≤ 16777216) ∧ Q (.rol (rgD i (j - i).toNat)) M2
theorem e_listRgF1 (hc : X.calm = true) (zl : X.mg "list" = none) (zr : X.mg "range" = none) (ha : PE3 bs X a ta) (gl : Gl X "list" := by rfl) (gr : Gl X "range" := by rfl)
    (na : starEach [a] X.env = (false, eval a X.env) :: starEach [] X.env := by rfl) (nb : starEach [.Call (.Name "range" p2) [a] [] pos2] X.env = (false, eval (.Call (.Name "range" p2) [a] [] pos2) X.env) :: starEach [] X.env := by rfl) :
    PE3 bs X (.Call (.Name "list" p) [.Call (.Name "range" p2) [a] [] pos2] [] pos) (wLstRgF1 ta) := by
  refine PE.weak (PE_frz (pe_listRg hc gl zl (prg_1 gr zr ha na) nb)) ?_
  rintro σ H Q ⟨τ, M, Q3, e, m, q, k⟩
  refine ⟨τ, M, _, e, m, q, fun v H1 d M1 x1 m1 r1 q1 => ?_⟩
  cases d with
  | int n =>
    cases r1
    refine ⟨n, rfl, rg1_ok q1.1, fun p hp => ?_⟩
    have l := rds_rg (K := X.K) (H := H1) 0 n
    rw [Int.sub_zero] at l
    exact fq_new m1 hp l fun H' x2 m2 r2 => k _ H' _ M1 (x1.trans x2) m2 r2 q1.2
  | _ => exact False.elim q1
theorem e_listRgF2 (hc : X.calm = true) (zl : X.mg "list" = none) (zr : X.mg "range" = none) (ha : PE3 bs X a ta) (hb : PE3 bs X b tb) (gl : Gl X "list" := by rfl) (gr : Gl X "range" := by rfl)
    (na : starEach [a, b] X.env = (false, eval a X.env) :: starEach [b] X.env := by rfl) (na2 : starEach [b] X.env = (false, eval b X.env) :: starEach [] X.env := by rfl) (np : (backTo pos2 (starEach [b] X.env)).any (·.1) = false := by rfl)
    (nb : starEach [.Call (.Name "range" p2) [a, b] [] pos2] X.env = (false, eval (.Call (.Name "range" p2) [a, b] [] pos2) X.env) :: starEach [] X.env := by rfl) :
    PE3 bs X (.Call (.Name "list" p) [.Call (.Name "range" p2) [a, b] [] pos2] [] pos) (wLstRgF2 ta tb) := by
  refine PE.weak (PE_frz (pe_listRg hc gl zl (prg_2 gr zr ha hb na na2 np) nb)) ?_
  rintro σ H Q ⟨τ, M, Q3, e, m, q, k⟩
  refine ⟨τ, M, _, e, m, q, fun v H1 d M1 x1 m1 r1 q1 => ⟨τ, M1, _, e.go (x1.still m), m1, q1, fun u H2 d2 M2 x2 m2 r2 q2 => ?_⟩⟩
  cases d with
  | int i =>
    cases r1
    cases d2 with
    | int j =>
      cases r2
      refine ⟨i, j, rfl, rfl, rg2_ok q2.1, fun p hp => ?_⟩
      exact fq_new m2 hp (rds_rg (K := X.K) (H := H2) i j) fun H' x3 m3 r3 => k _ H' _ M2 (x1.trans (x2.trans x3)) m3 r3 q2.2
    | _ => exact False.elim q2
  | _ => exact False.elim q2
end
section
variable {bs : BS} {X : Cx} {elt tg iter : Expr} {ifs : List Expr} {scope : Scope} {own : List (Str × Nat)} {pos : Pos} {wi : TI3} {g : TG3} {tt : TT3} {te : TE3} {ix : List Nat}
def wLcF (wi : TI3) (g : TG3) (tt : TT3) (te : TE3) (vs : List Nat) : TE3 := fun τ M Q => wLcL wi g tt te vs τ M fun acc M2 => Q (.rol acc) M2
theorem ext_frz {M M' : Mp} {H H' : Hp} {L : Addr} {vs : List V} {o : Obj} (x : Ext M M' H H') (hv : H' L = some (.lst vs)) (hf : M' L = none) (z : M L ≠ none ∨ H L = none) : Ext M M' H (upd H' L (.frz o (.lst vs))) := by
  refine ⟨fun a u ha hm => ?_, x.dom⟩
  by_cases e : a = L
  · subst e
    rcases z with z | z
    · exact absurd hm z
    · rw [ha] at z; cases z
  · rw [upd_ne e]; exact x.fr a u ha hm
theorem lift_lcF (hix : ∀ i ∈ ix, i ∈ own.map (·.2)) : ∀ σ H (Q : VK), lift X.K bs (wLcF wi g tt te (own.map (·.2))) σ H Q → tLc (liftI X.K bs wi) (liftG X.K bs ix g) (liftT X.K bs tt) (lift X.K bs te) (own.map (·.2)) σ H (FQ Q) := by
  rintro σ H Q ⟨τ, M, Q3, e, m, q, k⟩
  refine lift_lcL hix σ H _ ⟨τ, M, _, e, m, q, fun L H' acc M' x m' f z q' => ?_⟩
  obtain ⟨vs, hv, r⟩ := f.lst
  refine .inr ⟨L, vs, hv, fun o => ?_⟩
  have st := still_frz (K := X.K) (o := o) hv
  have y := ext_frz (o := o) x hv f.free z
  refine k (.ref L) _ (.rol acc) M' y (m.to y fun a u h => (m'.m a u h).go st fun w hw => ?_) (.rol (.inl ⟨o, upd_same⟩) (r.go st)) q'
  rw [upd_ne (ne_m h f.free)]; exact hw
theorem e_lcF (hix : ∀ i ∈ ix, i ∈ own.map (·.2)) (hc : X.calm = true) (hN : X.N.Nodup) (hi : PI3 bs X tg iter wi) (ok : BlkOk X.N X.env.scope scope own)
    (hg : ∀ (s : Shared) (H : Hp) (C : Addr) (cl : List (Str × Addr)) (fp : List Addr), PG3 bs (X.blk s H scope (compEnvC scope cl C X.env) fp) tg ix g)
    (ht : ∀ (s : Shared) (H : Hp) (C : Addr) (cl : List (Str × Addr)) (fp : List Addr), PTs3 bs (X.blk s H scope (compEnvC scope cl C X.env) fp) ifs tt)
    (he : ∀ (s : Shared) (H : Hp) (C : Addr) (cl : List (Str × Addr)) (fp : List Addr), PE3 bs (X.blk s H scope (compEnvC scope cl C X.env) fp) elt te) (hs : ∀ x, foldedSetIterable iter X.env x = pure x := by intro _; rfl) :
    PE3 bs X (.ListComp elt [⟨tg, iter, ifs, 0⟩] scope pos) (wLcF wi g tt te (own.map (·.2))) :=
  PE.weak (PE_frz (pe_lc (g := liftG X.K bs ix g) (tt := liftT X.K bs tt) (te := lift X.K bs te) hc hN hi ok hg ht he hs)) (lift_lcF hix)
theorem s_setLcF (hix : ∀ i ∈ ix, i ∈ own.map (·.2)) {i : Nat} {y : Str} {py spos : Pos} (hc : X.calm = true) (hN : X.N.Nodup) (hy : X.N[i]? = some y) (hyl : X.env.scope.names.lookup y = some .local)
    (hsw : swapsWith (.ListComp elt [⟨tg, iter, ifs, 0⟩] scope pos) (some (.Name y py)) spos.line X.env = pure true) (hi : PI3 bs X tg iter wi) (ok : BlkOk X.N X.env.scope scope own)
    (hg : ∀ (s : Shared) (H : Hp) (C : Addr) (cl : List (Str × Addr)) (fp : List Addr), PG3 bs (X.blk s H scope (compEnvC scope cl C X.env) fp) tg ix g)
    (ht : ∀ (s : Shared) (H : Hp) (C : Addr) (cl : List (Str × Addr)) (fp : List Addr), PTs3 bs (X.blk s H scope (compEnvC scope cl C X.env) fp) ifs tt)
    (he : ∀ (s : Shared) (H : Hp) (C : Addr) (cl : List (Str × Addr)) (fp : List Addr), PE3 bs (X.blk s H scope (compEnvC scope cl C X.env) fp) elt te) (hs : ∀ x, foldedSetIterable iter X.env x = pure x := by intro _; rfl) :
    PS3 bs X (.Assign [.Name y py] (.ListComp elt [⟨tg, iter, ifs, 0⟩] scope pos) spos) (wSet i (wLcF wi g tt te (own.map (·.2)))) := by
  refine PS.weak (PS_frz (ps_setLc (g := liftG X.K bs ix g) (tt := liftT X.K bs tt) (te := lift X.K bs te) hc hN hy hyl hsw hi ok hg ht he hs)) ?_
  rintro D σ H ⟨τ, M, D3, e, m, q, kn, _⟩
  exact lift_lcF hix σ H (fun v H' => D.nx (σ.set i (some v)) H') ⟨τ, M, _, e, m, q, fun v H' d M' x m1 r q1 => kn _ _ H' M' x ((e.go (x.still m)).set r) m1 q1⟩
end
def LstV (K : PySem.W.Frag) (H : Hp) (a : Addr) (xs : List V) : Prop := H a = some (.lst xs) ∨ RoL K H a xs
theorem LstV.sq {K : PySem.W.Frag} {H : Hp} {a : Addr} {xs : List V} (h : LstV K H a xs) : SqL K H a xs := by
  rcases h with h | h
  · exact SqL.of h
  · exact h.sq
def lstI (M : Mp) : D → Option (List D)
  | .rol ds => some ds
  | .ref a => lstOf (M a)
  | _ => none
theorem lst_of {K : PySem.W.Frag} {H : Hp} {M : Mp} {v : V} {d : D} {ds : List D} (m : RM0 K H M) (r : RD K H v d) (h : lstI M d = some ds) : ∃ p vs, v = .ref p ∧ LstV K H p vs ∧ RDs K H vs ds := by
  cases d with
  | rol es =>
    cases r with
    | rol h1 h2 => cases h; exact ⟨_, _, rfl, .inr h1, h2⟩
  | ref a =>
    cases r
    obtain ⟨vs, hv, l⟩ := m a _ (lstOf_some h)
    exact ⟨_, _, rfl, .inl hv, l⟩
  | _ => cases h
theorem inv_lstV {X : Cx} {pins : List (Addr × Obj)} {σ : L2.St} {H : Hp} {s : Shared} {l : Addr} {xs : List V} (I : Inv X pins σ H s) (h : LstV X.K H l xs) :
    xs.length ≤ sizeLine ∧ ∃ (its : List Value) (n : Nat), Vals xs its ∧ xs.length = its.length ∧ s.heap.get? l = some { cls := .type "list", data := .seq its.toArray n } := by
  rcases h with h | ⟨o, h⟩ | ⟨its, n, h, z, v⟩
  · obtain ⟨z, its, n, r, e⟩ := I.hok l _ h
    exact ⟨z, its, n, r, r.length, e⟩
  · obtain ⟨_, z, its, n, r, e⟩ := I.hok l _ h
    exact ⟨z, its, n, r, r.length, e⟩
  · have e := I.kIn l _ h
    have hl := v.length
    exact ⟨by rw [hl, Array.length_toList]; exact z, its.toList, n, v, hl, by simpa using e⟩
section
variable {bs : BS} {X : Cx}
def rCatV (K : PySem.W.Frag) : R2 := fun x y H Q => ∃ l b xs zs, x = .ref l ∧ y = .ref b ∧ LstV K H l xs ∧ LstV K H b zs ∧ xs.length + zs.length ≤ sizeLine ∧ ∀ p, H p = none → Q (.ref p) (upd H p (.lst (xs ++ zs)))
theorem op_catV : OpR X (binaryOp .Add) (rCatV X.K) := by
  intro pins s σ H x y v u Q I rx ry h
  obtain ⟨l, b, xs, zs, rfl, rfl, hH, hB, hz, q⟩ := h
  cases rx
  cases ry
  obtain ⟨z, its, n, r, hl, e⟩ := inv_lstV I hH
  obtain ⟨z2, its2, n2, r2, hl2, e2⟩ := inv_lstV I hB
  refine PySem.P.add_list e e2 ?_ (by rw [List.size_toArray, List.size_toArray]; omega)
  have ea : its.toArray ++ its2.toArray = (its ++ its2).toArray := by simp
  rw [ea]
  exact ⟨.ref _, _, I.lnew (t' := s.toks) (r.append r2) (by rw [List.length_append]; omega), rfl, q _ I.fresh⟩
def catL (xs ys : List D) (M : Mp) (Q : VK3) : Prop := xs.length + ys.length ≤ sizeLine ∧ Q (.rol (xs ++ ys)) M
def catM (xs ys : List D) (M : Mp) (Q : VK3) : Prop := xs.length + ys.length ≤ sizeLine ∧ ∀ p, M p = none → Q (.ref p) (mset M p (.lst (xs ++ ys)))
/-- + whose list is data -/
def oAddF : R23 := fun d e M Q => match d with
  | .int _ => oAdd d e M Q
  | .str _ => oAdd d e M Q
  | .tup _ => oAdd d e M Q
  | d => asL (lstI M d) fun xs => asL (lstI M e) fun ys => catL xs ys M Q
/-- + whose list may be written -/
def oAddM : R23 := fun d e M Q => asL (lstI M d) fun xs => asL (lstI M e) fun ys => catM xs ys M Q
theorem op3w {f : Value → Value → Sem Value} {r : R23} {d e : D} {x y : V} {H : Hp} {M : Mp} {Q : VK} {Q3 : VK3} (ho : OpR X f (lift2 X.K bs r)) (r1 : RD X.K H x d) (r2 : RD X.K H y e) (m : RM X.K bs H M) (q : r d e M Q3)
    (k : ∀ v H' z M', Ext M M' H H' → RM X.K bs H' M' → RD X.K H' v z → Q3 z M' → Q v H') : ∃ r2 : R2, OpR X f r2 ∧ r2 x y H Q := ⟨_, ho, d, e, M, Q3, r1, r2, m, q, k⟩
theorem o_addF : OpR X (binaryOp .Add) (lift2 X.K bs oAddF) := op3 fun d e x y H M Q Q3 r1 r2 m q k => by
  have li : (asL (lstI M d) fun xs => asL (lstI M e) fun ys => catL xs ys M Q3) → ∃ r2 : R2, OpR X (binaryOp .Add) r2 ∧ r2 x y H Q := fun q => by
    unfold asL at q
    split at q
    · rename_i xs hx
      split at q
      · rename_i ys hy
        obtain ⟨a, vs, rfl, hv, l1⟩ := lst_of m.m r1 hx
        obtain ⟨b, ws, rfl, hw, l2⟩ := lst_of m.m r2 hy
        refine ⟨_, OpR_frz op_catV, a, b, vs, ws, rfl, rfl, hv, hw, by rw [l1.length, l2.length]; exact q.1, fun p hp => ?_⟩
        exact fq_new m hp (l1.app l2) fun H' x2 m2 r3 => k _ H' _ M x2 m2 r3 q.2
      · exact False.elim q
    · exact False.elim q
  cases d with
  | int _ => exact op3w o_add r1 r2 m q k
  | str _ => exact op3w o_add r1 r2 m q k
  | tup _ => exact op3w o_add r1 r2 m q k
  | _ => exact li q
def rRepV (K : PySem.W.Frag) : R2 := fun x y H Q => ∃ l k xs, x = .ref l ∧ y = .int k ∧ LstV K H l xs ∧ -(2 ^ 63) ≤ k ∧ k < 2 ^ 63 ∧ xs.length * k.toNat ≤ sizeLine ∧
  ∀ p, H p = none → Q (.ref p) (upd H p (.lst (List.replicate k.toNat xs).flatten))
theorem op_repV : OpR X (binaryOp .Mult) (rRepV X.K) := by
  intro pins s σ H x y v u Q I rx ry h
  obtain ⟨l, k, xs, rfl, rfl, hH, h1, h2, hz, q⟩ := h
  cases rx
  obtain ⟨t, rfl⟩ := ry
  obtain ⟨z, its, n, r, hl, e⟩ := inv_lstV I hH
  have hlen : its.toArray.size * k.toNat ≤ sizeLine := by rw [List.size_toArray, ← hl]; exact hz
  have hcap : ¬ its.toArray.size * k.toNat > (2 ^ 63 - 1) / 8 := by
    have : (sizeLine : Nat) ≤ (2 ^ 63 - 1) / 8 := by decide
    omega
  have hfit : ¬ (!Builtin.List.listFitsIndex k) = true := by
    rw [fitsIndex_both h1 h2]
    exact Bool.false_ne_true
  have hlong : ¬ Builtin.List.listTooLong (its.toArray.size * k.toNat) = true := by
    rw [notLongL hlen]
    exact Bool.false_ne_true
  have hnew : List.foldl (fun x1 x2 => x1 ++ x2) #[] (List.replicate (if its.toArray.isEmpty = true then 0 else k.toNat) its.toArray) = (List.replicate k.toNat its).flatten.toArray := by
    have f0 : ∀ m : Nat, List.foldl (fun x1 x2 => x1 ++ x2) #[] (List.replicate m its.toArray) = (List.replicate m its).flatten.toArray := fun m => by
      have := foldl_rep its m []
      rw [List.nil_append] at this
      exact this
    rw [f0]
    cases its with
    | nil => simp
    | cons a r' => rw [if_neg (by simp)]
  refine wpAny_binaryOp_repeat_ref (T := "list") (U := "int") (by decide) ⟨_, e, rfl⟩ (fun s' => typeIs_int s' k t) noFill_list_mul F.fills_int_mul F.slot_int_rmul repeat_list F.slot_int_index.lookup
    (call_meets F.slot_int_rmul (typeIs_int s k t) F.entry_int_rmul (F.args_int_rmul_2 _ _) (int___rmul___int_list k t l its.toArray n)
      ⟨e, rfl, ⟨_, e, rfl⟩, call_meets F.slot_list_mul ⟨_, e, rfl⟩ F.entry_list_mul (F.args_list_mul_2 _ _) (AutoListH.list___mul___list_int_3 l its.toArray n k t hfit hcap hlong) ⟨e, ?_⟩⟩)
  rw [hnew]
  exact ⟨.ref _, _, I.lnew (t' := s.toks) (r.rep k.toNat) (by rw [PyProof.Rows.lm_len_rep_flat, Nat.mul_comm]; exact hz), rfl, q _ I.fresh⟩
/-- * whose list is data -/
def repL (xs : List D) (e : D) (M : Mp) (Q : VK3) : Prop := asI e fun k => -(2 ^ 63) ≤ k ∧ k < 2 ^ 63 ∧ xs.length * k.toNat ≤ sizeLine ∧ Q (.rol (List.replicate k.toNat xs).flatten) M
def oMulF : R23 := fun d e M Q => match d with
  | .int _ => oMul d e M Q
  | d => asL (lstI M d) fun xs => repL xs e M Q
theorem o_mulF : OpR X (binaryOp .Mult) (lift2 X.K bs oMulF) := op3 fun d e x y H M Q Q3 r1 r2 m q k => by
  have li : (asL (lstI M d) fun xs => repL xs e M Q3) → ∃ r2 : R2, OpR X (binaryOp .Mult) r2 ∧ r2 x y H Q := fun q => by
    unfold asL at q
    split at q
    · rename_i xs hx
      cases e with
      | int n =>
        cases r2
        obtain ⟨a, vs, rfl, hv, l1⟩ := lst_of m.m r1 hx
        obtain ⟨q1, q2, q3, q4⟩ := q
        refine ⟨_, OpR_frz op_repV, a, n, vs, rfl, rfl, hv, q1, q2, by rw [l1.length]; exact q3, fun p hp => ?_⟩
        exact fq_new m hp (l1.rep n.toNat) fun H' x2 m2 r3 => k _ H' _ M x2 m2 r3 q4
      | _ => exact False.elim q
    · exact False.elim q
  cases d with
  | int _ => exact op3w o_mul r1 r2 m q k
  | _ => exact li q
def oSlF : D → Option Int → Option Int → Mp → VK3 → Prop := fun d lo hi M Q => match d with
  | .tup ds => Q (.tup (cutD ds lo hi)) M
  | d => asL (lstI M d) fun ds => Q (.rol (cutD ds lo hi)) M
def oSlM : D → Option Int → Option Int → Mp → VK3 → Prop := fun d lo hi M Q => asL (lstI M d) fun ds => ∀ p, M p = none → Q (.ref p) (mset M p (.lst (cutD ds lo hi)))
abbrev PT3o := St3 → Mp → (Option Int → Mp → Prop) → Prop
def wSlF (te : TE3) (tl th : PT3o) : TE3 := fun τ M Q => te τ M fun d M1 => tl τ M1 fun lo M2 => th τ M2 fun hi M3 => oSlF d lo hi M3 Q
def wSlM (te : TE3) (tl th : PT3o) : TE3 := fun τ M Q => te τ M fun d M1 => tl τ M1 fun lo M2 => th τ M2 fun hi M3 => oSlM d lo hi M3 Q
def bListF : List D → Mp → VK3 → Prop := b1 fun d M Q => asL (items M d) fun ds => Q (.rol ds) M
theorem c_listF : CallR X (.type "list") (liftV X.K bs bListF) := call1 fun d x H M Q Q3 r m q k => by
  unfold asL at q
  split at q
  · rename_i ds hd
    obtain ⟨p, vs, rfl, hs, l⟩ := items_of m.m r hd
    refine ⟨_, CallR_frz call_list_of, p, vs, rfl, hs, fun c hc => ?_⟩
    exact fq_new m hc l fun H' x2 m2 r2 => k _ H' _ M x2 m2 r2 q
  · exact False.elim q
def asT (o : Option (List Bool)) (k : List Bool → Prop) : Prop := match o with
  | some l => k l
  | none => False
def bAllF : List D → Mp → VK3 → Prop := b1 fun d M Q => asL (lstI M d) fun ds => asT (bls ds) fun l => Q (.bl (l.all id)) M
def bAnyF : List D → Mp → VK3 → Prop := b1 fun d M Q => asL (lstI M d) fun ds => asT (bls ds) fun l => Q (.bl (l.any id)) M
theorem c_anyF (hc : X.calm = true) : CallR X (.builtin "any") (liftV X.K bs bAnyF) := call1 fun d x H M Q Q3 r m q k => by
  unfold asL at q
  split at q
  · rename_i ds hd
    unfold asT at q
    split at q
    · rename_i l hl
      obtain ⟨a, vs, rfl, hv, rs⟩ := lst_of m.m r hd
      have e := bls_of hl rs
      subst e
      exact ⟨_, cr_any hc, a, l, rfl, hv.sq, k _ _ _ M .refl m (.bl _) q⟩
    · exact False.elim q
  · exact False.elim q
def asJ (o : Option (List Int)) (k : List Int → Prop) : Prop := match o with
  | some l => k l
  | none => False
def rExtendV (K : PySem.W.Frag) : V → List V → Hp → VK → Prop := fun x vs H Q => ∃ l b xs zs, x = .ref l ∧ vs = [.ref b] ∧ H l = some (.lst xs) ∧ LstV K H b zs ∧ xs.length + zs.length ≤ sizeLine ∧ Q .non (upd H l (.lst (xs ++ zs)))
theorem mt_extendV : MtR X "list.extend" (rExtendV X.K) := by
  intro pins s σ H x vs v us Q I rx rv h
  obtain ⟨l, b, xs, zs, rfl, rfl, hH, hB, hz, q⟩ := h
  cases rx
  obtain ⟨u, rfl, ru⟩ := rv.one
  cases ru
  obtain ⟨z, its, n, r, hl, e⟩ := I.lstM hH
  obtain ⟨z2, its2, n2, r2, hl2, e2⟩ := inv_lstV I hB
  have hsz : its.toArray.size + its2.toArray.size ≤ sizeLine := by rw [List.size_toArray, List.size_toArray]; omega
  have hlong : ¬ (!its.toArray.isEmpty && Builtin.List.listTooLong (its.toArray.size + its2.toArray.size)) = true := by
    rw [notLongL hsz, Bool.and_false]
    exact Bool.false_ne_true
  refine call_meets F.slot_list_extend ⟨_, e, rfl⟩ F.entry_list_extend (F.args_list_extend_2 _ _)
    (AutoSeq1.list_extend_list_list_0 l its.toArray n b its2.toArray n2 hlong (by rw [List.size_toArray]; omega) (by omega)) ⟨e, e2, ?_⟩
  refine ⟨.non, _, I.lset (its' := its ++ its2) hH e (by simp) (r.append r2) ?_, rfl, q⟩
  rw [List.length_append]
  omega
def oExtF : M23 := fun d ds M Q => match d, ds with
  | .ref a, [e] => asL (lstOf (M a)) fun xs => asL (lstI M e) fun ys => xs.length + ys.length ≤ sizeLine ∧ Q .non (mset M a (.lst (xs ++ ys)))
  | _, _ => False
theorem m_extF : MtR X "list.extend" (liftM X.K bs oExtF) := by
  rintro pins s σ H x xs v us Q I r1 r2 ⟨d, ds, M, Q3, rd, rs, m, q, k⟩
  unfold oExtF at q
  split at q
  · rename_i a b
    cases rd
    unfold asL at q
    split at q
    · rename_i zs hz
      split at q
      · rename_i ys hy
        have ha := lstOf_some hz
        obtain ⟨vs, hv, l⟩ := m.at ha
        cases rs with
        | cons ry rn =>
          cases rn
          obtain ⟨b, ws, rfl, hw, l2⟩ := lst_of m.m ry hy
          refine mt_extendV pins s σ H _ _ v us Q I r1 r2 ⟨a, b, vs, ws, rfl, rfl, hv, hw, by rw [l.length, l2.length]; exact q.1, ?_⟩
          obtain ⟨x2, m2⟩ := m.putL ha (l.app l2)
          exact k _ _ _ _ x2 m2 .non q.2
      · exact False.elim q
    · exact False.elim q
  · exact False.elim q
theorem e_extendF {o e : Expr} {to te : TE3} {apos cpos : Pos} (ho : PE3 bs X o to) (he : PE3 bs X e te) (hs1 : starEach [e] X.env = (false, eval e X.env) :: starEach [] X.env := by rfl)
    (hbase : attributeBase o "extend" X.env (eval o X.env) = eval o X.env := by rfl)
    (hfew : ((backTo cpos (starEach (e :: []) X.env)).all (fun x => !x.1) && (backToKw cpos (keywordEach [] X.env)).all (fun x => x.1.isSome)
      && decide ((e :: []).length + ([] : List Keyword).length + (if ([] : List Keyword).isEmpty then 0 else 1) < 30)) = true := by rfl)
    (hline : (apos.endLine == cpos.line) = true := by rfl) :
    PE3 bs X (.Call (.Attribute o "extend" apos) [e] [] cpos) (wBM oExtF to (wCons te wNil)) :=
  e_bm PySem.F.plainAttrs_list PySem.F.slot_list_extend PySem.F.type_list_extend m_extF ho (a_cons he a_nil hs1) hbase hfew hline hs1 rfl
end
end L3
set_option Elab.async false
set_option linter.all false
set_option maxRecDepth 100000
set_option maxHeartbeats 4000000
namespace L3
open PySem PySem.Spec PyProof.Rows L2
end L3
set_option Elab.async false
set_option linter.all false
set_option maxRecDepth 100000
set_option maxHeartbeats 4000000
namespace L3
open PySem PySem.Spec PyProof.Rows L2
end L3
set_option Elab.async false
set_option linter.all false
set_option maxRecDepth 100000
set_option maxHeartbeats 4000000
namespace L3
open PySem PySem.Spec PyProof.Rows L2 HT
end L3
set_option Elab.async false
set_option linter.all false
set_option maxRecDepth 100000
set_option maxHeartbeats 4000000
namespace L3
open PySem PySem.Spec PyProof.Rows L2
end L3
set_option Elab.async false
set_option linter.all false
set_option maxRecDepth 100000
set_option maxHeartbeats 4000000
namespace L3
open PySem PySem.Spec PyProof.Rows L2
variable {bs : BS} {X : Cx}
def tyM : Option MO → Option String
  | some (.lst _) => some "list"
  | some (.dK _) => some "dict"
  | some (.dT _) => some "dict"
  | _ => none
def tyN (M : Mp) : D → Option String
  | .non => some "NoneType"
  | .bl _ => some "bool"
  | .int _ => some "int"
  | .str _ => some "str"
  | .tup _ => some "tuple"
  | .rol _ => some "list"
  | .ref a => tyM (M a)
  | .ty _ => none
theorem tyx_of {K : PySem.W.Frag} {H : Hp} {M : Mp} {v : V} {d : D} {n : String} (m : RM0 K H M) (r : RD K H v d) (h : tyN M d = some n) : TyX K H v (.type n) := by
  cases d with
  | non => cases r; cases h; exact .base .non
  | bl b => cases r; cases h; exact .base (.bl b)
  | int i => cases r; cases h; exact .base (.int i)
  | str x => cases r; cases h; exact .base (.str x)
  | tup ds =>
    cases r with
    | tup h1 h2 =>
      cases h
      rcases h1 with (e | ⟨o, e⟩) | ⟨o, its, n, e, c, _⟩
      · exact .base (.tup e)
      · exact .fTuple e
      · exact .kTuple e c
  | rol ds =>
    cases r with
    | rol h1 h2 =>
      cases h
      rcases h1 with ⟨o, e⟩ | ⟨its, n, e, _⟩
      · exact .base (.frz e)
      · exact .kList e rfl
  | ref a =>
    cases r
    have h : tyM (M a) = some n := h
    cases q : M a with
    | none => rw [q] at h; cases h
    | some o =>
      rw [q] at h
      have ro := m a o q
      cases o with
      | lst ds => cases h; obtain ⟨vs, e, _⟩ := ro; exact .base (.lst e)
      | dK ds => cases h; obtain ⟨vs, e, _⟩ := ro; exact .base (.dK e)
      | dT ds => cases h; obtain ⟨vs, e, _⟩ := ro; exact .base (.dT e)
      | dL o ks ds => cases h
      | dM o ks ds => cases h
      | ins C fs => cases h
  | ty n => cases h
def asStr (o : Option String) (k : String → Prop) : Prop := match o with
  | some n => k n
  | none => False
def asBo (o : Option Bool) (k : Bool → Prop) : Prop := match o with
  | some n => k n
  | none => False
theorem asStr_some {n : String} {k : String → Prop} : asStr (some n) k = k n := rfl
theorem asBo_some {b : Bool} {k : Bool → Prop} : asBo (some b) k = k b := rfl
def bIsi : List D → Mp → VK3 → Prop := fun ds M Q => match ds with
  | [d, .ty n] => asStr (tyN M d) fun t => asBo (kitB t n) fun b => Q (.bl b) M
  | _ => False
theorem c_isi : CallR X (.builtin "isinstance") (liftV X.K bs bIsi) := by
  rintro pins s σ H xs us Q I rx ⟨ds, M, Q3, r1, m, q, k⟩
  unfold bIsi at q
  split at q
  · rename_i d n
    cases r1 with
    | cons ra r1 =>
      cases r1 with
      | cons rb r1 =>
        cases r1
        cases rb
        unfold asStr at q
        split at q
        · rename_i t ht
          unfold asBo at q
          split at q
          · rename_i b hb
            exact call_isi pins s σ H _ us Q I rx ⟨_, _, _, _, b, rfl, .ty n, tyx_of m.m ra ht, kit_ty hb, k _ _ _ M .refl m (.bl _) q⟩
          · exact False.elim q
        · exact False.elim q
  · exact False.elim q
theorem e_bty {x : Str} {pos : Pos} {T : String} (hm : X.mg x = none) (hv : bootBuiltins x = some (.type T)) (hg : Gl X x := by rfl) (hn : x ≠ "__name__" := by decide) (hd : (x == ("__debug__" : Str)) = false := by decide) : PE3 bs X (.Name x pos) (wC (.ty T)) :=
  e_c (pe_bltn (v := V.ty T) hg hm hv rfl hn hd) fun _ => .ty T
theorem bl_isi {d : D} {n : String} {M : Mp} {Q : VK3} : bIsi [d, .ty n] M Q = asStr (tyN M d) fun t => asBo (kitB t n) fun b => Q (.bl b) M := rfl
theorem isi_is {d : D} {n t : String} {b : Bool} {M : Mp} {Q : VK3} (h : tyN M d = some t) (h2 : kitB t n = some b) : bIsi [d, .ty n] M Q = Q (.bl b) M := by
  rw [bl_isi, h, asStr_some, h2, asBo_some]
theorem kb_ii : kitB "int" "int" = some true := by decide +kernel
theorem kb_ib : kitB "int" "bool" = some false := by decide +kernel
end L3
set_option Elab.async false
set_option linter.all false
set_option maxRecDepth 100000
set_option maxHeartbeats 4000000
namespace L3
open PySem PySem.Spec PyProof.Rows L2
theorem def_no {CX : CXT} {P : Program} {w : World} {K : PySem.W.Frag} {mg : Str → Option Value} {base : Heap} {k : Nat} {f : Addr} {x qual : Str} {st : Stmt} {fd : FuncData} {N ps : List Str} (hm : mg x = some (.ref f)) (F : Fun K x qual st f fd) (b : Binds K fd ps [])
    (S : FnScope N ps (defScope st)) : Def3 P w K mg base CX (k + 1) x (fun _ _ _ _ => False) :=
  ⟨f, fd, ps, hm, F.kp, b, fn_g F S (fun vs H Q E h => by obtain ⟨_, _, _, _, _, _, z, _⟩ := h; exact z.elim) fun cdv A outer s H vs Q E hG hr h => by obtain ⟨_, _, _, _, _, _, z, _⟩ := h; exact z.elim⟩
end L3
set_option Elab.async false
set_option linter.all false
set_option maxRecDepth 100000
set_option maxHeartbeats 4000000
namespace L3
open PySem PySem.Spec PyProof.Rows L2
end L3
set_option Elab.async false
set_option linter.all false
set_option maxRecDepth 100000
set_option maxHeartbeats 4000000
namespace L3
open PySem PySem.Spec PyProof.Rows L2
end L3
set_option Elab.async false
set_option linter.all false
set_option maxRecDepth 100000
set_option maxHeartbeats 4000000
namespace L3
open PySem PySem.Spec PyProof.Rows L2
theorem RM0.noXd {K : PySem.W.Frag} {M : Mp} {H : Hp} {a : Addr} {gs : List (Str × V)} (m : RM0 K H M) (h : H a = some (.xd gs)) : M a = none := by
  cases q : M a with
  | none => rfl
  | some o =>
    have r := m a o q
    cases o with
    | lst ds => obtain ⟨_, e, _⟩ := r; rw [h] at e; cases e
    | dK ds => obtain ⟨_, e, _⟩ := r; rw [h] at e; cases e
    | dT ds => obtain ⟨_, e, _⟩ := r; rw [h] at e; cases e
    | dL o ks ds => obtain ⟨e, _⟩ := r; rw [h] at e; cases e
    | dM o ks ds => obtain ⟨e, _⟩ := r; rw [h] at e; cases e
    | ins C ds => obtain ⟨_, _, _, _, e, _⟩ := r; rw [h] at e; cases e
theorem RX.go {K : PySem.W.Frag} {M M' : Mp} {H H' : Hp} {n : Str} {c : Value} {d : Option Addr} {fs : List (Str × D)} (r : RX K H n c d fs) (m : RM0 K H M) (x : Ext M M' H H') : RX K H' n c d fs := by
  refine ⟨r.1, ?_⟩
  have r := r.2
  cases d with
  | none => exact r
  | some a =>
    obtain ⟨gs, e, q⟩ := r
    exact ⟨gs, x.fr a _ e (m.noXd e), RKv.go (x.still0 m) q⟩
end L3
set_option Elab.async false
set_option linter.all false
set_option maxRecDepth 100000
set_option maxHeartbeats 4000000
namespace L3
open PySem PySem.Spec PyProof.Rows L2
theorem kit_ty {K : PySem.W.Frag} {C : Addr} {T : String} (h : PySem.W.kitMeta T = true) (s : PySem.W.subIn K (.ref C) (.type T) = some true) : PySem.W.kitOne K (.ref C) (.type T) = some true := by
  unfold PySem.W.kitOne
  split
  · rfl
  · unfold PySem.W.kitCls
    dsimp only
    rw [if_pos h]
    exact s
end L3
set_option Elab.async false
set_option linter.all false
set_option maxRecDepth 100000
set_option maxHeartbeats 4000000
namespace L3
open PySem PySem.Spec PyProof.Rows L2
theorem Cl.uniq {K : PySem.W.Frag} {n : Str} {c c' : Value} (h : Cl K n c) (h' : Cl K n c') : c = c' := by
  unfold Cl at h h'
  exact Option.some.inj (Option.some.inj (h.symm.trans h'))
def asRf (d : D) (k : Addr → Prop) : Prop := match d with
  | .ref a => k a
  | _ => False
end L3
set_option Elab.async false
set_option linter.all false
set_option maxRecDepth 100000
set_option maxHeartbeats 4000000
namespace L3
open PySem PySem.Spec PyProof.Rows L2
def keyK : D → Option Key
  | .int i => some (.inl i)
  | .str x => some (.inr x)
  | _ => none
def keysK : List D → Option (List Key)
  | [] => some []
  | d :: ds => match keyK d, keysK ds with
    | some k, some ks => some (k :: ks)
    | _, _ => none
theorem keysK_of {K : PySem.W.Frag} {H : Hp} : ∀ {ds : List D} {vs : List V} {ks : List Key}, RDs K H vs ds → keysK ds = some ks → vs = ks.map kV
  | [], _, ks, r, h => by cases r; cases h; rfl
  | d :: ds, _, ks, r, h => by
    cases r with
    | cons r1 r2 =>
      unfold keysK at h
      split at h
      · rename_i k ks' hk hks
        cases h
        rw [keysK_of r2 hks]
        cases d with
        | int i => cases hk; cases r1; rfl
        | str i => cases hk; cases r1; rfl
        | _ => cases hk
      · cases h
def asKs (o : Option (List Key)) (k : List Key → Prop) : Prop := match o with
  | some l => k l
  | none => False
def valT (kvs : List (List Key × D)) (k : List Key) : Option D := match kvs with
  | [] => none
  | p :: r => if p.1 = k then some p.2 else valT r k
theorem rkv_valT {K : PySem.W.Frag} {H : Hp} {k : List Key} : ∀ {ks : List (List Key × V)} {kvs : List (List Key × D)}, RKv K H ks kvs → (valT kvs k = none ∧ valV ks k = none) ∨ ∃ d v, valT kvs k = some d ∧ valV ks k = some v ∧ RD K H v d
  | [], [], _ => .inl ⟨rfl, rfl⟩
  | [], _ :: _, r => r.elim
  | _ :: _, [], r => r.elim
  | (j, v) :: ks, (i, e) :: kvs, r => by
    obtain ⟨e1, e2, e3⟩ := r
    subst e1
    unfold valT
    by_cases z : j = k
    · exact .inr ⟨e, v, if_pos z, valV_pos z, e2⟩
    · dsimp only
      rw [if_neg z, valV_neg z]
      exact rkv_valT e3
def kvtOf : Option MO → Option (List (List Key × D))
  | some (.dT l) => some l
  | some (.dM _ _ l) => some l
  | _ => none
def asKvt (o : Option (List (List Key × D))) (k : List (List Key × D) → Prop) : Prop := match o with
  | some l => k l
  | none => False
theorem kvt_rd {K : PySem.W.Frag} {H : Hp} {M : Mp} {a : Addr} {l : List (List Key × D)} (m : RM0 K H M) (h : kvtOf (M a) = some l) : ∃ ks, Rd H a (.dT ks) ∧ RKv K H ks l := by
  cases q : M a with
  | none => rw [q] at h; cases h
  | some o =>
    have r := m a o q
    rw [q] at h
    cases o with
    | dT ds => cases h; obtain ⟨ks, e, q⟩ := r; exact ⟨ks, .inl e, q⟩
    | dM o ks ds => cases h; obtain ⟨e, q⟩ := r; exact ⟨ks, .inr ⟨o, e⟩, q⟩
    | _ => cases h
variable {bs : BS} {X : Cx}
/-- a tuple of ints and texts is a key, wherever it stands -/
theorem key_sq {pins : List (Addr × Obj)} {σ : L2.St} {H : Hp} {s : Shared} {b : Addr} {k : List Key} (I : Inv X pins σ H s) (h : SqT X.K H b (k.map kV)) : (tupleKind (mixKind X.prog X.w)).is s.heap k b := by
  obtain ⟨its, r, ⟨o, h1, h2, n, h3⟩, _⟩ := I.tuple h
  exact ⟨o, its.toArray, n, h1, h2, h3, by simpa using items_are r⟩
section
variable {o i e f : Expr} {es : List Expr} {to ti te tx : TE3} {t : TA3} {pos apos cpos kpos : Pos}
def wDNewT : TE3 := fun _ M Q => ∀ p, M p = none → Q (.ref p) (mset M p (.dT []))
theorem e_dnewT : PE3 bs X (.Dict [] [] pos) wDNewT := by
  refine PE.weak pe_dnewT ?_
  rintro σ H Q ⟨τ, M, Q3, re, m, q, kk⟩ p hp
  obtain ⟨x0, m0⟩ := m.go (m.m.new (o := .dT []) (mo := .dT []) hp ⟨[], upd_same, True.intro⟩)
  exact kk _ _ _ _ x0 m0 (.ref p) (q p (m.free hp))
def oTGetD (d e z : D) (M : Mp) (Q : D → Prop) : Prop := match d, e with
  | .ref a, .tup ds => asKs (keysK ds) fun k => asKvt (kvtOf (M a)) fun l => Q ((valT l k).getD z)
  | _, _ => False
end
section
variable {κ : Type} [DecidableEq κ]
theorem rkvG_len {K : PySem.W.Frag} {H : Hp} : ∀ {ks : List (κ × V)} {l : List (κ × D)}, RKv K H ks l → ks.length = l.length
  | [], [], _ => rfl
  | [], _ :: _, r => r.elim
  | _ :: _, [], r => r.elim
  | _ :: _, _ :: _, r => by rw [List.length_cons, List.length_cons, rkvG_len r.2.2]
theorem rkvG_any {K : PySem.W.Frag} {H : Hp} {k : κ} : ∀ {ks : List (κ × V)} {l : List (κ × D)}, RKv K H ks l → (ks.any fun p => decide (p.1 = k)) = l.any fun p => decide (p.1 = k)
  | [], [], _ => rfl
  | [], _ :: _, r => r.elim
  | _ :: _, [], r => r.elim
  | (j, v) :: ks, (i, e) :: l, r => by
    obtain ⟨e1, _, e3⟩ := r
    subst e1
    rw [List.any_cons, List.any_cons, rkvG_any e3]
theorem rkvG_map {K : PySem.W.Frag} {H : Hp} {k : κ} {v : V} {d : D} (rv : RD K H v d) : ∀ {ks : List (κ × V)} {l : List (κ × D)}, RKv K H ks l → RKv K H (ks.map fun p => if p.1 = k then (p.1, v) else p) (l.map fun p => if p.1 = k then (p.1, d) else p)
  | [], [], _ => True.intro
  | [], _ :: _, r => r.elim
  | _ :: _, [], r => r.elim
  | (j, w) :: ks, (i, e) :: l, r => by
    obtain ⟨e1, e2, e3⟩ := r
    subst e1
    rw [List.map_cons, List.map_cons]
    by_cases z : j = k
    · simp only [if_pos z]
      exact ⟨rfl, rv, rkvG_map rv e3⟩
    · simp only [if_neg z]
      exact ⟨rfl, e2, rkvG_map rv e3⟩
theorem rkvG_snoc {K : PySem.W.Frag} {H : Hp} {k : κ} {v : V} {d : D} (rv : RD K H v d) : ∀ {ks : List (κ × V)} {l : List (κ × D)}, RKv K H ks l → RKv K H (ks ++ [(k, v)]) (l ++ [(k, d)])
  | [], [], _ => ⟨rfl, rv, True.intro⟩
  | [], _ :: _, r => r.elim
  | _ :: _, [], r => r.elim
  | (j, w) :: ks, (i, e) :: l, r => ⟨r.1, r.2.1, rkvG_snoc rv r.2.2⟩
def putG (l : List (κ × D)) (k : κ) (d : D) : List (κ × D) :=
  if (l.any fun p => decide (p.1 = k)) = true then l.map (fun p => if p.1 = k then (p.1, d) else p) else l ++ [(k, d)]
theorem rkvG_put {K : PySem.W.Frag} {H : Hp} {k : κ} {v : V} {d : D} {ks : List (κ × V)} {l : List (κ × D)} (r : RKv K H ks l) (rv : RD K H v d) : RKv K H (putK ks k v) (putG l k d) := by
  unfold putK putG
  rw [rkvG_any r]
  split
  · exact rkvG_map rv r
  · exact rkvG_snoc rv r
end
section
variable {o i e f : Expr} {es : List Expr} {to ti te tx : TE3} {t : TA3} {pos apos cpos kpos : Pos}
def tTPut : TSet := fun o i v H Q => ∃ a kvs k b, o = .ref a ∧ i = .ref b ∧ H a = some (.dT kvs) ∧ H b = some (.tup (k.map kV)) ∧ kvs.length < sizeLine ∧ Q (upd H a (.dT (putK kvs k v)))
theorem p_tput (hu : X.A.units + 1 < cLine) : PSet X tTPut := by
  rintro pins s σ H o i v ov iv u Q I r1 r2 r3 ⟨a, kvs, k, b, rfl, rfl, ha, hb, hl, q⟩
  obtain rfl : ov = Value.ref a := r1
  exact d_setItem hu I (DPut.t (v := v) ha hb hl) r2 r3 fun s' I' => ⟨_, I', q⟩
def wgSubT (to : TE3) (t : TA3) : TG3 := fun d τ M Q => to τ M fun o M1 => t τ M1 fun ds M2 => ds.length ≤ sizeLine ∧ asRf o fun a => match M2 a with
  | some (.dT l) => asKs (keysK ds) fun k => l.length < sizeLine ∧ Q τ (mset M2 a (.dT (putG l k d)))
  | _ => False
theorem g_subT {kk : Nat} (hu : X.A.units + 64 + 100 < cLine) (ho : PE3 bs X o to) (ht : PA3 bs X es t)
    (ha : ∀ v, assign (.Subscript o (.Tuple es kk kpos) pos) X.env v = (do
      let ov ← holding [v] (eval o X.env)
      let iv ← holding [v, ov] (eval (.Tuple es kk kpos) X.env)
      standAt pos
      holding [v, ov, iv] (setItem ov iv v)
      release [v, ov, iv] []) := by intro _; rfl) : PG3 bs X (.Subscript o (.Tuple es kk kpos) pos) [] (wgSubT to t) := by
  refine PG.weak (pg_sub ho (pe_tup ht) (p_tput (X := X) (by omega)) ha) ?_
  rintro v σ H Q ⟨d, τ, M, Q3, r, e, m, q, k⟩
  refine ⟨τ, M, _, e, m, q, fun ov H1 od M1 x1 m1 r1 q1 => ⟨τ, M1, _, e.go (x1.still m), m1, q1, fun zs H2 ds M2 x2 m2 r2 q2 => ⟨by rw [r2.length]; exact q2.1, fun p hp => ?_⟩⟩⟩
  obtain ⟨_, q2⟩ := q2
  cases od with
  | ref a =>
    cases r1
    dsimp only [asRf] at q2
    split at q2
    · rename_i l hM
      unfold asKs at q2
      split at q2
      · rename_i ks hk
        obtain ⟨x3, m3⟩ := m2.upNew (o := .tup zs) hp
        obtain ⟨kvs, hv, rk⟩ := m3.at hM
        have st3 := x3.still m2
        have ez := keysK_of r2 hk
        subst ez
        obtain ⟨x4, m4⟩ := m3.put (o := .dT (putK kvs ks v)) (mo' := .dT (putG l ks d)) hM fun st => ⟨_, upd_same, rkvG_put (RKv.go st rk) ((((r.go (x1.still m)).go (x2.still m1)).go st3).go st)⟩
        exact ⟨a, kvs, ks, p, rfl, rfl, hv, upd_same, by rw [rkvG_len rk]; exact q2.1, k σ τ _ _ (x1.trans (x2.trans (x3.trans x4))) .refl ((((e.go (x1.still m)).go (x2.still m1)).go st3).go (x4.still m3)) m4 q2.2⟩
      · exact q2.elim
    · exact q2.elim
  | _ => exact q2.elim
end
end L3
set_option Elab.async false
set_option linter.all false
set_option maxRecDepth 100000
set_option maxHeartbeats 4000000
namespace L3
open PySem PySem.Spec PyProof.Rows L2
end L3
set_option Elab.async false
set_option linter.all false
set_option maxRecDepth 100000
set_option maxHeartbeats 4000000
namespace L3
open PySem PySem.Spec PyProof.Rows L2
variable {bs : BS} {X : Cx}
theorem d_get1T {pins : List (Addr × Obj)} {σ : L2.St} {H : Hp} {s : Shared} {a b : Addr} {k : List Key} {kvs : List (List Key × V)} {A : Around} {E : Value → Shared → Prop} {Q : Value → Shared → Prop} (hu : A.units + 1 < cLine) (I : Inv X pins σ H s) (e : Rd H a (.dT kvs))
    (sq : SqT X.K H b (k.map kV)) (h : ∀ w' s', Inv X pins σ H s' → RelV ((valV kvs k).getD .non) w' → Q w' s') : wpAny (model X.prog X.w) A (call (.builtin "dict.get") [.ref a, .ref b]) Q E s := by
  obtain ⟨z, hd, xs, rel, dd⟩ := dt_rd I.hok e
  refine call_meetsIn PySem.F.slot_dict_get dd.typeIs PySem.F.entry_dict_get (PySem.F.args_dict_get_2 _ _) (meetsH_dict_get (tupleKind (mixKind X.prog X.w)) a b hd) ⟨tupleKind_room_in1 hu, k, xs, key_sq I sq, dd, h _ _ (I.tok _) ?_⟩
  exact (rel.val k).getD rfl
section
variable {o i e f : Expr} {to ti te tx : TE3} {pos apos cpos kpos : Pos}
def wTGet1 (to ti : TE3) : TE3 := fun τ M Q => to τ M fun d M1 => (asRf d fun a => asKvt (kvtOf (M1 a)) fun _ => True) ∧ ti τ M1 fun y M2 => oTGetD d y .non M2 fun v => Q v M2
theorem e_tget1 (hu : X.A.units + 64 + 100 < cLine) (ho : PE3 bs X o to) (hi : PE3 bs X e ti) (base : attributeBase o "get" X.env (eval o X.env) = eval o X.env := by rfl)
    (few : ((backTo cpos (starEach [e] X.env)).all (fun x => !x.1) && (backToKw cpos (keywordEach [] X.env)).all (fun x => x.1.isSome)
      && decide (([e] : List Expr).length + ([] : List Keyword).length + (if ([] : List Keyword).isEmpty then 0 else 1) < 30)) = true := by rfl)
    (line : (apos.endLine == cpos.line) = true := by rfl)
    (trees : backTo cpos (starEach [e] X.env) = [(false, eval e X.env)] := by rfl) : PE3 bs X (.Call (.Attribute o "get" apos) [e] [] cpos) (wTGet1 to ti) := by
  refine ⟨fun pins s σ H Q I h => ?_⟩
  obtain ⟨τ, M, Q3, re, rm, q, kk⟩ := h
  refine wpAny_Call_method base few line PySem.F.plainAttrs_dict PySem.F.slot_dict_get PySem.F.type_dict_get (thn (ho.run pins s σ H (fun x H1 => ∃ d M1, Ext M M1 H H1 ∧ RM X.K bs H1 M1 ∧ RD X.K H1 x d ∧ (asRf d fun a => asKvt (kvtOf (M1 a)) fun _ => True) ∧ ti τ M1 fun y M2 => oTGetD d y .non M2 fun v => Q3 v M2) I
    ⟨τ, M, _, re, rm, q, fun v H1 d M1 x1 m1 r1 q1 => ⟨d, M1, x1, m1, r1, q1⟩⟩) fun u s1 ⟨x, H1, I1, rx, d, M1, x1, m1, r1, hd, q1⟩ => ?_)
  cases d with
  | ref a =>
    cases r1
    obtain rfl : u = Value.ref a := rx
    have hd : asKvt (kvtOf (M1 a)) fun _ => True := hd
    unfold asKvt at hd
    split at hd
    · rename_i l0 hl0
      obtain ⟨ks0, hrd0, _⟩ := kvt_rd m1.m hl0
      obtain ⟨t1, t2, _⟩ := isD_at I1 (.inr ⟨ks0, hrd0⟩)
      refine ⟨t1, t2, ?_⟩
      rw [trees]
      refine Calls.callWith_builtin rfl (Calls.evalArgs_plain (Calls.spliced_cons (thn (hi.run pins s1 σ H1 (fun y H2 => ∃ e M2, Ext M1 M2 H1 H2 ∧ RM X.K bs H2 M2 ∧ RD X.K H2 y e ∧ oTGetD (.ref a) e .non M2 fun v => Q3 v M2) I1
        ⟨τ, M1, _, re.go (x1.still rm), m1, q1, fun v H2 e M2 x2 m2 r2 q2 => ⟨e, M2, x2, m2, r2, q2⟩⟩) fun iv s2 ⟨y, H2, I2, ry, e, M2, x2, m2, r2, q3⟩ => Calls.spliced_nil ?_)))
      cases e with
      | tup ds =>
        have q3 : asKs (keysK ds) fun k => asKvt (kvtOf (M2 a)) fun l => Q3 ((valT l k).getD .non) M2 := q3
        unfold asKs at q3
        split at q3
        · rename_i k hk
          unfold asKvt at q3
          split at q3
          · rename_i l hl
            cases r2 with
            | tup sq rs =>
              cases keysK_of rs hk
              rename_i b
              obtain rfl : iv = Value.ref b := ry
              obtain ⟨kvs, hrd, rk⟩ := kvt_rd m2.m hl
              refine d_get1T (by omega) I2 hrd sq fun w' s' I' rw' => ⟨(valV kvs k).getD .non, H2, I', rw', kk _ H2 _ M2 (x1.trans x2) m2 ?_ q3⟩
              rcases rkv_valT (k := k) rk with ⟨e1, e2⟩ | ⟨d, v, e1, e2, rv⟩
              · rw [e1, e2]; exact .non
              · rw [e1, e2]; exact rv
          · exact q3.elim
        · exact q3.elim
      | _ => exact q3.elim
    · exact hd.elim
  | _ => exact hd.elim
end
def kitBs (t : String) : List String → Option Bool
  | [] => some false
  | n :: ns => match kitB t n with
    | some true => some true
    | some false => kitBs t ns
    | none => none
theorem kitBs_ok {K : PySem.W.Frag} {t : String} : ∀ {ns : List String} {b : Bool}, kitBs t ns = some b → PySem.W.kitAny K (.type t) (ns.map Value.type) = some b
  | [], b, h => by
    cases h; rfl
  | n :: ns, b, h => by
    unfold kitBs at h
    split at h
    · rename_i h1
      cases h
      exact kitAny_cons (b := true) (r := true) (L2.kit_ty h1) (fun z => nomatch z) fun _ => rfl
    · rename_i h1
      exact kitAny_cons (b := false) (L2.kit_ty h1) (fun _ => kitBs_ok h) fun z => nomatch z
    · cases h
def tysOf : List D → Option (List String)
  | [] => some []
  | .ty n :: ds => (tysOf ds).map (n :: ·)
  | _ :: _ => none
theorem tysOf_of {K : PySem.W.Frag} {H : Hp} : ∀ {ds : List D} {vs : List V} {ns : List String}, tysOf ds = some ns → RDs K H vs ds → Paired ClsV vs (ns.map Value.type)
  | [], _, _, h, r => by
    cases h; cases r; exact .nil
  | .ty n :: ds, _, _, h, r => by
    unfold tysOf at h
    cases hd : tysOf ds with
    | none => rw [hd] at h; cases h
    | some ns =>
      rw [hd] at h
      cases h
      cases r with
      | cons r rs =>
        cases r
        exact .cons (.ty n) (tysOf_of hd rs)
  | .non :: _, _, _, h, _ => by cases h
  | .bl _ :: _, _, _, h, _ => by cases h
  | .int _ :: _, _, _, h, _ => by cases h
  | .str _ :: _, _, _, h, _ => by cases h
  | .tup _ :: _, _, _, h, _ => by cases h
  | .rol _ :: _, _, _, h, _ => by cases h
  | .ref _ :: _, _, _, h, _ => by cases h
def asTys (o : Option (List String)) (k : List String → Prop) : Prop := match o with
  | some n => k n
  | none => False
def bIsiT : List D → Mp → VK3 → Prop := fun ds M Q => match ds with
  | [d, .tup cs] => asTys (tysOf cs) fun ns => asStr (tyN M d) fun t => asBo (kitBs t ns) fun b => Q (.bl b) M
  | _ => False
theorem c_isiT : CallR X (.builtin "isinstance") (liftV X.K bs bIsiT) := by
  rintro pins s σ H xs us Q I rx ⟨ds, M, Q3, r1, m, q, k⟩
  unfold bIsiT at q
  split at q
  · rename_i d cs
    cases r1 with
    | cons ra r1 =>
      cases r1 with
      | cons rb r1 =>
        cases r1
        cases rb with
        | tup h1 h2 =>
          unfold asTys at q
          split at q
          · rename_i ns hns
            unfold asStr at q
            split at q
            · rename_i t ht
              unfold asBo at q
              split at q
              · rename_i b hb
                obtain ⟨u1, u2, rfl, e1, e2⟩ := vals2 rx
                have e2 : u2 = Value.ref _ := e2
                subst e2
                obtain ⟨P, Z, p, hx⟩ := kit_of I e1 (tyx_of m.m ra ht)
                obtain ⟨its, rv, ⟨o, g1, g2, n, g3⟩, _⟩ := I.tuple h1
                have e3 := ClsV.all (tysOf_of hns h2) rv
                subst e3
                obtain ⟨oc, od, dt, sl⟩ := o
                simp only at g2 g3
                subst g2 g3
                exact PySem.W.kia_tup Z I.kIn p g1 (kitBs_ok hb) hx fun tk => ⟨.bl b, H, I.tok tk, rfl, k _ _ _ M .refl m (.bl _) q⟩
              · exact q.elim
            · exact q.elim
          · exact q.elim
  · exact q.elim
end L3
set_option Elab.async false
set_option linter.all false
set_option maxRecDepth 100000
set_option maxHeartbeats 4000000
namespace L3
open PySem PySem.Spec PyProof.Rows L2
/-- all that M has, M' has -/
def Le (M M' : Mp) : Prop := ∀ a o, M a = some o → M' a = some o
theorem Le.refl {M : Mp} : Le M M := fun _ _ h => h
theorem Le.trans {M M1 M2 : Mp} (x : Le M M1) (y : Le M1 M2) : Le M M2 := fun a o h => y a o (x a o h)
theorem Le.new {M M1 : Mp} {p : Addr} {o : MO} (x : Le M M1) (h : M1 p = none) : Le M (mset M1 p o) := fun a u hu => by
  have z := x a u hu
  rw [mset_ne (ne_m z h)]; exact z
/-- an address that M does not know may be written -/
theorem Le.put {M M1 : Mp} {p : Addr} {o : MO} (x : Le M M1) (h : M p = none) : Le M (mset M1 p o) := fun a u hu => by
  rw [mset_ne (ne_m hu h)]; exact x a u hu
abbrev Ed := Option Int
abbrev Tab := List (List Ed)
def oD : Ed → D
  | none => .non
  | some i => .int i
def rowD (r : List Ed) : D := .tup (r.map oD)
def tabD (T : Tab) : D := .tup (T.map rowD)
theorem st_seq {t u : TS3} {D : Ends3} {τ : St3} {M : Mp} : wSeq t u D τ M = t { D with nx := u D } τ M := rfl
theorem st_next {D : Ends3} {τ : St3} {M : Mp} : wNext D τ M = D.nx τ M := rfl
theorem st_break {D : Ends3} {τ : St3} {M : Mp} : wBreak D τ M = D.bk τ M := rfl
theorem st_cont {D : Ends3} {τ : St3} {M : Mp} : wCont D τ M = D.ct τ M := rfl
theorem st_set {i : Nat} {te : TE3} {D : Ends3} {τ : St3} {M : Mp} : wSet i te D τ M = te τ M fun d M1 => D.nx (setS τ i (some d)) M1 := rfl
theorem st_ret {te : TE3} {D : Ends3} {τ : St3} {M : Mp} : wRet te D τ M = te τ M D.rt := rfl
theorem st_retN {D : Ends3} {τ : St3} {M : Mp} : wRetN D τ M = D.rt .non M := rfl
theorem st_drop {te : TE3} {D : Ends3} {τ : St3} {M : Mp} : wDrop te D τ M = te τ M fun _ M1 => D.nx τ M1 := rfl
theorem st_if {c : TT3} {t u : TS3} {D : Ends3} {τ : St3} {M : Mp} : wIfS c t u D τ M = c τ M fun b M1 => ite3 b (t D τ M1) (u D τ M1) := rfl
theorem st_asg {te : TE3} {g : TG3} {D : Ends3} {τ : St3} {M : Mp} : wAsg te g D τ M = te τ M fun d M1 => g d τ M1 D.nx := rfl
theorem st_par {i j : Nat} {ta : TA3} {D : Ends3} {τ : St3} {M : Mp} : wPar i j ta D τ M = ta τ M fun ds M1 => match ds with | [d, e] => D.nx (setS (setS τ i (some d)) j (some e)) M1 | _ => False := rfl
theorem st_for {wi : TI3} {g : TG3} {tb : TS3} {D : Ends3} {τ : St3} {M : Mp} : wFor wi g tb D τ M = wi τ M fun ds G M1 => forW G g tb D ds τ M1 := rfl
theorem ex_c {d : D} {τ : St3} {M : Mp} {Q : VK3} : wC d τ M Q = Q d M := rfl
theorem ex_var {i : Nat} {τ : St3} {M : Mp} {Q : VK3} : wVar i τ M Q = asS (getS τ i) fun d => Q d M := rfl
theorem ex_op {r : R23} {ta tb : TE3} {τ : St3} {M : Mp} {Q : VK3} : wOp r ta tb τ M Q = ta τ M fun x M1 => tb τ M1 fun y M2 => r x y M2 Q := rfl
theorem ex_un {r : D → Mp → VK3 → Prop} {ta : TE3} {τ : St3} {M : Mp} {Q : VK3} : wUn r ta τ M Q = ta τ M fun x M1 => r x M1 Q := rfl
theorem ex_b {t : TE3} {τ : St3} {M : Mp} {Q : Bool → Mp → Prop} : wB t τ M Q = t τ M fun d M' => asB d fun k => Q k M' := rfl
theorem ex_and {t u : TT3} {τ : St3} {M : Mp} {Q : Bool → Mp → Prop} : wAnd t u τ M Q = t τ M fun c M1 => ite3 c (u τ M1 Q) (Q false M1) := rfl
theorem ex_or {t u : TT3} {τ : St3} {M : Mp} {Q : Bool → Mp → Prop} : wOr t u τ M Q = t τ M fun c M1 => ite3 c (Q true M1) (u τ M1 Q) := rfl
theorem ex_not {t : TT3} {τ : St3} {M : Mp} {Q : Bool → Mp → Prop} : wNot t τ M Q = t τ M fun c M1 => Q (!c) M1 := rfl
theorem ex_andV {ta tb : TE3} {τ : St3} {M : Mp} {Q : VK3} : wAndV ta tb τ M Q = ta τ M fun x M1 => asB x fun c => ite3 c (tb τ M1 Q) (Q (.bl false) M1) := rfl
theorem ex_orV {ta tb : TE3} {τ : St3} {M : Mp} {Q : VK3} : wOrV ta tb τ M Q = ta τ M fun x M1 => asB x fun c => ite3 c (Q (.bl true) M1) (tb τ M1 Q) := rfl
theorem ex_notV {ta : TE3} {τ : St3} {M : Mp} {Q : VK3} : wNotV ta τ M Q = ta τ M fun x M1 => asB x fun c => Q (.bl (!c)) M1 := rfl
theorem ex_if {c : TT3} {ta tb : TE3} {τ : St3} {M : Mp} {Q : VK3} : wIf c ta tb τ M Q = c τ M fun z M1 => ite3 z (ta τ M1 Q) (tb τ M1 Q) := rfl
theorem ex_chain {r r' : R23} {ta tb tc : TE3} {τ : St3} {M : Mp} {Q : VK3} : wChain r r' ta tb tc τ M Q = ta τ M fun x M1 => tb τ M1 fun y M2 => r x y M2 fun z M3 => asB z fun c => ite3 c (tc τ M3 fun w M4 => r' y w M4 Q) (Q (.bl false) M3) := rfl
theorem ex_nil {τ : St3} {M : Mp} {Q : List D → Mp → Prop} : wNil τ M Q = Q [] M := rfl
theorem ex_cons {ta : TE3} {tr : TA3} {τ : St3} {M : Mp} {Q : List D → Mp → Prop} : wCons ta tr τ M Q = ta τ M fun x M1 => tr τ M1 fun xs M2 => Q (x :: xs) M2 := rfl
theorem ex_tup {t : TA3} {τ : St3} {M : Mp} {Q : VK3} : wTup t τ M Q = t τ M fun xs M1 => xs.length ≤ sizeLine ∧ Q (.tup xs) M1 := rfl
theorem ex_lst {t : TA3} {τ : St3} {M : Mp} {Q : VK3} : wLst t τ M Q = t τ M fun xs M1 => xs.length ≤ sizeLine ∧ ∀ p, M1 p = none → Q (.ref p) (mset M1 p (.lst xs)) := rfl
theorem ex_call {sp : Sp3} {E : XK3} {t : TA3} {τ : St3} {M : Mp} {Q : VK3} : wCall sp E t τ M Q = t τ M fun ds M1 => sp ds M1 Q E := rfl
theorem ex_callP {sp : Sp3} {E : XK3} {t : TA3} {τ : St3} {M : Mp} {Q : VK3} : wCallP sp E t τ M Q = t τ M fun ds M1 => sp ds M0 (fun d _ => Q d M1) (fun c fs _ => E c fs M1) := rfl
theorem ex_cb {r : List D → Mp → VK3 → Prop} {t : TA3} {τ : St3} {M : Mp} {Q : VK3} : wCB r t τ M Q = t τ M fun ds M1 => r ds M1 Q := rfl
theorem ex_bm {r : M23} {to : TE3} {t : TA3} {τ : St3} {M : Mp} {Q : VK3} : wBM r to t τ M Q = to τ M fun d M1 => (match d with | .ref a => ∃ ds, M1 a = some (.lst ds) | _ => False) ∧ t τ M1 fun ds M2 => r d ds M2 Q := rfl
theorem ex_rep {te tb : TE3} {τ : St3} {M : Mp} {Q : VK3} : wRep te tb τ M Q = te τ M fun d M1 => tb τ M1 fun i M2 => asI i fun k => -(2 ^ 63) ≤ k ∧ k < 2 ^ 63 ∧ k.toNat ≤ sizeLine ∧ ∀ p, M2 p = none → Q (.ref p) (mset M2 p (.lst (List.replicate k.toNat d))) := rfl
theorem ex_lc {wi : TI3} {g : TG3} {tt : TT3} {te : TE3} {vs : List Nat} {τ : St3} {M : Mp} {Q : VK3} : wLc wi g tt te vs τ M Q = wi τ M fun ds G M1 => lcW G g tt te (wipe3 τ vs) (fun acc M2 => ∀ p, M2 p = none → Q (.ref p) (mset M2 p (.lst acc))) ds [] M1 := rfl
theorem ex_sl {te : TE3} {tl th : St3 → Mp → (Option Int → Mp → Prop) → Prop} {τ : St3} {M : Mp} {Q : VK3} : wSl te tl th τ M Q = te τ M fun d M1 => tl τ M1 fun lo M2 => th τ M2 fun hi M3 => oSl d lo hi M3 Q := rfl
theorem ex_noPart {τ : St3} {M : Mp} {Q : Option Int → Mp → Prop} : wNoPart τ M Q = Q none M := rfl
theorem ex_part {t : TE3} {τ : St3} {M : Mp} {Q : Option Int → Mp → Prop} : wPart t τ M Q = t τ M fun d M1 => asI d fun i => Q (some i) M1 := rfl
theorem ex_yes {τ : St3} {M : Mp} {Q : Bool → Mp → Prop} : wYes τ M Q = Q true M := rfl
theorem it_items {tl : TE3} {τ : St3} {M : Mp} {R : List D → (Mp → Prop) → Mp → Prop} : wItems tl τ M R = tl τ M fun d M1 => asL (items M1 d) fun ds => R ds (keepG M1 d ds) M1 := rfl
theorem it_rng1 {t : TA3} {τ : St3} {M : Mp} {R : List D → (Mp → Prop) → Mp → Prop} : wRng1 t τ M R = t τ M fun ds M1 => match ds with | [.int j] => -(2 ^ 62) ≤ j ∧ j < 2 ^ 62 ∧ R (rgD 0 j.toNat) (fun _ => True) M1 | _ => False := rfl
theorem it_rng2 {t : TA3} {τ : St3} {M : Mp} {R : List D → (Mp → Prop) → Mp → Prop} : wRng2 t τ M R = t τ M fun ds M1 => match ds with | [.int i, .int j] => (-(2 ^ 62) ≤ i ∧ i < 2 ^ 62 ∧ -(2 ^ 62) ≤ j ∧ j < 2 ^ 62) ∧ R (rgD i (j - i).toNat) (fun _ => True) M1 | _ => False := rfl
theorem tg_name {i : Nat} {d : D} {τ : St3} {M : Mp} {Q : St3 → Mp → Prop} : wgName i d τ M Q = Q (setS τ i (some d)) M := rfl
theorem tg_sub {to ti : TE3} {t : TSet3} {d : D} {τ : St3} {M : Mp} {Q : St3 → Mp → Prop} : wgSub to ti t d τ M Q = to τ M fun o M1 => ti τ M1 fun i M2 => t o i d M2 fun M3 => Q τ M3 := rfl
theorem tg_tup {n : Nat} {t : TGs3} {ds : List D} {τ : St3} {M : Mp} {Q : St3 → Mp → Prop} : wgTupN n t (.tup ds) τ M Q = (ds.length = n ∧ t ds τ M Q) := rfl
theorem tg_cons {t : TG3} {u : TGs3} {d : D} {r : List D} {τ : St3} {M : Mp} {Q : St3 → Mp → Prop} : wgCons t u (d :: r) τ M Q = t d τ M fun τ' M' => u r τ' M' Q := rfl
theorem tg_nil {τ : St3} {M : Mp} {Q : St3 → Mp → Prop} : wgNil [] τ M Q = Q τ M := rfl
theorem gs_0 {d : Option D} {τ : St3} : getS (d :: τ) 0 = d := rfl
theorem gs_s {d : Option D} {τ : St3} {i : Nat} : getS (d :: τ) (i + 1) = getS τ i := rfl
theorem ss_0 {d e : Option D} {τ : St3} : setS (d :: τ) 0 e = e :: τ := rfl
theorem ss_s {d e : Option D} {τ : St3} {i : Nat} : setS (d :: τ) (i + 1) e = d :: setS τ i e := rfl
theorem op_ii {i j : Int} {M : Mp} {Q : VK3} : oAdd (.int i) (.int j) M Q = Q (.int (i + j)) M := rfl
theorem op_ss {i j : Str} {M : Mp} {Q : VK3} : oAdd (.str i) (.str j) M Q = (i.length + j.length ≤ sizeLine ∧ Q (.str (i ++ j)) M) := rfl
theorem op_tt {i j : List D} {M : Mp} {Q : VK3} : oAdd (.tup i) (.tup j) M Q = (i.length + j.length ≤ sizeLine ∧ Q (.tup (i ++ j)) M) := rfl
theorem op_mm {i j : Int} {M : Mp} {Q : VK3} : oMul (.int i) (.int j) M Q = (IntMulOk i j ∧ Q (.int (i * j)) M) := rfl
theorem op_sb {d e : D} {M : Mp} {Q : VK3} : oSub d e M Q = asI d fun i => asI e fun j => Q (.int (i - j)) M := rfl
theorem op_in {C : Int → Int → Prop} {g : Int → Int → Int} {d e : D} {M : Mp} {Q : VK3} : oInt C g d e M Q = asI d fun i => asI e fun j => C i j ∧ Q (.int (g i j)) M := rfl
theorem op_ng {d : D} {M : Mp} {Q : VK3} : oNeg d M Q = asI d fun i => Q (.int (-i)) M := rfl
theorem op_cp {p : Int → Int → Bool} {d e : D} {M : Mp} {Q : VK3} : oCmp p d e M Q = asI d fun i => asI e fun j => Q (.bl (p i j)) M := rfl
theorem op_iNf {d : D} {M : Mp} {Q : VK3} : oIsN false d .non M Q = Q (.bl (isN d)) M := rfl
theorem op_iNt {d : D} {M : Mp} {Q : VK3} : oIsN true d .non M Q = Q (.bl (!isN d)) M := rfl
theorem op_ixT {ds : List D} {e : D} {M : Mp} {Q : VK3} : oIx (.tup ds) e M Q = asI e fun i => asS (atI ds i) fun v => Q v M := rfl
theorem op_ixR {ds : List D} {e : D} {M : Mp} {Q : VK3} : oIx (.rol ds) e M Q = asI e fun i => asS (atI ds i) fun v => Q v M := rfl
theorem op_ixL {a : Addr} {e : D} {M : Mp} {Q : VK3} : oIx (.ref a) e M Q = asI e fun i => asL (lstOf (M a)) fun ds => asS (atI ds i) fun v => Q v M := rfl
theorem it_tupE {M : Mp} {ds : List D} : items M (.tup ds) = some ds := rfl
theorem it_rolE {M : Mp} {ds : List D} : items M (.rol ds) = some ds := rfl
theorem it_refE {M : Mp} {a : Addr} : items M (.ref a) = lstOf (M a) := rfl
theorem lstOf_l {ds : List D} : lstOf (some (.lst ds)) = some ds := rfl
theorem bl_1 {r : D → Mp → VK3 → Prop} {d : D} {M : Mp} {Q : VK3} : b1 r [d] M Q = r d M Q := rfl
theorem bl_lenT {M : Mp} {ds : List D} {Q : VK3} : bLen [.tup ds] M Q = Q (.int ds.length) M := rfl
theorem bl_lenR {M : Mp} {ds : List D} {Q : VK3} : bLen [.rol ds] M Q = Q (.int ds.length) M := rfl
theorem bl_lenL {M : Mp} {a : Addr} {Q : VK3} : bLen [.ref a] M Q = asL (lstOf (M a)) fun ds => Q (.int ds.length) M := rfl
theorem bl_lenS {M : Mp} {z : Str} {Q : VK3} : bLen [.str z] M Q = (z.length ≤ sizeLine ∧ Q (.int z.length) M) := rfl
theorem bl_tuple {M : Mp} {d : D} {Q : VK3} : bTuple [d] M Q = asL (items M d) fun ds => Q (.tup ds) M := rfl
theorem bl_list {M : Mp} {d : D} {Q : VK3} : bList [d] M Q = asL (items M d) fun ds => ∀ p, M p = none → Q (.ref p) (mset M p (.lst ds)) := rfl
theorem bl_abs {M : Mp} {d : D} {Q : VK3} : bAbs [d] M Q = asI d fun i => Q (.int (if i < 0 then -i else i)) M := rfl
theorem bl_intI {M : Mp} {i : Int} {Q : VK3} : bInt [.int i] M Q = Q (.int i) M := rfl
theorem bl_intB {M : Mp} {i : Bool} {Q : VK3} : bInt [.bl i] M Q = Q (.int (if i then 1 else 0)) M := rfl
theorem bl_max {M : Mp} {i j : Int} {Q : VK3} : bMax [.int i, .int j] M Q = Q (.int (if j > i then j else i)) M := rfl
theorem bl_min {M : Mp} {i j : Int} {Q : VK3} : bMin [.int i, .int j] M Q = Q (.int (if j < i then j else i)) M := rfl
theorem bl_repr {M : Mp} {d : D} {Q : VK3} : bRepr [d] M Q = (Sh (top M d) ∧ Q (.str (shown (top M d))) M) := rfl
theorem op_eqSf {x y : Str} {M : Mp} {Q : VK3} : oEq false (.str x) (.str y) M Q = Q (.bl (decide (x = y))) M := rfl
theorem op_eqSt {x y : Str} {M : Mp} {Q : VK3} : oEq true (.str x) (.str y) M Q = Q (.bl (!decide (x = y))) M := rfl
theorem op_eqIf {x : Int} {e : D} {M : Mp} {Q : VK3} : oEq false (.int x) e M Q = (Pl (.int x) ∧ Pl (top M e) ∧ Q (.bl (eqD (.int x) (top M e))) M) := rfl
theorem op_eqIt {x : Int} {e : D} {M : Mp} {Q : VK3} : oEq true (.int x) e M Q = (Pl (.int x) ∧ Pl (top M e) ∧ Q (.bl (!eqD (.int x) (top M e))) M) := rfl
theorem op_eqTf {x : List D} {e : D} {M : Mp} {Q : VK3} : oEq false (.tup x) e M Q = (Pl (.tup x) ∧ Pl (top M e) ∧ Q (.bl (eqD (.tup x) (top M e))) M) := rfl
theorem op_eqTt {x : List D} {e : D} {M : Mp} {Q : VK3} : oEq true (.tup x) e M Q = (Pl (.tup x) ∧ Pl (top M e) ∧ Q (.bl (!eqD (.tup x) (top M e))) M) := rfl
theorem op_eqRf {x : Addr} {e : D} {M : Mp} {Q : VK3} : oEq false (.ref x) e M Q = (Pl (top M (.ref x)) ∧ Pl (top M e) ∧ Q (.bl (eqD (top M (.ref x)) (top M e))) M) := rfl
theorem op_eqRt {x : Addr} {e : D} {M : Mp} {Q : VK3} : oEq true (.ref x) e M Q = (Pl (top M (.ref x)) ∧ Pl (top M e) ∧ Q (.bl (!eqD (top M (.ref x)) (top M e))) M) := rfl
theorem op_eqNf {e : D} {M : Mp} {Q : VK3} : oEq false .non e M Q = (Pl .non ∧ Pl (top M e) ∧ Q (.bl (eqD .non (top M e))) M) := rfl
theorem op_eqNt {e : D} {M : Mp} {Q : VK3} : oEq true .non e M Q = (Pl .non ∧ Pl (top M e) ∧ Q (.bl (!eqD .non (top M e))) M) := rfl
theorem eqD_int {i j : Int} : eqD (.int i) (.int j) = decide (i = j) := by
  simp only [eqD, pdOf, PyData.eqv]
  rw [Bool.eq_iff_iff]; simp
theorem eqD_nil {x : List D} : eqD (.tup x) (.tup []) = x.isEmpty := by
  cases x <;> simp only [eqD, pdOf, pdsOf, PyData.eqv, PyData.eqvAll, List.isEmpty]
theorem pl_int {i : Int} : Pl (.int i) = True := eq_true ⟨rfl, Nat.zero_le _⟩
theorem pl_nil : Pl (.tup []) = True := eq_true ⟨rfl, by decide⟩
theorem pl_non : Pl .non = True := eq_true ⟨rfl, by decide⟩
theorem pl_rnil : Pl (.rol []) = True := eq_true ⟨rfl, by decide⟩
theorem pl_bl {b : Bool} : Pl (.bl b) = True := eq_true ⟨rfl, Nat.zero_le _⟩
theorem op_lle {a b : Addr} {M : Mp} {Q : VK3} : oAdd (.ref a) (.ref b) M Q = asL (lstOf (M a)) fun xs => asL (lstOf (M b)) fun ys => xs.length + ys.length ≤ sizeLine ∧ ∀ p, M p = none → Q (.ref p) (mset M p (.lst (xs ++ ys))) := by
  simp only [oAdd]
  cases M a with
  | none => rfl
  | some o =>
    cases o with
    | lst xs =>
      cases M b with
      | none => rfl
      | some u => cases u <;> rfl
    | _ => cases M b <;> rfl
theorem sl_tupE {ds : List D} {lo hi : Option Int} {M : Mp} {Q : VK3} : oSl (.tup ds) lo hi M Q = Q (.tup (cutD ds lo hi)) M := rfl
theorem sl_rolE {ds : List D} {lo hi : Option Int} {M : Mp} {Q : VK3} : oSl (.rol ds) lo hi M Q = ∀ p, M p = none → Q (.ref p) (mset M p (.lst (cutD ds lo hi))) := rfl
/-- a comprehension by what holds of the turn, what is made, M -/
theorem lc_pv {G : Mp → Prop} {g : TG3} {tt : TT3} {te : TE3} {τ : St3} {Q : List D → Mp → Prop} {ds : List D} (Pv : Nat → List D → Mp → Prop)
    (step : ∀ i d acc M, ds[i]? = some d → Pv i acc M → ∀ X : List D → Mp → Prop, (∀ acc' M', Pv (i + 1) acc' M' → X acc' M') → G M ∧ g d τ M fun τ2 M2 => tt τ2 M2 fun b M3 => ite3 b (te τ2 M3 fun y M4 => acc.length < sizeLine ∧ X (acc ++ [y]) M4) (X acc M3))
    (fin : ∀ acc M, Pv ds.length acc M → G M ∧ Q acc M) {M : Mp} (h0 : Pv 0 [] M) : lcW G g tt te τ Q ds [] M := by
  have go : ∀ (k i : Nat) (acc : List D) (M : Mp), ds.length - i = k → i ≤ ds.length → Pv i acc M → lcW G g tt te τ Q (ds.drop i) acc M := by
    intro k
    induction k with
    | zero =>
      intro i acc M hk hi p
      have e : i = ds.length := by omega
      subst e
      rw [List.drop_length]
      exact fin acc M p
    | succ k ih =>
      intro i acc M hk hi p
      have hlt : i < ds.length := by omega
      rw [List.drop_eq_getElem_cons hlt]
      exact step i _ acc M (List.getElem?_eq_getElem hlt) p _ fun acc' M' p' => ih (i + 1) acc' M' (by omega) hlt p'
  exact go _ 0 [] M rfl (Nat.zero_le _) h0
/-- a for by what holds ahead of each turn -/
theorem for_pv {G : Mp → Prop} {g : TG3} {tb : TS3} {E : Ends3} {ds : List D} (Pv : Nat → St3 → Mp → Prop)
    (step : ∀ i d τ M, ds[i]? = some d → Pv i τ M → ∀ X : St3 → Mp → Prop, (∀ τ' M', Pv (i + 1) τ' M' → X τ' M') → G M ∧ g d τ M fun τ2 M2 => tb { E with nx := X, ct := X, bk := E.nx } τ2 M2)
    (fin : ∀ τ M, Pv ds.length τ M → G M ∧ E.nx τ M) {τ : St3} {M : Mp} (h0 : Pv 0 τ M) : forW G g tb E ds τ M := by
  have go : ∀ (k i : Nat) (τ : St3) (M : Mp), ds.length - i = k → i ≤ ds.length → Pv i τ M → forW G g tb E (ds.drop i) τ M := by
    intro k
    induction k with
    | zero =>
      intro i τ M hk hi p
      have e : i = ds.length := by omega
      subst e
      rw [List.drop_length]
      exact fin τ M p
    | succ k ih =>
      intro i τ M hk hi p
      have hlt : i < ds.length := by omega
      rw [List.drop_eq_getElem_cons hlt]
      exact step i _ τ M (List.getElem?_eq_getElem hlt) p _ fun τ' M' p' => ih (i + 1) τ' M' (by omega) hlt p'
  exact go _ 0 τ M rfl (Nat.zero_le _) h0
theorem rgD_len (lo : Int) (n : Nat) : (rgD lo n).length = n := by unfold rgD; simp
/-- over a range -/
theorem for_rg {g : TG3} {tb : TS3} {E : Ends3} {lo : Int} {n : Nat} (Pv : Nat → St3 → Mp → Prop)
    (step : ∀ i τ M, i < n → Pv i τ M → ∀ X : St3 → Mp → Prop, (∀ τ' M', Pv (i + 1) τ' M' → X τ' M') → g (.int (lo + (i : Nat))) τ M fun τ2 M2 => tb { E with nx := X, ct := X, bk := E.nx } τ2 M2)
    (fin : ∀ τ M, Pv n τ M → E.nx τ M) {τ : St3} {M : Mp} (h0 : Pv 0 τ M) : forW (fun _ => True) g tb E (rgD lo n) τ M :=
  for_pv Pv (fun i d τ M hd p X hX => by
    obtain ⟨hi, rfl⟩ := rgD_get hd
    exact ⟨True.intro, step i τ M hi p X hX⟩) (fun τ M p => ⟨True.intro, fin τ M (by rw [rgD_len] at p; exact p)⟩) h0
theorem while_pv {c : TT3} {tb : TS3} {E : Ends3} (Pv : Nat → St3 → Mp → Prop)
    (step : ∀ n τ M, Pv n τ M → ∀ X : St3 → Mp → Prop, (∀ m τ' M', m < n → Pv m τ' M' → X τ' M') → c τ M fun b M1 => ite3 b (tb { E with nx := X, ct := X, bk := E.nx } τ M1) (E.nx τ M1)) {n : Nat} {τ : St3} {M : Mp} (h0 : Pv n τ M) : wWhile c tb E τ M := by
  refine ⟨n + 1, ?_⟩
  have go : ∀ k n τ M, n ≤ k → Pv n τ M → whileW c tb E (k + 1) τ M := by
    intro k
    induction k with
    | zero =>
      intro n τ M hn p
      exact step n τ M p _ fun m τ' M' hm p' => by omega
    | succ k ih =>
      intro n τ M hn p
      exact step n τ M p _ fun m τ' M' hm p' => ih m τ' M' (by omega) p'
  exact go n n τ M (Nat.le_refl _) h0
structure Mat (M : Mp) (e : Addr) (as : List Addr) (T : Tab) : Prop where
  top : M e = some (.lst (as.map D.ref))
  len : as.length = T.length
  row : ∀ (i : Nat) (a : Addr) (r : List Ed), as[i]? = some a → T[i]? = some r → M a = some (.lst (r.map oD))
  nd : as.Nodup
  ne : e ∉ as
theorem Mat.le {M M' : Mp} {e : Addr} {as : List Addr} {T : Tab} (m : Mat M e as T) (l : Le M M') : Mat M' e as T :=
  ⟨l _ _ m.top, m.len, fun i a r h1 h2 => l _ _ (m.row i a r h1 h2), m.nd, m.ne⟩
/-- so many rows laid, the list of them not yet -/
structure Rows (M M' : Mp) (as : List Addr) (T : Tab) : Prop where
  le : Le M M'
  len : as.length = T.length
  row : ∀ (i : Nat) (a : Addr) (r : List Ed), as[i]? = some a → T[i]? = some r → M' a = some (.lst (r.map oD))
  nd : as.Nodup
  new : ∀ a ∈ as, M a = none
theorem Rows.nil {M : Mp} : Rows M M [] [] := ⟨.refl, rfl, fun _ _ _ h => by simp at h, List.nodup_nil, fun _ h => by simp at h⟩
theorem Rows.snoc {M M' : Mp} {as : List Addr} {T : Tab} {p : Addr} {r : List Ed} (x : Rows M M' as T) (hp : M' p = none) : Rows M (mset M' p (.lst (r.map oD))) (as ++ [p]) (T ++ [r]) := by
  have np : ∀ a ∈ as, a ≠ p := fun a ha => by
    obtain ⟨i, hi, e⟩ := List.mem_iff_getElem.mp ha
    have hT : i < T.length := by rw [← x.len]; exact hi
    exact ne_m (x.row i a T[i] (by rw [List.getElem?_eq_getElem hi, e]) (List.getElem?_eq_getElem hT)) hp
  refine ⟨x.le.new hp, by simp [x.len], fun i a q h1 h2 => ?_, ?_, fun a ha => ?_⟩
  · by_cases hi : i < as.length
    · rw [List.getElem?_append_left hi] at h1
      rw [List.getElem?_append_left (by rw [← x.len]; exact hi)] at h2
      rw [mset_ne (np a (List.mem_of_getElem? h1))]
      exact x.row i a q h1 h2
    · have e : i = as.length := by
        have := (List.getElem?_eq_some_iff.mp h1).1
        simp at this; omega
      subst e
      have h1' : p = a := by simpa using h1
      rw [x.len] at h2
      have h2' : r = q := by simpa using h2
      rw [← h1', mset_same, h2']
  · rw [List.nodup_append]
    exact ⟨x.nd, by simp, fun a ha b hb => by rw [List.mem_singleton] at hb; rw [hb]; exact np a ha⟩
  · rcases List.mem_append.mp ha with h | h
    · exact x.new a h
    · rw [List.mem_singleton] at h; subst h
      cases q : M a with
      | none => rfl
      | some o => rw [x.le a o q] at hp; cases hp
theorem Rows.mat {M M' : Mp} {as : List Addr} {T : Tab} {p : Addr} (x : Rows M M' as T) (hp : M' p = none) : Mat (mset M' p (.lst (as.map D.ref))) p as T ∧ Le M (mset M' p (.lst (as.map D.ref))) := by
  have np : ∀ a ∈ as, a ≠ p := fun a ha => by
    obtain ⟨i, hi, e⟩ := List.mem_iff_getElem.mp ha
    have hT : i < T.length := by rw [← x.len]; exact hi
    exact ne_m (x.row i a T[i] (by rw [List.getElem?_eq_getElem hi, e]) (List.getElem?_eq_getElem hT)) hp
  refine ⟨⟨mset_same, x.len, fun i a r h1 h2 => ?_, x.nd, fun h => np p h rfl⟩, x.le.new hp⟩
  rw [mset_ne (np a (List.mem_of_getElem? h1))]
  exact x.row i a r h1 h2
/-- a matrix's end stored -/
theorem Mat.put {M : Mp} {e : Addr} {as : List Addr} {T : Tab} {p : Nat} {a : Addr} {r r' : List Ed} (m : Mat M e as T) (ha : as[p]? = some a) (hr : T[p]? = some r) : Mat (mset M a (.lst (r'.map oD))) e as (T.set p r') := by
  have nea : e ≠ a := fun h => m.ne (h ▸ List.mem_of_getElem? ha)
  refine ⟨by rw [mset_ne nea]; exact m.top, by rw [List.length_set]; exact m.len, fun i b q h1 h2 => ?_, m.nd, m.ne⟩
  by_cases hi : i = p
  · subst hi
    rw [ha] at h1; cases h1
    rw [List.getElem?_set_self (List.getElem?_eq_some_iff.mp hr).1] at h2
    cases h2
    exact mset_same
  · rw [List.getElem?_set_ne (Ne.symm hi)] at h2
    have : b ≠ a := fun h => by subst h; exact hi (nd_ix m.nd h1 ha)
    rw [mset_ne this]
    exact m.row i b q h1 h2
theorem Mat.at {M : Mp} {e : Addr} {as : List Addr} {T : Tab} {p : Nat} {r : List Ed} (m : Mat M e as T) (hr : T[p]? = some r) : ∃ a, as[p]? = some a ∧ M a = some (.lst (r.map oD)) := by
  have hp : p < as.length := by rw [m.len]; exact (List.getElem?_eq_some_iff.mp hr).1
  exact ⟨as[p], List.getElem?_eq_getElem hp, m.row p _ r (List.getElem?_eq_getElem hp) hr⟩
theorem items_ref {M : Mp} {a : Addr} {ds : List D} (h : M a = some (.lst ds)) : items M (.ref a) = some ds := by
  simp only [items, h]; rfl
theorem atI_nat' {α : Type} {xs : List α} {i : Int} {v : α} (h0 : 0 ≤ i) (h : xs[i.toNat]? = some v) : atI xs i = some v := by
  have e : i = ((i.toNat : Nat) : Int) := by omega
  rw [e]; exact atI_nat h
theorem ixN_nat {n : Nat} {i : Int} (h0 : 0 ≤ i) (h1 : i < n) : ixN n i = some i.toNat := by
  unfold ixN
  rw [if_pos h0, if_pos h1]
theorem ex_lstF {t : TA3} {τ : St3} {M : Mp} {Q : VK3} : wLstF t τ M Q = t τ M fun xs M1 => xs.length ≤ sizeLine ∧ Q (.rol xs) M1 := rfl
theorem ex_repF {te tb : TE3} {τ : St3} {M : Mp} {Q : VK3} : wRepF te tb τ M Q = te τ M fun d M1 => tb τ M1 fun i M2 => asI i fun k => -(2 ^ 63) ≤ k ∧ k < 2 ^ 63 ∧ k.toNat ≤ sizeLine ∧ Q (.rol (List.replicate k.toNat d)) M2 := rfl
theorem ex_lgF1 {ta : TE3} {τ : St3} {M : Mp} {Q : VK3} : wLstRgF1 ta τ M Q = ta τ M fun d M1 => asI d fun n => (-(2 ^ 62) ≤ n ∧ n ≤ 16777216) ∧ Q (.rol (rgD 0 n.toNat)) M1 := rfl
theorem ex_lgF2 {ta tb : TE3} {τ : St3} {M : Mp} {Q : VK3} : wLstRgF2 ta tb τ M Q = ta τ M fun d M1 => tb τ M1 fun e M2 => asI d fun i => asI e fun j => (-(2 ^ 60) ≤ i ∧ i < 2 ^ 60 ∧ -(2 ^ 60) ≤ j ∧ j < 2 ^ 60 ∧ j - i ≤ 16777216) ∧ Q (.rol (rgD i (j - i).toNat)) M2 := rfl
theorem ex_tupRg1 {ta : TE3} {τ : St3} {M : Mp} {Q : VK3} : wTupRg1 ta τ M Q = ta τ M fun d M1 => asI d fun n => (-(2 ^ 62) ≤ n ∧ n ≤ 16777216) ∧ Q (.tup (rgD 0 n.toNat)) M1 := rfl
theorem ex_tupRg2 {ta tb : TE3} {τ : St3} {M : Mp} {Q : VK3} : wTupRg2 ta tb τ M Q = ta τ M fun d M1 => tb τ M1 fun e M2 => asI d fun i => asI e fun j => (-(2 ^ 60) ≤ i ∧ i < 2 ^ 60 ∧ -(2 ^ 60) ≤ j ∧ j < 2 ^ 60 ∧ j - i ≤ 16777216) ∧ Q (.tup (rgD i (j - i).toNat)) M2 := rfl
theorem ex_lcF {wi : TI3} {g : TG3} {tt : TT3} {te : TE3} {vs : List Nat} {τ : St3} {M : Mp} {Q : VK3} : wLcF wi g tt te vs τ M Q = wi τ M fun ds G M1 => lcW G g tt te (wipe3 τ vs) (fun acc M2 => Q (.rol acc) M2) ds [] M1 := rfl
theorem ex_frz {te : TE3} {τ : St3} {M : Mp} {Q : VK3} : wFrz te τ M Q = te τ M (frzK Q) := rfl
theorem frz_l {p : Addr} {ds : List D} {M : Mp} {Q : VK3} (h : M p = some (.lst ds)) : frzK Q (.ref p) M = Q (.rol ds) (mdel M p) := by simp only [frzK, h]
theorem ex_slF {te : TE3} {tl th : PT3o} {τ : St3} {M : Mp} {Q : VK3} : wSlF te tl th τ M Q = te τ M fun d M1 => tl τ M1 fun lo M2 => th τ M2 fun hi M3 => oSlF d lo hi M3 Q := rfl
theorem ex_slM {te : TE3} {tl th : PT3o} {τ : St3} {M : Mp} {Q : VK3} : wSlM te tl th τ M Q = te τ M fun d M1 => tl τ M1 fun lo M2 => th τ M2 fun hi M3 => oSlM d lo hi M3 Q := rfl
theorem sl_tupF {ds : List D} {lo hi : Option Int} {M : Mp} {Q : VK3} : oSlF (.tup ds) lo hi M Q = Q (.tup (cutD ds lo hi)) M := rfl
theorem sl_rolF {ds : List D} {lo hi : Option Int} {M : Mp} {Q : VK3} : oSlF (.rol ds) lo hi M Q = Q (.rol (cutD ds lo hi)) M := rfl
theorem op_iiF {i j : Int} {M : Mp} {Q : VK3} : oAddF (.int i) (.int j) M Q = Q (.int (i + j)) M := rfl
theorem op_ssF {i j : Str} {M : Mp} {Q : VK3} : oAddF (.str i) (.str j) M Q = (i.length + j.length ≤ sizeLine ∧ Q (.str (i ++ j)) M) := rfl
theorem op_ttF {i j : List D} {M : Mp} {Q : VK3} : oAddF (.tup i) (.tup j) M Q = (i.length + j.length ≤ sizeLine ∧ Q (.tup (i ++ j)) M) := rfl
theorem op_rrF {i j : List D} {M : Mp} {Q : VK3} : oAddF (.rol i) (.rol j) M Q = (i.length + j.length ≤ sizeLine ∧ Q (.rol (i ++ j)) M) := rfl
theorem op_rrM {i j : List D} {M : Mp} {Q : VK3} : oAddM (.rol i) (.rol j) M Q = (i.length + j.length ≤ sizeLine ∧ ∀ p, M p = none → Q (.ref p) (mset M p (.lst (i ++ j)))) := rfl
theorem op_mmF {i j : Int} {M : Mp} {Q : VK3} : oMulF (.int i) (.int j) M Q = (IntMulOk i j ∧ Q (.int (i * j)) M) := rfl
theorem op_repF {xs : List D} {e : D} {M : Mp} {Q : VK3} : oMulF (.rol xs) e M Q = asI e fun k => -(2 ^ 63) ≤ k ∧ k < 2 ^ 63 ∧ xs.length * k.toNat ≤ sizeLine ∧ Q (.rol (List.replicate k.toNat xs).flatten) M := rfl
theorem rep2 {x : D} : List.replicate (Int.toNat 2) x = [x, x] := rfl
theorem li_rol {M : Mp} {ds : List D} : lstI M (.rol ds) = some ds := rfl
theorem li_ref {M : Mp} {a : Addr} : lstI M (.ref a) = lstOf (M a) := rfl
theorem bl_listF {M : Mp} {d : D} {Q : VK3} : bListF [d] M Q = asL (items M d) fun ds => Q (.rol ds) M := rfl
theorem bl_allF {M : Mp} {d : D} {Q : VK3} : bAllF [d] M Q = asL (lstI M d) fun ds => asT (bls ds) fun l => Q (.bl (l.all id)) M := rfl
theorem bl_anyF {M : Mp} {d : D} {Q : VK3} : bAnyF [d] M Q = asL (lstI M d) fun ds => asT (bls ds) fun l => Q (.bl (l.any id)) M := rfl
theorem asT_some {l : List Bool} {k : List Bool → Prop} : asT (some l) k = k l := rfl
theorem asJ_some {l : List Int} {k : List Int → Prop} : asJ (some l) k = k l := rfl
theorem op_extF {a : Addr} {e : D} {M : Mp} {Q : VK3} : oExtF (.ref a) [e] M Q = asL (lstOf (M a)) fun xs => asL (lstI M e) fun ys => xs.length + ys.length ≤ sizeLine ∧ Q .non (mset M a (.lst (xs ++ ys))) := rfl
theorem op_eqLf {x : List D} {e : D} {M : Mp} {Q : VK3} : oEq false (.rol x) e M Q = (Pl (.rol x) ∧ Pl (top M e) ∧ Q (.bl (eqD (.rol x) (top M e))) M) := rfl
theorem op_eqLt {x : List D} {e : D} {M : Mp} {Q : VK3} : oEq true (.rol x) e M Q = (Pl (.rol x) ∧ Pl (top M e) ∧ Q (.bl (!eqD (.rol x) (top M e))) M) := rfl
theorem op_eqBf {x : Bool} {e : D} {M : Mp} {Q : VK3} : oEq false (.bl x) e M Q = (Pl (.bl x) ∧ Pl (top M e) ∧ Q (.bl (eqD (.bl x) (top M e))) M) := rfl
theorem op_eqBt {x : Bool} {e : D} {M : Mp} {Q : VK3} : oEq true (.bl x) e M Q = (Pl (.bl x) ∧ Pl (top M e) ∧ Q (.bl (!eqD (.bl x) (top M e))) M) := rfl
theorem it_enumF {t : TA3} {τ : St3} {M : Mp} {R : List D → (Mp → Prop) → Mp → Prop} : wEnum t τ M R = t τ M fun ds M1 => match ds with
  | [d] => asL (items M1 d) fun xs => R (enD xs) (keepG M1 d xs) M1
  | _ => False := rfl
theorem bls_map {α : Type} (g : α → Bool) : ∀ l : List α, bls (l.map fun x => D.bl (g x)) = some (l.map g)
  | [] => rfl
  | x :: r => by
    show (bls (r.map fun x => D.bl (g x))).map (g x :: ·) = _
    rw [bls_map g r]; rfl
/-- a comprehension over items by what they are made of -/
theorem lc_of {α : Type} {G : Mp → Prop} {g : TG3} {te : TE3} {τ : St3} {Q : List D → Mp → Prop} {M : Mp} (enc : α → D) (f : α → D) (hG : G M) (xs : List α) (hl : xs.length ≤ sizeLine)
    (h : ∀ x ∈ xs, ∀ k : D → Mp → Prop, k (f x) M → g (enc x) τ M fun τ2 M2 => te τ2 M2 k) (q : Q (xs.map f) M) : lcW G g wYes te τ Q (xs.map enc) [] M := by
  have go : ∀ (ys : List α) (acc : List D), acc.length + ys.length ≤ sizeLine → (∀ x ∈ ys, x ∈ xs) → Q (acc ++ ys.map f) M → lcW G g wYes te τ Q (ys.map enc) acc M := by
    intro ys
    induction ys with
    | nil => intro acc _ _ q; exact ⟨hG, by simpa using q⟩
    | cons y ys ih =>
      intro acc hl hm q
      refine ⟨hG, h y (hm y (by simp)) _ ⟨by simp at hl; omega, ih _ (by simp at hl ⊢; omega) (fun x hx => hm x (by simp [hx])) (by simpa using q)⟩⟩
  exact go xs [] (by simpa using hl) (fun _ h => h) (by simpa using q)
/-- .. some of them -/
theorem lc_if {α : Type} {G : Mp → Prop} {g : TG3} {tt : TT3} {te : TE3} {τ : St3} {Q : List D → Mp → Prop} {M : Mp} (enc : α → D) (c : α → Bool) (f : α → D) (hG : G M) (xs : List α) (hl : xs.length ≤ sizeLine)
    (h : ∀ x ∈ xs, ∀ k : D → Mp → Prop, ∀ k2 : Mp → Prop, (c x = true → k (f x) M) → (c x = false → k2 M) → g (enc x) τ M fun τ2 M2 => tt τ2 M2 fun b M3 => ite3 b (te τ2 M3 k) (k2 M3)) (q : Q ((xs.filter c).map f) M) : lcW G g tt te τ Q (xs.map enc) [] M := by
  have go : ∀ (ys : List α) (acc : List D), acc.length + ys.length ≤ sizeLine → (∀ x ∈ ys, x ∈ xs) → Q (acc ++ (ys.filter c).map f) M → lcW G g tt te τ Q (ys.map enc) acc M := by
    intro ys
    induction ys with
    | nil => intro acc _ _ q; exact ⟨hG, by simpa using q⟩
    | cons y ys ih =>
      intro acc hl hm q
      refine ⟨hG, h y (hm y (by simp)) _ _ (fun hc => ⟨by simp at hl; omega, ih _ (by simp at hl ⊢; omega) (fun x hx => hm x (by simp [hx])) ?_⟩) fun hc => ih _ (by simp at hl ⊢; omega) (fun x hx => hm x (by simp [hx])) ?_⟩
      · simpa [List.filter_cons, hc] using q
      · simpa [List.filter_cons, hc] using q
  exact go xs [] (by simpa using hl) (fun _ h => h) (by simpa using q)
/-- over items by what they are made of -/
theorem for_of {α : Type} {G : Mp → Prop} {g : TG3} {tb : TS3} {E : Ends3} {xs : List α} (enc : α → D) (Pv : Nat → St3 → Mp → Prop) (hG : ∀ i τ M, Pv i τ M → G M)
    (step : ∀ i x τ M, xs[i]? = some x → Pv i τ M → ∀ X : St3 → Mp → Prop, (∀ τ' M', Pv (i + 1) τ' M' → X τ' M') → g (enc x) τ M fun τ2 M2 => tb { E with nx := X, ct := X, bk := E.nx } τ2 M2)
    (fin : ∀ τ M, Pv xs.length τ M → E.nx τ M) {τ : St3} {M : Mp} (h0 : Pv 0 τ M) : forW G g tb E (xs.map enc) τ M :=
  for_pv Pv (fun i d τ M hd p X hX => by
    rw [List.getElem?_map] at hd
    obtain ⟨x, hx, rfl⟩ := Option.map_eq_some_iff.mp hd
    exact ⟨hG i τ M p, step i x τ M hx p X hX⟩) (fun τ M p => ⟨hG _ τ M p, fin τ M (by rw [List.length_map] at p; exact p)⟩) h0
end L3
set_option Elab.async false
set_option linter.all false
set_option maxRecDepth 100000
set_option maxHeartbeats 4000000
namespace L3
open PySem PySem.Spec PyProof.Rows L2
def asN (o : Option Nat) (k : Nat → Prop) : Prop := match o with
  | some n => k n
  | none => False
theorem asN_some {n : Nat} {k : Nat → Prop} : asN (some n) k = k n := rfl
theorem exL {xs : List D} : (∃ ds, some (MO.lst xs) = some (MO.lst ds)) = True := eq_true ⟨xs, rfl⟩
theorem op_putE {a : Addr} {k : Int} {v : D} {M : Mp} {Q : Mp → Prop} : oPut (.ref a) (.int k) v M Q = asL (lstOf (M a)) fun ds => asN (ixN ds.length k) fun j => Q (mset M a (.lst (ds.set j v))) := by
  simp only [oPut]
  cases M a with
  | none => rfl
  | some o =>
    cases o with
    | lst ds =>
      simp only [lstOf_l, asL_some]
      cases ixN ds.length k <;> rfl
    | _ => rfl
theorem op_appE {a : Addr} {y : D} {M : Mp} {Q : VK3} : oApp (.ref a) [y] M Q = asL (lstOf (M a)) fun xs => xs.length < sizeLine ∧ Q .non (mset M a (.lst (xs ++ [y]))) := by
  simp only [oApp]
  cases M a with
  | none => rfl
  | some o => cases o <;> rfl
theorem keep_ref {M : Mp} {a : Addr} {ds : List D} : keepG M (.ref a) ds = fun M' => M' a = some (.lst ds) := rfl
theorem keep_tup {M : Mp} {xs ds : List D} : keepG M (.tup xs) ds = fun _ => True := rfl
theorem keep_rol {M : Mp} {xs ds : List D} : keepG M (.rol xs) ds = fun _ => True := rfl
theorem tp_int {M : Mp} {i : Int} : top M (.int i) = .int i := rfl
theorem tp_tup {M : Mp} {i : List D} : top M (.tup i) = .tup i := rfl
theorem tp_rol {M : Mp} {i : List D} : top M (.rol i) = .rol i := rfl
theorem tp_str {M : Mp} {i : Str} : top M (.str i) = .str i := rfl
theorem tp_bl {M : Mp} {i : Bool} : top M (.bl i) = .bl i := rfl
theorem tp_non {M : Mp} : top M .non = .non := rfl
def topOf (a : Addr) : Option MO → D
  | some (.lst ds) => .rol ds
  | _ => .ref a
theorem tp_ref {M : Mp} {a : Addr} : top M (.ref a) = topOf a (M a) := by
  simp only [top]
  cases M a with
  | none => rfl
  | some o => cases o <;> rfl
theorem wipe_nil {τ : St3} : wipe3 τ [] = τ := rfl
theorem wipe_cons {τ : St3} {v : Nat} {vs : List Nat} : wipe3 τ (v :: vs) = setS (wipe3 τ vs) v none := rfl
theorem isN_int {i : Int} : isN (.int i) = false := rfl
theorem isN_non : isN .non = true := rfl
theorem sz_0 : (([] : List D).length ≤ sizeLine) = True := eq_true (by show 0 ≤ sizeLine; decide)
theorem sz_1 {x0 : D} : (([x0] : List D).length ≤ sizeLine) = True := eq_true (by show 1 ≤ sizeLine; decide)
theorem sz_2 {x0 x1 : D} : (([x0, x1] : List D).length ≤ sizeLine) = True := eq_true (by show 2 ≤ sizeLine; decide)
theorem sz_3 {x0 x1 x2 : D} : (([x0, x1, x2] : List D).length ≤ sizeLine) = True := eq_true (by show 3 ≤ sizeLine; decide)
theorem sz_4 {x0 x1 x2 x3 : D} : (([x0, x1, x2, x3] : List D).length ≤ sizeLine) = True := eq_true (by show 4 ≤ sizeLine; decide)
theorem sz_5 {x0 x1 x2 x3 x4 : D} : (([x0, x1, x2, x3, x4] : List D).length ≤ sizeLine) = True := eq_true (by show 5 ≤ sizeLine; decide)
theorem sz_6 {x0 x1 x2 x3 x4 x5 : D} : (([x0, x1, x2, x3, x4, x5] : List D).length ≤ sizeLine) = True := eq_true (by show 6 ≤ sizeLine; decide)
theorem sz_7 {x0 x1 x2 x3 x4 x5 x6 : D} : (([x0, x1, x2, x3, x4, x5, x6] : List D).length ≤ sizeLine) = True := eq_true (by show 7 ≤ sizeLine; decide)
theorem sz_8 {x0 x1 x2 x3 x4 x5 x6 x7 : D} : (([x0, x1, x2, x3, x4, x5, x6, x7] : List D).length ≤ sizeLine) = True := eq_true (by show 8 ≤ sizeLine; decide)
theorem sz_9 {x0 x1 x2 x3 x4 x5 x6 x7 x8 : D} : (([x0, x1, x2, x3, x4, x5, x6, x7, x8] : List D).length ≤ sizeLine) = True := eq_true (by show 9 ≤ sizeLine; decide)
theorem sz_10 {x0 x1 x2 x3 x4 x5 x6 x7 x8 x9 : D} : (([x0, x1, x2, x3, x4, x5, x6, x7, x8, x9] : List D).length ≤ sizeLine) = True := eq_true (by show 10 ≤ sizeLine; decide)
theorem sz_11 {x0 x1 x2 x3 x4 x5 x6 x7 x8 x9 x10 : D} : (([x0, x1, x2, x3, x4, x5, x6, x7, x8, x9, x10] : List D).length ≤ sizeLine) = True := eq_true (by show 11 ≤ sizeLine; decide)
theorem sz_12 {x0 x1 x2 x3 x4 x5 x6 x7 x8 x9 x10 x11 : D} : (([x0, x1, x2, x3, x4, x5, x6, x7, x8, x9, x10, x11] : List D).length ≤ sizeLine) = True := eq_true (by show 12 ≤ sizeLine; decide)
/-- a holds three numbers -/
def Feed (M : Mp) (a : Addr) : Prop := ∃ g m c : Int, M a = some (.lst [.int g, .int m, .int c])
/-- a alone was written -/
def Only (a : Addr) (M M' : Mp) : Prop := ∀ b, b ≠ a → M' b = M b
theorem Only.refl {a : Addr} {M : Mp} : Only a M M := fun _ _ => rfl
theorem Only.trans {a : Addr} {M M1 M2 : Mp} (x : Only a M M1) (y : Only a M1 M2) : Only a M M2 := fun b h => (y b h).trans (x b h)
theorem Only.set {a : Addr} {M M1 : Mp} {o : MO} (x : Only a M M1) : Only a M (mset M1 a o) := fun b h => by rw [mset_ne h]; exact x b h
theorem md_in {x n : Int} (h : 0 < n) : 0 ≤ x.fmod n ∧ x.fmod n < n := ⟨Int.fmod_nonneg_of_pos _ h, Int.fmod_lt_of_pos _ h⟩
theorem mulL {i j : Int} (h : 0 ≤ i) (h1 : i < 2 ^ 64) : IntMulOk i j := CMul.ok (.inl ⟨by omega, h1⟩)
theorem mulR {i j : Int} (h : 0 ≤ j) (h1 : j < 2 ^ 64) : IntMulOk i j := CMul.ok (.inr ⟨by omega, h1⟩)
end L3
set_option Elab.async false
set_option linter.all false
set_option maxRecDepth 100000
set_option maxHeartbeats 4000000
namespace L3
open PySem PySem.Spec PyProof.Rows L2
theorem st_parE {i j : Nat} {d e : D} {D1 : Ends3} {τ : St3} {M : Mp} {ta tb : TE3} : wPar i j (wCons ta (wCons tb wNil)) D1 τ M = ta τ M fun d M1 => tb τ M1 fun e M2 => D1.nx (setS (setS τ i (some d)) j (some e)) M2 := rfl
structure Tm (h n : Nat) (d : D) : Prop where
  p : plain d = true
  dp : deep d ≤ h
  ok : showOk d = true
  sh : (pdOf d).leavesShort 120 = true
  bk : (pdOf d).bulk ≤ n
theorem Tm.int {i : Int} (hi : i.natAbs < 10 ^ 100) : Tm 0 0 (.int i) := by
  refine ⟨rfl, Nat.le_refl _, ?_, ?_, Nat.le_refl _⟩
  · unfold showOk
    rw [decide_eq_true_eq]
    by_cases e : i.natAbs = 0
    · rw [e]; decide
    · exact (Nat.log2_lt e).mpr (Nat.lt_of_lt_of_le hi (by decide +kernel))
  · show decide ((PyData.shown (.int i)).length ≤ 120) = true
    rw [decide_eq_true_eq]
    have e := int_text_length_le10 (k := 100) (by decide) hi
    show (Str.ofString (toString i)).length ≤ 120
    rw [PySem.ofString_length]
    omega
theorem Tm.non : Tm 0 0 .non := ⟨rfl, Nat.le_refl _, rfl, rfl, Nat.le_refl _⟩
theorem Tm.bl {b : Bool} : Tm 0 0 (.bl b) := ⟨rfl, Nat.le_refl _, rfl, rfl, Nat.le_refl _⟩
theorem Tm.mono {h n h' n' : Nat} {d : D} (t : Tm h n d) (a : h ≤ h') (b : n ≤ n') : Tm h' n' d := ⟨t.p, Nat.le_trans t.dp a, t.ok, t.sh, Nat.le_trans t.bk b⟩
theorem tms {h n : Nat} : ∀ ds : List D, (∀ d ∈ ds, Tm h n d) → plains ds = true ∧ deeps ds ≤ h ∧ showOks ds = true ∧ PyData.leavesShortAll 120 (pdsOf ds) = true ∧ PyData.bulkAll (pdsOf ds) ≤ ds.length * (n + 1)
  | [], _ => ⟨rfl, Nat.zero_le _, rfl, rfl, by simp [pdsOf, PyData.bulkAll]⟩
  | d :: ds, a => by
    obtain ⟨h1, h2, h3, h4, h5⟩ := tms ds fun x hx => a x (by simp [hx])
    have t := a d (by simp)
    refine ⟨by simp [plains, t.p, h1], ?_, by simp [showOks, t.ok, h3], by simp [pdsOf, PyData.leavesShortAll, t.sh, h4], ?_⟩
    · simp only [deeps]
      exact Nat.max_le.mpr ⟨t.dp, h2⟩
    · simp only [pdsOf, PyData.bulkAll, List.length_cons]
      have := t.bk
      rw [Nat.add_mul]
      omega
theorem Tm.tup {h n m : Nat} {ds : List D} (a : ∀ d ∈ ds, Tm h n d) (l : ds.length ≤ m) : Tm (h + 1) (m * (n + 1)) (.tup ds) := by
  obtain ⟨h1, h2, h3, h4, h5⟩ := tms ds a
  refine ⟨by simpa [plain] using h1, by simp only [deep]; omega, by simpa [showOk] using h3, by simpa [pdOf, PyData.leavesShort] using h4, ?_⟩
  simp only [pdOf, PyData.bulk]
  exact Nat.le_trans h5 (Nat.mul_le_mul_right _ l)
theorem Tm.rol {h n m : Nat} {ds : List D} (a : ∀ d ∈ ds, Tm h n d) (l : ds.length ≤ m) : Tm (h + 1) (m * (n + 1)) (.rol ds) := by
  obtain ⟨h1, h2, h3, h4, h5⟩ := tms ds a
  refine ⟨by simpa [plain] using h1, by simp only [deep]; omega, by simpa [showOk] using h3, by simpa [pdOf, PyData.leavesShort] using h4, ?_⟩
  simp only [pdOf, PyData.bulk]
  exact Nat.le_trans h5 (Nat.mul_le_mul_right _ l)
theorem Tm.pl {h n : Nat} {d : D} (t : Tm h n d) (a : h ≤ 64) : Pl d := ⟨t.p, Nat.le_trans t.dp a⟩
theorem Tm.fits {h n : Nat} {d : D} (t : Tm h n d) (a : h ≤ 64) (b : n ≤ 130000) : Sh d := by
  refine ⟨t.pl a, t.ok, ?_⟩
  have := PyData.shown_le_bulk 120 (by decide) (pdOf d) t.sh
  have := t.bk
  show (pdOf d).shown.length ≤ sizeLine
  have : sizeLine = 16777216 := by decide
  omega
/-- an end within a bound -/
def EdB (B : Nat) (e : Ed) : Prop := ∀ i, e = some i → i.natAbs < B
/-- a table of so many rows and columns, its ends within a bound -/
structure TabB (B n : Nat) (T : Tab) : Prop where
  rows : T.length = n
  cols : ∀ r ∈ T, r.length = n
  ends : ∀ r ∈ T, ∀ e ∈ r, EdB B e
theorem Tm.ed {B : Nat} {e : Ed} (h : EdB B e) (hB : B ≤ 10 ^ 100) : Tm 0 0 (oD e) := by
  cases e with
  | none => exact .non
  | some i => exact .int (Nat.lt_of_lt_of_le (h i rfl) hB)
theorem Tm.tab {B n : Nat} {T : Tab} (h : TabB B n T) (hB : B ≤ 10 ^ 100) : Tm 2 (n * (n + 1)) (tabD T) := by
  refine (Tm.tup (h := 1) (n := n * 1) (m := n) (fun d hd => ?_) (by rw [List.length_map, h.rows]; exact Nat.le_refl _)).mono (Nat.le_refl _) (by rw [Nat.mul_one]; exact Nat.le_refl _)
  obtain ⟨r, hr, rfl⟩ := List.mem_map.mp hd
  refine Tm.tup (h := 0) (n := 0) (m := n) (fun e he => ?_) (by rw [List.length_map, h.cols r hr]; exact Nat.le_refl _)
  obtain ⟨x, hx, rfl⟩ := List.mem_map.mp he
  exact .ed (h.ends r hr x hx) hB
end L3
set_option Elab.async false
set_option linter.all false
set_option maxRecDepth 100000
set_option maxHeartbeats 4000000
namespace L3
open PySem PySem.Spec PyProof.Rows L2
def emptyT (n : Nat) : Tab := List.replicate n (List.replicate n none)
def at2 (T : Tab) (p q : Nat) : Ed := (T.getD p []).getD q none
def putT (T : Tab) (p q : Nat) (e : Ed) : Tab := T.set p ((T.getD p []).set q e)
/-- so many rows, so many columns -/
structure Sq (n : Nat) (T : Tab) : Prop where
  rows : T.length = n
  cols : ∀ r ∈ T, r.length = n
theorem Sq.empty {n : Nat} : Sq n (emptyT n) := ⟨by simp [emptyT], fun r hr => by
  rw [List.eq_of_mem_replicate hr]; simp⟩
theorem Sq.put {n p q : Nat} {T : Tab} {e : Ed} (s : Sq n T) : Sq n (putT T p q e) := by
  refine ⟨by simp [putT, s.rows], fun r hr => ?_⟩
  rcases List.mem_or_eq_of_mem_set hr with h | h
  · exact s.cols r h
  · by_cases hp : p < T.length
    · rw [h, List.length_set, List.getD_eq_getElem?_getD, List.getElem?_eq_getElem hp]
      exact s.cols _ (List.getElem_mem hp)
    · unfold putT at hr
      rw [List.set_eq_of_length_le (by omega)] at hr
      exact s.cols r hr
/-- ends within a bound -/
def Ends (B : Nat) (T : Tab) : Prop := ∀ r ∈ T, ∀ e ∈ r, EdB B e
theorem EdB.non {B : Nat} : EdB B none := fun _ h => nomatch h
theorem Ends.empty {B n : Nat} : Ends B (emptyT n) := fun r hr e he => by
  rw [List.eq_of_mem_replicate hr] at he
  rw [List.eq_of_mem_replicate he]; exact .non
theorem Ends.put {B p q : Nat} {T : Tab} {e : Ed} (s : Ends B T) (h : EdB B e) : Ends B (putT T p q e) := by
  intro r hr x hx
  rcases List.mem_or_eq_of_mem_set hr with h' | h'
  · exact s r h' x hx
  · rw [h'] at hx
    rcases List.mem_or_eq_of_mem_set hx with h2 | h2
    · by_cases hp : p < T.length
      · rw [List.getD_eq_getElem?_getD, List.getElem?_eq_getElem hp] at h2
        exact s _ (List.getElem_mem hp) x h2
      · rw [List.getD_eq_getElem?_getD, List.getElem?_eq_none (by omega)] at h2
        simp at h2
    · rw [h2]; exact h
theorem TabB.of {B n : Nat} {T : Tab} (s : Sq n T) (e : Ends B T) : TabB B n T := ⟨s.rows, s.cols, e⟩
theorem TabB.sq {B n : Nat} {T : Tab} (t : TabB B n T) : Sq n T := ⟨t.rows, t.cols⟩
/-- the row and the end there -/
theorem Sq.get {n : Nat} {T : Tab} (s : Sq n T) {p q : Int} (hp : 0 ≤ p) (hp1 : p < n) (hq : 0 ≤ q) (hq1 : q < n) :
    ∃ r, T[p.toNat]? = some r ∧ r[q.toNat]? = some (at2 T p.toNat q.toNat) ∧ atI (T.map rowD) p = some (.tup (r.map oD)) ∧ atI (r.map oD) q = some (oD (at2 T p.toNat q.toNat)) ∧ ixN (r.map oD).length q = some q.toNat ∧ T.getD p.toNat [] = r := by
  have h1 : p.toNat < T.length := by rw [s.rows]; omega
  have h2 : q.toNat < T[p.toNat].length := by rw [s.cols _ (List.getElem_mem h1)]; omega
  have e1 : T.getD p.toNat [] = T[p.toNat] := by rw [List.getD_eq_getElem?_getD, List.getElem?_eq_getElem h1]; rfl
  have e2 : T[p.toNat][q.toNat]? = some (at2 T p.toNat q.toNat) := by
    unfold at2
    rw [e1, List.getD_eq_getElem?_getD, List.getElem?_eq_getElem h2]; rfl
  refine ⟨_, List.getElem?_eq_getElem h1, e2, atI_nat' hp (by rw [List.getElem?_map, List.getElem?_eq_getElem h1]; rfl), atI_nat' hq (by rw [List.getElem?_map, e2]; rfl), ixN_nat hq ?_, e1⟩
  rw [List.length_map, s.cols _ (List.getElem_mem h1)]; exact hq1
theorem getS_other {τ : St3} {i j : Nat} {d : Option D} (h : i ≠ j) : getS (setS (setS τ j none) j d) i = getS τ i := by
  rw [getS_set, if_neg (fun x => h x.1), getS_set, if_neg (fun x => h x.1)]
section
variable {Ma M : Mp} {as : List Addr} {T : Tab} {n : Nat}
theorem Rows.len2 (m : Rows Ma M as T) (s : Sq n T) : as.length = n := m.len.trans s.rows
theorem Rows.putR {p q : Nat} {a : Addr} {r : List Ed} {x : Ed} (m : Rows Ma M as T) (ha : as[p]? = some a) (hr : T[p]? = some r) : Rows Ma (mset M a (.lst ((r.map oD).set q (oD x)))) as (putT T p q x) := by
  have e1 : T.getD p [] = r := by rw [List.getD_eq_getElem?_getD, hr]; rfl
  rw [← List.map_set]
  refine ⟨m.le.put (m.new a (List.mem_of_getElem? ha)), by unfold putT; rw [List.length_set]; exact m.len, fun i b q' h1 h2 => ?_, m.nd, m.new⟩
  unfold putT at h2
  rw [e1] at h2
  by_cases hi : i = p
  · subst hi
    rw [ha] at h1; cases h1
    rw [List.getElem?_set_self (List.getElem?_eq_some_iff.mp hr).1] at h2
    cases h2
    exact mset_same
  · rw [List.getElem?_set_ne (Ne.symm hi)] at h2
    have : b ≠ a := fun h => by subst h; exact hi (nd_ix m.nd h1 ha)
    rw [mset_ne this]
    exact m.row i b q' h1 h2
theorem Rows.atR (m : Rows Ma M as T) (s : Sq n T) {p : Int} (h0 : 0 ≤ p) (h1 : p < n) : ∃ a r, atI (as.map D.ref) p = some (.ref a) ∧ M a = some (.lst (r.map oD)) ∧ as[p.toNat]? = some a ∧ T[p.toNat]? = some r ∧ r.length = n := by
  have hp : p.toNat < as.length := by rw [m.len2 s]; omega
  have hT : p.toNat < T.length := by rw [s.rows]; omega
  exact ⟨as[p.toNat], T[p.toNat], atI_nat' h0 (by rw [List.getElem?_map, List.getElem?_eq_getElem hp]; rfl), m.row _ _ _ (List.getElem?_eq_getElem hp) (List.getElem?_eq_getElem hT), List.getElem?_eq_getElem hp, List.getElem?_eq_getElem hT, s.cols _ (List.getElem_mem hT)⟩
/-- what stands at a place -/
theorem Rows.at2R (m : Rows Ma M as T) (s : Sq n T) {p q : Int} (hp0 : 0 ≤ p) (hp : p < n) (hq0 : 0 ≤ q) (hq : q < n) :
    ∃ a r, atI (as.map D.ref) p = some (.ref a) ∧ M a = some (.lst (r.map oD)) ∧ atI (r.map oD) q = some (oD (at2 T p.toNat q.toNat)) ∧ ixN (r.map oD).length q = some q.toNat ∧ as[p.toNat]? = some a ∧ T[p.toNat]? = some r := by
  obtain ⟨a, r, g1, g2, g3, g4, g5⟩ := m.atR s hp0 hp
  obtain ⟨r', h1, h2, h3, h4, h5, h6⟩ := s.get hp0 hp hq0 hq
  rw [g4] at h1; cases h1
  exact ⟨a, r, g1, g2, h4, h5, g3, g4⟩
/-- [[None] * n for j in range(n)] -/
theorem lc_emptyF {τ : St3} {i j : Nat} {n : Int} {M : Mp} {Q : VK3} (hs : getS τ i = some (.int n)) (hij : i ≠ j) (h0 : 0 ≤ n) (h1 : n ≤ 1000)
    (q : ∀ as M', Rows M M' as (emptyT n.toNat) → Q (.rol (as.map D.ref)) M') : wLcF (wRng1 (wCons (wVar i) wNil)) (wgName j) wYes (wRep (wC .non) (wVar i)) [j] τ M Q := by
  simp only [st_seq, st_next, st_break, st_cont, st_set, st_ret, st_retN, st_drop, st_if, st_asg, st_par, st_for, ex_c, ex_var, ex_op, ex_un, ex_b, ex_and, ex_or, ex_not, ex_andV, ex_orV, ex_notV, ex_if, ex_chain, ex_nil, ex_cons, ex_tup, ex_lst, ex_call, ex_callP, ex_cb, ex_bm, ex_rep, ex_lc, ex_sl, ex_noPart, ex_part, ex_yes, it_items, it_rng1, it_rng2, tg_name, tg_sub, tg_tup, tg_cons, tg_nil, gs_0, gs_s, ss_0, ss_s, op_ii, op_ss, op_tt, op_mm, op_sb, op_ng, op_iNf, op_iNt, op_lle, op_ixT, op_ixR, op_ixL, op_putE, op_appE, it_tupE, it_rolE, it_refE, lstOf_l, exL, asS_some, asI_int, asB_bl, asL_some, asN_some, ite3_t, ite3_f, bl_1, bl_lenT, bl_lenR, bl_lenL, bl_lenS, bl_tuple, bl_list, bl_abs, bl_intI, bl_intB, bl_max, bl_min, bl_repr, op_eqSf, op_eqSt, op_eqIf, op_eqIt, op_eqTf, op_eqTt, op_eqRf, op_eqRt, op_eqNf, op_eqNt, eqD_int, eqD_nil, pl_int, pl_nil, pl_non, pl_rnil, pl_bl, sl_tupE, sl_rolE, keep_ref, keep_tup, keep_rol, tp_int, tp_tup, tp_rol, tp_str, tp_bl, tp_non, tp_ref, oFd, oMd, oPw, oShl, oLt, oLe, oGt, oGe, op_in, op_cp, wipe_nil, wipe_cons, mset_same, true_and, and_true, isN_int, sz_0, sz_1, sz_2, sz_3, sz_4, sz_5, sz_6, sz_7, sz_8, sz_9, sz_10, sz_11, sz_12, ex_lstF, ex_repF, ex_lgF1, ex_lgF2, ex_tupRg1, ex_tupRg2, ex_lcF, ex_frz, ex_slF, ex_slM, sl_tupF, sl_rolF, op_iiF, op_ssF, op_ttF, op_rrF, op_rrM, op_mmF, op_repF, li_rol, li_ref, bl_listF, bl_allF, bl_anyF, asT_some, asJ_some, op_eqLf, op_eqLt, op_eqBf, op_eqBt, isN_non, Bool.not_true, Bool.not_false, hs]
  refine ⟨by omega, by omega, ?_⟩
  refine lc_pv (fun k acc M' => ∃ as, acc = as.map D.ref ∧ k ≤ n.toNat ∧ Rows M M' as (List.replicate k (List.replicate n.toNat none))) ?_ ?_ ⟨[], rfl, Nat.zero_le _, .nil⟩
  · rintro k d acc M' hd ⟨as, rfl, hk, hR⟩ X hX
    obtain ⟨hlt, rfl⟩ := rgD_get hd
    refine ⟨True.intro, ?_⟩
    simp only [st_seq, st_next, st_break, st_cont, st_set, st_ret, st_retN, st_drop, st_if, st_asg, st_par, st_for, ex_c, ex_var, ex_op, ex_un, ex_b, ex_and, ex_or, ex_not, ex_andV, ex_orV, ex_notV, ex_if, ex_chain, ex_nil, ex_cons, ex_tup, ex_lst, ex_call, ex_callP, ex_cb, ex_bm, ex_rep, ex_lc, ex_sl, ex_noPart, ex_part, ex_yes, it_items, it_rng1, it_rng2, tg_name, tg_sub, tg_tup, tg_cons, tg_nil, gs_0, gs_s, ss_0, ss_s, op_ii, op_ss, op_tt, op_mm, op_sb, op_ng, op_iNf, op_iNt, op_lle, op_ixT, op_ixR, op_ixL, op_putE, op_appE, it_tupE, it_rolE, it_refE, lstOf_l, exL, asS_some, asI_int, asB_bl, asL_some, asN_some, ite3_t, ite3_f, bl_1, bl_lenT, bl_lenR, bl_lenL, bl_lenS, bl_tuple, bl_list, bl_abs, bl_intI, bl_intB, bl_max, bl_min, bl_repr, op_eqSf, op_eqSt, op_eqIf, op_eqIt, op_eqTf, op_eqTt, op_eqRf, op_eqRt, op_eqNf, op_eqNt, eqD_int, eqD_nil, pl_int, pl_nil, pl_non, pl_rnil, pl_bl, sl_tupE, sl_rolE, keep_ref, keep_tup, keep_rol, tp_int, tp_tup, tp_rol, tp_str, tp_bl, tp_non, tp_ref, oFd, oMd, oPw, oShl, oLt, oLe, oGt, oGe, op_in, op_cp, wipe_nil, wipe_cons, mset_same, true_and, and_true, isN_int, sz_0, sz_1, sz_2, sz_3, sz_4, sz_5, sz_6, sz_7, sz_8, sz_9, sz_10, sz_11, sz_12, ex_lstF, ex_repF, ex_lgF1, ex_lgF2, ex_tupRg1, ex_tupRg2, ex_lcF, ex_frz, ex_slF, ex_slM, sl_tupF, sl_rolF, op_iiF, op_ssF, op_ttF, op_rrF, op_rrM, op_mmF, op_repF, li_rol, li_ref, bl_listF, bl_allF, bl_anyF, asT_some, asJ_some, op_eqLf, op_eqLt, op_eqBf, op_eqBt, isN_non, Bool.not_true, Bool.not_false, ex_rep, getS_other hij, hs]
    have big : (1000 : Nat) ≤ sizeLine := by decide
    have hlen := hR.len
    rw [List.length_replicate] at hlen
    refine ⟨by omega, by omega, by omega, fun p hp => ?_⟩
    refine ⟨by rw [List.length_map]; omega, hX _ _ ⟨as ++ [p], by simp, hlt, ?_⟩⟩
    have := hR.snoc (r := List.replicate n.toNat none) hp
    rw [List.map_replicate] at this
    rw [List.replicate_succ']
    exact this
  · rintro acc M' ⟨as, rfl, hk, hR⟩
    rw [rgD_len] at hR
    exact ⟨True.intro, q _ _ hR⟩
/-- [list(row) for row in table] -/
theorem lc_rowsF {τ : St3} {i j n : Nat} {T : Tab} {M : Mp} {Q : VK3} (hs : getS τ i = some (tabD T)) (hj : j < τ.length) (hij : i ≠ j) (sq : Sq n T) (hn : n ≤ 1000)
    (q : ∀ as M', Rows M M' as T → Q (.rol (as.map D.ref)) M') : wLcF (wItems (wVar i)) (wgName j) wYes (wCB bList (wCons (wVar j) wNil)) [j] τ M Q := by
  simp only [st_seq, st_next, st_break, st_cont, st_set, st_ret, st_retN, st_drop, st_if, st_asg, st_par, st_for, ex_c, ex_var, ex_op, ex_un, ex_b, ex_and, ex_or, ex_not, ex_andV, ex_orV, ex_notV, ex_if, ex_chain, ex_nil, ex_cons, ex_tup, ex_lst, ex_call, ex_callP, ex_cb, ex_bm, ex_rep, ex_lc, ex_sl, ex_noPart, ex_part, ex_yes, it_items, it_rng1, it_rng2, tg_name, tg_sub, tg_tup, tg_cons, tg_nil, gs_0, gs_s, ss_0, ss_s, op_ii, op_ss, op_tt, op_mm, op_sb, op_ng, op_iNf, op_iNt, op_lle, op_ixT, op_ixR, op_ixL, op_putE, op_appE, it_tupE, it_rolE, it_refE, lstOf_l, exL, asS_some, asI_int, asB_bl, asL_some, asN_some, ite3_t, ite3_f, bl_1, bl_lenT, bl_lenR, bl_lenL, bl_lenS, bl_tuple, bl_list, bl_abs, bl_intI, bl_intB, bl_max, bl_min, bl_repr, op_eqSf, op_eqSt, op_eqIf, op_eqIt, op_eqTf, op_eqTt, op_eqRf, op_eqRt, op_eqNf, op_eqNt, eqD_int, eqD_nil, pl_int, pl_nil, pl_non, pl_rnil, pl_bl, sl_tupE, sl_rolE, keep_ref, keep_tup, keep_rol, tp_int, tp_tup, tp_rol, tp_str, tp_bl, tp_non, tp_ref, oFd, oMd, oPw, oShl, oLt, oLe, oGt, oGe, op_in, op_cp, wipe_nil, wipe_cons, mset_same, true_and, and_true, isN_int, sz_0, sz_1, sz_2, sz_3, sz_4, sz_5, sz_6, sz_7, sz_8, sz_9, sz_10, sz_11, sz_12, ex_lstF, ex_repF, ex_lgF1, ex_lgF2, ex_tupRg1, ex_tupRg2, ex_lcF, ex_frz, ex_slF, ex_slM, sl_tupF, sl_rolF, op_iiF, op_ssF, op_ttF, op_rrF, op_rrM, op_mmF, op_repF, li_rol, li_ref, bl_listF, bl_allF, bl_anyF, asT_some, asJ_some, op_eqLf, op_eqLt, op_eqBf, op_eqBt, isN_non, Bool.not_true, Bool.not_false, hs, tabD]
  refine lc_pv (fun k acc M' => ∃ as, acc = as.map D.ref ∧ k ≤ T.length ∧ Rows M M' as (T.take k)) ?_ ?_ ⟨[], rfl, Nat.zero_le _, .nil⟩
  · rintro k d acc M' hd ⟨as, rfl, hk, hR⟩ X hX
    refine ⟨True.intro, ?_⟩
    rw [List.getElem?_map] at hd
    obtain ⟨r, hr, rfl⟩ := Option.map_eq_some_iff.mp hd
    have hlt := (List.getElem?_eq_some_iff.mp hr).1
    have gj : getS (setS (setS τ j none) j (some (rowD r))) j = some (rowD r) := by
      rw [getS_set, if_pos ⟨rfl, by rw [setS_len]; exact hj⟩]
    simp only [st_seq, st_next, st_break, st_cont, st_set, st_ret, st_retN, st_drop, st_if, st_asg, st_par, st_for, ex_c, ex_var, ex_op, ex_un, ex_b, ex_and, ex_or, ex_not, ex_andV, ex_orV, ex_notV, ex_if, ex_chain, ex_nil, ex_cons, ex_tup, ex_lst, ex_call, ex_callP, ex_cb, ex_bm, ex_rep, ex_lc, ex_sl, ex_noPart, ex_part, ex_yes, it_items, it_rng1, it_rng2, tg_name, tg_sub, tg_tup, tg_cons, tg_nil, gs_0, gs_s, ss_0, ss_s, op_ii, op_ss, op_tt, op_mm, op_sb, op_ng, op_iNf, op_iNt, op_lle, op_ixT, op_ixR, op_ixL, op_putE, op_appE, it_tupE, it_rolE, it_refE, lstOf_l, exL, asS_some, asI_int, asB_bl, asL_some, asN_some, ite3_t, ite3_f, bl_1, bl_lenT, bl_lenR, bl_lenL, bl_lenS, bl_tuple, bl_list, bl_abs, bl_intI, bl_intB, bl_max, bl_min, bl_repr, op_eqSf, op_eqSt, op_eqIf, op_eqIt, op_eqTf, op_eqTt, op_eqRf, op_eqRt, op_eqNf, op_eqNt, eqD_int, eqD_nil, pl_int, pl_nil, pl_non, pl_rnil, pl_bl, sl_tupE, sl_rolE, keep_ref, keep_tup, keep_rol, tp_int, tp_tup, tp_rol, tp_str, tp_bl, tp_non, tp_ref, oFd, oMd, oPw, oShl, oLt, oLe, oGt, oGe, op_in, op_cp, wipe_nil, wipe_cons, mset_same, true_and, and_true, isN_int, sz_0, sz_1, sz_2, sz_3, sz_4, sz_5, sz_6, sz_7, sz_8, sz_9, sz_10, sz_11, sz_12, ex_lstF, ex_repF, ex_lgF1, ex_lgF2, ex_tupRg1, ex_tupRg2, ex_lcF, ex_frz, ex_slF, ex_slM, sl_tupF, sl_rolF, op_iiF, op_ssF, op_ttF, op_rrF, op_rrM, op_mmF, op_repF, li_rol, li_ref, bl_listF, bl_allF, bl_anyF, asT_some, asJ_some, op_eqLf, op_eqLt, op_eqBf, op_eqBt, isN_non, Bool.not_true, Bool.not_false, gj, rowD]
    have gj' : getS (setS (setS τ j none) j (some (.tup (r.map oD)))) j = some (.tup (r.map oD)) := gj
    simp only [st_seq, st_next, st_break, st_cont, st_set, st_ret, st_retN, st_drop, st_if, st_asg, st_par, st_for, ex_c, ex_var, ex_op, ex_un, ex_b, ex_and, ex_or, ex_not, ex_andV, ex_orV, ex_notV, ex_if, ex_chain, ex_nil, ex_cons, ex_tup, ex_lst, ex_call, ex_callP, ex_cb, ex_bm, ex_rep, ex_lc, ex_sl, ex_noPart, ex_part, ex_yes, it_items, it_rng1, it_rng2, tg_name, tg_sub, tg_tup, tg_cons, tg_nil, gs_0, gs_s, ss_0, ss_s, op_ii, op_ss, op_tt, op_mm, op_sb, op_ng, op_iNf, op_iNt, op_lle, op_ixT, op_ixR, op_ixL, op_putE, op_appE, it_tupE, it_rolE, it_refE, lstOf_l, exL, asS_some, asI_int, asB_bl, asL_some, asN_some, ite3_t, ite3_f, bl_1, bl_lenT, bl_lenR, bl_lenL, bl_lenS, bl_tuple, bl_list, bl_abs, bl_intI, bl_intB, bl_max, bl_min, bl_repr, op_eqSf, op_eqSt, op_eqIf, op_eqIt, op_eqTf, op_eqTt, op_eqRf, op_eqRt, op_eqNf, op_eqNt, eqD_int, eqD_nil, pl_int, pl_nil, pl_non, pl_rnil, pl_bl, sl_tupE, sl_rolE, keep_ref, keep_tup, keep_rol, tp_int, tp_tup, tp_rol, tp_str, tp_bl, tp_non, tp_ref, oFd, oMd, oPw, oShl, oLt, oLe, oGt, oGe, op_in, op_cp, wipe_nil, wipe_cons, mset_same, true_and, and_true, isN_int, sz_0, sz_1, sz_2, sz_3, sz_4, sz_5, sz_6, sz_7, sz_8, sz_9, sz_10, sz_11, sz_12, ex_lstF, ex_repF, ex_lgF1, ex_lgF2, ex_tupRg1, ex_tupRg2, ex_lcF, ex_frz, ex_slF, ex_slM, sl_tupF, sl_rolF, op_iiF, op_ssF, op_ttF, op_rrF, op_rrM, op_mmF, op_repF, li_rol, li_ref, bl_listF, bl_allF, bl_anyF, asT_some, asJ_some, op_eqLf, op_eqLt, op_eqBf, op_eqBt, isN_non, Bool.not_true, Bool.not_false, gj']
    intro p hp
    have big : (1000 : Nat) ≤ sizeLine := by decide
    have hlen := hR.len
    rw [List.length_take] at hlen
    have := sq.rows
    refine ⟨by rw [List.length_map]; omega, hX _ _ ⟨as ++ [p], by simp, hlt, ?_⟩⟩
    rw [List.take_succ, hr]
    exact hR.snoc hp
  · rintro acc M' ⟨as, rfl, hk, hR⟩
    rw [List.length_map, List.take_length] at hR
    exact ⟨True.intro, q _ _ hR⟩
/-- tuple([tuple(row) for row in m]) -/
theorem tab_of_rows {τ : St3} {i j : Nat} {Q : VK3} (hs : getS τ i = some (.rol (as.map D.ref))) (hj : j < τ.length) (m : Rows Ma M as T) (hl : as.length ≤ sizeLine) (q : Q (tabD T) M) :
    wCB bTuple (wCons (wLcF (wItems (wVar i)) (wgName j) wYes (wCB bTuple (wCons (wVar j) wNil)) [j]) wNil) τ M Q := by
  simp only [ex_cb, ex_cons, ex_lcF, it_items, it_rolE, ex_var, hs, asS_some, asL_some, keepG, ex_nil]
  refine lc_pv (fun n acc M' => M' = M ∧ n ≤ T.length ∧ acc = (T.take n).map rowD) ?_ ?_ ⟨rfl, Nat.zero_le _, rfl⟩
  · rintro n d acc M' hd ⟨rfl, hn, rfl⟩ X hX
    refine ⟨True.intro, ?_⟩
    rw [List.getElem?_map] at hd
    obtain ⟨a, ha, rfl⟩ := Option.map_eq_some_iff.mp hd
    have hlt : n < T.length := by rw [← m.len]; exact (List.getElem?_eq_some_iff.mp ha).1
    have hT : T[n]? = some T[n] := List.getElem?_eq_getElem hlt
    have gj : getS (setS (wipe3 τ [j]) j (some (.ref a))) j = some (.ref a) := by
      rw [getS_set, if_pos ⟨rfl, by show j < (setS τ j none).length; rw [setS_len]; exact hj⟩]
    simp only [tg_name, ex_yes, ite3_t, ex_cb, ex_cons, ex_var, gj, asS_some, ex_nil, bl_tuple, items_ref (m.row n a _ ha hT), asL_some]
    refine ⟨?_, hX _ _ ⟨rfl, hlt, ?_⟩⟩
    · rw [List.length_map, List.length_take]
      have := m.len
      omega
    · rw [List.take_succ, hT, List.map_append]; rfl
  · rintro acc M' ⟨rfl, hn, rfl⟩
    refine ⟨True.intro, ?_⟩
    rw [List.length_map, m.len, List.take_length]
    exact q
end
end L3
set_option Elab.async false
set_option linter.all false
set_option maxRecDepth 100000
set_option maxHeartbeats 4000000
namespace L3
open PySem PySem.Spec PyProof.Rows L2
abbrev Trip := Int × Int × Int
def tripD (t : Trip) : D := .tup [.int t.1, .int t.2.1, .int t.2.2]
def stepT (T : Tab) (t : Trip) : Tab := match at2 T t.1.toNat t.2.1.toNat with
  | none => putT T t.1.toNat t.2.1.toNat (some t.2.2)
  | some d => if t.2.2 < d then putT T t.1.toNat t.2.1.toNat (some t.2.2) else T
theorem Sq.step {n : Nat} {T : Tab} {t : Trip} (s : Sq n T) : Sq n (stepT T t) := by
  unfold stepT
  split
  · exact s.put
  · split
    · exact s.put
    · exact s
theorem Ends.step {B : Nat} {T : Tab} {t : Trip} (s : Ends B T) (h : t.2.2.natAbs < B) : Ends B (stepT T t) := by
  have e : EdB B (some t.2.2) := fun i hi => by cases hi; exact h
  unfold stepT
  split
  · exact s.put e
  · split
    · exact s.put e
    · exact s
/-- within the table -/
def In2 (n : Int) (t : Trip) : Prop := 0 ≤ t.1 ∧ t.1 < n ∧ 0 ≤ t.2.1 ∧ t.2.1 < n
end L3
set_option Elab.async false
set_option linter.all false
set_option maxRecDepth 100000
set_option maxHeartbeats 4000000
namespace L3
def eLe : Ed → Ed → Prop
  | _, none => True
  | some x, some y => x ≤ y
  | none, some _ => False
def eAdd : Ed → Ed → Ed
  | some x, some y => some (x + y)
  | _, _ => none
def eMin : Ed → Ed → Ed
  | none, b => b
  | a, none => a
  | some x, some y => some (if y < x then y else x)
section
variable {a b c d : Ed}
theorem eLe.rfl' : eLe a a := by cases a <;> simp [eLe]
theorem eLe_none : eLe a none := by cases a <;> simp [eLe]
theorem eLe_trans (h : eLe a b) (h2 : eLe b c) : eLe a c := by
  cases a <;> cases b <;> cases c <;> simp [eLe] at * <;> omega
theorem eLe_anti (h : eLe a b) (h2 : eLe b a) : a = b := by
  cases a <;> cases b <;> simp [eLe] at * <;> omega
theorem eMin_l : eLe (eMin a b) a := by
  cases a <;> cases b <;> simp [eLe, eMin] <;> split <;> omega
theorem eMin_r : eLe (eMin a b) b := by
  cases a <;> cases b <;> simp [eLe, eMin] <;> split <;> omega
theorem le_eMin (h : eLe c a) (h2 : eLe c b) : eLe c (eMin a b) := by
  cases a <;> cases b <;> cases c <;> simp [eLe, eMin] at * <;> (try split) <;> omega
theorem eMin_or : eMin a b = a ∨ eMin a b = b := by
  cases a with
  | none => exact .inr rfl
  | some x =>
    cases b with
    | none => exact .inl rfl
    | some y =>
      by_cases h : y < x
      · exact .inr (by simp only [eMin, if_pos h])
      · exact .inl (by simp only [eMin, if_neg h])
theorem eAdd_mono (h : eLe a b) (h2 : eLe c d) : eLe (eAdd a c) (eAdd b d) := by
  cases a <;> cases b <;> cases c <;> cases d <;> simp [eLe, eAdd] at * <;> omega
theorem eAdd_assoc : eAdd (eAdd a b) c = eAdd a (eAdd b c) := by
  cases a <;> cases b <;> cases c <;> simp [eAdd] <;> omega
theorem eAdd_0 : eAdd a (some 0) = a := by cases a <;> simp [eAdd]
theorem eAdd_0l : eAdd (some 0) a = a := by cases a <;> simp [eAdd]
theorem eMin_id (h : eLe a b) : eMin a b = a := by
  cases a <;> cases b <;> simp [eLe, eMin] at * <;> omega
theorem le_add_min (h1 : eLe a (eAdd b d)) (h2 : eLe a (eAdd c d)) : eLe a (eAdd (eMin b c) d) := by
  rcases eMin_or (a := b) (b := c) with e | e <;> rw [e] <;> assumption
theorem le_add_minr (h1 : eLe a (eAdd d b)) (h2 : eLe a (eAdd d c)) : eLe a (eAdd d (eMin b c)) := by
  rcases eMin_or (a := b) (b := c) with e | e <;> rw [e] <;> assumption
end
abbrev Fn := Nat → Nat → Ed
def Stable (n : Nat) (F : Fn) (s : Nat → Ed) : Prop := ∀ q, q < n → ∀ r, r < n → eLe (s r) (eAdd (s q) (F q r))
/-- S is T closed -/
structure IsCl (n : Nat) (T S : Fn) : Prop where
  diag : ∀ p, p < n → S p p = some 0
  tri : ∀ p q m, p < n → q < n → m < n → eLe (S p q) (eAdd (S p m) (S m q))
  le : ∀ p q, p < n → q < n → eLe (S p q) (T p q)
  st : ∀ s, Stable n T s → Stable n S s
/-- sums fall for ever -/
def Bad (n : Nat) (T : Fn) : Prop := ∃ m, m < n ∧ ∀ s, Stable n T s → s m = none
theorem IsCl.row {n m : Nat} {T S : Fn} (c : IsCl n T S) (hm : m < n) : Stable n T (S m) := fun q hq r hr =>
  eLe_trans (c.tri m r q hm hr hq) (eAdd_mono eLe.rfl' (c.le q r hq hr))
theorem IsCl.least {n : Nat} {T S : Fn} (c : IsCl n T S) {s : Nat → Ed} (h : Stable n T s) {p r : Nat} (hp : p < n) (hr : r < n) (h0 : eLe (s p) (some 0)) : eLe (s r) (S p r) := by
  have := c.st s h p hp r hr
  refine eLe_trans this ?_
  have := eAdd_mono (c := S p r) (d := S p r) h0 eLe.rfl'
  rwa [eAdd_0l] at this
theorem IsCl.uniq {n : Nat} {T S S' : Fn} (c : IsCl n T S) (c' : IsCl n T S') {p q : Nat} (hp : p < n) (hq : q < n) : S p q = S' p q := by
  refine eLe_anti (c'.least (c.row hp) hp hq ?_) (c.least (c'.row hp) hp hq ?_)
  · rw [c.diag p hp]; exact eLe.rfl'
  · rw [c'.diag p hp]; exact eLe.rfl'
theorem IsCl.good {n : Nat} {T S : Fn} (c : IsCl n T S) : ¬ Bad n T := by
  rintro ⟨m, hm, h⟩
  have := h _ (c.row hm)
  rw [c.diag m hm] at this
  cases this
def Neg (n : Nat) (f : Fn) : Prop := ∃ p, p < n ∧ ∃ x, f p p = some x ∧ x < 0
/-- what holds at all times: nothing is lost, nothing grows -/
structure Run (n : Nat) (T f : Fn) : Prop where
  st : ∀ s, Stable n T s → Stable n f s
  le : ∀ p q, p < n → q < n → eLe (f p q) (T p q)
  dg : ∀ p, p < n → eLe (f p p) (some 0)
/-- ahead of round m -/
structure Cm (n m B : Nat) (F : Fn) : Prop where
  diag : ∀ p, p < n → F p p = some 0
  tri : ∀ p q k, p < n → q < n → k < m → eLe (F p q) (eAdd (F p k) (F k q))
  bd : ∀ p q, p < n → q < n → EdB (2 ^ m * B) (F p q)
def rnd (F : Fn) (m : Nat) : Fn := fun p q => eMin (F p q) (eAdd (F p m) (F m q))
/-- in round m, rows ahead of i done, in row i columns ahead of j -/
def Mid (n m : Nat) (F f : Fn) (i j : Nat) : Prop := ∀ p q, p < n → q < n → f p q = if p < i ∨ (p = i ∧ q < j) then rnd F m p q else F p q
def updF (f : Fn) (i j : Nat) (e : Ed) : Fn := fun p q => if p = i ∧ q = j then e else f p q
def RunM (n m B : Nat) (T f : Fn) (i j : Nat) : Prop := Run n T f ∧ (Neg n f ∨ ∃ F, Cm n m B F ∧ Mid n m F f i j)
theorem rnd_l {n m B : Nat} {F : Fn} (c : Cm n m B F) (hm : m < n) {p : Nat} : rnd F m p m = F p m := by
  unfold rnd
  rw [c.diag m hm, eAdd_0]
  exact eMin_id eLe.rfl'
theorem rnd_r {n m B : Nat} {F : Fn} (c : Cm n m B F) (hm : m < n) {q : Nat} : rnd F m m q = F m q := by
  unfold rnd
  rw [c.diag m hm, eAdd_0l]
  exact eMin_id eLe.rfl'
theorem Run.upd {n m : Nat} {T f : Fn} (r : Run n T f) {i j : Nat} (hi : i < n) (hj : j < n) (hm : m < n) : Run n T (updF f i j (eMin (f i j) (eAdd (f i m) (f m j)))) := by
  refine ⟨fun s hs q hq t ht => ?_, fun p q hp hq => ?_, fun p hp => ?_⟩
  · unfold updF
    split
    · rename_i h
      obtain ⟨rfl, rfl⟩ := h
      refine le_add_minr (r.st s hs q hq t ht) ?_
      rw [← eAdd_assoc]
      exact eLe_trans (r.st s hs m hm t ht) (eAdd_mono (r.st s hs q hq m hm) eLe.rfl')
    · exact r.st s hs q hq t ht
  · unfold updF
    split
    · rename_i h
      obtain ⟨rfl, rfl⟩ := h
      exact eLe_trans eMin_l (r.le p q hp hq)
    · exact r.le p q hp hq
  · unfold updF
    split
    · rename_i h
      obtain ⟨rfl, e⟩ := h
      subst e
      exact eLe_trans eMin_l (r.dg p hp)
    · exact r.dg p hp
theorem Neg.upd {n : Nat} {f : Fn} {i j : Nat} {e : Ed} (h : Neg n f) (he : eLe e (f i j)) : Neg n (updF f i j e) := by
  obtain ⟨p, hp, x, hx, h0⟩ := h
  by_cases hij : p = i ∧ p = j
  · obtain ⟨h1, h2⟩ := hij
    subst h1
    subst h2
    rw [hx] at he
    cases e with
    | none => exact he.elim
    | some y => exact ⟨p, hp, y, by simp [updF], by simp [eLe] at he; omega⟩
  · exact ⟨p, hp, x, by unfold updF; rw [if_neg hij]; exact hx, h0⟩
theorem RunM.step {n m B : Nat} {T f : Fn} {i j : Nat} (r : RunM n m B T f i j) (hi : i < n) (hj : j < n) (hm : m < n) : RunM n m B T (updF f i j (eMin (f i j) (eAdd (f i m) (f m j)))) i (j + 1) := by
  refine ⟨r.1.upd hi hj hm, ?_⟩
  rcases r.2 with h | ⟨F, c, h⟩
  · exact .inl (h.upd eMin_l)
  · refine .inr ⟨F, c, fun p q hp hq => ?_⟩
    have e1 : f i j = F i j := by
      rw [h i j hi hj, if_neg]
      rintro (h | h)
      · exact Nat.lt_irrefl _ h
      · exact Nat.lt_irrefl _ h.2
    have e2 : f i m = F i m := by
      rw [h i m hi hm]
      split
      · exact rnd_l c hm
      · rfl
    have e3 : f m j = F m j := by
      rw [h m j hm hj]
      split
      · exact rnd_r c hm
      · rfl
    unfold updF
    by_cases e : p = i ∧ q = j
    · obtain ⟨rfl, rfl⟩ := e
      rw [if_pos ⟨rfl, rfl⟩, if_pos (.inr ⟨rfl, Nat.lt_succ_self _⟩), e1, e2, e3]
      rfl
    · rw [if_neg e, h p q hp hq]
      have : (p < i ∨ p = i ∧ q < j) ↔ (p < i ∨ p = i ∧ q < j + 1) := by
        constructor
        · rintro (h | h)
          · exact .inl h
          · exact .inr ⟨h.1, by omega⟩
        · rintro (h | h)
          · exact .inl h
          · refine .inr ⟨h.1, ?_⟩
            have : q ≠ j := fun z => e ⟨h.1, z⟩
            omega
      simp only [this]
theorem RunM.row {n m B : Nat} {T f : Fn} {i : Nat} (r : RunM n m B T f i n) : RunM n m B T f (i + 1) 0 := by
  refine ⟨r.1, ?_⟩
  rcases r.2 with h | ⟨F, c, h⟩
  · exact .inl h
  · refine .inr ⟨F, c, fun p q hp hq => ?_⟩
    rw [h p q hp hq]
    have : (p < i ∨ p = i ∧ q < n) ↔ (p < i + 1 ∨ p = i + 1 ∧ q < 0) := by omega
    simp only [this]
theorem Cm.next {n m B : Nat} {F f : Fn} (c : Cm n m B F) (hm : m < n) (he : ∀ p q, p < n → q < n → f p q = rnd F m p q) (hd : ∀ p, p < n → f p p = some 0) : Cm n (m + 1) B f := by
  refine ⟨hd, fun p q k hp hq hk => ?_, fun p q hp hq => ?_⟩
  · by_cases e : k = m
    · subst e
      rw [he p q hp hq, he p k hp hm, he k q hm hq, rnd_l c hm, rnd_r c hm]
      exact eMin_r
    · have hk' : k < m := by omega
      have hkn : k < n := by omega
      rw [he p q hp hq, he p k hp hkn, he k q hkn hq]
      unfold rnd
      refine le_add_min (le_add_minr ?_ ?_) (le_add_minr ?_ ?_)
      · exact eLe_trans eMin_l (c.tri p q k hp hq hk')
      · refine eLe_trans eMin_r ?_
        rw [← eAdd_assoc]
        exact eAdd_mono (c.tri p m k hp hm hk') eLe.rfl'
      · refine eLe_trans eMin_r ?_
        rw [eAdd_assoc]
        exact eAdd_mono eLe.rfl' (c.tri m q k hm hq hk')
      · refine eLe_trans eMin_r ?_
        have h1 := c.tri m m k hm hm hk'
        rw [c.diag m hm] at h1
        have h2 := eAdd_mono (eAdd_mono (eLe.rfl' (a := F p m)) h1) (eLe.rfl' (a := F m q))
        rw [eAdd_0] at h2
        rw [← eAdd_assoc, eAdd_assoc (a := F p m)]
        exact h2
  · rw [he p q hp hq]
    have b1 := c.bd p q hp hq
    have b2 := c.bd p m hp hm
    have b3 := c.bd m q hm hq
    have e : 2 ^ (m + 1) * B = 2 ^ m * B + 2 ^ m * B := by rw [Nat.pow_succ, Nat.mul_assoc, Nat.mul_comm 2 B, ← Nat.mul_assoc, Nat.mul_two]
    unfold rnd
    rcases eMin_or (a := F p q) (b := eAdd (F p m) (F m q)) with z | z <;> rw [z]
    · intro x hx
      have := b1 x hx
      omega
    · intro x hx
      cases h1 : F p m with
      | none => rw [h1] at hx; cases hx
      | some y =>
        cases h2 : F m q with
        | none => rw [h1, h2] at hx; cases hx
        | some w =>
          rw [h1, h2] at hx
          have e1 := b2 y h1
          have e2 := b3 w h2
          have : x = y + w := by simpa [eAdd] using hx.symm
          omega
def RunC (n m B : Nat) (T f : Fn) : Prop := Run n T f ∧ (Neg n f ∨ Cm n m B f)
theorem RunC.start {n m B : Nat} {T f : Fn} (r : RunC n m B T f) : RunM n m B T f 0 0 := by
  refine ⟨r.1, ?_⟩
  rcases r.2 with h | h
  · exact .inl h
  · refine .inr ⟨f, h, fun p q _ _ => ?_⟩
    rw [if_neg (by omega)]
theorem RunM.round {n m B : Nat} {T f : Fn} (r : RunM n m B T f n 0) (hm : m < n) : RunC n (m + 1) B T f := by
  refine ⟨r.1, ?_⟩
  by_cases hn : Neg n f
  · exact .inl hn
  · rcases r.2 with h | ⟨F, c, h⟩
    · exact .inl h
    · refine .inr (c.next hm (fun p q hp hq => ?_) fun p hp => ?_)
      · rw [h p q hp hq, if_pos (.inl hp)]
      · have h0 := r.1.dg p hp
        cases e : f p p with
        | none => rw [e] at h0; exact h0.elim
        | some x =>
          rw [e] at h0
          have : ¬ x < 0 := fun z => hn ⟨p, hp, x, e, z⟩
          simp [eLe] at h0
          have : x = 0 := by omega
          rw [this]
theorem RunC.bad {n m B : Nat} {T f : Fn} (r : RunC n m B T f) (h : Neg n f) : Bad n T := by
  obtain ⟨p, hp, x, hx, h0⟩ := h
  refine ⟨p, hp, fun s hs => ?_⟩
  have := r.1.st s hs p hp p hp
  rw [hx] at this
  cases e : s p with
  | none => rfl
  | some y => rw [e] at this; simp [eLe, eAdd] at this; omega
theorem RunC.cl {n B : Nat} {T f : Fn} (r : RunC n n B T f) (h : ¬ Neg n f) : IsCl n T f ∧ ∀ p q, p < n → q < n → EdB (2 ^ n * B) (f p q) := by
  rcases r.2 with z | c
  · exact absurd z h
  · exact ⟨⟨c.diag, fun p q m hp hq hm => c.tri p q m hp hq hm, r.1.le, r.1.st⟩, c.bd⟩
/-- the diagonal lessened: rows ahead of i done -/
def Dg (n : Nat) (T f : Fn) (i : Nat) : Prop := ∀ p q, p < n → q < n → f p q = if p = q ∧ p < i then eMin (T p q) (some 0) else T p q
theorem Dg.step {n : Nat} {T f : Fn} {i : Nat} (d : Dg n T f i) (hi : i < n) : Dg n T (updF f i i (eMin (f i i) (some 0))) (i + 1) := by
  intro p q hp hq
  unfold updF
  by_cases e : p = i ∧ q = i
  · obtain ⟨rfl, rfl⟩ := e
    rw [if_pos ⟨rfl, rfl⟩, if_pos ⟨rfl, Nat.lt_succ_self _⟩, d q q hq hq, if_neg (by omega)]
  · rw [if_neg e, d p q hp hq]
    have : (p = q ∧ p < i) ↔ (p = q ∧ p < i + 1) := by omega
    simp only [this]
theorem Dg.run {n B : Nat} {T f : Fn} (d : Dg n T f n) (hB : ∀ p q, p < n → q < n → EdB B (T p q)) (h0 : 0 < B) : RunC n 0 B T f := by
  have dg : ∀ p, p < n → eLe (f p p) (some 0) := fun p hp => by
    rw [d p p hp hp, if_pos ⟨rfl, hp⟩]; exact eMin_r
  refine ⟨⟨fun s hs q hq r hr => ?_, fun p q hp hq => ?_, dg⟩, ?_⟩
  · rw [d q r hq hr]
    split
    · rename_i h
      obtain ⟨rfl, _⟩ := h
      refine le_add_minr (hs q hq q hq) ?_
      rw [eAdd_0]; exact eLe.rfl'
    · exact hs q hq r hr
  · rw [d p q hp hq]
    split
    · exact eMin_l
    · exact eLe.rfl'
  · by_cases hn : Neg n f
    · exact .inl hn
    · refine .inr ⟨fun p hp => ?_, fun p q k _ _ hk => absurd hk (Nat.not_lt_zero _), fun p q hp hq => ?_⟩
      · have h1 := dg p hp
        cases e : f p p with
        | none => rw [e] at h1; exact h1.elim
        | some x =>
          rw [e] at h1
          have : ¬ x < 0 := fun z => hn ⟨p, hp, x, e, z⟩
          simp [eLe] at h1
          have : x = 0 := by omega
          rw [this]
      · rw [d p q hp hq]
        have hb := hB p q hp hq
        have e2 : 2 ^ 0 * B = B := by simp
        rw [e2]
        split
        · rcases eMin_or (a := T p q) (b := some 0) with z | z <;> rw [z]
          · exact hb
          · intro x hx
            cases hx
            exact h0
        · exact hb
end L3
set_option Elab.async false
set_option linter.all false
set_option maxRecDepth 100000
set_option maxHeartbeats 4000000
namespace L3
open PySem PySem.Spec PyProof.Rows L2
def SLesser (sp : Sp3) : Prop := ∀ (a b : Ed) (Q : VK3) (E : XK3), (∀ M, Q (oD (eMin a b)) M) → sp [oD a, oD b] M0 Q E
def SJoined (sp : Sp3) : Prop := ∀ (a b : Ed) (Q : VK3) (E : XK3), (∀ M, Q (oD (eAdd a b)) M) → sp [oD a, oD b] M0 Q E
def lesserR : XK3 → TS3 := fun E =>
  (wSeq (wIfS (wOr (wB (wOp (oIsN false) (wVar 0) (wC .non))) (wB (wOp (oIsN false) (wVar 1) (wC .non)))) (wRet (wIf (wB (wOp (oIsN false) (wVar 0) (wC .non))) (wVar 1) (wVar 0))) wNext)
  (wRet (wCB bMin (wCons (wVar 0) (wCons (wVar 1) wNil)))))
def joinedR : XK3 → TS3 := fun E =>
  (wRet (wIf (wOr (wB (wOp (oIsN false) (wVar 0) (wC .non))) (wB (wOp (oIsN false) (wVar 1) (wC .non)))) (wC .non) (wOp oAddF (wVar 0) (wVar 1))))
theorem s_lesser : SLesser (spOf 2 2 lesserR) := by
  refine fun a b Q E h => ⟨rfl, ?_⟩
  show lesserR E _ [some (oD a), some (oD b)] M0
  unfold lesserR
  cases a <;> cases b <;> simp only [st_seq, st_next, st_break, st_cont, st_set, st_ret, st_retN, st_drop, st_if, st_asg, st_par, st_for, ex_c, ex_var, ex_op, ex_un, ex_b, ex_and, ex_or, ex_not, ex_andV, ex_orV, ex_notV, ex_if, ex_chain, ex_nil, ex_cons, ex_tup, ex_lst, ex_call, ex_callP, ex_cb, ex_bm, ex_rep, ex_lc, ex_sl, ex_noPart, ex_part, ex_yes, it_items, it_rng1, it_rng2, tg_name, tg_sub, tg_tup, tg_cons, tg_nil, gs_0, gs_s, ss_0, ss_s, op_ii, op_ss, op_tt, op_mm, op_sb, op_ng, op_iNf, op_iNt, op_lle, op_ixT, op_ixR, op_ixL, op_putE, op_appE, it_tupE, it_rolE, it_refE, lstOf_l, exL, asS_some, asI_int, asB_bl, asL_some, asN_some, ite3_t, ite3_f, bl_1, bl_lenT, bl_lenR, bl_lenL, bl_lenS, bl_tuple, bl_list, bl_abs, bl_intI, bl_intB, bl_max, bl_min, bl_repr, op_eqSf, op_eqSt, op_eqIf, op_eqIt, op_eqTf, op_eqTt, op_eqRf, op_eqRt, op_eqNf, op_eqNt, eqD_int, eqD_nil, pl_int, pl_nil, pl_non, pl_rnil, pl_bl, sl_tupE, sl_rolE, keep_ref, keep_tup, keep_rol, tp_int, tp_tup, tp_rol, tp_str, tp_bl, tp_non, tp_ref, oFd, oMd, oPw, oShl, oLt, oLe, oGt, oGe, op_in, op_cp, wipe_nil, wipe_cons, mset_same, true_and, and_true, isN_int, sz_0, sz_1, sz_2, sz_3, sz_4, sz_5, sz_6, sz_7, sz_8, sz_9, sz_10, sz_11, sz_12, ex_lstF, ex_repF, ex_lgF1, ex_lgF2, ex_tupRg1, ex_tupRg2, ex_lcF, ex_frz, ex_slF, ex_slM, sl_tupF, sl_rolF, op_iiF, op_ssF, op_ttF, op_rrF, op_rrM, op_mmF, op_repF, li_rol, li_ref, bl_listF, bl_allF, bl_anyF, asT_some, asJ_some, op_eqLf, op_eqLt, op_eqBf, op_eqBt, isN_non, Bool.not_true, Bool.not_false, oD] <;> exact h M0
theorem s_joined : SJoined (spOf 2 2 joinedR) := by
  refine fun a b Q E h => ⟨rfl, ?_⟩
  show joinedR E _ [some (oD a), some (oD b)] M0
  unfold joinedR
  cases a <;> cases b <;> simp only [st_seq, st_next, st_break, st_cont, st_set, st_ret, st_retN, st_drop, st_if, st_asg, st_par, st_for, ex_c, ex_var, ex_op, ex_un, ex_b, ex_and, ex_or, ex_not, ex_andV, ex_orV, ex_notV, ex_if, ex_chain, ex_nil, ex_cons, ex_tup, ex_lst, ex_call, ex_callP, ex_cb, ex_bm, ex_rep, ex_lc, ex_sl, ex_noPart, ex_part, ex_yes, it_items, it_rng1, it_rng2, tg_name, tg_sub, tg_tup, tg_cons, tg_nil, gs_0, gs_s, ss_0, ss_s, op_ii, op_ss, op_tt, op_mm, op_sb, op_ng, op_iNf, op_iNt, op_lle, op_ixT, op_ixR, op_ixL, op_putE, op_appE, it_tupE, it_rolE, it_refE, lstOf_l, exL, asS_some, asI_int, asB_bl, asL_some, asN_some, ite3_t, ite3_f, bl_1, bl_lenT, bl_lenR, bl_lenL, bl_lenS, bl_tuple, bl_list, bl_abs, bl_intI, bl_intB, bl_max, bl_min, bl_repr, op_eqSf, op_eqSt, op_eqIf, op_eqIt, op_eqTf, op_eqTt, op_eqRf, op_eqRt, op_eqNf, op_eqNt, eqD_int, eqD_nil, pl_int, pl_nil, pl_non, pl_rnil, pl_bl, sl_tupE, sl_rolE, keep_ref, keep_tup, keep_rol, tp_int, tp_tup, tp_rol, tp_str, tp_bl, tp_non, tp_ref, oFd, oMd, oPw, oShl, oLt, oLe, oGt, oGe, op_in, op_cp, wipe_nil, wipe_cons, mset_same, true_and, and_true, isN_int, sz_0, sz_1, sz_2, sz_3, sz_4, sz_5, sz_6, sz_7, sz_8, sz_9, sz_10, sz_11, sz_12, ex_lstF, ex_repF, ex_lgF1, ex_lgF2, ex_tupRg1, ex_tupRg2, ex_lcF, ex_frz, ex_slF, ex_slM, sl_tupF, sl_rolF, op_iiF, op_ssF, op_ttF, op_rrF, op_rrM, op_mmF, op_repF, li_rol, li_ref, bl_listF, bl_allF, bl_anyF, asT_some, asJ_some, op_eqLf, op_eqLt, op_eqBf, op_eqBt, isN_non, Bool.not_true, Bool.not_false, oD] <;> exact h M0
theorem at2_put {n p q : Nat} {T : Tab} {e : Ed} (s : Sq n T) (hp : p < n) (hq : q < n) : at2 (putT T p q e) = updF (at2 T) p q e := by
  have h1 : p < T.length := by rw [s.rows]; exact hp
  have h2 : q < (T.getD p []).length := by
    rw [List.getD_eq_getElem?_getD, List.getElem?_eq_getElem h1]
    show q < T[p].length
    rw [s.cols _ (List.getElem_mem h1)]; exact hq
  funext i j
  unfold updF at2 putT
  by_cases hi : i = p
  · subst hi
    rw [List.getD_eq_getElem?_getD (l := T.set i _), List.getElem?_set_self h1]
    show ((T.getD i []).set q e).getD j none = _
    by_cases hj : j = q
    · subst hj
      rw [if_pos ⟨rfl, rfl⟩, List.getD_eq_getElem?_getD, List.getElem?_set_self h2]; rfl
    · rw [if_neg (fun h => hj h.2), List.getD_eq_getElem?_getD, List.getElem?_set_ne (Ne.symm hj), ← List.getD_eq_getElem?_getD]
  · rw [if_neg (fun h => hi h.1), List.getD_eq_getElem?_getD (l := T.set p _), List.getElem?_set_ne (Ne.symm hi), ← List.getD_eq_getElem?_getD]
theorem ends_at' {B n p q : Nat} {T : Tab} (t : TabB B n T) : EdB B (at2 T p q) := by
  unfold at2
  by_cases hp : p < T.length
  · rw [List.getD_eq_getElem?_getD, List.getD_eq_getElem?_getD, List.getElem?_eq_getElem hp]
    by_cases hq : q < T[p].length
    · have e : (some T[p]).getD [] = T[p] := rfl
      rw [e, List.getElem?_eq_getElem hq]
      exact t.ends _ (List.getElem_mem hp) _ (List.getElem_mem hq)
    · have e : (some T[p]).getD [] = T[p] := rfl
      rw [e, List.getElem?_eq_none (by omega)]
      exact .non
  · have e : T[p]? = none := List.getElem?_eq_none (by omega)
    rw [List.getD_eq_getElem?_getD, List.getD_eq_getElem?_getD, e]
    exact .non
theorem ends_of {B n : Nat} {T : Tab} (h : ∀ p q, p < n → q < n → EdB B (at2 T p q)) (s : Sq n T) : ∀ r ∈ T, ∀ e ∈ r, EdB B e := by
  intro r hr e he
  obtain ⟨p, hp, e1⟩ := List.mem_iff_getElem.mp hr
  obtain ⟨q, hq, e2⟩ := List.mem_iff_getElem.mp he
  have b := h p q (by rw [← s.rows]; exact hp) (by rw [← s.cols r hr]; exact hq)
  have : at2 T p q = e := by
    unfold at2
    rw [List.getD_eq_getElem?_getD, List.getD_eq_getElem?_getD, List.getElem?_eq_getElem hp]
    show (T[p][q]?).getD none = e
    rw [e1, List.getElem?_eq_getElem hq, e2]; rfl
  rw [this] at b
  exact b
def Closes (n B : Nat) (T : Tab) (d : D) : Prop := (Bad n (at2 T) ∧ d = .tup []) ∨ ∃ S : Tab, TabB (2 ^ n * B) n S ∧ IsCl n (at2 T) (at2 S) ∧ d = tabD S
def SClosed (sp : Sp3) : Prop := ∀ (n B : Nat) (T : Tab) (Q : VK3) (E : XK3), n ≤ 1000 → TabB B n T → 0 < B → (∀ d M, Closes n B T d → Q d M) → sp [tabD T] M0 Q E
def closedR (sp_lesser : Sp3) (sp_joined : Sp3) : XK3 → TS3 := fun E =>
  (wSeq (wSet 1 (wLstRgF1 (wCB bLen (wCons (wVar 0) wNil))))
  (wSeq (wSet 2 (wLcF (wItems (wVar 0)) (wgName 3) wYes (wCB bList (wCons (wVar 3) wNil)) [3]))
  (wSeq (wFor (wItems (wVar 1)) (wgName 4) (wAsg (wCallP sp_lesser E (wCons (wOp oIx (wOp oIx (wVar 2) (wVar 4)) (wVar 4)) (wCons (wC (.int 0)) wNil))) (wgSub (wOp oIx (wVar 2) (wVar 4)) (wVar 4) oPut)))
  (wSeq (wFor (wItems (wVar 1)) (wgName 5) (wFor (wItems (wVar 1)) (wgName 4) (wFor (wItems (wVar 1)) (wgName 6) (wAsg (wCallP sp_lesser E (wCons (wOp oIx (wOp oIx (wVar 2) (wVar 4)) (wVar 6)) (wCons (wCallP sp_joined E (wCons (wOp oIx (wOp oIx (wVar 2) (wVar 4)) (wVar 5)) (wCons (wOp oIx (wOp oIx (wVar 2) (wVar 5)) (wVar 6)) wNil))) wNil))) (wgSub (wOp oIx (wVar 2) (wVar 4)) (wVar 6) oPut)))))
  (wSeq (wIfS (wB (wCB bAnyF (wCons (wLcF (wItems (wVar 1)) (wgName 4) wYes (wOp oLt (wOp oIx (wOp oIx (wVar 2) (wVar 4)) (wVar 4)) (wC (.int 0))) [4]) wNil))) (wRet (wTup wNil)) wNext)
  (wRet (wCB bTuple (wCons (wLcF (wItems (wVar 2)) (wgName 3) wYes (wCB bTuple (wCons (wVar 3) wNil)) [3]) wNil))))))))
def negB (f : Fn) (p : Nat) : Bool := match f p p with
  | some x => decide (x < 0)
  | none => false
theorem neg_any {n : Nat} {f : Fn} : ((List.range n).map (negB f)).any id = true ↔ Neg n f := by
  rw [List.any_map, List.any_eq_true]
  constructor
  · rintro ⟨p, hp, h⟩
    rw [List.mem_range] at hp
    unfold negB at h
    refine ⟨p, hp, ?_⟩
    cases e : f p p with
    | none => simp [e] at h
    | some x => simp [e] at h; exact ⟨x, rfl, h⟩
  · rintro ⟨p, hp, x, hx, h0⟩
    refine ⟨p, List.mem_range.mpr hp, ?_⟩
    simp [negB, hx, h0]
/-- over a list of 0 .. n - 1 -/
theorem for_pts {g : TG3} {tb : TS3} {E : Ends3} {n : Nat} (Pv : Nat → St3 → Mp → Prop)
    (step : ∀ i τ M, i < n → Pv i τ M → ∀ X : St3 → Mp → Prop, (∀ τ' M', Pv (i + 1) τ' M' → X τ' M') → g (.int (0 + (i : Nat))) τ M fun τ2 M2 => tb { E with nx := X, ct := X, bk := E.nx } τ2 M2)
    (fin : ∀ τ M, Pv n τ M → E.nx τ M) {τ : St3} {M : Mp} (h0 : Pv 0 τ M) : forW (fun _ => True) g tb E (rgD 0 n) τ M := for_rg Pv step fin h0
theorem s_closed {sl sj : Sp3} (kl : SLesser sl) (kj : SJoined sj) : SClosed (spOf 1 7 (closedR sl sj)) := by
  refine fun n B T Q E hn tb hB h => ⟨rfl, ?_⟩
  show closedR sl sj E _ [some (tabD T), none, none, none, none, none, none] M0
  unfold closedR
  rw [st_seq, st_set]
  simp only [ex_c, ex_var, ex_op, ex_un, ex_b, ex_and, ex_or, ex_not, ex_andV, ex_orV, ex_notV, ex_if, ex_chain, ex_nil, ex_cons, ex_tup, ex_lst, ex_call, ex_callP, ex_cb, ex_bm, ex_rep, ex_sl, ex_noPart, ex_part, ex_yes, it_items, it_rng1, it_rng2, tg_name, tg_sub, tg_tup, tg_cons, tg_nil, gs_0, gs_s, ss_0, ss_s, op_ii, op_ss, op_tt, op_mm, op_sb, op_ng, op_iNf, op_iNt, op_lle, op_ixT, op_ixR, op_ixL, op_putE, op_appE, it_tupE, it_rolE, it_refE, lstOf_l, exL, asS_some, asI_int, asB_bl, asL_some, asN_some, ite3_t, ite3_f, bl_1, bl_lenT, bl_lenR, bl_lenL, bl_lenS, bl_tuple, bl_list, bl_abs, bl_intI, bl_intB, bl_max, bl_min, bl_repr, op_eqSf, op_eqSt, op_eqIf, op_eqIt, op_eqTf, op_eqTt, op_eqRf, op_eqRt, op_eqNf, op_eqNt, eqD_int, eqD_nil, pl_int, pl_nil, pl_non, pl_rnil, pl_bl, sl_tupE, sl_rolE, keep_ref, keep_tup, keep_rol, tp_int, tp_tup, tp_rol, tp_str, tp_bl, tp_non, tp_ref, oFd, oMd, oPw, oShl, oLt, oLe, oGt, oGe, op_in, op_cp, wipe_nil, wipe_cons, mset_same, true_and, and_true, isN_int, sz_0, sz_1, sz_2, sz_3, sz_4, sz_5, sz_6, sz_7, sz_8, sz_9, sz_10, sz_11, sz_12, ex_lstF, ex_repF, ex_lgF1, ex_lgF2, ex_tupRg1, ex_tupRg2, ex_frz, ex_slF, ex_slM, sl_tupF, sl_rolF, op_iiF, op_ssF, op_ttF, op_rrF, op_rrM, op_mmF, op_repF, li_rol, li_ref, bl_listF, bl_allF, bl_anyF, asT_some, asJ_some, op_eqLf, op_eqLt, op_eqBf, op_eqBt, isN_non, Bool.not_true, Bool.not_false, tabD, List.length_map, tb.rows, Int.toNat_natCast]
  refine ⟨⟨by omega, by omega⟩, ?_⟩
  rw [st_seq, st_set]
  refine lc_rowsF (n := n) rfl (by simp) (by decide) tb.sq hn fun as M1 m1 => ?_
  have eB := fun p q (_ : p < n) (_ : q < n) => ends_at' (p := p) (q := q) tb
  have e0 : ∀ i : Nat, (0 + (i : Int)).toNat = i := fun i => by omega
  have big : (1000 : Nat) ≤ sizeLine := by decide
  dsimp only
  rw [st_seq, st_for]
  simp only [ex_c, ex_var, ex_op, ex_un, ex_b, ex_and, ex_or, ex_not, ex_andV, ex_orV, ex_notV, ex_if, ex_chain, ex_nil, ex_cons, ex_tup, ex_lst, ex_call, ex_callP, ex_cb, ex_bm, ex_rep, ex_sl, ex_noPart, ex_part, ex_yes, it_items, it_rng1, it_rng2, tg_name, tg_sub, tg_tup, tg_cons, tg_nil, gs_0, gs_s, ss_0, ss_s, op_ii, op_ss, op_tt, op_mm, op_sb, op_ng, op_iNf, op_iNt, op_lle, op_ixT, op_ixR, op_ixL, op_putE, op_appE, it_tupE, it_rolE, it_refE, lstOf_l, exL, asS_some, asI_int, asB_bl, asL_some, asN_some, ite3_t, ite3_f, bl_1, bl_lenT, bl_lenR, bl_lenL, bl_lenS, bl_tuple, bl_list, bl_abs, bl_intI, bl_intB, bl_max, bl_min, bl_repr, op_eqSf, op_eqSt, op_eqIf, op_eqIt, op_eqTf, op_eqTt, op_eqRf, op_eqRt, op_eqNf, op_eqNt, eqD_int, eqD_nil, pl_int, pl_nil, pl_non, pl_rnil, pl_bl, sl_tupE, sl_rolE, keep_ref, keep_tup, keep_rol, tp_int, tp_tup, tp_rol, tp_str, tp_bl, tp_non, tp_ref, oFd, oMd, oPw, oShl, oLt, oLe, oGt, oGe, op_in, op_cp, wipe_nil, wipe_cons, mset_same, true_and, and_true, isN_int, sz_0, sz_1, sz_2, sz_3, sz_4, sz_5, sz_6, sz_7, sz_8, sz_9, sz_10, sz_11, sz_12, ex_lstF, ex_repF, ex_lgF1, ex_lgF2, ex_tupRg1, ex_tupRg2, ex_frz, ex_slF, ex_slM, sl_tupF, sl_rolF, op_iiF, op_ssF, op_ttF, op_rrF, op_rrM, op_mmF, op_repF, li_rol, li_ref, bl_listF, bl_allF, bl_anyF, asT_some, asJ_some, op_eqLf, op_eqLt, op_eqBf, op_eqBt, isN_non, Bool.not_true, Bool.not_false]
  -- the diagonal
  refine for_pts (fun i τ M' => i ≤ n ∧ (∃ f, Rows M0 M' as f ∧ Sq n f ∧ Dg n (at2 T) (at2 f) i) ∧ ∃ x3 x4 x5 x6, τ = [some (tabD T), some (.rol (rgD 0 n)), some (.rol (as.map D.ref)), x3, x4, x5, x6])
    ?_ ?_ ⟨Nat.zero_le _, ⟨T, m1, tb.sq, fun p q hp hq => by rw [if_neg (by omega)]⟩, _, _, _, _, rfl⟩
  · rintro i τ M' hi ⟨_, ⟨f, m, sq, dg⟩, x3, x4, x5, x6, rfl⟩ X hX
    obtain ⟨b, r, g1, g2, g3, g4, g5, g6⟩ := m.at2R sq (p := 0 + (i : Int)) (q := 0 + (i : Int)) (by omega) (by omega) (by omega) (by omega)
    rw [e0] at g3 g4 g5 g6
    simp only [st_seq, st_next, st_break, st_cont, st_set, st_ret, st_retN, st_drop, st_if, st_asg, st_par, st_for, ex_c, ex_var, ex_op, ex_un, ex_b, ex_and, ex_or, ex_not, ex_andV, ex_orV, ex_notV, ex_if, ex_chain, ex_nil, ex_cons, ex_tup, ex_lst, ex_call, ex_callP, ex_cb, ex_bm, ex_rep, ex_lc, ex_sl, ex_noPart, ex_part, ex_yes, it_items, it_rng1, it_rng2, tg_name, tg_sub, tg_tup, tg_cons, tg_nil, gs_0, gs_s, ss_0, ss_s, op_ii, op_ss, op_tt, op_mm, op_sb, op_ng, op_iNf, op_iNt, op_lle, op_ixT, op_ixR, op_ixL, op_putE, op_appE, it_tupE, it_rolE, it_refE, lstOf_l, exL, asS_some, asI_int, asB_bl, asL_some, asN_some, ite3_t, ite3_f, bl_1, bl_lenT, bl_lenR, bl_lenL, bl_lenS, bl_tuple, bl_list, bl_abs, bl_intI, bl_intB, bl_max, bl_min, bl_repr, op_eqSf, op_eqSt, op_eqIf, op_eqIt, op_eqTf, op_eqTt, op_eqRf, op_eqRt, op_eqNf, op_eqNt, eqD_int, eqD_nil, pl_int, pl_nil, pl_non, pl_rnil, pl_bl, sl_tupE, sl_rolE, keep_ref, keep_tup, keep_rol, tp_int, tp_tup, tp_rol, tp_str, tp_bl, tp_non, tp_ref, oFd, oMd, oPw, oShl, oLt, oLe, oGt, oGe, op_in, op_cp, wipe_nil, wipe_cons, mset_same, true_and, and_true, isN_int, sz_0, sz_1, sz_2, sz_3, sz_4, sz_5, sz_6, sz_7, sz_8, sz_9, sz_10, sz_11, sz_12, ex_lstF, ex_repF, ex_lgF1, ex_lgF2, ex_tupRg1, ex_tupRg2, ex_lcF, ex_frz, ex_slF, ex_slM, sl_tupF, sl_rolF, op_iiF, op_ssF, op_ttF, op_rrF, op_rrM, op_mmF, op_repF, li_rol, li_ref, bl_listF, bl_allF, bl_anyF, asT_some, asJ_some, op_eqLf, op_eqLt, op_eqBf, op_eqBt, isN_non, Bool.not_true, Bool.not_false, g1, g2, g3]
    refine kl _ (some 0) _ _ fun M2 => ?_
    simp only [st_seq, st_next, st_break, st_cont, st_set, st_ret, st_retN, st_drop, st_if, st_asg, st_par, st_for, ex_c, ex_var, ex_op, ex_un, ex_b, ex_and, ex_or, ex_not, ex_andV, ex_orV, ex_notV, ex_if, ex_chain, ex_nil, ex_cons, ex_tup, ex_lst, ex_call, ex_callP, ex_cb, ex_bm, ex_rep, ex_lc, ex_sl, ex_noPart, ex_part, ex_yes, it_items, it_rng1, it_rng2, tg_name, tg_sub, tg_tup, tg_cons, tg_nil, gs_0, gs_s, ss_0, ss_s, op_ii, op_ss, op_tt, op_mm, op_sb, op_ng, op_iNf, op_iNt, op_lle, op_ixT, op_ixR, op_ixL, op_putE, op_appE, it_tupE, it_rolE, it_refE, lstOf_l, exL, asS_some, asI_int, asB_bl, asL_some, asN_some, ite3_t, ite3_f, bl_1, bl_lenT, bl_lenR, bl_lenL, bl_lenS, bl_tuple, bl_list, bl_abs, bl_intI, bl_intB, bl_max, bl_min, bl_repr, op_eqSf, op_eqSt, op_eqIf, op_eqIt, op_eqTf, op_eqTt, op_eqRf, op_eqRt, op_eqNf, op_eqNt, eqD_int, eqD_nil, pl_int, pl_nil, pl_non, pl_rnil, pl_bl, sl_tupE, sl_rolE, keep_ref, keep_tup, keep_rol, tp_int, tp_tup, tp_rol, tp_str, tp_bl, tp_non, tp_ref, oFd, oMd, oPw, oShl, oLt, oLe, oGt, oGe, op_in, op_cp, wipe_nil, wipe_cons, mset_same, true_and, and_true, isN_int, sz_0, sz_1, sz_2, sz_3, sz_4, sz_5, sz_6, sz_7, sz_8, sz_9, sz_10, sz_11, sz_12, ex_lstF, ex_repF, ex_lgF1, ex_lgF2, ex_tupRg1, ex_tupRg2, ex_lcF, ex_frz, ex_slF, ex_slM, sl_tupF, sl_rolF, op_iiF, op_ssF, op_ttF, op_rrF, op_rrM, op_mmF, op_repF, li_rol, li_ref, bl_listF, bl_allF, bl_anyF, asT_some, asJ_some, op_eqLf, op_eqLt, op_eqBf, op_eqBt, isN_non, Bool.not_true, Bool.not_false, g1, g2, g4]
    have m2 := m.putR (q := i) (x := eMin (at2 f i i) (some 0)) g5 g6
    refine hX _ _ ⟨hi, ⟨_, m2, sq.put, ?_⟩, _, _, _, _, rfl⟩
    rw [at2_put sq hi hi]
    exact dg.step hi
  · rintro τ M' ⟨_, ⟨f, m, sq, dg⟩, x3, x4, x5, x6, rfl⟩
    have rc := dg.run eB hB
    dsimp only
    rw [st_seq, st_for]
    simp only [ex_c, ex_var, ex_op, ex_un, ex_b, ex_and, ex_or, ex_not, ex_andV, ex_orV, ex_notV, ex_if, ex_chain, ex_nil, ex_cons, ex_tup, ex_lst, ex_call, ex_callP, ex_cb, ex_bm, ex_rep, ex_sl, ex_noPart, ex_part, ex_yes, it_items, it_rng1, it_rng2, tg_name, tg_sub, tg_tup, tg_cons, tg_nil, gs_0, gs_s, ss_0, ss_s, op_ii, op_ss, op_tt, op_mm, op_sb, op_ng, op_iNf, op_iNt, op_lle, op_ixT, op_ixR, op_ixL, op_putE, op_appE, it_tupE, it_rolE, it_refE, lstOf_l, exL, asS_some, asI_int, asB_bl, asL_some, asN_some, ite3_t, ite3_f, bl_1, bl_lenT, bl_lenR, bl_lenL, bl_lenS, bl_tuple, bl_list, bl_abs, bl_intI, bl_intB, bl_max, bl_min, bl_repr, op_eqSf, op_eqSt, op_eqIf, op_eqIt, op_eqTf, op_eqTt, op_eqRf, op_eqRt, op_eqNf, op_eqNt, eqD_int, eqD_nil, pl_int, pl_nil, pl_non, pl_rnil, pl_bl, sl_tupE, sl_rolE, keep_ref, keep_tup, keep_rol, tp_int, tp_tup, tp_rol, tp_str, tp_bl, tp_non, tp_ref, oFd, oMd, oPw, oShl, oLt, oLe, oGt, oGe, op_in, op_cp, wipe_nil, wipe_cons, mset_same, true_and, and_true, isN_int, sz_0, sz_1, sz_2, sz_3, sz_4, sz_5, sz_6, sz_7, sz_8, sz_9, sz_10, sz_11, sz_12, ex_lstF, ex_repF, ex_lgF1, ex_lgF2, ex_tupRg1, ex_tupRg2, ex_frz, ex_slF, ex_slM, sl_tupF, sl_rolF, op_iiF, op_ssF, op_ttF, op_rrF, op_rrM, op_mmF, op_repF, li_rol, li_ref, bl_listF, bl_allF, bl_anyF, asT_some, asJ_some, op_eqLf, op_eqLt, op_eqBf, op_eqBt, isN_non, Bool.not_true, Bool.not_false]
    refine for_pts (fun i τ M' => i ≤ n ∧ (∃ f, Rows M0 M' as f ∧ Sq n f ∧ RunC n i B (at2 T) (at2 f)) ∧ ∃ x3 x4 x5 x6, τ = [some (tabD T), some (.rol (rgD 0 n)), some (.rol (as.map D.ref)), x3, x4, x5, x6])
      ?_ ?_ ⟨Nat.zero_le _, ⟨f, m, sq, rc⟩, _, _, _, _, rfl⟩
    · rintro k τ M' hk ⟨_, ⟨f, m, sq, rc⟩, x3, x4, x5, x6, rfl⟩ X hX
      rw [tg_name, st_for]
      simp only [ex_c, ex_var, ex_op, ex_un, ex_b, ex_and, ex_or, ex_not, ex_andV, ex_orV, ex_notV, ex_if, ex_chain, ex_nil, ex_cons, ex_tup, ex_lst, ex_call, ex_callP, ex_cb, ex_bm, ex_rep, ex_sl, ex_noPart, ex_part, ex_yes, it_items, it_rng1, it_rng2, tg_name, tg_sub, tg_tup, tg_cons, tg_nil, gs_0, gs_s, ss_0, ss_s, op_ii, op_ss, op_tt, op_mm, op_sb, op_ng, op_iNf, op_iNt, op_lle, op_ixT, op_ixR, op_ixL, op_putE, op_appE, it_tupE, it_rolE, it_refE, lstOf_l, exL, asS_some, asI_int, asB_bl, asL_some, asN_some, ite3_t, ite3_f, bl_1, bl_lenT, bl_lenR, bl_lenL, bl_lenS, bl_tuple, bl_list, bl_abs, bl_intI, bl_intB, bl_max, bl_min, bl_repr, op_eqSf, op_eqSt, op_eqIf, op_eqIt, op_eqTf, op_eqTt, op_eqRf, op_eqRt, op_eqNf, op_eqNt, eqD_int, eqD_nil, pl_int, pl_nil, pl_non, pl_rnil, pl_bl, sl_tupE, sl_rolE, keep_ref, keep_tup, keep_rol, tp_int, tp_tup, tp_rol, tp_str, tp_bl, tp_non, tp_ref, oFd, oMd, oPw, oShl, oLt, oLe, oGt, oGe, op_in, op_cp, wipe_nil, wipe_cons, mset_same, true_and, and_true, isN_int, sz_0, sz_1, sz_2, sz_3, sz_4, sz_5, sz_6, sz_7, sz_8, sz_9, sz_10, sz_11, sz_12, ex_lstF, ex_repF, ex_lgF1, ex_lgF2, ex_tupRg1, ex_tupRg2, ex_frz, ex_slF, ex_slM, sl_tupF, sl_rolF, op_iiF, op_ssF, op_ttF, op_rrF, op_rrM, op_mmF, op_repF, li_rol, li_ref, bl_listF, bl_allF, bl_anyF, asT_some, asJ_some, op_eqLf, op_eqLt, op_eqBf, op_eqBt, isN_non, Bool.not_true, Bool.not_false]
      refine for_pts (fun i τ M' => i ≤ n ∧ (∃ f, Rows M0 M' as f ∧ Sq n f ∧ RunM n k B (at2 T) (at2 f) i 0) ∧ ∃ x3 x4 x6, τ = [some (tabD T), some (.rol (rgD 0 n)), some (.rol (as.map D.ref)), x3, x4, some (.int (0 + (k : Nat))), x6])
        ?_ ?_ ⟨Nat.zero_le _, ⟨f, m, sq, rc.start⟩, _, _, _, rfl⟩
      · rintro i τ M' hi ⟨_, ⟨f, m, sq, rm⟩, x3, x4, x6, rfl⟩ X2 hX2
        rw [tg_name, st_for]
        simp only [ex_c, ex_var, ex_op, ex_un, ex_b, ex_and, ex_or, ex_not, ex_andV, ex_orV, ex_notV, ex_if, ex_chain, ex_nil, ex_cons, ex_tup, ex_lst, ex_call, ex_callP, ex_cb, ex_bm, ex_rep, ex_sl, ex_noPart, ex_part, ex_yes, it_items, it_rng1, it_rng2, tg_name, tg_sub, tg_tup, tg_cons, tg_nil, gs_0, gs_s, ss_0, ss_s, op_ii, op_ss, op_tt, op_mm, op_sb, op_ng, op_iNf, op_iNt, op_lle, op_ixT, op_ixR, op_ixL, op_putE, op_appE, it_tupE, it_rolE, it_refE, lstOf_l, exL, asS_some, asI_int, asB_bl, asL_some, asN_some, ite3_t, ite3_f, bl_1, bl_lenT, bl_lenR, bl_lenL, bl_lenS, bl_tuple, bl_list, bl_abs, bl_intI, bl_intB, bl_max, bl_min, bl_repr, op_eqSf, op_eqSt, op_eqIf, op_eqIt, op_eqTf, op_eqTt, op_eqRf, op_eqRt, op_eqNf, op_eqNt, eqD_int, eqD_nil, pl_int, pl_nil, pl_non, pl_rnil, pl_bl, sl_tupE, sl_rolE, keep_ref, keep_tup, keep_rol, tp_int, tp_tup, tp_rol, tp_str, tp_bl, tp_non, tp_ref, oFd, oMd, oPw, oShl, oLt, oLe, oGt, oGe, op_in, op_cp, wipe_nil, wipe_cons, mset_same, true_and, and_true, isN_int, sz_0, sz_1, sz_2, sz_3, sz_4, sz_5, sz_6, sz_7, sz_8, sz_9, sz_10, sz_11, sz_12, ex_lstF, ex_repF, ex_lgF1, ex_lgF2, ex_tupRg1, ex_tupRg2, ex_frz, ex_slF, ex_slM, sl_tupF, sl_rolF, op_iiF, op_ssF, op_ttF, op_rrF, op_rrM, op_mmF, op_repF, li_rol, li_ref, bl_listF, bl_allF, bl_anyF, asT_some, asJ_some, op_eqLf, op_eqLt, op_eqBf, op_eqBt, isN_non, Bool.not_true, Bool.not_false]
        refine for_pts (fun j τ M' => j ≤ n ∧ (∃ f, Rows M0 M' as f ∧ Sq n f ∧ RunM n k B (at2 T) (at2 f) i j) ∧ ∃ x3 x6, τ = [some (tabD T), some (.rol (rgD 0 n)), some (.rol (as.map D.ref)), x3, some (.int (0 + (i : Nat))), some (.int (0 + (k : Nat))), x6])
          ?_ ?_ ⟨Nat.zero_le _, ⟨f, m, sq, rm⟩, _, _, rfl⟩
        · rintro j τ M' hj ⟨_, ⟨f, m, sq, rm⟩, x3, x6, rfl⟩ X3 hX3
          obtain ⟨b, r, g1, g2, g3, g4, g5, g6⟩ := m.at2R sq (p := 0 + (i : Int)) (q := 0 + (j : Int)) (by omega) (by omega) (by omega) (by omega)
          obtain ⟨b', r', k1, k2, k3, _, k5, k6⟩ := m.at2R sq (p := 0 + (i : Int)) (q := 0 + (k : Int)) (by omega) (by omega) (by omega) (by omega)
          obtain ⟨c, t, l1, l2, l3, _, _, _⟩ := m.at2R sq (p := 0 + (k : Int)) (q := 0 + (j : Int)) (by omega) (by omega) (by omega) (by omega)
          rw [e0, e0] at g3 k3 l3
          rw [e0] at g4 g5 g6 k5 k6
          have eb : b' = b := by rw [g5] at k5; exact (Option.some.inj k5).symm
          have er : r' = r := by rw [g6] at k6; exact (Option.some.inj k6).symm
          rw [er] at k3
          simp only [st_seq, st_next, st_break, st_cont, st_set, st_ret, st_retN, st_drop, st_if, st_asg, st_par, st_for, ex_c, ex_var, ex_op, ex_un, ex_b, ex_and, ex_or, ex_not, ex_andV, ex_orV, ex_notV, ex_if, ex_chain, ex_nil, ex_cons, ex_tup, ex_lst, ex_call, ex_callP, ex_cb, ex_bm, ex_rep, ex_lc, ex_sl, ex_noPart, ex_part, ex_yes, it_items, it_rng1, it_rng2, tg_name, tg_sub, tg_tup, tg_cons, tg_nil, gs_0, gs_s, ss_0, ss_s, op_ii, op_ss, op_tt, op_mm, op_sb, op_ng, op_iNf, op_iNt, op_lle, op_ixT, op_ixR, op_ixL, op_putE, op_appE, it_tupE, it_rolE, it_refE, lstOf_l, exL, asS_some, asI_int, asB_bl, asL_some, asN_some, ite3_t, ite3_f, bl_1, bl_lenT, bl_lenR, bl_lenL, bl_lenS, bl_tuple, bl_list, bl_abs, bl_intI, bl_intB, bl_max, bl_min, bl_repr, op_eqSf, op_eqSt, op_eqIf, op_eqIt, op_eqTf, op_eqTt, op_eqRf, op_eqRt, op_eqNf, op_eqNt, eqD_int, eqD_nil, pl_int, pl_nil, pl_non, pl_rnil, pl_bl, sl_tupE, sl_rolE, keep_ref, keep_tup, keep_rol, tp_int, tp_tup, tp_rol, tp_str, tp_bl, tp_non, tp_ref, oFd, oMd, oPw, oShl, oLt, oLe, oGt, oGe, op_in, op_cp, wipe_nil, wipe_cons, mset_same, true_and, and_true, isN_int, sz_0, sz_1, sz_2, sz_3, sz_4, sz_5, sz_6, sz_7, sz_8, sz_9, sz_10, sz_11, sz_12, ex_lstF, ex_repF, ex_lgF1, ex_lgF2, ex_tupRg1, ex_tupRg2, ex_lcF, ex_frz, ex_slF, ex_slM, sl_tupF, sl_rolF, op_iiF, op_ssF, op_ttF, op_rrF, op_rrM, op_mmF, op_repF, li_rol, li_ref, bl_listF, bl_allF, bl_anyF, asT_some, asJ_some, op_eqLf, op_eqLt, op_eqBf, op_eqBt, isN_non, Bool.not_true, Bool.not_false, g1, g2, g3, k3, l1, l2, l3]
          refine kj _ _ _ _ fun M2 => kl _ _ _ _ fun M3 => ?_
          simp only [st_seq, st_next, st_break, st_cont, st_set, st_ret, st_retN, st_drop, st_if, st_asg, st_par, st_for, ex_c, ex_var, ex_op, ex_un, ex_b, ex_and, ex_or, ex_not, ex_andV, ex_orV, ex_notV, ex_if, ex_chain, ex_nil, ex_cons, ex_tup, ex_lst, ex_call, ex_callP, ex_cb, ex_bm, ex_rep, ex_lc, ex_sl, ex_noPart, ex_part, ex_yes, it_items, it_rng1, it_rng2, tg_name, tg_sub, tg_tup, tg_cons, tg_nil, gs_0, gs_s, ss_0, ss_s, op_ii, op_ss, op_tt, op_mm, op_sb, op_ng, op_iNf, op_iNt, op_lle, op_ixT, op_ixR, op_ixL, op_putE, op_appE, it_tupE, it_rolE, it_refE, lstOf_l, exL, asS_some, asI_int, asB_bl, asL_some, asN_some, ite3_t, ite3_f, bl_1, bl_lenT, bl_lenR, bl_lenL, bl_lenS, bl_tuple, bl_list, bl_abs, bl_intI, bl_intB, bl_max, bl_min, bl_repr, op_eqSf, op_eqSt, op_eqIf, op_eqIt, op_eqTf, op_eqTt, op_eqRf, op_eqRt, op_eqNf, op_eqNt, eqD_int, eqD_nil, pl_int, pl_nil, pl_non, pl_rnil, pl_bl, sl_tupE, sl_rolE, keep_ref, keep_tup, keep_rol, tp_int, tp_tup, tp_rol, tp_str, tp_bl, tp_non, tp_ref, oFd, oMd, oPw, oShl, oLt, oLe, oGt, oGe, op_in, op_cp, wipe_nil, wipe_cons, mset_same, true_and, and_true, isN_int, sz_0, sz_1, sz_2, sz_3, sz_4, sz_5, sz_6, sz_7, sz_8, sz_9, sz_10, sz_11, sz_12, ex_lstF, ex_repF, ex_lgF1, ex_lgF2, ex_tupRg1, ex_tupRg2, ex_lcF, ex_frz, ex_slF, ex_slM, sl_tupF, sl_rolF, op_iiF, op_ssF, op_ttF, op_rrF, op_rrM, op_mmF, op_repF, li_rol, li_ref, bl_listF, bl_allF, bl_anyF, asT_some, asJ_some, op_eqLf, op_eqLt, op_eqBf, op_eqBt, isN_non, Bool.not_true, Bool.not_false, g1, g2, g4]
          have m2 := m.putR (q := j) (x := eMin (at2 f i j) (eAdd (at2 f i k) (at2 f k j))) g5 g6
          refine hX3 _ _ ⟨hj, ⟨_, m2, sq.put, ?_⟩, _, _, rfl⟩
          rw [at2_put sq hi hj]
          exact rm.step hi hj hk
        · rintro τ M' ⟨_, ⟨f, m, sq, rm⟩, x3, x6, rfl⟩
          exact hX2 _ _ ⟨hi, ⟨f, m, sq, rm.row⟩, _, _, _, rfl⟩
      · rintro τ M' ⟨_, ⟨f, m, sq, rm⟩, x3, x4, x6, rfl⟩
        exact hX _ _ ⟨hk, ⟨f, m, sq, rm.round hk⟩, _, _, _, _, rfl⟩
    · rintro τ M' ⟨_, ⟨f, m, sq, rc⟩, x3, x4, x5, x6, rfl⟩
      dsimp only
      rw [st_seq, st_if]
      simp only [ex_c, ex_var, ex_op, ex_un, ex_b, ex_and, ex_or, ex_not, ex_andV, ex_orV, ex_notV, ex_if, ex_chain, ex_nil, ex_cons, ex_tup, ex_lst, ex_call, ex_callP, ex_cb, ex_bm, ex_rep, ex_sl, ex_noPart, ex_part, ex_yes, it_items, it_rng1, it_rng2, tg_name, tg_sub, tg_tup, tg_cons, tg_nil, gs_0, gs_s, ss_0, ss_s, op_ii, op_ss, op_tt, op_mm, op_sb, op_ng, op_iNf, op_iNt, op_lle, op_ixT, op_ixR, op_ixL, op_putE, op_appE, it_tupE, it_rolE, it_refE, lstOf_l, exL, asS_some, asI_int, asB_bl, asL_some, asN_some, ite3_t, ite3_f, bl_1, bl_lenT, bl_lenR, bl_lenL, bl_lenS, bl_tuple, bl_list, bl_abs, bl_intI, bl_intB, bl_max, bl_min, bl_repr, op_eqSf, op_eqSt, op_eqIf, op_eqIt, op_eqTf, op_eqTt, op_eqRf, op_eqRt, op_eqNf, op_eqNt, eqD_int, eqD_nil, pl_int, pl_nil, pl_non, pl_rnil, pl_bl, sl_tupE, sl_rolE, keep_ref, keep_tup, keep_rol, tp_int, tp_tup, tp_rol, tp_str, tp_bl, tp_non, tp_ref, oFd, oMd, oPw, oShl, oLt, oLe, oGt, oGe, op_in, op_cp, wipe_nil, wipe_cons, mset_same, true_and, and_true, isN_int, sz_0, sz_1, sz_2, sz_3, sz_4, sz_5, sz_6, sz_7, sz_8, sz_9, sz_10, sz_11, sz_12, ex_lstF, ex_repF, ex_lgF1, ex_lgF2, ex_tupRg1, ex_tupRg2, ex_frz, ex_slF, ex_slM, sl_tupF, sl_rolF, op_iiF, op_ssF, op_ttF, op_rrF, op_rrM, op_mmF, op_repF, li_rol, li_ref, bl_listF, bl_allF, bl_anyF, asT_some, asJ_some, op_eqLf, op_eqLt, op_eqBf, op_eqBt, isN_non, Bool.not_true, Bool.not_false, ex_lcF]
      refine lc_of (fun i : Nat => D.int (0 + (i : Int))) (fun i => D.bl (negB (at2 f) i)) True.intro (List.range n) (by rw [List.length_range]; omega) (fun k hk K q => ?_) ?_
      · rw [List.mem_range] at hk
        obtain ⟨b, r, g1, g2, g3, g4, g5, g6⟩ := m.at2R sq (p := 0 + (k : Int)) (q := 0 + (k : Int)) (by omega) (by omega) (by omega) (by omega)
        rw [e0] at g3
        have hd := rc.1.dg k hk
        cases ex : at2 f k k with
        | none => rw [ex] at hd; exact hd.elim
        | some x =>
          rw [ex] at g3
          simp only [ex_c, ex_var, ex_op, ex_un, ex_b, ex_and, ex_or, ex_not, ex_andV, ex_orV, ex_notV, ex_if, ex_chain, ex_nil, ex_cons, ex_tup, ex_lst, ex_call, ex_callP, ex_cb, ex_bm, ex_rep, ex_sl, ex_noPart, ex_part, ex_yes, it_items, it_rng1, it_rng2, tg_name, tg_sub, tg_tup, tg_cons, tg_nil, gs_0, gs_s, ss_0, ss_s, op_ii, op_ss, op_tt, op_mm, op_sb, op_ng, op_iNf, op_iNt, op_lle, op_ixT, op_ixR, op_ixL, op_putE, op_appE, it_tupE, it_rolE, it_refE, lstOf_l, exL, asS_some, asI_int, asB_bl, asL_some, asN_some, ite3_t, ite3_f, bl_1, bl_lenT, bl_lenR, bl_lenL, bl_lenS, bl_tuple, bl_list, bl_abs, bl_intI, bl_intB, bl_max, bl_min, bl_repr, op_eqSf, op_eqSt, op_eqIf, op_eqIt, op_eqTf, op_eqTt, op_eqRf, op_eqRt, op_eqNf, op_eqNt, eqD_int, eqD_nil, pl_int, pl_nil, pl_non, pl_rnil, pl_bl, sl_tupE, sl_rolE, keep_ref, keep_tup, keep_rol, tp_int, tp_tup, tp_rol, tp_str, tp_bl, tp_non, tp_ref, oFd, oMd, oPw, oShl, oLt, oLe, oGt, oGe, op_in, op_cp, wipe_nil, wipe_cons, mset_same, true_and, and_true, isN_int, sz_0, sz_1, sz_2, sz_3, sz_4, sz_5, sz_6, sz_7, sz_8, sz_9, sz_10, sz_11, sz_12, ex_lstF, ex_repF, ex_lgF1, ex_lgF2, ex_tupRg1, ex_tupRg2, ex_frz, ex_slF, ex_slM, sl_tupF, sl_rolF, op_iiF, op_ssF, op_ttF, op_rrF, op_rrM, op_mmF, op_repF, li_rol, li_ref, bl_listF, bl_allF, bl_anyF, asT_some, asJ_some, op_eqLf, op_eqLt, op_eqBf, op_eqBt, isN_non, Bool.not_true, Bool.not_false, g1, g2, g3, oD]
          simpa [negB, ex] using q
      · simp only [ex_c, ex_var, ex_op, ex_un, ex_b, ex_and, ex_or, ex_not, ex_andV, ex_orV, ex_notV, ex_if, ex_chain, ex_nil, ex_cons, ex_tup, ex_lst, ex_call, ex_callP, ex_cb, ex_bm, ex_rep, ex_sl, ex_noPart, ex_part, ex_yes, it_items, it_rng1, it_rng2, tg_name, tg_sub, tg_tup, tg_cons, tg_nil, gs_0, gs_s, ss_0, ss_s, op_ii, op_ss, op_tt, op_mm, op_sb, op_ng, op_iNf, op_iNt, op_lle, op_ixT, op_ixR, op_ixL, op_putE, op_appE, it_tupE, it_rolE, it_refE, lstOf_l, exL, asS_some, asI_int, asB_bl, asL_some, asN_some, ite3_t, ite3_f, bl_1, bl_lenT, bl_lenR, bl_lenL, bl_lenS, bl_tuple, bl_list, bl_abs, bl_intI, bl_intB, bl_max, bl_min, bl_repr, op_eqSf, op_eqSt, op_eqIf, op_eqIt, op_eqTf, op_eqTt, op_eqRf, op_eqRt, op_eqNf, op_eqNt, eqD_int, eqD_nil, pl_int, pl_nil, pl_non, pl_rnil, pl_bl, sl_tupE, sl_rolE, keep_ref, keep_tup, keep_rol, tp_int, tp_tup, tp_rol, tp_str, tp_bl, tp_non, tp_ref, oFd, oMd, oPw, oShl, oLt, oLe, oGt, oGe, op_in, op_cp, wipe_nil, wipe_cons, mset_same, true_and, and_true, isN_int, sz_0, sz_1, sz_2, sz_3, sz_4, sz_5, sz_6, sz_7, sz_8, sz_9, sz_10, sz_11, sz_12, ex_lstF, ex_repF, ex_lgF1, ex_lgF2, ex_tupRg1, ex_tupRg2, ex_frz, ex_slF, ex_slM, sl_tupF, sl_rolF, op_iiF, op_ssF, op_ttF, op_rrF, op_rrM, op_mmF, op_repF, li_rol, li_ref, bl_listF, bl_allF, bl_anyF, asT_some, asJ_some, op_eqLf, op_eqLt, op_eqBf, op_eqBt, isN_non, Bool.not_true, Bool.not_false, bls_map]
        refine ite3_by (fun hc => ?_) (fun hc => ?_)
        · simp only [st_seq, st_next, st_break, st_cont, st_set, st_ret, st_retN, st_drop, st_if, st_asg, st_par, st_for, ex_c, ex_var, ex_op, ex_un, ex_b, ex_and, ex_or, ex_not, ex_andV, ex_orV, ex_notV, ex_if, ex_chain, ex_nil, ex_cons, ex_tup, ex_lst, ex_call, ex_callP, ex_cb, ex_bm, ex_rep, ex_lc, ex_sl, ex_noPart, ex_part, ex_yes, it_items, it_rng1, it_rng2, tg_name, tg_sub, tg_tup, tg_cons, tg_nil, gs_0, gs_s, ss_0, ss_s, op_ii, op_ss, op_tt, op_mm, op_sb, op_ng, op_iNf, op_iNt, op_lle, op_ixT, op_ixR, op_ixL, op_putE, op_appE, it_tupE, it_rolE, it_refE, lstOf_l, exL, asS_some, asI_int, asB_bl, asL_some, asN_some, ite3_t, ite3_f, bl_1, bl_lenT, bl_lenR, bl_lenL, bl_lenS, bl_tuple, bl_list, bl_abs, bl_intI, bl_intB, bl_max, bl_min, bl_repr, op_eqSf, op_eqSt, op_eqIf, op_eqIt, op_eqTf, op_eqTt, op_eqRf, op_eqRt, op_eqNf, op_eqNt, eqD_int, eqD_nil, pl_int, pl_nil, pl_non, pl_rnil, pl_bl, sl_tupE, sl_rolE, keep_ref, keep_tup, keep_rol, tp_int, tp_tup, tp_rol, tp_str, tp_bl, tp_non, tp_ref, oFd, oMd, oPw, oShl, oLt, oLe, oGt, oGe, op_in, op_cp, wipe_nil, wipe_cons, mset_same, true_and, and_true, isN_int, sz_0, sz_1, sz_2, sz_3, sz_4, sz_5, sz_6, sz_7, sz_8, sz_9, sz_10, sz_11, sz_12, ex_lstF, ex_repF, ex_lgF1, ex_lgF2, ex_tupRg1, ex_tupRg2, ex_lcF, ex_frz, ex_slF, ex_slM, sl_tupF, sl_rolF, op_iiF, op_ssF, op_ttF, op_rrF, op_rrM, op_mmF, op_repF, li_rol, li_ref, bl_listF, bl_allF, bl_anyF, asT_some, asJ_some, op_eqLf, op_eqLt, op_eqBf, op_eqBt, isN_non, Bool.not_true, Bool.not_false]
          exact h _ _ (.inl ⟨rc.bad (neg_any.mp hc), rfl⟩)
        · have hng : ¬ Neg n (at2 f) := fun z => by
            rw [neg_any.mpr z] at hc; cases hc
          obtain ⟨cl, bd⟩ := rc.cl hng
          simp only [ite3_f, st_next, st_ret]
          refine tab_of_rows rfl (by simp) m (by rw [m.len2 sq]; omega) (h _ _ (.inr ⟨f, ⟨sq.rows, sq.cols, ?_⟩, cl, rfl⟩))
          exact ends_of bd sq
end L3
set_option Elab.async false
set_option linter.all false
set_option maxRecDepth 100000
set_option maxHeartbeats 4000000
namespace L3
theorem closes_ex {n B : Nat} {T : Tab} (tb : TabB B n T) (hB : 0 < B) : ∃ d, Closes n B T d := by
  have d1 : ∀ i, i ≤ n → ∃ f, Dg n (at2 T) f i := by
    intro i
    induction i with
    | zero => exact fun _ => ⟨at2 T, fun p q _ _ => by rw [if_neg (by omega)]⟩
    | succ i ih => exact fun h => let ⟨f, d⟩ := ih (by omega); ⟨_, d.step (by omega)⟩
  have d2 : ∀ m, m ≤ n → ∃ f, RunC n m B (at2 T) f := by
    intro m
    induction m with
    | zero => exact fun _ => let ⟨f, d⟩ := d1 n (Nat.le_refl _); ⟨f, d.run (fun p q _ _ => ends_at' tb) hB⟩
    | succ m ih =>
      intro hm
      obtain ⟨f, r⟩ := ih (by omega)
      have d3 : ∀ i, i ≤ n → ∃ f, RunM n m B (at2 T) f i 0 := by
        intro i
        induction i with
        | zero => exact fun _ => ⟨f, r.start⟩
        | succ i ih =>
          intro hi
          obtain ⟨f, r⟩ := ih (by omega)
          have d4 : ∀ j, j ≤ n → ∃ f, RunM n m B (at2 T) f i j := by
            intro j
            induction j with
            | zero => exact fun _ => ⟨f, r⟩
            | succ j ih => exact fun hj => let ⟨f, r⟩ := ih (by omega); ⟨_, r.step (by omega) (by omega) (by omega)⟩
          obtain ⟨f, r⟩ := d4 n (Nat.le_refl _)
          exact ⟨f, r.row⟩
      obtain ⟨f, r⟩ := d3 n (Nat.le_refl _)
      exact ⟨f, r.round (by omega)⟩
  obtain ⟨f, r⟩ := d2 n (Nat.le_refl _)
  by_cases h : Neg n f
  · exact ⟨_, .inl ⟨r.bad h, rfl⟩⟩
  · obtain ⟨cl, bd⟩ := r.cl h
    let S : Tab := (List.range n).map fun p => (List.range n).map (f p)
    have sq : Sq n S := ⟨by simp [S], fun r hr => by
      obtain ⟨p, _, rfl⟩ := List.mem_map.mp hr
      simp⟩
    have e : ∀ p q, p < n → q < n → at2 S p q = f p q := fun p q hp hq => by
      simp [at2, S, hp, hq]
    refine ⟨tabD S, .inr ⟨S, .of sq (ends_of (fun p q hp hq => by rw [e p q hp hq]; exact bd p q hp hq) sq), ⟨fun p hp => ?_, fun p q m hp hq hm => ?_, fun p q hp hq => ?_, fun s hs q hq r hr => ?_⟩, rfl⟩⟩
    · rw [e p p hp hp]; exact cl.diag p hp
    · rw [e p q hp hq, e p m hp hm, e m q hm hq]; exact cl.tri p q m hp hq hm
    · rw [e p q hp hq]; exact cl.le p q hp hq
    · rw [e q r hq hr]; exact cl.st s hs q hq r hr
theorem tab_ext {n : Nat} {S S' : Tab} (s : Sq n S) (s' : Sq n S') (h : ∀ p q, p < n → q < n → at2 S p q = at2 S' p q) : S = S' := by
  apply List.ext_getElem (by rw [s.rows, s'.rows])
  intro p h1 h2
  have c1 := s.cols _ (List.getElem_mem h1)
  have c2 := s'.cols _ (List.getElem_mem h2)
  apply List.ext_getElem (by rw [c1, c2])
  intro q h3 h4
  have := h p q (by rw [← s.rows]; exact h1) (by rw [← c1]; exact h3)
  simpa [at2, h1, h2, h3, h4] using this
theorem Closes.uniq {n B B' : Nat} {T : Tab} {d d' : D} (c : Closes n B T d) (c' : Closes n B' T d') : d = d' := by
  rcases c with ⟨b, rfl⟩ | ⟨S, tb, cl, rfl⟩
  · rcases c' with ⟨_, rfl⟩ | ⟨S', _, cl', _⟩
    · rfl
    · exact absurd b cl'.good
  · rcases c' with ⟨b, _⟩ | ⟨S', tb', cl', rfl⟩
    · exact absurd b cl.good
    · rw [tab_ext tb.sq tb'.sq fun p q hp hq => cl.uniq cl' hp hq]
abbrev Edge := Nat × Nat × Int
def at1 (l : List Ed) (i : Nat) : Ed := l.getD i none
def StE (es : List Edge) (s : Nat → Ed) : Prop := ∀ e ∈ es, eLe (s e.2.1) (eAdd (s e.1) (some e.2.2))
/-- es say what T says -/
structure Es (n : Nat) (T : Fn) (es : List Edge) : Prop where
  st : ∀ s, Stable n T s ↔ StE es s
  rg : ∀ e ∈ es, e.1 < n ∧ e.2.1 < n
def loos1 (l : List Ed) (e : Edge) : List Ed := l.set e.2.1 (eMin (at1 l e.2.1) (eAdd (at1 l e.1) (some e.2.2)))
def loosL (l : List Ed) (es : List Edge) : List Ed := es.foldl loos1 l
theorem at1_set {l : List Ed} {r i : Nat} {e : Ed} (h : r < l.length) : at1 (l.set r e) i = if i = r then e else at1 l i := by
  unfold at1
  by_cases hi : i = r
  · subst hi
    rw [if_pos rfl, List.getD_eq_getElem?_getD, List.getElem?_set_self h]; rfl
  · rw [if_neg hi, List.getD_eq_getElem?_getD, List.getElem?_set_ne (Ne.symm hi), ← List.getD_eq_getElem?_getD]
theorem loos1_len {l : List Ed} {e : Edge} : (loos1 l e).length = l.length := by simp [loos1]
theorem loosL_len : ∀ {es : List Edge} {l : List Ed}, (loosL l es).length = l.length
  | [], _ => rfl
  | e :: es, l => (loosL_len (es := es) (l := loos1 l e)).trans loos1_len
theorem loos1_le {l : List Ed} {e : Edge} (i : Nat) : eLe (at1 (loos1 l e) i) (at1 l i) := by
  unfold loos1
  by_cases h : e.2.1 < l.length
  · rw [at1_set h]
    split
    · rename_i z; rw [z]; exact eMin_l
    · exact eLe.rfl'
  · rw [List.set_eq_of_length_le (by omega)]; exact eLe.rfl'
theorem loosL_le : ∀ {es : List Edge} {l : List Ed} (i : Nat), eLe (at1 (loosL l es) i) (at1 l i)
  | [], _, _ => eLe.rfl'
  | e :: es, l, i => eLe_trans (loosL_le (es := es) (l := loos1 l e) i) (loos1_le i)
theorem loos1_ge {l : List Ed} {e : Edge} {s : Nat → Ed} (h : ∀ i, i < l.length → eLe (s i) (at1 l i)) (h1 : e.1 < l.length) (he : eLe (s e.2.1) (eAdd (s e.1) (some e.2.2))) : ∀ i, i < l.length → eLe (s i) (at1 (loos1 l e) i) := by
  intro i hi
  unfold loos1
  by_cases hr : e.2.1 < l.length
  · rw [at1_set hr]
    split
    · rename_i z
      subst z
      exact le_eMin (h _ hi) (eLe_trans he (eAdd_mono (h _ h1) eLe.rfl'))
    · exact h i hi
  · rw [List.set_eq_of_length_le (by omega)]; exact h i hi
theorem loosL_ge : ∀ {es : List Edge} {l : List Ed} {s : Nat → Ed}, (∀ i, i < l.length → eLe (s i) (at1 l i)) → (∀ e ∈ es, e.1 < l.length) → StE es s → ∀ i, i < l.length → eLe (s i) (at1 (loosL l es) i)
  | [], _, _, h, _, _ => h
  | e :: es, l, s, h, h1, st => by
    have := loosL_ge (es := es) (l := loos1 l e) (s := s) (by rw [loos1_len]; exact loos1_ge h (h1 e (by simp)) (st e (by simp))) (fun x hx => by rw [loos1_len]; exact h1 x (by simp [hx])) fun x hx => st x (by simp [hx])
    rw [loos1_len] at this
    exact this
theorem loos_hit {l : List Ed} {e : Edge} (h : e.2.1 < l.length) : eLe (at1 (loos1 l e) e.2.1) (eAdd (at1 l e.1) (some e.2.2)) := by
  unfold loos1
  rw [at1_set h, if_pos rfl]
  exact eMin_r
/-- where a round changes nothing, all edges hold -/
theorem loos_st {l : List Ed} {es : List Edge} (h : loosL l es = l) (h1 : ∀ e ∈ es, e.1 < l.length ∧ e.2.1 < l.length) : StE es (at1 l) := by
  intro e he
  obtain ⟨a, b, rfl⟩ := List.append_of_mem he
  have e1 : loosL l (a ++ e :: b) = loosL (loos1 (loosL l a) e) b := by simp [loosL, List.foldl_append]
  rw [e1] at h
  have q1 := fun i => loosL_le (es := b) (l := loos1 (loosL l a) e) i
  rw [h] at q1
  have q2 := loos_hit (l := loosL l a) (e := e) (by rw [loosL_len]; exact (h1 e he).2)
  exact eLe_trans (eLe_trans (q1 _) q2) (eAdd_mono (loosL_le _) eLe.rfl')
/-- a tight edge from a place that is right makes its end right -/
theorem loos_tight {l : List Ed} {es : List Edge} {s : Nat → Ed} (h : ∀ i, i < l.length → eLe (s i) (at1 l i)) (h1 : ∀ e ∈ es, e.1 < l.length ∧ e.2.1 < l.length) (st : StE es s) {e : Edge} (he : e ∈ es) (hq : at1 l e.1 = s e.1) (ht : s e.2.1 = eAdd (s e.1) (some e.2.2)) : at1 (loosL l es) e.2.1 = s e.2.1 := by
  refine eLe_anti ?_ (loosL_ge h (fun x hx => (h1 x hx).1) st _ (h1 e he).2)
  obtain ⟨a, b, rfl⟩ := List.append_of_mem he
  have e1 : loosL l (a ++ e :: b) = loosL (loos1 (loosL l a) e) b := by simp [loosL, List.foldl_append]
  rw [e1, ht]
  refine eLe_trans (loosL_le _) (eLe_trans (loos_hit (by rw [loosL_len]; exact (h1 e he).2)) (eAdd_mono ?_ eLe.rfl'))
  rw [← hq]
  exact loosL_le _
/-- how many are wrong -/
def bads (P : Nat → Bool) : Nat → Nat
  | 0 => 0
  | n + 1 => bads P n + if P n then 0 else 1
theorem bads_mono {P R : Nat → Bool} : ∀ n, (∀ i, i < n → P i = true → R i = true) → bads R n ≤ bads P n
  | 0, _ => Nat.le_refl _
  | n + 1, h => by
    have := bads_mono n fun i hi => h i (by omega)
    have hn := h n (Nat.lt_succ_self _)
    unfold bads
    cases hp : P n <;> cases hr : R n <;> simp_all <;> omega
theorem bads_lt {P R : Nat → Bool} : ∀ n, (∀ i, i < n → P i = true → R i = true) → (∃ i, i < n ∧ P i = false ∧ R i = true) → bads R n < bads P n
  | 0, _, ⟨i, hi, _⟩ => absurd hi (Nat.not_lt_zero _)
  | n + 1, h, ⟨i, hi, h1, h2⟩ => by
    unfold bads
    by_cases e : i = n
    · subst e
      have := bads_mono i fun j hj => h j (by omega)
      rw [h1, h2]
      simp; omega
    · have := bads_lt n (fun j hj => h j (by omega)) ⟨i, by omega, h1, h2⟩
      have hn := h n (Nat.lt_succ_self _)
      cases hp : P n <;> cases hr : R n <;> simp_all <;> omega
theorem bads_0 {P : Nat → Bool} : ∀ {n}, bads P n = 0 → ∀ i, i < n → P i = true
  | 0, _, i, hi => absurd hi (Nat.not_lt_zero _)
  | n + 1, h, i, hi => by
    unfold bads at h
    by_cases e : i = n
    · subst e
      cases hp : P i with
      | true => rfl
      | false => rw [hp] at h; simp at h
    · exact bads_0 (n := n) (by omega) i (by omega)
theorem bads_le {P : Nat → Bool} : ∀ n, bads P n ≤ n
  | 0 => Nat.le_refl _
  | n + 1 => by
    have := bads_le (P := P) n
    unfold bads
    split <;> omega
theorem bads_some {P : Nat → Bool} : ∀ n, ∀ i, i < n → P i = true → bads P n < n
  | 0, i, hi, _ => absurd hi (Nat.not_lt_zero _)
  | n + 1, i, hi, h => by
    unfold bads
    by_cases e : i = n
    · subst e
      have := bads_le (P := P) i
      rw [h]; simp; omega
    · have := bads_some n i (by omega) h
      split <;> omega
instance : DecidableEq Ed := inferInstanceAs (DecidableEq (Option Int))
def bump : Ed → Ed
  | none => none
  | some x => some (x + 1)
section
variable {n p : Nat} {T S : Fn} {es : List Edge} {l : List Ed}
def okAt (S : Fn) (p : Nat) (l : List Ed) (r : Nat) : Bool := decide (at1 l r = S p r)
/-- a sum row on its way -/
structure Way (n p : Nat) (S : Fn) (l : List Ed) : Prop where
  len : l.length = n
  ge : ∀ i, i < n → eLe (S p i) (at1 l i)
  at0 : at1 l p = some 0
theorem Way.loos (c : IsCl n T S) (E : Es n T es) (hp : p < n) (w : Way n p S l) : Way n p S (loosL l es) := by
  have g := loosL_ge (es := es) (l := l) (s := S p) (by rw [w.len]; exact w.ge) (fun e he => by rw [w.len]; exact (E.rg e he).1) ((E.st _).mp (c.row hp))
  rw [w.len] at g
  refine ⟨by rw [loosL_len, w.len], g, ?_⟩
  refine eLe_anti ?_ ?_
  · rw [← w.at0]; exact loosL_le _
  · rw [← c.diag p hp]; exact g p hp
/-- as long as something is wrong, a round makes something right -/
theorem Way.less (c : IsCl n T S) (E : Es n T es) (hp : p < n) (w : Way n p S l) (h : bads (okAt S p l) n ≠ 0) : bads (okAt S p (loosL l es)) n < bads (okAt S p l) n := by
  have hl : ∀ i, i < l.length → eLe (S p i) (at1 l i) := by rw [w.len]; exact w.ge
  have hrg : ∀ e ∈ es, e.1 < l.length ∧ e.2.1 < l.length := by rw [w.len]; exact E.rg
  have st := (E.st _).mp (c.row hp)
  have w' := w.loos c E hp
  refine bads_lt n (fun i hi h1 => ?_) ?_
  · have h1' : at1 l i = S p i := of_decide_eq_true h1
    refine decide_eq_true (eLe_anti ?_ (w'.ge i hi))
    rw [← h1']; exact loosL_le _
  · -- there is a tight edge out of what is right
    have : ∃ e ∈ es, at1 l e.1 = S p e.1 ∧ at1 l e.2.1 ≠ S p e.2.1 ∧ S p e.2.1 = eAdd (S p e.1) (some e.2.2) := by
      apply Classical.byContradiction
      intro no
      have no' : ∀ e ∈ es, at1 l e.1 = S p e.1 → at1 l e.2.1 ≠ S p e.2.1 → S p e.2.1 ≠ eAdd (S p e.1) (some e.2.2) := fun e he h1 h2 h3 => no ⟨e, he, h1, h2, h3⟩
      have hs : Stable n T (fun r => if at1 l r = S p r then S p r else bump (S p r)) := by
        rw [E.st]
        intro e he
        have h0 := st e he
        have hn := no' e he
        show eLe (if at1 l e.2.1 = S p e.2.1 then S p e.2.1 else bump (S p e.2.1)) (eAdd (if at1 l e.1 = S p e.1 then S p e.1 else bump (S p e.1)) (some e.2.2))
        by_cases g1 : at1 l e.1 = S p e.1 <;> by_cases g2 : at1 l e.2.1 = S p e.2.1
        · rw [if_pos g1, if_pos g2]; exact h0
        · rw [if_pos g1, if_neg g2]
          have h2 := hn g1 g2
          cases x : S p e.2.1 <;> cases y : S p e.1 <;> rw [x, y] at h0 h2 <;> simp [eLe, eAdd, bump] at * <;> omega
        · rw [if_neg g1, if_pos g2]
          cases x : S p e.2.1 <;> cases y : S p e.1 <;> rw [x, y] at h0 <;> simp [eLe, eAdd, bump] at * <;> omega
        · rw [if_neg g1, if_neg g2]
          cases x : S p e.2.1 <;> cases y : S p e.1 <;> rw [x, y] at h0 <;> simp [eLe, eAdd, bump] at * <;> omega
      have h0 : ∃ r, r < n ∧ at1 l r ≠ S p r := by
        apply Classical.byContradiction
        intro z
        apply h
        have all : ∀ i, i < n → okAt S p l i = true := fun i hi => decide_eq_true (Classical.byContradiction fun y => z ⟨i, hi, y⟩)
        have go : ∀ k, k ≤ n → bads (okAt S p l) k = 0 := by
          intro k
          induction k with
          | zero => exact fun _ => rfl
          | succ k ih => intro hk; unfold bads; rw [ih (by omega), all k (by omega)]; rfl
        exact go n (Nat.le_refl _)
      obtain ⟨r, hr, hne⟩ := h0
      have := c.least hs hp hr (by
        show eLe (if at1 l p = S p p then S p p else bump (S p p)) (some 0)
        rw [if_pos (by rw [w.at0, c.diag p hp]), c.diag p hp]
        exact eLe.rfl')
      have this : eLe (if at1 l r = S p r then S p r else bump (S p r)) (S p r) := this
      rw [if_neg hne] at this
      have g := w.ge r hr
      cases x : S p r with
      | none =>
        rw [x] at g hne
        cases y : at1 l r with
        | none => exact hne y
        | some z => rw [y] at g; exact g
      | some z => rw [x] at this; simp [eLe, bump] at this; omega
    obtain ⟨e, he, h1, h2, h3⟩ := this
    exact ⟨e.2.1, (E.rg e he).2, decide_eq_false h2, decide_eq_true (loos_tight hl hrg st he h1 h3)⟩
def loosN (es : List Edge) (l : List Ed) : Nat → List Ed
  | 0 => l
  | k + 1 => loosL (loosN es l k) es
theorem Way.many (c : IsCl n T S) (E : Es n T es) (hp : p < n) (w : Way n p S l) : ∀ k, Way n p S (loosN es l k) ∧ (bads (okAt S p (loosN es l k)) n = 0 ∨ bads (okAt S p (loosN es l k)) n + k < n)
  | 0 => ⟨w, .inr (bads_some n p hp (decide_eq_true (by show at1 l p = _; rw [w.at0, c.diag p hp])))⟩
  | k + 1 => by
    obtain ⟨w', h⟩ := Way.many c E hp w k
    refine ⟨w'.loos c E hp, ?_⟩
    by_cases z : bads (okAt S p (loosN es l k)) n = 0
    · left
      have := bads_mono (P := okAt S p (loosN es l k)) (R := okAt S p (loosN es l (k + 1))) n fun i hi _ => by
        have e := bads_0 z i hi
        have e' : at1 (loosN es l k) i = S p i := of_decide_eq_true e
        refine decide_eq_true (eLe_anti ?_ ((w'.loos c E hp).ge i hi))
        rw [← e']; exact loosL_le _
      omega
    · have := w'.less c E hp z
      show bads (okAt S p (loosL (loosN es l k) es)) n = 0 ∨ _
      right
      show bads (okAt S p (loosL (loosN es l k) es)) n + (k + 1) < n
      rcases h with h | h
      · exact absurd h z
      · omega
theorem Way.done (c : IsCl n T S) (E : Es n T es) (hp : p < n) (w : Way n p S l) {k : Nat} (hk : n ≤ k + 1) : ∀ i, i < n → at1 (loosN es l k) i = S p i := by
  obtain ⟨_, h⟩ := Way.many c E hp w k
  have z : bads (okAt S p (loosN es l k)) n = 0 := by omega
  intro i hi
  exact of_decide_eq_true (bads_0 z i hi)
end
end L3
set_option Elab.async false
set_option linter.all false
set_option maxRecDepth 100000
set_option maxHeartbeats 4000000
namespace L3
open PySem PySem.Spec PyProof.Rows L2
def edgeOf (t : Trip) : Edge := (t.1.toNat, t.2.1.toNat, t.2.2)
theorem pl_row {l : List Ed} : Pl (.rol (l.map oD)) := by
  refine ⟨?_, ?_⟩
  · show plains (l.map oD) = true
    induction l with
    | nil => rfl
    | cons a r ih => cases a <;> simp [plains, oD, plain, ih]
  · show deeps (l.map oD) + 1 ≤ 64
    have : deeps (l.map oD) = 0 := by
      induction l with
      | nil => rfl
      | cons a r ih => cases a <;> simp [deeps, oD, deep, ih]
    omega
theorem at1_get {l : List Ed} {i : Int} (h0 : 0 ≤ i) (h1 : i < l.length) : atI (l.map oD) i = some (oD (at1 l i.toNat)) := by
  have h : i.toNat < l.length := by omega
  refine atI_nat' h0 ?_
  rw [List.getElem?_map, List.getElem?_eq_getElem h]
  unfold at1
  rw [List.getD_eq_getElem?_getD, List.getElem?_eq_getElem h]
  rfl
theorem ix_get {l : List Ed} {i : Int} (h0 : 0 ≤ i) (h1 : i < l.length) : ixN (l.map oD).length i = some i.toNat := ixN_nat h0 (by rw [List.length_map]; exact h1)
theorem set_at1 {l : List Ed} {i : Nat} (h : i < l.length) : l.set i (at1 l i) = l := by
  unfold at1
  rw [List.getD_eq_getElem?_getD, List.getElem?_eq_getElem h]
  exact List.set_getElem_self h
def SLeast (sp : Sp3) : Prop := ∀ (n : Int) (B : Nat) (T : Tab) (ts : List Trip) (Q : VK3) (E : XK3), 0 ≤ n → n ≤ 1000 → 0 < B → TabB B n.toNat T → (∀ t ∈ ts, In2 n t) → Es n.toNat (at2 T) (ts.map edgeOf) →
  (∀ d M, Closes n.toNat B T d → Q d M) → sp [.int n, .rol (ts.map tripD)] M0 Q E
def row0 (n i : Nat) : List Ed := List.replicate i none ++ [some 0] ++ List.replicate (n - 1 - i) none
theorem row0_len {n i : Nat} (h : i < n) : (row0 n i).length = n := by simp [row0]; omega
theorem row0_at {n i j : Nat} (h : i < n) (hj : j < n) : at1 (row0 n i) j = if j = i then some 0 else none := by
  unfold at1 row0
  rw [List.getD_eq_getElem?_getD]
  by_cases h1 : j < i
  · rw [List.append_assoc, List.getElem?_append_left (by simpa using h1), if_neg (by omega)]
    simp [List.getElem?_replicate, h1]
  · by_cases h2 : j = i
    · subst h2; simp
    · rw [if_neg h2, List.getElem?_append_right (by simp; omega)]
      simp only [List.getElem?_replicate]
      split <;> rfl
theorem way0 {n i : Nat} {T S : Fn} (c : IsCl n T S) (h : i < n) : Way n i S (row0 n i) := by
  refine ⟨row0_len h, fun j hj => ?_, ?_⟩
  · rw [row0_at h hj]
    split
    · rename_i z; rw [z, c.diag i h]; exact eLe.rfl'
    · exact eLe_none
  · rw [row0_at h h, if_pos rfl]
end L3
set_option Elab.async false
set_option linter.all false
set_option maxRecDepth 100000
set_option maxHeartbeats 4000000
namespace L3
open PySem PySem.Spec PyProof.Rows L2
def stepM (T : Tab) (t : Trip) : Tab := putT T t.1.toNat t.2.1.toNat (eMin (at2 T t.1.toNat t.2.1.toNat) (some t.2.2))
def mtab (n : Nat) (ts : List Trip) : Tab := ts.foldl stepM (emptyT n)
theorem Sq.foldM {n : Nat} : ∀ {ts : List Trip} {T : Tab}, Sq n T → Sq n (ts.foldl stepM T)
  | [], _, s => s
  | _ :: ts, _, s => Sq.foldM (ts := ts) s.put
theorem EdB.min {B : Nat} {a b : Ed} (h : EdB B a) (h2 : EdB B b) : EdB B (eMin a b) := by
  rcases eMin_or (a := a) (b := b) with e | e <;> rw [e] <;> assumption
theorem at2_b {B n : Nat} {T : Tab} (s : Sq n T) (e : Ends B T) {p q : Nat} : EdB B (at2 T p q) := ends_at' (n := n) ⟨s.rows, s.cols, e⟩
theorem Ends.foldM {B n : Nat} : ∀ {ts : List Trip} {T : Tab}, Sq n T → Ends B T → (∀ t ∈ ts, t.2.2.natAbs < B) → Ends B (ts.foldl stepM T)
  | [], _, _, s, _ => s
  | t :: ts, _, q, s, h => Ends.foldM (ts := ts) q.put (s.put ((at2_b q s).min fun i hi => by cases hi; exact h t (by simp))) fun x hx => h x (by simp [hx])
theorem mtab_b {B n : Nat} {ts : List Trip} (h : ∀ t ∈ ts, t.2.2.natAbs < B) : TabB B n (mtab n ts) := TabB.of (Sq.foldM .empty) (Ends.foldM .empty .empty h)
theorem es_step {n p q : Nat} {F : Fn} {c : Int} {s : Nat → Ed} (hp : p < n) (hq : q < n) : Stable n (updF F p q (eMin (F p q) (some c))) s ↔ Stable n F s ∧ eLe (s q) (eAdd (s p) (some c)) := by
  constructor
  · intro h
    refine ⟨fun i hi j hj => ?_, ?_⟩
    · have := h i hi j hj
      unfold updF at this
      by_cases e : i = p ∧ j = q
      · rw [if_pos e] at this
        obtain ⟨rfl, rfl⟩ := e
        exact eLe_trans this (eAdd_mono eLe.rfl' eMin_l)
      · rw [if_neg e] at this; exact this
    · have := h p hp q hq
      unfold updF at this
      rw [if_pos ⟨rfl, rfl⟩] at this
      exact eLe_trans this (eAdd_mono eLe.rfl' eMin_r)
  · rintro ⟨h, h2⟩ i hi j hj
    unfold updF
    by_cases e : i = p ∧ j = q
    · rw [if_pos e]
      obtain ⟨rfl, rfl⟩ := e
      exact le_add_minr (h i hi j hj) h2
    · rw [if_neg e]; exact h i hi j hj
theorem es_fold {n : Nat} (hn : 0 ≤ (n : Int)) : ∀ (ts : List Trip) (T : Tab), Sq n T → (∀ t ∈ ts, In2 n t) → ∀ s, Stable n (at2 (ts.foldl stepM T)) s ↔ Stable n (at2 T) s ∧ StE (ts.map edgeOf) s
  | [], T, _, _, s => ⟨fun h => ⟨h, fun e he => nomatch he⟩, fun h => h.1⟩
  | t :: ts, T, sq, h, s => by
    obtain ⟨b1, b2, b3, b4⟩ := h t (by simp)
    show Stable n (at2 (ts.foldl stepM (stepM T t))) s ↔ _
    rw [es_fold hn ts (stepM T t) sq.put (fun x hx => h x (by simp [hx])) s]
    unfold stepM
    rw [at2_put sq (by omega) (by omega), es_step (by omega) (by omega)]
    constructor
    · rintro ⟨⟨h1, h2⟩, h3⟩
      refine ⟨h1, fun e he => ?_⟩
      rcases List.mem_cons.mp he with rfl | he
      · exact h2
      · exact h3 e he
    · rintro ⟨h1, h2⟩
      exact ⟨⟨h1, h2 (edgeOf t) (by simp)⟩, fun e he => h2 e (by simp [he])⟩
theorem at2_empty' {n p q : Nat} : at2 (emptyT n) p q = none := by
  unfold at2 emptyT
  by_cases hp : p < n
  · rw [List.getD_eq_getElem?_getD, List.getD_eq_getElem?_getD, List.getElem?_replicate, if_pos hp]
    by_cases hq : q < n
    · simp [List.getElem?_replicate, hq]
    · simp [List.getElem?_replicate, hq]
  · simp [List.getD_eq_getElem?_getD, List.getElem?_replicate, hp]
theorem es_mtab {n : Nat} {ts : List Trip} (h : ∀ t ∈ ts, In2 n t) : Es n (at2 (mtab n ts)) (ts.map edgeOf) := by
  refine ⟨fun s => ?_, fun e he => ?_⟩
  · rw [show mtab n ts = ts.foldl stepM (emptyT n) from rfl, es_fold (by omega) ts _ .empty h s]
    refine ⟨fun h => h.2, fun h => ⟨fun q _ r _ => ?_, h⟩⟩
    rw [at2_empty']
    cases s q <;> exact eLe_none
  · obtain ⟨t, ht, rfl⟩ := List.mem_map.mp he
    obtain ⟨b1, b2, b3, b4⟩ := h t ht
    show t.1.toNat < n ∧ t.2.1.toNat < n
    omega
/-- a tuple or a list that nobody writes -/
def IsSeq (d : D) (ds : List D) : Prop := d = .tup ds ∨ d = .rol ds
theorem IsSeq.t {ds : List D} : IsSeq (.tup ds) ds := .inl rfl
theorem IsSeq.r {ds : List D} : IsSeq (.rol ds) ds := .inr rfl
theorem IsSeq.items {d : D} {ds : List D} (h : IsSeq d ds) {M : Mp} : items M d = some ds := by rcases h with rfl | rfl <;> rfl
theorem IsSeq.keep {d : D} {ds : List D} (h : IsSeq d ds) {M : Mp} {es : List D} : keepG M d es = fun _ => True := by rcases h with rfl | rfl <;> rfl
theorem IsSeq.len {d : D} {ds : List D} (h : IsSeq d ds) {M : Mp} {Q : VK3} : bLen [d] M Q = Q (.int ds.length) M := by rcases h with rfl | rfl <;> rfl
theorem IsSeq.ix {d e : D} {ds : List D} (h : IsSeq d ds) {M : Mp} {Q : VK3} : oIx d e M Q = asI e fun i => asS (atI ds i) fun v => Q v M := by rcases h with rfl | rfl <;> rfl
def STableOf (sp : Sp3) : Prop := ∀ (n : Int) (B : Nat) (ts : List Trip) (rd : D) (Q : VK3) (E : XK3), 0 ≤ n → n ≤ 1000 → 0 < B → IsSeq rd (ts.map tripD) → (∀ t ∈ ts, In2 n t ∧ t.2.2.natAbs < B) →
  (∀ d M', Closes n.toNat B (mtab n.toNat ts) d → Q d M') → sp [.int n, rd] M0 Q E
def tableOfR (sp_lesser : Sp3) (sp_closed : Sp3) : XK3 → TS3 := fun E =>
  (wSeq (wSet 2 (wLcF (wRng1 (wCons (wVar 0) wNil)) (wgName 3) wYes (wRep (wC .non) (wVar 0)) [3]))
  (wSeq (wFor (wItems (wVar 1)) (wgTupN 3 (wgCons (wgName 3) (wgCons (wgName 4) (wgCons (wgName 5) wgNil)))) (wAsg (wCallP sp_lesser E (wCons (wOp oIx (wOp oIx (wVar 2) (wVar 3)) (wVar 4)) (wCons (wVar 5) wNil))) (wgSub (wOp oIx (wVar 2) (wVar 3)) (wVar 4) oPut)))
  (wRet (wCallP sp_closed E (wCons (wCB bTuple (wCons (wLcF (wItems (wVar 2)) (wgName 6) wYes (wCB bTuple (wCons (wVar 6) wNil)) [6]) wNil)) wNil)))))
theorem s_tableOf {sl sc : Sp3} (kl : SLesser sl) (kc : SClosed sc) : STableOf (spOf 2 7 (tableOfR sl sc)) := by
  refine fun n B ts rd Q E h0 h1 hB hrd hin q => ⟨rfl, ?_⟩
  show tableOfR sl sc E _ [some (.int n), some rd, none, none, none, none, none] M0
  unfold tableOfR
  rw [st_seq, st_set]
  refine lc_emptyF rfl (by decide) h0 h1 fun as M1 m => ?_
  dsimp only
  rw [st_seq, st_for]
  simp only [ex_c, ex_var, ex_op, ex_un, ex_b, ex_and, ex_or, ex_not, ex_andV, ex_orV, ex_notV, ex_if, ex_chain, ex_nil, ex_cons, ex_tup, ex_lst, ex_call, ex_callP, ex_cb, ex_bm, ex_rep, ex_sl, ex_noPart, ex_part, ex_yes, it_items, it_rng1, it_rng2, tg_name, tg_sub, tg_tup, tg_cons, tg_nil, gs_0, gs_s, ss_0, ss_s, op_ii, op_ss, op_tt, op_mm, op_sb, op_ng, op_iNf, op_iNt, op_lle, op_ixT, op_ixR, op_ixL, op_putE, op_appE, it_tupE, it_rolE, it_refE, lstOf_l, exL, asS_some, asI_int, asB_bl, asL_some, asN_some, ite3_t, ite3_f, bl_1, bl_lenT, bl_lenR, bl_lenL, bl_lenS, bl_tuple, bl_list, bl_abs, bl_intI, bl_intB, bl_max, bl_min, bl_repr, op_eqSf, op_eqSt, op_eqIf, op_eqIt, op_eqTf, op_eqTt, op_eqRf, op_eqRt, op_eqNf, op_eqNt, eqD_int, eqD_nil, pl_int, pl_nil, pl_non, pl_rnil, pl_bl, sl_tupE, sl_rolE, keep_ref, keep_tup, keep_rol, tp_int, tp_tup, tp_rol, tp_str, tp_bl, tp_non, tp_ref, oFd, oMd, oPw, oShl, oLt, oLe, oGt, oGe, op_in, op_cp, wipe_nil, wipe_cons, mset_same, true_and, and_true, isN_int, sz_0, sz_1, sz_2, sz_3, sz_4, sz_5, sz_6, sz_7, sz_8, sz_9, sz_10, sz_11, sz_12, ex_lstF, ex_repF, ex_lgF1, ex_lgF2, ex_tupRg1, ex_tupRg2, ex_frz, ex_slF, ex_slM, sl_tupF, sl_rolF, op_iiF, op_ssF, op_ttF, op_rrF, op_rrM, op_mmF, op_repF, li_rol, li_ref, bl_listF, bl_allF, bl_anyF, asT_some, asJ_some, op_eqLf, op_eqLt, op_eqBf, op_eqBt, isN_non, Bool.not_true, Bool.not_false, hrd.items, hrd.keep]
  refine for_of tripD (fun i τ M' => i ≤ ts.length ∧ Rows M0 M' as ((ts.take i).foldl stepM (emptyT n.toNat)) ∧ ∃ x3 x4 x5 x6, τ = [some (.int n), some rd, some (.rol (as.map D.ref)), x3, x4, x5, x6]) (fun _ _ _ _ => True.intro) ?_ ?_ ⟨Nat.zero_le _, m, _, _, _, _, rfl⟩
  · rintro i t τ M' ht ⟨hi, m', x3, x4, x5, x6, rfl⟩ X hX
    have hlt := (List.getElem?_eq_some_iff.mp ht).1
    obtain ⟨p, r, c⟩ := t
    obtain ⟨⟨b1, b2, b3, b4⟩, _⟩ := hin _ (List.mem_of_getElem? ht)
    simp only at b1 b2 b3 b4
    have s : Sq n.toNat ((ts.take i).foldl stepM (emptyT n.toNat)) := Sq.foldM .empty
    have nx : (ts.take (i + 1)).foldl stepM (emptyT n.toNat) = stepM ((ts.take i).foldl stepM (emptyT n.toNat)) (p, r, c) := by
      rw [List.take_succ, ht, List.foldl_append]; rfl
    generalize (ts.take i).foldl stepM (emptyT n.toNat) = T at m' s nx
    obtain ⟨a, row, g1, g2, g3, g4, g5, g6⟩ := m'.at2R s (p := p) (q := r) b1 (by omega) b3 (by omega)
    simp only [st_seq, st_next, st_break, st_cont, st_set, st_ret, st_retN, st_drop, st_if, st_asg, st_par, st_for, ex_c, ex_var, ex_op, ex_un, ex_b, ex_and, ex_or, ex_not, ex_andV, ex_orV, ex_notV, ex_if, ex_chain, ex_nil, ex_cons, ex_tup, ex_lst, ex_call, ex_callP, ex_cb, ex_bm, ex_rep, ex_lc, ex_sl, ex_noPart, ex_part, ex_yes, it_items, it_rng1, it_rng2, tg_name, tg_sub, tg_tup, tg_cons, tg_nil, gs_0, gs_s, ss_0, ss_s, op_ii, op_ss, op_tt, op_mm, op_sb, op_ng, op_iNf, op_iNt, op_lle, op_ixT, op_ixR, op_ixL, op_putE, op_appE, it_tupE, it_rolE, it_refE, lstOf_l, exL, asS_some, asI_int, asB_bl, asL_some, asN_some, ite3_t, ite3_f, bl_1, bl_lenT, bl_lenR, bl_lenL, bl_lenS, bl_tuple, bl_list, bl_abs, bl_intI, bl_intB, bl_max, bl_min, bl_repr, op_eqSf, op_eqSt, op_eqIf, op_eqIt, op_eqTf, op_eqTt, op_eqRf, op_eqRt, op_eqNf, op_eqNt, eqD_int, eqD_nil, pl_int, pl_nil, pl_non, pl_rnil, pl_bl, sl_tupE, sl_rolE, keep_ref, keep_tup, keep_rol, tp_int, tp_tup, tp_rol, tp_str, tp_bl, tp_non, tp_ref, oFd, oMd, oPw, oShl, oLt, oLe, oGt, oGe, op_in, op_cp, wipe_nil, wipe_cons, mset_same, true_and, and_true, isN_int, sz_0, sz_1, sz_2, sz_3, sz_4, sz_5, sz_6, sz_7, sz_8, sz_9, sz_10, sz_11, sz_12, ex_lstF, ex_repF, ex_lgF1, ex_lgF2, ex_tupRg1, ex_tupRg2, ex_lcF, ex_frz, ex_slF, ex_slM, sl_tupF, sl_rolF, op_iiF, op_ssF, op_ttF, op_rrF, op_rrM, op_mmF, op_repF, li_rol, li_ref, bl_listF, bl_allF, bl_anyF, asT_some, asJ_some, op_eqLf, op_eqLt, op_eqBf, op_eqBt, isN_non, Bool.not_true, Bool.not_false, tripD, List.length_cons, List.length_nil, g1, g2, g3]
    refine kl _ (some c) _ _ fun M2 => ?_
    simp only [st_seq, st_next, st_break, st_cont, st_set, st_ret, st_retN, st_drop, st_if, st_asg, st_par, st_for, ex_c, ex_var, ex_op, ex_un, ex_b, ex_and, ex_or, ex_not, ex_andV, ex_orV, ex_notV, ex_if, ex_chain, ex_nil, ex_cons, ex_tup, ex_lst, ex_call, ex_callP, ex_cb, ex_bm, ex_rep, ex_lc, ex_sl, ex_noPart, ex_part, ex_yes, it_items, it_rng1, it_rng2, tg_name, tg_sub, tg_tup, tg_cons, tg_nil, gs_0, gs_s, ss_0, ss_s, op_ii, op_ss, op_tt, op_mm, op_sb, op_ng, op_iNf, op_iNt, op_lle, op_ixT, op_ixR, op_ixL, op_putE, op_appE, it_tupE, it_rolE, it_refE, lstOf_l, exL, asS_some, asI_int, asB_bl, asL_some, asN_some, ite3_t, ite3_f, bl_1, bl_lenT, bl_lenR, bl_lenL, bl_lenS, bl_tuple, bl_list, bl_abs, bl_intI, bl_intB, bl_max, bl_min, bl_repr, op_eqSf, op_eqSt, op_eqIf, op_eqIt, op_eqTf, op_eqTt, op_eqRf, op_eqRt, op_eqNf, op_eqNt, eqD_int, eqD_nil, pl_int, pl_nil, pl_non, pl_rnil, pl_bl, sl_tupE, sl_rolE, keep_ref, keep_tup, keep_rol, tp_int, tp_tup, tp_rol, tp_str, tp_bl, tp_non, tp_ref, oFd, oMd, oPw, oShl, oLt, oLe, oGt, oGe, op_in, op_cp, wipe_nil, wipe_cons, mset_same, true_and, and_true, isN_int, sz_0, sz_1, sz_2, sz_3, sz_4, sz_5, sz_6, sz_7, sz_8, sz_9, sz_10, sz_11, sz_12, ex_lstF, ex_repF, ex_lgF1, ex_lgF2, ex_tupRg1, ex_tupRg2, ex_lcF, ex_frz, ex_slF, ex_slM, sl_tupF, sl_rolF, op_iiF, op_ssF, op_ttF, op_rrF, op_rrM, op_mmF, op_repF, li_rol, li_ref, bl_listF, bl_allF, bl_anyF, asT_some, asJ_some, op_eqLf, op_eqLt, op_eqBf, op_eqBt, isN_non, Bool.not_true, Bool.not_false, g1, g2, g4]
    refine hX _ _ ⟨hlt, ?_, _, _, _, _, rfl⟩
    rw [nx]
    exact m'.putR g5 g6
  · rintro τ M' ⟨hi, m', x3, x4, x5, x6, rfl⟩
    rw [List.take_length] at m'
    have s : Sq n.toNat (ts.foldl stepM (emptyT n.toNat)) := Sq.foldM .empty
    have big : (1000 : Nat) ≤ sizeLine := by decide
    dsimp only
    rw [st_ret, ex_callP, ex_cons]
    refine tab_of_rows rfl (by simp) m' (by rw [m'.len2 s]; omega) ?_
    rw [ex_nil]
    exact kc n.toNat B _ _ _ (by omega) (mtab_b fun t ht => (hin t ht).2) hB fun d M2 hd => q _ _ hd
def SStepOf (sp : Sp3) : Prop := ∀ (w : Int) (B : Nat) (ts : List Trip) (rd : D) (Q : VK3) (E : XK3), 0 ≤ w → w ≤ 400 → 0 < B → IsSeq rd (ts.map tripD) → (∀ t ∈ ts, In2 (2 * w + 1) t ∧ t.2.2.natAbs < B) →
  (∀ d M', Closes (2 * w + 1).toNat B (mtab (2 * w + 1).toNat ts) d → Q d M') → sp [.int w, rd] M0 Q E
def stepOfR (sp_table_of : Sp3) : XK3 → TS3 := fun E =>
  (wRet (wCallP sp_table_of E (wCons (wOp oAddF (wOp oMulF (wC (.int 2)) (wVar 0)) (wC (.int 1))) (wCons (wVar 1) wNil))))
theorem s_stepOf {sp : Sp3} (k : STableOf sp) : SStepOf (spOf 2 2 (stepOfR sp)) := by
  refine fun w B ts rd Q E h0 h1 hB hrd hin q => ⟨rfl, ?_⟩
  show stepOfR sp E _ [some (.int w), some rd] M0
  unfold stepOfR
  simp only [st_seq, st_next, st_break, st_cont, st_set, st_ret, st_retN, st_drop, st_if, st_asg, st_par, st_for, ex_c, ex_var, ex_op, ex_un, ex_b, ex_and, ex_or, ex_not, ex_andV, ex_orV, ex_notV, ex_if, ex_chain, ex_nil, ex_cons, ex_tup, ex_lst, ex_call, ex_callP, ex_cb, ex_bm, ex_rep, ex_lc, ex_sl, ex_noPart, ex_part, ex_yes, it_items, it_rng1, it_rng2, tg_name, tg_sub, tg_tup, tg_cons, tg_nil, gs_0, gs_s, ss_0, ss_s, op_ii, op_ss, op_tt, op_mm, op_sb, op_ng, op_iNf, op_iNt, op_lle, op_ixT, op_ixR, op_ixL, op_putE, op_appE, it_tupE, it_rolE, it_refE, lstOf_l, exL, asS_some, asI_int, asB_bl, asL_some, asN_some, ite3_t, ite3_f, bl_1, bl_lenT, bl_lenR, bl_lenL, bl_lenS, bl_tuple, bl_list, bl_abs, bl_intI, bl_intB, bl_max, bl_min, bl_repr, op_eqSf, op_eqSt, op_eqIf, op_eqIt, op_eqTf, op_eqTt, op_eqRf, op_eqRt, op_eqNf, op_eqNt, eqD_int, eqD_nil, pl_int, pl_nil, pl_non, pl_rnil, pl_bl, sl_tupE, sl_rolE, keep_ref, keep_tup, keep_rol, tp_int, tp_tup, tp_rol, tp_str, tp_bl, tp_non, tp_ref, oFd, oMd, oPw, oShl, oLt, oLe, oGt, oGe, op_in, op_cp, wipe_nil, wipe_cons, mset_same, true_and, and_true, isN_int, sz_0, sz_1, sz_2, sz_3, sz_4, sz_5, sz_6, sz_7, sz_8, sz_9, sz_10, sz_11, sz_12, ex_lstF, ex_repF, ex_lgF1, ex_lgF2, ex_tupRg1, ex_tupRg2, ex_lcF, ex_frz, ex_slF, ex_slM, sl_tupF, sl_rolF, op_iiF, op_ssF, op_ttF, op_rrF, op_rrM, op_mmF, op_repF, li_rol, li_ref, bl_listF, bl_allF, bl_anyF, asT_some, asJ_some, op_eqLf, op_eqLt, op_eqBf, op_eqBt, isN_non, Bool.not_true, Bool.not_false]
  exact ⟨mulL (by decide) (by decide), k _ B ts _ _ _ (by omega) (by omega) hB hrd hin fun d _ hd => q d _ hd⟩
end L3
set_option Elab.async false
set_option linter.all false
set_option maxRecDepth 100000
set_option maxHeartbeats 4000000
namespace L3
open PySem PySem.Spec PyProof.Rows L2
theorem it_tabE {M : Mp} {T : Tab} : items M (tabD T) = some (T.map rowD) := rfl
theorem it_rowE {M : Mp} {r : List Ed} : items M (rowD r) = some (r.map oD) := rfl
abbrev Part := Tab × List Nat
def plD (ps : List Nat) : List D := ps.map fun i => .int (i : Nat)
theorem plD_get {ps : List Nat} {i : Nat} (h : i < ps.length) : atI (plD ps) ((i : Nat) : Int) = some (.int ((ps.getD i 0 : Nat) : Int)) := atI_nat (by simp [plD, h])
theorem seq_pl {pd : D} {ps : List Nat} (h : IsSeq pd (plD ps)) {i : Nat} (hi : i < ps.length) {M : Mp} {Q : VK3} : oIx pd (.int (i : Nat)) M Q = Q (.int ((ps.getD i 0 : Nat) : Int)) M := by
  rw [h.ix, asI_int, plD_get hi, asS_some]
/-- a part, as it stands -/
def PartAt (d : D) (x : Part) : Prop := ∃ pd, d = .tup [tabD x.1, pd] ∧ IsSeq pd (plD x.2)
/-- a part's table is square and its places lie within -/
structure PartOk (B many : Nat) (x : Part) : Prop where
  tb : TabB B x.1.length x.1
  len : x.1.length ≤ x.2.length
  inn : ∀ i ∈ x.2, i < many
def Pull (x : Part) (s : Nat → Ed) : Prop := Stable x.1.length (at2 x.1) fun i => s (x.2.getD i 0)
/-- what is put together of the parts -/
structure PutIs (B many : Nat) (xs : List Part) (X : Tab) : Prop where
  tb : TabB B many X
  st : ∀ s, Stable many (at2 X) s ↔ ∀ x ∈ xs, Pull x s
def SPut (sp : Sp3) : Prop := ∀ (many : Int) (B : Nat) (xs : List Part) (ds : List D) (Q : VK3) (E : XK3), 0 ≤ many → many ≤ 1000 →
  ds.length = xs.length → (∀ (i : Nat) (d : D) (x : Part), ds[i]? = some d → xs[i]? = some x → PartAt d x) → (∀ x ∈ xs, PartOk B many.toNat x) →
  (∀ X M, PutIs B many.toNat xs X → Q (tabD X) M) → sp [.int many, .rol ds] M0 Q E
def putR (sp_lesser : Sp3) : XK3 → TS3 := fun E =>
  (wSeq (wSet 2 (wLcF (wRng1 (wCons (wVar 0) wNil)) (wgName 3) wYes (wRep (wC .non) (wVar 0)) [3]))
  (wSeq (wFor (wItems (wVar 1)) (wgTupN 2 (wgCons (wgName 4) (wgCons (wgName 5) wgNil))) (wFor (wEnum (wCons (wVar 4) wNil)) (wgTupN 2 (wgCons (wgName 6) (wgCons (wgName 7) wgNil))) (wFor (wEnum (wCons (wVar 7) wNil)) (wgTupN 2 (wgCons (wgName 8) (wgCons (wgName 9) wgNil))) (wAsg (wCallP sp_lesser E (wCons (wOp oIx (wOp oIx (wVar 2) (wOp oIx (wVar 5) (wVar 6))) (wOp oIx (wVar 5) (wVar 8))) (wCons (wVar 9) wNil))) (wgSub (wOp oIx (wVar 2) (wOp oIx (wVar 5) (wVar 6))) (wOp oIx (wVar 5) (wVar 8)) oPut)))))
  (wRet (wCB bTuple (wCons (wLcF (wItems (wVar 2)) (wgName 7) wYes (wCB bTuple (wCons (wVar 7) wNil)) [7]) wNil)))))
/-- one end put in -/
theorem st_put {n i j : Nat} {F : Fn} {e : Ed} {s : Nat → Ed} (hi : i < n) (hj : j < n) : Stable n (updF F i j (eMin (F i j) e)) s ↔ Stable n F s ∧ eLe (s j) (eAdd (s i) e) := by
  constructor
  · intro h
    refine ⟨fun p hp q hq => ?_, ?_⟩
    · have z := h p hp q hq
      unfold updF at z
      by_cases w : p = i ∧ q = j
      · rw [if_pos w] at z
        obtain ⟨rfl, rfl⟩ := w
        exact eLe_trans z (eAdd_mono eLe.rfl' eMin_l)
      · rw [if_neg w] at z; exact z
    · have z := h i hi j hj
      unfold updF at z
      rw [if_pos ⟨rfl, rfl⟩] at z
      exact eLe_trans z (eAdd_mono eLe.rfl' eMin_r)
  · rintro ⟨h, h2⟩ p hp q hq
    unfold updF
    by_cases w : p = i ∧ q = j
    · rw [if_pos w]
      obtain ⟨rfl, rfl⟩ := w
      exact le_add_minr (h p hp q hq) h2
    · rw [if_neg w]; exact h p hp q hq
/-- so far: the parts ahead, of this one the rows ahead of p, of row p the ends ahead of q -/
structure Puts (B many : Nat) (xs : List Part) (x : Part) (p q : Nat) (X : Tab) : Prop where
  sq : Sq many X
  en : Ends B X
  st : ∀ s, Stable many (at2 X) s ↔ (∀ y ∈ xs, Pull y s) ∧ ∀ i j, i < x.1.length → j < x.1.length → (i < p ∨ (i = p ∧ j < q)) → eLe (s (x.2.getD j 0)) (eAdd (s (x.2.getD i 0)) (at2 x.1 i j))
theorem Puts.step {B many p q : Nat} {xs : List Part} {x : Part} {X : Tab} (h : Puts B many xs x p q X) (ok : PartOk B many x) (hp : p < x.1.length) (hq : q < x.1.length) :
    Puts B many xs x p (q + 1) (putT X (x.2.getD p 0) (x.2.getD q 0) (eMin (at2 X (x.2.getD p 0) (x.2.getD q 0)) (at2 x.1 p q))) := by
  have inn : ∀ i, i < x.1.length → x.2.getD i 0 < many := fun i hi => by
    have : i < x.2.length := Nat.lt_of_lt_of_le hi ok.len
    rw [List.getD_eq_getElem?_getD, List.getElem?_eq_getElem this]
    exact ok.inn _ (List.getElem_mem this)
  refine ⟨h.sq.put, h.en.put ((at2_b h.sq h.en).min (ends_at' ok.tb)), fun s => ?_⟩
  rw [at2_put h.sq (inn p hp) (inn q hq), st_put (inn p hp) (inn q hq), h.st]
  constructor
  · rintro ⟨⟨h1, h2⟩, h3⟩
    refine ⟨h1, fun i j hi hj hij => ?_⟩
    by_cases w : i = p ∧ j = q
    · obtain ⟨rfl, rfl⟩ := w; exact h3
    · exact h2 i j hi hj (by omega)
  · rintro ⟨h1, h2⟩
    exact ⟨⟨h1, fun i j hi hj hij => h2 i j hi hj (by omega)⟩, h2 p q hp hq (by omega)⟩
theorem Puts.row {B many p : Nat} {xs : List Part} {x : Part} {X : Tab} (h : Puts B many xs x p x.1.length X) : Puts B many xs x (p + 1) 0 X :=
  ⟨h.sq, h.en, fun s => by
    rw [h.st]
    have e : ∀ i j, j < x.1.length → ((i < p ∨ (i = p ∧ j < x.1.length)) ↔ (i < p + 1 ∨ (i = p + 1 ∧ j < 0))) := fun i j hj => by omega
    constructor
    · rintro ⟨a, b⟩; exact ⟨a, fun i j hi hj z => b i j hi hj ((e i j hj).mpr z)⟩
    · rintro ⟨a, b⟩; exact ⟨a, fun i j hi hj z => b i j hi hj ((e i j hj).mp z)⟩⟩
theorem Puts.part {B many : Nat} {xs : List Part} {x : Part} {X : Tab} (h : Puts B many xs x x.1.length 0 X) : Sq many X ∧ Ends B X ∧ ∀ s, Stable many (at2 X) s ↔ ∀ y ∈ xs ++ [x], Pull y s := by
  refine ⟨h.sq, h.en, fun s => ?_⟩
  rw [h.st]
  constructor
  · rintro ⟨a, b⟩ y hy
    rcases List.mem_append.mp hy with hy | hy
    · exact a y hy
    · rw [List.mem_singleton] at hy; subst hy
      exact fun i hi j hj => b i j hi hj (.inl hi)
  · intro a
    exact ⟨fun y hy => a y (by simp [hy]), fun i j hi hj _ => a x (by simp) i hi j hj⟩
theorem Puts.begin {B many : Nat} {xs : List Part} {x : Part} {X : Tab} (h : Sq many X ∧ Ends B X ∧ ∀ s, Stable many (at2 X) s ↔ ∀ y ∈ xs, Pull y s) : Puts B many xs x 0 0 X :=
  ⟨h.1, h.2.1, fun s => by
    rw [h.2.2]
    exact ⟨fun a => ⟨a, fun i j _ _ z => by omega⟩, fun a => a.1⟩⟩
/-- over what enumerate tells of data that stand still -/
theorem for_en {G : Mp → Prop} {g : TG3} {tb : TS3} {E : Ends3} {ds : List D} (Pv : Nat → St3 → Mp → Prop) (hG : ∀ M, G M)
    (step : ∀ (i : Nat) (d : D) τ M, ds[i]? = some d → Pv i τ M → ∀ X : St3 → Mp → Prop, (∀ τ' M', Pv (i + 1) τ' M' → X τ' M') → g (.tup [.int (i : Nat), d]) τ M fun τ2 M2 => tb { E with nx := X, ct := X, bk := E.nx } τ2 M2)
    (fin : ∀ τ M, Pv ds.length τ M → E.nx τ M) {τ : St3} {M : Mp} (h0 : Pv 0 τ M) : forW G g tb E (enD ds) τ M :=
  for_pv Pv (fun i d τ M hd p X hX => by
    obtain ⟨x, hx, rfl⟩ := enD_get hd
    exact ⟨hG M, step i x τ M hx p X hX⟩) (fun τ M p => ⟨hG M, fin τ M (by rw [enD_len] at p; exact p)⟩) h0
theorem s_put {sl : Sp3} (kl : SLesser sl) : SPut (spOf 2 10 (putR sl)) := by
  refine fun many B xs ds Q E h0 h1 hlen hat hok q => ⟨rfl, ?_⟩
  show putR sl E _ [some (.int many), some (.rol ds), none, none, none, none, none, none, none, none] M0
  unfold putR
  rw [st_seq, st_set]
  refine lc_emptyF rfl (by decide) h0 h1 fun as M1 m => ?_
  try dsimp only
  rw [st_seq, st_for]
  simp only [ex_c, ex_var, ex_op, ex_un, ex_b, ex_and, ex_or, ex_not, ex_andV, ex_orV, ex_notV, ex_if, ex_chain, ex_nil, ex_cons, ex_tup, ex_lst, ex_call, ex_callP, ex_cb, ex_bm, ex_rep, ex_sl, ex_noPart, ex_part, ex_yes, it_items, it_rng1, it_rng2, tg_name, tg_sub, tg_tup, tg_cons, tg_nil, gs_0, gs_s, ss_0, ss_s, op_ii, op_ss, op_tt, op_mm, op_sb, op_ng, op_iNf, op_iNt, op_lle, op_ixT, op_ixR, op_ixL, op_putE, op_appE, it_tupE, it_rolE, it_refE, lstOf_l, exL, asS_some, asI_int, asB_bl, asL_some, asN_some, ite3_t, ite3_f, bl_1, bl_lenT, bl_lenR, bl_lenL, bl_lenS, bl_tuple, bl_list, bl_abs, bl_intI, bl_intB, bl_max, bl_min, op_eqSf, op_eqSt, op_eqIf, op_eqIt, op_eqTf, op_eqTt, op_eqRf, op_eqRt, op_eqNf, op_eqNt, eqD_int, eqD_nil, pl_int, pl_nil, pl_non, pl_rnil, pl_bl, sl_tupE, sl_rolE, keep_ref, keep_tup, keep_rol, tp_int, tp_tup, tp_rol, tp_str, tp_bl, tp_non, tp_ref, oFd, oMd, oPw, oShl, oLt, oLe, oGt, oGe, op_in, op_cp, wipe_nil, wipe_cons, mset_same, true_and, and_true, isN_int, ex_lstF, ex_repF, ex_lgF1, ex_lgF2, ex_tupRg1, ex_tupRg2, ex_frz, ex_slF, ex_slM, sl_tupF, sl_rolF, op_iiF, op_ssF, op_ttF, op_rrF, op_rrM, op_mmF, op_repF, li_rol, li_ref, bl_listF, bl_allF, bl_anyF, asT_some, asJ_some, op_eqBf, op_eqBt, isN_non, Bool.not_true, Bool.not_false, rep2]
  refine for_pv (fun k τ M' => k ≤ ds.length ∧ (∃ X, Rows M0 M' as X ∧ Sq many.toNat X ∧ Ends B X ∧ ∀ s, Stable many.toNat (at2 X) s ↔ ∀ y ∈ xs.take k, Pull y s) ∧ ∃ x3 x4 x5 x6 x7 x8 x9, τ = [some (.int many), some (.rol ds), some (.rol (as.map D.ref)), x3, x4, x5, x6, x7, x8, x9]) ?_ ?_
    ⟨Nat.zero_le _, ⟨_, m, .empty, .empty, fun s => ⟨fun _ y hy => (by simp at hy), fun _ i _ j _ => (by rw [at2_empty']; cases s i <;> exact eLe_none)⟩⟩, _, _, _, _, _, _, _, rfl⟩
  · rintro k d τ M' hd ⟨hk, ⟨X, m', hs⟩, x3, x4, x5, x6, x7, x8, x9, rfl⟩ Y hY
    have hkl : k < ds.length := (List.getElem?_eq_some_iff.mp hd).1
    have hx : xs[k]? = some xs[k] := List.getElem?_eq_getElem (by omega)
    refine ⟨True.intro, ?_⟩
    have hok1 := hok _ (List.mem_of_getElem? hx)
    have htk : xs.take (k + 1) = xs.take k ++ [xs[k]] := by rw [List.take_succ, hx]; rfl
    obtain ⟨pd, rfl, hpl⟩ := hat k d _ hd hx
    generalize xs[k] = x at hx hok1 htk hpl
    simp only [ex_c, ex_var, ex_op, ex_un, ex_b, ex_and, ex_or, ex_not, ex_andV, ex_orV, ex_notV, ex_if, ex_chain, ex_nil, ex_cons, ex_tup, ex_lst, ex_call, ex_callP, ex_cb, ex_bm, ex_rep, ex_sl, ex_noPart, ex_part, ex_yes, it_items, it_rng1, it_rng2, tg_name, tg_sub, tg_tup, tg_cons, tg_nil, gs_0, gs_s, ss_0, ss_s, op_ii, op_ss, op_tt, op_mm, op_sb, op_ng, op_iNf, op_iNt, op_lle, op_ixT, op_ixR, op_ixL, op_putE, op_appE, it_tupE, it_rolE, it_refE, lstOf_l, exL, asS_some, asI_int, asB_bl, asL_some, asN_some, ite3_t, ite3_f, bl_1, bl_lenT, bl_lenR, bl_lenL, bl_lenS, bl_tuple, bl_list, bl_abs, bl_intI, bl_intB, bl_max, bl_min, op_eqSf, op_eqSt, op_eqIf, op_eqIt, op_eqTf, op_eqTt, op_eqRf, op_eqRt, op_eqNf, op_eqNt, eqD_int, eqD_nil, pl_int, pl_nil, pl_non, pl_rnil, pl_bl, sl_tupE, sl_rolE, keep_ref, keep_tup, keep_rol, tp_int, tp_tup, tp_rol, tp_str, tp_bl, tp_non, tp_ref, oFd, oMd, oPw, oShl, oLt, oLe, oGt, oGe, op_in, op_cp, wipe_nil, wipe_cons, mset_same, true_and, and_true, isN_int, ex_lstF, ex_repF, ex_lgF1, ex_lgF2, ex_tupRg1, ex_tupRg2, ex_frz, ex_slF, ex_slM, sl_tupF, sl_rolF, op_iiF, op_ssF, op_ttF, op_rrF, op_rrM, op_mmF, op_repF, li_rol, li_ref, bl_listF, bl_allF, bl_anyF, asT_some, asJ_some, op_eqBf, op_eqBt, isN_non, Bool.not_true, Bool.not_false, rep2, List.length_cons, List.length_nil]
    rw [st_for, it_enumF]
    simp only [ex_c, ex_var, ex_op, ex_un, ex_b, ex_and, ex_or, ex_not, ex_andV, ex_orV, ex_notV, ex_if, ex_chain, ex_nil, ex_cons, ex_tup, ex_lst, ex_call, ex_callP, ex_cb, ex_bm, ex_rep, ex_sl, ex_noPart, ex_part, ex_yes, it_items, it_rng1, it_rng2, tg_name, tg_sub, tg_tup, tg_cons, tg_nil, gs_0, gs_s, ss_0, ss_s, op_ii, op_ss, op_tt, op_mm, op_sb, op_ng, op_iNf, op_iNt, op_lle, op_ixT, op_ixR, op_ixL, op_putE, op_appE, it_tupE, it_rolE, it_refE, lstOf_l, exL, asS_some, asI_int, asB_bl, asL_some, asN_some, ite3_t, ite3_f, bl_1, bl_lenT, bl_lenR, bl_lenL, bl_lenS, bl_tuple, bl_list, bl_abs, bl_intI, bl_intB, bl_max, bl_min, op_eqSf, op_eqSt, op_eqIf, op_eqIt, op_eqTf, op_eqTt, op_eqRf, op_eqRt, op_eqNf, op_eqNt, eqD_int, eqD_nil, pl_int, pl_nil, pl_non, pl_rnil, pl_bl, sl_tupE, sl_rolE, keep_ref, keep_tup, keep_rol, tp_int, tp_tup, tp_rol, tp_str, tp_bl, tp_non, tp_ref, oFd, oMd, oPw, oShl, oLt, oLe, oGt, oGe, op_in, op_cp, wipe_nil, wipe_cons, mset_same, true_and, and_true, isN_int, ex_lstF, ex_repF, ex_lgF1, ex_lgF2, ex_tupRg1, ex_tupRg2, ex_frz, ex_slF, ex_slM, sl_tupF, sl_rolF, op_iiF, op_ssF, op_ttF, op_rrF, op_rrM, op_mmF, op_repF, li_rol, li_ref, bl_listF, bl_allF, bl_anyF, asT_some, asJ_some, op_eqBf, op_eqBt, isN_non, Bool.not_true, Bool.not_false, rep2, it_tabE]
    refine for_en (fun p τ M' => p ≤ x.1.length ∧ (∃ X, Rows M0 M' as X ∧ Puts B many.toNat (xs.take k) x p 0 X) ∧ ∃ x3 x6 x7 x8 x9, τ = [some (.int many), some (.rol ds), some (.rol (as.map D.ref)), x3, some (tabD x.1), some pd, x6, x7, x8, x9]) (fun _ => True.intro) ?_ ?_ ⟨Nat.zero_le _, ⟨X, m', .begin hs⟩, _, _, _, _, _, rfl⟩
    · rintro p rd τ M' hrd ⟨hp, ⟨X, m', hs⟩, x3, x6, x7, x8, x9, rfl⟩ Y2 hY2
      rw [List.getElem?_map] at hrd
      obtain ⟨r, hr, rfl⟩ := Option.map_eq_some_iff.mp hrd
      have hpl' : p < x.1.length := (List.getElem?_eq_some_iff.mp hr).1
      have hrl : r.length = x.1.length := hok1.tb.cols r (List.mem_of_getElem? hr)
      simp only [ex_c, ex_var, ex_op, ex_un, ex_b, ex_and, ex_or, ex_not, ex_andV, ex_orV, ex_notV, ex_if, ex_chain, ex_nil, ex_cons, ex_tup, ex_lst, ex_call, ex_callP, ex_cb, ex_bm, ex_rep, ex_sl, ex_noPart, ex_part, ex_yes, it_items, it_rng1, it_rng2, tg_name, tg_sub, tg_tup, tg_cons, tg_nil, gs_0, gs_s, ss_0, ss_s, op_ii, op_ss, op_tt, op_mm, op_sb, op_ng, op_iNf, op_iNt, op_lle, op_ixT, op_ixR, op_ixL, op_putE, op_appE, it_tupE, it_rolE, it_refE, lstOf_l, exL, asS_some, asI_int, asB_bl, asL_some, asN_some, ite3_t, ite3_f, bl_1, bl_lenT, bl_lenR, bl_lenL, bl_lenS, bl_tuple, bl_list, bl_abs, bl_intI, bl_intB, bl_max, bl_min, op_eqSf, op_eqSt, op_eqIf, op_eqIt, op_eqTf, op_eqTt, op_eqRf, op_eqRt, op_eqNf, op_eqNt, eqD_int, eqD_nil, pl_int, pl_nil, pl_non, pl_rnil, pl_bl, sl_tupE, sl_rolE, keep_ref, keep_tup, keep_rol, tp_int, tp_tup, tp_rol, tp_str, tp_bl, tp_non, tp_ref, oFd, oMd, oPw, oShl, oLt, oLe, oGt, oGe, op_in, op_cp, wipe_nil, wipe_cons, mset_same, true_and, and_true, isN_int, ex_lstF, ex_repF, ex_lgF1, ex_lgF2, ex_tupRg1, ex_tupRg2, ex_frz, ex_slF, ex_slM, sl_tupF, sl_rolF, op_iiF, op_ssF, op_ttF, op_rrF, op_rrM, op_mmF, op_repF, li_rol, li_ref, bl_listF, bl_allF, bl_anyF, asT_some, asJ_some, op_eqBf, op_eqBt, isN_non, Bool.not_true, Bool.not_false, rep2, List.length_cons, List.length_nil]
      rw [st_for, it_enumF]
      simp only [ex_c, ex_var, ex_op, ex_un, ex_b, ex_and, ex_or, ex_not, ex_andV, ex_orV, ex_notV, ex_if, ex_chain, ex_nil, ex_cons, ex_tup, ex_lst, ex_call, ex_callP, ex_cb, ex_bm, ex_rep, ex_sl, ex_noPart, ex_part, ex_yes, it_items, it_rng1, it_rng2, tg_name, tg_sub, tg_tup, tg_cons, tg_nil, gs_0, gs_s, ss_0, ss_s, op_ii, op_ss, op_tt, op_mm, op_sb, op_ng, op_iNf, op_iNt, op_lle, op_ixT, op_ixR, op_ixL, op_putE, op_appE, it_tupE, it_rolE, it_refE, lstOf_l, exL, asS_some, asI_int, asB_bl, asL_some, asN_some, ite3_t, ite3_f, bl_1, bl_lenT, bl_lenR, bl_lenL, bl_lenS, bl_tuple, bl_list, bl_abs, bl_intI, bl_intB, bl_max, bl_min, op_eqSf, op_eqSt, op_eqIf, op_eqIt, op_eqTf, op_eqTt, op_eqRf, op_eqRt, op_eqNf, op_eqNt, eqD_int, eqD_nil, pl_int, pl_nil, pl_non, pl_rnil, pl_bl, sl_tupE, sl_rolE, keep_ref, keep_tup, keep_rol, tp_int, tp_tup, tp_rol, tp_str, tp_bl, tp_non, tp_ref, oFd, oMd, oPw, oShl, oLt, oLe, oGt, oGe, op_in, op_cp, wipe_nil, wipe_cons, mset_same, true_and, and_true, isN_int, ex_lstF, ex_repF, ex_lgF1, ex_lgF2, ex_tupRg1, ex_tupRg2, ex_frz, ex_slF, ex_slM, sl_tupF, sl_rolF, op_iiF, op_ssF, op_ttF, op_rrF, op_rrM, op_mmF, op_repF, li_rol, li_ref, bl_listF, bl_allF, bl_anyF, asT_some, asJ_some, op_eqBf, op_eqBt, isN_non, Bool.not_true, Bool.not_false, rep2, it_rowE]
      refine for_en (fun j τ M' => j ≤ x.1.length ∧ (∃ X, Rows M0 M' as X ∧ Puts B many.toNat (xs.take k) x p j X) ∧ ∃ x3 x8 x9, τ = [some (.int many), some (.rol ds), some (.rol (as.map D.ref)), x3, some (tabD x.1), some pd, some (.int (p : Nat)), some (rowD r), x8, x9]) (fun _ => True.intro) ?_ ?_ ⟨Nat.zero_le _, ⟨X, m', hs⟩, _, _, _, rfl⟩
      · rintro j ed τ M' hed ⟨hj, ⟨X, m', hs⟩, x3, x8, x9, rfl⟩ Y3 hY3
        rw [List.getElem?_map] at hed
        obtain ⟨en, hen, rfl⟩ := Option.map_eq_some_iff.mp hed
        have hjl : j < x.1.length := by rw [← hrl]; exact (List.getElem?_eq_some_iff.mp hen).1
        have hat2 : at2 x.1 p j = en := by
          unfold at2
          rw [List.getD_eq_getElem?_getD, List.getD_eq_getElem?_getD, hr]
          show (r[j]?).getD none = en
          rw [hen]; rfl
        have inn : ∀ i, i < x.1.length → x.2.getD i 0 < many.toNat := fun i hi => by
          have : i < x.2.length := Nat.lt_of_lt_of_le hi hok1.len
          rw [List.getD_eq_getElem?_getD, List.getElem?_eq_getElem this]
          exact hok1.inn _ (List.getElem_mem this)
        have ixp : ∀ {M : Mp} {Q : VK3}, oIx pd (.int (p : Nat)) M Q = Q (.int ((x.2.getD p 0 : Nat) : Int)) M := seq_pl hpl (Nat.lt_of_lt_of_le hpl' hok1.len)
        have ixj : ∀ {M : Mp} {Q : VK3}, oIx pd (.int (j : Nat)) M Q = Q (.int ((x.2.getD j 0 : Nat) : Int)) M := seq_pl hpl (Nat.lt_of_lt_of_le hjl hok1.len)
        have i1 := inn p hpl'
        have i2 := inn j hjl
        obtain ⟨a, r', g1, g2, g3, g4, g5, g6⟩ := m'.at2R hs.sq (p := ((x.2.getD p 0 : Nat) : Int)) (q := ((x.2.getD j 0 : Nat) : Int)) (by omega) (by omega) (by omega) (by omega)
        rw [Int.toNat_natCast] at g3 g4 g5 g6
        rw [Int.toNat_natCast] at g3
        have st := hs.step hok1 hpl' hjl
        rw [hat2] at st
        have m2 := m'.putR (q := x.2.getD j 0) (x := eMin (at2 X (x.2.getD p 0) (x.2.getD j 0)) en) g5 g6
        simp only [ex_c, ex_var, ex_op, ex_un, ex_b, ex_and, ex_or, ex_not, ex_andV, ex_orV, ex_notV, ex_if, ex_chain, ex_nil, ex_cons, ex_tup, ex_lst, ex_call, ex_callP, ex_cb, ex_bm, ex_rep, ex_sl, ex_noPart, ex_part, ex_yes, it_items, it_rng1, it_rng2, tg_name, tg_sub, tg_tup, tg_cons, tg_nil, gs_0, gs_s, ss_0, ss_s, op_ii, op_ss, op_tt, op_mm, op_sb, op_ng, op_iNf, op_iNt, op_lle, op_ixT, op_ixR, op_ixL, op_putE, op_appE, it_tupE, it_rolE, it_refE, lstOf_l, exL, asS_some, asI_int, asB_bl, asL_some, asN_some, ite3_t, ite3_f, bl_1, bl_lenT, bl_lenR, bl_lenL, bl_lenS, bl_tuple, bl_list, bl_abs, bl_intI, bl_intB, bl_max, bl_min, op_eqSf, op_eqSt, op_eqIf, op_eqIt, op_eqTf, op_eqTt, op_eqRf, op_eqRt, op_eqNf, op_eqNt, eqD_int, eqD_nil, pl_int, pl_nil, pl_non, pl_rnil, pl_bl, sl_tupE, sl_rolE, keep_ref, keep_tup, keep_rol, tp_int, tp_tup, tp_rol, tp_str, tp_bl, tp_non, tp_ref, oFd, oMd, oPw, oShl, oLt, oLe, oGt, oGe, op_in, op_cp, wipe_nil, wipe_cons, mset_same, true_and, and_true, isN_int, ex_lstF, ex_repF, ex_lgF1, ex_lgF2, ex_tupRg1, ex_tupRg2, ex_frz, ex_slF, ex_slM, sl_tupF, sl_rolF, op_iiF, op_ssF, op_ttF, op_rrF, op_rrM, op_mmF, op_repF, li_rol, li_ref, bl_listF, bl_allF, bl_anyF, asT_some, asJ_some, op_eqBf, op_eqBt, isN_non, Bool.not_true, Bool.not_false, rep2, List.length_cons, List.length_nil]
        rw [st_asg]
        simp only [ex_c, ex_var, ex_op, ex_un, ex_b, ex_and, ex_or, ex_not, ex_andV, ex_orV, ex_notV, ex_if, ex_chain, ex_nil, ex_cons, ex_tup, ex_lst, ex_call, ex_callP, ex_cb, ex_bm, ex_rep, ex_sl, ex_noPart, ex_part, ex_yes, it_items, it_rng1, it_rng2, tg_name, tg_sub, tg_tup, tg_cons, tg_nil, gs_0, gs_s, ss_0, ss_s, op_ii, op_ss, op_tt, op_mm, op_sb, op_ng, op_iNf, op_iNt, op_lle, op_ixT, op_ixR, op_ixL, op_putE, op_appE, it_tupE, it_rolE, it_refE, lstOf_l, exL, asS_some, asI_int, asB_bl, asL_some, asN_some, ite3_t, ite3_f, bl_1, bl_lenT, bl_lenR, bl_lenL, bl_lenS, bl_tuple, bl_list, bl_abs, bl_intI, bl_intB, bl_max, bl_min, op_eqSf, op_eqSt, op_eqIf, op_eqIt, op_eqTf, op_eqTt, op_eqRf, op_eqRt, op_eqNf, op_eqNt, eqD_int, eqD_nil, pl_int, pl_nil, pl_non, pl_rnil, pl_bl, sl_tupE, sl_rolE, keep_ref, keep_tup, keep_rol, tp_int, tp_tup, tp_rol, tp_str, tp_bl, tp_non, tp_ref, oFd, oMd, oPw, oShl, oLt, oLe, oGt, oGe, op_in, op_cp, wipe_nil, wipe_cons, mset_same, true_and, and_true, isN_int, ex_lstF, ex_repF, ex_lgF1, ex_lgF2, ex_tupRg1, ex_tupRg2, ex_frz, ex_slF, ex_slM, sl_tupF, sl_rolF, op_iiF, op_ssF, op_ttF, op_rrF, op_rrM, op_mmF, op_repF, li_rol, li_ref, bl_listF, bl_allF, bl_anyF, asT_some, asJ_some, op_eqBf, op_eqBt, isN_non, Bool.not_true, Bool.not_false, rep2, ixp, ixj, g1, g2, g3]
        refine kl _ _ _ _ fun M3 => ?_
        simp only [ex_c, ex_var, ex_op, ex_un, ex_b, ex_and, ex_or, ex_not, ex_andV, ex_orV, ex_notV, ex_if, ex_chain, ex_nil, ex_cons, ex_tup, ex_lst, ex_call, ex_callP, ex_cb, ex_bm, ex_rep, ex_sl, ex_noPart, ex_part, ex_yes, it_items, it_rng1, it_rng2, tg_name, tg_sub, tg_tup, tg_cons, tg_nil, gs_0, gs_s, ss_0, ss_s, op_ii, op_ss, op_tt, op_mm, op_sb, op_ng, op_iNf, op_iNt, op_lle, op_ixT, op_ixR, op_ixL, op_putE, op_appE, it_tupE, it_rolE, it_refE, lstOf_l, exL, asS_some, asI_int, asB_bl, asL_some, asN_some, ite3_t, ite3_f, bl_1, bl_lenT, bl_lenR, bl_lenL, bl_lenS, bl_tuple, bl_list, bl_abs, bl_intI, bl_intB, bl_max, bl_min, op_eqSf, op_eqSt, op_eqIf, op_eqIt, op_eqTf, op_eqTt, op_eqRf, op_eqRt, op_eqNf, op_eqNt, eqD_int, eqD_nil, pl_int, pl_nil, pl_non, pl_rnil, pl_bl, sl_tupE, sl_rolE, keep_ref, keep_tup, keep_rol, tp_int, tp_tup, tp_rol, tp_str, tp_bl, tp_non, tp_ref, oFd, oMd, oPw, oShl, oLt, oLe, oGt, oGe, op_in, op_cp, wipe_nil, wipe_cons, mset_same, true_and, and_true, isN_int, ex_lstF, ex_repF, ex_lgF1, ex_lgF2, ex_tupRg1, ex_tupRg2, ex_frz, ex_slF, ex_slM, sl_tupF, sl_rolF, op_iiF, op_ssF, op_ttF, op_rrF, op_rrM, op_mmF, op_repF, li_rol, li_ref, bl_listF, bl_allF, bl_anyF, asT_some, asJ_some, op_eqBf, op_eqBt, isN_non, Bool.not_true, Bool.not_false, rep2, ixp, ixj, g1, g2, g4]
        exact hY3 _ _ ⟨hjl, ⟨_, m2, st⟩, _, _, _, rfl⟩
      · rintro τ M' ⟨hj, ⟨X, m', hs⟩, x3, x8, x9, rfl⟩
        rw [List.length_map, hrl] at hs
        exact hY2 _ _ ⟨hpl', ⟨X, m', hs.row⟩, _, _, _, _, _, rfl⟩
    · rintro τ M' ⟨hp, ⟨X, m', hs⟩, x3, x6, x7, x8, x9, rfl⟩
      rw [List.length_map] at hs
      refine hY _ _ ⟨hkl, ⟨X, m', by rw [htk]; exact hs.part⟩, _, _, _, _, _, _, _, rfl⟩
  · rintro τ M' ⟨hk, ⟨X, m', sq, en, st⟩, x3, x4, x5, x6, x7, x8, x9, rfl⟩
    rw [hlen, List.take_length] at st
    refine ⟨True.intro, ?_⟩
    try dsimp only
    rw [st_ret]
    have big : (1000 : Nat) ≤ sizeLine := by decide
    exact tab_of_rows rfl (by simp) m' (by rw [m'.len2 sq]; omega) (q _ _ ⟨.of sq en, st⟩)
end L3
set_option Elab.async false
set_option linter.all false
set_option maxRecDepth 100000
set_option maxHeartbeats 4000000
namespace L3
open PySem PySem.Spec PyProof.Rows L2
/-- trips of places, ends within a bound -/
def TripsOk (many B : Nat) (ts : List Trip) : Prop := ∀ t ∈ ts, In2 many t ∧ t.2.2.natAbs < B
/-- edges of the rows ahead of p, of row p those ahead of q -/
def Edg (many B : Nat) (x : Part) (p q : Nat) (ts : List Trip) : Prop := TripsOk many B ts ∧ ts.length ≤ 100 * p + q ∧
  ∀ s, StE (ts.map edgeOf) s ↔ ∀ i j, i < x.1.length → j < x.1.length → (i < p ∨ (i = p ∧ j < q)) → eLe (s (x.2.getD j 0)) (eAdd (s (x.2.getD i 0)) (at2 x.1 i j))
theorem StE.app {es fs : List Edge} {s : Nat → Ed} : StE (es ++ fs) s ↔ StE es s ∧ StE fs s :=
  ⟨fun h => ⟨fun e he => h e (by simp [he]), fun e he => h e (by simp [he])⟩, fun h e he => (List.mem_append.mp he).elim (h.1 e) (h.2 e)⟩
theorem Edg.skip {many B p q : Nat} {x : Part} {ts : List Trip} (h : Edg many B x p q ts) (hn : at2 x.1 p q = none) : Edg many B x p (q + 1) ts :=
  ⟨h.1, by have := h.2.1; omega, fun s => by
    rw [h.2.2]
    constructor
    · intro a i j hi hj z
      by_cases w : i = p ∧ j = q
      · obtain ⟨rfl, rfl⟩ := w
        rw [hn]
        cases s (x.2.getD i 0) <;> exact eLe_none
      · exact a i j hi hj (by omega)
    · exact fun a i j hi hj z => a i j hi hj (by omega)⟩
theorem Edg.add {many B p q : Nat} {x : Part} {ts : List Trip} {c : Int} (h : Edg many B x p q ts) (ok : PartOk B many x) (hp : p < x.1.length) (hq : q < x.1.length) (hc : at2 x.1 p q = some c) :
    Edg many B x p (q + 1) (ts ++ [(((x.2.getD p 0 : Nat) : Int), ((x.2.getD q 0 : Nat) : Int), c)]) := by
  have inn : ∀ i, i < x.1.length → x.2.getD i 0 < many := fun i hi => by
    have : i < x.2.length := Nat.lt_of_lt_of_le hi ok.len
    rw [List.getD_eq_getElem?_getD, List.getElem?_eq_getElem this]
    exact ok.inn _ (List.getElem_mem this)
  refine ⟨fun t ht => ?_, by rw [List.length_append]; have := h.2.1; simp only [List.length_cons, List.length_nil]; omega, fun s => ?_⟩
  · rcases List.mem_append.mp ht with ht | ht
    · exact h.1 t ht
    · rw [List.mem_singleton] at ht
      subst ht
      have i1 := inn p hp
      have i2 := inn q hq
      exact ⟨⟨by simp only; omega, by simp only; omega, by simp only; omega, by simp only; omega⟩, ends_at' ok.tb c hc⟩
  · rw [List.map_append, StE.app, h.2.2]
    have e1 : StE ([(((x.2.getD p 0 : Nat) : Int), ((x.2.getD q 0 : Nat) : Int), c)].map edgeOf) s ↔ eLe (s (x.2.getD q 0)) (eAdd (s (x.2.getD p 0)) (some c)) := by
      simp [StE, edgeOf]
    rw [e1]
    constructor
    · rintro ⟨a, b⟩ i j hi hj z
      by_cases w : i = p ∧ j = q
      · obtain ⟨rfl, rfl⟩ := w
        rw [hc]; exact b
      · exact a i j hi hj (by omega)
    · intro a
      refine ⟨fun i j hi hj z => a i j hi hj (by omega), ?_⟩
      rw [← hc]
      exact a p q hp hq (by omega)
theorem Edg.row {many B p : Nat} {x : Part} {ts : List Trip} (h : Edg many B x p x.1.length ts) (hl : x.1.length ≤ 100) : Edg many B x (p + 1) 0 ts :=
  ⟨h.1, by have := h.2.1; omega, fun s => by
    rw [h.2.2]
    exact ⟨fun a i j hi hj z => a i j hi hj (by omega), fun a i j hi hj z => a i j hi hj (by omega)⟩⟩
end L3
set_option Elab.async false
set_option linter.all false
set_option maxRecDepth 100000
set_option maxHeartbeats 4000000
namespace L3
open PySem PySem.Spec PyProof.Rows L2
/-- a table's part: rows and columns at these places -/
def partT (S : Tab) (ps : List Nat) : Tab := ps.map fun p => ps.map fun q => at2 S p q
end L3
set_option Elab.async false
set_option linter.all false
set_option maxRecDepth 100000
set_option maxHeartbeats 4000000
namespace L3
open PySem PySem.Spec PyProof.Rows L2
end L3
set_option Elab.async false
set_option linter.all false
set_option maxRecDepth 100000
set_option maxHeartbeats 4000000
namespace L3
open PySem PySem.Spec PyProof.Rows L2
theorem szl {n : Nat} (h : n ≤ 12) : n ≤ sizeLine := Nat.le_trans h (by decide)
end L3
set_option Elab.async false
set_option linter.all false
set_option maxRecDepth 100000
set_option maxHeartbeats 4000000
namespace L3
open PySem PySem.Spec PyProof.Rows L2
end L3
set_option Elab.async false
set_option linter.all false
set_option maxRecDepth 100000
set_option maxHeartbeats 4000000
namespace L3
open PySem PySem.Spec PyProof.Rows L2
theorem tab_ne {n : Nat} {S : Tab} (sq : Sq n S) (hn : 0 < n) : (S.map rowD).isEmpty = false := by
  have := sq.rows
  cases S with
  | nil => simp at this; omega
  | cons a b => rfl
end L3
set_option Elab.async false
set_option linter.all false
set_option maxRecDepth 100000
set_option maxHeartbeats 4000000
namespace L3
open PySem PySem.Spec PyProof.Rows L2
theorem IsCl.congr {n : Nat} {T T' S : Fn} (h : ∀ s, Stable n T s ↔ Stable n T' s) (c : IsCl n T S) : IsCl n T' S :=
  ⟨c.diag, c.tri, fun p q hp hq => by
    have z := (h _).mp (c.row hp) p hp q hq
    rw [c.diag p hp, eAdd_0l] at z
    exact z, fun s hs => c.st s ((h s).mpr hs)⟩
theorem Bad.congr {n : Nat} {T T' : Fn} (h : ∀ s, Stable n T s ↔ Stable n T' s) (b : Bad n T) : Bad n T' := by
  obtain ⟨m, hm, z⟩ := b
  exact ⟨m, hm, fun s hs => z s ((h s).mpr hs)⟩
theorem Closes.congr {n B B' : Nat} {T T' : Tab} {d d' : D} (h : ∀ s, Stable n (at2 T) s ↔ Stable n (at2 T') s) (c : Closes n B T d) (c' : Closes n B' T' d') : d = d' := by
  rcases c with ⟨b, rfl⟩ | ⟨S, tb, cl, rfl⟩
  · rcases c' with ⟨_, rfl⟩ | ⟨S', _, cl', _⟩
    · rfl
    · exact absurd (b.congr h) cl'.good
  · rcases c' with ⟨b, _⟩ | ⟨S', tb', cl', rfl⟩
    · exact absurd b (cl.congr h).good
    · rw [tab_ext tb.sq tb'.sq fun p q hp hq => (cl.congr h).uniq cl' hp hq]
/-- some points of a table closed -/
def OnlyOf (n B : Nat) (X : Tab) (ps : List Nat) (d : D) : Prop := (Bad n (at2 X) ∧ d = .tup []) ∨ ∃ S : Tab, TabB (2 ^ n * B) n S ∧ IsCl n (at2 X) (at2 S) ∧ d = tabD (partT S ps)
theorem part_ext {n : Nat} {S S' : Tab} {ps : List Nat} (h : ∀ p q, p < n → q < n → at2 S p q = at2 S' p q) (hp : ∀ p ∈ ps, p < n) : partT S ps = partT S' ps := by
  unfold partT
  exact List.map_congr_left fun p h1 => List.map_congr_left fun q h2 => h p q (hp p h1) (hp q h2)
theorem OnlyOf.congr {n B B' : Nat} {X X' : Tab} {ps : List Nat} {d d' : D} (h : ∀ s, Stable n (at2 X) s ↔ Stable n (at2 X') s) (hp : ∀ p ∈ ps, p < n) (c : OnlyOf n B X ps d) (c' : OnlyOf n B' X' ps d') : d = d' := by
  rcases c with ⟨b, rfl⟩ | ⟨S, tb, cl, rfl⟩
  · rcases c' with ⟨_, rfl⟩ | ⟨S', _, cl', _⟩
    · rfl
    · exact absurd (b.congr h) cl'.good
  · rcases c' with ⟨b, _⟩ | ⟨S', tb', cl', rfl⟩
    · exact absurd b (cl.congr h).good
    · rw [part_ext (fun p q hp hq => (cl.congr h).uniq cl' hp hq) hp]
theorem partT_b {B n : Nat} {S : Tab} {ps : List Nat} (t : TabB B n S) : TabB B ps.length (partT S ps) := by
  refine ⟨by simp [partT], fun r hr => ?_, fun r hr e he => ?_⟩
  · obtain ⟨p, _, rfl⟩ := List.mem_map.mp hr; simp
  · obtain ⟨p, _, rfl⟩ := List.mem_map.mp hr
    obtain ⟨q, _, rfl⟩ := List.mem_map.mp he
    exact ends_at' t
theorem OnlyOf.tm {n B : Nat} {X : Tab} {ps : List Nat} {d : D} (c : OnlyOf n B X ps d) (hB : 2 ^ n * B ≤ 10 ^ 100) : Tm 2 (ps.length * (ps.length + 1)) d := by
  rcases c with ⟨_, rfl⟩ | ⟨S, tb, _, rfl⟩
  · exact (Tm.tup (h := 0) (n := 0) (m := 0) (ds := []) (fun d h => nomatch h) (Nat.le_refl _)).mono (by decide) (Nat.zero_le _)
  · exact Tm.tab (partT_b tb) hB
theorem OnlyOf.top {n B : Nat} {X : Tab} {ps : List Nat} {d : D} {M : Mp} (c : OnlyOf n B X ps d) : L3.top M d = d := by
  rcases c with ⟨_, rfl⟩ | ⟨S, _, _, rfl⟩ <;> rfl
/-- from closing and taking a part -/
theorem OnlyOf.of {n B : Nat} {X : Tab} {ps : List Nat} {d : D} (c : Closes n B X d) : ∃ d', OnlyOf n B X ps d' ∧ ((d = .tup [] ∧ d' = .tup []) ∨ ∃ S, d = tabD S ∧ d' = tabD (partT S ps)) := by
  rcases c with ⟨b, rfl⟩ | ⟨S, tb, cl, rfl⟩
  · exact ⟨_, .inl ⟨b, rfl⟩, .inl ⟨rfl, rfl⟩⟩
  · exact ⟨_, .inr ⟨S, tb, cl, rfl⟩, .inr ⟨S, rfl, rfl⟩⟩
theorem pl_tab {T : Tab} : Pl (tabD T) := by
  refine ⟨?_, ?_⟩
  · show plains (T.map rowD) = true
    induction T with
    | nil => rfl
    | cons r T ih =>
      have hr : plain (rowD r) = true := by
        show plains (r.map oD) = true
        induction r with
        | nil => rfl
        | cons a r ih => cases a <;> simp [plains, oD, plain, ih]
      simp [plains, hr, ih]
  · show deeps (T.map rowD) + 1 ≤ 64
    have : deeps (T.map rowD) ≤ 1 := by
      induction T with
      | nil => simp [deeps]
      | cons r T ih =>
        have hr : deep (rowD r) ≤ 1 := by
          show deeps (r.map oD) + 1 ≤ 1
          have : deeps (r.map oD) = 0 := by
            clear ih
            induction r with
            | nil => rfl
            | cons a r ih => cases a <;> simp [deeps, oD, deep, ih]
          omega
        simp only [List.map_cons, deeps]
        exact Nat.max_le.mpr ⟨hr, ih⟩
    omega
theorem pl_tabT {T : Tab} : Pl (.tup (T.map rowD)) := pl_tab
/-- a table == () -/
theorem eq_tab {n : Nat} {T : Tab} (sq : Sq n T) (hn : 0 < n) {M : Mp} {Q : VK3} : oEq false (tabD T) (.tup []) M Q = Q (.bl false) M := by
  unfold tabD
  rw [op_eqTf, tp_tup, eqD_nil, tab_ne sq hn]
  exact propext ⟨fun h => h.2.2, fun h => ⟨pl_tabT, by rw [pl_nil]; trivial, h⟩⟩
theorem eq_nil {M : Mp} {Q : VK3} : oEq false (.tup []) (.tup []) M Q = Q (.bl true) M := by
  rw [op_eqTf, tp_tup, eqD_nil]
  exact propext ⟨fun h => h.2.2, fun h => ⟨by rw [pl_nil]; trivial, by rw [pl_nil]; trivial, h⟩⟩
theorem len_tab {n : Nat} {T : Tab} (sq : Sq n T) {M : Mp} {Q : VK3} : bLen [tabD T] M Q = Q (.int n) M := by
  unfold tabD
  rw [bl_lenT, List.length_map, sq.rows]
/-- an end of a table -/
theorem ix_tab {n : Nat} {T : Tab} (sq : Sq n T) {p q : Int} (hp : 0 ≤ p) (hp1 : p < n) (hq : 0 ≤ q) (hq1 : q < n) : ∃ r, (∀ (M : Mp) (Q : VK3), oIx (tabD T) (.int p) M Q = Q (rowD r) M) ∧ ∀ (M : Mp) (Q : VK3), oIx (rowD r) (.int q) M Q = Q (oD (at2 T p.toNat q.toNat)) M := by
  obtain ⟨r, h1, h2, h3, h4, h5, h6⟩ := sq.get hp hp1 hq hq1
  refine ⟨r, fun M Q => ?_, fun M Q => ?_⟩
  · unfold tabD; rw [op_ixT, asI_int, h3, asS_some]; rfl
  · unfold rowD; rw [op_ixT, asI_int, h4, asS_some]
def rgN (i n : Nat) : List Nat := (List.range n).map (i + ·)
theorem rgN_len {i n : Nat} : (rgN i n).length = n := by simp [rgN]
theorem rgN_mem {i n p : Nat} : p ∈ rgN i n ↔ i ≤ p ∧ p < i + n := by
  simp only [rgN, List.mem_map, List.mem_range]
  constructor
  · rintro ⟨a, h, rfl⟩; omega
  · intro h; exact ⟨p - i, by omega, by omega⟩
theorem rgN_get {i n j : Nat} (h : j < n) : (rgN i n)[j]? = some (i + j) := by simp [rgN, h]
theorem rgD_pl {i : Int} {n : Nat} (h : 0 ≤ i) : rgD i n = plD (rgN i.toNat n) := by
  unfold rgD plD rgN
  rw [List.map_map]
  refine List.map_congr_left fun k _ => ?_
  show D.int (i + (k : Int)) = D.int (((i.toNat + k : Nat)) : Int)
  congr 1
  omega
theorem plD_app {a b : List Nat} : plD a ++ plD b = plD (a ++ b) := by simp [plD]
theorem plD_one {i : Int} (h : 0 ≤ i) : [D.int i] = plD [i.toNat] := by
  show [D.int i] = [D.int ((i.toNat : Nat) : Int)]
  rw [Int.toNat_of_nonneg h]
theorem plD_len {a : List Nat} : (plD a).length = a.length := by simp [plD]
theorem plD_map {a : List Nat} : plD a = a.map fun i : Nat => D.int (i : Int) := rfl
def keptOf (n : Nat) (ps : List Nat) : List Nat := ps.filter (fun p => decide (p ≠ n - 1)) ++ [n - 1]
def onlyR (sp_closed : Sp3) : XK3 → TS3 := fun E =>
  (wSeq (wSet 2 (wCallP sp_closed E (wCons (wVar 0) wNil)))
  (wSeq (wIfS (wB (wOp (oEq false) (wVar 2) (wTup wNil))) (wRet (wTup wNil)) wNext)
  (wSeq (wSet 3 (wOp oSub (wCB bLen (wCons (wVar 2) wNil)) (wC (.int 1))))
  (wSeq (wSet 4 (wOp oAddF (wLcF (wItems (wVar 1)) (wgName 5) (wB (wOp (oEq true) (wVar 5) (wVar 3))) (wVar 5) [5]) (wLstF (wCons (wVar 3) wNil))))
  (wRet (wCB bTuple (wCons (wLcF (wItems (wVar 4)) (wgName 5) wYes (wCB bTuple (wCons (wLcF (wItems (wVar 4)) (wgName 6) wYes (wOp oIx (wOp oIx (wVar 2) (wVar 5)) (wVar 6)) [6]) wNil)) [5]) wNil)))))))
structure SOnly (sp : Sp3) : Prop where
  t : ∀ (n B : Nat) (T : Tab) (ps : List Nat) (pd : D) (Q : VK3) (E : XK3), 0 < n → n ≤ 1000 → TabB B n T → 0 < B → IsSeq pd (plD ps) → (∀ p ∈ ps, p < n) → ps.length ≤ 1000 →
    (∀ d M, OnlyOf n B T (keptOf n ps) d → Q d M) → sp [tabD T, pd] M0 Q E
/-- a part of a table -/
theorem lc_part {S : Tab} {n : Nat} {ps : List Nat} {τ : St3} {i j k l : Nat} {M : Mp} {Q : VK3} {d : D} (sq : Sq n S) (hs : IsSeq d (plD ps)) (h1 : ∀ a b, getS (setS (setS (setS (setS τ j none) j a) k none) k b) i = some (tabD S)) (h2 : ∀ a, getS (setS (setS τ j none) j a) l = some d) (h3 : getS τ l = some d)
    (h4 : ∀ a b, getS (setS (setS (setS (setS τ j none) j a) k none) k b) j = a) (h5 : ∀ a b, getS (setS (setS (setS (setS τ j none) j a) k none) k b) k = b) (hin : ∀ p ∈ ps, p < n) (hl : ps.length ≤ 1001) (q : Q (tabD (partT S ps)) M) :
    wCB bTuple (wCons (wLcF (wItems (wVar l)) (wgName j) wYes (wCB bTuple (wCons (wLcF (wItems (wVar l)) (wgName k) wYes (wOp oIx (wOp oIx (wVar i) (wVar j)) (wVar k)) [k]) wNil)) [j]) wNil) τ M Q := by
  have big : (1001 : Nat) ≤ sizeLine := by decide
  simp only [ex_c, ex_var, ex_op, ex_un, ex_b, ex_and, ex_or, ex_not, ex_andV, ex_orV, ex_notV, ex_if, ex_chain, ex_nil, ex_cons, ex_tup, ex_lst, ex_call, ex_callP, ex_cb, ex_bm, ex_rep, ex_sl, ex_noPart, ex_part, ex_yes, it_items, it_rng1, it_rng2, tg_name, tg_sub, tg_tup, tg_cons, tg_nil, gs_0, gs_s, ss_0, ss_s, op_ii, op_ss, op_tt, op_mm, op_sb, op_ng, op_iNf, op_iNt, op_lle, op_ixT, op_ixR, op_ixL, op_putE, op_appE, it_tupE, it_rolE, it_refE, lstOf_l, exL, asS_some, asI_int, asB_bl, asL_some, asN_some, ite3_t, ite3_f, bl_1, bl_lenT, bl_lenR, bl_lenL, bl_lenS, bl_tuple, bl_list, bl_abs, bl_intI, bl_intB, bl_max, bl_min, op_eqSf, op_eqSt, op_eqIf, op_eqIt, op_eqTf, op_eqTt, op_eqRf, op_eqRt, op_eqNf, op_eqNt, eqD_int, eqD_nil, pl_int, pl_nil, pl_non, pl_rnil, pl_bl, sl_tupE, sl_rolE, keep_ref, keep_tup, keep_rol, tp_int, tp_tup, tp_rol, tp_str, tp_bl, tp_non, tp_ref, oFd, oMd, oPw, oShl, oLt, oLe, oGt, oGe, op_in, op_cp, wipe_nil, wipe_cons, mset_same, true_and, and_true, isN_int, ex_lstF, ex_repF, ex_lgF1, ex_lgF2, ex_tupRg1, ex_tupRg2, ex_frz, ex_slF, ex_slM, sl_tupF, sl_rolF, op_iiF, op_ssF, op_ttF, op_rrF, op_rrM, op_mmF, op_repF, li_rol, li_ref, bl_listF, bl_allF, bl_anyF, asT_some, asJ_some, op_eqBf, op_eqBt, isN_non, Bool.not_true, Bool.not_false, rep2, ex_lcF, h3, hs.items, hs.keep]
  refine lc_of (fun i : Nat => D.int (i : Int)) (fun p => rowD (ps.map fun q => at2 S p q)) True.intro ps (by omega) (fun p hpp K q => ?_) ?_
  · simp only [ex_c, ex_var, ex_op, ex_un, ex_b, ex_and, ex_or, ex_not, ex_andV, ex_orV, ex_notV, ex_if, ex_chain, ex_nil, ex_cons, ex_tup, ex_lst, ex_call, ex_callP, ex_cb, ex_bm, ex_rep, ex_sl, ex_noPart, ex_part, ex_yes, it_items, it_rng1, it_rng2, tg_name, tg_sub, tg_tup, tg_cons, tg_nil, gs_0, gs_s, ss_0, ss_s, op_ii, op_ss, op_tt, op_mm, op_sb, op_ng, op_iNf, op_iNt, op_lle, op_ixT, op_ixR, op_ixL, op_putE, op_appE, it_tupE, it_rolE, it_refE, lstOf_l, exL, asS_some, asI_int, asB_bl, asL_some, asN_some, ite3_t, ite3_f, bl_1, bl_lenT, bl_lenR, bl_lenL, bl_lenS, bl_tuple, bl_list, bl_abs, bl_intI, bl_intB, bl_max, bl_min, op_eqSf, op_eqSt, op_eqIf, op_eqIt, op_eqTf, op_eqTt, op_eqRf, op_eqRt, op_eqNf, op_eqNt, eqD_int, eqD_nil, pl_int, pl_nil, pl_non, pl_rnil, pl_bl, sl_tupE, sl_rolE, keep_ref, keep_tup, keep_rol, tp_int, tp_tup, tp_rol, tp_str, tp_bl, tp_non, tp_ref, oFd, oMd, oPw, oShl, oLt, oLe, oGt, oGe, op_in, op_cp, wipe_nil, wipe_cons, mset_same, true_and, and_true, isN_int, ex_lstF, ex_repF, ex_lgF1, ex_lgF2, ex_tupRg1, ex_tupRg2, ex_frz, ex_slF, ex_slM, sl_tupF, sl_rolF, op_iiF, op_ssF, op_ttF, op_rrF, op_rrM, op_mmF, op_repF, li_rol, li_ref, bl_listF, bl_allF, bl_anyF, asT_some, asJ_some, op_eqBf, op_eqBt, isN_non, Bool.not_true, Bool.not_false, rep2, ex_lcF, h2, hs.items, hs.keep]
    refine lc_of (fun i : Nat => D.int (i : Int)) (fun q => oD (at2 S p q)) True.intro ps (by omega) (fun r hr K q => ?_) ?_
    · have ip := hin p hpp
      have ir := hin r hr
      obtain ⟨row, g1, g2⟩ := ix_tab sq (p := (p : Int)) (q := (r : Int)) (by omega) (by omega) (by omega) (by omega)
      rw [Int.toNat_natCast, Int.toNat_natCast] at g2
      simp only [ex_c, ex_var, ex_op, ex_un, ex_b, ex_and, ex_or, ex_not, ex_andV, ex_orV, ex_notV, ex_if, ex_chain, ex_nil, ex_cons, ex_tup, ex_lst, ex_call, ex_callP, ex_cb, ex_bm, ex_rep, ex_sl, ex_noPart, ex_part, ex_yes, it_items, it_rng1, it_rng2, tg_name, tg_sub, tg_tup, tg_cons, tg_nil, gs_0, gs_s, ss_0, ss_s, op_ii, op_ss, op_tt, op_mm, op_sb, op_ng, op_iNf, op_iNt, op_lle, op_ixT, op_ixR, op_ixL, op_putE, op_appE, it_tupE, it_rolE, it_refE, lstOf_l, exL, asS_some, asI_int, asB_bl, asL_some, asN_some, ite3_t, ite3_f, bl_1, bl_lenT, bl_lenR, bl_lenL, bl_lenS, bl_tuple, bl_list, bl_abs, bl_intI, bl_intB, bl_max, bl_min, op_eqSf, op_eqSt, op_eqIf, op_eqIt, op_eqTf, op_eqTt, op_eqRf, op_eqRt, op_eqNf, op_eqNt, eqD_int, eqD_nil, pl_int, pl_nil, pl_non, pl_rnil, pl_bl, sl_tupE, sl_rolE, keep_ref, keep_tup, keep_rol, tp_int, tp_tup, tp_rol, tp_str, tp_bl, tp_non, tp_ref, oFd, oMd, oPw, oShl, oLt, oLe, oGt, oGe, op_in, op_cp, wipe_nil, wipe_cons, mset_same, true_and, and_true, isN_int, ex_lstF, ex_repF, ex_lgF1, ex_lgF2, ex_tupRg1, ex_tupRg2, ex_frz, ex_slF, ex_slM, sl_tupF, sl_rolF, op_iiF, op_ssF, op_ttF, op_rrF, op_rrM, op_mmF, op_repF, li_rol, li_ref, bl_listF, bl_allF, bl_anyF, asT_some, asJ_some, op_eqBf, op_eqBt, isN_non, Bool.not_true, Bool.not_false, rep2, h1, h4, h5, g1, g2]
      exact q
    · (try simp only [ex_c, ex_var, ex_op, ex_un, ex_b, ex_and, ex_or, ex_not, ex_andV, ex_orV, ex_notV, ex_if, ex_chain, ex_nil, ex_cons, ex_tup, ex_lst, ex_call, ex_callP, ex_cb, ex_bm, ex_rep, ex_sl, ex_noPart, ex_part, ex_yes, it_items, it_rng1, it_rng2, tg_name, tg_sub, tg_tup, tg_cons, tg_nil, gs_0, gs_s, ss_0, ss_s, op_ii, op_ss, op_tt, op_mm, op_sb, op_ng, op_iNf, op_iNt, op_lle, op_ixT, op_ixR, op_ixL, op_putE, op_appE, it_tupE, it_rolE, it_refE, lstOf_l, exL, asS_some, asI_int, asB_bl, asL_some, asN_some, ite3_t, ite3_f, bl_1, bl_lenT, bl_lenR, bl_lenL, bl_lenS, bl_tuple, bl_list, bl_abs, bl_intI, bl_intB, bl_max, bl_min, op_eqSf, op_eqSt, op_eqIf, op_eqIt, op_eqTf, op_eqTt, op_eqRf, op_eqRt, op_eqNf, op_eqNt, eqD_int, eqD_nil, pl_int, pl_nil, pl_non, pl_rnil, pl_bl, sl_tupE, sl_rolE, keep_ref, keep_tup, keep_rol, tp_int, tp_tup, tp_rol, tp_str, tp_bl, tp_non, tp_ref, oFd, oMd, oPw, oShl, oLt, oLe, oGt, oGe, op_in, op_cp, wipe_nil, wipe_cons, mset_same, true_and, and_true, isN_int, ex_lstF, ex_repF, ex_lgF1, ex_lgF2, ex_tupRg1, ex_tupRg2, ex_frz, ex_slF, ex_slM, sl_tupF, sl_rolF, op_iiF, op_ssF, op_ttF, op_rrF, op_rrM, op_mmF, op_repF, li_rol, li_ref, bl_listF, bl_allF, bl_anyF, asT_some, asJ_some, op_eqBf, op_eqBt, isN_non, Bool.not_true, Bool.not_false, rep2])
      have e : D.tup (ps.map fun q => oD (at2 S p q)) = rowD (ps.map fun q => at2 S p q) := by simp [rowD]
      rw [e]; exact q
  · (try simp only [ex_c, ex_var, ex_op, ex_un, ex_b, ex_and, ex_or, ex_not, ex_andV, ex_orV, ex_notV, ex_if, ex_chain, ex_nil, ex_cons, ex_tup, ex_lst, ex_call, ex_callP, ex_cb, ex_bm, ex_rep, ex_sl, ex_noPart, ex_part, ex_yes, it_items, it_rng1, it_rng2, tg_name, tg_sub, tg_tup, tg_cons, tg_nil, gs_0, gs_s, ss_0, ss_s, op_ii, op_ss, op_tt, op_mm, op_sb, op_ng, op_iNf, op_iNt, op_lle, op_ixT, op_ixR, op_ixL, op_putE, op_appE, it_tupE, it_rolE, it_refE, lstOf_l, exL, asS_some, asI_int, asB_bl, asL_some, asN_some, ite3_t, ite3_f, bl_1, bl_lenT, bl_lenR, bl_lenL, bl_lenS, bl_tuple, bl_list, bl_abs, bl_intI, bl_intB, bl_max, bl_min, op_eqSf, op_eqSt, op_eqIf, op_eqIt, op_eqTf, op_eqTt, op_eqRf, op_eqRt, op_eqNf, op_eqNt, eqD_int, eqD_nil, pl_int, pl_nil, pl_non, pl_rnil, pl_bl, sl_tupE, sl_rolE, keep_ref, keep_tup, keep_rol, tp_int, tp_tup, tp_rol, tp_str, tp_bl, tp_non, tp_ref, oFd, oMd, oPw, oShl, oLt, oLe, oGt, oGe, op_in, op_cp, wipe_nil, wipe_cons, mset_same, true_and, and_true, isN_int, ex_lstF, ex_repF, ex_lgF1, ex_lgF2, ex_tupRg1, ex_tupRg2, ex_frz, ex_slF, ex_slM, sl_tupF, sl_rolF, op_iiF, op_ssF, op_ttF, op_rrF, op_rrM, op_mmF, op_repF, li_rol, li_ref, bl_listF, bl_allF, bl_anyF, asT_some, asJ_some, op_eqBf, op_eqBt, isN_non, Bool.not_true, Bool.not_false, rep2])
    have e2 : D.tup (ps.map fun p => rowD (ps.map fun q => at2 S p q)) = tabD (partT S ps) := by simp [tabD, partT]
    rw [e2]; exact q
theorem s_only {sc : Sp3} (kc : SClosed sc) : SOnly (spOf 2 7 (onlyR sc)) := by
  refine ⟨fun n B T ps pd Q E hn hn1 tb hB hpd hin hl q => ⟨rfl, ?_⟩⟩
  show onlyR sc E _ [some (tabD T), some pd, none, none, none, none, none] M0
  unfold onlyR
  rw [st_seq, st_set]
  simp only [ex_c, ex_var, ex_op, ex_un, ex_b, ex_and, ex_or, ex_not, ex_andV, ex_orV, ex_notV, ex_if, ex_chain, ex_nil, ex_cons, ex_tup, ex_lst, ex_call, ex_callP, ex_cb, ex_bm, ex_rep, ex_sl, ex_noPart, ex_part, ex_yes, it_items, it_rng1, it_rng2, tg_name, tg_sub, tg_tup, tg_cons, tg_nil, gs_0, gs_s, ss_0, ss_s, op_ii, op_ss, op_tt, op_mm, op_sb, op_ng, op_iNf, op_iNt, op_lle, op_ixT, op_ixR, op_ixL, op_putE, op_appE, it_tupE, it_rolE, it_refE, lstOf_l, exL, asS_some, asI_int, asB_bl, asL_some, asN_some, ite3_t, ite3_f, bl_1, bl_lenT, bl_lenR, bl_lenL, bl_lenS, bl_tuple, bl_list, bl_abs, bl_intI, bl_intB, bl_max, bl_min, op_eqSf, op_eqSt, op_eqIf, op_eqIt, op_eqTf, op_eqTt, op_eqRf, op_eqRt, op_eqNf, op_eqNt, eqD_int, eqD_nil, pl_int, pl_nil, pl_non, pl_rnil, pl_bl, sl_tupE, sl_rolE, keep_ref, keep_tup, keep_rol, tp_int, tp_tup, tp_rol, tp_str, tp_bl, tp_non, tp_ref, oFd, oMd, oPw, oShl, oLt, oLe, oGt, oGe, op_in, op_cp, wipe_nil, wipe_cons, mset_same, true_and, and_true, isN_int, ex_lstF, ex_repF, ex_lgF1, ex_lgF2, ex_tupRg1, ex_tupRg2, ex_frz, ex_slF, ex_slM, sl_tupF, sl_rolF, op_iiF, op_ssF, op_ttF, op_rrF, op_rrM, op_mmF, op_repF, li_rol, li_ref, bl_listF, bl_allF, bl_anyF, asT_some, asJ_some, op_eqBf, op_eqBt, isN_non, Bool.not_true, Bool.not_false, rep2]
  refine kc n B T _ _ hn1 tb hB fun d M hd => ?_
  rcases hd with ⟨b, rfl⟩ | ⟨S, tbS, cl, rfl⟩
  · try dsimp only
    rw [st_seq, st_if]
    simp only [ex_c, ex_var, ex_op, ex_un, ex_b, ex_and, ex_or, ex_not, ex_andV, ex_orV, ex_notV, ex_if, ex_chain, ex_nil, ex_cons, ex_tup, ex_lst, ex_call, ex_callP, ex_cb, ex_bm, ex_rep, ex_sl, ex_noPart, ex_part, ex_yes, it_items, it_rng1, it_rng2, tg_name, tg_sub, tg_tup, tg_cons, tg_nil, gs_0, gs_s, ss_0, ss_s, op_ii, op_ss, op_tt, op_mm, op_sb, op_ng, op_iNf, op_iNt, op_lle, op_ixT, op_ixR, op_ixL, op_putE, op_appE, it_tupE, it_rolE, it_refE, lstOf_l, exL, asS_some, asI_int, asB_bl, asL_some, asN_some, ite3_t, ite3_f, bl_1, bl_lenT, bl_lenR, bl_lenL, bl_lenS, bl_tuple, bl_list, bl_abs, bl_intI, bl_intB, bl_max, bl_min, op_eqSf, op_eqSt, op_eqIf, op_eqIt, op_eqTf, op_eqTt, op_eqRf, op_eqRt, op_eqNf, op_eqNt, eqD_int, eqD_nil, pl_int, pl_nil, pl_non, pl_rnil, pl_bl, sl_tupE, sl_rolE, keep_ref, keep_tup, keep_rol, tp_int, tp_tup, tp_rol, tp_str, tp_bl, tp_non, tp_ref, oFd, oMd, oPw, oShl, oLt, oLe, oGt, oGe, op_in, op_cp, wipe_nil, wipe_cons, mset_same, true_and, and_true, isN_int, ex_lstF, ex_repF, ex_lgF1, ex_lgF2, ex_tupRg1, ex_tupRg2, ex_frz, ex_slF, ex_slM, sl_tupF, sl_rolF, op_iiF, op_ssF, op_ttF, op_rrF, op_rrM, op_mmF, op_repF, li_rol, li_ref, bl_listF, bl_allF, bl_anyF, asT_some, asJ_some, op_eqBf, op_eqBt, isN_non, Bool.not_true, Bool.not_false, rep2, eq_nil]
    simp only [st_ret]
    simp only [st_seq, st_next, st_break, st_cont, st_set, st_ret, st_retN, st_drop, st_if, st_asg, st_par, st_for, ex_c, ex_var, ex_op, ex_un, ex_b, ex_and, ex_or, ex_not, ex_andV, ex_orV, ex_notV, ex_if, ex_chain, ex_nil, ex_cons, ex_tup, ex_lst, ex_call, ex_callP, ex_cb, ex_bm, ex_rep, ex_lc, ex_sl, ex_noPart, ex_part, ex_yes, it_items, it_rng1, it_rng2, tg_name, tg_sub, tg_tup, tg_cons, tg_nil, gs_0, gs_s, ss_0, ss_s, op_ii, op_ss, op_tt, op_mm, op_sb, op_ng, op_iNf, op_iNt, op_lle, op_ixT, op_ixR, op_ixL, op_putE, op_appE, it_tupE, it_rolE, it_refE, lstOf_l, exL, asS_some, asI_int, asB_bl, asL_some, asN_some, ite3_t, ite3_f, bl_1, bl_lenT, bl_lenR, bl_lenL, bl_lenS, bl_tuple, bl_list, bl_abs, bl_intI, bl_intB, bl_max, bl_min, bl_repr, op_eqSf, op_eqSt, op_eqIf, op_eqIt, op_eqTf, op_eqTt, op_eqRf, op_eqRt, op_eqNf, op_eqNt, eqD_int, eqD_nil, pl_int, pl_nil, pl_non, pl_rnil, pl_bl, sl_tupE, sl_rolE, keep_ref, keep_tup, keep_rol, tp_int, tp_tup, tp_rol, tp_str, tp_bl, tp_non, tp_ref, oFd, oMd, oPw, oShl, oLt, oLe, oGt, oGe, op_in, op_cp, wipe_nil, wipe_cons, mset_same, true_and, and_true, isN_int, sz_0, sz_1, sz_2, sz_3, sz_4, sz_5, sz_6, sz_7, sz_8, sz_9, sz_10, sz_11, sz_12, ex_lstF, ex_repF, ex_lgF1, ex_lgF2, ex_tupRg1, ex_tupRg2, ex_lcF, ex_frz, ex_slF, ex_slM, sl_tupF, sl_rolF, op_iiF, op_ssF, op_ttF, op_rrF, op_rrM, op_mmF, op_repF, li_rol, li_ref, bl_listF, bl_allF, bl_anyF, asT_some, asJ_some, op_eqLf, op_eqLt, op_eqBf, op_eqBt, isN_non, Bool.not_true, Bool.not_false]
    exact q _ _ (.inl ⟨b, rfl⟩)
  · try dsimp only
    rw [st_seq, st_if]
    simp only [ex_c, ex_var, ex_op, ex_un, ex_b, ex_and, ex_or, ex_not, ex_andV, ex_orV, ex_notV, ex_if, ex_chain, ex_nil, ex_cons, ex_tup, ex_lst, ex_call, ex_callP, ex_cb, ex_bm, ex_rep, ex_sl, ex_noPart, ex_part, ex_yes, it_items, it_rng1, it_rng2, tg_name, tg_sub, tg_tup, tg_cons, tg_nil, gs_0, gs_s, ss_0, ss_s, op_ii, op_ss, op_tt, op_mm, op_sb, op_ng, op_iNf, op_iNt, op_lle, op_ixT, op_ixR, op_ixL, op_putE, op_appE, it_tupE, it_rolE, it_refE, lstOf_l, exL, asS_some, asI_int, asB_bl, asL_some, asN_some, ite3_t, ite3_f, bl_1, bl_lenT, bl_lenR, bl_lenL, bl_lenS, bl_tuple, bl_list, bl_abs, bl_intI, bl_intB, bl_max, bl_min, op_eqSf, op_eqSt, op_eqIf, op_eqIt, op_eqTf, op_eqTt, op_eqRf, op_eqRt, op_eqNf, op_eqNt, eqD_int, eqD_nil, pl_int, pl_nil, pl_non, pl_rnil, pl_bl, sl_tupE, sl_rolE, keep_ref, keep_tup, keep_rol, tp_int, tp_tup, tp_rol, tp_str, tp_bl, tp_non, tp_ref, oFd, oMd, oPw, oShl, oLt, oLe, oGt, oGe, op_in, op_cp, wipe_nil, wipe_cons, mset_same, true_and, and_true, isN_int, ex_lstF, ex_repF, ex_lgF1, ex_lgF2, ex_tupRg1, ex_tupRg2, ex_frz, ex_slF, ex_slM, sl_tupF, sl_rolF, op_iiF, op_ssF, op_ttF, op_rrF, op_rrM, op_mmF, op_repF, li_rol, li_ref, bl_listF, bl_allF, bl_anyF, asT_some, asJ_some, op_eqBf, op_eqBt, isN_non, Bool.not_true, Bool.not_false, rep2, eq_tab tbS.sq hn]
    rw [st_next]
    try dsimp only
    rw [st_seq, st_set]
    simp only [ex_c, ex_var, ex_op, ex_un, ex_b, ex_and, ex_or, ex_not, ex_andV, ex_orV, ex_notV, ex_if, ex_chain, ex_nil, ex_cons, ex_tup, ex_lst, ex_call, ex_callP, ex_cb, ex_bm, ex_rep, ex_sl, ex_noPart, ex_part, ex_yes, it_items, it_rng1, it_rng2, tg_name, tg_sub, tg_tup, tg_cons, tg_nil, gs_0, gs_s, ss_0, ss_s, op_ii, op_ss, op_tt, op_mm, op_sb, op_ng, op_iNf, op_iNt, op_lle, op_ixT, op_ixR, op_ixL, op_putE, op_appE, it_tupE, it_rolE, it_refE, lstOf_l, exL, asS_some, asI_int, asB_bl, asL_some, asN_some, ite3_t, ite3_f, bl_1, bl_lenT, bl_lenR, bl_lenL, bl_lenS, bl_tuple, bl_list, bl_abs, bl_intI, bl_intB, bl_max, bl_min, op_eqSf, op_eqSt, op_eqIf, op_eqIt, op_eqTf, op_eqTt, op_eqRf, op_eqRt, op_eqNf, op_eqNt, eqD_int, eqD_nil, pl_int, pl_nil, pl_non, pl_rnil, pl_bl, sl_tupE, sl_rolE, keep_ref, keep_tup, keep_rol, tp_int, tp_tup, tp_rol, tp_str, tp_bl, tp_non, tp_ref, oFd, oMd, oPw, oShl, oLt, oLe, oGt, oGe, op_in, op_cp, wipe_nil, wipe_cons, mset_same, true_and, and_true, isN_int, ex_lstF, ex_repF, ex_lgF1, ex_lgF2, ex_tupRg1, ex_tupRg2, ex_frz, ex_slF, ex_slM, sl_tupF, sl_rolF, op_iiF, op_ssF, op_ttF, op_rrF, op_rrM, op_mmF, op_repF, li_rol, li_ref, bl_listF, bl_allF, bl_anyF, asT_some, asJ_some, op_eqBf, op_eqBt, isN_non, Bool.not_true, Bool.not_false, rep2, len_tab tbS.sq]
    try dsimp only
    rw [st_seq, st_set]
    simp only [ex_c, ex_var, ex_op, ex_un, ex_b, ex_and, ex_or, ex_not, ex_andV, ex_orV, ex_notV, ex_if, ex_chain, ex_nil, ex_cons, ex_tup, ex_lst, ex_call, ex_callP, ex_cb, ex_bm, ex_rep, ex_sl, ex_noPart, ex_part, ex_yes, it_items, it_rng1, it_rng2, tg_name, tg_sub, tg_tup, tg_cons, tg_nil, gs_0, gs_s, ss_0, ss_s, op_ii, op_ss, op_tt, op_mm, op_sb, op_ng, op_iNf, op_iNt, op_lle, op_ixT, op_ixR, op_ixL, op_putE, op_appE, it_tupE, it_rolE, it_refE, lstOf_l, exL, asS_some, asI_int, asB_bl, asL_some, asN_some, ite3_t, ite3_f, bl_1, bl_lenT, bl_lenR, bl_lenL, bl_lenS, bl_tuple, bl_list, bl_abs, bl_intI, bl_intB, bl_max, bl_min, op_eqSf, op_eqSt, op_eqIf, op_eqIt, op_eqTf, op_eqTt, op_eqRf, op_eqRt, op_eqNf, op_eqNt, eqD_int, eqD_nil, pl_int, pl_nil, pl_non, pl_rnil, pl_bl, sl_tupE, sl_rolE, keep_ref, keep_tup, keep_rol, tp_int, tp_tup, tp_rol, tp_str, tp_bl, tp_non, tp_ref, oFd, oMd, oPw, oShl, oLt, oLe, oGt, oGe, op_in, op_cp, wipe_nil, wipe_cons, mset_same, true_and, and_true, isN_int, ex_lstF, ex_repF, ex_lgF1, ex_lgF2, ex_tupRg1, ex_tupRg2, ex_frz, ex_slF, ex_slM, sl_tupF, sl_rolF, op_iiF, op_ssF, op_ttF, op_rrF, op_rrM, op_mmF, op_repF, li_rol, li_ref, bl_listF, bl_allF, bl_anyF, asT_some, asJ_some, op_eqBf, op_eqBt, isN_non, Bool.not_true, Bool.not_false, rep2, ex_lcF, hpd.items, hpd.keep]
    have big : (1001 : Nat) ≤ sizeLine := by decide
    refine ⟨Nat.zero_le _, ?_⟩
    rw [plD_map]
    refine lc_if (fun i : Nat => D.int (i : Int)) (fun p => decide (p ≠ n - 1)) (fun i : Nat => D.int (i : Int)) (by trivial) ps (by omega) (fun p hpp K K2 k1 k2 => ?_) ?_
    · simp only [ex_c, ex_var, ex_op, ex_un, ex_b, ex_and, ex_or, ex_not, ex_andV, ex_orV, ex_notV, ex_if, ex_chain, ex_nil, ex_cons, ex_tup, ex_lst, ex_call, ex_callP, ex_cb, ex_bm, ex_rep, ex_sl, ex_noPart, ex_part, ex_yes, it_items, it_rng1, it_rng2, tg_name, tg_sub, tg_tup, tg_cons, tg_nil, gs_0, gs_s, ss_0, ss_s, op_ii, op_ss, op_tt, op_mm, op_sb, op_ng, op_iNf, op_iNt, op_lle, op_ixT, op_ixR, op_ixL, op_putE, op_appE, it_tupE, it_rolE, it_refE, lstOf_l, exL, asS_some, asI_int, asB_bl, asL_some, asN_some, ite3_t, ite3_f, bl_1, bl_lenT, bl_lenR, bl_lenL, bl_lenS, bl_tuple, bl_list, bl_abs, bl_intI, bl_intB, bl_max, bl_min, op_eqSf, op_eqSt, op_eqIf, op_eqIt, op_eqTf, op_eqTt, op_eqRf, op_eqRt, op_eqNf, op_eqNt, eqD_int, eqD_nil, pl_int, pl_nil, pl_non, pl_rnil, pl_bl, sl_tupE, sl_rolE, keep_ref, keep_tup, keep_rol, tp_int, tp_tup, tp_rol, tp_str, tp_bl, tp_non, tp_ref, oFd, oMd, oPw, oShl, oLt, oLe, oGt, oGe, op_in, op_cp, wipe_nil, wipe_cons, mset_same, true_and, and_true, isN_int, ex_lstF, ex_repF, ex_lgF1, ex_lgF2, ex_tupRg1, ex_tupRg2, ex_frz, ex_slF, ex_slM, sl_tupF, sl_rolF, op_iiF, op_ssF, op_ttF, op_rrF, op_rrM, op_mmF, op_repF, li_rol, li_ref, bl_listF, bl_allF, bl_anyF, asT_some, asJ_some, op_eqBf, op_eqBt, isN_non, Bool.not_true, Bool.not_false, rep2]
      have e : (decide ((p : Int) = (n : Int) - 1)) = decide (p = n - 1) := by
        by_cases h : p = n - 1
        · rw [decide_eq_true h, decide_eq_true (by omega)]
        · rw [decide_eq_false h, decide_eq_false (by omega)]
      rw [e]
      by_cases h : p = n - 1
      · rw [decide_eq_true h]; exact k2 (by simp [h])
      · rw [decide_eq_false h]; exact k1 (by simp [h])
    · have hfl : (ps.filter (fun p => decide (p ≠ n - 1))).length ≤ ps.length := List.length_filter_le _ _
      (try simp only [ex_c, ex_var, ex_op, ex_un, ex_b, ex_and, ex_or, ex_not, ex_andV, ex_orV, ex_notV, ex_if, ex_chain, ex_nil, ex_cons, ex_tup, ex_lst, ex_call, ex_callP, ex_cb, ex_bm, ex_rep, ex_sl, ex_noPart, ex_part, ex_yes, it_items, it_rng1, it_rng2, tg_name, tg_sub, tg_tup, tg_cons, tg_nil, gs_0, gs_s, ss_0, ss_s, op_ii, op_ss, op_tt, op_mm, op_sb, op_ng, op_iNf, op_iNt, op_lle, op_ixT, op_ixR, op_ixL, op_putE, op_appE, it_tupE, it_rolE, it_refE, lstOf_l, exL, asS_some, asI_int, asB_bl, asL_some, asN_some, ite3_t, ite3_f, bl_1, bl_lenT, bl_lenR, bl_lenL, bl_lenS, bl_tuple, bl_list, bl_abs, bl_intI, bl_intB, bl_max, bl_min, op_eqSf, op_eqSt, op_eqIf, op_eqIt, op_eqTf, op_eqTt, op_eqRf, op_eqRt, op_eqNf, op_eqNt, eqD_int, eqD_nil, pl_int, pl_nil, pl_non, pl_rnil, pl_bl, sl_tupE, sl_rolE, keep_ref, keep_tup, keep_rol, tp_int, tp_tup, tp_rol, tp_str, tp_bl, tp_non, tp_ref, oFd, oMd, oPw, oShl, oLt, oLe, oGt, oGe, op_in, op_cp, wipe_nil, wipe_cons, mset_same, true_and, and_true, isN_int, ex_lstF, ex_repF, ex_lgF1, ex_lgF2, ex_tupRg1, ex_tupRg2, ex_frz, ex_slF, ex_slM, sl_tupF, sl_rolF, op_iiF, op_ssF, op_ttF, op_rrF, op_rrM, op_mmF, op_repF, li_rol, li_ref, bl_listF, bl_allF, bl_anyF, asT_some, asJ_some, op_eqBf, op_eqBt, isN_non, Bool.not_true, Bool.not_false, rep2])
      refine ⟨by show 1 ≤ sizeLine; omega, by rw [List.length_map]; show _ + 1 ≤ sizeLine; omega, ?_⟩
      have e : List.map (fun i : Nat => D.int (i : Int)) (ps.filter (fun p => decide (p ≠ n - 1))) ++ [D.int ((n : Int) - 1)] = plD (keptOf n ps) := by
        unfold keptOf plD
        rw [List.map_append]
        have : ((n : Int) - 1) = ((n - 1 : Nat) : Int) := by omega
        rw [this]; rfl
      rw [e]
      try dsimp only
      rw [st_ret]
      refine lc_part tbS.sq (.inr rfl) (fun a b => rfl) (fun a => rfl) rfl (fun a b => rfl) (fun a b => rfl) (fun p hp => ?_) (by unfold keptOf; rw [List.length_append]; show _ + 1 ≤ 1001; omega) (q _ _ (.inr ⟨S, tbS, cl, rfl⟩))
      unfold keptOf at hp
      rcases List.mem_append.mp hp with h | h
      · exact hin p (List.mem_filter.mp h).1
      · rw [List.mem_singleton] at h; omega
end L3
set_option Elab.async false
set_option linter.all false
set_option maxRecDepth 100000
set_option maxHeartbeats 4000000
namespace L3
open PySem PySem.Spec PyProof.Rows L2
/-- places of two steps behind one another -/
def aheadN (w : Nat) : List Nat := rgN 0 (2 * w) ++ [3 * w]
def laterN (w : Nat) : List Nat := rgN w (2 * w + 1)
def keptB (w : Nat) : List Nat := rgN 0 w ++ rgN (2 * w) w ++ [3 * w]
theorem fd2 (w : Nat) : Int.fdiv (((2 * w + 1 : Nat) : Int)) 2 = (w : Int) := by
  rw [Int.fdiv_eq_ediv_of_nonneg _ (by decide)]; omega
theorem toN2 (w : Nat) : (2 * (w : Int)).toNat = 2 * w := by omega
theorem toN3 (w : Nat) : (3 * (w : Int)).toNat = 3 * w := by omega
theorem toN21 (w : Nat) : (2 * (w : Int) + 1).toNat = 2 * w + 1 := by omega
theorem toN31 (w : Nat) : (3 * (w : Int) + 1).toNat = 3 * w + 1 := by omega
theorem rgD_N {n : Nat} : rgD 0 n = plD (rgN 0 n) := rgD_pl (by decide)
theorem rgD_Nw {w n : Nat} : rgD (w : Int) n = plD (rgN w n) := by rw [rgD_pl (by omega), Int.toNat_natCast]
theorem rgD_2w {w n : Nat} : rgD (2 * (w : Int)) n = plD (rgN (2 * w) n) := by rw [rgD_pl (by omega), toN2]
theorem one_2 {w : Nat} : [D.int (2 * (w : Int))] = plD [2 * w] := by rw [plD_one (by omega), toN2]
theorem one_3 {w : Nat} : [D.int (3 * (w : Int))] = plD [3 * w] := by rw [plD_one (by omega), toN3]
theorem two_parts {P : D → Part → Prop} {d1 d2 : D} {x1 x2 : Part} (h1 : P d1 x1) (h2 : P d2 x2) : ∀ (i : Nat) (d : D) (x : Part), [d1, d2][i]? = some d → [x1, x2][i]? = some x → P d x
  | 0, _, _, e1, e2 => by cases e1; cases e2; exact h1
  | 1, _, _, e1, e2 => by cases e1; cases e2; exact h2
  | _ + 2, _, _, e1, _ => by cases e1
def behindR (sp_put_together : Sp3) (sp_only : Sp3) : XK3 → TS3 := fun E =>
  (wSeq (wIfS (wOr (wB (wOp (oEq false) (wVar 0) (wTup wNil))) (wB (wOp (oEq false) (wVar 1) (wTup wNil)))) (wRet (wTup wNil)) wNext)
  (wSeq (wSet 2 (wOp oFd (wCB bLen (wCons (wVar 0) wNil)) (wC (.int 2))))
  (wSeq (wSet 3 (wOp oAddF (wLstRgF1 (wOp oMulF (wC (.int 2)) (wVar 2))) (wLstF (wCons (wOp oMulF (wC (.int 3)) (wVar 2)) wNil))))
  (wSeq (wSet 4 (wCallP sp_put_together E (wCons (wOp oAddF (wOp oMulF (wC (.int 3)) (wVar 2)) (wC (.int 1))) (wCons (wLstF (wCons (wTup (wCons (wVar 0) (wCons (wVar 3) wNil))) (wCons (wTup (wCons (wVar 1) (wCons (wLstRgF2 (wVar 2) (wOp oAddF (wOp oMulF (wC (.int 3)) (wVar 2)) (wC (.int 1)))) wNil))) wNil))) wNil))))
  (wRet (wCallP sp_only E (wCons (wVar 4) (wCons (wCB bTuple (wCons (wOp oAddF (wLstRgF1 (wVar 2)) (wLstRgF2 (wOp oMulF (wC (.int 2)) (wVar 2)) (wOp oMulF (wC (.int 3)) (wVar 2)))) wNil)) wNil))))))))
structure SBehind (sp : Sp3) : Prop where
  t : ∀ (w B : Nat) (T U : Tab) (Q : VK3) (E : XK3), w ≤ 100 → TabB B (2 * w + 1) T → TabB B (2 * w + 1) U → 0 < B →
    (∀ X d M, PutIs B (3 * w + 1) [(T, aheadN w), (U, laterN w)] X → OnlyOf (3 * w + 1) B X (keptB w) d → Q d M) → sp [tabD T, tabD U] M0 Q E
  n : ∀ (d e : D) (Q : VK3) (E : XK3), (d = .tup [] ∧ (e = .tup [] ∨ ∃ n T, e = tabD T ∧ Sq n T ∧ 0 < n)) ∨ (e = .tup [] ∧ ∃ n T, d = tabD T ∧ Sq n T ∧ 0 < n) → (∀ M, Q (.tup []) M) → sp [d, e] M0 Q E
theorem kept_behind (w : Nat) : keptOf (3 * w + 1) (rgN 0 w ++ rgN (2 * w) w) = keptB w := by
  unfold keptOf keptB
  rw [List.filter_eq_self.mpr fun p hp => ?_]
  · rfl
  · rcases List.mem_append.mp hp with h | h
    · have := rgN_mem.mp h; simp; omega
    · have := rgN_mem.mp h; simp; omega
theorem part_ok {B n many : Nat} {T : Tab} {ps : List Nat} (t : TabB B n T) (h : ps.length = n) (hi : ∀ p ∈ ps, p < many) : PartOk B many (T, ps) :=
  ⟨by rw [show (T, ps).1 = T from rfl, t.rows]; exact t, by show T.length ≤ ps.length; rw [t.rows, h]; exact Nat.le_refl _, hi⟩
theorem ahead_len (w : Nat) : (aheadN w).length = 2 * w + 1 := by simp [aheadN, rgN_len]
theorem later_len (w : Nat) : (laterN w).length = 2 * w + 1 := by simp [laterN, rgN_len]
theorem ahead_lt (w : Nat) : ∀ p ∈ aheadN w, p < 3 * w + 1 := fun p hp => by
  rcases List.mem_append.mp hp with h | h
  · have := rgN_mem.mp h; omega
  · rw [List.mem_singleton] at h; omega
theorem later_lt (w : Nat) : ∀ p ∈ laterN w, p < 3 * w + 1 := fun p hp => by have := rgN_mem.mp hp; omega
theorem mul2 {i : Int} : IntMulOk 2 i := mulL (by decide) (by decide)
theorem mul3 {i : Int} : IntMulOk 3 i := mulL (by decide) (by decide)
theorem two_ok {P : Part → Prop} {x y : Part} (h1 : P x) (h2 : P y) : ∀ z ∈ [x, y], P z := fun z hz => by
  simp only [List.mem_cons, List.not_mem_nil, or_false] at hz
  rcases hz with rfl | rfl <;> assumption
theorem s_behind {sp so : Sp3} (kp : SPut sp) (ko : SOnly so) : SBehind (spOf 2 5 (behindR sp so)) := by
  refine ⟨fun w B T U Q E hw tT tU hB q => ⟨rfl, ?_⟩, fun d e Q E h q => ⟨rfl, ?_⟩⟩
  · show behindR sp so E _ [some (tabD T), some (tabD U), none, none, none] M0
    unfold behindR
    have s0 : (0 : Nat) ≤ sizeLine := Nat.zero_le _
    have big : (1001 : Nat) ≤ sizeLine := by decide
    rw [st_seq, st_if]
    simp only [ex_c, ex_var, ex_op, ex_un, ex_b, ex_and, ex_or, ex_not, ex_andV, ex_orV, ex_notV, ex_if, ex_chain, ex_nil, ex_cons, ex_tup, ex_lst, ex_call, ex_callP, ex_cb, ex_bm, ex_rep, ex_sl, ex_noPart, ex_part, ex_yes, it_items, it_rng1, it_rng2, tg_name, tg_sub, tg_tup, tg_cons, tg_nil, gs_0, gs_s, ss_0, ss_s, op_ii, op_ss, op_tt, op_mm, op_sb, op_ng, op_iNf, op_iNt, op_lle, op_ixT, op_ixR, op_ixL, op_putE, op_appE, it_tupE, it_rolE, it_refE, lstOf_l, exL, asS_some, asI_int, asB_bl, asL_some, asN_some, ite3_t, ite3_f, bl_1, bl_lenT, bl_lenR, bl_lenL, bl_lenS, bl_tuple, bl_list, bl_abs, bl_intI, bl_intB, bl_max, bl_min, op_eqSf, op_eqSt, op_eqIf, op_eqIt, op_eqTf, op_eqTt, op_eqRf, op_eqRt, op_eqNf, op_eqNt, eqD_int, eqD_nil, pl_int, pl_nil, pl_non, pl_rnil, pl_bl, sl_tupE, sl_rolE, keep_ref, keep_tup, keep_rol, tp_int, tp_tup, tp_rol, tp_str, tp_bl, tp_non, tp_ref, oFd, oMd, oPw, oShl, oLt, oLe, oGt, oGe, op_in, op_cp, wipe_nil, wipe_cons, mset_same, true_and, and_true, isN_int, ex_lstF, ex_repF, ex_lgF1, ex_lgF2, ex_tupRg1, ex_tupRg2, ex_frz, ex_slF, ex_slM, sl_tupF, sl_rolF, op_iiF, op_ssF, op_ttF, op_rrF, op_rrM, op_mmF, op_repF, li_rol, li_ref, bl_listF, bl_allF, bl_anyF, asT_some, asJ_some, op_eqBf, op_eqBt, isN_non, Bool.not_true, Bool.not_false, rep2, eq_tab tT.sq (Nat.succ_pos _), eq_tab tU.sq (Nat.succ_pos _)]
    refine ⟨s0, s0, ?_⟩
    rw [st_next]
    try dsimp only
    rw [st_seq, st_set]
    simp only [ex_c, ex_var, ex_op, ex_un, ex_b, ex_and, ex_or, ex_not, ex_andV, ex_orV, ex_notV, ex_if, ex_chain, ex_nil, ex_cons, ex_tup, ex_lst, ex_call, ex_callP, ex_cb, ex_bm, ex_rep, ex_sl, ex_noPart, ex_part, ex_yes, it_items, it_rng1, it_rng2, tg_name, tg_sub, tg_tup, tg_cons, tg_nil, gs_0, gs_s, ss_0, ss_s, op_ii, op_ss, op_tt, op_mm, op_sb, op_ng, op_iNf, op_iNt, op_lle, op_ixT, op_ixR, op_ixL, op_putE, op_appE, it_tupE, it_rolE, it_refE, lstOf_l, exL, asS_some, asI_int, asB_bl, asL_some, asN_some, ite3_t, ite3_f, bl_1, bl_lenT, bl_lenR, bl_lenL, bl_lenS, bl_tuple, bl_list, bl_abs, bl_intI, bl_intB, bl_max, bl_min, op_eqSf, op_eqSt, op_eqIf, op_eqIt, op_eqTf, op_eqTt, op_eqRf, op_eqRt, op_eqNf, op_eqNt, eqD_int, eqD_nil, pl_int, pl_nil, pl_non, pl_rnil, pl_bl, sl_tupE, sl_rolE, keep_ref, keep_tup, keep_rol, tp_int, tp_tup, tp_rol, tp_str, tp_bl, tp_non, tp_ref, oFd, oMd, oPw, oShl, oLt, oLe, oGt, oGe, op_in, op_cp, wipe_nil, wipe_cons, mset_same, true_and, and_true, isN_int, ex_lstF, ex_repF, ex_lgF1, ex_lgF2, ex_tupRg1, ex_tupRg2, ex_frz, ex_slF, ex_slM, sl_tupF, sl_rolF, op_iiF, op_ssF, op_ttF, op_rrF, op_rrM, op_mmF, op_repF, li_rol, li_ref, bl_listF, bl_allF, bl_anyF, asT_some, asJ_some, op_eqBf, op_eqBt, isN_non, Bool.not_true, Bool.not_false, rep2, len_tab tT.sq, fd2]
    refine ⟨⟨by decide, by decide⟩, ?_⟩
    try dsimp only
    rw [st_seq, st_set]
    simp only [ex_c, ex_var, ex_op, ex_un, ex_b, ex_and, ex_or, ex_not, ex_andV, ex_orV, ex_notV, ex_if, ex_chain, ex_nil, ex_cons, ex_tup, ex_lst, ex_call, ex_callP, ex_cb, ex_bm, ex_rep, ex_sl, ex_noPart, ex_part, ex_yes, it_items, it_rng1, it_rng2, tg_name, tg_sub, tg_tup, tg_cons, tg_nil, gs_0, gs_s, ss_0, ss_s, op_ii, op_ss, op_tt, op_mm, op_sb, op_ng, op_iNf, op_iNt, op_lle, op_ixT, op_ixR, op_ixL, op_putE, op_appE, it_tupE, it_rolE, it_refE, lstOf_l, exL, asS_some, asI_int, asB_bl, asL_some, asN_some, ite3_t, ite3_f, bl_1, bl_lenT, bl_lenR, bl_lenL, bl_lenS, bl_tuple, bl_list, bl_abs, bl_intI, bl_intB, bl_max, bl_min, op_eqSf, op_eqSt, op_eqIf, op_eqIt, op_eqTf, op_eqTt, op_eqRf, op_eqRt, op_eqNf, op_eqNt, eqD_int, eqD_nil, pl_int, pl_nil, pl_non, pl_rnil, pl_bl, sl_tupE, sl_rolE, keep_ref, keep_tup, keep_rol, tp_int, tp_tup, tp_rol, tp_str, tp_bl, tp_non, tp_ref, oFd, oMd, oPw, oShl, oLt, oLe, oGt, oGe, op_in, op_cp, wipe_nil, wipe_cons, mset_same, true_and, and_true, isN_int, ex_lstF, ex_repF, ex_lgF1, ex_lgF2, ex_tupRg1, ex_tupRg2, ex_frz, ex_slF, ex_slM, sl_tupF, sl_rolF, op_iiF, op_ssF, op_ttF, op_rrF, op_rrM, op_mmF, op_repF, li_rol, li_ref, bl_listF, bl_allF, bl_anyF, asT_some, asJ_some, op_eqBf, op_eqBt, isN_non, Bool.not_true, Bool.not_false, rep2, toN2, rgD_N, one_3, plD_app]
    refine ⟨mul2, ⟨by omega, by omega⟩, mul3, by show 1 ≤ sizeLine; omega, by rw [plD_len, plD_len, rgN_len]; show _ + 1 ≤ sizeLine; omega, ?_⟩
    try dsimp only
    rw [st_seq, st_set]
    have e1 : (3 * (w : Int) + 1 - (w : Int)).toNat = 2 * w + 1 := by omega
    simp only [ex_c, ex_var, ex_op, ex_un, ex_b, ex_and, ex_or, ex_not, ex_andV, ex_orV, ex_notV, ex_if, ex_chain, ex_nil, ex_cons, ex_tup, ex_lst, ex_call, ex_callP, ex_cb, ex_bm, ex_rep, ex_sl, ex_noPart, ex_part, ex_yes, it_items, it_rng1, it_rng2, tg_name, tg_sub, tg_tup, tg_cons, tg_nil, gs_0, gs_s, ss_0, ss_s, op_ii, op_ss, op_tt, op_mm, op_sb, op_ng, op_iNf, op_iNt, op_lle, op_ixT, op_ixR, op_ixL, op_putE, op_appE, it_tupE, it_rolE, it_refE, lstOf_l, exL, asS_some, asI_int, asB_bl, asL_some, asN_some, ite3_t, ite3_f, bl_1, bl_lenT, bl_lenR, bl_lenL, bl_lenS, bl_tuple, bl_list, bl_abs, bl_intI, bl_intB, bl_max, bl_min, op_eqSf, op_eqSt, op_eqIf, op_eqIt, op_eqTf, op_eqTt, op_eqRf, op_eqRt, op_eqNf, op_eqNt, eqD_int, eqD_nil, pl_int, pl_nil, pl_non, pl_rnil, pl_bl, sl_tupE, sl_rolE, keep_ref, keep_tup, keep_rol, tp_int, tp_tup, tp_rol, tp_str, tp_bl, tp_non, tp_ref, oFd, oMd, oPw, oShl, oLt, oLe, oGt, oGe, op_in, op_cp, wipe_nil, wipe_cons, mset_same, true_and, and_true, isN_int, ex_lstF, ex_repF, ex_lgF1, ex_lgF2, ex_tupRg1, ex_tupRg2, ex_frz, ex_slF, ex_slM, sl_tupF, sl_rolF, op_iiF, op_ssF, op_ttF, op_rrF, op_rrM, op_mmF, op_repF, li_rol, li_ref, bl_listF, bl_allF, bl_anyF, asT_some, asJ_some, op_eqBf, op_eqBt, isN_non, Bool.not_true, Bool.not_false, rep2, e1, rgD_Nw]
    refine ⟨mul3, by show 2 ≤ sizeLine; omega, mul3, ⟨by omega, by omega, by omega, by omega, by omega⟩, by show 2 ≤ sizeLine; omega, by show 2 ≤ sizeLine; omega, ?_⟩
    refine kp _ B [(T, aheadN w), (U, laterN w)] _ _ _ (by omega) (by omega) rfl (two_parts ⟨_, rfl, .inr rfl⟩ ⟨_, rfl, .inr rfl⟩) ?_ fun X M hX => ?_
    · rw [toN31]
      exact two_ok (part_ok tT (ahead_len w) (ahead_lt w)) (part_ok tU (later_len w) (later_lt w))
    rw [toN31] at hX
    try dsimp only
    rw [st_ret]
    have e2 : (3 * (w : Int) - 2 * (w : Int)).toNat = w := by omega
    simp only [ex_c, ex_var, ex_op, ex_un, ex_b, ex_and, ex_or, ex_not, ex_andV, ex_orV, ex_notV, ex_if, ex_chain, ex_nil, ex_cons, ex_tup, ex_lst, ex_call, ex_callP, ex_cb, ex_bm, ex_rep, ex_sl, ex_noPart, ex_part, ex_yes, it_items, it_rng1, it_rng2, tg_name, tg_sub, tg_tup, tg_cons, tg_nil, gs_0, gs_s, ss_0, ss_s, op_ii, op_ss, op_tt, op_mm, op_sb, op_ng, op_iNf, op_iNt, op_lle, op_ixT, op_ixR, op_ixL, op_putE, op_appE, it_tupE, it_rolE, it_refE, lstOf_l, exL, asS_some, asI_int, asB_bl, asL_some, asN_some, ite3_t, ite3_f, bl_1, bl_lenT, bl_lenR, bl_lenL, bl_lenS, bl_tuple, bl_list, bl_abs, bl_intI, bl_intB, bl_max, bl_min, op_eqSf, op_eqSt, op_eqIf, op_eqIt, op_eqTf, op_eqTt, op_eqRf, op_eqRt, op_eqNf, op_eqNt, eqD_int, eqD_nil, pl_int, pl_nil, pl_non, pl_rnil, pl_bl, sl_tupE, sl_rolE, keep_ref, keep_tup, keep_rol, tp_int, tp_tup, tp_rol, tp_str, tp_bl, tp_non, tp_ref, oFd, oMd, oPw, oShl, oLt, oLe, oGt, oGe, op_in, op_cp, wipe_nil, wipe_cons, mset_same, true_and, and_true, isN_int, ex_lstF, ex_repF, ex_lgF1, ex_lgF2, ex_tupRg1, ex_tupRg2, ex_frz, ex_slF, ex_slM, sl_tupF, sl_rolF, op_iiF, op_ssF, op_ttF, op_rrF, op_rrM, op_mmF, op_repF, li_rol, li_ref, bl_listF, bl_allF, bl_anyF, asT_some, asJ_some, op_eqBf, op_eqBt, isN_non, Bool.not_true, Bool.not_false, rep2, e2, Int.toNat_natCast, rgD_N, rgD_2w, plD_app]
    refine ⟨⟨by omega, by omega⟩, mul2, mul3, ⟨by omega, by omega, by omega, by omega, by omega⟩, by rw [plD_len, plD_len, rgN_len, rgN_len]; omega, ?_⟩
    refine ko.t (3 * w + 1) B X (rgN 0 w ++ rgN (2 * w) w) _ _ _ (by omega) (by omega) hX.tb hB .t (fun p hp => ?_) (by simp [rgN_len]; omega) fun d M hd => ?_
    · rcases List.mem_append.mp hp with h | h
      · have := rgN_mem.mp h; omega
      · have := rgN_mem.mp h; omega
    · rw [kept_behind] at hd
      exact q X d _ hX hd
  · show behindR sp so E _ [some d, some e, none, none, none] M0
    unfold behindR
    rw [st_seq, st_if]
    rcases h with ⟨rfl, h⟩ | ⟨rfl, n, T, rfl, sq, hn⟩
    · simp only [ex_c, ex_var, ex_op, ex_un, ex_b, ex_and, ex_or, ex_not, ex_andV, ex_orV, ex_notV, ex_if, ex_chain, ex_nil, ex_cons, ex_tup, ex_lst, ex_call, ex_callP, ex_cb, ex_bm, ex_rep, ex_sl, ex_noPart, ex_part, ex_yes, it_items, it_rng1, it_rng2, tg_name, tg_sub, tg_tup, tg_cons, tg_nil, gs_0, gs_s, ss_0, ss_s, op_ii, op_ss, op_tt, op_mm, op_sb, op_ng, op_iNf, op_iNt, op_lle, op_ixT, op_ixR, op_ixL, op_putE, op_appE, it_tupE, it_rolE, it_refE, lstOf_l, exL, asS_some, asI_int, asB_bl, asL_some, asN_some, ite3_t, ite3_f, bl_1, bl_lenT, bl_lenR, bl_lenL, bl_lenS, bl_tuple, bl_list, bl_abs, bl_intI, bl_intB, bl_max, bl_min, op_eqSf, op_eqSt, op_eqIf, op_eqIt, op_eqTf, op_eqTt, op_eqRf, op_eqRt, op_eqNf, op_eqNt, eqD_int, eqD_nil, pl_int, pl_nil, pl_non, pl_rnil, pl_bl, sl_tupE, sl_rolE, keep_ref, keep_tup, keep_rol, tp_int, tp_tup, tp_rol, tp_str, tp_bl, tp_non, tp_ref, oFd, oMd, oPw, oShl, oLt, oLe, oGt, oGe, op_in, op_cp, wipe_nil, wipe_cons, mset_same, true_and, and_true, isN_int, ex_lstF, ex_repF, ex_lgF1, ex_lgF2, ex_tupRg1, ex_tupRg2, ex_frz, ex_slF, ex_slM, sl_tupF, sl_rolF, op_iiF, op_ssF, op_ttF, op_rrF, op_rrM, op_mmF, op_repF, li_rol, li_ref, bl_listF, bl_allF, bl_anyF, asT_some, asJ_some, op_eqBf, op_eqBt, isN_non, Bool.not_true, Bool.not_false, rep2, eq_nil]
      simp only [st_ret]
      simp only [st_seq, st_next, st_break, st_cont, st_set, st_ret, st_retN, st_drop, st_if, st_asg, st_par, st_for, ex_c, ex_var, ex_op, ex_un, ex_b, ex_and, ex_or, ex_not, ex_andV, ex_orV, ex_notV, ex_if, ex_chain, ex_nil, ex_cons, ex_tup, ex_lst, ex_call, ex_callP, ex_cb, ex_bm, ex_rep, ex_lc, ex_sl, ex_noPart, ex_part, ex_yes, it_items, it_rng1, it_rng2, tg_name, tg_sub, tg_tup, tg_cons, tg_nil, gs_0, gs_s, ss_0, ss_s, op_ii, op_ss, op_tt, op_mm, op_sb, op_ng, op_iNf, op_iNt, op_lle, op_ixT, op_ixR, op_ixL, op_putE, op_appE, it_tupE, it_rolE, it_refE, lstOf_l, exL, asS_some, asI_int, asB_bl, asL_some, asN_some, ite3_t, ite3_f, bl_1, bl_lenT, bl_lenR, bl_lenL, bl_lenS, bl_tuple, bl_list, bl_abs, bl_intI, bl_intB, bl_max, bl_min, bl_repr, op_eqSf, op_eqSt, op_eqIf, op_eqIt, op_eqTf, op_eqTt, op_eqRf, op_eqRt, op_eqNf, op_eqNt, eqD_int, eqD_nil, pl_int, pl_nil, pl_non, pl_rnil, pl_bl, sl_tupE, sl_rolE, keep_ref, keep_tup, keep_rol, tp_int, tp_tup, tp_rol, tp_str, tp_bl, tp_non, tp_ref, oFd, oMd, oPw, oShl, oLt, oLe, oGt, oGe, op_in, op_cp, wipe_nil, wipe_cons, mset_same, true_and, and_true, isN_int, sz_0, sz_1, sz_2, sz_3, sz_4, sz_5, sz_6, sz_7, sz_8, sz_9, sz_10, sz_11, sz_12, ex_lstF, ex_repF, ex_lgF1, ex_lgF2, ex_tupRg1, ex_tupRg2, ex_lcF, ex_frz, ex_slF, ex_slM, sl_tupF, sl_rolF, op_iiF, op_ssF, op_ttF, op_rrF, op_rrM, op_mmF, op_repF, li_rol, li_ref, bl_listF, bl_allF, bl_anyF, asT_some, asJ_some, op_eqLf, op_eqLt, op_eqBf, op_eqBt, isN_non, Bool.not_true, Bool.not_false]
      exact q _
    · simp only [ex_c, ex_var, ex_op, ex_un, ex_b, ex_and, ex_or, ex_not, ex_andV, ex_orV, ex_notV, ex_if, ex_chain, ex_nil, ex_cons, ex_tup, ex_lst, ex_call, ex_callP, ex_cb, ex_bm, ex_rep, ex_sl, ex_noPart, ex_part, ex_yes, it_items, it_rng1, it_rng2, tg_name, tg_sub, tg_tup, tg_cons, tg_nil, gs_0, gs_s, ss_0, ss_s, op_ii, op_ss, op_tt, op_mm, op_sb, op_ng, op_iNf, op_iNt, op_lle, op_ixT, op_ixR, op_ixL, op_putE, op_appE, it_tupE, it_rolE, it_refE, lstOf_l, exL, asS_some, asI_int, asB_bl, asL_some, asN_some, ite3_t, ite3_f, bl_1, bl_lenT, bl_lenR, bl_lenL, bl_lenS, bl_tuple, bl_list, bl_abs, bl_intI, bl_intB, bl_max, bl_min, op_eqSf, op_eqSt, op_eqIf, op_eqIt, op_eqTf, op_eqTt, op_eqRf, op_eqRt, op_eqNf, op_eqNt, eqD_int, eqD_nil, pl_int, pl_nil, pl_non, pl_rnil, pl_bl, sl_tupE, sl_rolE, keep_ref, keep_tup, keep_rol, tp_int, tp_tup, tp_rol, tp_str, tp_bl, tp_non, tp_ref, oFd, oMd, oPw, oShl, oLt, oLe, oGt, oGe, op_in, op_cp, wipe_nil, wipe_cons, mset_same, true_and, and_true, isN_int, ex_lstF, ex_repF, ex_lgF1, ex_lgF2, ex_tupRg1, ex_tupRg2, ex_frz, ex_slF, ex_slM, sl_tupF, sl_rolF, op_iiF, op_ssF, op_ttF, op_rrF, op_rrM, op_mmF, op_repF, li_rol, li_ref, bl_listF, bl_allF, bl_anyF, asT_some, asJ_some, op_eqBf, op_eqBt, isN_non, Bool.not_true, Bool.not_false, rep2, eq_tab sq hn, eq_nil]
      simp only [st_ret]
      simp only [st_seq, st_next, st_break, st_cont, st_set, st_ret, st_retN, st_drop, st_if, st_asg, st_par, st_for, ex_c, ex_var, ex_op, ex_un, ex_b, ex_and, ex_or, ex_not, ex_andV, ex_orV, ex_notV, ex_if, ex_chain, ex_nil, ex_cons, ex_tup, ex_lst, ex_call, ex_callP, ex_cb, ex_bm, ex_rep, ex_lc, ex_sl, ex_noPart, ex_part, ex_yes, it_items, it_rng1, it_rng2, tg_name, tg_sub, tg_tup, tg_cons, tg_nil, gs_0, gs_s, ss_0, ss_s, op_ii, op_ss, op_tt, op_mm, op_sb, op_ng, op_iNf, op_iNt, op_lle, op_ixT, op_ixR, op_ixL, op_putE, op_appE, it_tupE, it_rolE, it_refE, lstOf_l, exL, asS_some, asI_int, asB_bl, asL_some, asN_some, ite3_t, ite3_f, bl_1, bl_lenT, bl_lenR, bl_lenL, bl_lenS, bl_tuple, bl_list, bl_abs, bl_intI, bl_intB, bl_max, bl_min, bl_repr, op_eqSf, op_eqSt, op_eqIf, op_eqIt, op_eqTf, op_eqTt, op_eqRf, op_eqRt, op_eqNf, op_eqNt, eqD_int, eqD_nil, pl_int, pl_nil, pl_non, pl_rnil, pl_bl, sl_tupE, sl_rolE, keep_ref, keep_tup, keep_rol, tp_int, tp_tup, tp_rol, tp_str, tp_bl, tp_non, tp_ref, oFd, oMd, oPw, oShl, oLt, oLe, oGt, oGe, op_in, op_cp, wipe_nil, wipe_cons, mset_same, true_and, and_true, isN_int, sz_0, sz_1, sz_2, sz_3, sz_4, sz_5, sz_6, sz_7, sz_8, sz_9, sz_10, sz_11, sz_12, ex_lstF, ex_repF, ex_lgF1, ex_lgF2, ex_tupRg1, ex_tupRg2, ex_lcF, ex_frz, ex_slF, ex_slM, sl_tupF, sl_rolF, op_iiF, op_ssF, op_ttF, op_rrF, op_rrM, op_mmF, op_repF, li_rol, li_ref, bl_listF, bl_allF, bl_anyF, asT_some, asJ_some, op_eqLf, op_eqLt, op_eqBf, op_eqBt, isN_non, Bool.not_true, Bool.not_false]
      exact q _
def placesOfR : XK3 → TS3 := fun E =>
  (wRet (wOp oAddF (wLstRgF2 (wVar 1) (wOp oAddF (wVar 1) (wVar 0))) (wLstF (wCons (wOp oMulF (wC (.int 2)) (wVar 0)) wNil))))
def placesN (w f : Nat) : List Nat := rgN f w ++ [2 * w]
def SPlaces (sp : Sp3) : Prop := ∀ (w f : Nat) (Q : VK3) (E : XK3), w ≤ 1000 → f ≤ 1000 → (∀ M, Q (.rol (plD (placesN w f))) M) → sp [.int w, .int f] M0 Q E
theorem s_places : SPlaces (spOf 2 2 placesOfR) := by
  refine fun w f Q E hw hf q => ⟨rfl, ?_⟩
  show placesOfR E _ [some (.int w), some (.int f)] M0
  unfold placesOfR
  have big : (1001 : Nat) ≤ sizeLine := by decide
  have e : ((f : Int) + (w : Int) - (f : Int)).toNat = w := by omega
  rw [st_ret]
  simp only [ex_c, ex_var, ex_op, ex_un, ex_b, ex_and, ex_or, ex_not, ex_andV, ex_orV, ex_notV, ex_if, ex_chain, ex_nil, ex_cons, ex_tup, ex_lst, ex_call, ex_callP, ex_cb, ex_bm, ex_rep, ex_sl, ex_noPart, ex_part, ex_yes, it_items, it_rng1, it_rng2, tg_name, tg_sub, tg_tup, tg_cons, tg_nil, gs_0, gs_s, ss_0, ss_s, op_ii, op_ss, op_tt, op_mm, op_sb, op_ng, op_iNf, op_iNt, op_lle, op_ixT, op_ixR, op_ixL, op_putE, op_appE, it_tupE, it_rolE, it_refE, lstOf_l, exL, asS_some, asI_int, asB_bl, asL_some, asN_some, ite3_t, ite3_f, bl_1, bl_lenT, bl_lenR, bl_lenL, bl_lenS, bl_tuple, bl_list, bl_abs, bl_intI, bl_intB, bl_max, bl_min, op_eqSf, op_eqSt, op_eqIf, op_eqIt, op_eqTf, op_eqTt, op_eqRf, op_eqRt, op_eqNf, op_eqNt, eqD_int, eqD_nil, pl_int, pl_nil, pl_non, pl_rnil, pl_bl, sl_tupE, sl_rolE, keep_ref, keep_tup, keep_rol, tp_int, tp_tup, tp_rol, tp_str, tp_bl, tp_non, tp_ref, oFd, oMd, oPw, oShl, oLt, oLe, oGt, oGe, op_in, op_cp, wipe_nil, wipe_cons, mset_same, true_and, and_true, isN_int, ex_lstF, ex_repF, ex_lgF1, ex_lgF2, ex_tupRg1, ex_tupRg2, ex_frz, ex_slF, ex_slM, sl_tupF, sl_rolF, op_iiF, op_ssF, op_ttF, op_rrF, op_rrM, op_mmF, op_repF, li_rol, li_ref, bl_listF, bl_allF, bl_anyF, asT_some, asJ_some, op_eqBf, op_eqBt, isN_non, Bool.not_true, Bool.not_false, rep2, e, rgD_Nw, one_2, plD_app]
  exact ⟨⟨by omega, by omega, by omega, by omega, by omega⟩, mul2, by show 1 ≤ sizeLine; omega, by rw [plD_len, plD_len, rgN_len]; show _ + 1 ≤ sizeLine; omega, q _⟩
theorem places_len (w f : Nat) : (placesN w f).length = w + 1 := by simp [placesN, rgN_len]
theorem places_lt (w f : Nat) (h : f + w ≤ 2 * w) : ∀ p ∈ placesN w f, p < 2 * w + 1 := fun p hp => by
  rcases List.mem_append.mp hp with h | h
  · have := rgN_mem.mp h; omega
  · rw [List.mem_singleton] at h; omega
def allN (w : Nat) : List Nat := rgN 0 (2 * w + 1)
theorem all_len (w : Nat) : (allN w).length = 2 * w + 1 := rgN_len
theorem all_lt (w : Nat) : ∀ p ∈ allN w, p < 2 * w + 1 := fun p hp => by have := rgN_mem.mp hp; omega
def oldsR (sp_put_together : Sp3) (sp_places_of : Sp3) (sp_only : Sp3) : XK3 → TS3 := fun E =>
  (wSeq (wIfS (wOr (wB (wOp (oEq false) (wVar 1) (wTup wNil))) (wB (wOp (oEq false) (wVar 0) (wTup wNil)))) (wRet (wTup wNil)) wNext)
  (wSeq (wSet 2 (wOp oFd (wCB bLen (wCons (wVar 0) wNil)) (wC (.int 2))))
  (wSeq (wSet 3 (wCallP sp_put_together E (wCons (wCB bLen (wCons (wVar 0) wNil)) (wCons (wLstF (wCons (wTup (wCons (wVar 0) (wCons (wLstRgF1 (wCB bLen (wCons (wVar 0) wNil))) wNil))) (wCons (wTup (wCons (wVar 1) (wCons (wCallP sp_places_of E (wCons (wVar 2) (wCons (wVar 2) wNil))) wNil))) wNil))) wNil))))
  (wRet (wCallP sp_only E (wCons (wVar 3) (wCons (wTupRg1 (wVar 2)) wNil)))))))
def keptOlds (w : Nat) : List Nat := rgN 0 w ++ [2 * w]
theorem kept_olds (w : Nat) : keptOf (2 * w + 1) (rgN 0 w) = keptOlds w := by
  unfold keptOf keptOlds
  rw [List.filter_eq_self.mpr fun p hp => ?_]
  · rfl
  · have := rgN_mem.mp hp; simp; omega
/-- () or a table -/
def NilOr (d : D) : Prop := d = .tup [] ∨ ∃ n T, d = tabD T ∧ Sq n T ∧ 0 < n
structure SOlds (sp : Sp3) : Prop where
  t : ∀ (w B : Nat) (F T : Tab) (Q : VK3) (E : XK3), w ≤ 100 → TabB B (w + 1) F → TabB B (2 * w + 1) T → 0 < B →
    (∀ X d M, PutIs B (2 * w + 1) [(T, allN w), (F, placesN w w)] X → OnlyOf (2 * w + 1) B X (keptOlds w) d → Q d M) → sp [tabD T, tabD F] M0 Q E
  n1 : ∀ (e : D) (Q : VK3) (E : XK3), NilOr e → (∀ M, Q (.tup []) M) → sp [.tup [], e] M0 Q E
  n2 : ∀ (d : D) (Q : VK3) (E : XK3), NilOr d → (∀ M, Q (.tup []) M) → sp [d, .tup []] M0 Q E
theorem s_olds {sp sl so : Sp3} (kp : SPut sp) (kl : SPlaces sl) (ko : SOnly so) : SOlds (spOf 2 4 (oldsR sp sl so)) := by
  have s0 : (0 : Nat) ≤ sizeLine := Nat.zero_le _
  have big : (1001 : Nat) ≤ sizeLine := by decide
  refine ⟨fun w B F T Q E hw tF tT hB q => ⟨rfl, ?_⟩, fun e Q E h q => ⟨rfl, ?_⟩, fun d Q E h q => ⟨rfl, ?_⟩⟩
  · show oldsR sp sl so E _ [some (tabD T), some (tabD F), none, none] M0
    unfold oldsR
    rw [st_seq, st_if]
    simp only [ex_c, ex_var, ex_op, ex_un, ex_b, ex_and, ex_or, ex_not, ex_andV, ex_orV, ex_notV, ex_if, ex_chain, ex_nil, ex_cons, ex_tup, ex_lst, ex_call, ex_callP, ex_cb, ex_bm, ex_rep, ex_sl, ex_noPart, ex_part, ex_yes, it_items, it_rng1, it_rng2, tg_name, tg_sub, tg_tup, tg_cons, tg_nil, gs_0, gs_s, ss_0, ss_s, op_ii, op_ss, op_tt, op_mm, op_sb, op_ng, op_iNf, op_iNt, op_lle, op_ixT, op_ixR, op_ixL, op_putE, op_appE, it_tupE, it_rolE, it_refE, lstOf_l, exL, asS_some, asI_int, asB_bl, asL_some, asN_some, ite3_t, ite3_f, bl_1, bl_lenT, bl_lenR, bl_lenL, bl_lenS, bl_tuple, bl_list, bl_abs, bl_intI, bl_intB, bl_max, bl_min, op_eqSf, op_eqSt, op_eqIf, op_eqIt, op_eqTf, op_eqTt, op_eqRf, op_eqRt, op_eqNf, op_eqNt, eqD_int, eqD_nil, pl_int, pl_nil, pl_non, pl_rnil, pl_bl, sl_tupE, sl_rolE, keep_ref, keep_tup, keep_rol, tp_int, tp_tup, tp_rol, tp_str, tp_bl, tp_non, tp_ref, oFd, oMd, oPw, oShl, oLt, oLe, oGt, oGe, op_in, op_cp, wipe_nil, wipe_cons, mset_same, true_and, and_true, isN_int, ex_lstF, ex_repF, ex_lgF1, ex_lgF2, ex_tupRg1, ex_tupRg2, ex_frz, ex_slF, ex_slM, sl_tupF, sl_rolF, op_iiF, op_ssF, op_ttF, op_rrF, op_rrM, op_mmF, op_repF, li_rol, li_ref, bl_listF, bl_allF, bl_anyF, asT_some, asJ_some, op_eqBf, op_eqBt, isN_non, Bool.not_true, Bool.not_false, rep2, eq_tab tF.sq (Nat.succ_pos _), eq_tab tT.sq (Nat.succ_pos _)]
    refine ⟨s0, s0, ?_⟩
    rw [st_next]
    try dsimp only
    rw [st_seq, st_set]
    simp only [ex_c, ex_var, ex_op, ex_un, ex_b, ex_and, ex_or, ex_not, ex_andV, ex_orV, ex_notV, ex_if, ex_chain, ex_nil, ex_cons, ex_tup, ex_lst, ex_call, ex_callP, ex_cb, ex_bm, ex_rep, ex_sl, ex_noPart, ex_part, ex_yes, it_items, it_rng1, it_rng2, tg_name, tg_sub, tg_tup, tg_cons, tg_nil, gs_0, gs_s, ss_0, ss_s, op_ii, op_ss, op_tt, op_mm, op_sb, op_ng, op_iNf, op_iNt, op_lle, op_ixT, op_ixR, op_ixL, op_putE, op_appE, it_tupE, it_rolE, it_refE, lstOf_l, exL, asS_some, asI_int, asB_bl, asL_some, asN_some, ite3_t, ite3_f, bl_1, bl_lenT, bl_lenR, bl_lenL, bl_lenS, bl_tuple, bl_list, bl_abs, bl_intI, bl_intB, bl_max, bl_min, op_eqSf, op_eqSt, op_eqIf, op_eqIt, op_eqTf, op_eqTt, op_eqRf, op_eqRt, op_eqNf, op_eqNt, eqD_int, eqD_nil, pl_int, pl_nil, pl_non, pl_rnil, pl_bl, sl_tupE, sl_rolE, keep_ref, keep_tup, keep_rol, tp_int, tp_tup, tp_rol, tp_str, tp_bl, tp_non, tp_ref, oFd, oMd, oPw, oShl, oLt, oLe, oGt, oGe, op_in, op_cp, wipe_nil, wipe_cons, mset_same, true_and, and_true, isN_int, ex_lstF, ex_repF, ex_lgF1, ex_lgF2, ex_tupRg1, ex_tupRg2, ex_frz, ex_slF, ex_slM, sl_tupF, sl_rolF, op_iiF, op_ssF, op_ttF, op_rrF, op_rrM, op_mmF, op_repF, li_rol, li_ref, bl_listF, bl_allF, bl_anyF, asT_some, asJ_some, op_eqBf, op_eqBt, isN_non, Bool.not_true, Bool.not_false, rep2, len_tab tT.sq, fd2]
    refine ⟨⟨by decide, by decide⟩, ?_⟩
    try dsimp only
    rw [st_seq, st_set]
    simp only [ex_c, ex_var, ex_op, ex_un, ex_b, ex_and, ex_or, ex_not, ex_andV, ex_orV, ex_notV, ex_if, ex_chain, ex_nil, ex_cons, ex_tup, ex_lst, ex_call, ex_callP, ex_cb, ex_bm, ex_rep, ex_sl, ex_noPart, ex_part, ex_yes, it_items, it_rng1, it_rng2, tg_name, tg_sub, tg_tup, tg_cons, tg_nil, gs_0, gs_s, ss_0, ss_s, op_ii, op_ss, op_tt, op_mm, op_sb, op_ng, op_iNf, op_iNt, op_lle, op_ixT, op_ixR, op_ixL, op_putE, op_appE, it_tupE, it_rolE, it_refE, lstOf_l, exL, asS_some, asI_int, asB_bl, asL_some, asN_some, ite3_t, ite3_f, bl_1, bl_lenT, bl_lenR, bl_lenL, bl_lenS, bl_tuple, bl_list, bl_abs, bl_intI, bl_intB, bl_max, bl_min, op_eqSf, op_eqSt, op_eqIf, op_eqIt, op_eqTf, op_eqTt, op_eqRf, op_eqRt, op_eqNf, op_eqNt, eqD_int, eqD_nil, pl_int, pl_nil, pl_non, pl_rnil, pl_bl, sl_tupE, sl_rolE, keep_ref, keep_tup, keep_rol, tp_int, tp_tup, tp_rol, tp_str, tp_bl, tp_non, tp_ref, oFd, oMd, oPw, oShl, oLt, oLe, oGt, oGe, op_in, op_cp, wipe_nil, wipe_cons, mset_same, true_and, and_true, isN_int, ex_lstF, ex_repF, ex_lgF1, ex_lgF2, ex_tupRg1, ex_tupRg2, ex_frz, ex_slF, ex_slM, sl_tupF, sl_rolF, op_iiF, op_ssF, op_ttF, op_rrF, op_rrM, op_mmF, op_repF, li_rol, li_ref, bl_listF, bl_allF, bl_anyF, asT_some, asJ_some, op_eqBf, op_eqBt, isN_non, Bool.not_true, Bool.not_false, rep2, len_tab tT.sq, Int.toNat_natCast, rgD_N]
    refine ⟨⟨by omega, by omega⟩, by show 2 ≤ sizeLine; omega, kl w w _ _ (by omega) (by omega) fun M => ⟨by show 2 ≤ sizeLine; omega, by show 2 ≤ sizeLine; omega, ?_⟩⟩
    refine kp _ B [(T, allN w), (F, placesN w w)] _ _ _ (by omega) (by omega) rfl (two_parts ⟨_, rfl, .inr rfl⟩ ⟨_, rfl, .inr rfl⟩) ?_ fun X M hX => ?_
    · rw [Int.toNat_natCast]
      exact two_ok (part_ok tT (all_len w) (all_lt w)) (part_ok tF (places_len w w) (places_lt w w (by omega)))
    rw [Int.toNat_natCast] at hX
    try dsimp only
    rw [st_ret]
    simp only [ex_c, ex_var, ex_op, ex_un, ex_b, ex_and, ex_or, ex_not, ex_andV, ex_orV, ex_notV, ex_if, ex_chain, ex_nil, ex_cons, ex_tup, ex_lst, ex_call, ex_callP, ex_cb, ex_bm, ex_rep, ex_sl, ex_noPart, ex_part, ex_yes, it_items, it_rng1, it_rng2, tg_name, tg_sub, tg_tup, tg_cons, tg_nil, gs_0, gs_s, ss_0, ss_s, op_ii, op_ss, op_tt, op_mm, op_sb, op_ng, op_iNf, op_iNt, op_lle, op_ixT, op_ixR, op_ixL, op_putE, op_appE, it_tupE, it_rolE, it_refE, lstOf_l, exL, asS_some, asI_int, asB_bl, asL_some, asN_some, ite3_t, ite3_f, bl_1, bl_lenT, bl_lenR, bl_lenL, bl_lenS, bl_tuple, bl_list, bl_abs, bl_intI, bl_intB, bl_max, bl_min, op_eqSf, op_eqSt, op_eqIf, op_eqIt, op_eqTf, op_eqTt, op_eqRf, op_eqRt, op_eqNf, op_eqNt, eqD_int, eqD_nil, pl_int, pl_nil, pl_non, pl_rnil, pl_bl, sl_tupE, sl_rolE, keep_ref, keep_tup, keep_rol, tp_int, tp_tup, tp_rol, tp_str, tp_bl, tp_non, tp_ref, oFd, oMd, oPw, oShl, oLt, oLe, oGt, oGe, op_in, op_cp, wipe_nil, wipe_cons, mset_same, true_and, and_true, isN_int, ex_lstF, ex_repF, ex_lgF1, ex_lgF2, ex_tupRg1, ex_tupRg2, ex_frz, ex_slF, ex_slM, sl_tupF, sl_rolF, op_iiF, op_ssF, op_ttF, op_rrF, op_rrM, op_mmF, op_repF, li_rol, li_ref, bl_listF, bl_allF, bl_anyF, asT_some, asJ_some, op_eqBf, op_eqBt, isN_non, Bool.not_true, Bool.not_false, rep2, Int.toNat_natCast, rgD_N]
    refine ⟨⟨by omega, by omega⟩, ?_⟩
    refine ko.t (2 * w + 1) B X (rgN 0 w) _ _ _ (by omega) (by omega) hX.tb hB .t (fun p hp => by have := rgN_mem.mp hp; omega) (by simp [rgN_len]; omega) fun d M hd => ?_
    rw [kept_olds] at hd
    exact q X d _ hX hd
  · show oldsR sp sl so E _ [some (.tup []), some e, none, none] M0
    unfold oldsR
    rw [st_seq, st_if]
    rcases h with rfl | ⟨n, T, rfl, sq, hn⟩
    · simp only [ex_c, ex_var, ex_op, ex_un, ex_b, ex_and, ex_or, ex_not, ex_andV, ex_orV, ex_notV, ex_if, ex_chain, ex_nil, ex_cons, ex_tup, ex_lst, ex_call, ex_callP, ex_cb, ex_bm, ex_rep, ex_sl, ex_noPart, ex_part, ex_yes, it_items, it_rng1, it_rng2, tg_name, tg_sub, tg_tup, tg_cons, tg_nil, gs_0, gs_s, ss_0, ss_s, op_ii, op_ss, op_tt, op_mm, op_sb, op_ng, op_iNf, op_iNt, op_lle, op_ixT, op_ixR, op_ixL, op_putE, op_appE, it_tupE, it_rolE, it_refE, lstOf_l, exL, asS_some, asI_int, asB_bl, asL_some, asN_some, ite3_t, ite3_f, bl_1, bl_lenT, bl_lenR, bl_lenL, bl_lenS, bl_tuple, bl_list, bl_abs, bl_intI, bl_intB, bl_max, bl_min, op_eqSf, op_eqSt, op_eqIf, op_eqIt, op_eqTf, op_eqTt, op_eqRf, op_eqRt, op_eqNf, op_eqNt, eqD_int, eqD_nil, pl_int, pl_nil, pl_non, pl_rnil, pl_bl, sl_tupE, sl_rolE, keep_ref, keep_tup, keep_rol, tp_int, tp_tup, tp_rol, tp_str, tp_bl, tp_non, tp_ref, oFd, oMd, oPw, oShl, oLt, oLe, oGt, oGe, op_in, op_cp, wipe_nil, wipe_cons, mset_same, true_and, and_true, isN_int, ex_lstF, ex_repF, ex_lgF1, ex_lgF2, ex_tupRg1, ex_tupRg2, ex_frz, ex_slF, ex_slM, sl_tupF, sl_rolF, op_iiF, op_ssF, op_ttF, op_rrF, op_rrM, op_mmF, op_repF, li_rol, li_ref, bl_listF, bl_allF, bl_anyF, asT_some, asJ_some, op_eqBf, op_eqBt, isN_non, Bool.not_true, Bool.not_false, rep2, eq_nil]
      simp only [st_ret]
      simp only [st_seq, st_next, st_break, st_cont, st_set, st_ret, st_retN, st_drop, st_if, st_asg, st_par, st_for, ex_c, ex_var, ex_op, ex_un, ex_b, ex_and, ex_or, ex_not, ex_andV, ex_orV, ex_notV, ex_if, ex_chain, ex_nil, ex_cons, ex_tup, ex_lst, ex_call, ex_callP, ex_cb, ex_bm, ex_rep, ex_lc, ex_sl, ex_noPart, ex_part, ex_yes, it_items, it_rng1, it_rng2, tg_name, tg_sub, tg_tup, tg_cons, tg_nil, gs_0, gs_s, ss_0, ss_s, op_ii, op_ss, op_tt, op_mm, op_sb, op_ng, op_iNf, op_iNt, op_lle, op_ixT, op_ixR, op_ixL, op_putE, op_appE, it_tupE, it_rolE, it_refE, lstOf_l, exL, asS_some, asI_int, asB_bl, asL_some, asN_some, ite3_t, ite3_f, bl_1, bl_lenT, bl_lenR, bl_lenL, bl_lenS, bl_tuple, bl_list, bl_abs, bl_intI, bl_intB, bl_max, bl_min, bl_repr, op_eqSf, op_eqSt, op_eqIf, op_eqIt, op_eqTf, op_eqTt, op_eqRf, op_eqRt, op_eqNf, op_eqNt, eqD_int, eqD_nil, pl_int, pl_nil, pl_non, pl_rnil, pl_bl, sl_tupE, sl_rolE, keep_ref, keep_tup, keep_rol, tp_int, tp_tup, tp_rol, tp_str, tp_bl, tp_non, tp_ref, oFd, oMd, oPw, oShl, oLt, oLe, oGt, oGe, op_in, op_cp, wipe_nil, wipe_cons, mset_same, true_and, and_true, isN_int, sz_0, sz_1, sz_2, sz_3, sz_4, sz_5, sz_6, sz_7, sz_8, sz_9, sz_10, sz_11, sz_12, ex_lstF, ex_repF, ex_lgF1, ex_lgF2, ex_tupRg1, ex_tupRg2, ex_lcF, ex_frz, ex_slF, ex_slM, sl_tupF, sl_rolF, op_iiF, op_ssF, op_ttF, op_rrF, op_rrM, op_mmF, op_repF, li_rol, li_ref, bl_listF, bl_allF, bl_anyF, asT_some, asJ_some, op_eqLf, op_eqLt, op_eqBf, op_eqBt, isN_non, Bool.not_true, Bool.not_false]
      exact q _
    · simp only [ex_c, ex_var, ex_op, ex_un, ex_b, ex_and, ex_or, ex_not, ex_andV, ex_orV, ex_notV, ex_if, ex_chain, ex_nil, ex_cons, ex_tup, ex_lst, ex_call, ex_callP, ex_cb, ex_bm, ex_rep, ex_sl, ex_noPart, ex_part, ex_yes, it_items, it_rng1, it_rng2, tg_name, tg_sub, tg_tup, tg_cons, tg_nil, gs_0, gs_s, ss_0, ss_s, op_ii, op_ss, op_tt, op_mm, op_sb, op_ng, op_iNf, op_iNt, op_lle, op_ixT, op_ixR, op_ixL, op_putE, op_appE, it_tupE, it_rolE, it_refE, lstOf_l, exL, asS_some, asI_int, asB_bl, asL_some, asN_some, ite3_t, ite3_f, bl_1, bl_lenT, bl_lenR, bl_lenL, bl_lenS, bl_tuple, bl_list, bl_abs, bl_intI, bl_intB, bl_max, bl_min, op_eqSf, op_eqSt, op_eqIf, op_eqIt, op_eqTf, op_eqTt, op_eqRf, op_eqRt, op_eqNf, op_eqNt, eqD_int, eqD_nil, pl_int, pl_nil, pl_non, pl_rnil, pl_bl, sl_tupE, sl_rolE, keep_ref, keep_tup, keep_rol, tp_int, tp_tup, tp_rol, tp_str, tp_bl, tp_non, tp_ref, oFd, oMd, oPw, oShl, oLt, oLe, oGt, oGe, op_in, op_cp, wipe_nil, wipe_cons, mset_same, true_and, and_true, isN_int, ex_lstF, ex_repF, ex_lgF1, ex_lgF2, ex_tupRg1, ex_tupRg2, ex_frz, ex_slF, ex_slM, sl_tupF, sl_rolF, op_iiF, op_ssF, op_ttF, op_rrF, op_rrM, op_mmF, op_repF, li_rol, li_ref, bl_listF, bl_allF, bl_anyF, asT_some, asJ_some, op_eqBf, op_eqBt, isN_non, Bool.not_true, Bool.not_false, rep2, eq_tab sq hn, eq_nil]
      simp only [st_ret]
      simp only [st_seq, st_next, st_break, st_cont, st_set, st_ret, st_retN, st_drop, st_if, st_asg, st_par, st_for, ex_c, ex_var, ex_op, ex_un, ex_b, ex_and, ex_or, ex_not, ex_andV, ex_orV, ex_notV, ex_if, ex_chain, ex_nil, ex_cons, ex_tup, ex_lst, ex_call, ex_callP, ex_cb, ex_bm, ex_rep, ex_lc, ex_sl, ex_noPart, ex_part, ex_yes, it_items, it_rng1, it_rng2, tg_name, tg_sub, tg_tup, tg_cons, tg_nil, gs_0, gs_s, ss_0, ss_s, op_ii, op_ss, op_tt, op_mm, op_sb, op_ng, op_iNf, op_iNt, op_lle, op_ixT, op_ixR, op_ixL, op_putE, op_appE, it_tupE, it_rolE, it_refE, lstOf_l, exL, asS_some, asI_int, asB_bl, asL_some, asN_some, ite3_t, ite3_f, bl_1, bl_lenT, bl_lenR, bl_lenL, bl_lenS, bl_tuple, bl_list, bl_abs, bl_intI, bl_intB, bl_max, bl_min, bl_repr, op_eqSf, op_eqSt, op_eqIf, op_eqIt, op_eqTf, op_eqTt, op_eqRf, op_eqRt, op_eqNf, op_eqNt, eqD_int, eqD_nil, pl_int, pl_nil, pl_non, pl_rnil, pl_bl, sl_tupE, sl_rolE, keep_ref, keep_tup, keep_rol, tp_int, tp_tup, tp_rol, tp_str, tp_bl, tp_non, tp_ref, oFd, oMd, oPw, oShl, oLt, oLe, oGt, oGe, op_in, op_cp, wipe_nil, wipe_cons, mset_same, true_and, and_true, isN_int, sz_0, sz_1, sz_2, sz_3, sz_4, sz_5, sz_6, sz_7, sz_8, sz_9, sz_10, sz_11, sz_12, ex_lstF, ex_repF, ex_lgF1, ex_lgF2, ex_tupRg1, ex_tupRg2, ex_lcF, ex_frz, ex_slF, ex_slM, sl_tupF, sl_rolF, op_iiF, op_ssF, op_ttF, op_rrF, op_rrM, op_mmF, op_repF, li_rol, li_ref, bl_listF, bl_allF, bl_anyF, asT_some, asJ_some, op_eqLf, op_eqLt, op_eqBf, op_eqBt, isN_non, Bool.not_true, Bool.not_false]
      exact q _
  · show oldsR sp sl so E _ [some d, some (.tup []), none, none] M0
    unfold oldsR
    rw [st_seq, st_if]
    simp only [ex_c, ex_var, ex_op, ex_un, ex_b, ex_and, ex_or, ex_not, ex_andV, ex_orV, ex_notV, ex_if, ex_chain, ex_nil, ex_cons, ex_tup, ex_lst, ex_call, ex_callP, ex_cb, ex_bm, ex_rep, ex_sl, ex_noPart, ex_part, ex_yes, it_items, it_rng1, it_rng2, tg_name, tg_sub, tg_tup, tg_cons, tg_nil, gs_0, gs_s, ss_0, ss_s, op_ii, op_ss, op_tt, op_mm, op_sb, op_ng, op_iNf, op_iNt, op_lle, op_ixT, op_ixR, op_ixL, op_putE, op_appE, it_tupE, it_rolE, it_refE, lstOf_l, exL, asS_some, asI_int, asB_bl, asL_some, asN_some, ite3_t, ite3_f, bl_1, bl_lenT, bl_lenR, bl_lenL, bl_lenS, bl_tuple, bl_list, bl_abs, bl_intI, bl_intB, bl_max, bl_min, op_eqSf, op_eqSt, op_eqIf, op_eqIt, op_eqTf, op_eqTt, op_eqRf, op_eqRt, op_eqNf, op_eqNt, eqD_int, eqD_nil, pl_int, pl_nil, pl_non, pl_rnil, pl_bl, sl_tupE, sl_rolE, keep_ref, keep_tup, keep_rol, tp_int, tp_tup, tp_rol, tp_str, tp_bl, tp_non, tp_ref, oFd, oMd, oPw, oShl, oLt, oLe, oGt, oGe, op_in, op_cp, wipe_nil, wipe_cons, mset_same, true_and, and_true, isN_int, ex_lstF, ex_repF, ex_lgF1, ex_lgF2, ex_tupRg1, ex_tupRg2, ex_frz, ex_slF, ex_slM, sl_tupF, sl_rolF, op_iiF, op_ssF, op_ttF, op_rrF, op_rrM, op_mmF, op_repF, li_rol, li_ref, bl_listF, bl_allF, bl_anyF, asT_some, asJ_some, op_eqBf, op_eqBt, isN_non, Bool.not_true, Bool.not_false, rep2, eq_nil]
    simp only [st_ret]
    simp only [st_seq, st_next, st_break, st_cont, st_set, st_ret, st_retN, st_drop, st_if, st_asg, st_par, st_for, ex_c, ex_var, ex_op, ex_un, ex_b, ex_and, ex_or, ex_not, ex_andV, ex_orV, ex_notV, ex_if, ex_chain, ex_nil, ex_cons, ex_tup, ex_lst, ex_call, ex_callP, ex_cb, ex_bm, ex_rep, ex_lc, ex_sl, ex_noPart, ex_part, ex_yes, it_items, it_rng1, it_rng2, tg_name, tg_sub, tg_tup, tg_cons, tg_nil, gs_0, gs_s, ss_0, ss_s, op_ii, op_ss, op_tt, op_mm, op_sb, op_ng, op_iNf, op_iNt, op_lle, op_ixT, op_ixR, op_ixL, op_putE, op_appE, it_tupE, it_rolE, it_refE, lstOf_l, exL, asS_some, asI_int, asB_bl, asL_some, asN_some, ite3_t, ite3_f, bl_1, bl_lenT, bl_lenR, bl_lenL, bl_lenS, bl_tuple, bl_list, bl_abs, bl_intI, bl_intB, bl_max, bl_min, bl_repr, op_eqSf, op_eqSt, op_eqIf, op_eqIt, op_eqTf, op_eqTt, op_eqRf, op_eqRt, op_eqNf, op_eqNt, eqD_int, eqD_nil, pl_int, pl_nil, pl_non, pl_rnil, pl_bl, sl_tupE, sl_rolE, keep_ref, keep_tup, keep_rol, tp_int, tp_tup, tp_rol, tp_str, tp_bl, tp_non, tp_ref, oFd, oMd, oPw, oShl, oLt, oLe, oGt, oGe, op_in, op_cp, wipe_nil, wipe_cons, mset_same, true_and, and_true, isN_int, sz_0, sz_1, sz_2, sz_3, sz_4, sz_5, sz_6, sz_7, sz_8, sz_9, sz_10, sz_11, sz_12, ex_lstF, ex_repF, ex_lgF1, ex_lgF2, ex_tupRg1, ex_tupRg2, ex_lcF, ex_frz, ex_slF, ex_slM, sl_tupF, sl_rolF, op_iiF, op_ssF, op_ttF, op_rrF, op_rrM, op_mmF, op_repF, li_rol, li_ref, bl_listF, bl_allF, bl_anyF, asT_some, asJ_some, op_eqLf, op_eqLt, op_eqBf, op_eqBt, isN_non, Bool.not_true, Bool.not_false]
    exact q _
end L3
set_option Elab.async false
set_option linter.all false
set_option maxRecDepth 100000
set_option maxHeartbeats 4000000
namespace L3
open PySem PySem.Spec PyProof.Rows L2
/-- a grown M: a's draws aside -/
def Gr (a : Addr) (M M' : Mp) : Prop := ∀ b o, b ≠ a → M b = some o → M' b = some o
theorem Gr.refl {a : Addr} {M : Mp} : Gr a M M := fun _ _ _ h => h
theorem Gr.trans {a : Addr} {M M1 M2 : Mp} (x : Gr a M M1) (y : Gr a M1 M2) : Gr a M M2 := fun b o h z => y b o h (x b o h z)
theorem Gr.put {a f : Addr} {M M' : Mp} {o : MO} (x : Gr a M M') (h : M f = none) : Gr a M (mset M' f o) := fun b u hb z => by
  rw [mset_ne (ne_m z h)]; exact x b u hb z
theorem Feed.put {a f : Addr} {M : Mp} {o : MO} (x : Feed M a) (h : f ≠ a) : Feed (mset M f o) a := by
  obtain ⟨g, m, c, e⟩ := x
  exact ⟨g, m, c, by rw [mset_ne (Ne.symm h)]; exact e⟩
theorem Feed.ne {a f : Addr} {M : Mp} (x : Feed M a) (h : M f = none) : f ≠ a := by
  obtain ⟨g, m, c, e⟩ := x
  exact fun z => by rw [z, e] at h; cases h
/-- rows of a drawn table -/
def TsOk (n : Nat) (ts : List Trip) : Prop := ∀ t ∈ ts, In2 n t ∧ t.2.2.natAbs < 100
theorem TsOk.nil {n : Nat} : TsOk n [] := fun _ h => nomatch h
theorem TsOk.app {n : Nat} {ts us : List Trip} (h : TsOk n ts) (h2 : TsOk n us) : TsOk n (ts ++ us) := fun t ht => (List.mem_append.mp ht).elim (h t) (h2 t)
theorem TsOk.rep {n k : Nat} {t : Trip} (h : In2 n t ∧ t.2.2.natAbs < 100) : TsOk n (List.replicate k t) := fun x hx => by rw [List.eq_of_mem_replicate hx]; exact h
end L3
set_option Elab.async false
set_option linter.all false
set_option maxRecDepth 100000
set_option maxHeartbeats 4000000
namespace L3
open PySem PySem.Spec PyProof.Rows L2
theorem at2_part {S : Tab} {ps : List Nat} {i j : Nat} (hi : i < ps.length) (hj : j < ps.length) : at2 (partT S ps) i j = at2 S (ps.getD i 0) (ps.getD j 0) := by
  simp [at2, partT, hi, hj]
/-- a closed table is its own closing -/
theorem IsCl.self {n : Nat} {T S : Fn} (c : IsCl n T S) : IsCl n S S := ⟨c.diag, c.tri, fun _ _ _ _ => eLe.rfl', fun _ h => h⟩
theorem tabD_inj {S T : Tab} (h : tabD S = tabD T) : S = T := by
  unfold tabD at h
  have oinj : ∀ x y : Ed, oD x = oD y → x = y := fun x y h => by cases x <;> cases y <;> simp [oD] at h <;> (try rfl) <;> (subst h; rfl)
  have inj : ∀ a b : List Ed, rowD a = rowD b → a = b := fun a b h => (List.map_inj_right (fun x y => oinj x y)).mp (D.tup.inj h)
  exact (List.map_inj_right (fun x y => inj x y)).mp (D.tup.inj h)
theorem only_sh {n B : Nat} {X : Tab} {ps : List Nat} {d : D} (c : OnlyOf n B X ps d) (hB : 2 ^ n * B ≤ 10 ^ 100) (hp : ps.length ≤ 100) : Sh d := (c.tm hB).fits (by decide) (Nat.le_trans (Nat.mul_le_mul hp (Nat.add_le_add_right hp 1)) (by decide))
theorem b7 {n B : Nat} (hn : n ≤ 12) (hB : B ≤ 10 ^ 40) : 2 ^ n * B ≤ 10 ^ 100 := Nat.le_trans (Nat.mul_le_mul (Nat.pow_le_pow_right (by decide) hn) hB) (by decide)
end L3
set_option Elab.async false
set_option linter.all false
set_option maxRecDepth 100000
set_option maxHeartbeats 4000000
namespace L3
open PySem PySem.Spec PyProof.Rows L2
def chainN (w k z : Nat) : List Nat := rgN (k * w) (2 * w) ++ [z]
theorem chain_len (w k z : Nat) : (chainN w k z).length = 2 * w + 1 := by simp [chainN, rgN_len]
def fieldN (w z : Nat) : List Nat := rgN 0 w ++ [z]
theorem field_len (w z : Nat) : (fieldN w z).length = w + 1 := by simp [fieldN, rgN_len]
/-- the parts of a chain -/
def chainP (w : Nat) (Ts : List Tab) (F : Tab) : List Part := (F, fieldN w ((Ts.length + 1) * w)) :: (List.range Ts.length).map fun k => (Ts.getD k [], chainN w k ((Ts.length + 1) * w))
/-- what a chain comes to -/
def ChainIs (B n : Nat) (xs : List Part) (d : D) : Prop := ∃ X, PutIs B n xs X ∧ Closes n B X d
/-- edges of some parts -/
structure PEdges (B n : Nat) (xs : List Part) (ts : List Trip) : Prop where
  ok : TripsOk n B ts
  st : ∀ s, StE (ts.map edgeOf) s ↔ ∀ x ∈ xs, Pull x s
theorem PEdges.app {B n : Nat} {xs ys : List Part} {ts us : List Trip} (h : PEdges B n xs ts) (h2 : PEdges B n ys us) : PEdges B n (xs ++ ys) (ts ++ us) :=
  ⟨fun t ht => (List.mem_append.mp ht).elim (h.ok t) (h2.ok t), fun s => by
    rw [List.map_append, StE.app, h.st, h2.st]
    exact ⟨fun a x hx => (List.mem_append.mp hx).elim (a.1 x) (a.2 x), fun a => ⟨fun x hx => a x (List.mem_append_left _ hx), fun x hx => a x (List.mem_append_right _ hx)⟩⟩⟩
theorem PEdges.one {B n : Nat} {x : Part} {ts : List Trip} (h : TripsOk n B ts) (h2 : ∀ s, StE (ts.map edgeOf) s ↔ Pull x s) : PEdges B n [x] ts :=
  ⟨h, fun s => by rw [h2]; exact ⟨fun a y hy => by rw [List.mem_singleton] at hy; rw [hy]; exact a, fun a => a x (by simp)⟩⟩
/-- closing what edges say -/
theorem PEdges.put {B n : Nat} {xs : List Part} {ts : List Trip} (h : PEdges B n xs ts) : PutIs B n xs (mtab n ts) :=
  ⟨mtab_b fun t ht => (h.ok t ht).2, fun s => by rw [(es_mtab fun t ht => (h.ok t ht).1).st, h.st]⟩
theorem PEdges.least {B n : Nat} {xs : List Part} {ts : List Trip} (h : PEdges B n xs ts) {sp : Sp3} (k : SLeast sp) (hn : n ≤ 1000) (hB : 0 < B) {Q : VK3} {E : XK3} (q : ∀ d M, ChainIs B n xs d → Q d M) : sp [.int (n : Int), .rol (ts.map tripD)] M0 Q E := by
  refine k (n : Int) B (mtab n ts) ts Q E (by omega) (by omega) hB (by rw [Int.toNat_natCast]; exact h.put.tb) (fun t ht => (h.ok t ht).1) (by rw [Int.toNat_natCast]; exact es_mtab fun t ht => (h.ok t ht).1) fun d M hd => ?_
  rw [Int.toNat_natCast] at hd
  exact q d M ⟨_, h.put, hd⟩
theorem ChainIs.uniq {B B' n : Nat} {xs : List Part} {d d' : D} (h : ChainIs B n xs d) (h' : ChainIs B' n xs d') : d = d' := by
  obtain ⟨X, hX, c⟩ := h
  obtain ⟨X', hX', c'⟩ := h'
  exact c.congr (fun s => by rw [hX.st, hX'.st]) c'
theorem field_ok {B w z : Nat} {F : Tab} (h : F = [] ∨ TabB B (w + 1) F) (hz : w ≤ z) : PartOk B (z + 1) (F, fieldN w z) := by
  have lt : ∀ p ∈ fieldN w z, p < z + 1 := fun p hp => by
    rcases List.mem_append.mp hp with h | h
    · have := rgN_mem.mp h; omega
    · rw [List.mem_singleton] at h; omega
  rcases h with rfl | h
  · exact ⟨⟨rfl, (fun r hr => nomatch hr), (fun r hr => nomatch hr)⟩, Nat.zero_le _, lt⟩
  · exact part_ok h (field_len w z) lt
theorem chain_lt {w k z : Nat} (h : (k + 2) * w ≤ z) : ∀ p ∈ chainN w k z, p < z + 1 := fun p hp => by
  have e : (k + 2) * w = k * w + 2 * w := Nat.add_mul k 2 w
  rcases List.mem_append.mp hp with h | h
  · have := rgN_mem.mp h; omega
  · rw [List.mem_singleton] at h; omega
/-- each new number as the old one -/
def keptTs (w : Nat) : List Trip := ((List.range w).map fun x => (((w + x : Nat) : Int), ((x : Nat) : Int), 0)) ++ (List.range w).map fun x => (((x : Nat) : Int), ((w + x : Nat) : Int), 0)
theorem kept_ok (w : Nat) : TsOk (2 * w + 1) (keptTs w) := fun t ht => by
  rcases List.mem_append.mp ht with h | h
  · obtain ⟨x, hx, rfl⟩ := List.mem_map.mp h
    rw [List.mem_range] at hx
    exact ⟨⟨by simp only; omega, by simp only; omega, by simp only; omega, by simp only; omega⟩, by simp⟩
  · obtain ⟨x, hx, rfl⟩ := List.mem_map.mp h
    rw [List.mem_range] at hx
    exact ⟨⟨by simp only; omega, by simp only; omega, by simp only; omega, by simp only; omega⟩, by simp⟩
/-- the points of a row's two ends -/
def endsN (w l : Nat) : List Nat := rgN 0 w ++ rgN (l * w) (w + 1)
/-- some points of a chain -/
def RowIs (B n : Nat) (xs : List Part) (ps : List Nat) (d : D) : Prop := ∃ X, PutIs B n xs X ∧ OnlyOf n B X ps d
theorem RowIs.uniq {B B' n : Nat} {xs : List Part} {ps : List Nat} {d d' : D} (hp : ∀ p ∈ ps, p < n) (h : RowIs B n xs ps d) (h' : RowIs B' n xs ps d') : d = d' := by
  obtain ⟨X, hX, c⟩ := h
  obtain ⟨X', hX', c'⟩ := h'
  exact c.congr (fun s => by rw [hX.st, hX'.st]) hp c'
theorem eqD_rnil {x : List D} : eqD (.rol x) (.rol []) = x.isEmpty := by
  cases x <;> simp only [eqD, pdOf, pdsOf, PyData.eqv, PyData.eqvAll, List.isEmpty]
theorem RowIs.sh {B n : Nat} {xs : List Part} {ps : List Nat} {d : D} (h : RowIs B n xs ps d) (hB : 2 ^ n * B ≤ 10 ^ 100) (hp : ps.length ≤ 100) : Sh d := by
  obtain ⟨X, hX, c⟩ := h; exact only_sh c hB hp
theorem RowIs.top {B n : Nat} {xs : List Part} {ps : List Nat} {d : D} (h : RowIs B n xs ps d) {M : Mp} : L3.top M d = d := by
  obtain ⟨X, hX, c⟩ := h; exact c.top
end L3
set_option Elab.async false
set_option linter.all false
set_option maxRecDepth 100000
set_option maxHeartbeats 4000000
namespace L3
open PySem PySem.Spec PyProof.Rows L2
def Meets (n : Nat) (F : Fn) (v : Nat → Int) : Prop := ∀ p q, p < n → q < n → ∀ e, F p q = some e → v p - v q ≤ e
theorem meets_st {n : Nat} {F : Fn} {v : Nat → Int} : Meets n F v ↔ Stable n F fun p => some (- v p) := by
  constructor
  · intro h p hp q hq
    cases e : F p q with
    | none => exact eLe_none
    | some x => have := h p q hp hq x e; show _ ≤ _; omega
  · intro h p q hp hq x e
    have := h p hp q hq
    rw [e] at this
    have this : - v q ≤ - v p + x := this
    omega
theorem IsCl.meets {n : Nat} {T S : Fn} (c : IsCl n T S) {v : Nat → Int} : Meets n T v ↔ Meets n S v := by
  rw [meets_st, meets_st]
  exact ⟨c.st _, fun h p hp q hq => eLe_trans (h p hp q hq) (eAdd_mono eLe.rfl' (c.le p q hp hq))⟩
theorem Bad.none {n : Nat} {T : Fn} (b : Bad n T) (v : Nat → Int) : ¬ Meets n T v := fun h => by
  obtain ⟨m, hm, z⟩ := b
  have := z _ (meets_st.mp h)
  cases this
/-- between some lowest and some greatest ones -/
theorem between (L U : List Int) (h : ∀ l ∈ L, ∀ u ∈ U, l ≤ u) : ∃ x, (∀ l ∈ L, l ≤ x) ∧ (∀ u ∈ U, x ≤ u) ∧ (x ∈ L ∨ x ∈ U ∨ x = 0) := by
  have mx : ∀ L : List Int, L = [] ∨ ∃ m ∈ L, ∀ l ∈ L, l ≤ m := by
    intro L
    induction L with
    | nil => exact .inl rfl
    | cons a L ih =>
      right
      rcases ih with rfl | ⟨m, hm, h⟩
      · exact ⟨a, by simp, fun l hl => by simp at hl; omega⟩
      · by_cases z : a ≤ m
        · exact ⟨m, by simp [hm], fun l hl => by
            rcases List.mem_cons.mp hl with rfl | hl
            · exact z
            · exact h l hl⟩
        · exact ⟨a, by simp, fun l hl => by
            rcases List.mem_cons.mp hl with rfl | hl
            · omega
            · have := h l hl; omega⟩
  have mn : ∀ L : List Int, L = [] ∨ ∃ m ∈ L, ∀ l ∈ L, m ≤ l := by
    intro L
    induction L with
    | nil => exact .inl rfl
    | cons a L ih =>
      right
      rcases ih with rfl | ⟨m, hm, h⟩
      · exact ⟨a, by simp, fun l hl => by simp at hl; omega⟩
      · by_cases z : m ≤ a
        · exact ⟨m, by simp [hm], fun l hl => by
            rcases List.mem_cons.mp hl with rfl | hl
            · exact z
            · exact h l hl⟩
        · exact ⟨a, by simp, fun l hl => by
            rcases List.mem_cons.mp hl with rfl | hl
            · omega
            · have := h l hl; omega⟩
  rcases mn U with rfl | ⟨u, hu, hU⟩
  · rcases mx L with rfl | ⟨l, hl, hL⟩
    · exact ⟨0, by simp, by simp, .inr (.inr rfl)⟩
    · exact ⟨l, hL, by simp, .inl hl⟩
  · exact ⟨u, fun l hl => h l hl u hu, hU, .inr (.inl hu)⟩
def setV (v : Nat → Int) (r : Nat) (x : Int) : Nat → Int := fun i => if i = r then x else v i
/-- meeting a table on some points alone -/
def MeetsOn (n : Nat) (A : Nat → Bool) (F : Fn) (v : Nat → Int) : Prop := ∀ p q, p < n → q < n → A p = true → A q = true → ∀ e, F p q = some e → v p - v q ≤ e
theorem ext_one {n : Nat} {T S : Fn} (c : IsCl n T S) {A : Nat → Bool} {v : Nat → Int} (h : MeetsOn n A S v) {r : Nat} (hr : r < n) : ∃ v', MeetsOn n (fun i => A i || decide (i = r)) S v' ∧ ∀ i, A i = true → v' i = v i := by
  by_cases hA : A r = true
  · refine ⟨v, fun p q hp hq h1 h2 => h p q hp hq ?_ ?_, fun _ _ => rfl⟩
    · rcases Bool.or_eq_true _ _ ▸ h1 with z | z
      · exact z
      · have := of_decide_eq_true z; subst this; exact hA
    · rcases Bool.or_eq_true _ _ ▸ h2 with z | z
      · exact z
      · have := of_decide_eq_true z; subst this; exact hA
  · let ix := (List.range n).filter A
    let U := ix.filterMap fun q => (S r q).map fun e => v q + e
    let L := ix.filterMap fun q => (S q r).map fun e => v q - e
    have mU : ∀ u, u ∈ U ↔ ∃ q e, q < n ∧ A q = true ∧ S r q = some e ∧ u = v q + e := fun u => by
      simp only [U, ix, List.mem_filterMap, List.mem_filter, List.mem_range, Option.map_eq_some_iff]
      constructor
      · rintro ⟨q, ⟨h1, h2⟩, e, h3, rfl⟩; exact ⟨q, e, h1, h2, h3, rfl⟩
      · rintro ⟨q, e, h1, h2, h3, rfl⟩; exact ⟨q, ⟨h1, h2⟩, e, h3, rfl⟩
    have mL : ∀ u, u ∈ L ↔ ∃ q e, q < n ∧ A q = true ∧ S q r = some e ∧ u = v q - e := fun u => by
      simp only [L, ix, List.mem_filterMap, List.mem_filter, List.mem_range, Option.map_eq_some_iff]
      constructor
      · rintro ⟨q, ⟨h1, h2⟩, e, h3, rfl⟩; exact ⟨q, e, h1, h2, h3, rfl⟩
      · rintro ⟨q, e, h1, h2, h3, rfl⟩; exact ⟨q, ⟨h1, h2⟩, e, h3, rfl⟩
    obtain ⟨x, hL, hU, _⟩ := between L U (fun l hl u hu => by
      obtain ⟨p, e, hp, ap, he, rfl⟩ := (mL l).mp hl
      obtain ⟨q, f, hq, aq, hf, rfl⟩ := (mU u).mp hu
      have t := c.tri p q r hp hq hr
      rw [he, hf] at t
      cases g : S p q with
      | none => rw [g] at t; exact t.elim
      | some y =>
        rw [g] at t
        have t : y ≤ e + f := t
        have := h p q hp hq ap aq y g
        omega)
    refine ⟨setV v r x, fun p q hp hq h1 h2 e he => ?_, fun i hi => ?_⟩
    · unfold setV
      have c1 : A p = true ∨ p = r := (Bool.or_eq_true _ _ ▸ h1).imp id of_decide_eq_true
      have c2 : A q = true ∨ q = r := (Bool.or_eq_true _ _ ▸ h2).imp id of_decide_eq_true
      by_cases e1 : p = r
      · subst e1
        by_cases e2 : q = p
        · subst e2
          rw [c.diag q hp] at he; cases he; omega
        · rw [if_pos rfl, if_neg e2]
          have := hU _ ((mU _).mpr ⟨q, e, hq, c2.resolve_right e2, he, rfl⟩)
          omega
      · rw [if_neg e1]
        by_cases e2 : q = r
        · subst e2
          rw [if_pos rfl]
          have := hL _ ((mL _).mpr ⟨p, e, hp, c1.resolve_right e1, he, rfl⟩)
          omega
        · rw [if_neg e2]
          exact h p q hp hq (c1.resolve_right e1) (c2.resolve_right e2) e he
    · unfold setV
      rw [if_neg (fun z => hA (by rw [← z]; exact hi))]
/-- what meets a closed table at some points can be completed -/
theorem ext_all' {n : Nat} {T S : Fn} (c : IsCl n T S) {A : Nat → Bool} {v : Nat → Int} (h : MeetsOn n A S v) : ∃ v', Meets n S v' ∧ ∀ i, A i = true → v' i = v i := by
  have go : ∀ k, k ≤ n → ∃ v', MeetsOn n (fun i => A i || decide (i < k)) S v' ∧ ∀ i, A i = true → v' i = v i := by
    intro k
    induction k with
    | zero => exact fun _ => ⟨v, fun p q hp hq h1 h2 => h p q hp hq (by simpa using h1) (by simpa using h2), fun _ _ => rfl⟩
    | succ k ih =>
      intro hk
      obtain ⟨v1, h1, e1⟩ := ih (by omega)
      obtain ⟨v2, h2, e2⟩ := ext_one c h1 (r := k) (by omega)
      refine ⟨v2, fun p q hp hq a b => h2 p q hp hq ?_ ?_, fun i hi => (e2 i (by simp [hi])).trans (e1 i hi)⟩
      · simp only [Bool.or_eq_true, decide_eq_true_eq] at a ⊢
        rcases a with a | a
        · exact .inl (.inl a)
        · by_cases z : p < k
          · exact .inl (.inr z)
          · exact .inr (by omega)
      · simp only [Bool.or_eq_true, decide_eq_true_eq] at b ⊢
        rcases b with b | b
        · exact .inl (.inl b)
        · by_cases z : q < k
          · exact .inl (.inr z)
          · exact .inr (by omega)
  obtain ⟨v', h1, h2⟩ := go n (Nat.le_refl _)
  exact ⟨v', fun p q hp hq => h1 p q hp hq (by simp [hp]) (by simp [hq]), h2⟩
/-- each end is reached -/
theorem reach {n : Nat} {T S : Fn} (c : IsCl n T S) {p q : Nat} (hp : p < n) (hq : q < n) : (∀ e, S p q = some e → ∃ v, Meets n S v ∧ v p - v q = e) ∧ (S p q = none → ∀ N : Int, ∃ v, Meets n S v ∧ N ≤ v p - v q) := by
  have mk : ∀ x : Int, (∀ e, S p q = some e → x ≤ e) → (∀ e, S q p = some e → - x ≤ e) → (p = q → x = 0) → ∃ v, Meets n S v ∧ v p - v q = x := by
    intro x h1 h2 h3
    have on : MeetsOn n (fun i => decide (i = p) || decide (i = q)) S (fun i => if i = p then x else 0) := by
      intro i j hi hj a b e he
      simp only [Bool.or_eq_true, decide_eq_true_eq] at a b
      by_cases e1 : i = p <;> by_cases e2 : j = p
      · subst e1; subst e2
        rw [c.diag _ hi] at he; cases he; simp
      · subst e1
        have : j = q := by omega
        subst this
        dsimp only
        rw [if_pos rfl, if_neg e2]
        have := h1 e he; omega
      · subst e2
        have : i = q := by omega
        subst this
        dsimp only
        rw [if_pos rfl, if_neg e1]
        have := h2 e he; omega
      · have a1 : i = q := by omega
        have a2 : j = q := by omega
        subst a1; subst a2
        rw [c.diag _ hi] at he; cases he; dsimp only; rw [if_neg e1]; omega
    obtain ⟨v', m, ag⟩ := ext_all' c on
    refine ⟨v', m, ?_⟩
    rw [ag p (by simp), ag q (by simp), if_pos rfl]
    by_cases z : q = p
    · subst z; rw [if_pos rfl, h3 rfl]; omega
    · rw [if_neg z]; omega
  have tr : ∀ e f, S p q = some e → S q p = some f → - e ≤ f := fun e f h1 h2 => by
    have t := c.tri p p q hp hp hq
    rw [c.diag p hp, h1, h2] at t
    have t : (0 : Int) ≤ e + f := t
    omega
  constructor
  · intro e he
    exact mk e (fun x hx => by rw [he] at hx; cases hx; omega) (fun f hf => tr e f he hf) fun z => by subst z; rw [c.diag p hp] at he; cases he; rfl
  · intro hn N
    have pq : p ≠ q := fun z => by subst z; rw [c.diag p hp] at hn; cases hn
    cases g : S q p with
    | none =>
      obtain ⟨v, m, e⟩ := mk N (fun x hx => by rw [hn] at hx; cases hx) (fun x hx => by rw [g] at hx; cases hx) (fun z => absurd z pq)
      exact ⟨v, m, by omega⟩
    | some f =>
      obtain ⟨v, m, e⟩ := mk (max N (- f)) (fun x hx => by rw [hn] at hx; cases hx) (fun x hx => by rw [g] at hx; cases hx; omega) (fun z => absurd z pq)
      exact ⟨v, m, by omega⟩
/-- closed tables met by the same values are the same -/
theorem cl_same {n : Nat} {T S T' S' : Fn} (c : IsCl n T S) (c' : IsCl n T' S') (h : ∀ v, Meets n S v ↔ Meets n S' v) {p q : Nat} (hp : p < n) (hq : q < n) : S p q = S' p q := by
  have one : ∀ {T S T' S' : Fn}, IsCl n T S → IsCl n T' S' → (∀ v, Meets n S v ↔ Meets n S' v) → eLe (S p q) (S' p q) := by
    intro T S T' S' c c' h
    cases e' : S' p q with
    | none => exact eLe_none
    | some y =>
      cases e : S p q with
      | none =>
        obtain ⟨v, m, hv⟩ := (reach c hp hq).2 e (y + 1)
        have := (h v).mp m p q hp hq y e'
        omega
      | some x =>
        obtain ⟨v, m, hv⟩ := (reach c hp hq).1 x e
        have := (h v).mp m p q hp hq y e'
        show x ≤ y
        omega
  exact eLe_anti (one c c' h) (one c' c fun v => (h v).symm)
theorem IsCl.some {n : Nat} {T S : Fn} (c : IsCl n T S) : ∃ v, Meets n S v := by
  obtain ⟨v, m, _⟩ := ext_all' c (A := fun _ => false) (v := fun _ => 0) (fun p q _ _ h => by cases h)
  exact ⟨v, m⟩
/-- d is a table, closed, met by just P, or () -/
def Den (n : Nat) (d : D) (P : (Nat → Int) → Prop) : Prop := (d = .tup [] ∧ ∀ v, ¬ P v) ∨ ∃ S : Tab, d = tabD S ∧ Sq n S ∧ IsCl n (at2 S) (at2 S) ∧ ∀ v, P v ↔ Meets n (at2 S) v
theorem Den.uniq {n : Nat} {d d' : D} {P P' : (Nat → Int) → Prop} (h : Den n d P) (h' : Den n d' P') (e : ∀ v, P v ↔ P' v) : d = d' := by
  rcases h with ⟨rfl, h⟩ | ⟨S, rfl, sq, c, h⟩
  · rcases h' with ⟨rfl, _⟩ | ⟨S', rfl, sq', c', h'⟩
    · rfl
    · obtain ⟨v, m⟩ := c'.some
      exact absurd ((e v).mpr ((h' v).mpr m)) (h v)
  · rcases h' with ⟨rfl, h'⟩ | ⟨S', rfl, sq', c', h'⟩
    · obtain ⟨v, m⟩ := c.some
      exact absurd ((e v).mp ((h v).mpr m)) (h' v)
    · rw [tab_ext sq sq' fun p q hp hq => cl_same c c' (fun v => by rw [← h, ← h', e]) hp hq]
theorem Den.congr {n : Nat} {d : D} {P P' : (Nat → Int) → Prop} (h : Den n d P) (e : ∀ v, P v ↔ P' v) : Den n d P' := by
  rcases h with ⟨rfl, h⟩ | ⟨S, rfl, sq, c, h⟩
  · exact .inl ⟨rfl, fun v z => h v ((e v).mpr z)⟩
  · exact .inr ⟨S, rfl, sq, c, fun v => by rw [← e, h]⟩
theorem Closes.den {n B : Nat} {T : Tab} {d : D} (c : Closes n B T d) : Den n d (Meets n (at2 T)) := by
  rcases c with ⟨b, rfl⟩ | ⟨S, tb, cl, rfl⟩
  · exact .inl ⟨rfl, b.none⟩
  · exact .inr ⟨S, rfl, tb.sq, cl.self, fun v => cl.meets⟩
/-- the values of some points -/
def Proj (n : Nat) (ps : List Nat) (P : (Nat → Int) → Prop) : (Nat → Int) → Prop := fun u => ∃ v, P v ∧ ∀ i, i < ps.length → v (ps.getD i 0) = u i
theorem OnlyOf.den {n B : Nat} {X : Tab} {ps : List Nat} {d : D} (c : OnlyOf n B X ps d) (nd : ps.Nodup) (hp : ∀ p ∈ ps, p < n) : Den ps.length d (Proj n ps (Meets n (at2 X))) := by
  rcases c with ⟨b, rfl⟩ | ⟨S, tb, cl, rfl⟩
  · exact .inl ⟨rfl, fun u ⟨v, m, _⟩ => b.none v m⟩
  · have gd : ∀ i, i < ps.length → ps.getD i 0 < n := fun i hi => by
      rw [List.getD_eq_getElem?_getD, List.getElem?_eq_getElem hi]; exact hp _ (List.getElem_mem hi)
    have at' : ∀ i j, i < ps.length → j < ps.length → at2 (partT S ps) i j = at2 S (ps.getD i 0) (ps.getD j 0) := fun i j hi hj => at2_part hi hj
    have inj : ∀ i j, i < ps.length → j < ps.length → ps.getD i 0 = ps.getD j 0 → i = j := fun i j hi hj h => by
      rw [List.getD_eq_getElem?_getD, List.getD_eq_getElem?_getD, List.getElem?_eq_getElem hi, List.getElem?_eq_getElem hj] at h
      exact (List.getElem_inj nd).mp h
    have sq : Sq ps.length (partT S ps) := (partT_b tb).sq
    have c2 : IsCl ps.length (at2 (partT S ps)) (at2 (partT S ps)) := by
      refine ⟨fun p h1 => ?_, fun p q m h1 h2 h3 => ?_, fun _ _ _ _ => eLe.rfl', fun _ h => h⟩
      · rw [at' p p h1 h1]; exact cl.diag _ (gd p h1)
      · rw [at' p q h1 h2, at' p m h1 h3, at' m q h3 h2]; exact cl.tri _ _ _ (gd p h1) (gd q h2) (gd m h3)
    refine .inr ⟨_, rfl, sq, c2, fun u => ?_⟩
    constructor
    · rintro ⟨v, m, ag⟩ i j hi hj e he
      rw [at' i j hi hj] at he
      have := (cl.meets.mp m) _ _ (gd i hi) (gd j hj) e he
      rw [ag i hi, ag j hj] at this
      exact this
    · intro m
      -- the values at the points
      let val : Nat → Int := fun p => u (ps.idxOf p)
      have vi : ∀ i, i < ps.length → val (ps.getD i 0) = u i := fun i hi => by
        show u (ps.idxOf (ps.getD i 0)) = u i
        rw [List.getD_eq_getElem?_getD, List.getElem?_eq_getElem hi]
        show u (ps.idxOf ps[i]) = u i
        rw [nd.idxOf_getElem i hi]
      have on : MeetsOn n (fun p => decide (p ∈ ps)) (at2 S) val := by
        intro p q h1 h2 a b e he
        have a := of_decide_eq_true a
        have b := of_decide_eq_true b
        obtain ⟨i, hi, rfl⟩ := List.mem_iff_getElem.mp a
        obtain ⟨j, hj, rfl⟩ := List.mem_iff_getElem.mp b
        have gi : ps.getD i 0 = ps[i] := by rw [List.getD_eq_getElem?_getD, List.getElem?_eq_getElem hi]; rfl
        have gj : ps.getD j 0 = ps[j] := by rw [List.getD_eq_getElem?_getD, List.getElem?_eq_getElem hj]; rfl
        have := m i j hi hj e (by rw [at' i j hi hj, gi, gj]; exact he)
        rw [← gi, ← gj, vi i hi, vi j hj]
        exact this
      obtain ⟨v', m', ag⟩ := ext_all' cl on
      refine ⟨v', cl.meets.mpr m', fun i hi => ?_⟩
      rw [ag _ (by
        have gi : ps.getD i 0 = ps[i] := by rw [List.getD_eq_getElem?_getD, List.getElem?_eq_getElem hi]; rfl
        rw [gi]; exact decide_eq_true (List.getElem_mem hi)), vi i hi]
/-- a part's values -/
def MeetsP (x : Part) (v : Nat → Int) : Prop := Meets x.1.length (at2 x.1) fun i => v (x.2.getD i 0)
theorem PutIs.meets {B n : Nat} {xs : List Part} {X : Tab} (h : PutIs B n xs X) {v : Nat → Int} : Meets n (at2 X) v ↔ ∀ x ∈ xs, MeetsP x v := by
  rw [meets_st, h.st]
  exact ⟨fun a x hx => meets_st.mpr (a x hx), fun a x hx => meets_st.mp (a x hx)⟩
end L3
set_option Elab.async false
set_option linter.all false
set_option maxRecDepth 100000
set_option maxHeartbeats 4000000
namespace L3
open PySem PySem.Spec PyProof.Rows L2
/-- from some points to one more by a tight end -/
theorem tight_out {n p : Nat} {T S : Fn} (c : IsCl n T S) (hp : p < n) (A : Nat → Bool) (hA : A p = true) {r : Nat} (hr : r < n) (hrA : A r = false) {x : Int} (hx : S p r = some x) :
    ∃ q r, q < n ∧ r < n ∧ A q = true ∧ A r = false ∧ ∃ y e, S p q = some y ∧ T q r = some e ∧ S p r = some (y + e) := by
  apply Classical.byContradiction
  intro no
  have no' : ∀ q r, q < n → r < n → A q = true → A r = false → ∀ y e, S p q = some y → T q r = some e → S p r ≠ some (y + e) := fun q r h1 h2 h3 h4 y e h5 h6 h7 => no ⟨q, r, h1, h2, h3, h4, y, e, h5, h6, h7⟩
  have st := c.row hp
  have hs : Stable n T (fun r => if A r = true then S p r else bump (S p r)) := by
    intro q hq t ht
    have h0 := st q hq t ht
    show eLe (if A t = true then S p t else bump (S p t)) (eAdd (if A q = true then S p q else bump (S p q)) (T q t))
    by_cases g1 : A q = true <;> by_cases g2 : A t = true
    · rw [if_pos g1, if_pos g2]; exact h0
    · rw [if_pos g1, if_neg g2]
      have h2 := no' q t hq ht g1 (by simpa using g2)
      cases a : S p q with
      | none => exact eLe_none
      | some y =>
        cases b : T q t with
        | none => exact eLe_none
        | some e =>
          have h3 := h2 y e a b
          rw [a, b] at h0
          cases d : S p t with
          | none => rw [d] at h0; exact h0.elim
          | some z =>
            rw [d] at h0 h3
            have h0 : z ≤ y + e := h0
            show z + 1 ≤ y + e
            have : z ≠ y + e := fun w => h3 (by rw [w])
            omega
    · rw [if_neg g1, if_pos g2]
      cases a : S p q <;> cases b : T q t <;> cases d : S p t <;> rw [a, b, d] at h0 <;> simp [eLe, eAdd, bump] at * <;> omega
    · rw [if_neg g1, if_neg g2]
      cases a : S p q <;> cases b : T q t <;> cases d : S p t <;> rw [a, b, d] at h0 <;> simp [eLe, eAdd, bump] at * <;> omega
  have z := c.least hs hp hr (by
    show eLe (if A p = true then S p p else bump (S p p)) (some 0)
    rw [if_pos hA, c.diag p hp]; exact eLe.rfl')
  have z : eLe (if A r = true then S p r else bump (S p r)) (S p r) := z
  rw [if_neg (by simp [hrA]), hx] at z
  have z : x + 1 ≤ x := z
  omega
theorem nodup_le {n : Nat} {l : List Nat} (nd : l.Nodup) (h : ∀ i ∈ l, i < n) : l.length ≤ n := by
  have sub : l ⊆ List.range n := fun i hi => List.mem_range.mpr (h i hi)
  have := nd.length_le_of_subset sub
  simpa using this
/-- an end of a closed table comes of few ends -/
theorem cl_bound {n B : Nat} {T S : Fn} (c : IsCl n T S) (hT : ∀ p q, p < n → q < n → EdB B (T p q)) {p q : Nat} (hp : p < n) (hq : q < n) : EdB (n * B + 1) (S p q) := by
  have go : ∀ k, ∃ l : List Nat, l.Nodup ∧ (∀ i ∈ l, i < n) ∧ p ∈ l ∧ (∀ r ∈ l, ∃ x, S p r = some x ∧ x.natAbs ≤ l.length * B) ∧ (k < l.length ∨ ∀ r, r < n → r ∉ l → S p r = none) := by
    intro k
    induction k with
    | zero => exact ⟨[p], by simp, fun i hi => by rw [List.mem_singleton] at hi; rw [hi]; exact hp, by simp, fun r hr => by
        rw [List.mem_singleton] at hr; subst hr; exact ⟨0, c.diag _ hp, Nat.zero_le _⟩, .inl (by simp)⟩
    | succ k ih =>
      obtain ⟨l, nd, lt, pm, b, h⟩ := ih
      by_cases all : ∀ r, r < n → r ∉ l → S p r = none
      · exact ⟨l, nd, lt, pm, b, .inr all⟩
      · have h : k < l.length := h.resolve_right all
        have ex : ∃ r, r < n ∧ r ∉ l ∧ S p r ≠ none := Classical.byContradiction fun z => all fun r h1 h2 => Classical.byContradiction fun w => z ⟨r, h1, h2, w⟩
        obtain ⟨r, h1, h2, h3⟩ := ex
        cases hx : S p r with
        | none => exact absurd hx h3
        | some x =>
          obtain ⟨q', r', g1, g2, g3, g4, y, e, g5, g6, g7⟩ := tight_out c hp (fun i => decide (i ∈ l)) (decide_eq_true pm) h1 (decide_eq_false h2) hx
          have g3 := of_decide_eq_true g3
          have g4 := of_decide_eq_false g4
          refine ⟨r' :: l, List.nodup_cons.mpr ⟨g4, nd⟩, fun i hi => ?_, List.mem_cons_of_mem _ pm, fun t ht => ?_, .inl (by rw [List.length_cons]; omega)⟩
          · rcases List.mem_cons.mp hi with rfl | hi
            · exact g2
            · exact lt i hi
          · rw [List.length_cons, Nat.add_mul, Nat.one_mul]
            rcases List.mem_cons.mp ht with rfl | ht
            · refine ⟨_, g7, ?_⟩
              obtain ⟨y', e1, e2⟩ := b q' g3
              rw [g5] at e1; cases e1
              have := hT q' t g1 g2 e g6
              omega
            · obtain ⟨y', e1, e2⟩ := b t ht
              exact ⟨y', e1, by omega⟩
  obtain ⟨l, nd, lt, pm, b, h⟩ := go n
  have hl := nodup_le nd lt
  intro x hx
  rcases h with h | h
  · omega
  · by_cases qm : q ∈ l
    · obtain ⟨y, e1, e2⟩ := b q qm
      rw [hx] at e1; cases e1
      have := Nat.mul_le_mul_right B hl
      omega
    · rw [h q hq qm] at hx; cases hx
abbrev Vl := Nat → Int
abbrev Rel := Vl → Vl → Prop
/-- old, new, zero -/
def enc (w : Nat) (a b : Vl) : Vl := fun i => if i < w then a i else if i < 2 * w then b (i - w) else 0
def encF (w : Nat) (a : Vl) : Vl := fun i => if i < w then a i else 0
theorem Meets.shift {n : Nat} {F : Fn} {v u : Vl} (c : Int) (h : ∀ i, i < n → u i = v i + c) : Meets n F v ↔ Meets n F u := by
  constructor
  · intro m p q hp hq e he
    have := m p q hp hq e he
    rw [h p hp, h q hq]; omega
  · intro m p q hp hq e he
    have := m p q hp hq e he
    rw [h p hp, h q hq] at this; omega
theorem Meets.loc {n : Nat} {F : Fn} {v u : Vl} (h : ∀ i, i < n → u i = v i) : Meets n F v ↔ Meets n F u := Meets.shift 0 fun i hi => by rw [h i hi]; omega
theorem enc_of {w : Nat} (v : Vl) : ∃ a b, ∀ i, i < 2 * w + 1 → v i = enc w a b i + v (2 * w) := by
  refine ⟨fun i => v i - v (2 * w), fun i => v (w + i) - v (2 * w), fun i hi => ?_⟩
  unfold enc
  by_cases h : i < w
  · rw [if_pos h]; dsimp only; omega
  · rw [if_neg h]
    by_cases h2 : i < 2 * w
    · rw [if_pos h2]
      have : w + (i - w) = i := by omega
      dsimp only
      rw [this]; omega
    · have : i = 2 * w := by omega
      rw [if_neg h2, this]; omega
theorem encF_of {w : Nat} (v : Vl) : ∃ a, ∀ i, i < w + 1 → v i = encF w a i + v w := by
  refine ⟨fun i => v i - v w, fun i hi => ?_⟩
  unfold encF
  by_cases h : i < w
  · rw [if_pos h]; dsimp only; omega
  · have : i = w := by omega
    rw [if_neg h, this]; omega
/-- a step as it stands, its ends within B -/
def RepS (B w : Nat) (d : D) (R : Rel) : Prop := (d = .tup [] ∧ ∀ a b, ¬ R a b) ∨ ∃ T : Tab, d = tabD T ∧ TabB B (2 * w + 1) T ∧ ∀ a b, R a b ↔ Meets (2 * w + 1) (at2 T) (enc w a b)
def RepF (B w : Nat) (d : D) (P : Vl → Prop) : Prop := (d = .tup [] ∧ ∀ a, ¬ P a) ∨ ∃ T : Tab, d = tabD T ∧ TabB B (w + 1) T ∧ ∀ a, P a ↔ Meets (w + 1) (at2 T) (encF w a)
/-- a step closed -/
def DenS (B w : Nat) (d : D) (R : Rel) : Prop := (d = .tup [] ∧ ∀ a b, ¬ R a b) ∨ ∃ S : Tab, d = tabD S ∧ TabB B (2 * w + 1) S ∧ IsCl (2 * w + 1) (at2 S) (at2 S) ∧ ∀ a b, R a b ↔ Meets (2 * w + 1) (at2 S) (enc w a b)
def DenF (B w : Nat) (d : D) (P : Vl → Prop) : Prop := (d = .tup [] ∧ ∀ a, ¬ P a) ∨ ∃ S : Tab, d = tabD S ∧ TabB B (w + 1) S ∧ IsCl (w + 1) (at2 S) (at2 S) ∧ ∀ a, P a ↔ Meets (w + 1) (at2 S) (encF w a)
section
variable {B B' w : Nat} {d d' : D} {R R' : Rel} {P P' : Vl → Prop}
theorem TabB.mono {n : Nat} {T : Tab} (t : TabB B n T) (h : B ≤ B') : TabB B' n T := ⟨t.rows, t.cols, fun r hr e he i hi => Nat.lt_of_lt_of_le (t.ends r hr e he i hi) h⟩
theorem DenS.rep (h : DenS B w d R) : RepS B w d R := by
  rcases h with h | ⟨S, h1, h2, _, h3⟩
  · exact .inl h
  · exact .inr ⟨S, h1, h2, h3⟩
theorem DenF.rep (h : DenF B w d P) : RepF B w d P := by
  rcases h with h | ⟨S, h1, h2, _, h3⟩
  · exact .inl h
  · exact .inr ⟨S, h1, h2, h3⟩
theorem RepS.mono (h : RepS B w d R) (hB : B ≤ B') : RepS B' w d R := by
  rcases h with h | ⟨S, h1, h2, h3⟩
  · exact .inl h
  · exact .inr ⟨S, h1, h2.mono hB, h3⟩
theorem RepF.mono (h : RepF B w d P) (hB : B ≤ B') : RepF B' w d P := by
  rcases h with h | ⟨S, h1, h2, h3⟩
  · exact .inl h
  · exact .inr ⟨S, h1, h2.mono hB, h3⟩
theorem DenS.mono (h : DenS B w d R) (hB : B ≤ B') : DenS B' w d R := by
  rcases h with h | ⟨S, h1, h2, c, h3⟩
  · exact .inl h
  · exact .inr ⟨S, h1, h2.mono hB, c, h3⟩
theorem DenF.mono (h : DenF B w d P) (hB : B ≤ B') : DenF B' w d P := by
  rcases h with h | ⟨S, h1, h2, c, h3⟩
  · exact .inl h
  · exact .inr ⟨S, h1, h2.mono hB, c, h3⟩
theorem DenS.congr (h : DenS B w d R) (e : ∀ a b, R a b ↔ R' a b) : DenS B w d R' := by
  rcases h with ⟨h, g⟩ | ⟨S, h1, h2, c, h3⟩
  · exact .inl ⟨h, fun a b z => g a b ((e a b).mpr z)⟩
  · exact .inr ⟨S, h1, h2, c, fun a b => by rw [← e, h3]⟩
theorem DenF.congr (h : DenF B w d P) (e : ∀ a, P a ↔ P' a) : DenF B w d P' := by
  rcases h with ⟨h, g⟩ | ⟨S, h1, h2, c, h3⟩
  · exact .inl ⟨h, fun a z => g a ((e a).mpr z)⟩
  · exact .inr ⟨S, h1, h2, c, fun a => by rw [← e, h3]⟩
theorem RepS.congr (h : RepS B w d R) (e : ∀ a b, R a b ↔ R' a b) : RepS B w d R' := by
  rcases h with ⟨h, g⟩ | ⟨S, h1, h2, h3⟩
  · exact .inl ⟨h, fun a b z => g a b ((e a b).mpr z)⟩
  · exact .inr ⟨S, h1, h2, fun a b => by rw [← e, h3]⟩
theorem RepF.congr (h : RepF B w d P) (e : ∀ a, P a ↔ P' a) : RepF B w d P' := by
  rcases h with ⟨h, g⟩ | ⟨S, h1, h2, h3⟩
  · exact .inl ⟨h, fun a z => g a ((e a).mpr z)⟩
  · exact .inr ⟨S, h1, h2, fun a => by rw [← e, h3]⟩
theorem meets_all {n : Nat} {F G : Fn} (h : ∀ a b, Meets (2 * w + 1) F (enc w a b) ↔ Meets (2 * w + 1) G (enc w a b)) (v : Vl) : Meets (2 * w + 1) F v ↔ Meets (2 * w + 1) G v := by
  obtain ⟨a, b, e⟩ := enc_of (w := w) v
  rw [← Meets.shift (v (2 * w)) e, ← Meets.shift (v (2 * w)) e]
  exact h a b
theorem meets_allF {n : Nat} {F G : Fn} (h : ∀ a, Meets (w + 1) F (encF w a) ↔ Meets (w + 1) G (encF w a)) (v : Vl) : Meets (w + 1) F v ↔ Meets (w + 1) G v := by
  obtain ⟨a, e⟩ := encF_of (w := w) v
  rw [← Meets.shift (v w) e, ← Meets.shift (v w) e]
  exact h a
theorem some_enc {F : Fn} (h : ∃ v, Meets (2 * w + 1) F v) : ∃ a b, Meets (2 * w + 1) F (enc w a b) := by
  obtain ⟨v, m⟩ := h
  obtain ⟨a, b, e⟩ := enc_of (w := w) v
  exact ⟨a, b, (Meets.shift (v (2 * w)) e).mpr m⟩
theorem some_encF {F : Fn} (h : ∃ v, Meets (w + 1) F v) : ∃ a, Meets (w + 1) F (encF w a) := by
  obtain ⟨v, m⟩ := h
  obtain ⟨a, e⟩ := encF_of (w := w) v
  exact ⟨a, (Meets.shift (v w) e).mpr m⟩
theorem DenS.uniq (h : DenS B w d R) (h' : DenS B' w d' R') (e : ∀ a b, R a b ↔ R' a b) : d = d' := by
  rcases h with ⟨rfl, h⟩ | ⟨S, rfl, sq, c, h⟩
  · rcases h' with ⟨rfl, _⟩ | ⟨S', rfl, sq', c', h'⟩
    · rfl
    · obtain ⟨a, b, m⟩ := some_enc c'.some
      exact absurd ((e a b).mpr ((h' a b).mpr m)) (h a b)
  · rcases h' with ⟨rfl, h'⟩ | ⟨S', rfl, sq', c', h'⟩
    · obtain ⟨a, b, m⟩ := some_enc c.some
      exact absurd ((e a b).mp ((h a b).mpr m)) (h' a b)
    · rw [tab_ext sq.sq sq'.sq fun p q hp hq => cl_same c c' (meets_all (n := 0) fun a b => by rw [← h, ← h', e]) hp hq]
theorem DenF.uniq (h : DenF B w d P) (h' : DenF B' w d' P') (e : ∀ a, P a ↔ P' a) : d = d' := by
  rcases h with ⟨rfl, h⟩ | ⟨S, rfl, sq, c, h⟩
  · rcases h' with ⟨rfl, _⟩ | ⟨S', rfl, sq', c', h'⟩
    · rfl
    · obtain ⟨a, m⟩ := some_encF c'.some
      exact absurd ((e a).mpr ((h' a).mpr m)) (h a)
  · rcases h' with ⟨rfl, h'⟩ | ⟨S', rfl, sq', c', h'⟩
    · obtain ⟨a, m⟩ := some_encF c.some
      exact absurd ((e a).mp ((h a).mpr m)) (h' a)
    · rw [tab_ext sq.sq sq'.sq fun p q hp hq => cl_same c c' (meets_allF (n := 0) fun a => by rw [← h, ← h', e]) hp hq]
theorem DenS.tm (h : DenS B w d R) (hB : B ≤ 10 ^ 100) : Tm 2 ((2 * w + 1) * (2 * w + 1 + 1)) d := by
  rcases h with ⟨rfl, _⟩ | ⟨S, rfl, t, _⟩
  · exact (Tm.tup (h := 0) (n := 0) (m := 0) (ds := []) (fun d h => nomatch h) (Nat.le_refl _)).mono (by decide) (Nat.zero_le _)
  · exact Tm.tab t hB
theorem DenF.tm (h : DenF B w d P) (hB : B ≤ 10 ^ 100) : Tm 2 ((w + 1) * (w + 1 + 1)) d := by
  rcases h with ⟨rfl, _⟩ | ⟨S, rfl, t, _⟩
  · exact (Tm.tup (h := 0) (n := 0) (m := 0) (ds := []) (fun d h => nomatch h) (Nat.le_refl _)).mono (by decide) (Nat.zero_le _)
  · exact Tm.tab t hB
theorem DenS.top (h : DenS B w d R) {M : Mp} : L3.top M d = d := by
  rcases h with ⟨rfl, _⟩ | ⟨S, rfl, t, _⟩ <;> rfl
theorem DenF.top (h : DenF B w d P) {M : Mp} : L3.top M d = d := by
  rcases h with ⟨rfl, _⟩ | ⟨S, rfl, t, _⟩ <;> rfl
theorem RepS.nilOr (h : RepS B w d R) : NilOr d := by
  rcases h with ⟨rfl, _⟩ | ⟨T, rfl, t, _⟩
  · exact .inl rfl
  · exact .inr ⟨_, T, rfl, t.sq, Nat.succ_pos _⟩
theorem RepF.nilOr (h : RepF B w d P) : NilOr d := by
  rcases h with ⟨rfl, _⟩ | ⟨T, rfl, t, _⟩
  · exact .inl rfl
  · exact .inr ⟨_, T, rfl, t.sq, Nat.succ_pos _⟩
/-- a step's relation looks at its own values alone -/
def Loc (w : Nat) (R : Rel) : Prop := ∀ a a' b b', (∀ i, i < w → a i = a' i) → (∀ i, i < w → b i = b' i) → R a b → R a' b'
def LocF (w : Nat) (P : Vl → Prop) : Prop := ∀ a a', (∀ i, i < w → a i = a' i) → P a → P a'
theorem enc_loc {a a' b b' : Vl} (h : ∀ i, i < w → a i = a' i) (h2 : ∀ i, i < w → b i = b' i) : enc w a b = enc w a' b' := by
  funext i
  unfold enc
  by_cases e : i < w
  · rw [if_pos e, if_pos e, h i e]
  · rw [if_neg e, if_neg e]
    by_cases e2 : i < 2 * w
    · rw [if_pos e2, if_pos e2, h2 _ (by omega)]
    · rw [if_neg e2, if_neg e2]
theorem encF_loc {a a' : Vl} (h : ∀ i, i < w → a i = a' i) : encF w a = encF w a' := by
  funext i
  unfold encF
  by_cases e : i < w
  · rw [if_pos e, if_pos e, h i e]
  · rw [if_neg e, if_neg e]
theorem RepS.loc (h : RepS B w d R) : Loc w R := by
  rcases h with ⟨rfl, h⟩ | ⟨T, rfl, t, h⟩
  · exact fun a a' b b' _ _ z => absurd z (h a b)
  · intro a a' b b' h1 h2 z
    rw [h] at z ⊢
    rw [← enc_loc h1 h2]; exact z
theorem RepF.loc (h : RepF B w d P) : LocF w P := by
  rcases h with ⟨rfl, h⟩ | ⟨T, rfl, t, h⟩
  · exact fun a a' _ z => absurd z (h a)
  · intro a a' h1 z
    rw [h] at z ⊢
    rw [← encF_loc h1]; exact z
end
/-- first R, then R' -/
def comp (R R' : Rel) : Rel := fun a b => ∃ m, R a m ∧ R' m b
def eqW (w : Nat) : Rel := fun a b => ∀ i, i < w → a i = b i
def iter (w : Nat) (R : Rel) : Nat → Rel
  | 0 => eqW w
  | n + 1 => comp R (iter w R n)
def compL (w : Nat) : List Rel → Rel
  | [] => eqW w
  | R :: Rs => comp R (compL w Rs)
def back (R : Rel) (P : Vl → Prop) : Vl → Prop := fun a => ∃ b, R a b ∧ P b
def conv (R : Rel) : Rel := fun a b => R b a
end L3
set_option Elab.async false
set_option linter.all false
set_option maxRecDepth 100000
set_option maxHeartbeats 4000000
namespace L3
open PySem PySem.Spec PyProof.Rows L2
/-- a row of relations by its values -/
theorem compL_seq {w : Nat} : ∀ {Rs : List Rel} {a b : Vl}, compL w Rs a b ↔ ∃ m : Nat → Vl, m 0 = a ∧ eqW w (m Rs.length) b ∧ ∀ (k : Nat) (R : Rel), Rs[k]? = some R → R (m k) (m (k + 1))
  | [], a, b => ⟨fun h => ⟨fun _ => a, rfl, h, fun k R e => by simp at e⟩, fun ⟨m, h0, h1, _⟩ => by subst h0; exact h1⟩
  | R :: Rs, a, b => by
    constructor
    · rintro ⟨c, h1, h2⟩
      obtain ⟨m, h0, hl, hk⟩ := compL_seq.mp h2
      refine ⟨fun k => if k = 0 then a else m (k - 1), rfl, ?_, fun k R' e => ?_⟩
      · show eqW w (if Rs.length + 1 = 0 then a else m (Rs.length + 1 - 1)) b
        rw [if_neg (by omega)]; exact hl
      · cases k with
        | zero =>
          have e : some R = some R' := e
          cases e
          show R a (if 0 + 1 = 0 then a else m (0 + 1 - 1))
          rw [if_neg (by omega)]
          show R a (m 0)
          rw [h0]; exact h1
        | succ k =>
          have := hk k R' e
          show R' (if k + 1 = 0 then a else m (k + 1 - 1)) (if k + 1 + 1 = 0 then a else m (k + 1 + 1 - 1))
          rw [if_neg (by omega), if_neg (by omega)]; exact this
    · rintro ⟨m, h0, hl, hk⟩
      refine ⟨m 1, by rw [← h0]; exact hk 0 R rfl, compL_seq.mpr ⟨fun k => m (k + 1), rfl, hl, fun k R' e => hk (k + 1) R' e⟩⟩
theorem iter_compL {w : Nat} {R : Rel} : ∀ n, iter w R n = compL w (List.replicate n R)
  | 0 => rfl
  | n + 1 => by rw [List.replicate_succ]; show comp R (iter w R n) = comp R _; rw [iter_compL n]
/-- a table's relation -/
def relT (w : Nat) (T : Tab) : Rel := fun a b => Meets (2 * w + 1) (at2 T) (enc w a b)
def fldT (w : Nat) (F : Tab) : Vl → Prop := fun a => Meets (w + 1) (at2 F) (encF w a)
theorem chainN_get {w k z i : Nat} (hi : i < 2 * w + 1) : (chainN w k z).getD i 0 = if i < 2 * w then k * w + i else z := by
  unfold chainN
  rw [List.getD_eq_getElem?_getD]
  by_cases h : i < 2 * w
  · rw [if_pos h, List.getElem?_append_left (by rw [rgN_len]; exact h), rgN_get h]; rfl
  · have : i = 2 * w := by omega
    subst this
    rw [if_neg h, List.getElem?_append_right (by rw [rgN_len]; exact Nat.le_refl _), rgN_len, Nat.sub_self]; rfl
theorem fieldN_get {w z i : Nat} (hi : i < w + 1) : (fieldN w z).getD i 0 = if i < w then i else z := by
  unfold fieldN
  rw [List.getD_eq_getElem?_getD]
  by_cases h : i < w
  · rw [if_pos h, List.getElem?_append_left (by rw [rgN_len]; exact h), rgN_get h]; simp
  · have : i = w := by omega
    subst this
    rw [if_neg h, List.getElem?_append_right (by rw [rgN_len]; exact Nat.le_refl _), rgN_len, Nat.sub_self]; rfl
theorem endsN_len (w l : Nat) : (endsN w l).length = 2 * w + 1 := by unfold endsN; rw [List.length_append, rgN_len, rgN_len]; omega
theorem endsN_get {w l i : Nat} (hi : i < 2 * w + 1) : (endsN w l).getD i 0 = if i < w then i else l * w + (i - w) := by
  unfold endsN
  rw [List.getD_eq_getElem?_getD]
  by_cases h : i < w
  · rw [if_pos h, List.getElem?_append_left (by rw [rgN_len]; exact h), rgN_get h]; simp
  · rw [if_neg h, List.getElem?_append_right (by rw [rgN_len]; omega), rgN_len, rgN_get (by omega)]; rfl
theorem endsN_lt {w l : Nat} (hl : 0 < l) : ∀ p ∈ endsN w l, p < (l + 1) * w + 1 := fun p hp => by
  have e : (l + 1) * w = l * w + w := by rw [Nat.add_mul, Nat.one_mul]
  rcases List.mem_append.mp hp with h | h
  · have := rgN_mem.mp h; omega
  · have := rgN_mem.mp h; omega
theorem rgN_nodup (i n : Nat) : (rgN i n).Nodup := by
  unfold rgN
  unfold List.Nodup
  rw [List.pairwise_map]
  exact List.nodup_range.imp fun h e => h (by omega)
theorem endsN_nodup {w l : Nat} (hl : 0 < l) : (endsN w l).Nodup := by
  unfold endsN
  rw [List.nodup_append]
  refine ⟨rgN_nodup _ _, rgN_nodup _ _, fun a h1 b h2 => ?_⟩
  have h1 := rgN_mem.mp h1
  have h2 := rgN_mem.mp h2
  have : w ≤ l * w := Nat.le_mul_of_pos_left w hl
  omega
/-- a column's values in a row of all columns -/
theorem part_meets {w k z : Nat} {T : Tab} (sq : Sq (2 * w + 1) T) {v : Vl} (hz : v z = 0) : MeetsP (T, chainN w k z) v ↔ relT w T (fun i => v (k * w + i)) (fun i => v ((k + 1) * w + i)) := by
  show Meets T.length (at2 T) _ ↔ _
  rw [sq.rows]
  refine Meets.loc fun i hi => ?_
  rw [chainN_get hi]
  unfold enc
  by_cases h : i < w
  · rw [if_pos h, if_pos (by omega)]
  · rw [if_neg h]
    by_cases h2 : i < 2 * w
    · rw [if_pos h2, if_pos h2]
      have : (k + 1) * w + (i - w) = k * w + i := by rw [Nat.add_mul, Nat.one_mul]; omega
      dsimp only
      rw [this]
    · rw [if_neg h2, if_neg h2, hz]
theorem part_meetsF {w z : Nat} {F : Tab} (sq : Sq (w + 1) F) {v : Vl} (hz : v z = 0) : MeetsP (F, fieldN w z) v ↔ fldT w F (fun i => v (0 * w + i)) := by
  show Meets F.length (at2 F) _ ↔ _
  rw [sq.rows]
  refine Meets.loc fun i hi => ?_
  rw [fieldN_get hi]
  unfold encF
  by_cases h : i < w
  · rw [if_pos h, if_pos h]; simp
  · rw [if_neg h, if_neg h, hz]
theorem relT_loc {w : Nat} {T : Tab} : Loc w (relT w T) := fun a a' b b' h1 h2 z => by
  unfold relT at *; rw [← enc_loc h1 h2]; exact z
theorem fldT_loc {w : Nat} {T : Tab} : LocF w (fldT w T) := fun a a' h1 z => by
  unfold fldT at *; rw [← encF_loc h1]; exact z
/-- meeting all parts of a chain, by columns -/
theorem chain_meets {w : Nat} {Ts : List Tab} {F : Tab} (sq : ∀ T ∈ Ts, Sq (2 * w + 1) T) (sF : F = [] ∨ Sq (w + 1) F) {v : Vl} (hz : v ((Ts.length + 1) * w) = 0) :
    (∀ x ∈ chainP w Ts F, MeetsP x v) ↔ (F = [] ∨ fldT w F fun i => v (0 * w + i)) ∧ ∀ k T, Ts[k]? = some T → relT w T (fun i => v (k * w + i)) (fun i => v ((k + 1) * w + i)) := by
  unfold chainP
  simp only [List.mem_cons, forall_eq_or_imp, List.mem_map, List.mem_range, forall_exists_index, and_imp, forall_apply_eq_imp_iff₂]
  refine and_congr ?_ ?_
  · rcases sF with rfl | sF
    · exact ⟨fun _ => .inl rfl, fun _ p q hp => absurd hp (Nat.not_lt_zero _)⟩
    · rw [part_meetsF sF hz]
      refine ⟨.inr, fun h => h.resolve_left fun e => ?_⟩
      have := sF.rows
      rw [e] at this; simp at this
  · constructor
    · intro h k T e
      have hk := (List.getElem?_eq_some_iff.mp e).1
      have e2 : Ts.getD k [] = T := by rw [List.getD_eq_getElem?_getD, e]; rfl
      have := h k hk
      rw [e2] at this
      exact (part_meets (sq T (List.mem_of_getElem? e)) hz).mp this
    · intro h k hk
      have e : Ts[k]? = some (Ts.getD k []) := by rw [List.getD_eq_getElem?_getD, List.getElem?_eq_getElem hk]; rfl
      exact (part_meets (sq _ (List.mem_of_getElem? e)) hz).mpr (h k _ e)
/-- one value of each column, of all columns -/
def colV (w z : Nat) (m : Nat → Vl) : Vl := fun i => if i = z then 0 else m (i / w) (i % w)
theorem colV_at {w k i L : Nat} {m : Nat → Vl} (hi : i < w) (hk : k ≤ L) : colV w ((L + 1) * w) m (k * w + i) = m k i := by
  unfold colV
  have hlt : k * w + i < (L + 1) * w := by
    have : (k + 1) * w ≤ (L + 1) * w := Nat.mul_le_mul_right w (by omega)
    rw [Nat.add_mul, Nat.one_mul] at this; omega
  rw [if_neg (by omega)]
  have h1 : (k * w + i) / w = k := by rw [Nat.mul_comm, Nat.mul_add_div (by omega), Nat.div_eq_of_lt hi]; omega
  have h2 : (k * w + i) % w = i := by rw [Nat.mul_comm, Nat.mul_add_mod]; exact Nat.mod_eq_of_lt hi
  rw [h1, h2]
/-- the two ends of a chain -/
theorem chain_rel {w B : Nat} {Ts : List Tab} {X : Tab} (hw : 0 < w) (hL : 0 < Ts.length) (sq : ∀ T ∈ Ts, Sq (2 * w + 1) T) (hX : PutIs B ((Ts.length + 1) * w + 1) (chainP w Ts []) X) (a b : Vl) :
    Proj ((Ts.length + 1) * w + 1) (endsN w Ts.length) (Meets ((Ts.length + 1) * w + 1) (at2 X)) (enc w a b) ↔ compL w (Ts.map (relT w)) a b := by
  rw [compL_seq, List.length_map]
  have ez : (Ts.length + 1) * w = Ts.length * w + w := by rw [Nat.add_mul, Nat.one_mul]
  constructor
  · rintro ⟨v, m, ag⟩
    rw [endsN_len] at ag
    have hz : v ((Ts.length + 1) * w) = 0 := by
      have := ag (2 * w) (by omega)
      rw [endsN_get (by omega), if_neg (by omega)] at this
      have e : Ts.length * w + (2 * w - w) = (Ts.length + 1) * w := by omega
      rw [e] at this
      rw [this]; unfold enc; rw [if_neg (by omega), if_neg (by omega)]
    rw [hX.meets, chain_meets sq (.inl rfl) hz] at m
    have h0 : ∀ i, i < w → v (0 * w + i) = a i := fun i hi => by
      have := ag i (by omega)
      rw [endsN_get (by omega), if_pos hi] at this
      rw [Nat.zero_mul, Nat.zero_add, this]; unfold enc; rw [if_pos hi]
    refine ⟨fun k => if k = 0 then a else fun i => v (k * w + i), rfl, fun i hi => ?_, fun k R e => ?_⟩
    · show (if Ts.length = 0 then a else fun i => v (Ts.length * w + i)) i = b i
      rw [if_neg (by omega)]
      have := ag (w + i) (by omega)
      rw [endsN_get (by omega), if_neg (by omega)] at this
      have e : Ts.length * w + (w + i - w) = Ts.length * w + i := by omega
      rw [e] at this
      show v (Ts.length * w + i) = b i
      rw [this]; unfold enc; rw [if_neg (by omega), if_pos (by omega)]
      have e : w + i - w = i := by omega
      rw [e]
    · rw [List.getElem?_map] at e
      obtain ⟨T, hT, rfl⟩ := Option.map_eq_some_iff.mp e
      have := m.2 k T hT
      show relT w T (if k = 0 then a else fun i => v (k * w + i)) (if k + 1 = 0 then a else fun i => v ((k + 1) * w + i))
      rw [if_neg (show ¬ k + 1 = 0 by omega)]
      by_cases hk : k = 0
      · rw [if_pos hk]
        subst hk
        exact relT_loc _ _ _ _ h0 (fun _ _ => rfl) this
      · rw [if_neg hk]; exact this
  · rintro ⟨m, h0, hl, hk⟩
    refine ⟨colV w ((Ts.length + 1) * w) m, ?_, fun i hi => ?_⟩
    · have hz : colV w ((Ts.length + 1) * w) m ((Ts.length + 1) * w) = 0 := by unfold colV; rw [if_pos rfl]
      rw [hX.meets, chain_meets sq (.inl rfl) hz]
      refine ⟨.inl rfl, fun k T hT => ?_⟩
      have hkl := (List.getElem?_eq_some_iff.mp hT).1
      refine relT_loc _ _ _ _ (fun i hi => (colV_at hi (by omega)).symm) (fun i hi => (colV_at hi (by omega)).symm) (hk k (relT w T) (by rw [List.getElem?_map, hT]; rfl))
    · rw [endsN_len] at hi
      rw [endsN_get hi]
      unfold enc
      by_cases h : i < w
      · rw [if_pos h, if_pos h]
        have := colV_at (w := w) (k := 0) (L := Ts.length) (m := m) h (Nat.zero_le _)
        rw [Nat.zero_mul, Nat.zero_add] at this
        rw [this, h0]
      · rw [if_neg h, if_neg h]
        by_cases h2 : i < 2 * w
        · rw [if_pos h2, colV_at (by omega) (Nat.le_refl _)]
          exact hl _ (by omega)
        · rw [if_neg h2]
          have : Ts.length * w + (i - w) = (Ts.length + 1) * w := by omega
          rw [this]; unfold colV; rw [if_pos rfl]
theorem part_edges {B n : Nat} {x : Part} (ok : PartOk B n x) : ∃ ts, PEdges B n [x] ts := by
  have inn : ∀ i, i < x.1.length → x.2.getD i 0 < n := fun i hi => by
    have : i < x.2.length := Nat.lt_of_lt_of_le hi ok.len
    rw [List.getD_eq_getElem?_getD, List.getElem?_eq_getElem this]
    exact ok.inn _ (List.getElem_mem this)
  let one : Nat → Nat → List Trip := fun i j => match at2 x.1 i j with
    | some c => [(((x.2.getD i 0 : Nat) : Int), ((x.2.getD j 0 : Nat) : Int), c)]
    | none => []
  let ts : List Trip := (List.range x.1.length).flatMap fun i => (List.range x.1.length).flatMap fun j => one i j
  have mem : ∀ t, t ∈ ts ↔ ∃ i j c, i < x.1.length ∧ j < x.1.length ∧ at2 x.1 i j = some c ∧ t = (((x.2.getD i 0 : Nat) : Int), ((x.2.getD j 0 : Nat) : Int), c) := fun t => by
    simp only [ts, List.mem_flatMap, List.mem_range]
    constructor
    · rintro ⟨i, hi, j, hj, h⟩
      simp only [one] at h
      cases e : at2 x.1 i j with
      | none => rw [e] at h; cases h
      | some c => rw [e] at h; exact ⟨i, j, c, hi, hj, e, List.mem_singleton.mp h⟩
    · rintro ⟨i, j, c, hi, hj, e, rfl⟩
      refine ⟨i, hi, j, hj, ?_⟩
      simp only [one, e, List.mem_singleton]
  refine ⟨ts, .one (fun t ht => ?_) fun s => ?_⟩
  · obtain ⟨i, j, c, hi, hj, e, rfl⟩ := (mem t).mp ht
    have i1 := inn i hi
    have i2 := inn j hj
    exact ⟨⟨by simp only; omega, by simp only; omega, by simp only; omega, by simp only; omega⟩, ends_at' ok.tb c e⟩
  · constructor
    · intro h i hi j hj
      cases e : at2 x.1 i j with
      | none =>
        show eLe (s (x.2.getD j 0)) (eAdd (s (x.2.getD i 0)) none)
        cases s (x.2.getD i 0) <;> exact eLe_none
      | some c =>
        have := h (edgeOf (((x.2.getD i 0 : Nat) : Int), ((x.2.getD j 0 : Nat) : Int), c)) (List.mem_map_of_mem ((mem _).mpr ⟨i, j, c, hi, hj, e, rfl⟩))
        simpa [edgeOf] using this
    · intro h e he
      obtain ⟨t, ht, rfl⟩ := List.mem_map.mp he
      obtain ⟨i, j, c, hi, hj, e, rfl⟩ := (mem t).mp ht
      have := h i hi j hj
      rw [e] at this
      simpa [edgeOf] using this
theorem parts_edges {B n : Nat} : ∀ {xs : List Part}, (∀ x ∈ xs, PartOk B n x) → ∃ ts, PEdges B n xs ts
  | [], _ => ⟨[], ⟨(fun t ht => nomatch ht), fun s => ⟨(fun _ x hx => nomatch hx), (fun _ e he => nomatch he)⟩⟩⟩
  | x :: xs, h => by
    obtain ⟨ts, h1⟩ := part_edges (h x (by simp))
    obtain ⟨us, h2⟩ := parts_edges (xs := xs) fun y hy => h y (by simp [hy])
    exact ⟨ts ++ us, h1.app h2⟩
theorem chainP_ok {B w : Nat} {Ts : List Tab} {F : Tab} (hT : ∀ T ∈ Ts, TabB B (2 * w + 1) T) (hF : F = [] ∨ TabB B (w + 1) F) : ∀ x ∈ chainP w Ts F, PartOk B ((Ts.length + 1) * w + 1) x := by
  intro x hx
  have hwz : w ≤ (Ts.length + 1) * w := Nat.le_mul_of_pos_left w (Nat.succ_pos _)
  rcases List.mem_cons.mp hx with rfl | hx
  · exact field_ok hF hwz
  · obtain ⟨k, hk, rfl⟩ := List.mem_map.mp hx
    rw [List.mem_range] at hk
    have e : Ts[k]? = some (Ts.getD k []) := by rw [List.getD_eq_getElem?_getD, List.getElem?_eq_getElem hk]; rfl
    exact part_ok (hT _ (List.mem_of_getElem? e)) (chain_len w k _) (chain_lt (Nat.mul_le_mul_right _ (by omega)))
theorem chain_put {B w : Nat} {Ts : List Tab} {F : Tab} (hT : ∀ T ∈ Ts, TabB B (2 * w + 1) T) (hF : F = [] ∨ TabB B (w + 1) F) : ∃ X, PutIs B ((Ts.length + 1) * w + 1) (chainP w Ts F) X := by
  obtain ⟨ts, h⟩ := parts_edges (chainP_ok hT hF)
  exact ⟨_, h.put⟩
/-- some points of a table closed, with how far they are -/
theorem OnlyOf.denB {n B : Nat} {X : Tab} {ps : List Nat} {d : D} (c : OnlyOf n B X ps d) (tX : TabB B n X) (nd : ps.Nodup) (hp : ∀ p ∈ ps, p < n) :
    (d = .tup [] ∧ ∀ u, ¬ Proj n ps (Meets n (at2 X)) u) ∨ ∃ S : Tab, d = tabD S ∧ TabB (n * B + 1) ps.length S ∧ IsCl ps.length (at2 S) (at2 S) ∧ ∀ u, Proj n ps (Meets n (at2 X)) u ↔ Meets ps.length (at2 S) u := by
  have h := c.den nd hp
  rcases h with h | ⟨S, rfl, sq, cl, h⟩
  · exact .inl h
  · refine .inr ⟨S, rfl, ?_, cl, h⟩
    rcases c with ⟨_, e⟩ | ⟨S', t', c', e⟩
    · have hS : S = [] := by
        unfold tabD at e
        have e := D.tup.inj e
        cases S with
        | nil => rfl
        | cons a b => cases e
      subst hS
      exact ⟨sq.rows, (fun r hr => nomatch hr), (fun r hr => nomatch hr)⟩
    · have e := tabD_inj e
      subst e
      have tS : TabB (n * B + 1) n S' := ⟨t'.rows, t'.cols, ends_of (fun p q hp hq => cl_bound c' (fun p q hp hq => ends_at' tX) hp hq) t'.sq⟩
      exact partT_b tS
/-- a row of tables, as a step closed -/
theorem row_den {w B : Nat} {Ts : List Tab} {d : D} (hw : 0 < w) (hL : 0 < Ts.length) (hT : ∀ T ∈ Ts, TabB B (2 * w + 1) T) (h : RowIs B ((Ts.length + 1) * w + 1) (chainP w Ts []) (endsN w Ts.length) d) :
    DenS (((Ts.length + 1) * w + 1) * B + 1) w d (compL w (Ts.map (relT w))) := by
  obtain ⟨X, hX, c⟩ := h
  have r := chain_rel hw hL (fun T hT' => (hT T hT').sq) hX
  rcases c.denB hX.tb (endsN_nodup hL) (endsN_lt hL) with ⟨rfl, h⟩ | ⟨S, rfl, t, cl, h⟩
  · exact .inl ⟨rfl, fun a b z => h _ ((r a b).mpr z)⟩
  · rw [endsN_len] at t cl h
    exact .inr ⟨S, rfl, t, cl, fun a b => by rw [← r, h]⟩
/-- there is such a row -/
theorem row_ex {w B : Nat} {Ts : List Tab} (hB : 0 < B) (hT : ∀ T ∈ Ts, TabB B (2 * w + 1) T) : ∃ d, RowIs B ((Ts.length + 1) * w + 1) (chainP w Ts []) (endsN w Ts.length) d := by
  obtain ⟨X, hX⟩ := chain_put hT (F := []) (.inl rfl)
  obtain ⟨d, c⟩ := closes_ex hX.tb hB
  obtain ⟨d', c', _⟩ := OnlyOf.of (ps := endsN w Ts.length) c
  exact ⟨d', X, hX, c'⟩
/-- how far the ends of many turns are -/
theorem iter_bound {w B B' n : Nat} {d d0 : D} {R : Rel} (hw : 0 < w) (hn : 0 < n) (hB : 0 < B) (h0 : RepS B w d0 R) (h : DenS B' w d (iter w R n)) : DenS (((n + 1) * w + 1) * B + 1) w d (iter w R n) := by
  rcases h0 with ⟨_, h0⟩ | ⟨T, _, tT, hT⟩
  · rcases h with h | ⟨S, _, _, c, h⟩
    · exact .inl h
    · exfalso
      obtain ⟨a, b, m⟩ := some_enc c.some
      obtain ⟨k, rfl⟩ : ∃ k, n = k + 1 := ⟨n - 1, by omega⟩
      obtain ⟨c, z, _⟩ := (h a b).mpr m
      exact h0 _ _ z
  · have all : ∀ U ∈ List.replicate n T, TabB B (2 * w + 1) U := fun U hU => by rw [List.eq_of_mem_replicate hU]; exact tT
    obtain ⟨d', r⟩ := row_ex hB all
    have hd := row_den hw (by rw [List.length_replicate]; exact hn) all r
    rw [List.length_replicate, List.map_replicate] at hd
    have e : ∀ a b, compL w (List.replicate n (relT w T)) a b ↔ iter w R n a b := fun a b => by
      have : relT w T = R := by funext a b; exact propext (hT a b).symm
      rw [this, iter_compL]
    have eq := hd.uniq h e
    rw [← eq]
    exact hd.congr e
end L3
set_option Elab.async false
set_option linter.all false
set_option maxRecDepth 100000
set_option maxHeartbeats 4000000
namespace L3
open PySem PySem.Spec PyProof.Rows L2
theorem aheadN_get {w i : Nat} (hi : i < 2 * w + 1) : (aheadN w).getD i 0 = if i < 2 * w then i else 3 * w := by
  unfold aheadN
  rw [List.getD_eq_getElem?_getD]
  by_cases h : i < 2 * w
  · rw [if_pos h, List.getElem?_append_left (by rw [rgN_len]; exact h), rgN_get h]; simp
  · have : i = 2 * w := by omega
    subst this
    rw [if_neg h, List.getElem?_append_right (by rw [rgN_len]; exact Nat.le_refl _), rgN_len, Nat.sub_self]; rfl
theorem laterN_get {w i : Nat} (hi : i < 2 * w + 1) : (laterN w).getD i 0 = w + i := by
  unfold laterN
  rw [List.getD_eq_getElem?_getD, rgN_get hi]; rfl
theorem keptB_len (w : Nat) : (keptB w).length = 2 * w + 1 := by unfold keptB; rw [List.length_append, List.length_append, rgN_len, rgN_len]; show w + w + 1 = _; omega
theorem keptB_get {w i : Nat} (hi : i < 2 * w + 1) : (keptB w).getD i 0 = if i < w then i else w + i := by
  unfold keptB
  rw [List.getD_eq_getElem?_getD]
  by_cases h : i < w
  · rw [if_pos h, List.append_assoc, List.getElem?_append_left (by rw [rgN_len]; exact h), rgN_get h]; simp
  · rw [if_neg h]
    by_cases h2 : i < 2 * w
    · rw [List.append_assoc, List.getElem?_append_right (by rw [rgN_len]; omega), rgN_len, List.getElem?_append_left (by rw [rgN_len]; omega), rgN_get (by omega)]
      show 2 * w + (i - w) = w + i; omega
    · have : i = 2 * w := by omega
      subst this
      rw [List.getElem?_append_right (by rw [List.length_append, rgN_len, rgN_len]; omega), List.length_append, rgN_len, rgN_len]
      have e : 2 * w - (w + w) = 0 := by omega
      rw [e]; show 3 * w = w + 2 * w; omega
theorem keptB_lt (w : Nat) : ∀ p ∈ keptB w, p < 3 * w + 1 := fun p hp => by
  rcases List.mem_append.mp hp with h | h
  · rcases List.mem_append.mp h with h | h
    · have := rgN_mem.mp h; omega
    · have := rgN_mem.mp h; omega
  · rw [List.mem_singleton] at h; omega
theorem keptB_nodup (w : Nat) : (keptB w).Nodup := by
  unfold keptB
  rw [List.nodup_append, List.nodup_append]
  refine ⟨⟨rgN_nodup _ _, rgN_nodup _ _, fun a h1 b h2 => ?_⟩, by simp, fun a h1 b h2 => ?_⟩
  · have h1 := rgN_mem.mp h1
    have h2 := rgN_mem.mp h2
    omega
  · rw [List.mem_singleton] at h2
    rcases List.mem_append.mp h1 with h | h
    · have := rgN_mem.mp h; omega
    · have := rgN_mem.mp h; omega
theorem cases3 {w i : Nat} (hi : i < 2 * w + 1) : i < w ∨ (∃ j, j < w ∧ i = w + j) ∨ i = 2 * w := by
  by_cases h : i < w
  · exact .inl h
  · by_cases h2 : i < 2 * w
    · exact .inr (.inl ⟨i - w, by omega, by omega⟩)
    · exact .inr (.inr (by omega))
theorem enc_a {w i : Nat} {a b : Vl} (h : i < w) : enc w a b i = a i := by unfold enc; rw [if_pos h]
theorem enc_b {w i : Nat} {a b : Vl} (h : i < w) : enc w a b (w + i) = b i := by
  unfold enc
  rw [if_neg (by omega), if_pos (by omega)]
  congr 1; omega
theorem enc_z {w : Nat} {a b : Vl} : enc w a b (2 * w) = 0 := by unfold enc; rw [if_neg (by omega), if_neg (by omega)]
theorem encF_a {w i : Nat} {a : Vl} (h : i < w) : encF w a i = a i := by unfold encF; rw [if_pos h]
theorem encF_z {w : Nat} {a : Vl} : encF w a w = 0 := by unfold encF; rw [if_neg (by omega)]
/-- a function is that of its three parts -/
theorem enc_eq {w : Nat} {a b v : Vl} (h1 : ∀ i, i < w → v i = a i) (h2 : ∀ i, i < w → v (w + i) = b i) (h3 : v (2 * w) = 0) : ∀ i, i < 2 * w + 1 → enc w a b i = v i := fun i hi => by
  rcases cases3 hi with h | ⟨j, h, rfl⟩ | rfl
  · rw [enc_a h, h1 i h]
  · rw [enc_b h, h2 j h]
  · rw [enc_z, h3]
def v3 (w : Nat) (a c b : Vl) : Vl := fun i => if i < w then a i else if i < 2 * w then c (i - w) else if i < 3 * w then b (i - 2 * w) else 0
theorem v3_a {w i : Nat} {a c b : Vl} (h : i < w) : v3 w a c b i = a i := by unfold v3; rw [if_pos h]
theorem v3_c {w i : Nat} {a c b : Vl} (h : i < w) : v3 w a c b (w + i) = c i := by
  unfold v3
  rw [if_neg (by omega), if_pos (by omega)]
  congr 1; omega
theorem v3_b {w i : Nat} {a c b : Vl} (h : i < w) : v3 w a c b (2 * w + i) = b i := by
  unfold v3
  rw [if_neg (by omega), if_neg (by omega), if_pos (by omega)]
  congr 1; omega
theorem v3_z {w : Nat} {a c b : Vl} : v3 w a c b (3 * w) = 0 := by unfold v3; rw [if_neg (by omega), if_neg (by omega), if_neg (by omega)]
theorem behind_rel {w B : Nat} {T U X : Tab} (sT : Sq (2 * w + 1) T) (sU : Sq (2 * w + 1) U) (hX : PutIs B (3 * w + 1) [(T, aheadN w), (U, laterN w)] X) (a b : Vl) :
    Proj (3 * w + 1) (keptB w) (Meets (3 * w + 1) (at2 X)) (enc w a b) ↔ comp (relT w T) (relT w U) a b := by
  have mT : ∀ v : Vl, MeetsP (T, aheadN w) v ↔ Meets (2 * w + 1) (at2 T) (fun i => v ((aheadN w).getD i 0)) := fun v => by
    show Meets T.length _ _ ↔ _; rw [sT.rows]
  have mU : ∀ v : Vl, MeetsP (U, laterN w) v ↔ Meets (2 * w + 1) (at2 U) (fun i => v ((laterN w).getD i 0)) := fun v => by
    show Meets U.length _ _ ↔ _; rw [sU.rows]
  have ah1 : ∀ i, i < w → (aheadN w).getD i 0 = i := fun i h => by rw [aheadN_get (by omega), if_pos (by omega)]
  have ah2 : ∀ i, i < w → (aheadN w).getD (w + i) 0 = w + i := fun i h => by rw [aheadN_get (by omega), if_pos (by omega)]
  have ah3 : (aheadN w).getD (2 * w) 0 = 3 * w := by rw [aheadN_get (by omega), if_neg (by omega)]
  have la : ∀ i, i < 2 * w + 1 → (laterN w).getD i 0 = w + i := fun i h => laterN_get h
  have k1 : ∀ i, i < w → (keptB w).getD i 0 = i := fun i h => by rw [keptB_get (by omega), if_pos h]
  have k2 : ∀ i, i < w → (keptB w).getD (w + i) 0 = 2 * w + i := fun i h => by rw [keptB_get (by omega), if_neg (by omega)]; omega
  have k3 : (keptB w).getD (2 * w) 0 = 3 * w := by rw [keptB_get (by omega)]; split <;> omega
  constructor
  · rintro ⟨v, m, ag⟩
    rw [keptB_len] at ag
    rw [hX.meets] at m
    have m1 := (mT v).mp (m _ (by simp))
    have m2 := (mU v).mp (m _ (by simp))
    have g1 : ∀ i, i < w → v i = a i := fun i h => by have := ag i (by omega); rw [k1 i h, enc_a h] at this; exact this
    have g2 : ∀ i, i < w → v (2 * w + i) = b i := fun i h => by have := ag (w + i) (by omega); rw [k2 i h, enc_b h] at this; exact this
    have g3 : v (3 * w) = 0 := by have := ag (2 * w) (by omega); rw [k3, enc_z] at this; exact this
    refine ⟨fun j => v (w + j), ?_, ?_⟩
    · refine (Meets.loc (enc_eq (fun i h => ?_) (fun i h => ?_) ?_)).mp m1
      · rw [ah1 i h, g1 i h]
      · rw [ah2 i h]
      · rw [ah3, g3]
    · refine (Meets.loc (enc_eq (fun i h => ?_) (fun i h => ?_) ?_)).mp m2
      · rw [la i (by omega)]
      · rw [la (w + i) (by omega), ← g2 i h]; congr 1; omega
      · rw [la (2 * w) (by omega), ← g3]; congr 1; omega
  · rintro ⟨c, h1, h2⟩
    refine ⟨v3 w a c b, ?_, fun i hi => ?_⟩
    · rw [hX.meets]
      have q1 : ∀ i, i < 2 * w + 1 → enc w a c i = v3 w a c b ((aheadN w).getD i 0) := enc_eq (v := fun i => v3 w a c b ((aheadN w).getD i 0)) (fun i h => by rw [ah1 i h, v3_a h]) (fun i h => by rw [ah2 i h, v3_c h]) (by rw [ah3, v3_z])
      have q2 : ∀ i, i < 2 * w + 1 → enc w c b i = v3 w a c b ((laterN w).getD i 0) := enc_eq (v := fun i => v3 w a c b ((laterN w).getD i 0)) (fun i h => by rw [la i (by omega), v3_c h]) (fun i h => by
        rw [la (w + i) (by omega)]
        have e : w + (w + i) = 2 * w + i := by omega
        rw [e, v3_b h]) (by
        rw [la (2 * w) (by omega)]
        have e : w + 2 * w = 3 * w := by omega
        rw [e, v3_z])
      exact two_ok ((mT _).mpr ((Meets.loc fun i hi => (q1 i hi).symm).mp h1)) ((mU _).mpr ((Meets.loc fun i hi => (q2 i hi).symm).mp h2))
    · rw [keptB_len] at hi
      rcases cases3 hi with h | ⟨j, h, rfl⟩ | rfl
      · rw [k1 i h, v3_a h, enc_a h]
      · rw [k2 j h, v3_b h, enc_b h]
      · rw [k3, v3_z, enc_z]
theorem comp_congr {R R' S S' : Rel} (h : ∀ a b, R a b ↔ R' a b) (h2 : ∀ a b, S a b ↔ S' a b) (a b : Vl) : comp R S a b ↔ comp R' S' a b :=
  ⟨fun ⟨m, x, y⟩ => ⟨m, (h _ _).mp x, (h2 _ _).mp y⟩, fun ⟨m, x, y⟩ => ⟨m, (h _ _).mpr x, (h2 _ _).mpr y⟩⟩
/-- one step behind another, by relations -/
def SBehD (sp : Sp3) : Prop := ∀ (w B : Nat) (d e : D) (R S : Rel) (Q : VK3) (E : XK3), w ≤ 100 → 0 < B → RepS B w d R → RepS B w e S → (∀ c M, DenS ((3 * w + 1) * B + 1) w c (comp R S) → Q c M) → sp [d, e] M0 Q E
theorem s_behD {sp : Sp3} (k : SBehind sp) : SBehD sp := by
  intro w B d e R S Q E hw hB h1 h2 q
  rcases h1 with ⟨rfl, h1⟩ | ⟨T, rfl, tT, h1⟩
  · refine k.n _ _ _ _ (.inl ⟨rfl, ?_⟩) fun M => q _ _ (.inl ⟨rfl, fun a b ⟨c, z, _⟩ => h1 _ _ z⟩)
    rcases h2 with ⟨rfl, _⟩ | ⟨U, rfl, tU, _⟩
    · exact .inl rfl
    · exact .inr ⟨_, U, rfl, tU.sq, Nat.succ_pos _⟩
  · rcases h2 with ⟨rfl, h2⟩ | ⟨U, rfl, tU, h2⟩
    · exact k.n _ _ _ _ (.inr ⟨rfl, _, T, rfl, tT.sq, Nat.succ_pos _⟩) fun M => q _ _ (.inl ⟨rfl, fun a b ⟨c, _, z⟩ => h2 _ _ z⟩)
    · refine k.t w B T U _ _ hw tT tU hB fun X c M hX hc => q _ _ ?_
      have r := behind_rel tT.sq tU.sq hX
      have e : ∀ a b, comp (relT w T) (relT w U) a b ↔ comp R S a b := comp_congr (fun a b => (h1 a b).symm) fun a b => (h2 a b).symm
      rcases hc.denB hX.tb (keptB_nodup w) (keptB_lt w) with ⟨rfl, h⟩ | ⟨V, rfl, t, cl, h⟩
      · exact .inl ⟨rfl, fun a b z => h _ ((r a b).mpr ((e a b).mpr z))⟩
      · rw [keptB_len] at t cl h
        exact .inr ⟨V, rfl, t, cl, fun a b => by rw [← e, ← r, h]⟩
theorem allN_get {w i : Nat} (hi : i < 2 * w + 1) : (allN w).getD i 0 = i := by
  unfold allN
  rw [List.getD_eq_getElem?_getD, rgN_get hi]; simp
theorem placesN_get {w f i : Nat} (hi : i < w + 1) : (placesN w f).getD i 0 = if i < w then f + i else 2 * w := by
  unfold placesN
  rw [List.getD_eq_getElem?_getD]
  by_cases h : i < w
  · rw [if_pos h, List.getElem?_append_left (by rw [rgN_len]; exact h), rgN_get h]; rfl
  · have : i = w := by omega
    subst this
    rw [if_neg h, List.getElem?_append_right (by rw [rgN_len]; exact Nat.le_refl _), rgN_len, Nat.sub_self]; rfl
theorem placesN_nodup {w f : Nat} (h : f + w ≤ 2 * w) : (placesN w f).Nodup := by
  unfold placesN
  rw [List.nodup_append]
  refine ⟨rgN_nodup _ _, by simp, fun a h1 b h2 => ?_⟩
  rw [List.mem_singleton] at h2
  have := rgN_mem.mp h1; omega
theorem all_meets {w : Nat} {T : Tab} (sT : Sq (2 * w + 1) T) (v : Vl) : MeetsP (T, allN w) v ↔ Meets (2 * w + 1) (at2 T) v := by
  show Meets T.length _ _ ↔ _
  rw [sT.rows]
  exact Meets.loc fun i hi => by rw [allN_get hi]
theorem field_meets {w f : Nat} {F : Tab} (sF : Sq (w + 1) F) {v : Vl} (hz : v (2 * w) = 0) : MeetsP (F, placesN w f) v ↔ fldT w F fun i => v (f + i) := by
  show Meets F.length _ _ ↔ _
  rw [sF.rows]
  refine Meets.loc fun i hi => ?_
  rw [placesN_get hi]
  unfold encF
  by_cases h : i < w
  · rw [if_pos h, if_pos h]
  · rw [if_neg h, if_neg h, hz]
/-- values of one column behind or ahead of a step -/
theorem led_rel {w B f g : Nat} (hf : f + w ≤ 2 * w) (hg : g + w ≤ 2 * w) {T F X : Tab} (sT : Sq (2 * w + 1) T) (sF : Sq (w + 1) F) (hX : PutIs B (2 * w + 1) [(T, allN w), (F, placesN w f)] X) (c : Vl) :
    Proj (2 * w + 1) (placesN w g) (Meets (2 * w + 1) (at2 X)) (encF w c) ↔ ∃ a b, relT w T a b ∧ fldT w F (fun i => enc w a b (f + i)) ∧ ∀ i, i < w → enc w a b (g + i) = c i := by
  have pl : (placesN w g).length = w + 1 := places_len w g
  constructor
  · rintro ⟨v, m, ag⟩
    rw [pl] at ag
    rw [hX.meets] at m
    have hz : v (2 * w) = 0 := by
      have := ag w (by omega)
      rw [placesN_get (by omega), if_neg (by omega)] at this
      rw [this, encF_z]
    have m1 := (all_meets sT v).mp (m _ (by simp))
    have m2 := m (F, placesN w f) (by simp)
    have ev : ∀ i, i < 2 * w + 1 → enc w v (fun j => v (w + j)) i = v i := enc_eq (fun _ _ => rfl) (fun _ _ => rfl) hz
    refine ⟨v, fun j => v (w + j), (Meets.loc ev).mp m1, ?_, fun i hi => ?_⟩
    · refine fldT_loc _ _ (fun i hi => ?_) ((field_meets sF hz).mp m2)
      rw [ev _ (by omega)]
    · rw [ev _ (by omega)]
      have := ag i (by omega)
      rw [placesN_get (by omega), if_pos hi] at this
      rw [this, encF_a hi]
  · rintro ⟨a, b, h1, h2, h3⟩
    refine ⟨enc w a b, ?_, fun i hi => ?_⟩
    · rw [hX.meets]
      exact two_ok ((all_meets sT _).mpr h1) ((field_meets sF enc_z).mpr h2)
    · rw [pl] at hi
      rw [placesN_get hi]
      by_cases h : i < w
      · rw [if_pos h, encF_a h, h3 i h]
      · have : i = w := by omega
        subst this
        rw [if_neg h, enc_z, encF_z]
theorem backT_rel {w : Nat} {T F : Tab} (c : Vl) : (∃ a b, relT w T a b ∧ fldT w F (fun i => enc w a b (w + i)) ∧ ∀ i, i < w → enc w a b (0 + i) = c i) ↔ back (relT w T) (fldT w F) c := by
  constructor
  · rintro ⟨a, b, h1, h2, h3⟩
    refine ⟨b, relT_loc _ _ _ _ (fun i hi => ?_) (fun _ _ => rfl) h1, fldT_loc _ _ (fun i hi => by rw [enc_b hi]) h2⟩
    have := h3 i hi
    rw [Nat.zero_add, enc_a hi] at this; exact this
  · rintro ⟨b, h1, h2⟩
    exact ⟨c, b, h1, fldT_loc _ _ (fun i hi => by rw [enc_b hi]) h2, fun i hi => by rw [Nat.zero_add, enc_a hi]⟩
theorem keptOlds_eq (w : Nat) : keptOlds w = placesN w 0 := rfl
theorem back_congr {P P' : Vl → Prop} {R R' : Rel} (h : ∀ a, P a ↔ P' a) (h2 : ∀ a b, R a b ↔ R' a b) (b : Vl) : back R P b ↔ back R' P' b :=
  ⟨fun ⟨m, x, y⟩ => ⟨m, (h2 _ _).mp x, (h _).mp y⟩, fun ⟨m, x, y⟩ => ⟨m, (h2 _ _).mpr x, (h _).mpr y⟩⟩
def SOldsD (sp : Sp3) : Prop := ∀ (w B : Nat) (d e : D) (P : Vl → Prop) (R : Rel) (Q : VK3) (E : XK3), w ≤ 100 → 0 < B → RepF B w d P → RepS B w e R → (∀ c M, DenF ((2 * w + 1) * B + 1) w c (back R P) → Q c M) → sp [e, d] M0 Q E
theorem s_oldsD {sp : Sp3} (k : SOlds sp) : SOldsD sp := by
  intro w B d e P R Q E hw hB h1 h2 q
  have n1 := h1.nilOr
  have n2 := h2.nilOr
  rcases h1 with ⟨rfl, h1⟩ | ⟨F, rfl, tF, h1⟩
  · exact k.n2 _ _ _ n2 fun M => q _ _ (.inl ⟨rfl, fun b ⟨a, _, z⟩ => h1 _ z⟩)
  · rcases h2 with ⟨rfl, h2⟩ | ⟨T, rfl, tT, h2⟩
    · exact k.n1 _ _ _ n1 fun M => q _ _ (.inl ⟨rfl, fun b ⟨a, z, _⟩ => h2 _ _ z⟩)
    · refine k.t w B F T _ _ hw tF tT hB fun X c M hX hc => q _ _ ?_
      have r := fun c => led_rel (g := 0) (by omega) (by omega) tT.sq tF.sq hX c
      have e : ∀ b, back (relT w T) (fldT w F) b ↔ back R P b := back_congr (fun a => (h1 a).symm) fun a b => (h2 a b).symm
      rcases hc.denB hX.tb (placesN_nodup (by omega)) (places_lt w 0 (by omega)) with ⟨rfl, h⟩ | ⟨V, rfl, t, cl, h⟩
      · exact .inl ⟨rfl, fun b z => h _ ((r b).mpr ((backT_rel b).mpr ((e b).mpr z)))⟩
      · rw [keptOlds_eq, places_len] at t cl h
        exact .inr ⟨V, rfl, t, cl, fun b => by rw [← e, ← backT_rel, ← r]; exact h _⟩
theorem Closes.denB {n B : Nat} {T : Tab} {d : D} (tT : TabB B n T) (c : Closes n B T d) : (d = .tup [] ∧ ∀ v, ¬ Meets n (at2 T) v) ∨ ∃ S : Tab, d = tabD S ∧ TabB (n * B + 1) n S ∧ IsCl n (at2 S) (at2 S) ∧ ∀ v, Meets n (at2 T) v ↔ Meets n (at2 S) v := by
  rcases c with ⟨b, rfl⟩ | ⟨S, tb, cl, rfl⟩
  · exact .inl ⟨rfl, b.none⟩
  · exact .inr ⟨S, rfl, ⟨tb.rows, tb.cols, ends_of (fun p q hp hq => cl_bound cl (fun p q hp hq => ends_at' tT) hp hq) tb.sq⟩, cl.self, fun v => cl.meets⟩
theorem nil_clo {sp : Sp3} (k : SClosed sp) {Q : VK3} {E : XK3} (q : ∀ M, Q (.tup []) M) : sp [.tup []] M0 Q E :=
  k 0 1 [] Q E (by decide) ⟨rfl, (fun r hr => nomatch hr), (fun r hr => nomatch hr)⟩ (by decide) fun d M h => by
    rcases h with ⟨_, rfl⟩ | ⟨S, t, _, rfl⟩
    · exact q M
    · have : S = [] := List.eq_nil_of_length_eq_zero t.rows
      rw [this]; exact q M
def SCloS (sp : Sp3) : Prop := ∀ (w B : Nat) (d : D) (R : Rel) (Q : VK3) (E : XK3), w ≤ 100 → 0 < B → RepS B w d R → (∀ c M, DenS ((2 * w + 1) * B + 1) w c R → Q c M) → sp [d] M0 Q E
def SCloF (sp : Sp3) : Prop := ∀ (w B : Nat) (d : D) (P : Vl → Prop) (Q : VK3) (E : XK3), w ≤ 100 → 0 < B → RepF B w d P → (∀ c M, DenF ((w + 1) * B + 1) w c P → Q c M) → sp [d] M0 Q E
theorem s_cloS {sp : Sp3} (k : SClosed sp) : SCloS sp := by
  intro w B d R Q E hw hB h q
  rcases h with ⟨rfl, h⟩ | ⟨T, rfl, tT, h⟩
  · exact nil_clo k fun M => q _ _ (.inl ⟨rfl, h⟩)
  · refine k _ B T _ _ (by omega) tT hB fun d M hd => q _ _ ?_
    rcases hd.denB tT with ⟨rfl, g⟩ | ⟨S, rfl, t, cl, g⟩
    · exact .inl ⟨rfl, fun a b z => g _ ((h a b).mp z)⟩
    · exact .inr ⟨S, rfl, t, cl, fun a b => by rw [h, g]⟩
theorem s_cloF {sp : Sp3} (k : SClosed sp) : SCloF sp := by
  intro w B d P Q E hw hB h q
  rcases h with ⟨rfl, h⟩ | ⟨T, rfl, tT, h⟩
  · exact nil_clo k fun M => q _ _ (.inl ⟨rfl, h⟩)
  · refine k _ B T _ _ (by omega) tT hB fun d M hd => q _ _ ?_
    rcases hd.denB tT with ⟨rfl, g⟩ | ⟨S, rfl, t, cl, g⟩
    · exact .inl ⟨rfl, fun a z => g _ ((h a).mp z)⟩
    · exact .inr ⟨S, rfl, t, cl, fun a => by rw [h, g]⟩
end L3
set_option Elab.async false
set_option linter.all false
set_option maxRecDepth 100000
set_option maxHeartbeats 4000000
namespace L3
open PySem PySem.Spec PyProof.Rows L2
theorem mtab_meets {n : Nat} {ts : List Trip} (h : ∀ t ∈ ts, In2 n t) {v : Vl} : Meets n (at2 (mtab n ts)) v ↔ ∀ t ∈ ts, v t.1.toNat - v t.2.1.toNat ≤ t.2.2 := by
  rw [meets_st, (es_mtab h).st]
  constructor
  · intro a t ht
    have := a (edgeOf t) (List.mem_map_of_mem ht)
    have this : - v t.2.1.toNat ≤ - v t.1.toNat + t.2.2 := this
    omega
  · intro a e he
    obtain ⟨t, ht, rfl⟩ := List.mem_map.mp he
    have := a t ht
    show - v t.2.1.toNat ≤ - v t.1.toNat + t.2.2
    omega
theorem keptTs_rel {w : Nat} (a b : Vl) : Meets (2 * w + 1) (at2 (mtab (2 * w + 1) (keptTs w))) (enc w a b) ↔ eqW w a b := by
  rw [mtab_meets fun t ht => (kept_ok w t ht).1]
  unfold keptTs
  simp only [List.mem_append, List.mem_map, List.mem_range]
  constructor
  · intro h i hi
    have h1 := h (((w + i : Nat) : Int), ((i : Nat) : Int), 0) (.inl ⟨i, hi, rfl⟩)
    have h2 := h (((i : Nat) : Int), ((w + i : Nat) : Int), 0) (.inr ⟨i, hi, rfl⟩)
    simp only [Int.toNat_natCast] at h1 h2
    rw [enc_a hi, enc_b hi] at h1
    rw [enc_a hi, enc_b hi] at h2
    omega
  · rintro h t (⟨i, hi, rfl⟩ | ⟨i, hi, rfl⟩)
    · simp only [Int.toNat_natCast]
      rw [enc_a hi, enc_b hi, h i hi]; omega
    · simp only [Int.toNat_natCast]
      rw [enc_a hi, enc_b hi, h i hi]; omega
def likeR : XK3 → TS3 := fun E =>
  (wRet (wLstF (wCons (wTup (wCons (wVar 0) (wCons (wVar 1) (wCons (wVar 2) wNil)))) (wCons (wTup (wCons (wVar 1) (wCons (wVar 0) (wCons (wUn oNeg (wVar 2)) wNil)))) wNil))))
def SLike (sp : Sp3) : Prop := ∀ (p q c : Int) (Q : VK3) (E : XK3), (∀ M, Q (.rol ([((p, q, c) : Trip), (q, p, -c)].map tripD)) M) → sp [.int p, .int q, .int c] M0 Q E
theorem s_like : SLike (spOf 3 3 likeR) := by
  refine fun p q c Q E k => ⟨rfl, ?_⟩
  show likeR E _ [some (.int p), some (.int q), some (.int c)] M0
  unfold likeR
  rw [st_ret]
  simp only [ex_c, ex_var, ex_op, ex_un, ex_b, ex_and, ex_or, ex_not, ex_andV, ex_orV, ex_notV, ex_if, ex_chain, ex_nil, ex_cons, ex_tup, ex_lst, ex_call, ex_callP, ex_cb, ex_bm, ex_rep, ex_sl, ex_noPart, ex_part, ex_yes, it_items, it_rng1, it_rng2, tg_name, tg_sub, tg_tup, tg_cons, tg_nil, gs_0, gs_s, ss_0, ss_s, op_ii, op_ss, op_tt, op_mm, op_sb, op_ng, op_iNf, op_iNt, op_lle, op_ixT, op_ixR, op_ixL, op_putE, op_appE, it_tupE, it_rolE, it_refE, lstOf_l, exL, asS_some, asI_int, asB_bl, asL_some, asN_some, ite3_t, ite3_f, bl_1, bl_lenT, bl_lenR, bl_lenL, bl_lenS, bl_tuple, bl_list, bl_abs, bl_intI, bl_intB, bl_max, bl_min, op_eqSf, op_eqSt, op_eqIf, op_eqIt, op_eqTf, op_eqTt, op_eqRf, op_eqRt, op_eqNf, op_eqNt, eqD_int, eqD_nil, pl_int, pl_nil, pl_non, pl_rnil, pl_bl, sl_tupE, sl_rolE, keep_ref, keep_tup, keep_rol, tp_int, tp_tup, tp_rol, tp_str, tp_bl, tp_non, tp_ref, oFd, oMd, oPw, oShl, oLt, oLe, oGt, oGe, op_in, op_cp, wipe_nil, wipe_cons, mset_same, true_and, and_true, isN_int, ex_lstF, ex_repF, ex_lgF1, ex_lgF2, ex_tupRg1, ex_tupRg2, ex_frz, ex_slF, ex_slM, sl_tupF, sl_rolF, op_iiF, op_ssF, op_ttF, op_rrF, op_rrM, op_mmF, op_repF, li_rol, li_ref, bl_listF, bl_allF, bl_anyF, asT_some, asJ_some, op_eqBf, op_eqBt, isN_non, Bool.not_true, Bool.not_false, rep2, op_ng]
  exact ⟨szl (by simp), szl (by simp), szl (by simp), k _⟩
def keptR (sp_like : Sp3) (sp_step_of : Sp3) : XK3 → TS3 := fun E =>
  (wSeq (wSet 1 (wLst wNil))
  (wSeq (wFor (wRng1 (wCons (wVar 0) wNil)) (wgName 2) (wDrop (wBM oExtF (wVar 1) (wCons (wCallP sp_like E (wCons (wOp oAddF (wVar 0) (wVar 2)) (wCons (wVar 2) (wCons (wC (.int 0)) wNil)))) wNil))))
  (wRet (wCallP sp_step_of E (wCons (wVar 0) (wCons (wFrz (wVar 1)) wNil))))))
/-- the rows of kept as the program makes them -/
def keptPs (w : Nat) : List Trip := (List.range w).flatMap fun x => [(((w + x : Nat) : Int), ((x : Nat) : Int), 0), (((x : Nat) : Int), ((w + x : Nat) : Int), 0)]
theorem keptPs_ok (w : Nat) : TsOk (2 * w + 1) (keptPs w) := fun t ht => by
  obtain ⟨x, hx, h⟩ := List.mem_flatMap.mp ht
  rw [List.mem_range] at hx
  simp only [List.mem_cons, List.not_mem_nil, or_false] at h
  rcases h with rfl | rfl
  · exact ⟨⟨by simp only; omega, by simp only; omega, by simp only; omega, by simp only; omega⟩, by simp⟩
  · exact ⟨⟨by simp only; omega, by simp only; omega, by simp only; omega, by simp only; omega⟩, by simp⟩
theorem keptPs_mem {w : Nat} {t : Trip} : t ∈ keptPs w ↔ t ∈ keptTs w := by
  unfold keptPs keptTs
  simp only [List.mem_flatMap, List.mem_range, List.mem_cons, List.not_mem_nil, or_false, List.mem_append, List.mem_map]
  constructor
  · rintro ⟨x, hx, rfl | rfl⟩
    · exact .inl ⟨x, hx, rfl⟩
    · exact .inr ⟨x, hx, rfl⟩
  · rintro (⟨x, hx, rfl⟩ | ⟨x, hx, rfl⟩)
    · exact ⟨x, hx, .inl rfl⟩
    · exact ⟨x, hx, .inr rfl⟩
theorem keptPs_rel {w : Nat} (a b : Vl) : Meets (2 * w + 1) (at2 (mtab (2 * w + 1) (keptPs w))) (enc w a b) ↔ eqW w a b := by
  rw [← keptTs_rel, mtab_meets fun t ht => (keptPs_ok w t ht).1, mtab_meets fun t ht => (kept_ok w t ht).1]
  exact ⟨fun h t ht => h t (keptPs_mem.mpr ht), fun h t ht => h t (keptPs_mem.mp ht)⟩
theorem keptPs_b (w : Nat) : TabB 1 (2 * w + 1) (mtab (2 * w + 1) (keptPs w)) := mtab_b fun t ht => by
  obtain ⟨x, hx, h⟩ := List.mem_flatMap.mp ht
  simp only [List.mem_cons, List.not_mem_nil, or_false] at h
  rcases h with rfl | rfl <;> exact Nat.zero_lt_one
theorem kept_den {w : Nat} {d : D} (hd : Closes (2 * w + 1) 1 (mtab (2 * w + 1) (keptPs w)) d) : DenS ((2 * w + 1) * 1 + 1) w d (eqW w) := by
  rcases hd.denB (keptPs_b w) with ⟨rfl, g⟩ | ⟨S, rfl, t, cl, g⟩
  · exact absurd ((keptPs_rel (fun _ => 0) (fun _ => 0)).mpr fun _ _ => rfl) (g _)
  · exact .inr ⟨S, rfl, t, cl, fun a b => by rw [← keptPs_rel, g]⟩
theorem kept_ex (w : Nat) : ∃ c, DenS ((2 * w + 1) * 1 + 1) w c (eqW w) :=
  let ⟨c, h⟩ := closes_ex (keptPs_b w) (by decide); ⟨c, kept_den h⟩
def SKept (sp : Sp3) : Prop := ∀ (w : Nat) (Q : VK3) (E : XK3), w ≤ 100 → (∀ c M, DenS ((2 * w + 1) * 1 + 1) w c (eqW w) → Q c M) → sp [.int w] M0 Q E
theorem s_kept {sl ss : Sp3} (kl : SLike sl) (ks : SStepOf ss) : SKept (spOf 1 3 (keptR sl ss)) := by
  refine fun w Q E hw q => ⟨rfl, ?_⟩
  show keptR sl ss E _ [some (.int w), none, none] M0
  unfold keptR
  have big : (100000 : Nat) ≤ sizeLine := by decide
  rw [st_seq, st_set]
  simp only [ex_c, ex_var, ex_op, ex_un, ex_b, ex_and, ex_or, ex_not, ex_andV, ex_orV, ex_notV, ex_if, ex_chain, ex_nil, ex_cons, ex_tup, ex_lst, ex_call, ex_callP, ex_cb, ex_bm, ex_rep, ex_sl, ex_noPart, ex_part, ex_yes, it_items, it_rng1, it_rng2, tg_name, tg_sub, tg_tup, tg_cons, tg_nil, gs_0, gs_s, ss_0, ss_s, op_ii, op_ss, op_tt, op_mm, op_sb, op_ng, op_iNf, op_iNt, op_lle, op_ixT, op_ixR, op_ixL, op_putE, op_appE, it_tupE, it_rolE, it_refE, lstOf_l, exL, asS_some, asI_int, asB_bl, asL_some, asN_some, ite3_t, ite3_f, bl_1, bl_lenT, bl_lenR, bl_lenL, bl_lenS, bl_tuple, bl_list, bl_abs, bl_intI, bl_intB, bl_max, bl_min, op_eqSf, op_eqSt, op_eqIf, op_eqIt, op_eqTf, op_eqTt, op_eqRf, op_eqRt, op_eqNf, op_eqNt, eqD_int, eqD_nil, pl_int, pl_nil, pl_non, pl_rnil, pl_bl, sl_tupE, sl_rolE, keep_ref, keep_tup, keep_rol, tp_int, tp_tup, tp_rol, tp_str, tp_bl, tp_non, tp_ref, oFd, oMd, oPw, oShl, oLt, oLe, oGt, oGe, op_in, op_cp, wipe_nil, wipe_cons, mset_same, true_and, and_true, isN_int, ex_lstF, ex_repF, ex_lgF1, ex_lgF2, ex_tupRg1, ex_tupRg2, ex_frz, ex_slF, ex_slM, sl_tupF, sl_rolF, op_iiF, op_ssF, op_ttF, op_rrF, op_rrM, op_mmF, op_repF, li_rol, li_ref, bl_listF, bl_allF, bl_anyF, asT_some, asJ_some, op_eqBf, op_eqBt, isN_non, Bool.not_true, Bool.not_false, rep2]
  refine ⟨Nat.zero_le _, fun l hl => ?_⟩
  try dsimp only
  rw [st_seq, st_for]
  simp only [ex_c, ex_var, ex_op, ex_un, ex_b, ex_and, ex_or, ex_not, ex_andV, ex_orV, ex_notV, ex_if, ex_chain, ex_nil, ex_cons, ex_tup, ex_lst, ex_call, ex_callP, ex_cb, ex_bm, ex_rep, ex_sl, ex_noPart, ex_part, ex_yes, it_items, it_rng1, it_rng2, tg_name, tg_sub, tg_tup, tg_cons, tg_nil, gs_0, gs_s, ss_0, ss_s, op_ii, op_ss, op_tt, op_mm, op_sb, op_ng, op_iNf, op_iNt, op_lle, op_ixT, op_ixR, op_ixL, op_putE, op_appE, it_tupE, it_rolE, it_refE, lstOf_l, exL, asS_some, asI_int, asB_bl, asL_some, asN_some, ite3_t, ite3_f, bl_1, bl_lenT, bl_lenR, bl_lenL, bl_lenS, bl_tuple, bl_list, bl_abs, bl_intI, bl_intB, bl_max, bl_min, op_eqSf, op_eqSt, op_eqIf, op_eqIt, op_eqTf, op_eqTt, op_eqRf, op_eqRt, op_eqNf, op_eqNt, eqD_int, eqD_nil, pl_int, pl_nil, pl_non, pl_rnil, pl_bl, sl_tupE, sl_rolE, keep_ref, keep_tup, keep_rol, tp_int, tp_tup, tp_rol, tp_str, tp_bl, tp_non, tp_ref, oFd, oMd, oPw, oShl, oLt, oLe, oGt, oGe, op_in, op_cp, wipe_nil, wipe_cons, mset_same, true_and, and_true, isN_int, ex_lstF, ex_repF, ex_lgF1, ex_lgF2, ex_tupRg1, ex_tupRg2, ex_frz, ex_slF, ex_slM, sl_tupF, sl_rolF, op_iiF, op_ssF, op_ttF, op_rrF, op_rrM, op_mmF, op_repF, li_rol, li_ref, bl_listF, bl_allF, bl_anyF, asT_some, asJ_some, op_eqBf, op_eqBt, isN_non, Bool.not_true, Bool.not_false, rep2]
  refine ⟨by omega, by omega, ?_⟩
  rw [Int.toNat_natCast]
  refine for_rg (fun i τ M => i ≤ w ∧ M l = some (.lst (((List.range i).flatMap fun x : Nat => [((((w + x : Nat) : Int), ((x : Nat) : Int), 0) : Trip), (((x : Nat) : Int), ((w + x : Nat) : Int), 0)]).map tripD)) ∧ ∃ x2, τ = [some (.int w), some (.ref l), x2]) ?_ ?_ ⟨Nat.zero_le _, mset_same, _, rfl⟩
  · rintro i τ M hi ⟨_, hM, x2, rfl⟩ X hX
    rw [tg_name, st_drop]
    simp only [ex_c, ex_var, ex_op, ex_un, ex_b, ex_and, ex_or, ex_not, ex_andV, ex_orV, ex_notV, ex_if, ex_chain, ex_nil, ex_cons, ex_tup, ex_lst, ex_call, ex_callP, ex_cb, ex_bm, ex_rep, ex_sl, ex_noPart, ex_part, ex_yes, it_items, it_rng1, it_rng2, tg_name, tg_sub, tg_tup, tg_cons, tg_nil, gs_0, gs_s, ss_0, ss_s, op_ii, op_ss, op_tt, op_mm, op_sb, op_ng, op_iNf, op_iNt, op_lle, op_ixT, op_ixR, op_ixL, op_putE, op_appE, it_tupE, it_rolE, it_refE, lstOf_l, exL, asS_some, asI_int, asB_bl, asL_some, asN_some, ite3_t, ite3_f, bl_1, bl_lenT, bl_lenR, bl_lenL, bl_lenS, bl_tuple, bl_list, bl_abs, bl_intI, bl_intB, bl_max, bl_min, op_eqSf, op_eqSt, op_eqIf, op_eqIt, op_eqTf, op_eqTt, op_eqRf, op_eqRt, op_eqNf, op_eqNt, eqD_int, eqD_nil, pl_int, pl_nil, pl_non, pl_rnil, pl_bl, sl_tupE, sl_rolE, keep_ref, keep_tup, keep_rol, tp_int, tp_tup, tp_rol, tp_str, tp_bl, tp_non, tp_ref, oFd, oMd, oPw, oShl, oLt, oLe, oGt, oGe, op_in, op_cp, wipe_nil, wipe_cons, mset_same, true_and, and_true, isN_int, ex_lstF, ex_repF, ex_lgF1, ex_lgF2, ex_tupRg1, ex_tupRg2, ex_frz, ex_slF, ex_slM, sl_tupF, sl_rolF, op_iiF, op_ssF, op_ttF, op_rrF, op_rrM, op_mmF, op_repF, li_rol, li_ref, bl_listF, bl_allF, bl_anyF, asT_some, asJ_some, op_eqBf, op_eqBt, isN_non, Bool.not_true, Bool.not_false, rep2, hM]
    refine kl _ _ _ _ _ fun _ => ?_
    simp only [op_extF, hM, lstOf_l, asL_some, li_rol]
    rw [← List.map_append]
    have e : ((List.range i).flatMap fun x : Nat => [((((w + x : Nat) : Int), ((x : Nat) : Int), 0) : Trip), (((x : Nat) : Int), ((w + x : Nat) : Int), 0)]) ++ [(((w : Int) + (0 + (i : Int)), 0 + (i : Int), 0) : Trip), (0 + (i : Int), (w : Int) + (0 + (i : Int)), -0)] = (List.range (i + 1)).flatMap fun x : Nat => [((((w + x : Nat) : Int), ((x : Nat) : Int), 0) : Trip), (((x : Nat) : Int), ((w + x : Nat) : Int), 0)] := by
      rw [List.range_succ, List.flatMap_append]
      congr 1
      simp
    rw [e]
    have hlen : ∀ k, ((List.range k).flatMap fun x : Nat => [((((w + x : Nat) : Int), ((x : Nat) : Int), 0) : Trip), (((x : Nat) : Int), ((w + x : Nat) : Int), 0)]).length = 2 * k := by
      intro k
      induction k with
      | zero => rfl
      | succ k ih => rw [List.range_succ, List.flatMap_append, List.length_append, ih]; simp; omega
    refine ⟨by rw [List.length_map, List.length_map, hlen]; show 2 * i + 2 ≤ sizeLine; omega, hX _ _ ⟨hi, mset_same, _, rfl⟩⟩
  · rintro τ M ⟨_, hM, x2, rfl⟩
    try dsimp only
    rw [st_ret]
    simp only [ex_c, ex_var, ex_op, ex_un, ex_b, ex_and, ex_or, ex_not, ex_andV, ex_orV, ex_notV, ex_if, ex_chain, ex_nil, ex_cons, ex_tup, ex_lst, ex_call, ex_callP, ex_cb, ex_bm, ex_rep, ex_sl, ex_noPart, ex_part, ex_yes, it_items, it_rng1, it_rng2, tg_name, tg_sub, tg_tup, tg_cons, tg_nil, gs_0, gs_s, ss_0, ss_s, op_ii, op_ss, op_tt, op_mm, op_sb, op_ng, op_iNf, op_iNt, op_lle, op_ixT, op_ixR, op_ixL, op_putE, op_appE, it_tupE, it_rolE, it_refE, lstOf_l, exL, asS_some, asI_int, asB_bl, asL_some, asN_some, ite3_t, ite3_f, bl_1, bl_lenT, bl_lenR, bl_lenL, bl_lenS, bl_tuple, bl_list, bl_abs, bl_intI, bl_intB, bl_max, bl_min, op_eqSf, op_eqSt, op_eqIf, op_eqIt, op_eqTf, op_eqTt, op_eqRf, op_eqRt, op_eqNf, op_eqNt, eqD_int, eqD_nil, pl_int, pl_nil, pl_non, pl_rnil, pl_bl, sl_tupE, sl_rolE, keep_ref, keep_tup, keep_rol, tp_int, tp_tup, tp_rol, tp_str, tp_bl, tp_non, tp_ref, oFd, oMd, oPw, oShl, oLt, oLe, oGt, oGe, op_in, op_cp, wipe_nil, wipe_cons, mset_same, true_and, and_true, isN_int, ex_lstF, ex_repF, ex_lgF1, ex_lgF2, ex_tupRg1, ex_tupRg2, ex_frz, ex_slF, ex_slM, sl_tupF, sl_rolF, op_iiF, op_ssF, op_ttF, op_rrF, op_rrM, op_mmF, op_repF, li_rol, li_ref, bl_listF, bl_allF, bl_anyF, asT_some, asJ_some, op_eqBf, op_eqBt, isN_non, Bool.not_true, Bool.not_false, rep2, frz_l hM]
    refine ks (w : Int) 1 (keptPs w) _ _ _ (by omega) (by omega) (by decide) (.inr rfl) (fun t ht => ⟨?_, ?_⟩) fun d _ hd => ?_
    · have := (keptPs_ok w t ht).1
      exact ⟨this.1, by have := this.2.1; omega, this.2.2.1, by have := this.2.2.2; omega⟩
    · obtain ⟨x, hx, h⟩ := List.mem_flatMap.mp ht
      simp only [List.mem_cons, List.not_mem_nil, or_false] at h
      rcases h with rfl | rfl <;> exact Nat.zero_lt_one
    · rw [toN21] at hd
      exact q _ _ (kept_den hd)
section
variable {w : Nat} {R S T : Rel} {P : Vl → Prop}
theorem comp_assoc (a b : Vl) : comp (comp R S) T a b ↔ comp R (comp S T) a b :=
  ⟨fun ⟨m, ⟨k, x, y⟩, z⟩ => ⟨k, x, m, y, z⟩, fun ⟨k, x, m, y, z⟩ => ⟨m, ⟨k, x, y⟩, z⟩⟩
theorem eqW_refl (a : Vl) : eqW w a a := fun _ _ => rfl
theorem eqW_loc : Loc w (eqW w) := fun a a' b b' h1 h2 z i hi => by rw [← h1 i hi, ← h2 i hi]; exact z i hi
theorem comp_loc (h : Loc w R) (h2 : Loc w S) : Loc w (comp R S) := fun a a' b b' e1 e2 ⟨m, x, y⟩ => ⟨m, h _ _ _ _ e1 (fun _ _ => rfl) x, h2 _ _ _ _ (fun _ _ => rfl) e2 y⟩
theorem iter_loc (h : Loc w R) : ∀ n, Loc w (iter w R n)
  | 0 => eqW_loc
  | n + 1 => comp_loc h (iter_loc h n)
theorem eqW_comp (h : Loc w S) (a b : Vl) : comp (eqW w) S a b ↔ S a b :=
  ⟨fun ⟨m, x, y⟩ => h _ _ _ _ (fun i hi => (x i hi).symm) (fun _ _ => rfl) y, fun z => ⟨a, eqW_refl a, z⟩⟩
theorem comp_eqW (h : Loc w S) (a b : Vl) : comp S (eqW w) a b ↔ S a b :=
  ⟨fun ⟨m, x, y⟩ => h _ _ _ _ (fun _ _ => rfl) (fun i hi => y i hi) x, fun z => ⟨b, z, eqW_refl b⟩⟩
theorem iter_add (h : Loc w R) (n : Nat) : ∀ m a b, iter w R (m + n) a b ↔ comp (iter w R m) (iter w R n) a b
  | 0, a, b => by rw [Nat.zero_add]; exact (eqW_comp (iter_loc h n) a b).symm
  | m + 1, a, b => by
    rw [Nat.add_right_comm]
    show comp R (iter w R (m + n)) a b ↔ comp (comp R (iter w R m)) (iter w R n) a b
    rw [comp_assoc]
    exact comp_congr (fun _ _ => Iff.rfl) (iter_add h n m) a b
theorem iter_one (h : Loc w R) (a b : Vl) : iter w R 1 a b ↔ R a b := comp_eqW h a b
theorem back_eqW (h : LocF w P) (b : Vl) : back (eqW w) P b ↔ P b :=
  ⟨fun ⟨a, x, y⟩ => h _ _ (fun i hi => (x i hi).symm) y, fun z => ⟨b, eqW_refl b, z⟩⟩
end
def powerR (sp_closed : Sp3) (sp_kept : Sp3) (sp_behind : Sp3) : XK3 → TS3 := fun E =>
  (wSeq (wPar 3 4 (wCons (wCallP sp_kept E (wCons (wVar 0) wNil)) (wCons (wCallP sp_closed E (wCons (wVar 1) wNil)) wNil)))
  (wSeq (wWhile (wB (wOp oGt (wVar 2) (wC (.int 0)))) (wSeq (wIfS (wB (wOp (oEq false) (wOp oMd (wVar 2) (wC (.int 2))) (wC (.int 1)))) (wSet 3 (wCallP sp_behind E (wCons (wVar 3) (wCons (wVar 4) wNil)))) wNext)
  (wSeq (wSet 4 (wCallP sp_behind E (wCons (wVar 4) (wCons (wVar 4) wNil))))
  (wSet 2 (wOp oFd (wVar 2) (wC (.int 2)))))))
  (wRet (wVar 3))))
def SPowerX (sp : Sp3) : Prop := ∀ (w B n : Nat) (d : D) (R : Rel) (Q : VK3) (E : XK3), w ≤ 100 → 0 < B → RepS B w d R → (∀ c M B', DenS B' w c (iter w R n) → Q c M) → sp [.int w, d, .int n] M0 Q E
theorem s_powerX {sc sk sb : Sp3} (kc : SCloS sc) (kk : SKept sk) (kb : SBehD sb) : SPowerX (spOf 3 5 (powerR sc sk sb)) := by
  refine fun w B n d R Q E hw hB hd q => ⟨rfl, ?_⟩
  show powerR sc sk sb E _ [some (.int w), some d, some (.int n), none, none] M0
  unfold powerR
  have hl := hd.loc
  rw [st_seq, st_parE (d := .non) (e := .non)]
  simp only [ex_c, ex_var, ex_op, ex_un, ex_b, ex_and, ex_or, ex_not, ex_andV, ex_orV, ex_notV, ex_if, ex_chain, ex_nil, ex_cons, ex_tup, ex_lst, ex_call, ex_callP, ex_cb, ex_bm, ex_rep, ex_sl, ex_noPart, ex_part, ex_yes, it_items, it_rng1, it_rng2, tg_name, tg_sub, tg_tup, tg_cons, tg_nil, gs_0, gs_s, ss_0, ss_s, op_ii, op_ss, op_tt, op_mm, op_sb, op_ng, op_iNf, op_iNt, op_lle, op_ixT, op_ixR, op_ixL, op_putE, op_appE, it_tupE, it_rolE, it_refE, lstOf_l, exL, asS_some, asI_int, asB_bl, asL_some, asN_some, ite3_t, ite3_f, bl_1, bl_lenT, bl_lenR, bl_lenL, bl_lenS, bl_tuple, bl_list, bl_abs, bl_intI, bl_intB, bl_max, bl_min, op_eqSf, op_eqSt, op_eqIf, op_eqIt, op_eqTf, op_eqTt, op_eqRf, op_eqRt, op_eqNf, op_eqNt, eqD_int, eqD_nil, pl_int, pl_nil, pl_non, pl_rnil, pl_bl, sl_tupE, sl_rolE, keep_ref, keep_tup, keep_rol, tp_int, tp_tup, tp_rol, tp_str, tp_bl, tp_non, tp_ref, oFd, oMd, oPw, oShl, oLt, oLe, oGt, oGe, op_in, op_cp, wipe_nil, wipe_cons, mset_same, true_and, and_true, isN_int, ex_lstF, ex_repF, ex_lgF1, ex_lgF2, ex_tupRg1, ex_tupRg2, ex_frz, ex_slF, ex_slM, sl_tupF, sl_rolF, op_iiF, op_ssF, op_ttF, op_rrF, op_rrM, op_mmF, op_repF, li_rol, li_ref, bl_listF, bl_allF, bl_anyF, asT_some, asJ_some, op_eqBf, op_eqBt, isN_non, Bool.not_true, Bool.not_false, rep2]
  refine kk w _ _ hw fun f0 _ hf0 => ?_
  (try simp only [ex_c, ex_var, ex_op, ex_un, ex_b, ex_and, ex_or, ex_not, ex_andV, ex_orV, ex_notV, ex_if, ex_chain, ex_nil, ex_cons, ex_tup, ex_lst, ex_call, ex_callP, ex_cb, ex_bm, ex_rep, ex_sl, ex_noPart, ex_part, ex_yes, it_items, it_rng1, it_rng2, tg_name, tg_sub, tg_tup, tg_cons, tg_nil, gs_0, gs_s, ss_0, ss_s, op_ii, op_ss, op_tt, op_mm, op_sb, op_ng, op_iNf, op_iNt, op_lle, op_ixT, op_ixR, op_ixL, op_putE, op_appE, it_tupE, it_rolE, it_refE, lstOf_l, exL, asS_some, asI_int, asB_bl, asL_some, asN_some, ite3_t, ite3_f, bl_1, bl_lenT, bl_lenR, bl_lenL, bl_lenS, bl_tuple, bl_list, bl_abs, bl_intI, bl_intB, bl_max, bl_min, op_eqSf, op_eqSt, op_eqIf, op_eqIt, op_eqTf, op_eqTt, op_eqRf, op_eqRt, op_eqNf, op_eqNt, eqD_int, eqD_nil, pl_int, pl_nil, pl_non, pl_rnil, pl_bl, sl_tupE, sl_rolE, keep_ref, keep_tup, keep_rol, tp_int, tp_tup, tp_rol, tp_str, tp_bl, tp_non, tp_ref, oFd, oMd, oPw, oShl, oLt, oLe, oGt, oGe, op_in, op_cp, wipe_nil, wipe_cons, mset_same, true_and, and_true, isN_int, ex_lstF, ex_repF, ex_lgF1, ex_lgF2, ex_tupRg1, ex_tupRg2, ex_frz, ex_slF, ex_slM, sl_tupF, sl_rolF, op_iiF, op_ssF, op_ttF, op_rrF, op_rrM, op_mmF, op_repF, li_rol, li_ref, bl_listF, bl_allF, bl_anyF, asT_some, asJ_some, op_eqBf, op_eqBt, isN_non, Bool.not_true, Bool.not_false, rep2])
  refine kc w B d R _ _ hw hB hd fun g0 _ hg0 => ?_
  try dsimp only
  rw [st_seq]
  refine while_pv (fun m τ _ => ∃ k j f g B1 B2, τ = [some (.int w), some d, some (.int (m : Int)), some f, some g] ∧ n = k + m * 2 ^ j ∧ DenS B1 w f (iter w R k) ∧ DenS B2 w g (iter w R (2 ^ j))) ?_ (n := n)
    ⟨0, 0, f0, g0, _, _, rfl, by simp, hf0, hg0.congr fun a b => (iter_one hl a b).symm⟩
  rintro m τ M ⟨k, j, f, g, B1, B2, rfl, hn, hf, hg⟩ X hX
  simp only [ex_c, ex_var, ex_op, ex_un, ex_b, ex_and, ex_or, ex_not, ex_andV, ex_orV, ex_notV, ex_if, ex_chain, ex_nil, ex_cons, ex_tup, ex_lst, ex_call, ex_callP, ex_cb, ex_bm, ex_rep, ex_sl, ex_noPart, ex_part, ex_yes, it_items, it_rng1, it_rng2, tg_name, tg_sub, tg_tup, tg_cons, tg_nil, gs_0, gs_s, ss_0, ss_s, op_ii, op_ss, op_tt, op_mm, op_sb, op_ng, op_iNf, op_iNt, op_lle, op_ixT, op_ixR, op_ixL, op_putE, op_appE, it_tupE, it_rolE, it_refE, lstOf_l, exL, asS_some, asI_int, asB_bl, asL_some, asN_some, ite3_t, ite3_f, bl_1, bl_lenT, bl_lenR, bl_lenL, bl_lenS, bl_tuple, bl_list, bl_abs, bl_intI, bl_intB, bl_max, bl_min, op_eqSf, op_eqSt, op_eqIf, op_eqIt, op_eqTf, op_eqTt, op_eqRf, op_eqRt, op_eqNf, op_eqNt, eqD_int, eqD_nil, pl_int, pl_nil, pl_non, pl_rnil, pl_bl, sl_tupE, sl_rolE, keep_ref, keep_tup, keep_rol, tp_int, tp_tup, tp_rol, tp_str, tp_bl, tp_non, tp_ref, oFd, oMd, oPw, oShl, oLt, oLe, oGt, oGe, op_in, op_cp, wipe_nil, wipe_cons, mset_same, true_and, and_true, isN_int, ex_lstF, ex_repF, ex_lgF1, ex_lgF2, ex_tupRg1, ex_tupRg2, ex_frz, ex_slF, ex_slM, sl_tupF, sl_rolF, op_iiF, op_ssF, op_ttF, op_rrF, op_rrM, op_mmF, op_repF, li_rol, li_ref, bl_listF, bl_allF, bl_anyF, asT_some, asJ_some, op_eqBf, op_eqBt, isN_non, Bool.not_true, Bool.not_false, rep2]
  refine ite3_by (fun hm => ?_) (fun hm => ?_)
  · have hm : (0 : Int) < m := of_decide_eq_true hm
    have ev : Int.fmod (m : Int) 2 = ((m % 2 : Nat) : Int) := by rw [Int.fmod_eq_emod_of_nonneg _ (by decide)]; rfl
    have ed : Int.fdiv (m : Int) 2 = ((m / 2 : Nat) : Int) := by rw [Int.fdiv_eq_ediv_of_nonneg _ (by decide)]; rfl
    rw [st_seq, st_if]
    simp only [ex_c, ex_var, ex_op, ex_un, ex_b, ex_and, ex_or, ex_not, ex_andV, ex_orV, ex_notV, ex_if, ex_chain, ex_nil, ex_cons, ex_tup, ex_lst, ex_call, ex_callP, ex_cb, ex_bm, ex_rep, ex_sl, ex_noPart, ex_part, ex_yes, it_items, it_rng1, it_rng2, tg_name, tg_sub, tg_tup, tg_cons, tg_nil, gs_0, gs_s, ss_0, ss_s, op_ii, op_ss, op_tt, op_mm, op_sb, op_ng, op_iNf, op_iNt, op_lle, op_ixT, op_ixR, op_ixL, op_putE, op_appE, it_tupE, it_rolE, it_refE, lstOf_l, exL, asS_some, asI_int, asB_bl, asL_some, asN_some, ite3_t, ite3_f, bl_1, bl_lenT, bl_lenR, bl_lenL, bl_lenS, bl_tuple, bl_list, bl_abs, bl_intI, bl_intB, bl_max, bl_min, op_eqSf, op_eqSt, op_eqIf, op_eqIt, op_eqTf, op_eqTt, op_eqRf, op_eqRt, op_eqNf, op_eqNt, eqD_int, eqD_nil, pl_int, pl_nil, pl_non, pl_rnil, pl_bl, sl_tupE, sl_rolE, keep_ref, keep_tup, keep_rol, tp_int, tp_tup, tp_rol, tp_str, tp_bl, tp_non, tp_ref, oFd, oMd, oPw, oShl, oLt, oLe, oGt, oGe, op_in, op_cp, wipe_nil, wipe_cons, mset_same, true_and, and_true, isN_int, ex_lstF, ex_repF, ex_lgF1, ex_lgF2, ex_tupRg1, ex_tupRg2, ex_frz, ex_slF, ex_slM, sl_tupF, sl_rolF, op_iiF, op_ssF, op_ttF, op_rrF, op_rrM, op_mmF, op_repF, li_rol, li_ref, bl_listF, bl_allF, bl_anyF, asT_some, asJ_some, op_eqBf, op_eqBt, isN_non, Bool.not_true, Bool.not_false, rep2, ev, pl_int, tp_int, eqD_int]
    refine ⟨by decide, ?_⟩
    have p0 : 0 < max B1 B2 + 1 := Nat.succ_pos _
    have hf' := hf.rep.mono (show B1 ≤ max B1 B2 + 1 by omega)
    have hg' := hg.rep.mono (show B2 ≤ max B1 B2 + 1 by omega)
    -- the rest of the turn
    have rest : ∀ f' k' B1', n = k' + (m / 2) * 2 ^ (j + 1) → DenS B1' w f' (iter w R k') →
        wSeq (wSet 4 (wCallP sb E (wCons (wVar 4) (wCons (wVar 4) wNil)))) (wSet 2 (wOp oFd (wVar 2) (wC (.int 2)))) { nx := X, rt := Q, ct := X, bk := (wRet (wVar 3)) { nx := fun _ M' => Q .non M', rt := Q } } [some (.int w), some d, some (.int (m : Int)), some f', some g] M := fun f' k' B1' hn' hf1 => by
      rw [st_seq, st_set]
      simp only [ex_c, ex_var, ex_op, ex_un, ex_b, ex_and, ex_or, ex_not, ex_andV, ex_orV, ex_notV, ex_if, ex_chain, ex_nil, ex_cons, ex_tup, ex_lst, ex_call, ex_callP, ex_cb, ex_bm, ex_rep, ex_sl, ex_noPart, ex_part, ex_yes, it_items, it_rng1, it_rng2, tg_name, tg_sub, tg_tup, tg_cons, tg_nil, gs_0, gs_s, ss_0, ss_s, op_ii, op_ss, op_tt, op_mm, op_sb, op_ng, op_iNf, op_iNt, op_lle, op_ixT, op_ixR, op_ixL, op_putE, op_appE, it_tupE, it_rolE, it_refE, lstOf_l, exL, asS_some, asI_int, asB_bl, asL_some, asN_some, ite3_t, ite3_f, bl_1, bl_lenT, bl_lenR, bl_lenL, bl_lenS, bl_tuple, bl_list, bl_abs, bl_intI, bl_intB, bl_max, bl_min, op_eqSf, op_eqSt, op_eqIf, op_eqIt, op_eqTf, op_eqTt, op_eqRf, op_eqRt, op_eqNf, op_eqNt, eqD_int, eqD_nil, pl_int, pl_nil, pl_non, pl_rnil, pl_bl, sl_tupE, sl_rolE, keep_ref, keep_tup, keep_rol, tp_int, tp_tup, tp_rol, tp_str, tp_bl, tp_non, tp_ref, oFd, oMd, oPw, oShl, oLt, oLe, oGt, oGe, op_in, op_cp, wipe_nil, wipe_cons, mset_same, true_and, and_true, isN_int, ex_lstF, ex_repF, ex_lgF1, ex_lgF2, ex_tupRg1, ex_tupRg2, ex_frz, ex_slF, ex_slM, sl_tupF, sl_rolF, op_iiF, op_ssF, op_ttF, op_rrF, op_rrM, op_mmF, op_repF, li_rol, li_ref, bl_listF, bl_allF, bl_anyF, asT_some, asJ_some, op_eqBf, op_eqBt, isN_non, Bool.not_true, Bool.not_false, rep2]
      refine kb w _ g g _ _ _ _ hw p0 hg' hg' fun g2 _ hg2 => ?_
      try dsimp only
      rw [st_set]
      simp only [ex_c, ex_var, ex_op, ex_un, ex_b, ex_and, ex_or, ex_not, ex_andV, ex_orV, ex_notV, ex_if, ex_chain, ex_nil, ex_cons, ex_tup, ex_lst, ex_call, ex_callP, ex_cb, ex_bm, ex_rep, ex_sl, ex_noPart, ex_part, ex_yes, it_items, it_rng1, it_rng2, tg_name, tg_sub, tg_tup, tg_cons, tg_nil, gs_0, gs_s, ss_0, ss_s, op_ii, op_ss, op_tt, op_mm, op_sb, op_ng, op_iNf, op_iNt, op_lle, op_ixT, op_ixR, op_ixL, op_putE, op_appE, it_tupE, it_rolE, it_refE, lstOf_l, exL, asS_some, asI_int, asB_bl, asL_some, asN_some, ite3_t, ite3_f, bl_1, bl_lenT, bl_lenR, bl_lenL, bl_lenS, bl_tuple, bl_list, bl_abs, bl_intI, bl_intB, bl_max, bl_min, op_eqSf, op_eqSt, op_eqIf, op_eqIt, op_eqTf, op_eqTt, op_eqRf, op_eqRt, op_eqNf, op_eqNt, eqD_int, eqD_nil, pl_int, pl_nil, pl_non, pl_rnil, pl_bl, sl_tupE, sl_rolE, keep_ref, keep_tup, keep_rol, tp_int, tp_tup, tp_rol, tp_str, tp_bl, tp_non, tp_ref, oFd, oMd, oPw, oShl, oLt, oLe, oGt, oGe, op_in, op_cp, wipe_nil, wipe_cons, mset_same, true_and, and_true, isN_int, ex_lstF, ex_repF, ex_lgF1, ex_lgF2, ex_tupRg1, ex_tupRg2, ex_frz, ex_slF, ex_slM, sl_tupF, sl_rolF, op_iiF, op_ssF, op_ttF, op_rrF, op_rrM, op_mmF, op_repF, li_rol, li_ref, bl_listF, bl_allF, bl_anyF, asT_some, asJ_some, op_eqBf, op_eqBt, isN_non, Bool.not_true, Bool.not_false, rep2, ed]
      refine ⟨⟨by decide, by decide⟩, hX (m / 2) _ _ (by omega) ⟨k', j + 1, f', g2, _, _, rfl, hn', hf1, hg2.congr fun a b => ?_⟩⟩
      rw [Nat.pow_succ, Nat.mul_two, iter_add hl]
    refine ite3_by (fun ho => ?_) (fun ho => ?_)
    · have ho : ((m % 2 : Nat) : Int) = 1 := of_decide_eq_true ho
      rw [st_set]
      simp only [ex_c, ex_var, ex_op, ex_un, ex_b, ex_and, ex_or, ex_not, ex_andV, ex_orV, ex_notV, ex_if, ex_chain, ex_nil, ex_cons, ex_tup, ex_lst, ex_call, ex_callP, ex_cb, ex_bm, ex_rep, ex_sl, ex_noPart, ex_part, ex_yes, it_items, it_rng1, it_rng2, tg_name, tg_sub, tg_tup, tg_cons, tg_nil, gs_0, gs_s, ss_0, ss_s, op_ii, op_ss, op_tt, op_mm, op_sb, op_ng, op_iNf, op_iNt, op_lle, op_ixT, op_ixR, op_ixL, op_putE, op_appE, it_tupE, it_rolE, it_refE, lstOf_l, exL, asS_some, asI_int, asB_bl, asL_some, asN_some, ite3_t, ite3_f, bl_1, bl_lenT, bl_lenR, bl_lenL, bl_lenS, bl_tuple, bl_list, bl_abs, bl_intI, bl_intB, bl_max, bl_min, op_eqSf, op_eqSt, op_eqIf, op_eqIt, op_eqTf, op_eqTt, op_eqRf, op_eqRt, op_eqNf, op_eqNt, eqD_int, eqD_nil, pl_int, pl_nil, pl_non, pl_rnil, pl_bl, sl_tupE, sl_rolE, keep_ref, keep_tup, keep_rol, tp_int, tp_tup, tp_rol, tp_str, tp_bl, tp_non, tp_ref, oFd, oMd, oPw, oShl, oLt, oLe, oGt, oGe, op_in, op_cp, wipe_nil, wipe_cons, mset_same, true_and, and_true, isN_int, ex_lstF, ex_repF, ex_lgF1, ex_lgF2, ex_tupRg1, ex_tupRg2, ex_frz, ex_slF, ex_slM, sl_tupF, sl_rolF, op_iiF, op_ssF, op_ttF, op_rrF, op_rrM, op_mmF, op_repF, li_rol, li_ref, bl_listF, bl_allF, bl_anyF, asT_some, asJ_some, op_eqBf, op_eqBt, isN_non, Bool.not_true, Bool.not_false, rep2]
      refine kb w _ f g _ _ _ _ hw p0 hf' hg' fun f2 _ hf2 => ?_
      refine rest f2 (k + 2 ^ j) _ ?_ (hf2.congr fun a b => (iter_add hl (2 ^ j) k a b).symm)
      have e : m = 2 * (m / 2) + 1 := by omega
      rw [hn, Nat.pow_succ]
      conv => lhs; rw [e]
      rw [Nat.add_mul, Nat.one_mul, Nat.mul_comm 2 (m / 2), Nat.mul_assoc, Nat.mul_comm 2 (2 ^ j)]
      omega
    · have ho : ¬ ((m % 2 : Nat) : Int) = 1 := of_decide_eq_false ho
      rw [st_next]
      refine rest f k _ ?_ hf
      have e : m = 2 * (m / 2) := by omega
      rw [hn, Nat.pow_succ]
      conv => lhs; rw [e]
      rw [Nat.mul_comm 2 (m / 2), Nat.mul_assoc, Nat.mul_comm 2 (2 ^ j)]
  · have hm : ¬ (0 : Int) < m := of_decide_eq_false hm
    have m0 : m = 0 := by omega
    subst m0
    try dsimp only
    rw [st_ret]
    simp only [ex_c, ex_var, ex_op, ex_un, ex_b, ex_and, ex_or, ex_not, ex_andV, ex_orV, ex_notV, ex_if, ex_chain, ex_nil, ex_cons, ex_tup, ex_lst, ex_call, ex_callP, ex_cb, ex_bm, ex_rep, ex_sl, ex_noPart, ex_part, ex_yes, it_items, it_rng1, it_rng2, tg_name, tg_sub, tg_tup, tg_cons, tg_nil, gs_0, gs_s, ss_0, ss_s, op_ii, op_ss, op_tt, op_mm, op_sb, op_ng, op_iNf, op_iNt, op_lle, op_ixT, op_ixR, op_ixL, op_putE, op_appE, it_tupE, it_rolE, it_refE, lstOf_l, exL, asS_some, asI_int, asB_bl, asL_some, asN_some, ite3_t, ite3_f, bl_1, bl_lenT, bl_lenR, bl_lenL, bl_lenS, bl_tuple, bl_list, bl_abs, bl_intI, bl_intB, bl_max, bl_min, op_eqSf, op_eqSt, op_eqIf, op_eqIt, op_eqTf, op_eqTt, op_eqRf, op_eqRt, op_eqNf, op_eqNt, eqD_int, eqD_nil, pl_int, pl_nil, pl_non, pl_rnil, pl_bl, sl_tupE, sl_rolE, keep_ref, keep_tup, keep_rol, tp_int, tp_tup, tp_rol, tp_str, tp_bl, tp_non, tp_ref, oFd, oMd, oPw, oShl, oLt, oLe, oGt, oGe, op_in, op_cp, wipe_nil, wipe_cons, mset_same, true_and, and_true, isN_int, ex_lstF, ex_repF, ex_lgF1, ex_lgF2, ex_tupRg1, ex_tupRg2, ex_frz, ex_slF, ex_slM, sl_tupF, sl_rolF, op_iiF, op_ssF, op_ttF, op_rrF, op_rrM, op_mmF, op_repF, li_rol, li_ref, bl_listF, bl_allF, bl_anyF, asT_some, asJ_some, op_eqBf, op_eqBt, isN_non, Bool.not_true, Bool.not_false, rep2]
    refine q f M B1 (hf.congr fun a b => ?_)
    have : n = k := by rw [hn]; simp
    rw [this]
/-- with how far its ends are -/
def SPower (sp : Sp3) : Prop := ∀ (w B n : Nat) (d : D) (R : Rel) (Q : VK3) (E : XK3), 0 < w → w ≤ 100 → 0 < B → RepS B w d R → (∀ c M, DenS (((n + 2) * w + 1) * B + 2) w c (iter w R n) → Q c M) → sp [.int w, d, .int n] M0 Q E
theorem s_power {sp : Sp3} (k : SPowerX sp) : SPower sp := by
  intro w B n d R Q E h0 hw hB hd q
  refine k w B n d R Q E hw hB hd fun c M B' hc => q c M ?_
  by_cases hn : n = 0
  · subst hn
    obtain ⟨c', hc'⟩ := kept_ex w
    have e := hc'.uniq hc fun _ _ => Iff.rfl
    subst e
    refine hc'.mono ?_
    have : (2 * w + 1) * 1 ≤ (2 * w + 1) * B := Nat.mul_le_mul_left _ hB
    have e : (0 + 2) * w + 1 = 2 * w + 1 := by omega
    rw [e]; omega
  · refine (iter_bound h0 (by omega) hB hd hc).mono ?_
    have : ((n + 1) * w + 1) * B ≤ ((n + 2) * w + 1) * B := Nat.mul_le_mul_right _ (by have := Nat.mul_le_mul_right w (show n + 1 ≤ n + 2 by omega); omega)
    omega
def oldsBeforeR (sp_closed : Sp3) (sp_olds : Sp3) (sp_power : Sp3) : XK3 → TS3 := fun E =>
  (wSeq (wIfS (wB (wOp (oEq false) (wVar 3) (wC (.int 0)))) (wRet (wCallP sp_closed E (wCons (wVar 2) wNil))) wNext)
  (wRet (wCallP sp_olds E (wCons (wCallP sp_power E (wCons (wVar 0) (wCons (wVar 1) (wCons (wVar 3) wNil)))) (wCons (wVar 2) wNil)))))
def SOldsBefore (sp : Sp3) : Prop := ∀ (w B n : Nat) (d e : D) (P : Vl → Prop) (R : Rel) (Q : VK3) (E : XK3), 0 < w → w ≤ 100 → 0 < B → RepF B w d P → RepS B w e R → (∀ c M B', DenF B' w c (back (iter w R n) P) → Q c M) → sp [.int w, e, d, .int n] M0 Q E
theorem s_oldsBefore {sc so sp : Sp3} (kc : SCloF sc) (ko : SOldsD so) (kp : SPower sp) : SOldsBefore (spOf 4 4 (oldsBeforeR sc so sp)) := by
  refine fun w B n d e P R Q E hw hw1 hB hd he q => ⟨rfl, ?_⟩
  show oldsBeforeR sc so sp E _ [some (.int w), some e, some d, some (.int n)] M0
  unfold oldsBeforeR
  rw [st_seq, st_if]
  simp only [ex_c, ex_var, ex_op, ex_un, ex_b, ex_and, ex_or, ex_not, ex_andV, ex_orV, ex_notV, ex_if, ex_chain, ex_nil, ex_cons, ex_tup, ex_lst, ex_call, ex_callP, ex_cb, ex_bm, ex_rep, ex_sl, ex_noPart, ex_part, ex_yes, it_items, it_rng1, it_rng2, tg_name, tg_sub, tg_tup, tg_cons, tg_nil, gs_0, gs_s, ss_0, ss_s, op_ii, op_ss, op_tt, op_mm, op_sb, op_ng, op_iNf, op_iNt, op_lle, op_ixT, op_ixR, op_ixL, op_putE, op_appE, it_tupE, it_rolE, it_refE, lstOf_l, exL, asS_some, asI_int, asB_bl, asL_some, asN_some, ite3_t, ite3_f, bl_1, bl_lenT, bl_lenR, bl_lenL, bl_lenS, bl_tuple, bl_list, bl_abs, bl_intI, bl_intB, bl_max, bl_min, op_eqSf, op_eqSt, op_eqIf, op_eqIt, op_eqTf, op_eqTt, op_eqRf, op_eqRt, op_eqNf, op_eqNt, eqD_int, eqD_nil, pl_int, pl_nil, pl_non, pl_rnil, pl_bl, sl_tupE, sl_rolE, keep_ref, keep_tup, keep_rol, tp_int, tp_tup, tp_rol, tp_str, tp_bl, tp_non, tp_ref, oFd, oMd, oPw, oShl, oLt, oLe, oGt, oGe, op_in, op_cp, wipe_nil, wipe_cons, mset_same, true_and, and_true, isN_int, ex_lstF, ex_repF, ex_lgF1, ex_lgF2, ex_tupRg1, ex_tupRg2, ex_frz, ex_slF, ex_slM, sl_tupF, sl_rolF, op_iiF, op_ssF, op_ttF, op_rrF, op_rrM, op_mmF, op_repF, li_rol, li_ref, bl_listF, bl_allF, bl_anyF, asT_some, asJ_some, op_eqBf, op_eqBt, isN_non, Bool.not_true, Bool.not_false, rep2, pl_int, tp_int, eqD_int]
  refine ite3_by (fun h => ?_) (fun h => ?_)
  · have h : (n : Int) = 0 := of_decide_eq_true h
    have : n = 0 := by omega
    subst this
    rw [st_ret]
    simp only [ex_c, ex_var, ex_op, ex_un, ex_b, ex_and, ex_or, ex_not, ex_andV, ex_orV, ex_notV, ex_if, ex_chain, ex_nil, ex_cons, ex_tup, ex_lst, ex_call, ex_callP, ex_cb, ex_bm, ex_rep, ex_sl, ex_noPart, ex_part, ex_yes, it_items, it_rng1, it_rng2, tg_name, tg_sub, tg_tup, tg_cons, tg_nil, gs_0, gs_s, ss_0, ss_s, op_ii, op_ss, op_tt, op_mm, op_sb, op_ng, op_iNf, op_iNt, op_lle, op_ixT, op_ixR, op_ixL, op_putE, op_appE, it_tupE, it_rolE, it_refE, lstOf_l, exL, asS_some, asI_int, asB_bl, asL_some, asN_some, ite3_t, ite3_f, bl_1, bl_lenT, bl_lenR, bl_lenL, bl_lenS, bl_tuple, bl_list, bl_abs, bl_intI, bl_intB, bl_max, bl_min, op_eqSf, op_eqSt, op_eqIf, op_eqIt, op_eqTf, op_eqTt, op_eqRf, op_eqRt, op_eqNf, op_eqNt, eqD_int, eqD_nil, pl_int, pl_nil, pl_non, pl_rnil, pl_bl, sl_tupE, sl_rolE, keep_ref, keep_tup, keep_rol, tp_int, tp_tup, tp_rol, tp_str, tp_bl, tp_non, tp_ref, oFd, oMd, oPw, oShl, oLt, oLe, oGt, oGe, op_in, op_cp, wipe_nil, wipe_cons, mset_same, true_and, and_true, isN_int, ex_lstF, ex_repF, ex_lgF1, ex_lgF2, ex_tupRg1, ex_tupRg2, ex_frz, ex_slF, ex_slM, sl_tupF, sl_rolF, op_iiF, op_ssF, op_ttF, op_rrF, op_rrM, op_mmF, op_repF, li_rol, li_ref, bl_listF, bl_allF, bl_anyF, asT_some, asJ_some, op_eqBf, op_eqBt, isN_non, Bool.not_true, Bool.not_false, rep2]
    exact kc w B d P _ _ hw1 hB hd fun c _ hc => q c _ _ (hc.congr fun a => (back_eqW hd.loc a).symm)
  · rw [st_next]
    try dsimp only
    rw [st_ret]
    simp only [ex_c, ex_var, ex_op, ex_un, ex_b, ex_and, ex_or, ex_not, ex_andV, ex_orV, ex_notV, ex_if, ex_chain, ex_nil, ex_cons, ex_tup, ex_lst, ex_call, ex_callP, ex_cb, ex_bm, ex_rep, ex_sl, ex_noPart, ex_part, ex_yes, it_items, it_rng1, it_rng2, tg_name, tg_sub, tg_tup, tg_cons, tg_nil, gs_0, gs_s, ss_0, ss_s, op_ii, op_ss, op_tt, op_mm, op_sb, op_ng, op_iNf, op_iNt, op_lle, op_ixT, op_ixR, op_ixL, op_putE, op_appE, it_tupE, it_rolE, it_refE, lstOf_l, exL, asS_some, asI_int, asB_bl, asL_some, asN_some, ite3_t, ite3_f, bl_1, bl_lenT, bl_lenR, bl_lenL, bl_lenS, bl_tuple, bl_list, bl_abs, bl_intI, bl_intB, bl_max, bl_min, op_eqSf, op_eqSt, op_eqIf, op_eqIt, op_eqTf, op_eqTt, op_eqRf, op_eqRt, op_eqNf, op_eqNt, eqD_int, eqD_nil, pl_int, pl_nil, pl_non, pl_rnil, pl_bl, sl_tupE, sl_rolE, keep_ref, keep_tup, keep_rol, tp_int, tp_tup, tp_rol, tp_str, tp_bl, tp_non, tp_ref, oFd, oMd, oPw, oShl, oLt, oLe, oGt, oGe, op_in, op_cp, wipe_nil, wipe_cons, mset_same, true_and, and_true, isN_int, ex_lstF, ex_repF, ex_lgF1, ex_lgF2, ex_tupRg1, ex_tupRg2, ex_frz, ex_slF, ex_slM, sl_tupF, sl_rolF, op_iiF, op_ssF, op_ttF, op_rrF, op_rrM, op_mmF, op_repF, li_rol, li_ref, bl_listF, bl_allF, bl_anyF, asT_some, asJ_some, op_eqBf, op_eqBt, isN_non, Bool.not_true, Bool.not_false, rep2]
    refine kp w B n e R _ _ hw hw1 hB he fun c _ hc => ?_
    exact ko w _ d c P _ _ _ hw1 (Nat.succ_pos _) (hd.mono (B' := ((n + 2) * w + 1) * B + 2) (by have := Nat.le_mul_of_pos_left B (show 0 < (n + 2) * w + 1 by omega); omega)) hc.rep fun c _ hc => q c _ _ hc
end L3
set_option Elab.async false
set_option linter.all false
set_option maxRecDepth 100000
set_option maxHeartbeats 4000000
namespace L3
open PySem PySem.Spec PyProof.Rows L2
theorem NilOr.pl {d : D} (h : NilOr d) : Pl d := by
  rcases h with rfl | ⟨n, T, rfl, _, _⟩
  · rw [pl_nil]; trivial
  · exact pl_tab
theorem DenS.nilOr {B w : Nat} {d : D} {R : Rel} (h : DenS B w d R) : NilOr d := h.rep.nilOr
theorem DenF.nilOr {B w : Nat} {d : D} {P : Vl → Prop} (h : DenF B w d P) : NilOr d := h.rep.nilOr
theorem DenS.nil {B w : Nat} {d : D} {R : Rel} (h : DenS B w d R) (no : ∀ a b, ¬ R a b) : d = .tup [] := by
  rcases h with ⟨rfl, _⟩ | ⟨S, _, _, cl, h⟩
  · rfl
  · obtain ⟨a, b, m⟩ := some_enc cl.some
    exact absurd ((h a b).mpr m) (no a b)
theorem DenF.nil {B w : Nat} {d : D} {P : Vl → Prop} (h : DenF B w d P) (no : ∀ a, ¬ P a) : d = .tup [] := by
  rcases h with ⟨rfl, _⟩ | ⟨S, _, _, cl, h⟩
  · rfl
  · obtain ⟨a, m⟩ := some_encF cl.some
    exact absurd ((h a).mpr m) (no a)
theorem DenS.sh {B w : Nat} {d : D} {R : Rel} (h : DenS B w d R) (hB : B ≤ 10 ^ 100) (hw : w ≤ 40) : Sh d := (h.tm hB).fits (by decide) (Nat.le_trans (Nat.mul_le_mul (show 2 * w + 1 ≤ 81 by omega) (show 2 * w + 1 + 1 ≤ 82 by omega)) (by decide))
theorem DenF.sh {B w : Nat} {d : D} {P : Vl → Prop} (h : DenF B w d P) (hB : B ≤ 10 ^ 100) (hw : w ≤ 40) : Sh d := (h.tm hB).fits (by decide) (Nat.le_trans (Nat.mul_le_mul (show w + 1 ≤ 41 by omega) (show w + 1 + 1 ≤ 42 by omega)) (by decide))
end L3
set_option Elab.async false
set_option linter.all false
set_option maxRecDepth 100000
set_option maxHeartbeats 4000000
namespace L3
open PySem PySem.Spec PyProof.Rows L2
def TsB (n b : Nat) (ts : List Trip) : Prop := ∀ t ∈ ts, In2 n t ∧ t.2.2.natAbs ≤ b
theorem TsB.ok {n b : Nat} {ts : List Trip} (h : TsB n b ts) (hb : b < 100) : TsOk n ts := fun t ht => ⟨(h t ht).1, by have := (h t ht).2; omega⟩
theorem TsB.app {n b : Nat} {ts us : List Trip} (h : TsB n b ts) (h2 : TsB n b us) : TsB n b (ts ++ us) := fun t ht => (List.mem_append.mp ht).elim (h t) (h2 t)
theorem TsB.rep {n b k : Nat} {t : Trip} (h : In2 n t ∧ t.2.2.natAbs ≤ b) : TsB n b (List.replicate k t) := fun x hx => by rw [List.eq_of_mem_replicate hx]; exact h
end L3
set_option Elab.async false
set_option linter.all false
set_option maxRecDepth 100000
set_option maxHeartbeats 4000000
namespace L3
open PySem PySem.Spec PyProof.Rows L2
end L3
set_option Elab.async false
set_option linter.all false
set_option maxRecDepth 100000
set_option maxHeartbeats 4000000
namespace L3
open PySem PySem.Spec PyProof.Rows L2
end L3
set_option Elab.async false
set_option linter.all false
set_option maxRecDepth 100000
set_option maxHeartbeats 4000000
namespace L3
open PySem PySem.Spec PyProof.Rows L2
/-- a holds cells and three numbers, the last one at most b -/
def Fd (b : Nat) (M : Mp) (a : Addr) : Prop := ∃ (cs : List Int) (i : Nat) (g : Int) (n : Nat), n ≤ b ∧ M a = some (.lst [.rol (cs.map D.int), .int i, .int g, .int n])
theorem Fd.mono {b c : Nat} {M : Mp} {a : Addr} (f : Fd b M a) (h : b ≤ c) : Fd c M a := by
  obtain ⟨cs, i, g, n, hn, e⟩ := f
  exact ⟨cs, i, g, n, by omega, e⟩
theorem Fd.put {b : Nat} {a f : Addr} {M : Mp} {o : MO} (x : Fd b M a) (h : f ≠ a) : Fd b (mset M f o) a := by
  obtain ⟨cs, i, g, n, hn, e⟩ := x
  exact ⟨cs, i, g, n, hn, by rw [mset_ne (Ne.symm h)]; exact e⟩
theorem Fd.ne {b : Nat} {a f : Addr} {M : Mp} (x : Fd b M a) (h : M f = none) : f ≠ a := by
  obtain ⟨cs, i, g, n, hn, e⟩ := x
  exact fun z => by rw [z, e] at h; cases h
def SFeed7 (sp : Sp3) : Prop := ∀ (ns : List Int) (M : Mp) (Q : VK3) (E : XK3), (∀ a M', M a = none → Fd 0 M' a → Only a M M' → Q (.ref a) M') → sp [.rol (ns.map D.int)] M Q E
def SDraw7 (sp : Sp3) : Prop := ∀ (a : Addr) (b : Nat) (n : Int) (M : Mp) (Q : VK3) (E : XK3), Fd b M a → b < 2 ^ 30 → 0 < n → n < 2 ^ 200 → (∀ r M', 0 ≤ r → r < n → Fd (b + 1) M' a → Only a M M' → Q (.int r) M') → sp [.ref a, .int n] M Q E
theorem at_40 {x y z w : D} : atI [x, y, z, w] 0 = some x := rfl
theorem at_41 {x y z w : D} : atI [x, y, z, w] 1 = some y := rfl
theorem at_42 {x y z w : D} : atI [x, y, z, w] 2 = some z := rfl
theorem at_43 {x y z w : D} : atI [x, y, z, w] 3 = some w := rfl
theorem ix_41 {x y z w : D} : ixN [x, y, z, w].length 1 = some 1 := rfl
theorem ix_42 {x y z w : D} : ixN [x, y, z, w].length 2 = some 2 := rfl
theorem ix_43 {x y z w : D} : ixN [x, y, z, w].length 3 = some 3 := rfl
theorem set_41 {x y z w v : D} : [x, y, z, w].set 1 v = [x, v, z, w] := rfl
theorem set_42 {x y z w v : D} : [x, y, z, w].set 2 v = [x, y, v, w] := rfl
theorem set_43 {x y z w v : D} : [x, y, z, w].set 3 v = [x, y, z, v] := rfl
end L3
set_option Elab.async false
set_option linter.all false
set_option maxRecDepth 100000
set_option maxHeartbeats 4000000
namespace L3
open PySem PySem.Spec PyProof.Rows L2
theorem Gr.none {a b : Addr} {M M' : Mp} (x : Gr a M M') (h : M' b = none) (hb : b ≠ a) : M b = none := by
  cases e : M b with
  | none => rfl
  | some o => rw [x b o hb e] at h; cases h
end L3
set_option Elab.async false
set_option linter.all false
set_option maxRecDepth 100000
set_option maxHeartbeats 4000000
namespace L3
open PySem PySem.Spec PyProof.Rows L2
def RowFrom (n : Nat) (T : Tab) (p : Nat) (d : D) : Prop := (d = .non ∧ ∀ S, ¬ IsCl n (at2 T) S) ∨ ∃ l : List Ed, d = rowD l ∧ l.length = n ∧ Stable n (at2 T) (at1 l) ∧ eLe (at1 l p) (some 0) ∧ ∀ S, IsCl n (at2 T) S → ∀ i, i < n → at1 l i = S p i
end L3
set_option Elab.async false
set_option linter.all false
set_option maxRecDepth 100000
set_option maxHeartbeats 4000000
namespace L3
open PySem PySem.Spec PyProof.Rows L2
theorem RowFrom.pl {n p : Nat} {T : Tab} {d : D} (h : RowFrom n T p d) : plain d = true ∧ deep d ≤ 1 := by
  rcases h with ⟨rfl, _⟩ | ⟨l, rfl, _⟩
  · exact ⟨rfl, by simp [deep]⟩
  · have p := pl_row (l := l)
    refine ⟨p.p, ?_⟩
    show deeps (l.map oD) + 1 ≤ 1
    have : deeps (l.map oD) = 0 := by
      clear p
      rename_i hh; clear hh
      induction l with
      | nil => rfl
      | cons a r ih => cases a <;> simp [deeps, oD, deep, ih]
    omega
end L3
set_option Elab.async false
set_option linter.all false
set_option maxRecDepth 100000
set_option maxHeartbeats 4000000
namespace L3
open PySem PySem.Spec PyProof.Rows L2
theorem Fd.le {b : Nat} {a : Addr} {M M' : Mp} (x : Fd b M a) (h : Le M M') : Fd b M' a := by
  obtain ⟨cs, i, g, n, hn, e⟩ := x
  exact ⟨cs, i, g, n, hn, h _ _ e⟩
end L3
set_option Elab.async false
set_option linter.all false
set_option maxRecDepth 100000
set_option maxHeartbeats 4000000
namespace L3
open PySem PySem.Spec PyProof.Rows L2
end L3
set_option Elab.async false
set_option linter.all false
set_option maxRecDepth 100000
set_option maxHeartbeats 4000000
namespace L3
open PySem PySem.Spec PyProof.Rows L2
def leB : Ed → Ed → Bool
  | _, none => true
  | none, some _ => false
  | some x, some y => decide (x ≤ y)
/-- every end of one is at most that of the other -/
def WI (n : Nat) (S U : Tab) : Prop := ∀ p q, p < n → q < n → leB (at2 S p q) (at2 U p q) = true
/-- what is told of two tables -/
def WB (n : Nat) (S U : Tab) (b : Bool) : Prop := (S = [] ∧ b = true) ∨ (S ≠ [] ∧ U = [] ∧ b = false) ∨ (S ≠ [] ∧ U ≠ [] ∧ (b = true ↔ WI n S U))
theorem WB.uniq {n : Nat} {S U : Tab} {b c : Bool} (h : WB n S U b) (h' : WB n S U c) : b = c := by
  rcases h with ⟨e, r⟩ | ⟨e, f, r⟩ | ⟨e, f, r⟩ <;> rcases h' with ⟨e', r'⟩ | ⟨e', f', r'⟩ | ⟨e', f', r'⟩
  · rw [r, r']
  · exact absurd e e'
  · exact absurd e e'
  · exact absurd e' e
  · rw [r, r']
  · exact absurd f f'
  · exact absurd e' e
  · exact absurd f' f
  · rw [Bool.eq_iff_iff, r, r']
end L3
set_option Elab.async false
set_option linter.all false
set_option maxRecDepth 100000
set_option maxHeartbeats 4000000
namespace L3
open PySem PySem.Spec PyProof.Rows L2
end L3
set_option Elab.async false
set_option linter.all false
set_option maxRecDepth 100000
set_option maxHeartbeats 4000000
namespace L3
open PySem PySem.Spec PyProof.Rows L2
/-- tables that may be asked for: on k points or (), with what they are closed -/
structure Ct (b k : Nat) (d : D) : Prop where
  ex : ∃ (n B : Nat) (U V : Tab), d = tabD U ∧ n ≤ k ∧ 0 < B ∧ B ≤ b ∧ TabB B n U ∧ (U = [] ∨ n = k) ∧ Closes n B U (tabD V) ∧ (V = [] ∨ (Sq k V ∧ 0 < k)) ∧ (U = [] ∨ (Sq k U ∧ 0 < k)) ∧ ∃ C, C = 2 ^ k * b ∧ (V = [] ∨ TabB C k V)
theorem Ct.mono {b c k : Nat} {d : D} (h : Ct b k d) (hb : b ≤ c) : Ct c k d := by
  obtain ⟨n, B, U, V, e, h1, h2, h3, h4, h5, h6, h7, h8, C, rfl, h9⟩ := h.ex
  refine ⟨n, B, U, V, e, h1, h2, Nat.le_trans h3 hb, h4, h5, h6, h7, h8, _, rfl, ?_⟩
  rcases h9 with h | h
  · exact .inl h
  · exact .inr (h.mono (Nat.mul_le_mul_left _ hb))
theorem Ct.tm {b k : Nat} {d : D} (h : Ct b k d) (hb : b ≤ 10 ^ 100) (hk : k ≤ 7) : Tm 2 56 d := by
  obtain ⟨n, B, U, V, rfl, hn, _, hB, t, _⟩ := h.ex
  exact (Tm.tab t (Nat.le_trans hB hb)).mono (Nat.le_refl _) (Nat.mul_le_mul (Nat.le_trans hn hk) (Nat.add_le_add_right (Nat.le_trans hn hk) 1))
end L3
set_option Elab.async false
set_option linter.all false
set_option maxRecDepth 100000
set_option maxHeartbeats 4000000
namespace L3
open PySem PySem.Spec PyProof.Rows L2
def AtPq (p q : Nat) (t : Trip) : Prop := t.1 = (p : Int) ∧ t.2.1 = (q : Int)
structure LeastOf (ts : List Trip) (p q : Nat) (e : Ed) : Prop where
  le : ∀ t ∈ ts, AtPq p q t → eLe e (some t.2.2)
  or : e = none ∨ ∃ t ∈ ts, AtPq p q t ∧ e = some t.2.2
theorem LeastOf.uniq {ts : List Trip} {p q : Nat} {e e' : Ed} (h : LeastOf ts p q e) (h' : LeastOf ts p q e') : e = e' := by
  refine eLe_anti ?_ ?_
  · rcases h'.or with rfl | ⟨t, ht, ha, rfl⟩
    · exact eLe_none
    · exact h.le t ht ha
  · rcases h.or with rfl | ⟨t, ht, ha, rfl⟩
    · exact eLe_none
    · exact h'.le t ht ha
theorem LeastOf.congr {ts us : List Trip} {p q : Nat} {e : Ed} (h : LeastOf ts p q e) (sub : ∀ t ∈ us, ∃ s ∈ ts, s.1 = t.1 ∧ s.2.1 = t.2.1 ∧ s.2.2 ≤ t.2.2) (sup : ∀ t ∈ ts, t ∈ us) : LeastOf us p q e := by
  refine ⟨fun t ht ha => ?_, ?_⟩
  · obtain ⟨s, hs, e1, e2, e3⟩ := sub t ht
    have := h.le s hs ⟨e1.trans ha.1, e2.trans ha.2⟩
    exact eLe_trans this e3
  · rcases h.or with e | ⟨t, ht, ha, e⟩
    · exact .inl e
    · exact .inr ⟨t, sup t ht, ha, e⟩
def fieldOfR (sp_table_of : Sp3) : XK3 → TS3 := fun E =>
  (wRet (wCallP sp_table_of E (wCons (wOp oAddF (wVar 0) (wC (.int 1))) (wCons (wVar 1) wNil))))
def SFieldOf (sp : Sp3) : Prop := ∀ (w : Int) (B : Nat) (ts : List Trip) (rd : D) (Q : VK3) (E : XK3), 0 ≤ w → w ≤ 400 → 0 < B → IsSeq rd (ts.map tripD) → (∀ t ∈ ts, In2 (w + 1) t ∧ t.2.2.natAbs < B) →
  (∀ d M', Closes (w + 1).toNat B (mtab (w + 1).toNat ts) d → Q d M') → sp [.int w, rd] M0 Q E
theorem s_fieldOf {sp : Sp3} (k : STableOf sp) : SFieldOf (spOf 2 2 (fieldOfR sp)) := by
  refine fun w B ts rd Q E h0 h1 hB hrd hin q => ⟨rfl, ?_⟩
  show fieldOfR sp E _ [some (.int w), some rd] M0
  unfold fieldOfR
  rw [st_ret]
  simp only [ex_c, ex_var, ex_op, ex_un, ex_b, ex_and, ex_or, ex_not, ex_andV, ex_orV, ex_notV, ex_if, ex_chain, ex_nil, ex_cons, ex_tup, ex_lst, ex_call, ex_callP, ex_cb, ex_bm, ex_rep, ex_sl, ex_noPart, ex_part, ex_yes, it_items, it_rng1, it_rng2, tg_name, tg_sub, tg_tup, tg_cons, tg_nil, gs_0, gs_s, ss_0, ss_s, op_ii, op_ss, op_tt, op_mm, op_sb, op_ng, op_iNf, op_iNt, op_lle, op_ixT, op_ixR, op_ixL, op_putE, op_appE, it_tupE, it_rolE, it_refE, lstOf_l, exL, asS_some, asI_int, asB_bl, asL_some, asN_some, ite3_t, ite3_f, bl_1, bl_lenT, bl_lenR, bl_lenL, bl_lenS, bl_tuple, bl_list, bl_abs, bl_intI, bl_intB, bl_max, bl_min, op_eqSf, op_eqSt, op_eqIf, op_eqIt, op_eqTf, op_eqTt, op_eqRf, op_eqRt, op_eqNf, op_eqNt, eqD_int, eqD_nil, pl_int, pl_nil, pl_non, pl_rnil, pl_bl, sl_tupE, sl_rolE, keep_ref, keep_tup, keep_rol, tp_int, tp_tup, tp_rol, tp_str, tp_bl, tp_non, tp_ref, oFd, oMd, oPw, oShl, oLt, oLe, oGt, oGe, op_in, op_cp, wipe_nil, wipe_cons, mset_same, true_and, and_true, isN_int, ex_lstF, ex_repF, ex_lgF1, ex_lgF2, ex_tupRg1, ex_tupRg2, ex_frz, ex_slF, ex_slM, sl_tupF, sl_rolF, op_iiF, op_ssF, op_ttF, op_rrF, op_rrM, op_mmF, op_repF, li_rol, li_ref, bl_listF, bl_allF, bl_anyF, asT_some, asJ_some, op_eqBf, op_eqBt, isN_non, Bool.not_true, Bool.not_false, rep2]
  exact k _ B ts _ _ _ (by omega) (by omega) hB hrd hin fun d _ hd => q d _ hd
end L3
set_option Elab.async false
set_option linter.all false
set_option maxRecDepth 100000
set_option maxHeartbeats 4000000
namespace L3
open PySem PySem.Spec PyProof.Rows L2
def vW (vs : List Int) : Vl := fun i => (vs ++ [0]).getD i 0
def MetB (n : Nat) (T : Tab) (vs : List Int) (b : Bool) : Prop := (T = [] ∧ b = false) ∨ (T ≠ [] ∧ (b = true ↔ Meets n (at2 T) (vW vs)))
theorem MetB.uniq {n : Nat} {T : Tab} {vs : List Int} {b c : Bool} (h : MetB n T vs b) (h' : MetB n T vs c) : b = c := by
  rcases h with ⟨e, rfl⟩ | ⟨e, h⟩
  · rcases h' with ⟨_, rfl⟩ | ⟨e', _⟩
    · rfl
    · exact absurd e e'
  · rcases h' with ⟨e', _⟩ | ⟨_, h'⟩
    · exact absurd e' e
    · rw [Bool.eq_iff_iff, h, h']
end L3
set_option Elab.async false
set_option linter.all false
set_option maxRecDepth 100000
set_option maxHeartbeats 4000000
namespace L3
open PySem PySem.Spec PyProof.Rows L2
def Bxd (n : Nat) (W : Int) (T : Tab) : Prop := ∀ p, p + 1 < n → (∃ x, at2 T p (n - 1) = some x ∧ x ≤ W) ∧ ∃ x, at2 T (n - 1) p = some x ∧ x ≤ W
end L3
set_option Elab.async false
set_option linter.all false
set_option maxRecDepth 100000
set_option maxHeartbeats 4000000
namespace L3
open PySem PySem.Spec PyProof.Rows L2
/-- a list that may be written or not -/
def IsL (M : Mp) (d : D) (ds : List D) : Prop := d = .rol ds ∨ ∃ l, d = .ref l ∧ M l = some (.lst ds)
theorem IsL.items {M : Mp} {d : D} {ds : List D} (h : IsL M d ds) : items M d = some ds := by
  rcases h with rfl | ⟨l, rfl, h⟩
  · rfl
  · show lstOf (M l) = some ds
    rw [h]; rfl
theorem IsL.keep {M M' : Mp} {d : D} {ds : List D} (h : IsL M' d ds) : keepG M d ds M' := by
  rcases h with rfl | ⟨l, rfl, h⟩
  · exact True.intro
  · exact h
theorem IsL.put {M : Mp} {d : D} {ds : List D} {f : Addr} {o : MO} (h : IsL M d ds) (hf : ∀ l, d = .ref l → f ≠ l) : IsL (mset M f o) d ds := by
  rcases h with rfl | ⟨l, rfl, h⟩
  · exact .inl rfl
  · exact .inr ⟨l, rfl, (mset_ne (Ne.symm (hf l rfl))).trans h⟩
end L3
set_option Elab.async false
set_option linter.all false
set_option maxRecDepth 100000
set_option maxHeartbeats 4000000
namespace L3
open PySem PySem.Spec PyProof.Rows L2
theorem at2_app {V : Tab} {s : List Ed} {p j : Nat} : at2 (V ++ [s]) p j = if p < V.length then at2 V p j else if p = V.length then s.getD j none else none := by
  unfold at2
  rw [List.getD_eq_getElem?_getD (l := V ++ [s])]
  split
  · rename_i h
    rw [List.getElem?_append_left h, ← List.getD_eq_getElem?_getD]
  · rename_i h
    rw [List.getElem?_append_right (by omega)]
    split
    · rename_i h2
      rw [h2, Nat.sub_self]; rfl
    · rename_i h2
      have : p - V.length = (p - V.length - 1) + 1 := by omega
      rw [this]; rfl
/-- rows as they are being boxed -/
structure BxR (n : Nat) (W : Int) (V : Tab) (i : Nat) : Prop where
  len : V.length = i
  rows : ∀ r ∈ V, r.length = n ∧ ∀ e ∈ r, EdB 13 e
  low : ∀ p, p < i → p + 1 < n → ∃ x, at2 V p (n - 1) = some x ∧ x ≤ W
  last : ∀ p, p < i → p + 1 = n → ∀ j, j + 1 < n → ∃ x, at2 V p j = some x ∧ x ≤ W
theorem BxR.done {n : Nat} {W : Int} {V : Tab} (h : BxR n W V n) : TabB 13 n V ∧ Bxd n W V :=
  ⟨⟨h.len, fun r hr => (h.rows r hr).1, fun r hr e he => (h.rows r hr).2 e he⟩, fun p hp => ⟨h.low p (by omega) hp, h.last (n - 1) (by omega) (by omega) p hp⟩⟩
theorem BxR.add {n i : Nat} {W : Int} {V : Tab} {s : List Ed} (h : BxR n W V i) (hs : s.length = n) (hb : ∀ e ∈ s, EdB 13 e) (h1 : i + 1 < n → ∃ x, s.getD (n - 1) none = some x ∧ x ≤ W) (h2 : i + 1 = n → ∀ j, j + 1 < n → ∃ x, s.getD j none = some x ∧ x ≤ W) : BxR n W (V ++ [s]) (i + 1) := by
  refine ⟨by rw [List.length_append, h.len]; rfl, fun r hr => ?_, fun p hp hpn => ?_, fun p hp hpn j hj => ?_⟩
  · rcases List.mem_append.mp hr with hr | hr
    · exact h.rows r hr
    · rw [List.mem_singleton] at hr; rw [hr]; exact ⟨hs, hb⟩
  · rw [at2_app, h.len]
    split
    · rename_i z; exact h.low p z hpn
    · rename_i z
      have e : p = i := by omega
      rw [if_pos e]
      exact h1 (by omega)
  · rw [at2_app, h.len]
    split
    · rename_i z; exact h.last p z hpn j hj
    · rename_i z
      have e : p = i := by omega
      rw [if_pos e]
      exact h2 (by omega) j hj
end L3
set_option Elab.async false
set_option linter.all false
set_option maxRecDepth 100000
set_option maxHeartbeats 4000000
namespace L3
open PySem PySem.Spec PyProof.Rows L2
/-- integers at the same places -/
def Alike (T G : Tab) : Prop := T.map (fun r => r.map Option.isNone) = G.map (fun r => r.map Option.isNone)
end L3
set_option Elab.async false
set_option linter.all false
set_option maxRecDepth 100000
set_option maxHeartbeats 4000000
namespace L3
open PySem PySem.Spec PyProof.Rows L2
theorem isi_I {i : Int} {n : String} {b : Bool} {M : Mp} {Q : VK3} (h : kitB "int" n = some b) : bIsi [.int i, .ty n] M Q = Q (.bl b) M := isi_is rfl h
theorem isi_T {ds : List D} {n : String} {b : Bool} {M : Mp} {Q : VK3} (h : kitB "tuple" n = some b) : bIsi [.tup ds, .ty n] M Q = Q (.bl b) M := isi_is rfl h
instance {T G : Tab} : Decidable (Alike T G) := inferInstanceAs (Decidable (_ = _))
end L3
set_option Elab.async false
set_option linter.all false
set_option maxRecDepth 100000
set_option maxHeartbeats 4000000
namespace L3
open PySem PySem.Spec PyProof.Rows L2
theorem eMin_comm (a b : Ed) : eMin a b = eMin b a := by
  cases a <;> cases b <;> simp only [eMin]
  split <;> split <;> first | rfl | (congr 1; omega)
theorem eMin_assoc (a b c : Ed) : eMin (eMin a b) c = eMin a (eMin b c) := by
  cases a <;> cases b <;> cases c <;> simp only [eMin] <;> (repeat (first | (split <;> simp only [eMin]))) <;> first | rfl | (congr 1; omega) | (exfalso; omega)
theorem eAdd_min (a b c : Ed) : eAdd (eMin a b) c = eMin (eAdd a c) (eAdd b c) := by
  cases a <;> cases b <;> cases c <;> simp only [eMin, eAdd] <;> (repeat (first | (split <;> simp only [eAdd]))) <;> first | rfl | (congr 1; omega) | (exfalso; omega)
def minN (f : Nat → Ed) : Nat → Ed
  | 0 => none
  | k + 1 => eMin (minN f k) (f k)
theorem minN_lin {f g : Nat → Ed} {c : Ed} : ∀ n, eMin (minN f n) (eAdd (minN g n) c) = minN (fun p => eMin (f p) (eAdd (g p) c)) n
  | 0 => by cases c <;> rfl
  | n + 1 => by
    show eMin (eMin (minN f n) (f n)) (eAdd (eMin (minN g n) (g n)) c) = eMin (minN _ n) (eMin (f n) (eAdd (g n) c))
    rw [← minN_lin n, eAdd_min]
    generalize minN f n = a
    generalize f n = b
    generalize eAdd (minN g n) c = d
    generalize eAdd (g n) c = e
    rw [eMin_assoc, eMin_assoc, ← eMin_assoc b d e, eMin_comm b d, eMin_assoc d b e]
theorem minN_congr {f g : Nat → Ed} : ∀ n, (∀ p, p < n → f p = g p) → minN f n = minN g n
  | 0, _ => rfl
  | n + 1, h => by
    show eMin _ _ = eMin _ _
    rw [minN_congr n fun p hp => h p (by omega), h n (by omega)]
/-- a row that is the least of some rows -/
def IsMin (n m : Nat) (l : List Ed) (fam : Nat → List Ed) : Prop := l.length = n ∧ (∀ p, p < m → (fam p).length = n) ∧ ∀ i, i < n → at1 l i = minN (fun p => at1 (fam p) i) m
theorem IsMin.loos1 {n m : Nat} {l : List Ed} {fam : Nat → List Ed} {e : Edge} (h : IsMin n m l fam) (h1 : e.1 < n) (h2 : e.2.1 < n) : IsMin n m (loos1 l e) fun p => L3.loos1 (fam p) e := by
  obtain ⟨a, b, c⟩ := h
  refine ⟨by rw [loos1_len, a], fun p hp => by rw [loos1_len, b p hp], fun i hi => ?_⟩
  have g : ∀ p, p < m → at1 (L3.loos1 (fam p) e) i = if i = e.2.1 then eMin (at1 (fam p) e.2.1) (eAdd (at1 (fam p) e.1) (some e.2.2)) else at1 (fam p) i := fun p hp => by
    unfold L3.loos1
    rw [at1_set (by rw [b p hp]; exact h2)]
  rw [minN_congr m g]
  unfold L3.loos1
  rw [at1_set (by rw [a]; exact h2)]
  by_cases e1 : i = e.2.1
  · rw [if_pos e1]
    simp only [if_pos e1]
    rw [c _ h2, c _ h1, minN_lin]
  · rw [if_neg e1]
    simp only [if_neg e1]
    exact c i hi
theorem IsMin.loosL {n m : Nat} : ∀ {es : List Edge} {l : List Ed} {fam : Nat → List Ed}, (∀ e ∈ es, e.1 < n ∧ e.2.1 < n) → IsMin n m l fam → IsMin n m (loosL l es) fun p => L3.loosL (fam p) es
  | [], _, _, _, h => h
  | e :: es, l, fam, he, h => IsMin.loosL (es := es) (fun x hx => he x (by simp [hx])) (h.loos1 (he e (by simp)).1 (he e (by simp)).2)
theorem IsMin.loosN {n m : Nat} {es : List Edge} {l : List Ed} {fam : Nat → List Ed} (he : ∀ e ∈ es, e.1 < n ∧ e.2.1 < n) (h : IsMin n m l fam) : ∀ k, IsMin n m (loosN es l k) fun p => L3.loosN es (fam p) k
  | 0 => h
  | k + 1 => (IsMin.loosN he h k).loosL he
def zerosL (n : Nat) : List Ed := List.replicate n (some 0)
theorem zeros_at {n i : Nat} (h : i < n) : at1 (zerosL n) i = some 0 := by
  unfold at1 zerosL
  rw [List.getD_eq_getElem?_getD, List.getElem?_replicate, if_pos h]; rfl
theorem minN_one {i : Nat} : ∀ m, minN (fun p => if i = p then some 0 else none) m = if i < m then some 0 else none
  | 0 => rfl
  | m + 1 => by
    show eMin (minN _ m) (if i = m then some 0 else none) = _
    rw [minN_one m]
    by_cases h : i < m
    · rw [if_pos h, if_neg (show ¬ i = m by omega), if_pos (show i < m + 1 by omega)]; rfl
    · rw [if_neg h]
      by_cases h2 : i = m
      · rw [if_pos h2, if_pos (by omega)]; rfl
      · rw [if_neg h2, if_neg (by omega)]; rfl
theorem zeros_min (n : Nat) : IsMin n n (zerosL n) (row0 n) := by
  refine ⟨by simp [zerosL], fun p hp => row0_len hp, fun i hi => ?_⟩
  rw [zeros_at hi, minN_congr n fun p hp => row0_at hp hi, minN_one, if_pos hi]
section
variable {n : Nat} {T S : Fn} {es : List Edge}
theorem zeros_done (c : IsCl n T S) (E : Es n T es) {k : Nat} (hk : n ≤ k + 1) {i : Nat} (hi : i < n) : at1 (loosN es (zerosL n) k) i = minN (fun p => S p i) n := by
  obtain ⟨_, _, h⟩ := (zeros_min n).loosN E.rg k
  rw [h i hi]
  exact minN_congr n fun p hp => (way0 c hp).done c E hp hk i hi
theorem loosN_lenZ {l : List Ed} : ∀ k, (loosN es l k).length = l.length
  | 0 => rfl
  | k + 1 => by show (loosL _ es).length = _; rw [loosL_len, loosN_lenZ k]
theorem loosN_le {l : List Ed} (i : Nat) : ∀ k, eLe (at1 (loosN es l k) i) (at1 l i)
  | 0 => eLe.rfl'
  | k + 1 => eLe_trans (loosL_le i) (loosN_le i k)
theorem ed_ext {l k : List Ed} (h : l.length = k.length) (h2 : ∀ i, i < l.length → at1 l i = at1 k i) : l = k := by
  apply List.ext_getElem h
  intro i h3 h4
  have := h2 i h3
  unfold at1 at this
  rw [List.getD_eq_getElem?_getD, List.getD_eq_getElem?_getD, List.getElem?_eq_getElem h3, List.getElem?_eq_getElem h4] at this
  exact this
/-- some round is still: just where values meet -/
theorem still_iff {B : Nat} {X : Tab} (tX : TabB B n X) (hB : 0 < B) (hn : 0 < n) (E : Es n (at2 X) es) : (∃ k, k ≤ n ∧ loosN es (zerosL n) (k + 1) = loosN es (zerosL n) k) ↔ ¬ Bad n (at2 X) := by
  constructor
  · rintro ⟨k, hk, h⟩ ⟨m, hm, bad⟩
    have hl : (loosN es (zerosL n) k).length = n := by rw [loosN_lenZ]; simp [zerosL]
    have st := loos_st (es := es) (l := loosN es (zerosL n) k) h fun e he => by rw [hl]; exact E.rg e he
    have z := bad _ ((E.st _).mpr st)
    have le := loosN_le (es := es) (l := zerosL n) m k
    rw [z, zeros_at hm] at le
    exact le
  · intro nb
    obtain ⟨d, hd⟩ := closes_ex tX hB
    rcases hd with ⟨b, _⟩ | ⟨S, _, c, _⟩
    · exact absurd b nb
    · refine ⟨n - 1, by omega, ed_ext (by rw [loosN_lenZ, loosN_lenZ]) fun i hi => ?_⟩
      have hi : i < n := by rw [loosN_lenZ] at hi; simpa [zerosL] using hi
      rw [zeros_done c E (by omega) hi, zeros_done c E (by omega) hi]
end
end L3
set_option Elab.async false
set_option linter.all false
set_option maxRecDepth 100000
set_option maxHeartbeats 4000000
namespace L3
open PySem PySem.Spec PyProof.Rows L2
theorem row0_set {n p : Nat} (hp : p < n) : (List.replicate n (none : Ed)).set p (some 0) = row0 n p := by
  refine ed_ext (by rw [List.length_set, List.length_replicate, row0_len hp]) fun i hi => ?_
  have hi : i < n := by simpa using hi
  rw [at1_set (by simpa using hp), row0_at hp hi]
  by_cases e : i = p
  · rw [if_pos e, if_pos e]
  · rw [if_neg e, if_neg e]
    unfold at1
    rw [List.getD_eq_getElem?_getD, List.getElem?_replicate, if_pos hi]; rfl
end L3
set_option Elab.async false
set_option linter.all false
set_option maxRecDepth 100000
set_option maxHeartbeats 4000000
namespace L3
open PySem PySem.Spec PyProof.Rows L2
theorem for_enQ {G : Mp → Prop} {g : TG3} {tb : TS3} {E : Ends3} {ds : List D} (Pv : Nat → St3 → Mp → Prop) (hG : ∀ i τ M, Pv i τ M → G M)
    (step : ∀ i x τ M, ds[i]? = some x → Pv i τ M → ∀ X : St3 → Mp → Prop, (∀ τ' M', Pv (i + 1) τ' M' → X τ' M') → g (.tup [.int (i : Nat), x]) τ M fun τ2 M2 => tb { E with nx := X, ct := X, bk := E.nx } τ2 M2)
    (fin : ∀ τ M, Pv ds.length τ M → E.nx τ M) {τ : St3} {M : Mp} (h0 : Pv 0 τ M) : forW G g tb E (enD ds) τ M :=
  for_pv Pv (fun i d τ M hd p X hX => by
    obtain ⟨x, hx, rfl⟩ := enD_get hd
    exact ⟨hG i τ M p, step i x τ M hx p X hX⟩) (fun τ M p => ⟨hG _ τ M p, fin τ M (by rw [enD_len] at p; exact p)⟩) h0
def PullTo (T : Tab) (pl : List Nat) (i j : Nat) (s : Nat → Ed) : Prop := ∀ p q, p < T.length → q < T.length → (p < i ∨ (p = i ∧ q < j)) → eLe (s (pl.getD q 0)) (eAdd (s (pl.getD p 0)) (at2 T p q))
structure Upto (B n : Nat) (T : Tab) (pl : List Nat) (i j : Nat) (us : List Trip) : Prop where
  ok : TripsOk n B us
  st : ∀ s, StE (us.map edgeOf) s ↔ PullTo T pl i j s
  len : us.length ≤ i * 7 + j
theorem Upto.next {B n : Nat} {T : Tab} {pl : List Nat} {i : Nat} {us : List Trip} (h : Upto B n T pl i T.length us) (h7 : T.length ≤ 7) : Upto B n T pl (i + 1) 0 us :=
  ⟨h.ok, fun s => (h.st s).trans ⟨fun a p q hp hq c => a p q hp hq (by omega), fun a p q hp hq c => a p q hp hq (by omega)⟩, by have := h.len; omega⟩
theorem Upto.skip {B n : Nat} {T : Tab} {pl : List Nat} {i j : Nat} {us : List Trip} (h : Upto B n T pl i j us) (e : at2 T i j = none) : Upto B n T pl i (j + 1) us :=
  ⟨h.ok, fun s => (h.st s).trans ⟨fun a p q hp hq c => by
    by_cases z : p = i ∧ q = j
    · obtain ⟨rfl, rfl⟩ := z
      rw [e]
      have : eAdd (s (pl.getD p 0)) none = none := by cases s (pl.getD p 0) <;> rfl
      rw [this]; exact eLe_none
    · exact a p q hp hq (by omega), fun a p q hp hq c => a p q hp hq (by omega)⟩, by have := h.len; omega⟩
theorem Upto.add {B n : Nat} {T : Tab} {pl : List Nat} {i j : Nat} {us : List Trip} {c : Int} (h : Upto B n T pl i j us) (hi : i < T.length) (hj : j < T.length) (e : at2 T i j = some c) (hc : c.natAbs < B) (hp : ∀ k, k < T.length → pl.getD k 0 < n) : Upto B n T pl i (j + 1) (us ++ [(((pl.getD i 0 : Nat) : Int), ((pl.getD j 0 : Nat) : Int), c)]) := by
  refine ⟨fun t ht => ?_, fun s => ?_, by rw [List.length_append]; have := h.len; show _ + 1 ≤ _; omega⟩
  · rcases List.mem_append.mp ht with h1 | h1
    · exact h.ok t h1
    · rw [List.mem_singleton] at h1
      rw [h1]
      have a := hp i hi
      have b := hp j hj
      exact ⟨⟨by dsimp only; omega, by dsimp only; omega, by dsimp only; omega, by dsimp only; omega⟩, hc⟩
  · rw [List.map_append, StE.app, h.st]
    have one : StE ([(((pl.getD i 0 : Nat) : Int), ((pl.getD j 0 : Nat) : Int), c)].map edgeOf) s ↔ eLe (s (pl.getD j 0)) (eAdd (s (pl.getD i 0)) (some c)) := by
      constructor
      · intro a; exact a _ (List.mem_singleton.mpr rfl)
      · intro a x hx
        rw [List.map_singleton, List.mem_singleton] at hx
        rw [hx]; exact a
    rw [one]
    constructor
    · rintro ⟨a, b⟩ p q hp' hq' z
      by_cases y : p = i ∧ q = j
      · obtain ⟨rfl, rfl⟩ := y
        rw [e]; exact b
      · exact a p q hp' hq' (by omega)
    · intro a
      refine ⟨fun p q hp' hq' z => a p q hp' hq' (by omega), ?_⟩
      have := a i j hi hj (by omega)
      rw [e] at this
      exact this
end L3
set_option Elab.async false
set_option linter.all false
set_option maxRecDepth 100000
set_option maxHeartbeats 4000000
namespace L3
open PySem PySem.Spec PyProof.Rows L2
abbrev lpF (w e p : D) : List (Str × D) := [(("width" : Str), w), (("ends" : Str), e), (("past" : Str), p)]
abbrev Past := Int × Int × Ed
def pastD (x : Past) : D := .tup [.int x.1, .int x.2.1, oD x.2.2]
structure Lp (M : Mp) (o e p : Addr) (as : List Addr) (w : Nat) (T : Tab) (ps : List Past) : Prop where
  ob : M o = some (.ins "Loop" (lpF (.int w) (.ref e) (.ref p)))
  mat : Mat M e as T
  pst : M p = some (.lst (ps.map pastD))
  ne : e ≠ p
  np : p ∉ as
  sq : Sq (2 * w + 1) T
theorem Lp.le {M M' : Mp} {o e p : Addr} {as : List Addr} {w : Nat} {T : Tab} {ps : List Past} (h : Lp M o e p as w T ps) (l : Le M M') : Lp M' o e p as w T ps :=
  ⟨l _ _ h.ob, h.mat.le l, l _ _ h.pst, h.ne, h.np, h.sq⟩
theorem Mat.rows {M : Mp} {e : Addr} {as : List Addr} {T : Tab} (m : Mat M e as T) : Rows M0 M as T := ⟨(fun _ _ h => nomatch h), m.len, m.row, m.nd, fun _ _ => rfl⟩
theorem mem_ne {a b : Addr} {as : List Addr} (h : a ∈ as) (h2 : b ∉ as) : b ≠ a := fun z => h2 (z ▸ h)
section
variable {M : Mp} {o e p : Addr} {as : List Addr} {w : Nat} {T : Tab} {ps : List Past}
theorem Mat.lst {a : Addr} (m : Mat M e as T) (h : a ∈ as) : ∃ ds, M a = some (.lst ds) := by
  obtain ⟨i, hi, rfl⟩ := List.mem_iff_getElem.mp h
  have hT : i < T.length := by rw [← m.len]; exact hi
  exact ⟨_, m.row i _ T[i] (List.getElem?_eq_getElem hi) (List.getElem?_eq_getElem hT)⟩
theorem Lp.oa (h : Lp M o e p as w T ps) : o ∉ as := fun z => by
  obtain ⟨ds, hd⟩ := h.mat.lst z
  have := h.ob; rw [hd] at this; cases this
theorem Lp.putR {i q : Nat} {a : Addr} {r : List Ed} {x : Ed} (h : Lp M o e p as w T ps) (ha : as[i]? = some a) (hr : T[i]? = some r) : Lp (mset M a (.lst ((r.map oD).set q (oD x)))) o e p as w (putT T i q x) ps := by
  have am := List.mem_of_getElem? ha
  have e1 : T.getD i [] = r := by rw [List.getD_eq_getElem?_getD, hr]; rfl
  refine ⟨by rw [mset_ne (mem_ne am h.oa)]; exact h.ob, ?_, by rw [mset_ne (mem_ne am h.np)]; exact h.pst, h.ne, h.np, h.sq.put⟩
  rw [← List.map_set]
  unfold putT
  rw [e1]
  exact h.mat.put ha hr
end
end L3
set_option Elab.async false
set_option linter.all false
set_option maxRecDepth 100000
set_option maxHeartbeats 4000000
namespace L3
open PySem PySem.Spec PyProof.Rows L2
def intsT (T : Tab) : List Ed := T.flatMap fun r => r.filter Option.isSome
end L3
set_option Elab.async false
set_option linter.all false
set_option maxRecDepth 100000
set_option maxHeartbeats 4000000
namespace L3
open PySem PySem.Spec PyProof.Rows L2
end L3
set_option Elab.async false
set_option linter.all false
set_option maxRecDepth 100000
set_option maxHeartbeats 4000000
namespace L3
open PySem PySem.Spec PyProof.Rows L2
def bEd (e : Ed) : Nat := if e.isSome then 1 else 0
theorem filt_set : ∀ (r : List Ed) (q : Nat) (x : Ed) (h : q < r.length), ((r.set q x).filter Option.isSome).length + bEd r[q] = (r.filter Option.isSome).length + bEd x
  | [], q, x, h => by simp at h
  | y :: r, 0, x, h => by
    simp only [List.set_cons_zero, List.filter_cons, List.getElem_cons_zero, bEd]
    cases x <;> cases y <;> simp
  | y :: r, q + 1, x, h => by
    have ih := filt_set r q x (by simpa using h)
    simp only [List.set_cons_succ, List.filter_cons, List.getElem_cons_succ]
    cases y <;> simp <;> omega
theorem ints_set : ∀ (T : Tab) (p : Nat) (r' : List Ed) (h : p < T.length), (intsT (T.set p r')).length + (T[p].filter Option.isSome).length = (intsT T).length + (r'.filter Option.isSome).length
  | [], p, r', h => by simp at h
  | y :: T, 0, r', h => by
    simp only [List.set_cons_zero, List.getElem_cons_zero, intsT, List.flatMap_cons, List.length_append]
    omega
  | y :: T, p + 1, r', h => by
    have ih := ints_set T p r' (by simpa using h)
    simp only [List.set_cons_succ, List.getElem_cons_succ, intsT, List.flatMap_cons, List.length_append] at ih ⊢
    omega
theorem ints_put {n : Nat} {T : Tab} (sq : Sq n T) {p q : Nat} (hp : p < n) (hq : q < n) (x : Ed) : (intsT (putT T p q x)).length + bEd (at2 T p q) = (intsT T).length + bEd x := by
  have h1 : p < T.length := by rw [sq.rows]; exact hp
  have h2 : q < T[p].length := by rw [sq.cols _ (List.getElem_mem h1)]; exact hq
  have e1 : T.getD p [] = T[p] := by rw [List.getD_eq_getElem?_getD, List.getElem?_eq_getElem h1]; rfl
  have e2 : at2 T p q = T[p][q] := by unfold at2; rw [e1, List.getD_eq_getElem?_getD, List.getElem?_eq_getElem h2]; rfl
  unfold putT
  rw [e1, e2]
  have a := ints_set T p (T[p].set q x) h1
  have b := filt_set T[p] q x h2
  omega
theorem at2_putQ {n : Nat} {T : Tab} (sq : Sq n T) {p q i j : Nat} (hp : p < n) (hq : q < n) (x : Ed) : at2 (putT T p q x) i j = if i = p ∧ j = q then x else at2 T i j := by
  have h1 : p < T.length := by rw [sq.rows]; exact hp
  have h2 : q < T[p].length := by rw [sq.cols _ (List.getElem_mem h1)]; exact hq
  have e1 : T.getD p [] = T[p] := by rw [List.getD_eq_getElem?_getD, List.getElem?_eq_getElem h1]; rfl
  unfold at2 putT
  rw [e1]
  simp only [List.getD_eq_getElem?_getD]
  by_cases hi : i = p
  · subst hi
    rw [List.getElem?_set_self h1, List.getElem?_eq_getElem h1]
    simp only [Option.getD_some]
    by_cases hj : j = q
    · subst hj
      rw [List.getElem?_set_self h2]; simp
    · rw [List.getElem?_set_ne (Ne.symm hj)]; simp [hj]
  · rw [List.getElem?_set_ne (Ne.symm hi), if_neg (fun z => hi z.1)]
theorem at2_empty {n i j : Nat} : at2 (emptyT n) i j = none := by
  unfold at2 emptyT
  simp only [List.getD_eq_getElem?_getD, List.getElem?_replicate]
  split
  · simp only [Option.getD_some, List.getElem?_replicate]
    split <;> rfl
  · rfl
theorem ints_empty {n : Nat} : intsT (emptyT n) = [] := by
  unfold intsT emptyT
  rw [List.flatMap_eq_nil_iff]
  intro r hr
  rw [List.eq_of_mem_replicate hr, List.filter_eq_nil_iff]
  intro x hx
  rw [List.eq_of_mem_replicate hx]; simp
abbrev Dct := List (List Key × D)
section
variable {κ : Type} [DecidableEq κ]
theorem putG_keys {l : List (κ × D)} {k : κ} {d : D} (h : k ∈ l.map (·.1)) : putG l k d = l.map (fun p => if p.1 = k then (p.1, d) else p) := by
  unfold putG
  rw [if_pos]
  obtain ⟨x, hx, rfl⟩ := List.mem_map.mp h
  exact List.any_eq_true.mpr ⟨x, hx, by simp⟩
theorem putG_new {l : List (κ × D)} {k : κ} {d : D} (h : k ∉ l.map (·.1)) : putG l k d = l ++ [(k, d)] := by
  unfold putG
  rw [if_neg]
  intro z
  obtain ⟨x, hx, e⟩ := List.any_eq_true.mp z
  exact h (List.mem_map.mpr ⟨x, hx, of_decide_eq_true e⟩)
theorem map_fst {l : List (κ × D)} {k : κ} {d : D} : (l.map (fun p => if p.1 = k then (p.1, d) else p)).map (·.1) = l.map (·.1) := by
  rw [List.map_map]
  refine List.map_congr_left fun x _ => ?_
  simp only [Function.comp]
  split <;> rfl
theorem putG_len {l : List (κ × D)} {k : κ} {d : D} : (putG l k d).length ≤ l.length + 1 := by
  by_cases h : k ∈ l.map (·.1)
  · rw [putG_keys h, List.length_map]; omega
  · rw [putG_new h, List.length_append]; exact Nat.le_refl _
theorem map_same {l : List (κ × D)} {k : κ} {d : D} (h : k ∉ l.map (·.1)) : l.map (fun p => if p.1 = k then (p.1, d) else p) = l := by
  conv => rhs; rw [← List.map_id l]
  refine List.map_congr_left fun x hx => ?_
  rw [if_neg (fun z => h (List.mem_map.mpr ⟨x, hx, z⟩))]; rfl
end
theorem valT_none {l : Dct} {k : List Key} (h : k ∉ l.map (·.1)) : valT l k = none := by
  induction l with
  | nil => rfl
  | cons x l ih =>
    rw [List.map_cons, List.mem_cons, not_or] at h
    unfold valT
    rw [if_neg (fun z => h.1 z.symm)]
    exact ih h.2
theorem valT_map {l : Dct} {k j : List Key} {d : D} (h : k ∈ l.map (·.1)) : valT (l.map (fun p => if p.1 = k then (p.1, d) else p)) j = if j = k then some d else valT l j := by
  induction l with
  | nil => simp at h
  | cons x l ih =>
    have tail : j ≠ k → valT (l.map (fun p => if p.1 = k then (p.1, d) else p)) j = valT l j := fun hj => by
      by_cases hk : k ∈ l.map (fun p : List Key × D => p.1)
      · rw [ih hk, if_neg hj]
      · rw [map_same hk]
    rw [List.map_cons]
    unfold valT
    by_cases hx : x.1 = k
    · simp only [if_pos hx]
      by_cases hj : x.1 = j
      · rw [if_pos hj, if_pos (hj.symm.trans hx)]
      · have hjk : ¬ j = k := fun z => hj (hx.trans z.symm)
        rw [if_neg hj, if_neg hjk, if_neg hj]
        exact tail hjk
    · simp only [if_neg hx]
      have hk : k ∈ l.map (fun p : List Key × D => p.1) := by
        rw [List.map_cons, List.mem_cons] at h
        rcases h with h | h
        · exact absurd h.symm hx
        · exact h
      by_cases hj : x.1 = j
      · have hjk : ¬ j = k := fun z => hx (hj.trans z)
        rw [if_pos hj, if_neg hjk, if_pos hj]
      · rw [if_neg hj, if_neg hj]
        exact ih hk
theorem valT_snoc {l : Dct} {k j : List Key} {d : D} (h : k ∉ l.map (·.1)) : valT (l ++ [(k, d)]) j = if j = k then some d else valT l j := by
  induction l with
  | nil =>
    simp only [List.nil_append, valT]
    by_cases hj : j = k
    · rw [if_pos hj.symm, if_pos hj]
    · rw [if_neg (fun z => hj z.symm), if_neg hj]
  | cons x l ih =>
    rw [List.map_cons, List.mem_cons, not_or] at h
    rw [List.cons_append]
    unfold valT
    rw [ih h.2]
    by_cases hj : x.1 = j
    · rw [if_pos hj, if_neg (fun z => h.1 (z.symm.trans hj.symm)), if_pos hj]
    · rw [if_neg hj, if_neg hj]
theorem valT_put {l : Dct} {k j : List Key} {d : D} : valT (putG l k d) j = if j = k then some d else valT l j := by
  by_cases h : k ∈ l.map (·.1)
  · rw [putG_keys h, valT_map h]
  · rw [putG_new h, valT_snoc h]
abbrev k2 (p q : Nat) : List Key := [.inl (p : Int), .inl (q : Int)]
theorem k2_inj {p q i j : Nat} (h : k2 p q = k2 i j) : p = i ∧ q = j := by
  unfold k2 at h
  injection h with h1 h2
  injection h2 with h2 _
  injection h1 with h1
  injection h2 with h2
  exact ⟨by omega, by omega⟩
def cntL (l : Dct) : Nat := (l.filter fun kv => !isN kv.2).length
def bD (d : D) : Nat := if isN d then 0 else 1
theorem bD_oD {e : Ed} : bD (oD e) = bEd e := by cases e <;> rfl
theorem isN2 (d : D) : isN d = true ∨ isN d = false := by cases isN d <;> simp
theorem cnt_map : ∀ {l : Dct} {k : List Key} {d : D}, (l.map (·.1)).Nodup → k ∈ l.map (·.1) → cntL (l.map (fun p => if p.1 = k then (p.1, d) else p)) + bD ((valT l k).getD .non) = cntL l + bD d
  | [], k, d, _, h => by simp at h
  | x :: l, k, d, nd, h => by
    rw [List.map_cons, List.nodup_cons] at nd
    rw [List.map_cons]
    unfold valT
    by_cases hx : x.1 = k
    · rw [if_pos hx, if_pos hx, map_same (by rw [← hx]; exact nd.1)]
      simp only [cntL, List.filter_cons, Option.getD_some, bD]
      rcases isN2 d with hd | hd <;> rcases isN2 x.2 with hx2 | hx2 <;> simp [hd, hx2]
    · rw [if_neg hx, if_neg hx]
      have hk : k ∈ l.map (·.1) := by
        rw [List.map_cons, List.mem_cons] at h
        rcases h with h | h
        · exact absurd h.symm hx
        · exact h
      have ih := cnt_map (d := d) nd.2 hk
      simp only [cntL, List.filter_cons] at ih ⊢
      rcases isN2 x.2 with hx2 | hx2 <;> simp [hx2] <;> omega
theorem cnt_put {l : Dct} {k : List Key} {d : D} (nd : (l.map (·.1)).Nodup) : cntL (putG l k d) + bD ((valT l k).getD .non) = cntL l + bD d := by
  by_cases h : k ∈ l.map (·.1)
  · rw [putG_keys h]; exact cnt_map nd h
  · rw [putG_new h, valT_none h]
    simp only [cntL, List.filter_append, List.filter_cons, List.filter_nil, List.length_append, Option.getD_none, bD, isN_non]
    rcases isN2 d with hd | hd <;> simp [hd]
structure DcT (n : Nat) (l : Dct) (T : Tab) : Prop where
  key : ∀ kv ∈ l, ∃ (p q : Nat) (x : Ed), p < n ∧ q < n ∧ kv = (k2 p q, oD x)
  nd : (l.map (·.1)).Nodup
  val : ∀ p q, p < n → q < n → (valT l (k2 p q)).getD .non = oD (at2 T p q)
  cnt : cntL l = (intsT T).length
theorem DcT.empty {n : Nat} : DcT n [] (emptyT n) := ⟨fun _ h => by simp at h, List.nodup_nil, fun p q _ _ => by rw [at2_empty]; rfl, by rw [ints_empty]; rfl⟩
theorem DcT.put {n : Nat} {l : Dct} {T : Tab} (h : DcT n l T) (sq : Sq n T) {p q : Nat} (hp : p < n) (hq : q < n) (x : Ed) : DcT n (putG l (k2 p q) (oD x)) (putT T p q x) := by
  refine ⟨fun kv hk => ?_, ?_, fun i j hi hj => ?_, ?_⟩
  · by_cases hm : k2 p q ∈ l.map (·.1)
    · rw [putG_keys hm] at hk
      obtain ⟨y, hy, rfl⟩ := List.mem_map.mp hk
      obtain ⟨i, j, z, a, b, rfl⟩ := h.key y hy
      by_cases e : k2 i j = k2 p q
      · exact ⟨i, j, x, a, b, by rw [if_pos e]⟩
      · exact ⟨i, j, z, a, b, by rw [if_neg e]⟩
    · rw [putG_new hm] at hk
      rcases List.mem_append.mp hk with hk | hk
      · exact h.key kv hk
      · rw [List.mem_singleton] at hk
        exact ⟨p, q, x, hp, hq, hk⟩
  · by_cases hm : k2 p q ∈ l.map (·.1)
    · rw [putG_keys hm, map_fst]; exact h.nd
    · rw [putG_new hm, List.map_append, List.nodup_append]
      exact ⟨h.nd, by simp, fun a ha b hb => by
        simp only [List.map_cons, List.map_nil, List.mem_singleton] at hb
        rw [hb]; intro z; exact hm (z ▸ ha)⟩
  · rw [valT_put, at2_putQ sq hp hq]
    by_cases e : k2 i j = k2 p q
    · rw [if_pos e, if_pos (k2_inj e)]; rfl
    · rw [if_neg e, if_neg (fun z => e (by rw [z.1, z.2]))]
      exact h.val i j hi hj
  · have a := cnt_put (d := oD x) (k := k2 p q) h.nd
    have b := ints_put sq hp hq x
    rw [h.val p q hp hq, bD_oD, bD_oD] at a
    have := h.cnt
    omega
end L3
set_option Elab.async false
set_option linter.all false
set_option maxRecDepth 100000
set_option maxHeartbeats 4000000
namespace L3
open PySem PySem.Spec PyProof.Rows L2
theorem ex_dnewT {τ : St3} {M : Mp} {Q : VK3} : wDNewT τ M Q = ∀ p, M p = none → Q (.ref p) (mset M p (.dT [])) := rfl
theorem tg_subT {to : TE3} {t : TA3} {d : D} {τ : St3} {M : Mp} {Q : St3 → Mp → Prop} : wgSubT to t d τ M Q = to τ M fun o M1 => t τ M1 fun ds M2 => ds.length ≤ sizeLine ∧ asRf o fun a => match M2 a with
  | some (.dT l) => asKs (keysK ds) fun k => l.length < sizeLine ∧ Q τ (mset M2 a (.dT (putG l k d)))
  | _ => False := rfl
theorem subT_at {a : Addr} {l : Dct} {ds : List D} {k : List Key} {d : D} {τ : St3} {M : Mp} {Q : St3 → Mp → Prop} (h : M a = some (.dT l)) (hk : keysK ds = some k) :
    (asRf (.ref a) fun a => match M a with
  | some (.dT l) => asKs (keysK ds) fun k => l.length < sizeLine ∧ Q τ (mset M a (.dT (putG l k d)))
  | _ => False) = (l.length < sizeLine ∧ Q τ (mset M a (.dT (putG l k d)))) := by
  unfold asRf; dsimp only; rw [h]; dsimp only; rw [hk]; rfl
theorem tgetD_at {a : Addr} {l : Dct} {ds : List D} {k : List Key} {z : D} {M : Mp} {Q : D → Prop} (h : M a = some (.dT l)) (hk : keysK ds = some k) : oTGetD (.ref a) (.tup ds) z M Q = Q ((valT l k).getD z) := by
  show (asKs (keysK ds) fun k => asKvt (kvtOf (M a)) fun l => Q ((valT l k).getD z)) = _
  rw [hk, h]; rfl
theorem dT_is {a : Addr} {l : Dct} {M : Mp} (h : M a = some (.dT l)) : (asRf (.ref a) fun a => asKvt (kvtOf (M a)) fun _ => True) := by
  show asKvt (kvtOf (M a)) _
  rw [h]; exact True.intro
theorem ix_k2 {p q : Nat} : keysK [.int (0 + (p : Int)), .int (0 + (q : Int))] = some (k2 p q) := by
  rw [Int.zero_add, Int.zero_add]; rfl
theorem ix_kI {i j : Int} (hi : 0 ≤ i) (hj : 0 ≤ j) : keysK [.int i, .int j] = some (k2 i.toNat j.toNat) := by
  have a : (i.toNat : Int) = i := Int.toNat_of_nonneg hi
  have b : (j.toNat : Int) = j := Int.toNat_of_nonneg hj
  unfold k2
  rw [a, b]; rfl
theorem tab_eta {n : Nat} {T : Tab} (sq : Sq n T) : ((List.range n).map fun p => D.tup ((List.range n).map fun q => oD (at2 T p q))) = T.map rowD := by
  refine List.ext_getElem (by simp [sq.rows]) fun p h1 h2 => ?_
  have hp : p < T.length := by simpa using h2
  simp only [List.getElem_map, List.getElem_range]
  show D.tup _ = .tup _
  congr 1
  refine List.ext_getElem (by simp [sq.cols _ (List.getElem_mem hp)]) fun q h3 h4 => ?_
  have hq : q < T[p].length := by simpa using h4
  simp only [List.getElem_map, List.getElem_range]
  congr 1
  unfold at2
  rw [List.getD_eq_getElem?_getD, List.getD_eq_getElem?_getD, List.getElem?_eq_getElem hp, Option.getD_some, List.getElem?_eq_getElem hq]; rfl
end L3
set_option Elab.async false
set_option linter.all false
set_option maxRecDepth 100000
set_option maxHeartbeats 4000000
namespace L3
open PySem PySem.Spec PyProof.Rows L2
def deckR : XK3 → TS3 := fun E =>
  (wRet (wLst (wCons (wCB bListF (wCons (wVar 0) wNil)) (wCons (wC (.int 0)) (wCons (wC (.int 0)) (wCons (wC (.int 0)) wNil))))))
theorem s_deck : SFeed7 (spOf 1 1 deckR) := by
  refine fun ns M Q E q => ⟨rfl, ?_⟩
  show deckR E _ [some (.rol (ns.map D.int))] M
  unfold deckR
  rw [st_ret]
  simp only [ex_c, ex_var, ex_op, ex_un, ex_b, ex_and, ex_or, ex_not, ex_andV, ex_orV, ex_notV, ex_if, ex_chain, ex_nil, ex_cons, ex_tup, ex_lst, ex_call, ex_callP, ex_cb, ex_bm, ex_rep, ex_sl, ex_noPart, ex_part, ex_yes, it_items, it_rng1, it_rng2, tg_name, tg_sub, tg_tup, tg_cons, tg_nil, gs_0, gs_s, ss_0, ss_s, op_ii, op_ss, op_tt, op_mm, op_sb, op_ng, op_iNf, op_iNt, op_lle, op_ixT, op_ixR, op_ixL, op_putE, op_appE, it_tupE, it_rolE, it_refE, lstOf_l, exL, asS_some, asI_int, asB_bl, asL_some, asN_some, ite3_t, ite3_f, bl_1, bl_lenT, bl_lenR, bl_lenL, bl_lenS, bl_tuple, bl_list, bl_abs, bl_intI, bl_intB, bl_max, bl_min, op_eqSf, op_eqSt, op_eqIf, op_eqIt, op_eqTf, op_eqTt, op_eqRf, op_eqRt, op_eqNf, op_eqNt, eqD_int, eqD_nil, pl_int, pl_nil, pl_non, pl_rnil, pl_bl, sl_tupE, sl_rolE, keep_ref, keep_tup, keep_rol, tp_int, tp_tup, tp_rol, tp_str, tp_bl, tp_non, tp_ref, oFd, oMd, oPw, oShl, oLt, oLe, oGt, oGe, op_in, op_cp, wipe_nil, wipe_cons, mset_same, true_and, and_true, isN_int, ex_lstF, ex_repF, ex_lgF1, ex_lgF2, ex_tupRg1, ex_tupRg2, ex_frz, ex_slF, ex_slM, sl_tupF, sl_rolF, op_iiF, op_ssF, op_ttF, op_rrF, op_rrM, op_mmF, op_repF, li_rol, li_ref, bl_listF, bl_allF, bl_anyF, asT_some, asJ_some, op_eqBf, op_eqBt, isN_non, Bool.not_true, Bool.not_false, rep2]
  exact ⟨by show 4 ≤ sizeLine; decide, fun p hp => q p _ hp ⟨ns, 0, 0, 0, Nat.le_refl _, mset_same⟩ (Only.refl.set)⟩
def mixedR : XK3 → TS3 := fun E =>
  (wRet (wOp oMd (wOp oPw (wOp oAddF (wOp oAddF (wOp oMd (wVar 0) (wC (.int 2147483629))) (wOp oMulF (wVar 1) (wC (.int 1000003)))) (wC (.int 17))) (wC (.int 5))) (wC (.int 2147483647))))
def SMixed (sp : Sp3) : Prop := ∀ (c : Int) (t : Nat) (Q : VK3) (E : XK3), t ≤ 2 ^ 30 → (∀ r M, 0 ≤ r → r < 2147483647 → Q (.int r) M) → sp [.int c, .int t] M0 Q E
theorem s_mixed : SMixed (spOf 2 2 mixedR) := by
  refine fun c t Q E ht q => ⟨rfl, ?_⟩
  show mixedR E _ [some (.int c), some (.int t)] M0
  unfold mixedR
  have b1 := md_in (x := c) (n := 2147483629) (by decide)
  rw [st_ret]
  simp only [ex_c, ex_var, ex_op, ex_un, ex_b, ex_and, ex_or, ex_not, ex_andV, ex_orV, ex_notV, ex_if, ex_chain, ex_nil, ex_cons, ex_tup, ex_lst, ex_call, ex_callP, ex_cb, ex_bm, ex_rep, ex_sl, ex_noPart, ex_part, ex_yes, it_items, it_rng1, it_rng2, tg_name, tg_sub, tg_tup, tg_cons, tg_nil, gs_0, gs_s, ss_0, ss_s, op_ii, op_ss, op_tt, op_mm, op_sb, op_ng, op_iNf, op_iNt, op_lle, op_ixT, op_ixR, op_ixL, op_putE, op_appE, it_tupE, it_rolE, it_refE, lstOf_l, exL, asS_some, asI_int, asB_bl, asL_some, asN_some, ite3_t, ite3_f, bl_1, bl_lenT, bl_lenR, bl_lenL, bl_lenS, bl_tuple, bl_list, bl_abs, bl_intI, bl_intB, bl_max, bl_min, op_eqSf, op_eqSt, op_eqIf, op_eqIt, op_eqTf, op_eqTt, op_eqRf, op_eqRt, op_eqNf, op_eqNt, eqD_int, eqD_nil, pl_int, pl_nil, pl_non, pl_rnil, pl_bl, sl_tupE, sl_rolE, keep_ref, keep_tup, keep_rol, tp_int, tp_tup, tp_rol, tp_str, tp_bl, tp_non, tp_ref, oFd, oMd, oPw, oShl, oLt, oLe, oGt, oGe, op_in, op_cp, wipe_nil, wipe_cons, mset_same, true_and, and_true, isN_int, ex_lstF, ex_repF, ex_lgF1, ex_lgF2, ex_tupRg1, ex_tupRg2, ex_frz, ex_slF, ex_slM, sl_tupF, sl_rolF, op_iiF, op_ssF, op_ttF, op_rrF, op_rrM, op_mmF, op_repF, li_rol, li_ref, bl_listF, bl_allF, bl_anyF, asT_some, asJ_some, op_eqBf, op_eqBt, isN_non, Bool.not_true, Bool.not_false, rep2]
  exact ⟨by decide, mulR (by decide) (by decide), ⟨by decide, by decide, by omega⟩, by decide, q _ _ (md_in (by decide)).1 (md_in (by decide)).2⟩
theorem at_cells {cs : List Int} {x : Int} (h0 : 0 ≤ x) (h1 : x < cs.length) : ∃ c : Int, atI (cs.map D.int) x = some (.int c) := by
  obtain ⟨j, rfl⟩ : ∃ j : Nat, x = j := ⟨x.toNat, by omega⟩
  have hjl : j < cs.length := by omega
  exact ⟨cs[j], atI_nat (by rw [List.getElem?_map, List.getElem?_eq_getElem hjl]; rfl)⟩
def drawKT (sm : Sp3) (E : XK3) : TS3 :=
  (wSeq (wIfS (wB (wOp oGt (wOp oIx (wVar 0) (wC (.int 2))) (wC (.int 0)))) (wSeq (wSet 3 (wOp oMd (wOp oIx (wVar 0) (wC (.int 2))) (wVar 1)))
  (wSeq (wAsg (wOp oFd (wOp oIx (wVar 0) (wC (.int 2))) (wVar 1)) (wgSub (wVar 0) (wC (.int 2)) oPut))
  (wRet (wVar 3)))) wNext)
  (wSeq (wSet 4 (wOp oMulF (wOp oIx (wVar 0) (wC (.int 3))) (wC (.int 48271))))
  (wSeq (wIfS (wB (wOp oGt (wCB bLen (wCons (wVar 2) wNil)) (wC (.int 0)))) (wSet 4 (wOp oAddF (wVar 4) (wOp oMd (wOp oIx (wVar 2) (wOp oMd (wOp oMulF (wOp oIx (wVar 0) (wC (.int 3))) (wC (.int 7))) (wCB bLen (wCons (wVar 2) wNil)))) (wC (.int 2147483629))))) wNext)
  (wRet (wOp oMd (wCallP sm E (wCons (wVar 4) (wCons (wOp oIx (wVar 0) (wC (.int 3))) wNil))) (wVar 1))))))
def drawKR (sm : Sp3) : XK3 → TS3 := fun E =>
  (wSeq (wSet 2 (wOp oIx (wVar 0) (wC (.int 0))))
  (wSeq (wAsg (wOp oAddF (wOp oIx (wVar 0) (wC (.int 3))) (wC (.int 1))) (wgSub (wVar 0) (wC (.int 3)) oPut))
  (wSeq (wIfS (wAnd (wB (wOp (oEq false) (wOp oIx (wVar 0) (wC (.int 2))) (wC (.int 0)))) (wB (wOp oLt (wOp oIx (wVar 0) (wC (.int 1))) (wCB bLen (wCons (wVar 2) wNil))))) (wSeq (wAsg (wOp oAddF (wOp oIx (wVar 0) (wC (.int 1))) (wC (.int 1))) (wgSub (wVar 0) (wC (.int 1)) oPut))
  (wSeq (wIfS (wB (wOp oLt (wCB bAbs (wCons (wOp oIx (wVar 2) (wOp oSub (wOp oIx (wVar 0) (wC (.int 1))) (wC (.int 1)))) wNil)) (wOp oPw (wC (.int 10)) (wC (.int 18))))) (wRet (wOp oMd (wCallP sm E (wCons (wOp oIx (wVar 2) (wOp oSub (wOp oIx (wVar 0) (wC (.int 1))) (wC (.int 1)))) (wCons (wOp oIx (wVar 0) (wC (.int 3))) wNil))) (wVar 1))) wNext)
  (wAsg (wCB bAbs (wCons (wOp oIx (wVar 2) (wOp oSub (wOp oIx (wVar 0) (wC (.int 1))) (wC (.int 1)))) wNil)) (wgSub (wVar 0) (wC (.int 2)) oPut)))) wNext)
  (wSeq (wIfS (wB (wOp oGt (wOp oIx (wVar 0) (wC (.int 2))) (wC (.int 0)))) (wSeq (wSet 3 (wOp oMd (wOp oIx (wVar 0) (wC (.int 2))) (wVar 1)))
  (wSeq (wAsg (wOp oFd (wOp oIx (wVar 0) (wC (.int 2))) (wVar 1)) (wgSub (wVar 0) (wC (.int 2)) oPut))
  (wRet (wVar 3)))) wNext)
  (wSeq (wSet 4 (wOp oMulF (wOp oIx (wVar 0) (wC (.int 3))) (wC (.int 48271))))
  (wSeq (wIfS (wB (wOp oGt (wCB bLen (wCons (wVar 2) wNil)) (wC (.int 0)))) (wSet 4 (wOp oAddF (wVar 4) (wOp oMd (wOp oIx (wVar 2) (wOp oMd (wOp oMulF (wOp oIx (wVar 0) (wC (.int 3))) (wC (.int 7))) (wCB bLen (wCons (wVar 2) wNil)))) (wC (.int 2147483629))))) wNext)
  (wRet (wOp oMd (wCallP sm E (wCons (wVar 4) (wCons (wOp oIx (wVar 0) (wC (.int 3))) wNil))) (wVar 1)))))))))
theorem drawK_tail {sm : Sp3} (km : SMixed sm) {a : Addr} {b k i : Nat} {n g : Int} {cs : List Int} {M Ms : Mp} {Q : VK3} {E : XK3} {K : Ends3} (hk : k ≤ b) (hb : b ≤ 2 ^ 30) (h0 : 0 < n) (hn : n < 2 ^ 200)
    (hM : M a = some (.lst [.rol (cs.map D.int), .int i, .int g, .int k])) (o : Only a Ms M) (hK : K.rt = Q) (q : ∀ r M', 0 ≤ r → r < n → Fd b M' a → Only a Ms M' → Q (.int r) M') :
    drawKT sm E K [some (.ref a), some (.int n), some (.rol (cs.map D.int)), none, none] M := by
  have hn0 : n ≠ 0 := by omega
  have fo : ∀ x, CFd x n := fun x => by
    have e : n.natAbs ≠ 0 := by omega
    have h2 : n.natAbs < 2 ^ 200 := by omega
    have := (Nat.log2_lt e (k := 200)).mpr h2
    exact ⟨hn0, by omega⟩
  unfold drawKT
  rw [st_seq, st_if]
  simp only [ex_c, ex_var, ex_op, ex_un, ex_b, ex_and, ex_or, ex_not, ex_andV, ex_orV, ex_notV, ex_if, ex_chain, ex_nil, ex_cons, ex_tup, ex_lst, ex_call, ex_callP, ex_cb, ex_bm, ex_rep, ex_sl, ex_noPart, ex_part, ex_yes, it_items, it_rng1, it_rng2, tg_name, tg_sub, tg_tup, tg_cons, tg_nil, gs_0, gs_s, ss_0, ss_s, op_ii, op_ss, op_tt, op_mm, op_sb, op_ng, op_iNf, op_iNt, op_lle, op_ixT, op_ixR, op_ixL, op_putE, op_appE, it_tupE, it_rolE, it_refE, lstOf_l, exL, asS_some, asI_int, asB_bl, asL_some, asN_some, ite3_t, ite3_f, bl_1, bl_lenT, bl_lenR, bl_lenL, bl_lenS, bl_tuple, bl_list, bl_abs, bl_intI, bl_intB, bl_max, bl_min, op_eqSf, op_eqSt, op_eqIf, op_eqIt, op_eqTf, op_eqTt, op_eqRf, op_eqRt, op_eqNf, op_eqNt, eqD_int, eqD_nil, pl_int, pl_nil, pl_non, pl_rnil, pl_bl, sl_tupE, sl_rolE, keep_ref, keep_tup, keep_rol, tp_int, tp_tup, tp_rol, tp_str, tp_bl, tp_non, tp_ref, oFd, oMd, oPw, oShl, oLt, oLe, oGt, oGe, op_in, op_cp, wipe_nil, wipe_cons, mset_same, true_and, and_true, isN_int, ex_lstF, ex_repF, ex_lgF1, ex_lgF2, ex_tupRg1, ex_tupRg2, ex_frz, ex_slF, ex_slM, sl_tupF, sl_rolF, op_iiF, op_ssF, op_ttF, op_rrF, op_rrM, op_mmF, op_repF, li_rol, li_ref, bl_listF, bl_allF, bl_anyF, asT_some, asJ_some, op_eqBf, op_eqBt, isN_non, Bool.not_true, Bool.not_false, rep2, hM, at_42]
  refine ite3_by (fun hg => ?_) (fun hg => ?_)
  · rw [st_seq, st_set]
    simp only [ex_c, ex_var, ex_op, ex_un, ex_b, ex_and, ex_or, ex_not, ex_andV, ex_orV, ex_notV, ex_if, ex_chain, ex_nil, ex_cons, ex_tup, ex_lst, ex_call, ex_callP, ex_cb, ex_bm, ex_rep, ex_sl, ex_noPart, ex_part, ex_yes, it_items, it_rng1, it_rng2, tg_name, tg_sub, tg_tup, tg_cons, tg_nil, gs_0, gs_s, ss_0, ss_s, op_ii, op_ss, op_tt, op_mm, op_sb, op_ng, op_iNf, op_iNt, op_lle, op_ixT, op_ixR, op_ixL, op_putE, op_appE, it_tupE, it_rolE, it_refE, lstOf_l, exL, asS_some, asI_int, asB_bl, asL_some, asN_some, ite3_t, ite3_f, bl_1, bl_lenT, bl_lenR, bl_lenL, bl_lenS, bl_tuple, bl_list, bl_abs, bl_intI, bl_intB, bl_max, bl_min, op_eqSf, op_eqSt, op_eqIf, op_eqIt, op_eqTf, op_eqTt, op_eqRf, op_eqRt, op_eqNf, op_eqNt, eqD_int, eqD_nil, pl_int, pl_nil, pl_non, pl_rnil, pl_bl, sl_tupE, sl_rolE, keep_ref, keep_tup, keep_rol, tp_int, tp_tup, tp_rol, tp_str, tp_bl, tp_non, tp_ref, oFd, oMd, oPw, oShl, oLt, oLe, oGt, oGe, op_in, op_cp, wipe_nil, wipe_cons, mset_same, true_and, and_true, isN_int, ex_lstF, ex_repF, ex_lgF1, ex_lgF2, ex_tupRg1, ex_tupRg2, ex_frz, ex_slF, ex_slM, sl_tupF, sl_rolF, op_iiF, op_ssF, op_ttF, op_rrF, op_rrM, op_mmF, op_repF, li_rol, li_ref, bl_listF, bl_allF, bl_anyF, asT_some, asJ_some, op_eqBf, op_eqBt, isN_non, Bool.not_true, Bool.not_false, rep2, hM, at_42]
    refine ⟨hn0, ?_⟩
    try dsimp only
    rw [st_seq, st_asg]
    simp only [ex_c, ex_var, ex_op, ex_un, ex_b, ex_and, ex_or, ex_not, ex_andV, ex_orV, ex_notV, ex_if, ex_chain, ex_nil, ex_cons, ex_tup, ex_lst, ex_call, ex_callP, ex_cb, ex_bm, ex_rep, ex_sl, ex_noPart, ex_part, ex_yes, it_items, it_rng1, it_rng2, tg_name, tg_sub, tg_tup, tg_cons, tg_nil, gs_0, gs_s, ss_0, ss_s, op_ii, op_ss, op_tt, op_mm, op_sb, op_ng, op_iNf, op_iNt, op_lle, op_ixT, op_ixR, op_ixL, op_putE, op_appE, it_tupE, it_rolE, it_refE, lstOf_l, exL, asS_some, asI_int, asB_bl, asL_some, asN_some, ite3_t, ite3_f, bl_1, bl_lenT, bl_lenR, bl_lenL, bl_lenS, bl_tuple, bl_list, bl_abs, bl_intI, bl_intB, bl_max, bl_min, op_eqSf, op_eqSt, op_eqIf, op_eqIt, op_eqTf, op_eqTt, op_eqRf, op_eqRt, op_eqNf, op_eqNt, eqD_int, eqD_nil, pl_int, pl_nil, pl_non, pl_rnil, pl_bl, sl_tupE, sl_rolE, keep_ref, keep_tup, keep_rol, tp_int, tp_tup, tp_rol, tp_str, tp_bl, tp_non, tp_ref, oFd, oMd, oPw, oShl, oLt, oLe, oGt, oGe, op_in, op_cp, wipe_nil, wipe_cons, mset_same, true_and, and_true, isN_int, ex_lstF, ex_repF, ex_lgF1, ex_lgF2, ex_tupRg1, ex_tupRg2, ex_frz, ex_slF, ex_slM, sl_tupF, sl_rolF, op_iiF, op_ssF, op_ttF, op_rrF, op_rrM, op_mmF, op_repF, li_rol, li_ref, bl_listF, bl_allF, bl_anyF, asT_some, asJ_some, op_eqBf, op_eqBt, isN_non, Bool.not_true, Bool.not_false, rep2, hM, at_42, ix_42, set_42]
    refine ⟨fo _, ?_⟩
    try dsimp only
    rw [st_ret]
    simp only [ex_c, ex_var, ex_op, ex_un, ex_b, ex_and, ex_or, ex_not, ex_andV, ex_orV, ex_notV, ex_if, ex_chain, ex_nil, ex_cons, ex_tup, ex_lst, ex_call, ex_callP, ex_cb, ex_bm, ex_rep, ex_sl, ex_noPart, ex_part, ex_yes, it_items, it_rng1, it_rng2, tg_name, tg_sub, tg_tup, tg_cons, tg_nil, gs_0, gs_s, ss_0, ss_s, op_ii, op_ss, op_tt, op_mm, op_sb, op_ng, op_iNf, op_iNt, op_lle, op_ixT, op_ixR, op_ixL, op_putE, op_appE, it_tupE, it_rolE, it_refE, lstOf_l, exL, asS_some, asI_int, asB_bl, asL_some, asN_some, ite3_t, ite3_f, bl_1, bl_lenT, bl_lenR, bl_lenL, bl_lenS, bl_tuple, bl_list, bl_abs, bl_intI, bl_intB, bl_max, bl_min, op_eqSf, op_eqSt, op_eqIf, op_eqIt, op_eqTf, op_eqTt, op_eqRf, op_eqRt, op_eqNf, op_eqNt, eqD_int, eqD_nil, pl_int, pl_nil, pl_non, pl_rnil, pl_bl, sl_tupE, sl_rolE, keep_ref, keep_tup, keep_rol, tp_int, tp_tup, tp_rol, tp_str, tp_bl, tp_non, tp_ref, oFd, oMd, oPw, oShl, oLt, oLe, oGt, oGe, op_in, op_cp, wipe_nil, wipe_cons, mset_same, true_and, and_true, isN_int, ex_lstF, ex_repF, ex_lgF1, ex_lgF2, ex_tupRg1, ex_tupRg2, ex_frz, ex_slF, ex_slM, sl_tupF, sl_rolF, op_iiF, op_ssF, op_ttF, op_rrF, op_rrM, op_mmF, op_repF, li_rol, li_ref, bl_listF, bl_allF, bl_anyF, asT_some, asJ_some, op_eqBf, op_eqBt, isN_non, Bool.not_true, Bool.not_false, rep2]
    rw [hK]
    exact q _ _ (md_in h0).1 (md_in h0).2 ⟨cs, i, _, k, by omega, mset_same⟩ (o.trans Only.refl.set)
  · rw [st_next]
    try dsimp only
    rw [st_seq, st_set]
    simp only [ex_c, ex_var, ex_op, ex_un, ex_b, ex_and, ex_or, ex_not, ex_andV, ex_orV, ex_notV, ex_if, ex_chain, ex_nil, ex_cons, ex_tup, ex_lst, ex_call, ex_callP, ex_cb, ex_bm, ex_rep, ex_sl, ex_noPart, ex_part, ex_yes, it_items, it_rng1, it_rng2, tg_name, tg_sub, tg_tup, tg_cons, tg_nil, gs_0, gs_s, ss_0, ss_s, op_ii, op_ss, op_tt, op_mm, op_sb, op_ng, op_iNf, op_iNt, op_lle, op_ixT, op_ixR, op_ixL, op_putE, op_appE, it_tupE, it_rolE, it_refE, lstOf_l, exL, asS_some, asI_int, asB_bl, asL_some, asN_some, ite3_t, ite3_f, bl_1, bl_lenT, bl_lenR, bl_lenL, bl_lenS, bl_tuple, bl_list, bl_abs, bl_intI, bl_intB, bl_max, bl_min, op_eqSf, op_eqSt, op_eqIf, op_eqIt, op_eqTf, op_eqTt, op_eqRf, op_eqRt, op_eqNf, op_eqNt, eqD_int, eqD_nil, pl_int, pl_nil, pl_non, pl_rnil, pl_bl, sl_tupE, sl_rolE, keep_ref, keep_tup, keep_rol, tp_int, tp_tup, tp_rol, tp_str, tp_bl, tp_non, tp_ref, oFd, oMd, oPw, oShl, oLt, oLe, oGt, oGe, op_in, op_cp, wipe_nil, wipe_cons, mset_same, true_and, and_true, isN_int, ex_lstF, ex_repF, ex_lgF1, ex_lgF2, ex_tupRg1, ex_tupRg2, ex_frz, ex_slF, ex_slM, sl_tupF, sl_rolF, op_iiF, op_ssF, op_ttF, op_rrF, op_rrM, op_mmF, op_repF, li_rol, li_ref, bl_listF, bl_allF, bl_anyF, asT_some, asJ_some, op_eqBf, op_eqBt, isN_non, Bool.not_true, Bool.not_false, rep2, hM, at_43]
    refine ⟨mulR (by decide) (by decide), ?_⟩
    have fin : ∀ x : Int, wRet (wOp oMd (wCallP sm E (wCons (wVar 4) (wCons (wOp oIx (wVar 0) (wC (.int 3))) wNil))) (wVar 1)) K [some (.ref a), some (.int n), some (.rol (cs.map D.int)), none, some (.int x)] M := fun x => by
      rw [st_ret]
      simp only [ex_c, ex_var, ex_op, ex_un, ex_b, ex_and, ex_or, ex_not, ex_andV, ex_orV, ex_notV, ex_if, ex_chain, ex_nil, ex_cons, ex_tup, ex_lst, ex_call, ex_callP, ex_cb, ex_bm, ex_rep, ex_sl, ex_noPart, ex_part, ex_yes, it_items, it_rng1, it_rng2, tg_name, tg_sub, tg_tup, tg_cons, tg_nil, gs_0, gs_s, ss_0, ss_s, op_ii, op_ss, op_tt, op_mm, op_sb, op_ng, op_iNf, op_iNt, op_lle, op_ixT, op_ixR, op_ixL, op_putE, op_appE, it_tupE, it_rolE, it_refE, lstOf_l, exL, asS_some, asI_int, asB_bl, asL_some, asN_some, ite3_t, ite3_f, bl_1, bl_lenT, bl_lenR, bl_lenL, bl_lenS, bl_tuple, bl_list, bl_abs, bl_intI, bl_intB, bl_max, bl_min, op_eqSf, op_eqSt, op_eqIf, op_eqIt, op_eqTf, op_eqTt, op_eqRf, op_eqRt, op_eqNf, op_eqNt, eqD_int, eqD_nil, pl_int, pl_nil, pl_non, pl_rnil, pl_bl, sl_tupE, sl_rolE, keep_ref, keep_tup, keep_rol, tp_int, tp_tup, tp_rol, tp_str, tp_bl, tp_non, tp_ref, oFd, oMd, oPw, oShl, oLt, oLe, oGt, oGe, op_in, op_cp, wipe_nil, wipe_cons, mset_same, true_and, and_true, isN_int, ex_lstF, ex_repF, ex_lgF1, ex_lgF2, ex_tupRg1, ex_tupRg2, ex_frz, ex_slF, ex_slM, sl_tupF, sl_rolF, op_iiF, op_ssF, op_ttF, op_rrF, op_rrM, op_mmF, op_repF, li_rol, li_ref, bl_listF, bl_allF, bl_anyF, asT_some, asJ_some, op_eqBf, op_eqBt, isN_non, Bool.not_true, Bool.not_false, rep2, hM, at_43]
      refine km _ k _ _ (by omega) fun r _ r0 r1 => ?_
      simp only [ex_c, ex_var, ex_op, ex_un, ex_b, ex_and, ex_or, ex_not, ex_andV, ex_orV, ex_notV, ex_if, ex_chain, ex_nil, ex_cons, ex_tup, ex_lst, ex_call, ex_callP, ex_cb, ex_bm, ex_rep, ex_sl, ex_noPart, ex_part, ex_yes, it_items, it_rng1, it_rng2, tg_name, tg_sub, tg_tup, tg_cons, tg_nil, gs_0, gs_s, ss_0, ss_s, op_ii, op_ss, op_tt, op_mm, op_sb, op_ng, op_iNf, op_iNt, op_lle, op_ixT, op_ixR, op_ixL, op_putE, op_appE, it_tupE, it_rolE, it_refE, lstOf_l, exL, asS_some, asI_int, asB_bl, asL_some, asN_some, ite3_t, ite3_f, bl_1, bl_lenT, bl_lenR, bl_lenL, bl_lenS, bl_tuple, bl_list, bl_abs, bl_intI, bl_intB, bl_max, bl_min, op_eqSf, op_eqSt, op_eqIf, op_eqIt, op_eqTf, op_eqTt, op_eqRf, op_eqRt, op_eqNf, op_eqNt, eqD_int, eqD_nil, pl_int, pl_nil, pl_non, pl_rnil, pl_bl, sl_tupE, sl_rolE, keep_ref, keep_tup, keep_rol, tp_int, tp_tup, tp_rol, tp_str, tp_bl, tp_non, tp_ref, oFd, oMd, oPw, oShl, oLt, oLe, oGt, oGe, op_in, op_cp, wipe_nil, wipe_cons, mset_same, true_and, and_true, isN_int, ex_lstF, ex_repF, ex_lgF1, ex_lgF2, ex_tupRg1, ex_tupRg2, ex_frz, ex_slF, ex_slM, sl_tupF, sl_rolF, op_iiF, op_ssF, op_ttF, op_rrF, op_rrM, op_mmF, op_repF, li_rol, li_ref, bl_listF, bl_allF, bl_anyF, asT_some, asJ_some, op_eqBf, op_eqBt, isN_non, Bool.not_true, Bool.not_false, rep2]
      rw [hK]
      exact ⟨hn0, q _ _ (md_in h0).1 (md_in h0).2 ⟨cs, i, g, k, hk, hM⟩ o⟩
    try dsimp only
    rw [st_seq, st_if]
    simp only [ex_c, ex_var, ex_op, ex_un, ex_b, ex_and, ex_or, ex_not, ex_andV, ex_orV, ex_notV, ex_if, ex_chain, ex_nil, ex_cons, ex_tup, ex_lst, ex_call, ex_callP, ex_cb, ex_bm, ex_rep, ex_sl, ex_noPart, ex_part, ex_yes, it_items, it_rng1, it_rng2, tg_name, tg_sub, tg_tup, tg_cons, tg_nil, gs_0, gs_s, ss_0, ss_s, op_ii, op_ss, op_tt, op_mm, op_sb, op_ng, op_iNf, op_iNt, op_lle, op_ixT, op_ixR, op_ixL, op_putE, op_appE, it_tupE, it_rolE, it_refE, lstOf_l, exL, asS_some, asI_int, asB_bl, asL_some, asN_some, ite3_t, ite3_f, bl_1, bl_lenT, bl_lenR, bl_lenL, bl_lenS, bl_tuple, bl_list, bl_abs, bl_intI, bl_intB, bl_max, bl_min, op_eqSf, op_eqSt, op_eqIf, op_eqIt, op_eqTf, op_eqTt, op_eqRf, op_eqRt, op_eqNf, op_eqNt, eqD_int, eqD_nil, pl_int, pl_nil, pl_non, pl_rnil, pl_bl, sl_tupE, sl_rolE, keep_ref, keep_tup, keep_rol, tp_int, tp_tup, tp_rol, tp_str, tp_bl, tp_non, tp_ref, oFd, oMd, oPw, oShl, oLt, oLe, oGt, oGe, op_in, op_cp, wipe_nil, wipe_cons, mset_same, true_and, and_true, isN_int, ex_lstF, ex_repF, ex_lgF1, ex_lgF2, ex_tupRg1, ex_tupRg2, ex_frz, ex_slF, ex_slM, sl_tupF, sl_rolF, op_iiF, op_ssF, op_ttF, op_rrF, op_rrM, op_mmF, op_repF, li_rol, li_ref, bl_listF, bl_allF, bl_anyF, asT_some, asJ_some, op_eqBf, op_eqBt, isN_non, Bool.not_true, Bool.not_false, rep2]
    rw [List.length_map]
    refine ite3_by (fun hc => ?_) (fun hc => ?_)
    · have hc : 0 < (cs.length : Int) := of_decide_eq_true hc
      rw [st_set]
      simp only [ex_c, ex_var, ex_op, ex_un, ex_b, ex_and, ex_or, ex_not, ex_andV, ex_orV, ex_notV, ex_if, ex_chain, ex_nil, ex_cons, ex_tup, ex_lst, ex_call, ex_callP, ex_cb, ex_bm, ex_rep, ex_sl, ex_noPart, ex_part, ex_yes, it_items, it_rng1, it_rng2, tg_name, tg_sub, tg_tup, tg_cons, tg_nil, gs_0, gs_s, ss_0, ss_s, op_ii, op_ss, op_tt, op_mm, op_sb, op_ng, op_iNf, op_iNt, op_lle, op_ixT, op_ixR, op_ixL, op_putE, op_appE, it_tupE, it_rolE, it_refE, lstOf_l, exL, asS_some, asI_int, asB_bl, asL_some, asN_some, ite3_t, ite3_f, bl_1, bl_lenT, bl_lenR, bl_lenL, bl_lenS, bl_tuple, bl_list, bl_abs, bl_intI, bl_intB, bl_max, bl_min, op_eqSf, op_eqSt, op_eqIf, op_eqIt, op_eqTf, op_eqTt, op_eqRf, op_eqRt, op_eqNf, op_eqNt, eqD_int, eqD_nil, pl_int, pl_nil, pl_non, pl_rnil, pl_bl, sl_tupE, sl_rolE, keep_ref, keep_tup, keep_rol, tp_int, tp_tup, tp_rol, tp_str, tp_bl, tp_non, tp_ref, oFd, oMd, oPw, oShl, oLt, oLe, oGt, oGe, op_in, op_cp, wipe_nil, wipe_cons, mset_same, true_and, and_true, isN_int, ex_lstF, ex_repF, ex_lgF1, ex_lgF2, ex_tupRg1, ex_tupRg2, ex_frz, ex_slF, ex_slM, sl_tupF, sl_rolF, op_iiF, op_ssF, op_ttF, op_rrF, op_rrM, op_mmF, op_repF, li_rol, li_ref, bl_listF, bl_allF, bl_anyF, asT_some, asJ_some, op_eqBf, op_eqBt, isN_non, Bool.not_true, Bool.not_false, rep2, hM, at_43]
      rw [List.length_map]
      have hm := md_in (x := (k : Int) * 7) (n := (cs.length : Int)) hc
      obtain ⟨c, e⟩ := at_cells hm.1 hm.2
      refine ⟨mulR (by decide) (by decide), by omega, ?_⟩
      rw [e]
      (try simp only [ex_c, ex_var, ex_op, ex_un, ex_b, ex_and, ex_or, ex_not, ex_andV, ex_orV, ex_notV, ex_if, ex_chain, ex_nil, ex_cons, ex_tup, ex_lst, ex_call, ex_callP, ex_cb, ex_bm, ex_rep, ex_sl, ex_noPart, ex_part, ex_yes, it_items, it_rng1, it_rng2, tg_name, tg_sub, tg_tup, tg_cons, tg_nil, gs_0, gs_s, ss_0, ss_s, op_ii, op_ss, op_tt, op_mm, op_sb, op_ng, op_iNf, op_iNt, op_lle, op_ixT, op_ixR, op_ixL, op_putE, op_appE, it_tupE, it_rolE, it_refE, lstOf_l, exL, asS_some, asI_int, asB_bl, asL_some, asN_some, ite3_t, ite3_f, bl_1, bl_lenT, bl_lenR, bl_lenL, bl_lenS, bl_tuple, bl_list, bl_abs, bl_intI, bl_intB, bl_max, bl_min, op_eqSf, op_eqSt, op_eqIf, op_eqIt, op_eqTf, op_eqTt, op_eqRf, op_eqRt, op_eqNf, op_eqNt, eqD_int, eqD_nil, pl_int, pl_nil, pl_non, pl_rnil, pl_bl, sl_tupE, sl_rolE, keep_ref, keep_tup, keep_rol, tp_int, tp_tup, tp_rol, tp_str, tp_bl, tp_non, tp_ref, oFd, oMd, oPw, oShl, oLt, oLe, oGt, oGe, op_in, op_cp, wipe_nil, wipe_cons, mset_same, true_and, and_true, isN_int, ex_lstF, ex_repF, ex_lgF1, ex_lgF2, ex_tupRg1, ex_tupRg2, ex_frz, ex_slF, ex_slM, sl_tupF, sl_rolF, op_iiF, op_ssF, op_ttF, op_rrF, op_rrM, op_mmF, op_repF, li_rol, li_ref, bl_listF, bl_allF, bl_anyF, asT_some, asJ_some, op_eqBf, op_eqBt, isN_non, Bool.not_true, Bool.not_false, rep2])
      exact ⟨by decide, fin _⟩
    · rw [st_next]
      exact fin _
theorem s_drawK {sm : Sp3} (km : SMixed sm) : SDraw7 (spOf 2 5 (drawKR sm)) := by
  intro a b n M Q E f hb h0 hn q
  obtain ⟨cs, i, g, k, hk, hM⟩ := f
  refine ⟨rfl, ?_⟩
  show drawKR sm E _ [some (.ref a), some (.int n), none, none, none] M
  unfold drawKR
  have hn0 : n ≠ 0 := by omega
  have ek : (k : Int) + 1 = ((k + 1 : Nat) : Int) := by omega
  have ei : (i : Int) + 1 = ((i + 1 : Nat) : Int) := by omega
  rw [st_seq, st_set]
  simp only [ex_c, ex_var, ex_op, ex_un, ex_b, ex_and, ex_or, ex_not, ex_andV, ex_orV, ex_notV, ex_if, ex_chain, ex_nil, ex_cons, ex_tup, ex_lst, ex_call, ex_callP, ex_cb, ex_bm, ex_rep, ex_sl, ex_noPart, ex_part, ex_yes, it_items, it_rng1, it_rng2, tg_name, tg_sub, tg_tup, tg_cons, tg_nil, gs_0, gs_s, ss_0, ss_s, op_ii, op_ss, op_tt, op_mm, op_sb, op_ng, op_iNf, op_iNt, op_lle, op_ixT, op_ixR, op_ixL, op_putE, op_appE, it_tupE, it_rolE, it_refE, lstOf_l, exL, asS_some, asI_int, asB_bl, asL_some, asN_some, ite3_t, ite3_f, bl_1, bl_lenT, bl_lenR, bl_lenL, bl_lenS, bl_tuple, bl_list, bl_abs, bl_intI, bl_intB, bl_max, bl_min, op_eqSf, op_eqSt, op_eqIf, op_eqIt, op_eqTf, op_eqTt, op_eqRf, op_eqRt, op_eqNf, op_eqNt, eqD_int, eqD_nil, pl_int, pl_nil, pl_non, pl_rnil, pl_bl, sl_tupE, sl_rolE, keep_ref, keep_tup, keep_rol, tp_int, tp_tup, tp_rol, tp_str, tp_bl, tp_non, tp_ref, oFd, oMd, oPw, oShl, oLt, oLe, oGt, oGe, op_in, op_cp, wipe_nil, wipe_cons, mset_same, true_and, and_true, isN_int, ex_lstF, ex_repF, ex_lgF1, ex_lgF2, ex_tupRg1, ex_tupRg2, ex_frz, ex_slF, ex_slM, sl_tupF, sl_rolF, op_iiF, op_ssF, op_ttF, op_rrF, op_rrM, op_mmF, op_repF, li_rol, li_ref, bl_listF, bl_allF, bl_anyF, asT_some, asJ_some, op_eqBf, op_eqBt, isN_non, Bool.not_true, Bool.not_false, rep2, hM, at_40]
  try dsimp only
  rw [st_seq, st_asg]
  simp only [ex_c, ex_var, ex_op, ex_un, ex_b, ex_and, ex_or, ex_not, ex_andV, ex_orV, ex_notV, ex_if, ex_chain, ex_nil, ex_cons, ex_tup, ex_lst, ex_call, ex_callP, ex_cb, ex_bm, ex_rep, ex_sl, ex_noPart, ex_part, ex_yes, it_items, it_rng1, it_rng2, tg_name, tg_sub, tg_tup, tg_cons, tg_nil, gs_0, gs_s, ss_0, ss_s, op_ii, op_ss, op_tt, op_mm, op_sb, op_ng, op_iNf, op_iNt, op_lle, op_ixT, op_ixR, op_ixL, op_putE, op_appE, it_tupE, it_rolE, it_refE, lstOf_l, exL, asS_some, asI_int, asB_bl, asL_some, asN_some, ite3_t, ite3_f, bl_1, bl_lenT, bl_lenR, bl_lenL, bl_lenS, bl_tuple, bl_list, bl_abs, bl_intI, bl_intB, bl_max, bl_min, op_eqSf, op_eqSt, op_eqIf, op_eqIt, op_eqTf, op_eqTt, op_eqRf, op_eqRt, op_eqNf, op_eqNt, eqD_int, eqD_nil, pl_int, pl_nil, pl_non, pl_rnil, pl_bl, sl_tupE, sl_rolE, keep_ref, keep_tup, keep_rol, tp_int, tp_tup, tp_rol, tp_str, tp_bl, tp_non, tp_ref, oFd, oMd, oPw, oShl, oLt, oLe, oGt, oGe, op_in, op_cp, wipe_nil, wipe_cons, mset_same, true_and, and_true, isN_int, ex_lstF, ex_repF, ex_lgF1, ex_lgF2, ex_tupRg1, ex_tupRg2, ex_frz, ex_slF, ex_slM, sl_tupF, sl_rolF, op_iiF, op_ssF, op_ttF, op_rrF, op_rrM, op_mmF, op_repF, li_rol, li_ref, bl_listF, bl_allF, bl_anyF, asT_some, asJ_some, op_eqBf, op_eqBt, isN_non, Bool.not_true, Bool.not_false, rep2, hM, at_43, ek, ix_43, set_43]
  have hM1 : mset M a (MO.lst [.rol (cs.map D.int), .int i, .int g, .int ((k + 1 : Nat) : Int)]) a = some (.lst [.rol (cs.map D.int), .int i, .int g, .int ((k + 1 : Nat) : Int)]) := mset_same
  have o1 : Only a M (mset M a (MO.lst [.rol (cs.map D.int), .int i, .int g, .int ((k + 1 : Nat) : Int)])) := Only.refl.set
  generalize mset M a (MO.lst [.rol (cs.map D.int), .int i, .int g, .int ((k + 1 : Nat) : Int)]) = M1 at hM1 o1
  have tail : ∀ (M2 : Mp) (i' : Nat) (g' : Int) (K : Ends3), K.rt = Q → M2 a = some (.lst [.rol (cs.map D.int), .int i', .int g', .int ((k + 1 : Nat) : Int)]) → Only a M M2 →
      drawKT sm E K [some (.ref a), some (.int n), some (.rol (cs.map D.int)), none, none] M2 := fun M2 i' g' K hK h2 o2 =>
    drawK_tail km (b := b + 1) (by omega) (by omega) h0 hn h2 o2 hK q
  try dsimp only
  rw [st_seq, st_if]
  simp only [ex_c, ex_var, ex_op, ex_un, ex_b, ex_and, ex_or, ex_not, ex_andV, ex_orV, ex_notV, ex_if, ex_chain, ex_nil, ex_cons, ex_tup, ex_lst, ex_call, ex_callP, ex_cb, ex_bm, ex_rep, ex_sl, ex_noPart, ex_part, ex_yes, it_items, it_rng1, it_rng2, tg_name, tg_sub, tg_tup, tg_cons, tg_nil, gs_0, gs_s, ss_0, ss_s, op_ii, op_ss, op_tt, op_mm, op_sb, op_ng, op_iNf, op_iNt, op_lle, op_ixT, op_ixR, op_ixL, op_putE, op_appE, it_tupE, it_rolE, it_refE, lstOf_l, exL, asS_some, asI_int, asB_bl, asL_some, asN_some, ite3_t, ite3_f, bl_1, bl_lenT, bl_lenR, bl_lenL, bl_lenS, bl_tuple, bl_list, bl_abs, bl_intI, bl_intB, bl_max, bl_min, op_eqSf, op_eqSt, op_eqIf, op_eqIt, op_eqTf, op_eqTt, op_eqRf, op_eqRt, op_eqNf, op_eqNt, eqD_int, eqD_nil, pl_int, pl_nil, pl_non, pl_rnil, pl_bl, sl_tupE, sl_rolE, keep_ref, keep_tup, keep_rol, tp_int, tp_tup, tp_rol, tp_str, tp_bl, tp_non, tp_ref, oFd, oMd, oPw, oShl, oLt, oLe, oGt, oGe, op_in, op_cp, wipe_nil, wipe_cons, mset_same, true_and, and_true, isN_int, ex_lstF, ex_repF, ex_lgF1, ex_lgF2, ex_tupRg1, ex_tupRg2, ex_frz, ex_slF, ex_slM, sl_tupF, sl_rolF, op_iiF, op_ssF, op_ttF, op_rrF, op_rrM, op_mmF, op_repF, li_rol, li_ref, bl_listF, bl_allF, bl_anyF, asT_some, asJ_some, op_eqBf, op_eqBt, isN_non, Bool.not_true, Bool.not_false, rep2, hM1, at_42, at_41, eqD_int, pl_int, tp_int]
  rw [List.length_map]
  refine ite3_by (fun hg => ?_) (fun hg => ?_)
  · refine ite3_by (fun hi => ?_) (fun hi => ?_)
    · have hi : (i : Int) < cs.length := of_decide_eq_true hi
      rw [st_seq, st_asg]
      simp only [ex_c, ex_var, ex_op, ex_un, ex_b, ex_and, ex_or, ex_not, ex_andV, ex_orV, ex_notV, ex_if, ex_chain, ex_nil, ex_cons, ex_tup, ex_lst, ex_call, ex_callP, ex_cb, ex_bm, ex_rep, ex_sl, ex_noPart, ex_part, ex_yes, it_items, it_rng1, it_rng2, tg_name, tg_sub, tg_tup, tg_cons, tg_nil, gs_0, gs_s, ss_0, ss_s, op_ii, op_ss, op_tt, op_mm, op_sb, op_ng, op_iNf, op_iNt, op_lle, op_ixT, op_ixR, op_ixL, op_putE, op_appE, it_tupE, it_rolE, it_refE, lstOf_l, exL, asS_some, asI_int, asB_bl, asL_some, asN_some, ite3_t, ite3_f, bl_1, bl_lenT, bl_lenR, bl_lenL, bl_lenS, bl_tuple, bl_list, bl_abs, bl_intI, bl_intB, bl_max, bl_min, op_eqSf, op_eqSt, op_eqIf, op_eqIt, op_eqTf, op_eqTt, op_eqRf, op_eqRt, op_eqNf, op_eqNt, eqD_int, eqD_nil, pl_int, pl_nil, pl_non, pl_rnil, pl_bl, sl_tupE, sl_rolE, keep_ref, keep_tup, keep_rol, tp_int, tp_tup, tp_rol, tp_str, tp_bl, tp_non, tp_ref, oFd, oMd, oPw, oShl, oLt, oLe, oGt, oGe, op_in, op_cp, wipe_nil, wipe_cons, mset_same, true_and, and_true, isN_int, ex_lstF, ex_repF, ex_lgF1, ex_lgF2, ex_tupRg1, ex_tupRg2, ex_frz, ex_slF, ex_slM, sl_tupF, sl_rolF, op_iiF, op_ssF, op_ttF, op_rrF, op_rrM, op_mmF, op_repF, li_rol, li_ref, bl_listF, bl_allF, bl_anyF, asT_some, asJ_some, op_eqBf, op_eqBt, isN_non, Bool.not_true, Bool.not_false, rep2, hM1, at_41, ix_41, set_41, ei]
      have hM2 : mset M1 a (MO.lst [.rol (cs.map D.int), .int ((i + 1 : Nat) : Int), .int g, .int ((k + 1 : Nat) : Int)]) a = some (.lst [.rol (cs.map D.int), .int ((i + 1 : Nat) : Int), .int g, .int ((k + 1 : Nat) : Int)]) := mset_same
      have o2 : Only a M (mset M1 a (MO.lst [.rol (cs.map D.int), .int ((i + 1 : Nat) : Int), .int g, .int ((k + 1 : Nat) : Int)])) := o1.trans Only.refl.set
      generalize mset M1 a (MO.lst [.rol (cs.map D.int), .int ((i + 1 : Nat) : Int), .int g, .int ((k + 1 : Nat) : Int)]) = M2 at hM2 o2
      obtain ⟨c, hc⟩ := at_cells (cs := cs) (x := ((i + 1 : Nat) : Int) - 1) (by omega) (by omega)
      try dsimp only
      rw [st_seq, st_if]
      simp only [ex_c, ex_var, ex_op, ex_un, ex_b, ex_and, ex_or, ex_not, ex_andV, ex_orV, ex_notV, ex_if, ex_chain, ex_nil, ex_cons, ex_tup, ex_lst, ex_call, ex_callP, ex_cb, ex_bm, ex_rep, ex_sl, ex_noPart, ex_part, ex_yes, it_items, it_rng1, it_rng2, tg_name, tg_sub, tg_tup, tg_cons, tg_nil, gs_0, gs_s, ss_0, ss_s, op_ii, op_ss, op_tt, op_mm, op_sb, op_ng, op_iNf, op_iNt, op_lle, op_ixT, op_ixR, op_ixL, op_putE, op_appE, it_tupE, it_rolE, it_refE, lstOf_l, exL, asS_some, asI_int, asB_bl, asL_some, asN_some, ite3_t, ite3_f, bl_1, bl_lenT, bl_lenR, bl_lenL, bl_lenS, bl_tuple, bl_list, bl_abs, bl_intI, bl_intB, bl_max, bl_min, op_eqSf, op_eqSt, op_eqIf, op_eqIt, op_eqTf, op_eqTt, op_eqRf, op_eqRt, op_eqNf, op_eqNt, eqD_int, eqD_nil, pl_int, pl_nil, pl_non, pl_rnil, pl_bl, sl_tupE, sl_rolE, keep_ref, keep_tup, keep_rol, tp_int, tp_tup, tp_rol, tp_str, tp_bl, tp_non, tp_ref, oFd, oMd, oPw, oShl, oLt, oLe, oGt, oGe, op_in, op_cp, wipe_nil, wipe_cons, mset_same, true_and, and_true, isN_int, ex_lstF, ex_repF, ex_lgF1, ex_lgF2, ex_tupRg1, ex_tupRg2, ex_frz, ex_slF, ex_slM, sl_tupF, sl_rolF, op_iiF, op_ssF, op_ttF, op_rrF, op_rrM, op_mmF, op_repF, li_rol, li_ref, bl_listF, bl_allF, bl_anyF, asT_some, asJ_some, op_eqBf, op_eqBt, isN_non, Bool.not_true, Bool.not_false, rep2, hM2, at_41, hc]
      refine ⟨⟨by decide, by decide, by decide⟩, ite3_by (fun hx => ?_) (fun hx => ?_)⟩
      · rw [st_ret]
        simp only [ex_c, ex_var, ex_op, ex_un, ex_b, ex_and, ex_or, ex_not, ex_andV, ex_orV, ex_notV, ex_if, ex_chain, ex_nil, ex_cons, ex_tup, ex_lst, ex_call, ex_callP, ex_cb, ex_bm, ex_rep, ex_sl, ex_noPart, ex_part, ex_yes, it_items, it_rng1, it_rng2, tg_name, tg_sub, tg_tup, tg_cons, tg_nil, gs_0, gs_s, ss_0, ss_s, op_ii, op_ss, op_tt, op_mm, op_sb, op_ng, op_iNf, op_iNt, op_lle, op_ixT, op_ixR, op_ixL, op_putE, op_appE, it_tupE, it_rolE, it_refE, lstOf_l, exL, asS_some, asI_int, asB_bl, asL_some, asN_some, ite3_t, ite3_f, bl_1, bl_lenT, bl_lenR, bl_lenL, bl_lenS, bl_tuple, bl_list, bl_abs, bl_intI, bl_intB, bl_max, bl_min, op_eqSf, op_eqSt, op_eqIf, op_eqIt, op_eqTf, op_eqTt, op_eqRf, op_eqRt, op_eqNf, op_eqNt, eqD_int, eqD_nil, pl_int, pl_nil, pl_non, pl_rnil, pl_bl, sl_tupE, sl_rolE, keep_ref, keep_tup, keep_rol, tp_int, tp_tup, tp_rol, tp_str, tp_bl, tp_non, tp_ref, oFd, oMd, oPw, oShl, oLt, oLe, oGt, oGe, op_in, op_cp, wipe_nil, wipe_cons, mset_same, true_and, and_true, isN_int, ex_lstF, ex_repF, ex_lgF1, ex_lgF2, ex_tupRg1, ex_tupRg2, ex_frz, ex_slF, ex_slM, sl_tupF, sl_rolF, op_iiF, op_ssF, op_ttF, op_rrF, op_rrM, op_mmF, op_repF, li_rol, li_ref, bl_listF, bl_allF, bl_anyF, asT_some, asJ_some, op_eqBf, op_eqBt, isN_non, Bool.not_true, Bool.not_false, rep2, hM2, at_41, at_43, hc]
        refine km _ (k + 1) _ _ (by omega) fun r _ r0 r1 => ?_
        simp only [ex_c, ex_var, ex_op, ex_un, ex_b, ex_and, ex_or, ex_not, ex_andV, ex_orV, ex_notV, ex_if, ex_chain, ex_nil, ex_cons, ex_tup, ex_lst, ex_call, ex_callP, ex_cb, ex_bm, ex_rep, ex_sl, ex_noPart, ex_part, ex_yes, it_items, it_rng1, it_rng2, tg_name, tg_sub, tg_tup, tg_cons, tg_nil, gs_0, gs_s, ss_0, ss_s, op_ii, op_ss, op_tt, op_mm, op_sb, op_ng, op_iNf, op_iNt, op_lle, op_ixT, op_ixR, op_ixL, op_putE, op_appE, it_tupE, it_rolE, it_refE, lstOf_l, exL, asS_some, asI_int, asB_bl, asL_some, asN_some, ite3_t, ite3_f, bl_1, bl_lenT, bl_lenR, bl_lenL, bl_lenS, bl_tuple, bl_list, bl_abs, bl_intI, bl_intB, bl_max, bl_min, op_eqSf, op_eqSt, op_eqIf, op_eqIt, op_eqTf, op_eqTt, op_eqRf, op_eqRt, op_eqNf, op_eqNt, eqD_int, eqD_nil, pl_int, pl_nil, pl_non, pl_rnil, pl_bl, sl_tupE, sl_rolE, keep_ref, keep_tup, keep_rol, tp_int, tp_tup, tp_rol, tp_str, tp_bl, tp_non, tp_ref, oFd, oMd, oPw, oShl, oLt, oLe, oGt, oGe, op_in, op_cp, wipe_nil, wipe_cons, mset_same, true_and, and_true, isN_int, ex_lstF, ex_repF, ex_lgF1, ex_lgF2, ex_tupRg1, ex_tupRg2, ex_frz, ex_slF, ex_slM, sl_tupF, sl_rolF, op_iiF, op_ssF, op_ttF, op_rrF, op_rrM, op_mmF, op_repF, li_rol, li_ref, bl_listF, bl_allF, bl_anyF, asT_some, asJ_some, op_eqBf, op_eqBt, isN_non, Bool.not_true, Bool.not_false, rep2]
        exact ⟨hn0, q _ _ (md_in h0).1 (md_in h0).2 ⟨cs, i + 1, g, k + 1, by omega, hM2⟩ o2⟩
      · rw [st_next]
        try dsimp only
        rw [st_asg]
        simp only [ex_c, ex_var, ex_op, ex_un, ex_b, ex_and, ex_or, ex_not, ex_andV, ex_orV, ex_notV, ex_if, ex_chain, ex_nil, ex_cons, ex_tup, ex_lst, ex_call, ex_callP, ex_cb, ex_bm, ex_rep, ex_sl, ex_noPart, ex_part, ex_yes, it_items, it_rng1, it_rng2, tg_name, tg_sub, tg_tup, tg_cons, tg_nil, gs_0, gs_s, ss_0, ss_s, op_ii, op_ss, op_tt, op_mm, op_sb, op_ng, op_iNf, op_iNt, op_lle, op_ixT, op_ixR, op_ixL, op_putE, op_appE, it_tupE, it_rolE, it_refE, lstOf_l, exL, asS_some, asI_int, asB_bl, asL_some, asN_some, ite3_t, ite3_f, bl_1, bl_lenT, bl_lenR, bl_lenL, bl_lenS, bl_tuple, bl_list, bl_abs, bl_intI, bl_intB, bl_max, bl_min, op_eqSf, op_eqSt, op_eqIf, op_eqIt, op_eqTf, op_eqTt, op_eqRf, op_eqRt, op_eqNf, op_eqNt, eqD_int, eqD_nil, pl_int, pl_nil, pl_non, pl_rnil, pl_bl, sl_tupE, sl_rolE, keep_ref, keep_tup, keep_rol, tp_int, tp_tup, tp_rol, tp_str, tp_bl, tp_non, tp_ref, oFd, oMd, oPw, oShl, oLt, oLe, oGt, oGe, op_in, op_cp, wipe_nil, wipe_cons, mset_same, true_and, and_true, isN_int, ex_lstF, ex_repF, ex_lgF1, ex_lgF2, ex_tupRg1, ex_tupRg2, ex_frz, ex_slF, ex_slM, sl_tupF, sl_rolF, op_iiF, op_ssF, op_ttF, op_rrF, op_rrM, op_mmF, op_repF, li_rol, li_ref, bl_listF, bl_allF, bl_anyF, asT_some, asJ_some, op_eqBf, op_eqBt, isN_non, Bool.not_true, Bool.not_false, rep2, hM2, at_41, hc, ix_42, set_42]
        exact tail _ (i + 1) _ _ rfl mset_same (o2.trans Only.refl.set)
    · rw [st_next]
      exact tail _ i g _ rfl hM1 o1
  · rw [st_next]
    exact tail _ i g _ rfl hM1 o1
end L3
set_option Elab.async false
set_option linter.all false
set_option maxRecDepth 100000
set_option maxHeartbeats 4000000
namespace L3
open PySem PySem.Spec PyProof.Rows L2
def lsameR (ss : Sp3) : XK3 → TS3 := fun E =>
  (wSeq (wIfS (wB (wCB bIsiT (wCons (wVar 1) (wCons (wTup (wCons (wC (.ty "tuple")) (wCons (wC (.ty "list")) wNil))) wNil)))) (wSeq (wIfS (wOr (wB (wOp (oEq true) (wCB bIsi (wCons (wVar 0) (wCons (wC (.ty "tuple")) wNil))) (wCB bIsi (wCons (wVar 1) (wCons (wC (.ty "tuple")) wNil))))) (wB (wOp (oEq true) (wCB bIsi (wCons (wVar 0) (wCons (wC (.ty "list")) wNil))) (wCB bIsi (wCons (wVar 1) (wCons (wC (.ty "list")) wNil)))))) (wRet (wC (.bl false))) wNext)
  (wSeq (wIfS (wB (wOp (oEq true) (wCB bLen (wCons (wVar 0) wNil)) (wCB bLen (wCons (wVar 1) wNil)))) (wRet (wC (.bl false))) wNext)
  (wRet (wOp (oEq false) (wLcF (wRng1 (wCons (wCB bLen (wCons (wVar 1) wNil)) wNil)) (wgName 2) (wNot (wB (wCallP ss X0 (wCons (wOp oIx (wVar 0) (wVar 2)) (wCons (wOp oIx (wVar 1) (wVar 2)) wNil))))) (wVar 2) [2]) (wLstF wNil))))) wNext)
  (wSeq (wIfS (wB (wOp (oIsN false) (wVar 1) (wC .non))) (wRet (wOp (oIsN false) (wVar 0) (wC .non))) wNext)
  (wSeq (wIfS (wB (wCB bIsi (wCons (wVar 1) (wCons (wC (.ty "str")) wNil)))) (wRet (wAndV (wCB bIsi (wCons (wVar 0) (wCons (wC (.ty "str")) wNil))) (wOp (oEq false) (wVar 0) (wVar 1)))) wNext)
  (wRet (wAndV (wCB bIsi (wCons (wVar 0) (wCons (wC (.ty "int")) wNil))) (wAndV (wOp (oEq false) (wCB bIsi (wCons (wVar 0) (wCons (wC (.ty "bool")) wNil))) (wCB bIsi (wCons (wVar 1) (wCons (wC (.ty "bool")) wNil)))) (wOp (oEq false) (wVar 0) (wVar 1))))))))
def SameOn (sp : Sp3) (P : D → Prop) : Prop := ∀ (d : D) (Q : VK3) (E : XK3), P d → (∀ M, Q (.bl true) M) → sp [d, d] M0 Q E
theorem isiT_is {d : D} {t : String} {cs : List D} {ns : List String} {b : Bool} {M : Mp} {Q : VK3} (h : tyN M d = some t) (h2 : tysOf cs = some ns) (h3 : kitBs t ns = some b) : bIsiT [d, .tup cs] M Q = Q (.bl b) M := by
  show asTys (tysOf cs) _ = _
  rw [h2]
  show asStr (tyN M d) _ = _
  rw [h]
  show asBo (kitBs t ns) _ = _
  rw [h3]; rfl
theorem kbs_t : kitBs "tuple" ["tuple", "list"] = some true := by decide +kernel
theorem kbs_n : kitBs "NoneType" ["tuple", "list"] = some false := by decide +kernel
theorem kbs_i : kitBs "int" ["tuple", "list"] = some false := by decide +kernel
theorem kb_tt2 : kitB "tuple" "tuple" = some true := by decide +kernel
theorem kb_tl2 : kitB "tuple" "list" = some false := by decide +kernel
theorem kb_is2 : kitB "int" "str" = some false := by decide +kernel
theorem eqD_bb {b : Bool} : eqD (.bl b) (.bl b) = true := by
  simp only [eqD, pdOf, PyData.eqv]
  cases b <;> rfl
theorem same_ed {ss : Sp3} : SameOn (spOf 2 3 (lsameR ss)) (fun d => ∃ e : Ed, d = oD e) := by
  rintro d Q E ⟨e, rfl⟩ q
  refine ⟨rfl, ?_⟩
  show lsameR ss E _ [some (oD e), some (oD e), none] M0
  unfold lsameR
  rw [st_seq, st_if]
  cases e with
  | none =>
    simp only [ex_c, ex_var, ex_op, ex_un, ex_b, ex_and, ex_or, ex_not, ex_andV, ex_orV, ex_notV, ex_if, ex_chain, ex_nil, ex_cons, ex_tup, ex_lst, ex_call, ex_callP, ex_cb, ex_bm, ex_rep, ex_sl, ex_noPart, ex_part, ex_yes, it_items, it_rng1, it_rng2, tg_name, tg_sub, tg_tup, tg_cons, tg_nil, gs_0, gs_s, ss_0, ss_s, op_ii, op_ss, op_tt, op_mm, op_sb, op_ng, op_iNf, op_iNt, op_lle, op_ixT, op_ixR, op_ixL, op_putE, op_appE, it_tupE, it_rolE, it_refE, lstOf_l, exL, asS_some, asI_int, asB_bl, asL_some, asN_some, ite3_t, ite3_f, bl_1, bl_lenT, bl_lenR, bl_lenL, bl_lenS, bl_tuple, bl_list, bl_abs, bl_intI, bl_intB, bl_max, bl_min, op_eqSf, op_eqSt, op_eqIf, op_eqIt, op_eqTf, op_eqTt, op_eqRf, op_eqRt, op_eqNf, op_eqNt, eqD_int, eqD_nil, pl_int, pl_nil, pl_non, pl_rnil, pl_bl, sl_tupE, sl_rolE, keep_ref, keep_tup, keep_rol, tp_int, tp_tup, tp_rol, tp_str, tp_bl, tp_non, tp_ref, oFd, oMd, oPw, oShl, oLt, oLe, oGt, oGe, op_in, op_cp, wipe_nil, wipe_cons, mset_same, true_and, and_true, isN_int, ex_lstF, ex_repF, ex_lgF1, ex_lgF2, ex_tupRg1, ex_tupRg2, ex_frz, ex_slF, ex_slM, sl_tupF, sl_rolF, op_iiF, op_ssF, op_ttF, op_rrF, op_rrM, op_mmF, op_repF, li_rol, li_ref, bl_listF, bl_allF, bl_anyF, asT_some, asJ_some, op_eqBf, op_eqBt, isN_non, Bool.not_true, Bool.not_false, rep2, oD]
    refine ⟨by decide, ?_⟩
    rw [isiT_is rfl rfl kbs_n]
    (try simp only [ex_c, ex_var, ex_op, ex_un, ex_b, ex_and, ex_or, ex_not, ex_andV, ex_orV, ex_notV, ex_if, ex_chain, ex_nil, ex_cons, ex_tup, ex_lst, ex_call, ex_callP, ex_cb, ex_bm, ex_rep, ex_sl, ex_noPart, ex_part, ex_yes, it_items, it_rng1, it_rng2, tg_name, tg_sub, tg_tup, tg_cons, tg_nil, gs_0, gs_s, ss_0, ss_s, op_ii, op_ss, op_tt, op_mm, op_sb, op_ng, op_iNf, op_iNt, op_lle, op_ixT, op_ixR, op_ixL, op_putE, op_appE, it_tupE, it_rolE, it_refE, lstOf_l, exL, asS_some, asI_int, asB_bl, asL_some, asN_some, ite3_t, ite3_f, bl_1, bl_lenT, bl_lenR, bl_lenL, bl_lenS, bl_tuple, bl_list, bl_abs, bl_intI, bl_intB, bl_max, bl_min, op_eqSf, op_eqSt, op_eqIf, op_eqIt, op_eqTf, op_eqTt, op_eqRf, op_eqRt, op_eqNf, op_eqNt, eqD_int, eqD_nil, pl_int, pl_nil, pl_non, pl_rnil, pl_bl, sl_tupE, sl_rolE, keep_ref, keep_tup, keep_rol, tp_int, tp_tup, tp_rol, tp_str, tp_bl, tp_non, tp_ref, oFd, oMd, oPw, oShl, oLt, oLe, oGt, oGe, op_in, op_cp, wipe_nil, wipe_cons, mset_same, true_and, and_true, isN_int, ex_lstF, ex_repF, ex_lgF1, ex_lgF2, ex_tupRg1, ex_tupRg2, ex_frz, ex_slF, ex_slM, sl_tupF, sl_rolF, op_iiF, op_ssF, op_ttF, op_rrF, op_rrM, op_mmF, op_repF, li_rol, li_ref, bl_listF, bl_allF, bl_anyF, asT_some, asJ_some, op_eqBf, op_eqBt, isN_non, Bool.not_true, Bool.not_false, rep2])
    rw [st_next]
    try dsimp only
    rw [st_seq, st_if]
    simp only [ex_c, ex_var, ex_op, ex_un, ex_b, ex_and, ex_or, ex_not, ex_andV, ex_orV, ex_notV, ex_if, ex_chain, ex_nil, ex_cons, ex_tup, ex_lst, ex_call, ex_callP, ex_cb, ex_bm, ex_rep, ex_sl, ex_noPart, ex_part, ex_yes, it_items, it_rng1, it_rng2, tg_name, tg_sub, tg_tup, tg_cons, tg_nil, gs_0, gs_s, ss_0, ss_s, op_ii, op_ss, op_tt, op_mm, op_sb, op_ng, op_iNf, op_iNt, op_lle, op_ixT, op_ixR, op_ixL, op_putE, op_appE, it_tupE, it_rolE, it_refE, lstOf_l, exL, asS_some, asI_int, asB_bl, asL_some, asN_some, ite3_t, ite3_f, bl_1, bl_lenT, bl_lenR, bl_lenL, bl_lenS, bl_tuple, bl_list, bl_abs, bl_intI, bl_intB, bl_max, bl_min, op_eqSf, op_eqSt, op_eqIf, op_eqIt, op_eqTf, op_eqTt, op_eqRf, op_eqRt, op_eqNf, op_eqNt, eqD_int, eqD_nil, pl_int, pl_nil, pl_non, pl_rnil, pl_bl, sl_tupE, sl_rolE, keep_ref, keep_tup, keep_rol, tp_int, tp_tup, tp_rol, tp_str, tp_bl, tp_non, tp_ref, oFd, oMd, oPw, oShl, oLt, oLe, oGt, oGe, op_in, op_cp, wipe_nil, wipe_cons, mset_same, true_and, and_true, isN_int, ex_lstF, ex_repF, ex_lgF1, ex_lgF2, ex_tupRg1, ex_tupRg2, ex_frz, ex_slF, ex_slM, sl_tupF, sl_rolF, op_iiF, op_ssF, op_ttF, op_rrF, op_rrM, op_mmF, op_repF, li_rol, li_ref, bl_listF, bl_allF, bl_anyF, asT_some, asJ_some, op_eqBf, op_eqBt, isN_non, Bool.not_true, Bool.not_false, rep2]
    rw [st_ret]
    simp only [ex_c, ex_var, ex_op, ex_un, ex_b, ex_and, ex_or, ex_not, ex_andV, ex_orV, ex_notV, ex_if, ex_chain, ex_nil, ex_cons, ex_tup, ex_lst, ex_call, ex_callP, ex_cb, ex_bm, ex_rep, ex_sl, ex_noPart, ex_part, ex_yes, it_items, it_rng1, it_rng2, tg_name, tg_sub, tg_tup, tg_cons, tg_nil, gs_0, gs_s, ss_0, ss_s, op_ii, op_ss, op_tt, op_mm, op_sb, op_ng, op_iNf, op_iNt, op_lle, op_ixT, op_ixR, op_ixL, op_putE, op_appE, it_tupE, it_rolE, it_refE, lstOf_l, exL, asS_some, asI_int, asB_bl, asL_some, asN_some, ite3_t, ite3_f, bl_1, bl_lenT, bl_lenR, bl_lenL, bl_lenS, bl_tuple, bl_list, bl_abs, bl_intI, bl_intB, bl_max, bl_min, op_eqSf, op_eqSt, op_eqIf, op_eqIt, op_eqTf, op_eqTt, op_eqRf, op_eqRt, op_eqNf, op_eqNt, eqD_int, eqD_nil, pl_int, pl_nil, pl_non, pl_rnil, pl_bl, sl_tupE, sl_rolE, keep_ref, keep_tup, keep_rol, tp_int, tp_tup, tp_rol, tp_str, tp_bl, tp_non, tp_ref, oFd, oMd, oPw, oShl, oLt, oLe, oGt, oGe, op_in, op_cp, wipe_nil, wipe_cons, mset_same, true_and, and_true, isN_int, ex_lstF, ex_repF, ex_lgF1, ex_lgF2, ex_tupRg1, ex_tupRg2, ex_frz, ex_slF, ex_slM, sl_tupF, sl_rolF, op_iiF, op_ssF, op_ttF, op_rrF, op_rrM, op_mmF, op_repF, li_rol, li_ref, bl_listF, bl_allF, bl_anyF, asT_some, asJ_some, op_eqBf, op_eqBt, isN_non, Bool.not_true, Bool.not_false, rep2]
    exact q _
  | some i =>
    simp only [ex_c, ex_var, ex_op, ex_un, ex_b, ex_and, ex_or, ex_not, ex_andV, ex_orV, ex_notV, ex_if, ex_chain, ex_nil, ex_cons, ex_tup, ex_lst, ex_call, ex_callP, ex_cb, ex_bm, ex_rep, ex_sl, ex_noPart, ex_part, ex_yes, it_items, it_rng1, it_rng2, tg_name, tg_sub, tg_tup, tg_cons, tg_nil, gs_0, gs_s, ss_0, ss_s, op_ii, op_ss, op_tt, op_mm, op_sb, op_ng, op_iNf, op_iNt, op_lle, op_ixT, op_ixR, op_ixL, op_putE, op_appE, it_tupE, it_rolE, it_refE, lstOf_l, exL, asS_some, asI_int, asB_bl, asL_some, asN_some, ite3_t, ite3_f, bl_1, bl_lenT, bl_lenR, bl_lenL, bl_lenS, bl_tuple, bl_list, bl_abs, bl_intI, bl_intB, bl_max, bl_min, op_eqSf, op_eqSt, op_eqIf, op_eqIt, op_eqTf, op_eqTt, op_eqRf, op_eqRt, op_eqNf, op_eqNt, eqD_int, eqD_nil, pl_int, pl_nil, pl_non, pl_rnil, pl_bl, sl_tupE, sl_rolE, keep_ref, keep_tup, keep_rol, tp_int, tp_tup, tp_rol, tp_str, tp_bl, tp_non, tp_ref, oFd, oMd, oPw, oShl, oLt, oLe, oGt, oGe, op_in, op_cp, wipe_nil, wipe_cons, mset_same, true_and, and_true, isN_int, ex_lstF, ex_repF, ex_lgF1, ex_lgF2, ex_tupRg1, ex_tupRg2, ex_frz, ex_slF, ex_slM, sl_tupF, sl_rolF, op_iiF, op_ssF, op_ttF, op_rrF, op_rrM, op_mmF, op_repF, li_rol, li_ref, bl_listF, bl_allF, bl_anyF, asT_some, asJ_some, op_eqBf, op_eqBt, isN_non, Bool.not_true, Bool.not_false, rep2, oD]
    refine ⟨by decide, ?_⟩
    rw [isiT_is rfl rfl kbs_i]
    (try simp only [ex_c, ex_var, ex_op, ex_un, ex_b, ex_and, ex_or, ex_not, ex_andV, ex_orV, ex_notV, ex_if, ex_chain, ex_nil, ex_cons, ex_tup, ex_lst, ex_call, ex_callP, ex_cb, ex_bm, ex_rep, ex_sl, ex_noPart, ex_part, ex_yes, it_items, it_rng1, it_rng2, tg_name, tg_sub, tg_tup, tg_cons, tg_nil, gs_0, gs_s, ss_0, ss_s, op_ii, op_ss, op_tt, op_mm, op_sb, op_ng, op_iNf, op_iNt, op_lle, op_ixT, op_ixR, op_ixL, op_putE, op_appE, it_tupE, it_rolE, it_refE, lstOf_l, exL, asS_some, asI_int, asB_bl, asL_some, asN_some, ite3_t, ite3_f, bl_1, bl_lenT, bl_lenR, bl_lenL, bl_lenS, bl_tuple, bl_list, bl_abs, bl_intI, bl_intB, bl_max, bl_min, op_eqSf, op_eqSt, op_eqIf, op_eqIt, op_eqTf, op_eqTt, op_eqRf, op_eqRt, op_eqNf, op_eqNt, eqD_int, eqD_nil, pl_int, pl_nil, pl_non, pl_rnil, pl_bl, sl_tupE, sl_rolE, keep_ref, keep_tup, keep_rol, tp_int, tp_tup, tp_rol, tp_str, tp_bl, tp_non, tp_ref, oFd, oMd, oPw, oShl, oLt, oLe, oGt, oGe, op_in, op_cp, wipe_nil, wipe_cons, mset_same, true_and, and_true, isN_int, ex_lstF, ex_repF, ex_lgF1, ex_lgF2, ex_tupRg1, ex_tupRg2, ex_frz, ex_slF, ex_slM, sl_tupF, sl_rolF, op_iiF, op_ssF, op_ttF, op_rrF, op_rrM, op_mmF, op_repF, li_rol, li_ref, bl_listF, bl_allF, bl_anyF, asT_some, asJ_some, op_eqBf, op_eqBt, isN_non, Bool.not_true, Bool.not_false, rep2])
    rw [st_next]
    try dsimp only
    rw [st_seq, st_if]
    simp only [ex_c, ex_var, ex_op, ex_un, ex_b, ex_and, ex_or, ex_not, ex_andV, ex_orV, ex_notV, ex_if, ex_chain, ex_nil, ex_cons, ex_tup, ex_lst, ex_call, ex_callP, ex_cb, ex_bm, ex_rep, ex_sl, ex_noPart, ex_part, ex_yes, it_items, it_rng1, it_rng2, tg_name, tg_sub, tg_tup, tg_cons, tg_nil, gs_0, gs_s, ss_0, ss_s, op_ii, op_ss, op_tt, op_mm, op_sb, op_ng, op_iNf, op_iNt, op_lle, op_ixT, op_ixR, op_ixL, op_putE, op_appE, it_tupE, it_rolE, it_refE, lstOf_l, exL, asS_some, asI_int, asB_bl, asL_some, asN_some, ite3_t, ite3_f, bl_1, bl_lenT, bl_lenR, bl_lenL, bl_lenS, bl_tuple, bl_list, bl_abs, bl_intI, bl_intB, bl_max, bl_min, op_eqSf, op_eqSt, op_eqIf, op_eqIt, op_eqTf, op_eqTt, op_eqRf, op_eqRt, op_eqNf, op_eqNt, eqD_int, eqD_nil, pl_int, pl_nil, pl_non, pl_rnil, pl_bl, sl_tupE, sl_rolE, keep_ref, keep_tup, keep_rol, tp_int, tp_tup, tp_rol, tp_str, tp_bl, tp_non, tp_ref, oFd, oMd, oPw, oShl, oLt, oLe, oGt, oGe, op_in, op_cp, wipe_nil, wipe_cons, mset_same, true_and, and_true, isN_int, ex_lstF, ex_repF, ex_lgF1, ex_lgF2, ex_tupRg1, ex_tupRg2, ex_frz, ex_slF, ex_slM, sl_tupF, sl_rolF, op_iiF, op_ssF, op_ttF, op_rrF, op_rrM, op_mmF, op_repF, li_rol, li_ref, bl_listF, bl_allF, bl_anyF, asT_some, asJ_some, op_eqBf, op_eqBt, isN_non, Bool.not_true, Bool.not_false, rep2]
    rw [st_next]
    try dsimp only
    rw [st_seq, st_if]
    simp only [ex_c, ex_var, ex_op, ex_un, ex_b, ex_and, ex_or, ex_not, ex_andV, ex_orV, ex_notV, ex_if, ex_chain, ex_nil, ex_cons, ex_tup, ex_lst, ex_call, ex_callP, ex_cb, ex_bm, ex_rep, ex_sl, ex_noPart, ex_part, ex_yes, it_items, it_rng1, it_rng2, tg_name, tg_sub, tg_tup, tg_cons, tg_nil, gs_0, gs_s, ss_0, ss_s, op_ii, op_ss, op_tt, op_mm, op_sb, op_ng, op_iNf, op_iNt, op_lle, op_ixT, op_ixR, op_ixL, op_putE, op_appE, it_tupE, it_rolE, it_refE, lstOf_l, exL, asS_some, asI_int, asB_bl, asL_some, asN_some, ite3_t, ite3_f, bl_1, bl_lenT, bl_lenR, bl_lenL, bl_lenS, bl_tuple, bl_list, bl_abs, bl_intI, bl_intB, bl_max, bl_min, op_eqSf, op_eqSt, op_eqIf, op_eqIt, op_eqTf, op_eqTt, op_eqRf, op_eqRt, op_eqNf, op_eqNt, eqD_int, eqD_nil, pl_int, pl_nil, pl_non, pl_rnil, pl_bl, sl_tupE, sl_rolE, keep_ref, keep_tup, keep_rol, tp_int, tp_tup, tp_rol, tp_str, tp_bl, tp_non, tp_ref, oFd, oMd, oPw, oShl, oLt, oLe, oGt, oGe, op_in, op_cp, wipe_nil, wipe_cons, mset_same, true_and, and_true, isN_int, ex_lstF, ex_repF, ex_lgF1, ex_lgF2, ex_tupRg1, ex_tupRg2, ex_frz, ex_slF, ex_slM, sl_tupF, sl_rolF, op_iiF, op_ssF, op_ttF, op_rrF, op_rrM, op_mmF, op_repF, li_rol, li_ref, bl_listF, bl_allF, bl_anyF, asT_some, asJ_some, op_eqBf, op_eqBt, isN_non, Bool.not_true, Bool.not_false, rep2, isi_I kb_is2]
    rw [st_next]
    try dsimp only
    rw [st_ret]
    simp only [ex_c, ex_var, ex_op, ex_un, ex_b, ex_and, ex_or, ex_not, ex_andV, ex_orV, ex_notV, ex_if, ex_chain, ex_nil, ex_cons, ex_tup, ex_lst, ex_call, ex_callP, ex_cb, ex_bm, ex_rep, ex_sl, ex_noPart, ex_part, ex_yes, it_items, it_rng1, it_rng2, tg_name, tg_sub, tg_tup, tg_cons, tg_nil, gs_0, gs_s, ss_0, ss_s, op_ii, op_ss, op_tt, op_mm, op_sb, op_ng, op_iNf, op_iNt, op_lle, op_ixT, op_ixR, op_ixL, op_putE, op_appE, it_tupE, it_rolE, it_refE, lstOf_l, exL, asS_some, asI_int, asB_bl, asL_some, asN_some, ite3_t, ite3_f, bl_1, bl_lenT, bl_lenR, bl_lenL, bl_lenS, bl_tuple, bl_list, bl_abs, bl_intI, bl_intB, bl_max, bl_min, op_eqSf, op_eqSt, op_eqIf, op_eqIt, op_eqTf, op_eqTt, op_eqRf, op_eqRt, op_eqNf, op_eqNt, eqD_int, eqD_nil, pl_int, pl_nil, pl_non, pl_rnil, pl_bl, sl_tupE, sl_rolE, keep_ref, keep_tup, keep_rol, tp_int, tp_tup, tp_rol, tp_str, tp_bl, tp_non, tp_ref, oFd, oMd, oPw, oShl, oLt, oLe, oGt, oGe, op_in, op_cp, wipe_nil, wipe_cons, mset_same, true_and, and_true, isN_int, ex_lstF, ex_repF, ex_lgF1, ex_lgF2, ex_tupRg1, ex_tupRg2, ex_frz, ex_slF, ex_slM, sl_tupF, sl_rolF, op_iiF, op_ssF, op_ttF, op_rrF, op_rrM, op_mmF, op_repF, li_rol, li_ref, bl_listF, bl_allF, bl_anyF, asT_some, asJ_some, op_eqBf, op_eqBt, isN_non, Bool.not_true, Bool.not_false, rep2, isi_I kb_ii, isi_I kb_ib, eqD_bb, eqD_int, decide_true, pl_bl, pl_int, tp_bl, tp_int]
    exact q _
theorem same_tup {ss : Sp3} {P : D → Prop} (k : SameOn ss P) : SameOn (spOf 2 3 (lsameR ss)) (fun d => ∃ ds : List D, d = .tup ds ∧ ds.length ≤ 1000 ∧ ∀ x ∈ ds, P x) := by
  rintro d Q E ⟨ds, rfl, hl, hP⟩ q
  refine ⟨rfl, ?_⟩
  have big : (1000000 : Nat) ≤ sizeLine := by decide
  show lsameR ss E _ [some (.tup ds), some (.tup ds), none] M0
  unfold lsameR
  rw [st_seq, st_if]
  simp only [ex_c, ex_var, ex_op, ex_un, ex_b, ex_and, ex_or, ex_not, ex_andV, ex_orV, ex_notV, ex_if, ex_chain, ex_nil, ex_cons, ex_tup, ex_lst, ex_call, ex_callP, ex_cb, ex_bm, ex_rep, ex_sl, ex_noPart, ex_part, ex_yes, it_items, it_rng1, it_rng2, tg_name, tg_sub, tg_tup, tg_cons, tg_nil, gs_0, gs_s, ss_0, ss_s, op_ii, op_ss, op_tt, op_mm, op_sb, op_ng, op_iNf, op_iNt, op_lle, op_ixT, op_ixR, op_ixL, op_putE, op_appE, it_tupE, it_rolE, it_refE, lstOf_l, exL, asS_some, asI_int, asB_bl, asL_some, asN_some, ite3_t, ite3_f, bl_1, bl_lenT, bl_lenR, bl_lenL, bl_lenS, bl_tuple, bl_list, bl_abs, bl_intI, bl_intB, bl_max, bl_min, op_eqSf, op_eqSt, op_eqIf, op_eqIt, op_eqTf, op_eqTt, op_eqRf, op_eqRt, op_eqNf, op_eqNt, eqD_int, eqD_nil, pl_int, pl_nil, pl_non, pl_rnil, pl_bl, sl_tupE, sl_rolE, keep_ref, keep_tup, keep_rol, tp_int, tp_tup, tp_rol, tp_str, tp_bl, tp_non, tp_ref, oFd, oMd, oPw, oShl, oLt, oLe, oGt, oGe, op_in, op_cp, wipe_nil, wipe_cons, mset_same, true_and, and_true, isN_int, ex_lstF, ex_repF, ex_lgF1, ex_lgF2, ex_tupRg1, ex_tupRg2, ex_frz, ex_slF, ex_slM, sl_tupF, sl_rolF, op_iiF, op_ssF, op_ttF, op_rrF, op_rrM, op_mmF, op_repF, li_rol, li_ref, bl_listF, bl_allF, bl_anyF, asT_some, asJ_some, op_eqBf, op_eqBt, isN_non, Bool.not_true, Bool.not_false, rep2]
  refine ⟨by show 2 ≤ sizeLine; omega, ?_⟩
  rw [isiT_is rfl rfl kbs_t]
  (try simp only [ex_c, ex_var, ex_op, ex_un, ex_b, ex_and, ex_or, ex_not, ex_andV, ex_orV, ex_notV, ex_if, ex_chain, ex_nil, ex_cons, ex_tup, ex_lst, ex_call, ex_callP, ex_cb, ex_bm, ex_rep, ex_sl, ex_noPart, ex_part, ex_yes, it_items, it_rng1, it_rng2, tg_name, tg_sub, tg_tup, tg_cons, tg_nil, gs_0, gs_s, ss_0, ss_s, op_ii, op_ss, op_tt, op_mm, op_sb, op_ng, op_iNf, op_iNt, op_lle, op_ixT, op_ixR, op_ixL, op_putE, op_appE, it_tupE, it_rolE, it_refE, lstOf_l, exL, asS_some, asI_int, asB_bl, asL_some, asN_some, ite3_t, ite3_f, bl_1, bl_lenT, bl_lenR, bl_lenL, bl_lenS, bl_tuple, bl_list, bl_abs, bl_intI, bl_intB, bl_max, bl_min, op_eqSf, op_eqSt, op_eqIf, op_eqIt, op_eqTf, op_eqTt, op_eqRf, op_eqRt, op_eqNf, op_eqNt, eqD_int, eqD_nil, pl_int, pl_nil, pl_non, pl_rnil, pl_bl, sl_tupE, sl_rolE, keep_ref, keep_tup, keep_rol, tp_int, tp_tup, tp_rol, tp_str, tp_bl, tp_non, tp_ref, oFd, oMd, oPw, oShl, oLt, oLe, oGt, oGe, op_in, op_cp, wipe_nil, wipe_cons, mset_same, true_and, and_true, isN_int, ex_lstF, ex_repF, ex_lgF1, ex_lgF2, ex_tupRg1, ex_tupRg2, ex_frz, ex_slF, ex_slM, sl_tupF, sl_rolF, op_iiF, op_ssF, op_ttF, op_rrF, op_rrM, op_mmF, op_repF, li_rol, li_ref, bl_listF, bl_allF, bl_anyF, asT_some, asJ_some, op_eqBf, op_eqBt, isN_non, Bool.not_true, Bool.not_false, rep2])
  try dsimp only
  rw [st_seq, st_if]
  simp only [ex_c, ex_var, ex_op, ex_un, ex_b, ex_and, ex_or, ex_not, ex_andV, ex_orV, ex_notV, ex_if, ex_chain, ex_nil, ex_cons, ex_tup, ex_lst, ex_call, ex_callP, ex_cb, ex_bm, ex_rep, ex_sl, ex_noPart, ex_part, ex_yes, it_items, it_rng1, it_rng2, tg_name, tg_sub, tg_tup, tg_cons, tg_nil, gs_0, gs_s, ss_0, ss_s, op_ii, op_ss, op_tt, op_mm, op_sb, op_ng, op_iNf, op_iNt, op_lle, op_ixT, op_ixR, op_ixL, op_putE, op_appE, it_tupE, it_rolE, it_refE, lstOf_l, exL, asS_some, asI_int, asB_bl, asL_some, asN_some, ite3_t, ite3_f, bl_1, bl_lenT, bl_lenR, bl_lenL, bl_lenS, bl_tuple, bl_list, bl_abs, bl_intI, bl_intB, bl_max, bl_min, op_eqSf, op_eqSt, op_eqIf, op_eqIt, op_eqTf, op_eqTt, op_eqRf, op_eqRt, op_eqNf, op_eqNt, eqD_int, eqD_nil, pl_int, pl_nil, pl_non, pl_rnil, pl_bl, sl_tupE, sl_rolE, keep_ref, keep_tup, keep_rol, tp_int, tp_tup, tp_rol, tp_str, tp_bl, tp_non, tp_ref, oFd, oMd, oPw, oShl, oLt, oLe, oGt, oGe, op_in, op_cp, wipe_nil, wipe_cons, mset_same, true_and, and_true, isN_int, ex_lstF, ex_repF, ex_lgF1, ex_lgF2, ex_tupRg1, ex_tupRg2, ex_frz, ex_slF, ex_slM, sl_tupF, sl_rolF, op_iiF, op_ssF, op_ttF, op_rrF, op_rrM, op_mmF, op_repF, li_rol, li_ref, bl_listF, bl_allF, bl_anyF, asT_some, asJ_some, op_eqBf, op_eqBt, isN_non, Bool.not_true, Bool.not_false, rep2, isi_T kb_tt2, isi_T kb_tl2, eqD_bb, pl_bl, tp_bl]
  rw [st_next]
  try dsimp only
  rw [st_seq, st_if]
  simp only [ex_c, ex_var, ex_op, ex_un, ex_b, ex_and, ex_or, ex_not, ex_andV, ex_orV, ex_notV, ex_if, ex_chain, ex_nil, ex_cons, ex_tup, ex_lst, ex_call, ex_callP, ex_cb, ex_bm, ex_rep, ex_sl, ex_noPart, ex_part, ex_yes, it_items, it_rng1, it_rng2, tg_name, tg_sub, tg_tup, tg_cons, tg_nil, gs_0, gs_s, ss_0, ss_s, op_ii, op_ss, op_tt, op_mm, op_sb, op_ng, op_iNf, op_iNt, op_lle, op_ixT, op_ixR, op_ixL, op_putE, op_appE, it_tupE, it_rolE, it_refE, lstOf_l, exL, asS_some, asI_int, asB_bl, asL_some, asN_some, ite3_t, ite3_f, bl_1, bl_lenT, bl_lenR, bl_lenL, bl_lenS, bl_tuple, bl_list, bl_abs, bl_intI, bl_intB, bl_max, bl_min, op_eqSf, op_eqSt, op_eqIf, op_eqIt, op_eqTf, op_eqTt, op_eqRf, op_eqRt, op_eqNf, op_eqNt, eqD_int, eqD_nil, pl_int, pl_nil, pl_non, pl_rnil, pl_bl, sl_tupE, sl_rolE, keep_ref, keep_tup, keep_rol, tp_int, tp_tup, tp_rol, tp_str, tp_bl, tp_non, tp_ref, oFd, oMd, oPw, oShl, oLt, oLe, oGt, oGe, op_in, op_cp, wipe_nil, wipe_cons, mset_same, true_and, and_true, isN_int, ex_lstF, ex_repF, ex_lgF1, ex_lgF2, ex_tupRg1, ex_tupRg2, ex_frz, ex_slF, ex_slM, sl_tupF, sl_rolF, op_iiF, op_ssF, op_ttF, op_rrF, op_rrM, op_mmF, op_repF, li_rol, li_ref, bl_listF, bl_allF, bl_anyF, asT_some, asJ_some, op_eqBf, op_eqBt, isN_non, Bool.not_true, Bool.not_false, rep2, eqD_int, decide_true, pl_int, tp_int]
  rw [st_next]
  try dsimp only
  rw [st_ret]
  simp only [ex_c, ex_var, ex_op, ex_un, ex_b, ex_and, ex_or, ex_not, ex_andV, ex_orV, ex_notV, ex_if, ex_chain, ex_nil, ex_cons, ex_tup, ex_lst, ex_call, ex_callP, ex_cb, ex_bm, ex_rep, ex_sl, ex_noPart, ex_part, ex_yes, it_items, it_rng1, it_rng2, tg_name, tg_sub, tg_tup, tg_cons, tg_nil, gs_0, gs_s, ss_0, ss_s, op_ii, op_ss, op_tt, op_mm, op_sb, op_ng, op_iNf, op_iNt, op_lle, op_ixT, op_ixR, op_ixL, op_putE, op_appE, it_tupE, it_rolE, it_refE, lstOf_l, exL, asS_some, asI_int, asB_bl, asL_some, asN_some, ite3_t, ite3_f, bl_1, bl_lenT, bl_lenR, bl_lenL, bl_lenS, bl_tuple, bl_list, bl_abs, bl_intI, bl_intB, bl_max, bl_min, op_eqSf, op_eqSt, op_eqIf, op_eqIt, op_eqTf, op_eqTt, op_eqRf, op_eqRt, op_eqNf, op_eqNt, eqD_int, eqD_nil, pl_int, pl_nil, pl_non, pl_rnil, pl_bl, sl_tupE, sl_rolE, keep_ref, keep_tup, keep_rol, tp_int, tp_tup, tp_rol, tp_str, tp_bl, tp_non, tp_ref, oFd, oMd, oPw, oShl, oLt, oLe, oGt, oGe, op_in, op_cp, wipe_nil, wipe_cons, mset_same, true_and, and_true, isN_int, ex_lstF, ex_repF, ex_lgF1, ex_lgF2, ex_tupRg1, ex_tupRg2, ex_frz, ex_slF, ex_slM, sl_tupF, sl_rolF, op_iiF, op_ssF, op_ttF, op_rrF, op_rrM, op_mmF, op_repF, li_rol, li_ref, bl_listF, bl_allF, bl_anyF, asT_some, asJ_some, op_eqBf, op_eqBt, isN_non, Bool.not_true, Bool.not_false, rep2, ex_lcF]
  refine ⟨by omega, by omega, ?_⟩
  rw [Int.toNat_natCast]
  refine lc_pv (fun i acc M' => acc = [] ∧ M' = M0) ?_ ?_ ⟨rfl, rfl⟩
  · rintro i d acc M' hd ⟨rfl, rfl⟩ X hX
    obtain ⟨hlt, rfl⟩ := rgD_get hd
    refine ⟨True.intro, ?_⟩
    have hat : atI ds (0 + (i : Int)) = some ds[i] := by
      rw [Int.zero_add]; exact atI_nat (List.getElem?_eq_getElem hlt)
    simp only [ex_c, ex_var, ex_op, ex_un, ex_b, ex_and, ex_or, ex_not, ex_andV, ex_orV, ex_notV, ex_if, ex_chain, ex_nil, ex_cons, ex_tup, ex_lst, ex_call, ex_callP, ex_cb, ex_bm, ex_rep, ex_sl, ex_noPart, ex_part, ex_yes, it_items, it_rng1, it_rng2, tg_name, tg_sub, tg_tup, tg_cons, tg_nil, gs_0, gs_s, ss_0, ss_s, op_ii, op_ss, op_tt, op_mm, op_sb, op_ng, op_iNf, op_iNt, op_lle, op_ixT, op_ixR, op_ixL, op_putE, op_appE, it_tupE, it_rolE, it_refE, lstOf_l, exL, asS_some, asI_int, asB_bl, asL_some, asN_some, ite3_t, ite3_f, bl_1, bl_lenT, bl_lenR, bl_lenL, bl_lenS, bl_tuple, bl_list, bl_abs, bl_intI, bl_intB, bl_max, bl_min, op_eqSf, op_eqSt, op_eqIf, op_eqIt, op_eqTf, op_eqTt, op_eqRf, op_eqRt, op_eqNf, op_eqNt, eqD_int, eqD_nil, pl_int, pl_nil, pl_non, pl_rnil, pl_bl, sl_tupE, sl_rolE, keep_ref, keep_tup, keep_rol, tp_int, tp_tup, tp_rol, tp_str, tp_bl, tp_non, tp_ref, oFd, oMd, oPw, oShl, oLt, oLe, oGt, oGe, op_in, op_cp, wipe_nil, wipe_cons, mset_same, true_and, and_true, isN_int, ex_lstF, ex_repF, ex_lgF1, ex_lgF2, ex_tupRg1, ex_tupRg2, ex_frz, ex_slF, ex_slM, sl_tupF, sl_rolF, op_iiF, op_ssF, op_ttF, op_rrF, op_rrM, op_mmF, op_repF, li_rol, li_ref, bl_listF, bl_allF, bl_anyF, asT_some, asJ_some, op_eqBf, op_eqBt, isN_non, Bool.not_true, Bool.not_false, rep2, hat]
    refine k _ _ _ (hP _ (List.getElem_mem hlt)) fun _ => ?_
    (try simp only [ex_c, ex_var, ex_op, ex_un, ex_b, ex_and, ex_or, ex_not, ex_andV, ex_orV, ex_notV, ex_if, ex_chain, ex_nil, ex_cons, ex_tup, ex_lst, ex_call, ex_callP, ex_cb, ex_bm, ex_rep, ex_sl, ex_noPart, ex_part, ex_yes, it_items, it_rng1, it_rng2, tg_name, tg_sub, tg_tup, tg_cons, tg_nil, gs_0, gs_s, ss_0, ss_s, op_ii, op_ss, op_tt, op_mm, op_sb, op_ng, op_iNf, op_iNt, op_lle, op_ixT, op_ixR, op_ixL, op_putE, op_appE, it_tupE, it_rolE, it_refE, lstOf_l, exL, asS_some, asI_int, asB_bl, asL_some, asN_some, ite3_t, ite3_f, bl_1, bl_lenT, bl_lenR, bl_lenL, bl_lenS, bl_tuple, bl_list, bl_abs, bl_intI, bl_intB, bl_max, bl_min, op_eqSf, op_eqSt, op_eqIf, op_eqIt, op_eqTf, op_eqTt, op_eqRf, op_eqRt, op_eqNf, op_eqNt, eqD_int, eqD_nil, pl_int, pl_nil, pl_non, pl_rnil, pl_bl, sl_tupE, sl_rolE, keep_ref, keep_tup, keep_rol, tp_int, tp_tup, tp_rol, tp_str, tp_bl, tp_non, tp_ref, oFd, oMd, oPw, oShl, oLt, oLe, oGt, oGe, op_in, op_cp, wipe_nil, wipe_cons, mset_same, true_and, and_true, isN_int, ex_lstF, ex_repF, ex_lgF1, ex_lgF2, ex_tupRg1, ex_tupRg2, ex_frz, ex_slF, ex_slM, sl_tupF, sl_rolF, op_iiF, op_ssF, op_ttF, op_rrF, op_rrM, op_mmF, op_repF, li_rol, li_ref, bl_listF, bl_allF, bl_anyF, asT_some, asJ_some, op_eqBf, op_eqBt, isN_non, Bool.not_true, Bool.not_false, rep2])
    exact hX _ _ ⟨rfl, rfl⟩
  · rintro acc M' ⟨rfl, rfl⟩
    refine ⟨True.intro, ?_⟩
    simp only [ex_c, ex_var, ex_op, ex_un, ex_b, ex_and, ex_or, ex_not, ex_andV, ex_orV, ex_notV, ex_if, ex_chain, ex_nil, ex_cons, ex_tup, ex_lst, ex_call, ex_callP, ex_cb, ex_bm, ex_rep, ex_sl, ex_noPart, ex_part, ex_yes, it_items, it_rng1, it_rng2, tg_name, tg_sub, tg_tup, tg_cons, tg_nil, gs_0, gs_s, ss_0, ss_s, op_ii, op_ss, op_tt, op_mm, op_sb, op_ng, op_iNf, op_iNt, op_lle, op_ixT, op_ixR, op_ixL, op_putE, op_appE, it_tupE, it_rolE, it_refE, lstOf_l, exL, asS_some, asI_int, asB_bl, asL_some, asN_some, ite3_t, ite3_f, bl_1, bl_lenT, bl_lenR, bl_lenL, bl_lenS, bl_tuple, bl_list, bl_abs, bl_intI, bl_intB, bl_max, bl_min, op_eqSf, op_eqSt, op_eqIf, op_eqIt, op_eqTf, op_eqTt, op_eqRf, op_eqRt, op_eqNf, op_eqNt, eqD_int, eqD_nil, pl_int, pl_nil, pl_non, pl_rnil, pl_bl, sl_tupE, sl_rolE, keep_ref, keep_tup, keep_rol, tp_int, tp_tup, tp_rol, tp_str, tp_bl, tp_non, tp_ref, oFd, oMd, oPw, oShl, oLt, oLe, oGt, oGe, op_in, op_cp, wipe_nil, wipe_cons, mset_same, true_and, and_true, isN_int, ex_lstF, ex_repF, ex_lgF1, ex_lgF2, ex_tupRg1, ex_tupRg2, ex_frz, ex_slF, ex_slM, sl_tupF, sl_rolF, op_iiF, op_ssF, op_ttF, op_rrF, op_rrM, op_mmF, op_repF, li_rol, li_ref, bl_listF, bl_allF, bl_anyF, asT_some, asJ_some, op_eqBf, op_eqBt, isN_non, Bool.not_true, Bool.not_false, rep2, op_eqLf, tp_rol, eqD_rnil, pl_rnil]
    exact ⟨Nat.zero_le _, q _⟩
end L3
set_option Elab.async false
set_option linter.all false
set_option maxRecDepth 100000
set_option maxHeartbeats 4000000
namespace L3
open PySem PySem.Spec PyProof.Rows L2
def dtabR : XK3 → TS3 := fun E =>
  (wRet (wCB bTuple (wCons (wLcF (wRng1 (wCons (wVar 0) wNil)) (wgName 2) wYes (wCB bTuple (wCons (wLcF (wRng1 (wCons (wVar 0) wNil)) (wgName 3) wYes (wTGet1 (wVar 1) (wTup (wCons (wVar 2) (wCons (wVar 3) wNil)))) [3]) wNil)) [2]) wNil)))
theorem ex_tget1 {to ti : TE3} {τ : St3} {M : Mp} {Q : VK3} : wTGet1 to ti τ M Q = to τ M fun d M1 => (asRf d fun a => asKvt (kvtOf (M1 a)) fun _ => True) ∧ ti τ M1 fun y M2 => oTGetD d y .non M2 fun v => Q v M2 := rfl
def SDTab (sp : Sp3) : Prop := ∀ (n : Nat) (d : Addr) (l : Dct) (T : Tab) (M : Mp) (Q : VK3) (E : XK3), n ≤ 400 → M d = some (.dT l) → DcT n l T → Sq n T → Q (tabD T) M → sp [.int n, .ref d] M Q E
theorem s_dtab : SDTab (spOf 2 4 dtabR) := by
  refine fun n d l T M Q E hn hd hc sq q => ⟨rfl, ?_⟩
  show dtabR E _ [some (.int n), some (.ref d), none, none] M
  unfold dtabR
  have big : (1000000 : Nat) ≤ sizeLine := by decide
  rw [st_ret]
  simp only [ex_c, ex_var, ex_op, ex_un, ex_b, ex_and, ex_or, ex_not, ex_andV, ex_orV, ex_notV, ex_if, ex_chain, ex_nil, ex_cons, ex_tup, ex_lst, ex_call, ex_callP, ex_cb, ex_bm, ex_rep, ex_sl, ex_noPart, ex_part, ex_yes, it_items, it_rng1, it_rng2, tg_name, tg_sub, tg_tup, tg_cons, tg_nil, gs_0, gs_s, ss_0, ss_s, op_ii, op_ss, op_tt, op_mm, op_sb, op_ng, op_iNf, op_iNt, op_lle, op_ixT, op_ixR, op_ixL, op_putE, op_appE, it_tupE, it_rolE, it_refE, lstOf_l, exL, asS_some, asI_int, asB_bl, asL_some, asN_some, ite3_t, ite3_f, bl_1, bl_lenT, bl_lenR, bl_lenL, bl_lenS, bl_tuple, bl_list, bl_abs, bl_intI, bl_intB, bl_max, bl_min, op_eqSf, op_eqSt, op_eqIf, op_eqIt, op_eqTf, op_eqTt, op_eqRf, op_eqRt, op_eqNf, op_eqNt, eqD_int, eqD_nil, pl_int, pl_nil, pl_non, pl_rnil, pl_bl, sl_tupE, sl_rolE, keep_ref, keep_tup, keep_rol, tp_int, tp_tup, tp_rol, tp_str, tp_bl, tp_non, tp_ref, oFd, oMd, oPw, oShl, oLt, oLe, oGt, oGe, op_in, op_cp, wipe_nil, wipe_cons, mset_same, true_and, and_true, isN_int, ex_lstF, ex_repF, ex_lgF1, ex_lgF2, ex_tupRg1, ex_tupRg2, ex_frz, ex_slF, ex_slM, sl_tupF, sl_rolF, op_iiF, op_ssF, op_ttF, op_rrF, op_rrM, op_mmF, op_repF, li_rol, li_ref, bl_listF, bl_allF, bl_anyF, asT_some, asJ_some, op_eqBf, op_eqBt, isN_non, Bool.not_true, Bool.not_false, rep2]
  rw [ex_lcF]
  simp only [ex_c, ex_var, ex_op, ex_un, ex_b, ex_and, ex_or, ex_not, ex_andV, ex_orV, ex_notV, ex_if, ex_chain, ex_nil, ex_cons, ex_tup, ex_lst, ex_call, ex_callP, ex_cb, ex_bm, ex_rep, ex_sl, ex_noPart, ex_part, ex_yes, it_items, it_rng1, it_rng2, tg_name, tg_sub, tg_tup, tg_cons, tg_nil, gs_0, gs_s, ss_0, ss_s, op_ii, op_ss, op_tt, op_mm, op_sb, op_ng, op_iNf, op_iNt, op_lle, op_ixT, op_ixR, op_ixL, op_putE, op_appE, it_tupE, it_rolE, it_refE, lstOf_l, exL, asS_some, asI_int, asB_bl, asL_some, asN_some, ite3_t, ite3_f, bl_1, bl_lenT, bl_lenR, bl_lenL, bl_lenS, bl_tuple, bl_list, bl_abs, bl_intI, bl_intB, bl_max, bl_min, op_eqSf, op_eqSt, op_eqIf, op_eqIt, op_eqTf, op_eqTt, op_eqRf, op_eqRt, op_eqNf, op_eqNt, eqD_int, eqD_nil, pl_int, pl_nil, pl_non, pl_rnil, pl_bl, sl_tupE, sl_rolE, keep_ref, keep_tup, keep_rol, tp_int, tp_tup, tp_rol, tp_str, tp_bl, tp_non, tp_ref, oFd, oMd, oPw, oShl, oLt, oLe, oGt, oGe, op_in, op_cp, wipe_nil, wipe_cons, mset_same, true_and, and_true, isN_int, ex_lstF, ex_repF, ex_lgF1, ex_lgF2, ex_tupRg1, ex_tupRg2, ex_frz, ex_slF, ex_slM, sl_tupF, sl_rolF, op_iiF, op_ssF, op_ttF, op_rrF, op_rrM, op_mmF, op_repF, li_rol, li_ref, bl_listF, bl_allF, bl_anyF, asT_some, asJ_some, op_eqBf, op_eqBt, isN_non, Bool.not_true, Bool.not_false, rep2]
  refine ⟨by omega, by omega, ?_⟩
  rw [Int.toNat_natCast]
  refine lc_of (fun p : Nat => D.int (0 + (p : Int))) (fun p => D.tup ((List.range n).map fun q => oD (at2 T p q))) True.intro (List.range n) (by rw [List.length_range]; omega) ?_ ?_
  · intro p hp k hk
    have hp' := List.mem_range.mp hp
    simp only [ex_c, ex_var, ex_op, ex_un, ex_b, ex_and, ex_or, ex_not, ex_andV, ex_orV, ex_notV, ex_if, ex_chain, ex_nil, ex_cons, ex_tup, ex_lst, ex_call, ex_callP, ex_cb, ex_bm, ex_rep, ex_sl, ex_noPart, ex_part, ex_yes, it_items, it_rng1, it_rng2, tg_name, tg_sub, tg_tup, tg_cons, tg_nil, gs_0, gs_s, ss_0, ss_s, op_ii, op_ss, op_tt, op_mm, op_sb, op_ng, op_iNf, op_iNt, op_lle, op_ixT, op_ixR, op_ixL, op_putE, op_appE, it_tupE, it_rolE, it_refE, lstOf_l, exL, asS_some, asI_int, asB_bl, asL_some, asN_some, ite3_t, ite3_f, bl_1, bl_lenT, bl_lenR, bl_lenL, bl_lenS, bl_tuple, bl_list, bl_abs, bl_intI, bl_intB, bl_max, bl_min, op_eqSf, op_eqSt, op_eqIf, op_eqIt, op_eqTf, op_eqTt, op_eqRf, op_eqRt, op_eqNf, op_eqNt, eqD_int, eqD_nil, pl_int, pl_nil, pl_non, pl_rnil, pl_bl, sl_tupE, sl_rolE, keep_ref, keep_tup, keep_rol, tp_int, tp_tup, tp_rol, tp_str, tp_bl, tp_non, tp_ref, oFd, oMd, oPw, oShl, oLt, oLe, oGt, oGe, op_in, op_cp, wipe_nil, wipe_cons, mset_same, true_and, and_true, isN_int, ex_lstF, ex_repF, ex_lgF1, ex_lgF2, ex_tupRg1, ex_tupRg2, ex_frz, ex_slF, ex_slM, sl_tupF, sl_rolF, op_iiF, op_ssF, op_ttF, op_rrF, op_rrM, op_mmF, op_repF, li_rol, li_ref, bl_listF, bl_allF, bl_anyF, asT_some, asJ_some, op_eqBf, op_eqBt, isN_non, Bool.not_true, Bool.not_false, rep2]
    rw [ex_lcF]
    simp only [ex_c, ex_var, ex_op, ex_un, ex_b, ex_and, ex_or, ex_not, ex_andV, ex_orV, ex_notV, ex_if, ex_chain, ex_nil, ex_cons, ex_tup, ex_lst, ex_call, ex_callP, ex_cb, ex_bm, ex_rep, ex_sl, ex_noPart, ex_part, ex_yes, it_items, it_rng1, it_rng2, tg_name, tg_sub, tg_tup, tg_cons, tg_nil, gs_0, gs_s, ss_0, ss_s, op_ii, op_ss, op_tt, op_mm, op_sb, op_ng, op_iNf, op_iNt, op_lle, op_ixT, op_ixR, op_ixL, op_putE, op_appE, it_tupE, it_rolE, it_refE, lstOf_l, exL, asS_some, asI_int, asB_bl, asL_some, asN_some, ite3_t, ite3_f, bl_1, bl_lenT, bl_lenR, bl_lenL, bl_lenS, bl_tuple, bl_list, bl_abs, bl_intI, bl_intB, bl_max, bl_min, op_eqSf, op_eqSt, op_eqIf, op_eqIt, op_eqTf, op_eqTt, op_eqRf, op_eqRt, op_eqNf, op_eqNt, eqD_int, eqD_nil, pl_int, pl_nil, pl_non, pl_rnil, pl_bl, sl_tupE, sl_rolE, keep_ref, keep_tup, keep_rol, tp_int, tp_tup, tp_rol, tp_str, tp_bl, tp_non, tp_ref, oFd, oMd, oPw, oShl, oLt, oLe, oGt, oGe, op_in, op_cp, wipe_nil, wipe_cons, mset_same, true_and, and_true, isN_int, ex_lstF, ex_repF, ex_lgF1, ex_lgF2, ex_tupRg1, ex_tupRg2, ex_frz, ex_slF, ex_slM, sl_tupF, sl_rolF, op_iiF, op_ssF, op_ttF, op_rrF, op_rrM, op_mmF, op_repF, li_rol, li_ref, bl_listF, bl_allF, bl_anyF, asT_some, asJ_some, op_eqBf, op_eqBt, isN_non, Bool.not_true, Bool.not_false, rep2]
    refine ⟨by omega, by omega, ?_⟩
    rw [Int.toNat_natCast]
    refine lc_of (fun q : Nat => D.int (0 + (q : Int))) (fun q => oD (at2 T p q)) True.intro (List.range n) (by rw [List.length_range]; omega) ?_ ?_
    · intro j hj k' hk'
      have hj' := List.mem_range.mp hj
      simp only [ex_c, ex_var, ex_op, ex_un, ex_b, ex_and, ex_or, ex_not, ex_andV, ex_orV, ex_notV, ex_if, ex_chain, ex_nil, ex_cons, ex_tup, ex_lst, ex_call, ex_callP, ex_cb, ex_bm, ex_rep, ex_sl, ex_noPart, ex_part, ex_yes, it_items, it_rng1, it_rng2, tg_name, tg_sub, tg_tup, tg_cons, tg_nil, gs_0, gs_s, ss_0, ss_s, op_ii, op_ss, op_tt, op_mm, op_sb, op_ng, op_iNf, op_iNt, op_lle, op_ixT, op_ixR, op_ixL, op_putE, op_appE, it_tupE, it_rolE, it_refE, lstOf_l, exL, asS_some, asI_int, asB_bl, asL_some, asN_some, ite3_t, ite3_f, bl_1, bl_lenT, bl_lenR, bl_lenL, bl_lenS, bl_tuple, bl_list, bl_abs, bl_intI, bl_intB, bl_max, bl_min, op_eqSf, op_eqSt, op_eqIf, op_eqIt, op_eqTf, op_eqTt, op_eqRf, op_eqRt, op_eqNf, op_eqNt, eqD_int, eqD_nil, pl_int, pl_nil, pl_non, pl_rnil, pl_bl, sl_tupE, sl_rolE, keep_ref, keep_tup, keep_rol, tp_int, tp_tup, tp_rol, tp_str, tp_bl, tp_non, tp_ref, oFd, oMd, oPw, oShl, oLt, oLe, oGt, oGe, op_in, op_cp, wipe_nil, wipe_cons, mset_same, true_and, and_true, isN_int, ex_lstF, ex_repF, ex_lgF1, ex_lgF2, ex_tupRg1, ex_tupRg2, ex_frz, ex_slF, ex_slM, sl_tupF, sl_rolF, op_iiF, op_ssF, op_ttF, op_rrF, op_rrM, op_mmF, op_repF, li_rol, li_ref, bl_listF, bl_allF, bl_anyF, asT_some, asJ_some, op_eqBf, op_eqBt, isN_non, Bool.not_true, Bool.not_false, rep2, ex_tget1]
      refine ⟨dT_is hd, by show 2 ≤ sizeLine; omega, ?_⟩
      rw [tgetD_at hd ix_k2, hc.val p j hp' hj']
      exact hk'
    · skip
      exact hk
  · rw [tab_eta sq]
    exact q
def step59R (sd st : Sp3) : XK3 → TS3 := fun E =>
  (wSeq (wSet 2 (wOp oAddF (wOp oMulF (wC (.int 2)) (wVar 1)) (wC (.int 1))))
  (wSeq (wSet 3 wDNewT)
  (wSeq (wFor (wRng1 (wCons (wVar 1) wNil)) (wgName 4) (wSeq (wPar3 5 6 7 (wCons (wCall sd E (wCons (wVar 0) (wCons (wC (.int 6)) wNil))) (wCons (wCall sd E (wCons (wVar 0) (wCons (wVar 1) wNil))) (wCons (wOp oSub (wCall sd E (wCons (wVar 0) (wCons (wC (.int 5)) wNil))) (wC (.int 2))) wNil))))
  (wSeq (wIfS (wB (wOp oLt (wVar 5) (wC (.int 5)))) (wAsg (wVar 7) (wgSubT (wVar 3) (wCons (wOp oAddF (wVar 1) (wVar 4)) (wCons (wVar 6) wNil)))) wNext)
  (wIfS (wB (wOp oLt (wVar 5) (wC (.int 3)))) (wAsg (wUn oNeg (wVar 7)) (wgSubT (wVar 3) (wCons (wVar 6) (wCons (wOp oAddF (wVar 1) (wVar 4)) wNil)))) wNext))))
  (wSeq (wFor (wRng1 (wCons (wCall sd E (wCons (wVar 0) (wCons (wC (.int 4)) wNil))) wNil)) (wgName 8) (wSeq (wPar 9 10 (wCons (wCall sd E (wCons (wVar 0) (wCons (wVar 2) wNil))) (wCons (wCall sd E (wCons (wVar 0) (wCons (wVar 2) wNil))) wNil)))
  (wAsg (wOp oAddF (wOp oSub (wCall sd E (wCons (wVar 0) (wCons (wC (.int 10)) wNil))) (wC (.int 2))) (wOp oMulF (wCB bInt (wCons (wOp (oEq false) (wVar 9) (wVar 10)) wNil)) (wC (.int 2)))) (wgSubT (wVar 3) (wCons (wVar 9) (wCons (wVar 10) wNil))))))
  (wRet (wCall st E (wCons (wVar 2) (wCons (wVar 3) wNil))))))))
/-- the dict that is filled -/
structure D59 (a d : Addr) (n b c : Nat) (M : Mp) (l : Dct) (T : Tab) : Prop where
  f : Fd b M a
  hd : M d = some (.dT l)
  hc : DcT n l T
  sq : Sq n T
  en : Ends 100 T
  hl : l.length ≤ c
theorem D59.only {a d : Addr} {n b b' c : Nat} {M M' : Mp} {l : Dct} {T : Tab} (g : D59 a d n b c M l T) (h : d ≠ a) (f : Fd b' M' a) (o : Only a M M') : D59 a d n b' c M' l T :=
  ⟨f, by rw [o d h]; exact g.hd, g.hc, g.sq, g.en, g.hl⟩
theorem D59.more {a d : Addr} {n b b' c c' : Nat} {M : Mp} {l : Dct} {T : Tab} (g : D59 a d n b c M l T) (hb : b ≤ b') (hc : c ≤ c') : D59 a d n b' c' M l T :=
  ⟨g.f.mono hb, g.hd, g.hc, g.sq, g.en, by have := g.hl; omega⟩
theorem D59.put {a d : Addr} {n b c : Nat} {M : Mp} {l : Dct} {T : Tab} (g : D59 a d n b c M l T) (h : d ≠ a) {p q : Nat} (hp : p < n) (hq : q < n) {x : Int} (hx : x.natAbs < 100) : D59 a d n b (c + 1) (mset M d (.dT (putG l (k2 p q) (.int x)))) (putG l (k2 p q) (.int x)) (putT T p q (some x)) := by
  have h1 := putG_len (l := l) (k := k2 p q) (d := D.int x)
  have h2 := g.hl
  exact ⟨g.f.put h, mset_same, g.hc.put g.sq hp hq (some x), g.sq.put, g.en.put (fun i hi => by cases hi; exact hx), by omega⟩
/-- one end put -/
theorem D59.asg {a d : Addr} {n b c : Nat} {M : Mp} {l : Dct} {T : Tab} (g : D59 a d n b c M l T) (h : d ≠ a) (hc : c ≤ 1000) {i j x : Int} (i0 : 0 ≤ i) (i1 : i < n) (j0 : 0 ≤ j) (j1 : j < n) (hx : x.natAbs < 100) {τ : St3} {Q : St3 → Mp → Prop} {to : TE3} {ti tj : TE3}
    (e1 : ∀ (M : Mp) (Q : VK3), to τ M Q = Q (.ref d) M) (e2 : ∀ (M : Mp) (Q : VK3), ti τ M Q = Q (.int i) M) (e3 : ∀ (M : Mp) (Q : VK3), tj τ M Q = Q (.int j) M)
    (q : ∀ M' l' T', D59 a d n b (c + 1) M' l' T' → Q τ M') : wgSubT to (wCons ti (wCons tj wNil)) (.int x) τ M Q := by
  have hl := g.hl
  have big : (1000000 : Nat) ≤ sizeLine := by decide
  rw [tg_subT, e1, ex_cons, e2, ex_cons, e3, ex_nil]
  refine ⟨by show 2 ≤ sizeLine; decide, ?_⟩
  rw [subT_at g.hd (ix_kI i0 j0)]
  exact ⟨by omega, q _ _ _ (g.put h (by omega) (by omega) hx)⟩
def SStep59 (sp : Sp3) : Prop := ∀ (a : Addr) (b w : Nat) (M : Mp) (Q : VK3) (E : XK3), Fd b M a → b < 2 ^ 27 → 0 < w → w ≤ 3 → (∀ T M', TabB 100 (2 * w + 1) T → Fd (b + 40) M' a → Q (tabD T) M') → sp [.ref a, .int w] M Q E
theorem s_step59 {sd st : Sp3} (k1 : SDraw7 sd) (kt : SDTab st) : SStep59 (spOf 2 11 (step59R sd st)) := by
  refine fun a b w M Q E f hb w0 w3 q => ⟨rfl, ?_⟩
  have big : (1000000 : Nat) ≤ sizeLine := by decide
  show step59R sd st E _ [some (.ref a), some (.int w), none, none, none, none, none, none, none, none, none] M
  unfold step59R
  rw [st_seq, st_set]
  simp only [ex_c, ex_var, ex_op, ex_un, ex_b, ex_and, ex_or, ex_not, ex_andV, ex_orV, ex_notV, ex_if, ex_chain, ex_nil, ex_cons, ex_tup, ex_lst, ex_call, ex_callP, ex_cb, ex_bm, ex_rep, ex_sl, ex_noPart, ex_part, ex_yes, it_items, it_rng1, it_rng2, tg_name, tg_sub, tg_tup, tg_cons, tg_nil, gs_0, gs_s, ss_0, ss_s, op_ii, op_ss, op_tt, op_mm, op_sb, op_ng, op_iNf, op_iNt, op_lle, op_ixT, op_ixR, op_ixL, op_putE, op_appE, it_tupE, it_rolE, it_refE, lstOf_l, exL, asS_some, asI_int, asB_bl, asL_some, asN_some, ite3_t, ite3_f, bl_1, bl_lenT, bl_lenR, bl_lenL, bl_lenS, bl_tuple, bl_list, bl_abs, bl_intI, bl_intB, bl_max, bl_min, op_eqSf, op_eqSt, op_eqIf, op_eqIt, op_eqTf, op_eqTt, op_eqRf, op_eqRt, op_eqNf, op_eqNt, eqD_int, eqD_nil, pl_int, pl_nil, pl_non, pl_rnil, pl_bl, sl_tupE, sl_rolE, keep_ref, keep_tup, keep_rol, tp_int, tp_tup, tp_rol, tp_str, tp_bl, tp_non, tp_ref, oFd, oMd, oPw, oShl, oLt, oLe, oGt, oGe, op_in, op_cp, wipe_nil, wipe_cons, mset_same, true_and, and_true, isN_int, ex_lstF, ex_repF, ex_lgF1, ex_lgF2, ex_tupRg1, ex_tupRg2, ex_frz, ex_slF, ex_slM, sl_tupF, sl_rolF, op_iiF, op_ssF, op_ttF, op_rrF, op_rrM, op_mmF, op_repF, li_rol, li_ref, bl_listF, bl_allF, bl_anyF, asT_some, asJ_some, op_eqBf, op_eqBt, isN_non, Bool.not_true, Bool.not_false, rep2]
  refine ⟨mul2, ?_⟩
  try dsimp only
  rw [st_seq, st_set]
  simp only [ex_c, ex_var, ex_op, ex_un, ex_b, ex_and, ex_or, ex_not, ex_andV, ex_orV, ex_notV, ex_if, ex_chain, ex_nil, ex_cons, ex_tup, ex_lst, ex_call, ex_callP, ex_cb, ex_bm, ex_rep, ex_sl, ex_noPart, ex_part, ex_yes, it_items, it_rng1, it_rng2, tg_name, tg_sub, tg_tup, tg_cons, tg_nil, gs_0, gs_s, ss_0, ss_s, op_ii, op_ss, op_tt, op_mm, op_sb, op_ng, op_iNf, op_iNt, op_lle, op_ixT, op_ixR, op_ixL, op_putE, op_appE, it_tupE, it_rolE, it_refE, lstOf_l, exL, asS_some, asI_int, asB_bl, asL_some, asN_some, ite3_t, ite3_f, bl_1, bl_lenT, bl_lenR, bl_lenL, bl_lenS, bl_tuple, bl_list, bl_abs, bl_intI, bl_intB, bl_max, bl_min, op_eqSf, op_eqSt, op_eqIf, op_eqIt, op_eqTf, op_eqTt, op_eqRf, op_eqRt, op_eqNf, op_eqNt, eqD_int, eqD_nil, pl_int, pl_nil, pl_non, pl_rnil, pl_bl, sl_tupE, sl_rolE, keep_ref, keep_tup, keep_rol, tp_int, tp_tup, tp_rol, tp_str, tp_bl, tp_non, tp_ref, oFd, oMd, oPw, oShl, oLt, oLe, oGt, oGe, op_in, op_cp, wipe_nil, wipe_cons, mset_same, true_and, and_true, isN_int, ex_lstF, ex_repF, ex_lgF1, ex_lgF2, ex_tupRg1, ex_tupRg2, ex_frz, ex_slF, ex_slM, sl_tupF, sl_rolF, op_iiF, op_ssF, op_ttF, op_rrF, op_rrM, op_mmF, op_repF, li_rol, li_ref, bl_listF, bl_allF, bl_anyF, asT_some, asJ_some, op_eqBf, op_eqBt, isN_non, Bool.not_true, Bool.not_false, rep2, ex_dnewT]
  intro d hd
  have hda : d ≠ a := f.ne hd
  have g0 : D59 a d (2 * w + 1) b 0 (mset M d (.dT [])) [] (emptyT (2 * w + 1)) := ⟨f.put hda, mset_same, .empty, .empty, .empty, Nat.le_refl _⟩
  generalize mset M d (.dT []) = M1 at g0
  have en : ((2 * w + 1 : Nat) : Int) = 2 * (w : Int) + 1 := by omega
  try dsimp only
  rw [st_seq, st_for]
  simp only [ex_c, ex_var, ex_op, ex_un, ex_b, ex_and, ex_or, ex_not, ex_andV, ex_orV, ex_notV, ex_if, ex_chain, ex_nil, ex_cons, ex_tup, ex_lst, ex_call, ex_callP, ex_cb, ex_bm, ex_rep, ex_sl, ex_noPart, ex_part, ex_yes, it_items, it_rng1, it_rng2, tg_name, tg_sub, tg_tup, tg_cons, tg_nil, gs_0, gs_s, ss_0, ss_s, op_ii, op_ss, op_tt, op_mm, op_sb, op_ng, op_iNf, op_iNt, op_lle, op_ixT, op_ixR, op_ixL, op_putE, op_appE, it_tupE, it_rolE, it_refE, lstOf_l, exL, asS_some, asI_int, asB_bl, asL_some, asN_some, ite3_t, ite3_f, bl_1, bl_lenT, bl_lenR, bl_lenL, bl_lenS, bl_tuple, bl_list, bl_abs, bl_intI, bl_intB, bl_max, bl_min, op_eqSf, op_eqSt, op_eqIf, op_eqIt, op_eqTf, op_eqTt, op_eqRf, op_eqRt, op_eqNf, op_eqNt, eqD_int, eqD_nil, pl_int, pl_nil, pl_non, pl_rnil, pl_bl, sl_tupE, sl_rolE, keep_ref, keep_tup, keep_rol, tp_int, tp_tup, tp_rol, tp_str, tp_bl, tp_non, tp_ref, oFd, oMd, oPw, oShl, oLt, oLe, oGt, oGe, op_in, op_cp, wipe_nil, wipe_cons, mset_same, true_and, and_true, isN_int, ex_lstF, ex_repF, ex_lgF1, ex_lgF2, ex_tupRg1, ex_tupRg2, ex_frz, ex_slF, ex_slM, sl_tupF, sl_rolF, op_iiF, op_ssF, op_ttF, op_rrF, op_rrM, op_mmF, op_repF, li_rol, li_ref, bl_listF, bl_allF, bl_anyF, asT_some, asJ_some, op_eqBf, op_eqBt, isN_non, Bool.not_true, Bool.not_false, rep2]
  refine ⟨by omega, by omega, ?_⟩
  rw [Int.toNat_natCast]
  refine for_rg (fun i τ M' => i ≤ w ∧ (∃ l T, D59 a d (2 * w + 1) (b + 3 * i) (2 * i) M' l T) ∧ ∃ x4 x5 x6 x7, τ = [some (.ref a), some (.int w), some (.int (2 * (w : Int) + 1)), some (.ref d), x4, x5, x6, x7, none, none, none]) ?_ ?_ ⟨Nat.zero_le _, ⟨_, _, g0⟩, _, _, _, _, rfl⟩
  · rintro i τ M2 hi ⟨_, ⟨l, T, g⟩, x4, x5, x6, x7, rfl⟩ X hX
    rw [tg_name, st_seq, st_par3E]
    simp only [ex_c, ex_var, ex_op, ex_un, ex_b, ex_and, ex_or, ex_not, ex_andV, ex_orV, ex_notV, ex_if, ex_chain, ex_nil, ex_cons, ex_tup, ex_lst, ex_call, ex_callP, ex_cb, ex_bm, ex_rep, ex_sl, ex_noPart, ex_part, ex_yes, it_items, it_rng1, it_rng2, tg_name, tg_sub, tg_tup, tg_cons, tg_nil, gs_0, gs_s, ss_0, ss_s, op_ii, op_ss, op_tt, op_mm, op_sb, op_ng, op_iNf, op_iNt, op_lle, op_ixT, op_ixR, op_ixL, op_putE, op_appE, it_tupE, it_rolE, it_refE, lstOf_l, exL, asS_some, asI_int, asB_bl, asL_some, asN_some, ite3_t, ite3_f, bl_1, bl_lenT, bl_lenR, bl_lenL, bl_lenS, bl_tuple, bl_list, bl_abs, bl_intI, bl_intB, bl_max, bl_min, op_eqSf, op_eqSt, op_eqIf, op_eqIt, op_eqTf, op_eqTt, op_eqRf, op_eqRt, op_eqNf, op_eqNt, eqD_int, eqD_nil, pl_int, pl_nil, pl_non, pl_rnil, pl_bl, sl_tupE, sl_rolE, keep_ref, keep_tup, keep_rol, tp_int, tp_tup, tp_rol, tp_str, tp_bl, tp_non, tp_ref, oFd, oMd, oPw, oShl, oLt, oLe, oGt, oGe, op_in, op_cp, wipe_nil, wipe_cons, mset_same, true_and, and_true, isN_int, ex_lstF, ex_repF, ex_lgF1, ex_lgF2, ex_tupRg1, ex_tupRg2, ex_frz, ex_slF, ex_slM, sl_tupF, sl_rolF, op_iiF, op_ssF, op_ttF, op_rrF, op_rrM, op_mmF, op_repF, li_rol, li_ref, bl_listF, bl_allF, bl_anyF, asT_some, asJ_some, op_eqBf, op_eqBt, isN_non, Bool.not_true, Bool.not_false, rep2]
    refine k1 _ (b + 3 * i) _ _ _ _ g.f (by omega) (by decide) (by decide) fun kd M3 c0 c1 f3 o3 => ?_
    have g3 := g.only hda f3 o3
    (try simp only [ex_c, ex_var, ex_op, ex_un, ex_b, ex_and, ex_or, ex_not, ex_andV, ex_orV, ex_notV, ex_if, ex_chain, ex_nil, ex_cons, ex_tup, ex_lst, ex_call, ex_callP, ex_cb, ex_bm, ex_rep, ex_sl, ex_noPart, ex_part, ex_yes, it_items, it_rng1, it_rng2, tg_name, tg_sub, tg_tup, tg_cons, tg_nil, gs_0, gs_s, ss_0, ss_s, op_ii, op_ss, op_tt, op_mm, op_sb, op_ng, op_iNf, op_iNt, op_lle, op_ixT, op_ixR, op_ixL, op_putE, op_appE, it_tupE, it_rolE, it_refE, lstOf_l, exL, asS_some, asI_int, asB_bl, asL_some, asN_some, ite3_t, ite3_f, bl_1, bl_lenT, bl_lenR, bl_lenL, bl_lenS, bl_tuple, bl_list, bl_abs, bl_intI, bl_intB, bl_max, bl_min, op_eqSf, op_eqSt, op_eqIf, op_eqIt, op_eqTf, op_eqTt, op_eqRf, op_eqRt, op_eqNf, op_eqNt, eqD_int, eqD_nil, pl_int, pl_nil, pl_non, pl_rnil, pl_bl, sl_tupE, sl_rolE, keep_ref, keep_tup, keep_rol, tp_int, tp_tup, tp_rol, tp_str, tp_bl, tp_non, tp_ref, oFd, oMd, oPw, oShl, oLt, oLe, oGt, oGe, op_in, op_cp, wipe_nil, wipe_cons, mset_same, true_and, and_true, isN_int, ex_lstF, ex_repF, ex_lgF1, ex_lgF2, ex_tupRg1, ex_tupRg2, ex_frz, ex_slF, ex_slM, sl_tupF, sl_rolF, op_iiF, op_ssF, op_ttF, op_rrF, op_rrM, op_mmF, op_repF, li_rol, li_ref, bl_listF, bl_allF, bl_anyF, asT_some, asJ_some, op_eqBf, op_eqBt, isN_non, Bool.not_true, Bool.not_false, rep2])
    refine k1 _ (b + 3 * i + 1) _ _ _ _ f3 (by omega) (by omega) (by omega) fun y M4 y0 y1 f4 o4 => ?_
    have g4 := g3.only hda f4 o4
    (try simp only [ex_c, ex_var, ex_op, ex_un, ex_b, ex_and, ex_or, ex_not, ex_andV, ex_orV, ex_notV, ex_if, ex_chain, ex_nil, ex_cons, ex_tup, ex_lst, ex_call, ex_callP, ex_cb, ex_bm, ex_rep, ex_sl, ex_noPart, ex_part, ex_yes, it_items, it_rng1, it_rng2, tg_name, tg_sub, tg_tup, tg_cons, tg_nil, gs_0, gs_s, ss_0, ss_s, op_ii, op_ss, op_tt, op_mm, op_sb, op_ng, op_iNf, op_iNt, op_lle, op_ixT, op_ixR, op_ixL, op_putE, op_appE, it_tupE, it_rolE, it_refE, lstOf_l, exL, asS_some, asI_int, asB_bl, asL_some, asN_some, ite3_t, ite3_f, bl_1, bl_lenT, bl_lenR, bl_lenL, bl_lenS, bl_tuple, bl_list, bl_abs, bl_intI, bl_intB, bl_max, bl_min, op_eqSf, op_eqSt, op_eqIf, op_eqIt, op_eqTf, op_eqTt, op_eqRf, op_eqRt, op_eqNf, op_eqNt, eqD_int, eqD_nil, pl_int, pl_nil, pl_non, pl_rnil, pl_bl, sl_tupE, sl_rolE, keep_ref, keep_tup, keep_rol, tp_int, tp_tup, tp_rol, tp_str, tp_bl, tp_non, tp_ref, oFd, oMd, oPw, oShl, oLt, oLe, oGt, oGe, op_in, op_cp, wipe_nil, wipe_cons, mset_same, true_and, and_true, isN_int, ex_lstF, ex_repF, ex_lgF1, ex_lgF2, ex_tupRg1, ex_tupRg2, ex_frz, ex_slF, ex_slM, sl_tupF, sl_rolF, op_iiF, op_ssF, op_ttF, op_rrF, op_rrM, op_mmF, op_repF, li_rol, li_ref, bl_listF, bl_allF, bl_anyF, asT_some, asJ_some, op_eqBf, op_eqBt, isN_non, Bool.not_true, Bool.not_false, rep2])
    refine k1 _ (b + 3 * i + 2) _ _ _ _ f4 (by omega) (by decide) (by decide) fun c M5 e0 e1 f5 o5 => ?_
    have g5 := (g4.only hda f5 o5).more (b' := b + 3 * (i + 1)) (c' := 2 * i) (by omega) (Nat.le_refl _)
    clear g g3 g4 f3 f4 f5 o3 o4 o5
    (try simp only [ex_c, ex_var, ex_op, ex_un, ex_b, ex_and, ex_or, ex_not, ex_andV, ex_orV, ex_notV, ex_if, ex_chain, ex_nil, ex_cons, ex_tup, ex_lst, ex_call, ex_callP, ex_cb, ex_bm, ex_rep, ex_sl, ex_noPart, ex_part, ex_yes, it_items, it_rng1, it_rng2, tg_name, tg_sub, tg_tup, tg_cons, tg_nil, gs_0, gs_s, ss_0, ss_s, op_ii, op_ss, op_tt, op_mm, op_sb, op_ng, op_iNf, op_iNt, op_lle, op_ixT, op_ixR, op_ixL, op_putE, op_appE, it_tupE, it_rolE, it_refE, lstOf_l, exL, asS_some, asI_int, asB_bl, asL_some, asN_some, ite3_t, ite3_f, bl_1, bl_lenT, bl_lenR, bl_lenL, bl_lenS, bl_tuple, bl_list, bl_abs, bl_intI, bl_intB, bl_max, bl_min, op_eqSf, op_eqSt, op_eqIf, op_eqIt, op_eqTf, op_eqTt, op_eqRf, op_eqRt, op_eqNf, op_eqNt, eqD_int, eqD_nil, pl_int, pl_nil, pl_non, pl_rnil, pl_bl, sl_tupE, sl_rolE, keep_ref, keep_tup, keep_rol, tp_int, tp_tup, tp_rol, tp_str, tp_bl, tp_non, tp_ref, oFd, oMd, oPw, oShl, oLt, oLe, oGt, oGe, op_in, op_cp, wipe_nil, wipe_cons, mset_same, true_and, and_true, isN_int, ex_lstF, ex_repF, ex_lgF1, ex_lgF2, ex_tupRg1, ex_tupRg2, ex_frz, ex_slF, ex_slM, sl_tupF, sl_rolF, op_iiF, op_ssF, op_ttF, op_rrF, op_rrM, op_mmF, op_repF, li_rol, li_ref, bl_listF, bl_allF, bl_anyF, asT_some, asJ_some, op_eqBf, op_eqBt, isN_non, Bool.not_true, Bool.not_false, rep2])
    try dsimp only
    have second : ∀ (K : Ends3) M6 l6 T6, K.nx = X → D59 a d (2 * w + 1) (b + 3 * (i + 1)) (2 * i + 1) M6 l6 T6 →
        wIfS (wB (wOp oLt (wVar 5) (wC (.int 3)))) (wAsg (wUn oNeg (wVar 7)) (wgSubT (wVar 3) (wCons (wVar 6) (wCons (wOp oAddF (wVar 1) (wVar 4)) wNil)))) wNext K
          [some (.ref a), some (.int w), some (.int (2 * (w : Int) + 1)), some (.ref d), some (.int (0 + (i : Int))), some (.int kd), some (.int y), some (.int (c - 2)), none, none, none] M6 := by
      intro K M6 l6 T6 hK g6
      rw [st_if]
      simp only [ex_c, ex_var, ex_op, ex_un, ex_b, ex_and, ex_or, ex_not, ex_andV, ex_orV, ex_notV, ex_if, ex_chain, ex_nil, ex_cons, ex_tup, ex_lst, ex_call, ex_callP, ex_cb, ex_bm, ex_rep, ex_sl, ex_noPart, ex_part, ex_yes, it_items, it_rng1, it_rng2, tg_name, tg_sub, tg_tup, tg_cons, tg_nil, gs_0, gs_s, ss_0, ss_s, op_ii, op_ss, op_tt, op_mm, op_sb, op_ng, op_iNf, op_iNt, op_lle, op_ixT, op_ixR, op_ixL, op_putE, op_appE, it_tupE, it_rolE, it_refE, lstOf_l, exL, asS_some, asI_int, asB_bl, asL_some, asN_some, ite3_t, ite3_f, bl_1, bl_lenT, bl_lenR, bl_lenL, bl_lenS, bl_tuple, bl_list, bl_abs, bl_intI, bl_intB, bl_max, bl_min, op_eqSf, op_eqSt, op_eqIf, op_eqIt, op_eqTf, op_eqTt, op_eqRf, op_eqRt, op_eqNf, op_eqNt, eqD_int, eqD_nil, pl_int, pl_nil, pl_non, pl_rnil, pl_bl, sl_tupE, sl_rolE, keep_ref, keep_tup, keep_rol, tp_int, tp_tup, tp_rol, tp_str, tp_bl, tp_non, tp_ref, oFd, oMd, oPw, oShl, oLt, oLe, oGt, oGe, op_in, op_cp, wipe_nil, wipe_cons, mset_same, true_and, and_true, isN_int, ex_lstF, ex_repF, ex_lgF1, ex_lgF2, ex_tupRg1, ex_tupRg2, ex_frz, ex_slF, ex_slM, sl_tupF, sl_rolF, op_iiF, op_ssF, op_ttF, op_rrF, op_rrM, op_mmF, op_repF, li_rol, li_ref, bl_listF, bl_allF, bl_anyF, asT_some, asJ_some, op_eqBf, op_eqBt, isN_non, Bool.not_true, Bool.not_false, rep2]
      refine ite3_by (fun h => ?_) (fun h => ?_)
      · rw [st_asg]
        simp only [ex_c, ex_var, ex_op, ex_un, ex_b, ex_and, ex_or, ex_not, ex_andV, ex_orV, ex_notV, ex_if, ex_chain, ex_nil, ex_cons, ex_tup, ex_lst, ex_call, ex_callP, ex_cb, ex_bm, ex_rep, ex_sl, ex_noPart, ex_part, ex_yes, it_items, it_rng1, it_rng2, tg_name, tg_sub, tg_tup, tg_cons, tg_nil, gs_0, gs_s, ss_0, ss_s, op_ii, op_ss, op_tt, op_mm, op_sb, op_ng, op_iNf, op_iNt, op_lle, op_ixT, op_ixR, op_ixL, op_putE, op_appE, it_tupE, it_rolE, it_refE, lstOf_l, exL, asS_some, asI_int, asB_bl, asL_some, asN_some, ite3_t, ite3_f, bl_1, bl_lenT, bl_lenR, bl_lenL, bl_lenS, bl_tuple, bl_list, bl_abs, bl_intI, bl_intB, bl_max, bl_min, op_eqSf, op_eqSt, op_eqIf, op_eqIt, op_eqTf, op_eqTt, op_eqRf, op_eqRt, op_eqNf, op_eqNt, eqD_int, eqD_nil, pl_int, pl_nil, pl_non, pl_rnil, pl_bl, sl_tupE, sl_rolE, keep_ref, keep_tup, keep_rol, tp_int, tp_tup, tp_rol, tp_str, tp_bl, tp_non, tp_ref, oFd, oMd, oPw, oShl, oLt, oLe, oGt, oGe, op_in, op_cp, wipe_nil, wipe_cons, mset_same, true_and, and_true, isN_int, ex_lstF, ex_repF, ex_lgF1, ex_lgF2, ex_tupRg1, ex_tupRg2, ex_frz, ex_slF, ex_slM, sl_tupF, sl_rolF, op_iiF, op_ssF, op_ttF, op_rrF, op_rrM, op_mmF, op_repF, li_rol, li_ref, bl_listF, bl_allF, bl_anyF, asT_some, asJ_some, op_eqBf, op_eqBt, isN_non, Bool.not_true, Bool.not_false, rep2, ex_un, op_ng]
        refine g6.asg hda (by omega) (i := y) (j := (w : Int) + (0 + (i : Int))) y0 (by omega) (by omega) (by omega) (by omega) (fun _ _ => rfl) (fun _ _ => rfl) (fun _ _ => rfl) fun M' l' T' g' => ?_
        rw [hK]
        exact hX _ _ ⟨by omega, ⟨_, _, g'.more (Nat.le_refl _) (by omega)⟩, _, _, _, _, rfl⟩
      · rw [st_next, hK]
        exact hX _ _ ⟨by omega, ⟨_, _, g6.more (Nat.le_refl _) (by omega)⟩, _, _, _, _, rfl⟩
    rw [st_seq, st_if]
    simp only [ex_c, ex_var, ex_op, ex_un, ex_b, ex_and, ex_or, ex_not, ex_andV, ex_orV, ex_notV, ex_if, ex_chain, ex_nil, ex_cons, ex_tup, ex_lst, ex_call, ex_callP, ex_cb, ex_bm, ex_rep, ex_sl, ex_noPart, ex_part, ex_yes, it_items, it_rng1, it_rng2, tg_name, tg_sub, tg_tup, tg_cons, tg_nil, gs_0, gs_s, ss_0, ss_s, op_ii, op_ss, op_tt, op_mm, op_sb, op_ng, op_iNf, op_iNt, op_lle, op_ixT, op_ixR, op_ixL, op_putE, op_appE, it_tupE, it_rolE, it_refE, lstOf_l, exL, asS_some, asI_int, asB_bl, asL_some, asN_some, ite3_t, ite3_f, bl_1, bl_lenT, bl_lenR, bl_lenL, bl_lenS, bl_tuple, bl_list, bl_abs, bl_intI, bl_intB, bl_max, bl_min, op_eqSf, op_eqSt, op_eqIf, op_eqIt, op_eqTf, op_eqTt, op_eqRf, op_eqRt, op_eqNf, op_eqNt, eqD_int, eqD_nil, pl_int, pl_nil, pl_non, pl_rnil, pl_bl, sl_tupE, sl_rolE, keep_ref, keep_tup, keep_rol, tp_int, tp_tup, tp_rol, tp_str, tp_bl, tp_non, tp_ref, oFd, oMd, oPw, oShl, oLt, oLe, oGt, oGe, op_in, op_cp, wipe_nil, wipe_cons, mset_same, true_and, and_true, isN_int, ex_lstF, ex_repF, ex_lgF1, ex_lgF2, ex_tupRg1, ex_tupRg2, ex_frz, ex_slF, ex_slM, sl_tupF, sl_rolF, op_iiF, op_ssF, op_ttF, op_rrF, op_rrM, op_mmF, op_repF, li_rol, li_ref, bl_listF, bl_allF, bl_anyF, asT_some, asJ_some, op_eqBf, op_eqBt, isN_non, Bool.not_true, Bool.not_false, rep2]
    refine ite3_by (fun h => ?_) (fun h => ?_)
    · rw [st_asg]
      simp only [ex_c, ex_var, ex_op, ex_un, ex_b, ex_and, ex_or, ex_not, ex_andV, ex_orV, ex_notV, ex_if, ex_chain, ex_nil, ex_cons, ex_tup, ex_lst, ex_call, ex_callP, ex_cb, ex_bm, ex_rep, ex_sl, ex_noPart, ex_part, ex_yes, it_items, it_rng1, it_rng2, tg_name, tg_sub, tg_tup, tg_cons, tg_nil, gs_0, gs_s, ss_0, ss_s, op_ii, op_ss, op_tt, op_mm, op_sb, op_ng, op_iNf, op_iNt, op_lle, op_ixT, op_ixR, op_ixL, op_putE, op_appE, it_tupE, it_rolE, it_refE, lstOf_l, exL, asS_some, asI_int, asB_bl, asL_some, asN_some, ite3_t, ite3_f, bl_1, bl_lenT, bl_lenR, bl_lenL, bl_lenS, bl_tuple, bl_list, bl_abs, bl_intI, bl_intB, bl_max, bl_min, op_eqSf, op_eqSt, op_eqIf, op_eqIt, op_eqTf, op_eqTt, op_eqRf, op_eqRt, op_eqNf, op_eqNt, eqD_int, eqD_nil, pl_int, pl_nil, pl_non, pl_rnil, pl_bl, sl_tupE, sl_rolE, keep_ref, keep_tup, keep_rol, tp_int, tp_tup, tp_rol, tp_str, tp_bl, tp_non, tp_ref, oFd, oMd, oPw, oShl, oLt, oLe, oGt, oGe, op_in, op_cp, wipe_nil, wipe_cons, mset_same, true_and, and_true, isN_int, ex_lstF, ex_repF, ex_lgF1, ex_lgF2, ex_tupRg1, ex_tupRg2, ex_frz, ex_slF, ex_slM, sl_tupF, sl_rolF, op_iiF, op_ssF, op_ttF, op_rrF, op_rrM, op_mmF, op_repF, li_rol, li_ref, bl_listF, bl_allF, bl_anyF, asT_some, asJ_some, op_eqBf, op_eqBt, isN_non, Bool.not_true, Bool.not_false, rep2]
      refine g5.asg hda (by omega) (i := (w : Int) + (0 + (i : Int))) (j := y) (by omega) (by omega) y0 (by omega) (by omega) (fun _ _ => rfl) (fun _ _ => rfl) (fun _ _ => rfl) fun M' l' T' g' => ?_
      exact second _ _ _ _ rfl g'
    · rw [st_next]
      exact second _ _ _ _ rfl (g5.more (Nat.le_refl _) (by omega))
  · rintro τ M2 ⟨_, ⟨l, T, g⟩, x4, x5, x6, x7, rfl⟩
    try dsimp only
    rw [st_seq, st_for]
    simp only [ex_c, ex_var, ex_op, ex_un, ex_b, ex_and, ex_or, ex_not, ex_andV, ex_orV, ex_notV, ex_if, ex_chain, ex_nil, ex_cons, ex_tup, ex_lst, ex_call, ex_callP, ex_cb, ex_bm, ex_rep, ex_sl, ex_noPart, ex_part, ex_yes, it_items, it_rng1, it_rng2, tg_name, tg_sub, tg_tup, tg_cons, tg_nil, gs_0, gs_s, ss_0, ss_s, op_ii, op_ss, op_tt, op_mm, op_sb, op_ng, op_iNf, op_iNt, op_lle, op_ixT, op_ixR, op_ixL, op_putE, op_appE, it_tupE, it_rolE, it_refE, lstOf_l, exL, asS_some, asI_int, asB_bl, asL_some, asN_some, ite3_t, ite3_f, bl_1, bl_lenT, bl_lenR, bl_lenL, bl_lenS, bl_tuple, bl_list, bl_abs, bl_intI, bl_intB, bl_max, bl_min, op_eqSf, op_eqSt, op_eqIf, op_eqIt, op_eqTf, op_eqTt, op_eqRf, op_eqRt, op_eqNf, op_eqNt, eqD_int, eqD_nil, pl_int, pl_nil, pl_non, pl_rnil, pl_bl, sl_tupE, sl_rolE, keep_ref, keep_tup, keep_rol, tp_int, tp_tup, tp_rol, tp_str, tp_bl, tp_non, tp_ref, oFd, oMd, oPw, oShl, oLt, oLe, oGt, oGe, op_in, op_cp, wipe_nil, wipe_cons, mset_same, true_and, and_true, isN_int, ex_lstF, ex_repF, ex_lgF1, ex_lgF2, ex_tupRg1, ex_tupRg2, ex_frz, ex_slF, ex_slM, sl_tupF, sl_rolF, op_iiF, op_ssF, op_ttF, op_rrF, op_rrM, op_mmF, op_repF, li_rol, li_ref, bl_listF, bl_allF, bl_anyF, asT_some, asJ_some, op_eqBf, op_eqBt, isN_non, Bool.not_true, Bool.not_false, rep2]
    refine k1 _ (b + 3 * w) _ _ _ _ g.f (by omega) (by decide) (by decide) fun r M3 r0 r1 f3 o3 => ?_
    have g3 := g.only hda f3 o3
    simp only [ex_c, ex_var, ex_op, ex_un, ex_b, ex_and, ex_or, ex_not, ex_andV, ex_orV, ex_notV, ex_if, ex_chain, ex_nil, ex_cons, ex_tup, ex_lst, ex_call, ex_callP, ex_cb, ex_bm, ex_rep, ex_sl, ex_noPart, ex_part, ex_yes, it_items, it_rng1, it_rng2, tg_name, tg_sub, tg_tup, tg_cons, tg_nil, gs_0, gs_s, ss_0, ss_s, op_ii, op_ss, op_tt, op_mm, op_sb, op_ng, op_iNf, op_iNt, op_lle, op_ixT, op_ixR, op_ixL, op_putE, op_appE, it_tupE, it_rolE, it_refE, lstOf_l, exL, asS_some, asI_int, asB_bl, asL_some, asN_some, ite3_t, ite3_f, bl_1, bl_lenT, bl_lenR, bl_lenL, bl_lenS, bl_tuple, bl_list, bl_abs, bl_intI, bl_intB, bl_max, bl_min, op_eqSf, op_eqSt, op_eqIf, op_eqIt, op_eqTf, op_eqTt, op_eqRf, op_eqRt, op_eqNf, op_eqNt, eqD_int, eqD_nil, pl_int, pl_nil, pl_non, pl_rnil, pl_bl, sl_tupE, sl_rolE, keep_ref, keep_tup, keep_rol, tp_int, tp_tup, tp_rol, tp_str, tp_bl, tp_non, tp_ref, oFd, oMd, oPw, oShl, oLt, oLe, oGt, oGe, op_in, op_cp, wipe_nil, wipe_cons, mset_same, true_and, and_true, isN_int, ex_lstF, ex_repF, ex_lgF1, ex_lgF2, ex_tupRg1, ex_tupRg2, ex_frz, ex_slF, ex_slM, sl_tupF, sl_rolF, op_iiF, op_ssF, op_ttF, op_rrF, op_rrM, op_mmF, op_repF, li_rol, li_ref, bl_listF, bl_allF, bl_anyF, asT_some, asJ_some, op_eqBf, op_eqBt, isN_non, Bool.not_true, Bool.not_false, rep2]
    refine ⟨by omega, by omega, ?_⟩
    refine for_rg (fun i τ M' => i ≤ r.toNat ∧ (∃ l T, D59 a d (2 * w + 1) (b + 3 * w + 1 + 3 * i) (2 * w + i) M' l T) ∧ ∃ x8 x9 x10, τ = [some (.ref a), some (.int w), some (.int (2 * (w : Int) + 1)), some (.ref d), x4, x5, x6, x7, x8, x9, x10]) ?_ ?_ ⟨Nat.zero_le _, ⟨_, _, g3⟩, _, _, _, rfl⟩
    · rintro i τ M4 hi ⟨_, ⟨l, T, g⟩, x8, x9, x10, rfl⟩ X hX
      rw [tg_name, st_seq, st_parE (d := .non) (e := .non)]
      simp only [ex_c, ex_var, ex_op, ex_un, ex_b, ex_and, ex_or, ex_not, ex_andV, ex_orV, ex_notV, ex_if, ex_chain, ex_nil, ex_cons, ex_tup, ex_lst, ex_call, ex_callP, ex_cb, ex_bm, ex_rep, ex_sl, ex_noPart, ex_part, ex_yes, it_items, it_rng1, it_rng2, tg_name, tg_sub, tg_tup, tg_cons, tg_nil, gs_0, gs_s, ss_0, ss_s, op_ii, op_ss, op_tt, op_mm, op_sb, op_ng, op_iNf, op_iNt, op_lle, op_ixT, op_ixR, op_ixL, op_putE, op_appE, it_tupE, it_rolE, it_refE, lstOf_l, exL, asS_some, asI_int, asB_bl, asL_some, asN_some, ite3_t, ite3_f, bl_1, bl_lenT, bl_lenR, bl_lenL, bl_lenS, bl_tuple, bl_list, bl_abs, bl_intI, bl_intB, bl_max, bl_min, op_eqSf, op_eqSt, op_eqIf, op_eqIt, op_eqTf, op_eqTt, op_eqRf, op_eqRt, op_eqNf, op_eqNt, eqD_int, eqD_nil, pl_int, pl_nil, pl_non, pl_rnil, pl_bl, sl_tupE, sl_rolE, keep_ref, keep_tup, keep_rol, tp_int, tp_tup, tp_rol, tp_str, tp_bl, tp_non, tp_ref, oFd, oMd, oPw, oShl, oLt, oLe, oGt, oGe, op_in, op_cp, wipe_nil, wipe_cons, mset_same, true_and, and_true, isN_int, ex_lstF, ex_repF, ex_lgF1, ex_lgF2, ex_tupRg1, ex_tupRg2, ex_frz, ex_slF, ex_slM, sl_tupF, sl_rolF, op_iiF, op_ssF, op_ttF, op_rrF, op_rrM, op_mmF, op_repF, li_rol, li_ref, bl_listF, bl_allF, bl_anyF, asT_some, asJ_some, op_eqBf, op_eqBt, isN_non, Bool.not_true, Bool.not_false, rep2]
      refine k1 _ (b + 3 * w + 1 + 3 * i) _ _ _ _ g.f (by omega) (by omega) (by omega) fun p M5 p0 p1 f5 o5 => ?_
      have g5 := g.only hda f5 o5
      (try simp only [ex_c, ex_var, ex_op, ex_un, ex_b, ex_and, ex_or, ex_not, ex_andV, ex_orV, ex_notV, ex_if, ex_chain, ex_nil, ex_cons, ex_tup, ex_lst, ex_call, ex_callP, ex_cb, ex_bm, ex_rep, ex_sl, ex_noPart, ex_part, ex_yes, it_items, it_rng1, it_rng2, tg_name, tg_sub, tg_tup, tg_cons, tg_nil, gs_0, gs_s, ss_0, ss_s, op_ii, op_ss, op_tt, op_mm, op_sb, op_ng, op_iNf, op_iNt, op_lle, op_ixT, op_ixR, op_ixL, op_putE, op_appE, it_tupE, it_rolE, it_refE, lstOf_l, exL, asS_some, asI_int, asB_bl, asL_some, asN_some, ite3_t, ite3_f, bl_1, bl_lenT, bl_lenR, bl_lenL, bl_lenS, bl_tuple, bl_list, bl_abs, bl_intI, bl_intB, bl_max, bl_min, op_eqSf, op_eqSt, op_eqIf, op_eqIt, op_eqTf, op_eqTt, op_eqRf, op_eqRt, op_eqNf, op_eqNt, eqD_int, eqD_nil, pl_int, pl_nil, pl_non, pl_rnil, pl_bl, sl_tupE, sl_rolE, keep_ref, keep_tup, keep_rol, tp_int, tp_tup, tp_rol, tp_str, tp_bl, tp_non, tp_ref, oFd, oMd, oPw, oShl, oLt, oLe, oGt, oGe, op_in, op_cp, wipe_nil, wipe_cons, mset_same, true_and, and_true, isN_int, ex_lstF, ex_repF, ex_lgF1, ex_lgF2, ex_tupRg1, ex_tupRg2, ex_frz, ex_slF, ex_slM, sl_tupF, sl_rolF, op_iiF, op_ssF, op_ttF, op_rrF, op_rrM, op_mmF, op_repF, li_rol, li_ref, bl_listF, bl_allF, bl_anyF, asT_some, asJ_some, op_eqBf, op_eqBt, isN_non, Bool.not_true, Bool.not_false, rep2])
      refine k1 _ (b + 3 * w + 1 + 3 * i + 1) _ _ _ _ f5 (by omega) (by omega) (by omega) fun y M6 y0 y1 f6 o6 => ?_
      have g6 := g5.only hda f6 o6
      (try simp only [ex_c, ex_var, ex_op, ex_un, ex_b, ex_and, ex_or, ex_not, ex_andV, ex_orV, ex_notV, ex_if, ex_chain, ex_nil, ex_cons, ex_tup, ex_lst, ex_call, ex_callP, ex_cb, ex_bm, ex_rep, ex_sl, ex_noPart, ex_part, ex_yes, it_items, it_rng1, it_rng2, tg_name, tg_sub, tg_tup, tg_cons, tg_nil, gs_0, gs_s, ss_0, ss_s, op_ii, op_ss, op_tt, op_mm, op_sb, op_ng, op_iNf, op_iNt, op_lle, op_ixT, op_ixR, op_ixL, op_putE, op_appE, it_tupE, it_rolE, it_refE, lstOf_l, exL, asS_some, asI_int, asB_bl, asL_some, asN_some, ite3_t, ite3_f, bl_1, bl_lenT, bl_lenR, bl_lenL, bl_lenS, bl_tuple, bl_list, bl_abs, bl_intI, bl_intB, bl_max, bl_min, op_eqSf, op_eqSt, op_eqIf, op_eqIt, op_eqTf, op_eqTt, op_eqRf, op_eqRt, op_eqNf, op_eqNt, eqD_int, eqD_nil, pl_int, pl_nil, pl_non, pl_rnil, pl_bl, sl_tupE, sl_rolE, keep_ref, keep_tup, keep_rol, tp_int, tp_tup, tp_rol, tp_str, tp_bl, tp_non, tp_ref, oFd, oMd, oPw, oShl, oLt, oLe, oGt, oGe, op_in, op_cp, wipe_nil, wipe_cons, mset_same, true_and, and_true, isN_int, ex_lstF, ex_repF, ex_lgF1, ex_lgF2, ex_tupRg1, ex_tupRg2, ex_frz, ex_slF, ex_slM, sl_tupF, sl_rolF, op_iiF, op_ssF, op_ttF, op_rrF, op_rrM, op_mmF, op_repF, li_rol, li_ref, bl_listF, bl_allF, bl_anyF, asT_some, asJ_some, op_eqBf, op_eqBt, isN_non, Bool.not_true, Bool.not_false, rep2])
      try dsimp only
      rw [st_asg]
      simp only [ex_c, ex_var, ex_op, ex_un, ex_b, ex_and, ex_or, ex_not, ex_andV, ex_orV, ex_notV, ex_if, ex_chain, ex_nil, ex_cons, ex_tup, ex_lst, ex_call, ex_callP, ex_cb, ex_bm, ex_rep, ex_sl, ex_noPart, ex_part, ex_yes, it_items, it_rng1, it_rng2, tg_name, tg_sub, tg_tup, tg_cons, tg_nil, gs_0, gs_s, ss_0, ss_s, op_ii, op_ss, op_tt, op_mm, op_sb, op_ng, op_iNf, op_iNt, op_lle, op_ixT, op_ixR, op_ixL, op_putE, op_appE, it_tupE, it_rolE, it_refE, lstOf_l, exL, asS_some, asI_int, asB_bl, asL_some, asN_some, ite3_t, ite3_f, bl_1, bl_lenT, bl_lenR, bl_lenL, bl_lenS, bl_tuple, bl_list, bl_abs, bl_intI, bl_intB, bl_max, bl_min, op_eqSf, op_eqSt, op_eqIf, op_eqIt, op_eqTf, op_eqTt, op_eqRf, op_eqRt, op_eqNf, op_eqNt, eqD_int, eqD_nil, pl_int, pl_nil, pl_non, pl_rnil, pl_bl, sl_tupE, sl_rolE, keep_ref, keep_tup, keep_rol, tp_int, tp_tup, tp_rol, tp_str, tp_bl, tp_non, tp_ref, oFd, oMd, oPw, oShl, oLt, oLe, oGt, oGe, op_in, op_cp, wipe_nil, wipe_cons, mset_same, true_and, and_true, isN_int, ex_lstF, ex_repF, ex_lgF1, ex_lgF2, ex_tupRg1, ex_tupRg2, ex_frz, ex_slF, ex_slM, sl_tupF, sl_rolF, op_iiF, op_ssF, op_ttF, op_rrF, op_rrM, op_mmF, op_repF, li_rol, li_ref, bl_listF, bl_allF, bl_anyF, asT_some, asJ_some, op_eqBf, op_eqBt, isN_non, Bool.not_true, Bool.not_false, rep2]
      refine k1 _ (b + 3 * w + 1 + 3 * i + 2) _ _ _ _ f6 (by omega) (by decide) (by decide) fun c M7 c0 c1 f7 o7 => ?_
      have g7 := (g6.only hda f7 o7).more (b' := b + 3 * w + 1 + 3 * (i + 1)) (c' := 2 * w + i) (by omega) (Nat.le_refl _)
      simp only [ex_c, ex_var, ex_op, ex_un, ex_b, ex_and, ex_or, ex_not, ex_andV, ex_orV, ex_notV, ex_if, ex_chain, ex_nil, ex_cons, ex_tup, ex_lst, ex_call, ex_callP, ex_cb, ex_bm, ex_rep, ex_sl, ex_noPart, ex_part, ex_yes, it_items, it_rng1, it_rng2, tg_name, tg_sub, tg_tup, tg_cons, tg_nil, gs_0, gs_s, ss_0, ss_s, op_ii, op_ss, op_tt, op_mm, op_sb, op_ng, op_iNf, op_iNt, op_lle, op_ixT, op_ixR, op_ixL, op_putE, op_appE, it_tupE, it_rolE, it_refE, lstOf_l, exL, asS_some, asI_int, asB_bl, asL_some, asN_some, ite3_t, ite3_f, bl_1, bl_lenT, bl_lenR, bl_lenL, bl_lenS, bl_tuple, bl_list, bl_abs, bl_intI, bl_intB, bl_max, bl_min, op_eqSf, op_eqSt, op_eqIf, op_eqIt, op_eqTf, op_eqTt, op_eqRf, op_eqRt, op_eqNf, op_eqNt, eqD_int, eqD_nil, pl_int, pl_nil, pl_non, pl_rnil, pl_bl, sl_tupE, sl_rolE, keep_ref, keep_tup, keep_rol, tp_int, tp_tup, tp_rol, tp_str, tp_bl, tp_non, tp_ref, oFd, oMd, oPw, oShl, oLt, oLe, oGt, oGe, op_in, op_cp, wipe_nil, wipe_cons, mset_same, true_and, and_true, isN_int, ex_lstF, ex_repF, ex_lgF1, ex_lgF2, ex_tupRg1, ex_tupRg2, ex_frz, ex_slF, ex_slM, sl_tupF, sl_rolF, op_iiF, op_ssF, op_ttF, op_rrF, op_rrM, op_mmF, op_repF, li_rol, li_ref, bl_listF, bl_allF, bl_anyF, asT_some, asJ_some, op_eqBf, op_eqBt, isN_non, Bool.not_true, Bool.not_false, rep2, eqD_int, pl_int, tp_int]
      have hz : ∃ z : Int, (if decide (p = y) = true then (1 : Int) else 0) = z ∧ 0 ≤ z ∧ z ≤ 1 := ⟨_, rfl, by split <;> decide, by split <;> decide⟩
      obtain ⟨z, hz, z0, z1⟩ := hz
      rw [hz]
      refine ⟨mulR (by decide) (by decide), ?_⟩
      refine g7.asg hda (by omega) (i := p) (j := y) p0 (by omega) y0 (by omega) (by omega) (fun _ _ => rfl) (fun _ _ => rfl) (fun _ _ => rfl) fun M' l' T' g' => ?_
      exact hX _ _ ⟨by omega, ⟨_, _, g'⟩, _, _, _, rfl⟩
    · rintro τ M4 ⟨_, ⟨l, T, g⟩, x8, x9, x10, rfl⟩
      try dsimp only
      rw [st_ret]
      simp only [ex_c, ex_var, ex_op, ex_un, ex_b, ex_and, ex_or, ex_not, ex_andV, ex_orV, ex_notV, ex_if, ex_chain, ex_nil, ex_cons, ex_tup, ex_lst, ex_call, ex_callP, ex_cb, ex_bm, ex_rep, ex_sl, ex_noPart, ex_part, ex_yes, it_items, it_rng1, it_rng2, tg_name, tg_sub, tg_tup, tg_cons, tg_nil, gs_0, gs_s, ss_0, ss_s, op_ii, op_ss, op_tt, op_mm, op_sb, op_ng, op_iNf, op_iNt, op_lle, op_ixT, op_ixR, op_ixL, op_putE, op_appE, it_tupE, it_rolE, it_refE, lstOf_l, exL, asS_some, asI_int, asB_bl, asL_some, asN_some, ite3_t, ite3_f, bl_1, bl_lenT, bl_lenR, bl_lenL, bl_lenS, bl_tuple, bl_list, bl_abs, bl_intI, bl_intB, bl_max, bl_min, op_eqSf, op_eqSt, op_eqIf, op_eqIt, op_eqTf, op_eqTt, op_eqRf, op_eqRt, op_eqNf, op_eqNt, eqD_int, eqD_nil, pl_int, pl_nil, pl_non, pl_rnil, pl_bl, sl_tupE, sl_rolE, keep_ref, keep_tup, keep_rol, tp_int, tp_tup, tp_rol, tp_str, tp_bl, tp_non, tp_ref, oFd, oMd, oPw, oShl, oLt, oLe, oGt, oGe, op_in, op_cp, wipe_nil, wipe_cons, mset_same, true_and, and_true, isN_int, ex_lstF, ex_repF, ex_lgF1, ex_lgF2, ex_tupRg1, ex_tupRg2, ex_frz, ex_slF, ex_slM, sl_tupF, sl_rolF, op_iiF, op_ssF, op_ttF, op_rrF, op_rrM, op_mmF, op_repF, li_rol, li_ref, bl_listF, bl_allF, bl_anyF, asT_some, asJ_some, op_eqBf, op_eqBt, isN_non, Bool.not_true, Bool.not_false, rep2]
      rw [← en]
      exact kt _ _ _ _ _ _ _ (by omega) g.hd g.hc g.sq (q _ _ (.of g.sq g.en) (g.f.mono (by omega)))
end L3
set_option Elab.async false
set_option linter.all false
set_option maxRecDepth 100000
set_option maxHeartbeats 4000000
namespace L3
open PySem PySem.Spec PyProof.Rows L2
def loos59R : XK3 → TS3 := fun E =>
  (wSeq (wSet 3 (wCB bList (wCons (wVar 2) wNil)))
  (wSeq (wFor (wRng1 (wCons (wOp oAddF (wVar 1) (wC (.int 1))) wNil)) (wgName 4) (wSeq (wSet 5 (wC (.bl false)))
  (wSeq (wFor (wItems (wVar 0)) (wgTupN 3 (wgCons (wgName 6) (wgCons (wgName 7) (wgCons (wgName 8) wgNil)))) (wIfS (wAnd (wB (wOp (oIsN true) (wOp oIx (wVar 3) (wVar 6)) (wC .non))) (wOr (wB (wOp (oIsN false) (wOp oIx (wVar 3) (wVar 7)) (wC .non))) (wB (wOp oLt (wOp oAddF (wOp oIx (wVar 3) (wVar 6)) (wVar 8)) (wOp oIx (wVar 3) (wVar 7)))))) (wSeq (wAsg (wOp oAddF (wOp oIx (wVar 3) (wVar 6)) (wVar 8)) (wgSub (wVar 3) (wVar 7) oPut))
  (wSet 5 (wC (.bl true)))) wNext))
  (wIfS (wNot (wB (wVar 5))) (wRet (wVar 3)) wNext))))
  (wRet (wC .non))))
def SLoos59 (sp : Sp3) : Prop := ∀ (n B : Nat) (ts : List Trip) (l0 : List Ed) (d : D) (M : Mp) (Q : VK3) (E : XK3), n ≤ 1000 → l0.length = n → TripsOk n B ts → items M d = some (l0.map oD) →
  (∀ c M' k, k ≤ n → loosN (ts.map edgeOf) l0 (k + 1) = loosN (ts.map edgeOf) l0 k → M' c = some (.lst ((loosN (ts.map edgeOf) l0 k).map oD)) → M c = none → Only c M M' → Q (.ref c) M') →
  (∀ c M', (∀ k, k ≤ n → loosN (ts.map edgeOf) l0 (k + 1) ≠ loosN (ts.map edgeOf) l0 k) → M c = none → Only c M M' → Q .non M') → sp [.rol (ts.map tripD), .int n, d] M Q E
theorem s_loos59 : SLoos59 (spOf 3 9 loos59R) := by
  refine fun n B ts l0 d M0' Q E hn1 hl0 hts hit q1 q2 => ⟨rfl, ?_⟩
  have big : (1000000 : Nat) ≤ sizeLine := by decide
  show loos59R E _ [some (.rol (ts.map tripD)), some (.int n), some d, none, none, none, none, none, none] M0'
  unfold loos59R
  rw [st_seq, st_set]
  simp only [ex_c, ex_var, ex_op, ex_un, ex_b, ex_and, ex_or, ex_not, ex_andV, ex_orV, ex_notV, ex_if, ex_chain, ex_nil, ex_cons, ex_tup, ex_lst, ex_call, ex_callP, ex_cb, ex_bm, ex_rep, ex_sl, ex_noPart, ex_part, ex_yes, it_items, it_rng1, it_rng2, tg_name, tg_sub, tg_tup, tg_cons, tg_nil, gs_0, gs_s, ss_0, ss_s, op_ii, op_ss, op_tt, op_mm, op_sb, op_ng, op_iNf, op_iNt, op_lle, op_ixT, op_ixR, op_ixL, op_putE, op_appE, it_tupE, it_rolE, it_refE, lstOf_l, exL, asS_some, asI_int, asB_bl, asL_some, asN_some, ite3_t, ite3_f, bl_1, bl_lenT, bl_lenR, bl_lenL, bl_lenS, bl_tuple, bl_list, bl_abs, bl_intI, bl_intB, bl_max, bl_min, op_eqSf, op_eqSt, op_eqIf, op_eqIt, op_eqTf, op_eqTt, op_eqRf, op_eqRt, op_eqNf, op_eqNt, eqD_int, eqD_nil, pl_int, pl_nil, pl_non, pl_rnil, pl_bl, sl_tupE, sl_rolE, keep_ref, keep_tup, keep_rol, tp_int, tp_tup, tp_rol, tp_str, tp_bl, tp_non, tp_ref, oFd, oMd, oPw, oShl, oLt, oLe, oGt, oGe, op_in, op_cp, wipe_nil, wipe_cons, mset_same, true_and, and_true, isN_int, ex_lstF, ex_repF, ex_lgF1, ex_lgF2, ex_tupRg1, ex_tupRg2, ex_frz, ex_slF, ex_slM, sl_tupF, sl_rolF, op_iiF, op_ssF, op_ttF, op_rrF, op_rrM, op_mmF, op_repF, li_rol, li_ref, bl_listF, bl_allF, bl_anyF, asT_some, asJ_some, op_eqBf, op_eqBt, isN_non, Bool.not_true, Bool.not_false, rep2, hit]
  intro c hc
  try dsimp only
  rw [st_seq, st_for]
  simp only [ex_c, ex_var, ex_op, ex_un, ex_b, ex_and, ex_or, ex_not, ex_andV, ex_orV, ex_notV, ex_if, ex_chain, ex_nil, ex_cons, ex_tup, ex_lst, ex_call, ex_callP, ex_cb, ex_bm, ex_rep, ex_sl, ex_noPart, ex_part, ex_yes, it_items, it_rng1, it_rng2, tg_name, tg_sub, tg_tup, tg_cons, tg_nil, gs_0, gs_s, ss_0, ss_s, op_ii, op_ss, op_tt, op_mm, op_sb, op_ng, op_iNf, op_iNt, op_lle, op_ixT, op_ixR, op_ixL, op_putE, op_appE, it_tupE, it_rolE, it_refE, lstOf_l, exL, asS_some, asI_int, asB_bl, asL_some, asN_some, ite3_t, ite3_f, bl_1, bl_lenT, bl_lenR, bl_lenL, bl_lenS, bl_tuple, bl_list, bl_abs, bl_intI, bl_intB, bl_max, bl_min, op_eqSf, op_eqSt, op_eqIf, op_eqIt, op_eqTf, op_eqTt, op_eqRf, op_eqRt, op_eqNf, op_eqNt, eqD_int, eqD_nil, pl_int, pl_nil, pl_non, pl_rnil, pl_bl, sl_tupE, sl_rolE, keep_ref, keep_tup, keep_rol, tp_int, tp_tup, tp_rol, tp_str, tp_bl, tp_non, tp_ref, oFd, oMd, oPw, oShl, oLt, oLe, oGt, oGe, op_in, op_cp, wipe_nil, wipe_cons, mset_same, true_and, and_true, isN_int, ex_lstF, ex_repF, ex_lgF1, ex_lgF2, ex_tupRg1, ex_tupRg2, ex_frz, ex_slF, ex_slM, sl_tupF, sl_rolF, op_iiF, op_ssF, op_ttF, op_rrF, op_rrM, op_mmF, op_repF, li_rol, li_ref, bl_listF, bl_allF, bl_anyF, asT_some, asJ_some, op_eqBf, op_eqBt, isN_non, Bool.not_true, Bool.not_false, rep2]
  refine ⟨by omega, by omega, ?_⟩
  have e1 : ((n : Int) + 1).toNat = n + 1 := by omega
  rw [e1]
  refine for_rg (fun k τ M => k ≤ n + 1 ∧ M c = some (.lst ((loosN (ts.map edgeOf) l0 k).map oD)) ∧ Only c M0' M ∧ (∀ j, j < k → loosN (ts.map edgeOf) l0 (j + 1) ≠ loosN (ts.map edgeOf) l0 j) ∧ ∃ x4 x5 x6 x7 x8, τ = [some (.rol (ts.map tripD)), some (.int n), some d, some (.ref c), x4, x5, x6, x7, x8]) ?_ ?_ ⟨Nat.zero_le _, mset_same, Only.refl.set, fun j h => absurd h (Nat.not_lt_zero _), _, _, _, _, _, rfl⟩
  · rintro k τ M hk ⟨_, hM, on, bad, x4, x5, x6, x7, x8, rfl⟩ X hX
    have hlen : (loosN (ts.map edgeOf) l0 k).length = n := by rw [loosN_lenZ, hl0]
    have hnext : loosN (ts.map edgeOf) l0 (k + 1) = loosL (loosN (ts.map edgeOf) l0 k) (ts.map edgeOf) := rfl
    rw [tg_name, st_seq, st_set]
    simp only [ex_c, ex_var, ex_op, ex_un, ex_b, ex_and, ex_or, ex_not, ex_andV, ex_orV, ex_notV, ex_if, ex_chain, ex_nil, ex_cons, ex_tup, ex_lst, ex_call, ex_callP, ex_cb, ex_bm, ex_rep, ex_sl, ex_noPart, ex_part, ex_yes, it_items, it_rng1, it_rng2, tg_name, tg_sub, tg_tup, tg_cons, tg_nil, gs_0, gs_s, ss_0, ss_s, op_ii, op_ss, op_tt, op_mm, op_sb, op_ng, op_iNf, op_iNt, op_lle, op_ixT, op_ixR, op_ixL, op_putE, op_appE, it_tupE, it_rolE, it_refE, lstOf_l, exL, asS_some, asI_int, asB_bl, asL_some, asN_some, ite3_t, ite3_f, bl_1, bl_lenT, bl_lenR, bl_lenL, bl_lenS, bl_tuple, bl_list, bl_abs, bl_intI, bl_intB, bl_max, bl_min, op_eqSf, op_eqSt, op_eqIf, op_eqIt, op_eqTf, op_eqTt, op_eqRf, op_eqRt, op_eqNf, op_eqNt, eqD_int, eqD_nil, pl_int, pl_nil, pl_non, pl_rnil, pl_bl, sl_tupE, sl_rolE, keep_ref, keep_tup, keep_rol, tp_int, tp_tup, tp_rol, tp_str, tp_bl, tp_non, tp_ref, oFd, oMd, oPw, oShl, oLt, oLe, oGt, oGe, op_in, op_cp, wipe_nil, wipe_cons, mset_same, true_and, and_true, isN_int, ex_lstF, ex_repF, ex_lgF1, ex_lgF2, ex_tupRg1, ex_tupRg2, ex_frz, ex_slF, ex_slM, sl_tupF, sl_rolF, op_iiF, op_ssF, op_ttF, op_rrF, op_rrM, op_mmF, op_repF, li_rol, li_ref, bl_listF, bl_allF, bl_anyF, asT_some, asJ_some, op_eqBf, op_eqBt, isN_non, Bool.not_true, Bool.not_false, rep2]
    try dsimp only
    rw [st_seq, st_for]
    simp only [ex_c, ex_var, ex_op, ex_un, ex_b, ex_and, ex_or, ex_not, ex_andV, ex_orV, ex_notV, ex_if, ex_chain, ex_nil, ex_cons, ex_tup, ex_lst, ex_call, ex_callP, ex_cb, ex_bm, ex_rep, ex_sl, ex_noPart, ex_part, ex_yes, it_items, it_rng1, it_rng2, tg_name, tg_sub, tg_tup, tg_cons, tg_nil, gs_0, gs_s, ss_0, ss_s, op_ii, op_ss, op_tt, op_mm, op_sb, op_ng, op_iNf, op_iNt, op_lle, op_ixT, op_ixR, op_ixL, op_putE, op_appE, it_tupE, it_rolE, it_refE, lstOf_l, exL, asS_some, asI_int, asB_bl, asL_some, asN_some, ite3_t, ite3_f, bl_1, bl_lenT, bl_lenR, bl_lenL, bl_lenS, bl_tuple, bl_list, bl_abs, bl_intI, bl_intB, bl_max, bl_min, op_eqSf, op_eqSt, op_eqIf, op_eqIt, op_eqTf, op_eqTt, op_eqRf, op_eqRt, op_eqNf, op_eqNt, eqD_int, eqD_nil, pl_int, pl_nil, pl_non, pl_rnil, pl_bl, sl_tupE, sl_rolE, keep_ref, keep_tup, keep_rol, tp_int, tp_tup, tp_rol, tp_str, tp_bl, tp_non, tp_ref, oFd, oMd, oPw, oShl, oLt, oLe, oGt, oGe, op_in, op_cp, wipe_nil, wipe_cons, mset_same, true_and, and_true, isN_int, ex_lstF, ex_repF, ex_lgF1, ex_lgF2, ex_tupRg1, ex_tupRg2, ex_frz, ex_slF, ex_slM, sl_tupF, sl_rolF, op_iiF, op_ssF, op_ttF, op_rrF, op_rrM, op_mmF, op_repF, li_rol, li_ref, bl_listF, bl_allF, bl_anyF, asT_some, asJ_some, op_eqBf, op_eqBt, isN_non, Bool.not_true, Bool.not_false, rep2]
    have q1' := q1 c
    generalize hl : loosN (ts.map edgeOf) l0 k = l at hM hlen hnext
    refine for_of tripD (fun i τ M => M c = some (.lst ((loosL l ((ts.take i).map edgeOf)).map oD)) ∧ Only c M0' M ∧ ∃ fl x6 x7 x8, τ = [some (.rol (ts.map tripD)), some (.int n), some d, some (.ref c), some (.int (0 + (k : Nat))), some (.bl fl), x6, x7, x8] ∧
      (fl = false → loosL l ((ts.take i).map edgeOf) = l) ∧ (fl = true → loosL l ((ts.take i).map edgeOf) ≠ l)) (fun _ _ _ _ => True.intro) ?_ ?_ ⟨hM, on, false, _, _, _, rfl, fun _ => rfl, fun h => nomatch h⟩
    · rintro i t τ M' ht ⟨hM', on', fl, y6, y7, y8, rfl, f1, f2⟩ Y hY
      obtain ⟨p, r, z⟩ := t
      obtain ⟨⟨b1, b2, b3, b4⟩, _⟩ := hts _ (List.mem_of_getElem? ht)
      simp only at b1 b2 b3 b4
      have nx : loosL l ((ts.take (i + 1)).map edgeOf) = loos1 (loosL l ((ts.take i).map edgeOf)) (edgeOf (p, r, z)) := by
        rw [List.take_succ, ht, List.map_append]
        simp [loosL, List.foldl_append]
      have hkl : (loosL l ((ts.take i).map edgeOf)).length = n := by rw [loosL_len, hlen]
      have hle := loosL_le (es := (ts.take i).map edgeOf) (l := l) r.toNat
      generalize loosL l ((ts.take i).map edgeOf) = v at *
      have g1 := at1_get (l := v) b1 (by omega)
      have g2 := at1_get (l := v) b3 (by omega)
      have g3 := ix_get (l := v) b3 (by omega)
      have hr : r.toNat < v.length := by omega
      have val : loos1 v (edgeOf (p, r, z)) = v.set r.toNat (eMin (at1 v r.toNat) (eAdd (at1 v p.toNat) (some z))) := rfl
      have same : eMin (at1 v r.toNat) (eAdd (at1 v p.toNat) (some z)) = at1 v r.toNat → Y [some (.rol (ts.map tripD)), some (.int n), some d, some (.ref c), some (.int (0 + (k : Nat))), some (.bl fl), some (.int p), some (.int r), some (.int z)] M' := fun e => by
        have ev : loosL l ((ts.take (i + 1)).map edgeOf) = v := by rw [nx, val, e, set_at1 hr]
        refine hY _ _ ⟨by rw [ev]; exact hM', on', fl, _, _, _, rfl, fun h => by rw [ev]; exact f1 h, fun h => by rw [ev]; exact f2 h⟩
      have less : ∀ x, eMin (at1 v r.toNat) (eAdd (at1 v p.toNat) (some z)) = some x → ¬ eLe (at1 v r.toNat) (some x) → ∀ M2, M2 = mset M' c (.lst ((v.map oD).set r.toNat (.int x))) →
          Y [some (.rol (ts.map tripD)), some (.int n), some d, some (.ref c), some (.int (0 + (k : Nat))), some (.bl true), some (.int p), some (.int r), some (.int z)] M2 := fun x e ne M2 hM2 => by
        have ev : loosL l ((ts.take (i + 1)).map edgeOf) = v.set r.toNat (some x) := by rw [nx, val, e]
        refine hY _ _ ⟨?_, by rw [hM2]; exact on'.set, true, _, _, _, rfl, fun h => (nomatch h), fun _ => ?_⟩
        · rw [hM2, ev, mset_same, List.map_set]; rfl
        · intro h
          rw [ev] at h
          have : at1 l r.toNat = some x := by rw [← h, at1_set hr, if_pos rfl]
          rw [this] at hle
          exact ne hle
      simp only [ex_c, ex_var, ex_op, ex_un, ex_b, ex_and, ex_or, ex_not, ex_andV, ex_orV, ex_notV, ex_if, ex_chain, ex_nil, ex_cons, ex_tup, ex_lst, ex_call, ex_callP, ex_cb, ex_bm, ex_rep, ex_sl, ex_noPart, ex_part, ex_yes, it_items, it_rng1, it_rng2, tg_name, tg_sub, tg_tup, tg_cons, tg_nil, gs_0, gs_s, ss_0, ss_s, op_ii, op_ss, op_tt, op_mm, op_sb, op_ng, op_iNf, op_iNt, op_lle, op_ixT, op_ixR, op_ixL, op_putE, op_appE, it_tupE, it_rolE, it_refE, lstOf_l, exL, asS_some, asI_int, asB_bl, asL_some, asN_some, ite3_t, ite3_f, bl_1, bl_lenT, bl_lenR, bl_lenL, bl_lenS, bl_tuple, bl_list, bl_abs, bl_intI, bl_intB, bl_max, bl_min, op_eqSf, op_eqSt, op_eqIf, op_eqIt, op_eqTf, op_eqTt, op_eqRf, op_eqRt, op_eqNf, op_eqNt, eqD_int, eqD_nil, pl_int, pl_nil, pl_non, pl_rnil, pl_bl, sl_tupE, sl_rolE, keep_ref, keep_tup, keep_rol, tp_int, tp_tup, tp_rol, tp_str, tp_bl, tp_non, tp_ref, oFd, oMd, oPw, oShl, oLt, oLe, oGt, oGe, op_in, op_cp, wipe_nil, wipe_cons, mset_same, true_and, and_true, isN_int, ex_lstF, ex_repF, ex_lgF1, ex_lgF2, ex_tupRg1, ex_tupRg2, ex_frz, ex_slF, ex_slM, sl_tupF, sl_rolF, op_iiF, op_ssF, op_ttF, op_rrF, op_rrM, op_mmF, op_repF, li_rol, li_ref, bl_listF, bl_allF, bl_anyF, asT_some, asJ_some, op_eqBf, op_eqBt, isN_non, Bool.not_true, Bool.not_false, rep2, tripD, List.length_cons, List.length_nil]
      rw [st_if]
      cases hx : at1 v p.toNat with
      | none =>
        rw [hx] at g1 same
        simp only [ex_c, ex_var, ex_op, ex_un, ex_b, ex_and, ex_or, ex_not, ex_andV, ex_orV, ex_notV, ex_if, ex_chain, ex_nil, ex_cons, ex_tup, ex_lst, ex_call, ex_callP, ex_cb, ex_bm, ex_rep, ex_sl, ex_noPart, ex_part, ex_yes, it_items, it_rng1, it_rng2, tg_name, tg_sub, tg_tup, tg_cons, tg_nil, gs_0, gs_s, ss_0, ss_s, op_ii, op_ss, op_tt, op_mm, op_sb, op_ng, op_iNf, op_iNt, op_lle, op_ixT, op_ixR, op_ixL, op_putE, op_appE, it_tupE, it_rolE, it_refE, lstOf_l, exL, asS_some, asI_int, asB_bl, asL_some, asN_some, ite3_t, ite3_f, bl_1, bl_lenT, bl_lenR, bl_lenL, bl_lenS, bl_tuple, bl_list, bl_abs, bl_intI, bl_intB, bl_max, bl_min, op_eqSf, op_eqSt, op_eqIf, op_eqIt, op_eqTf, op_eqTt, op_eqRf, op_eqRt, op_eqNf, op_eqNt, eqD_int, eqD_nil, pl_int, pl_nil, pl_non, pl_rnil, pl_bl, sl_tupE, sl_rolE, keep_ref, keep_tup, keep_rol, tp_int, tp_tup, tp_rol, tp_str, tp_bl, tp_non, tp_ref, oFd, oMd, oPw, oShl, oLt, oLe, oGt, oGe, op_in, op_cp, wipe_nil, wipe_cons, mset_same, true_and, and_true, isN_int, ex_lstF, ex_repF, ex_lgF1, ex_lgF2, ex_tupRg1, ex_tupRg2, ex_frz, ex_slF, ex_slM, sl_tupF, sl_rolF, op_iiF, op_ssF, op_ttF, op_rrF, op_rrM, op_mmF, op_repF, li_rol, li_ref, bl_listF, bl_allF, bl_anyF, asT_some, asJ_some, op_eqBf, op_eqBt, isN_non, Bool.not_true, Bool.not_false, rep2, hM', g1, oD, isN_non]
        rw [st_next]
        exact same (by cases at1 v r.toNat <;> rfl)
      | some x =>
        rw [hx] at g1 same less
        cases hy : at1 v r.toNat with
        | none =>
          rw [hy] at g2 less
          simp only [ex_c, ex_var, ex_op, ex_un, ex_b, ex_and, ex_or, ex_not, ex_andV, ex_orV, ex_notV, ex_if, ex_chain, ex_nil, ex_cons, ex_tup, ex_lst, ex_call, ex_callP, ex_cb, ex_bm, ex_rep, ex_sl, ex_noPart, ex_part, ex_yes, it_items, it_rng1, it_rng2, tg_name, tg_sub, tg_tup, tg_cons, tg_nil, gs_0, gs_s, ss_0, ss_s, op_ii, op_ss, op_tt, op_mm, op_sb, op_ng, op_iNf, op_iNt, op_lle, op_ixT, op_ixR, op_ixL, op_putE, op_appE, it_tupE, it_rolE, it_refE, lstOf_l, exL, asS_some, asI_int, asB_bl, asL_some, asN_some, ite3_t, ite3_f, bl_1, bl_lenT, bl_lenR, bl_lenL, bl_lenS, bl_tuple, bl_list, bl_abs, bl_intI, bl_intB, bl_max, bl_min, op_eqSf, op_eqSt, op_eqIf, op_eqIt, op_eqTf, op_eqTt, op_eqRf, op_eqRt, op_eqNf, op_eqNt, eqD_int, eqD_nil, pl_int, pl_nil, pl_non, pl_rnil, pl_bl, sl_tupE, sl_rolE, keep_ref, keep_tup, keep_rol, tp_int, tp_tup, tp_rol, tp_str, tp_bl, tp_non, tp_ref, oFd, oMd, oPw, oShl, oLt, oLe, oGt, oGe, op_in, op_cp, wipe_nil, wipe_cons, mset_same, true_and, and_true, isN_int, ex_lstF, ex_repF, ex_lgF1, ex_lgF2, ex_tupRg1, ex_tupRg2, ex_frz, ex_slF, ex_slM, sl_tupF, sl_rolF, op_iiF, op_ssF, op_ttF, op_rrF, op_rrM, op_mmF, op_repF, li_rol, li_ref, bl_listF, bl_allF, bl_anyF, asT_some, asJ_some, op_eqBf, op_eqBt, isN_non, Bool.not_true, Bool.not_false, rep2, hM', g1, g2, oD, isN_non, isN_int]
          rw [st_seq, st_asg]
          simp only [ex_c, ex_var, ex_op, ex_un, ex_b, ex_and, ex_or, ex_not, ex_andV, ex_orV, ex_notV, ex_if, ex_chain, ex_nil, ex_cons, ex_tup, ex_lst, ex_call, ex_callP, ex_cb, ex_bm, ex_rep, ex_sl, ex_noPart, ex_part, ex_yes, it_items, it_rng1, it_rng2, tg_name, tg_sub, tg_tup, tg_cons, tg_nil, gs_0, gs_s, ss_0, ss_s, op_ii, op_ss, op_tt, op_mm, op_sb, op_ng, op_iNf, op_iNt, op_lle, op_ixT, op_ixR, op_ixL, op_putE, op_appE, it_tupE, it_rolE, it_refE, lstOf_l, exL, asS_some, asI_int, asB_bl, asL_some, asN_some, ite3_t, ite3_f, bl_1, bl_lenT, bl_lenR, bl_lenL, bl_lenS, bl_tuple, bl_list, bl_abs, bl_intI, bl_intB, bl_max, bl_min, op_eqSf, op_eqSt, op_eqIf, op_eqIt, op_eqTf, op_eqTt, op_eqRf, op_eqRt, op_eqNf, op_eqNt, eqD_int, eqD_nil, pl_int, pl_nil, pl_non, pl_rnil, pl_bl, sl_tupE, sl_rolE, keep_ref, keep_tup, keep_rol, tp_int, tp_tup, tp_rol, tp_str, tp_bl, tp_non, tp_ref, oFd, oMd, oPw, oShl, oLt, oLe, oGt, oGe, op_in, op_cp, wipe_nil, wipe_cons, mset_same, true_and, and_true, isN_int, ex_lstF, ex_repF, ex_lgF1, ex_lgF2, ex_tupRg1, ex_tupRg2, ex_frz, ex_slF, ex_slM, sl_tupF, sl_rolF, op_iiF, op_ssF, op_ttF, op_rrF, op_rrM, op_mmF, op_repF, li_rol, li_ref, bl_listF, bl_allF, bl_anyF, asT_some, asJ_some, op_eqBf, op_eqBt, isN_non, Bool.not_true, Bool.not_false, rep2, hM', g1, g3, oD]
          try dsimp only
          rw [st_set]
          simp only [ex_c, ex_var, ex_op, ex_un, ex_b, ex_and, ex_or, ex_not, ex_andV, ex_orV, ex_notV, ex_if, ex_chain, ex_nil, ex_cons, ex_tup, ex_lst, ex_call, ex_callP, ex_cb, ex_bm, ex_rep, ex_sl, ex_noPart, ex_part, ex_yes, it_items, it_rng1, it_rng2, tg_name, tg_sub, tg_tup, tg_cons, tg_nil, gs_0, gs_s, ss_0, ss_s, op_ii, op_ss, op_tt, op_mm, op_sb, op_ng, op_iNf, op_iNt, op_lle, op_ixT, op_ixR, op_ixL, op_putE, op_appE, it_tupE, it_rolE, it_refE, lstOf_l, exL, asS_some, asI_int, asB_bl, asL_some, asN_some, ite3_t, ite3_f, bl_1, bl_lenT, bl_lenR, bl_lenL, bl_lenS, bl_tuple, bl_list, bl_abs, bl_intI, bl_intB, bl_max, bl_min, op_eqSf, op_eqSt, op_eqIf, op_eqIt, op_eqTf, op_eqTt, op_eqRf, op_eqRt, op_eqNf, op_eqNt, eqD_int, eqD_nil, pl_int, pl_nil, pl_non, pl_rnil, pl_bl, sl_tupE, sl_rolE, keep_ref, keep_tup, keep_rol, tp_int, tp_tup, tp_rol, tp_str, tp_bl, tp_non, tp_ref, oFd, oMd, oPw, oShl, oLt, oLe, oGt, oGe, op_in, op_cp, wipe_nil, wipe_cons, mset_same, true_and, and_true, isN_int, ex_lstF, ex_repF, ex_lgF1, ex_lgF2, ex_tupRg1, ex_tupRg2, ex_frz, ex_slF, ex_slM, sl_tupF, sl_rolF, op_iiF, op_ssF, op_ttF, op_rrF, op_rrM, op_mmF, op_repF, li_rol, li_ref, bl_listF, bl_allF, bl_anyF, asT_some, asJ_some, op_eqBf, op_eqBt, isN_non, Bool.not_true, Bool.not_false, rep2]
          exact less (x + z) rfl (fun h => h) _ rfl
        | some y =>
          rw [hy] at g2 same less
          simp only [ex_c, ex_var, ex_op, ex_un, ex_b, ex_and, ex_or, ex_not, ex_andV, ex_orV, ex_notV, ex_if, ex_chain, ex_nil, ex_cons, ex_tup, ex_lst, ex_call, ex_callP, ex_cb, ex_bm, ex_rep, ex_sl, ex_noPart, ex_part, ex_yes, it_items, it_rng1, it_rng2, tg_name, tg_sub, tg_tup, tg_cons, tg_nil, gs_0, gs_s, ss_0, ss_s, op_ii, op_ss, op_tt, op_mm, op_sb, op_ng, op_iNf, op_iNt, op_lle, op_ixT, op_ixR, op_ixL, op_putE, op_appE, it_tupE, it_rolE, it_refE, lstOf_l, exL, asS_some, asI_int, asB_bl, asL_some, asN_some, ite3_t, ite3_f, bl_1, bl_lenT, bl_lenR, bl_lenL, bl_lenS, bl_tuple, bl_list, bl_abs, bl_intI, bl_intB, bl_max, bl_min, op_eqSf, op_eqSt, op_eqIf, op_eqIt, op_eqTf, op_eqTt, op_eqRf, op_eqRt, op_eqNf, op_eqNt, eqD_int, eqD_nil, pl_int, pl_nil, pl_non, pl_rnil, pl_bl, sl_tupE, sl_rolE, keep_ref, keep_tup, keep_rol, tp_int, tp_tup, tp_rol, tp_str, tp_bl, tp_non, tp_ref, oFd, oMd, oPw, oShl, oLt, oLe, oGt, oGe, op_in, op_cp, wipe_nil, wipe_cons, mset_same, true_and, and_true, isN_int, ex_lstF, ex_repF, ex_lgF1, ex_lgF2, ex_tupRg1, ex_tupRg2, ex_frz, ex_slF, ex_slM, sl_tupF, sl_rolF, op_iiF, op_ssF, op_ttF, op_rrF, op_rrM, op_mmF, op_repF, li_rol, li_ref, bl_listF, bl_allF, bl_anyF, asT_some, asJ_some, op_eqBf, op_eqBt, isN_non, Bool.not_true, Bool.not_false, rep2, hM', g1, g2, oD, isN_int]
          refine ite3_by (fun hlt => ?_) (fun hge => ?_)
          · have hlt := of_decide_eq_true hlt
            rw [st_seq, st_asg]
            simp only [ex_c, ex_var, ex_op, ex_un, ex_b, ex_and, ex_or, ex_not, ex_andV, ex_orV, ex_notV, ex_if, ex_chain, ex_nil, ex_cons, ex_tup, ex_lst, ex_call, ex_callP, ex_cb, ex_bm, ex_rep, ex_sl, ex_noPart, ex_part, ex_yes, it_items, it_rng1, it_rng2, tg_name, tg_sub, tg_tup, tg_cons, tg_nil, gs_0, gs_s, ss_0, ss_s, op_ii, op_ss, op_tt, op_mm, op_sb, op_ng, op_iNf, op_iNt, op_lle, op_ixT, op_ixR, op_ixL, op_putE, op_appE, it_tupE, it_rolE, it_refE, lstOf_l, exL, asS_some, asI_int, asB_bl, asL_some, asN_some, ite3_t, ite3_f, bl_1, bl_lenT, bl_lenR, bl_lenL, bl_lenS, bl_tuple, bl_list, bl_abs, bl_intI, bl_intB, bl_max, bl_min, op_eqSf, op_eqSt, op_eqIf, op_eqIt, op_eqTf, op_eqTt, op_eqRf, op_eqRt, op_eqNf, op_eqNt, eqD_int, eqD_nil, pl_int, pl_nil, pl_non, pl_rnil, pl_bl, sl_tupE, sl_rolE, keep_ref, keep_tup, keep_rol, tp_int, tp_tup, tp_rol, tp_str, tp_bl, tp_non, tp_ref, oFd, oMd, oPw, oShl, oLt, oLe, oGt, oGe, op_in, op_cp, wipe_nil, wipe_cons, mset_same, true_and, and_true, isN_int, ex_lstF, ex_repF, ex_lgF1, ex_lgF2, ex_tupRg1, ex_tupRg2, ex_frz, ex_slF, ex_slM, sl_tupF, sl_rolF, op_iiF, op_ssF, op_ttF, op_rrF, op_rrM, op_mmF, op_repF, li_rol, li_ref, bl_listF, bl_allF, bl_anyF, asT_some, asJ_some, op_eqBf, op_eqBt, isN_non, Bool.not_true, Bool.not_false, rep2, hM', g1, g3, oD]
            try dsimp only
            rw [st_set]
            simp only [ex_c, ex_var, ex_op, ex_un, ex_b, ex_and, ex_or, ex_not, ex_andV, ex_orV, ex_notV, ex_if, ex_chain, ex_nil, ex_cons, ex_tup, ex_lst, ex_call, ex_callP, ex_cb, ex_bm, ex_rep, ex_sl, ex_noPart, ex_part, ex_yes, it_items, it_rng1, it_rng2, tg_name, tg_sub, tg_tup, tg_cons, tg_nil, gs_0, gs_s, ss_0, ss_s, op_ii, op_ss, op_tt, op_mm, op_sb, op_ng, op_iNf, op_iNt, op_lle, op_ixT, op_ixR, op_ixL, op_putE, op_appE, it_tupE, it_rolE, it_refE, lstOf_l, exL, asS_some, asI_int, asB_bl, asL_some, asN_some, ite3_t, ite3_f, bl_1, bl_lenT, bl_lenR, bl_lenL, bl_lenS, bl_tuple, bl_list, bl_abs, bl_intI, bl_intB, bl_max, bl_min, op_eqSf, op_eqSt, op_eqIf, op_eqIt, op_eqTf, op_eqTt, op_eqRf, op_eqRt, op_eqNf, op_eqNt, eqD_int, eqD_nil, pl_int, pl_nil, pl_non, pl_rnil, pl_bl, sl_tupE, sl_rolE, keep_ref, keep_tup, keep_rol, tp_int, tp_tup, tp_rol, tp_str, tp_bl, tp_non, tp_ref, oFd, oMd, oPw, oShl, oLt, oLe, oGt, oGe, op_in, op_cp, wipe_nil, wipe_cons, mset_same, true_and, and_true, isN_int, ex_lstF, ex_repF, ex_lgF1, ex_lgF2, ex_tupRg1, ex_tupRg2, ex_frz, ex_slF, ex_slM, sl_tupF, sl_rolF, op_iiF, op_ssF, op_ttF, op_rrF, op_rrM, op_mmF, op_repF, li_rol, li_ref, bl_listF, bl_allF, bl_anyF, asT_some, asJ_some, op_eqBf, op_eqBt, isN_non, Bool.not_true, Bool.not_false, rep2]
            refine less (x + z) (by simp only [eAdd, eMin]; rw [if_pos hlt]) (fun h => ?_) _ rfl
            have h : y ≤ x + z := h
            omega
          · have hge := of_decide_eq_false hge
            rw [st_next]
            exact same (by simp only [eAdd, eMin]; rw [if_neg hge])
    · rintro τ M' ⟨hM', on', fl, y6, y7, y8, rfl, f1, f2⟩
      rw [List.take_length] at hM' f1 f2
      try dsimp only
      rw [st_if]
      cases fl with
      | false =>
        simp only [ex_c, ex_var, ex_op, ex_un, ex_b, ex_and, ex_or, ex_not, ex_andV, ex_orV, ex_notV, ex_if, ex_chain, ex_nil, ex_cons, ex_tup, ex_lst, ex_call, ex_callP, ex_cb, ex_bm, ex_rep, ex_sl, ex_noPart, ex_part, ex_yes, it_items, it_rng1, it_rng2, tg_name, tg_sub, tg_tup, tg_cons, tg_nil, gs_0, gs_s, ss_0, ss_s, op_ii, op_ss, op_tt, op_mm, op_sb, op_ng, op_iNf, op_iNt, op_lle, op_ixT, op_ixR, op_ixL, op_putE, op_appE, it_tupE, it_rolE, it_refE, lstOf_l, exL, asS_some, asI_int, asB_bl, asL_some, asN_some, ite3_t, ite3_f, bl_1, bl_lenT, bl_lenR, bl_lenL, bl_lenS, bl_tuple, bl_list, bl_abs, bl_intI, bl_intB, bl_max, bl_min, op_eqSf, op_eqSt, op_eqIf, op_eqIt, op_eqTf, op_eqTt, op_eqRf, op_eqRt, op_eqNf, op_eqNt, eqD_int, eqD_nil, pl_int, pl_nil, pl_non, pl_rnil, pl_bl, sl_tupE, sl_rolE, keep_ref, keep_tup, keep_rol, tp_int, tp_tup, tp_rol, tp_str, tp_bl, tp_non, tp_ref, oFd, oMd, oPw, oShl, oLt, oLe, oGt, oGe, op_in, op_cp, wipe_nil, wipe_cons, mset_same, true_and, and_true, isN_int, ex_lstF, ex_repF, ex_lgF1, ex_lgF2, ex_tupRg1, ex_tupRg2, ex_frz, ex_slF, ex_slM, sl_tupF, sl_rolF, op_iiF, op_ssF, op_ttF, op_rrF, op_rrM, op_mmF, op_repF, li_rol, li_ref, bl_listF, bl_allF, bl_anyF, asT_some, asJ_some, op_eqBf, op_eqBt, isN_non, Bool.not_true, Bool.not_false, rep2]
        rw [st_ret]
        simp only [ex_c, ex_var, ex_op, ex_un, ex_b, ex_and, ex_or, ex_not, ex_andV, ex_orV, ex_notV, ex_if, ex_chain, ex_nil, ex_cons, ex_tup, ex_lst, ex_call, ex_callP, ex_cb, ex_bm, ex_rep, ex_sl, ex_noPart, ex_part, ex_yes, it_items, it_rng1, it_rng2, tg_name, tg_sub, tg_tup, tg_cons, tg_nil, gs_0, gs_s, ss_0, ss_s, op_ii, op_ss, op_tt, op_mm, op_sb, op_ng, op_iNf, op_iNt, op_lle, op_ixT, op_ixR, op_ixL, op_putE, op_appE, it_tupE, it_rolE, it_refE, lstOf_l, exL, asS_some, asI_int, asB_bl, asL_some, asN_some, ite3_t, ite3_f, bl_1, bl_lenT, bl_lenR, bl_lenL, bl_lenS, bl_tuple, bl_list, bl_abs, bl_intI, bl_intB, bl_max, bl_min, op_eqSf, op_eqSt, op_eqIf, op_eqIt, op_eqTf, op_eqTt, op_eqRf, op_eqRt, op_eqNf, op_eqNt, eqD_int, eqD_nil, pl_int, pl_nil, pl_non, pl_rnil, pl_bl, sl_tupE, sl_rolE, keep_ref, keep_tup, keep_rol, tp_int, tp_tup, tp_rol, tp_str, tp_bl, tp_non, tp_ref, oFd, oMd, oPw, oShl, oLt, oLe, oGt, oGe, op_in, op_cp, wipe_nil, wipe_cons, mset_same, true_and, and_true, isN_int, ex_lstF, ex_repF, ex_lgF1, ex_lgF2, ex_tupRg1, ex_tupRg2, ex_frz, ex_slF, ex_slM, sl_tupF, sl_rolF, op_iiF, op_ssF, op_ttF, op_rrF, op_rrM, op_mmF, op_repF, li_rol, li_ref, bl_listF, bl_allF, bl_anyF, asT_some, asJ_some, op_eqBf, op_eqBt, isN_non, Bool.not_true, Bool.not_false, rep2]
        refine q1' M' k (by omega) ?_ ?_ hc on'
        · rw [hnext, hl]; exact f1 rfl
        · rw [hl, hM', f1 rfl]
      | true =>
        simp only [ex_c, ex_var, ex_op, ex_un, ex_b, ex_and, ex_or, ex_not, ex_andV, ex_orV, ex_notV, ex_if, ex_chain, ex_nil, ex_cons, ex_tup, ex_lst, ex_call, ex_callP, ex_cb, ex_bm, ex_rep, ex_sl, ex_noPart, ex_part, ex_yes, it_items, it_rng1, it_rng2, tg_name, tg_sub, tg_tup, tg_cons, tg_nil, gs_0, gs_s, ss_0, ss_s, op_ii, op_ss, op_tt, op_mm, op_sb, op_ng, op_iNf, op_iNt, op_lle, op_ixT, op_ixR, op_ixL, op_putE, op_appE, it_tupE, it_rolE, it_refE, lstOf_l, exL, asS_some, asI_int, asB_bl, asL_some, asN_some, ite3_t, ite3_f, bl_1, bl_lenT, bl_lenR, bl_lenL, bl_lenS, bl_tuple, bl_list, bl_abs, bl_intI, bl_intB, bl_max, bl_min, op_eqSf, op_eqSt, op_eqIf, op_eqIt, op_eqTf, op_eqTt, op_eqRf, op_eqRt, op_eqNf, op_eqNt, eqD_int, eqD_nil, pl_int, pl_nil, pl_non, pl_rnil, pl_bl, sl_tupE, sl_rolE, keep_ref, keep_tup, keep_rol, tp_int, tp_tup, tp_rol, tp_str, tp_bl, tp_non, tp_ref, oFd, oMd, oPw, oShl, oLt, oLe, oGt, oGe, op_in, op_cp, wipe_nil, wipe_cons, mset_same, true_and, and_true, isN_int, ex_lstF, ex_repF, ex_lgF1, ex_lgF2, ex_tupRg1, ex_tupRg2, ex_frz, ex_slF, ex_slM, sl_tupF, sl_rolF, op_iiF, op_ssF, op_ttF, op_rrF, op_rrM, op_mmF, op_repF, li_rol, li_ref, bl_listF, bl_allF, bl_anyF, asT_some, asJ_some, op_eqBf, op_eqBt, isN_non, Bool.not_true, Bool.not_false, rep2]
        rw [st_next]
        refine hX _ _ ⟨hk, by rw [hnext]; exact hM', on', fun j hj => ?_, _, _, _, _, _, rfl⟩
        by_cases e : j = k
        · subst e
          rw [hnext, hl]; exact f2 rfl
        · exact bad j (by omega)
  · rintro τ M ⟨_, hM, on, bad, x4, x5, x6, x7, x8, rfl⟩
    try dsimp only
    rw [st_ret]
    simp only [ex_c, ex_var, ex_op, ex_un, ex_b, ex_and, ex_or, ex_not, ex_andV, ex_orV, ex_notV, ex_if, ex_chain, ex_nil, ex_cons, ex_tup, ex_lst, ex_call, ex_callP, ex_cb, ex_bm, ex_rep, ex_sl, ex_noPart, ex_part, ex_yes, it_items, it_rng1, it_rng2, tg_name, tg_sub, tg_tup, tg_cons, tg_nil, gs_0, gs_s, ss_0, ss_s, op_ii, op_ss, op_tt, op_mm, op_sb, op_ng, op_iNf, op_iNt, op_lle, op_ixT, op_ixR, op_ixL, op_putE, op_appE, it_tupE, it_rolE, it_refE, lstOf_l, exL, asS_some, asI_int, asB_bl, asL_some, asN_some, ite3_t, ite3_f, bl_1, bl_lenT, bl_lenR, bl_lenL, bl_lenS, bl_tuple, bl_list, bl_abs, bl_intI, bl_intB, bl_max, bl_min, op_eqSf, op_eqSt, op_eqIf, op_eqIt, op_eqTf, op_eqTt, op_eqRf, op_eqRt, op_eqNf, op_eqNt, eqD_int, eqD_nil, pl_int, pl_nil, pl_non, pl_rnil, pl_bl, sl_tupE, sl_rolE, keep_ref, keep_tup, keep_rol, tp_int, tp_tup, tp_rol, tp_str, tp_bl, tp_non, tp_ref, oFd, oMd, oPw, oShl, oLt, oLe, oGt, oGe, op_in, op_cp, wipe_nil, wipe_cons, mset_same, true_and, and_true, isN_int, ex_lstF, ex_repF, ex_lgF1, ex_lgF2, ex_tupRg1, ex_tupRg2, ex_frz, ex_slF, ex_slM, sl_tupF, sl_rolF, op_iiF, op_ssF, op_ttF, op_rrF, op_rrM, op_mmF, op_repF, li_rol, li_ref, bl_listF, bl_allF, bl_anyF, asT_some, asJ_some, op_eqBf, op_eqBt, isN_non, Bool.not_true, Bool.not_false, rep2]
    exact q2 c M (fun k hk => bad k (by omega)) hc on
end L3
set_option Elab.async false
set_option linter.all false
set_option maxRecDepth 100000
set_option maxHeartbeats 4000000
namespace L3
open PySem PySem.Spec PyProof.Rows L2
def edges59R : XK3 → TS3 := fun E =>
  (wSeq (wSet 2 (wLst wNil))
  (wSeq (wFor (wRng1 (wCons (wCB bLen (wCons (wVar 0) wNil)) wNil)) (wgName 3) (wDrop (wBM oExtF (wVar 2) (wCons (wLcF (wRng1 (wCons (wCB bLen (wCons (wVar 0) wNil)) wNil)) (wgName 4) (wB (wOp (oIsN true) (wOp oIx (wOp oIx (wVar 0) (wVar 3)) (wVar 4)) (wC .non))) (wTup (wCons (wOp oIx (wVar 1) (wVar 4)) (wCons (wOp oIx (wVar 1) (wVar 3)) (wCons (wOp oIx (wOp oIx (wVar 0) (wVar 3)) (wVar 4)) wNil)))) [4]) wNil))))
  (wRet (wFrz (wVar 2)))))
def PullT (x : Part) (s : Nat → Ed) : Prop := ∀ i, i < x.1.length → ∀ j, j < x.1.length → eLe (s (x.2.getD i 0)) (eAdd (s (x.2.getD j 0)) (at2 x.1 i j))
def SEdges59 (sp : Sp3) : Prop := ∀ (many B : Nat) (x : Part) (pd : D) (Q : VK3) (E : XK3), x.1.length ≤ 100 → PartOk B many x → IsSeq pd (plD x.2) →
  (∀ (ts : List Trip) (M : Mp), TripsOk many B ts → (∀ s, StE (ts.map edgeOf) s ↔ PullT x s) → ts.length ≤ 10000 → Q (.rol (ts.map tripD)) M) → sp [tabD x.1, pd] M0 Q E
/-- edges of the rows ahead of p, of row p those ahead of q -/
def EdT (many B : Nat) (x : Part) (p q : Nat) (ts : List Trip) : Prop := TripsOk many B ts ∧ ts.length ≤ 100 * p + q ∧
  ∀ s, StE (ts.map edgeOf) s ↔ ∀ i j, i < x.1.length → j < x.1.length → (i < p ∨ (i = p ∧ j < q)) → eLe (s (x.2.getD i 0)) (eAdd (s (x.2.getD j 0)) (at2 x.1 i j))
theorem EdT.skip {many B p q : Nat} {x : Part} {ts : List Trip} (h : EdT many B x p q ts) (hn : at2 x.1 p q = none) : EdT many B x p (q + 1) ts :=
  ⟨h.1, by have := h.2.1; omega, fun s => by
    rw [h.2.2]
    constructor
    · intro a i j hi hj z
      by_cases w : i = p ∧ j = q
      · obtain ⟨rfl, rfl⟩ := w
        rw [hn]
        cases s (x.2.getD j 0) <;> exact eLe_none
      · exact a i j hi hj (by omega)
    · exact fun a i j hi hj z => a i j hi hj (by omega)⟩
theorem EdT.add {many B p q : Nat} {x : Part} {ts : List Trip} {c : Int} (h : EdT many B x p q ts) (ok : PartOk B many x) (hp : p < x.1.length) (hq : q < x.1.length) (hc : at2 x.1 p q = some c) :
    EdT many B x p (q + 1) (ts ++ [(((x.2.getD q 0 : Nat) : Int), ((x.2.getD p 0 : Nat) : Int), c)]) := by
  have inn : ∀ i, i < x.1.length → x.2.getD i 0 < many := fun i hi => by
    have : i < x.2.length := Nat.lt_of_lt_of_le hi ok.len
    rw [List.getD_eq_getElem?_getD, List.getElem?_eq_getElem this]
    exact ok.inn _ (List.getElem_mem this)
  refine ⟨fun t ht => ?_, by rw [List.length_append]; have := h.2.1; simp only [List.length_cons, List.length_nil]; omega, fun s => ?_⟩
  · rcases List.mem_append.mp ht with ht | ht
    · exact h.1 t ht
    · rw [List.mem_singleton] at ht
      subst ht
      have i1 := inn p hp
      have i2 := inn q hq
      exact ⟨⟨by simp only; omega, by simp only; omega, by simp only; omega, by simp only; omega⟩, ends_at' ok.tb c hc⟩
  · rw [List.map_append, StE.app, h.2.2]
    have e1 : StE ([(((x.2.getD q 0 : Nat) : Int), ((x.2.getD p 0 : Nat) : Int), c)].map edgeOf) s ↔ eLe (s (x.2.getD p 0)) (eAdd (s (x.2.getD q 0)) (some c)) := by
      simp [StE, edgeOf]
    rw [e1]
    constructor
    · rintro ⟨a, b⟩ i j hi hj z
      by_cases w : i = p ∧ j = q
      · obtain ⟨rfl, rfl⟩ := w
        rw [hc]; exact b
      · exact a i j hi hj (by omega)
    · intro a
      refine ⟨fun i j hi hj z => a i j hi hj (by omega), ?_⟩
      rw [← hc]
      exact a p q hp hq (by omega)
theorem EdT.row {many B p : Nat} {x : Part} {ts : List Trip} (h : EdT many B x p x.1.length ts) (hl : x.1.length ≤ 100) : EdT many B x (p + 1) 0 ts :=
  ⟨h.1, by have := h.2.1; omega, fun s => by
    rw [h.2.2]
    exact ⟨fun a i j hi hj z => a i j hi hj (by omega), fun a i j hi hj z => a i j hi hj (by omega)⟩⟩
theorem s_edges59 : SEdges59 (spOf 2 5 edges59R) := by
  refine fun many B x pd Q E hn ok hpl q => ⟨rfl, ?_⟩
  show edges59R E _ [some (tabD x.1), some pd, none, none, none] M0
  unfold edges59R
  rw [st_seq, st_set]
  simp only [ex_c, ex_var, ex_op, ex_un, ex_b, ex_and, ex_or, ex_not, ex_andV, ex_orV, ex_notV, ex_if, ex_chain, ex_nil, ex_cons, ex_tup, ex_lst, ex_call, ex_callP, ex_cb, ex_bm, ex_rep, ex_sl, ex_noPart, ex_part, ex_yes, it_items, it_rng1, it_rng2, tg_name, tg_sub, tg_tup, tg_cons, tg_nil, gs_0, gs_s, ss_0, ss_s, op_ii, op_ss, op_tt, op_mm, op_sb, op_ng, op_iNf, op_iNt, op_lle, op_ixT, op_ixR, op_ixL, op_putE, op_appE, it_tupE, it_rolE, it_refE, lstOf_l, exL, asS_some, asI_int, asB_bl, asL_some, asN_some, ite3_t, ite3_f, bl_1, bl_lenT, bl_lenR, bl_lenL, bl_lenS, bl_tuple, bl_list, bl_abs, bl_intI, bl_intB, bl_max, bl_min, op_eqSf, op_eqSt, op_eqIf, op_eqIt, op_eqTf, op_eqTt, op_eqRf, op_eqRt, op_eqNf, op_eqNt, eqD_int, eqD_nil, pl_int, pl_nil, pl_non, pl_rnil, pl_bl, sl_tupE, sl_rolE, keep_ref, keep_tup, keep_rol, tp_int, tp_tup, tp_rol, tp_str, tp_bl, tp_non, tp_ref, oFd, oMd, oPw, oShl, oLt, oLe, oGt, oGe, op_in, op_cp, wipe_nil, wipe_cons, mset_same, true_and, and_true, isN_int, ex_lstF, ex_repF, ex_lgF1, ex_lgF2, ex_tupRg1, ex_tupRg2, ex_frz, ex_slF, ex_slM, sl_tupF, sl_rolF, op_iiF, op_ssF, op_ttF, op_rrF, op_rrM, op_mmF, op_repF, li_rol, li_ref, bl_listF, bl_allF, bl_anyF, asT_some, asJ_some, op_eqBf, op_eqBt, isN_non, Bool.not_true, Bool.not_false, rep2]
  refine ⟨Nat.zero_le _, fun f hf => ?_⟩
  try dsimp only
  rw [st_seq, st_for]
  simp only [ex_c, ex_var, ex_op, ex_un, ex_b, ex_and, ex_or, ex_not, ex_andV, ex_orV, ex_notV, ex_if, ex_chain, ex_nil, ex_cons, ex_tup, ex_lst, ex_call, ex_callP, ex_cb, ex_bm, ex_rep, ex_sl, ex_noPart, ex_part, ex_yes, it_items, it_rng1, it_rng2, tg_name, tg_sub, tg_tup, tg_cons, tg_nil, gs_0, gs_s, ss_0, ss_s, op_ii, op_ss, op_tt, op_mm, op_sb, op_ng, op_iNf, op_iNt, op_lle, op_ixT, op_ixR, op_ixL, op_putE, op_appE, it_tupE, it_rolE, it_refE, lstOf_l, exL, asS_some, asI_int, asB_bl, asL_some, asN_some, ite3_t, ite3_f, bl_1, bl_lenT, bl_lenR, bl_lenL, bl_lenS, bl_tuple, bl_list, bl_abs, bl_intI, bl_intB, bl_max, bl_min, op_eqSf, op_eqSt, op_eqIf, op_eqIt, op_eqTf, op_eqTt, op_eqRf, op_eqRt, op_eqNf, op_eqNt, eqD_int, eqD_nil, pl_int, pl_nil, pl_non, pl_rnil, pl_bl, sl_tupE, sl_rolE, keep_ref, keep_tup, keep_rol, tp_int, tp_tup, tp_rol, tp_str, tp_bl, tp_non, tp_ref, oFd, oMd, oPw, oShl, oLt, oLe, oGt, oGe, op_in, op_cp, wipe_nil, wipe_cons, mset_same, true_and, and_true, isN_int, ex_lstF, ex_repF, ex_lgF1, ex_lgF2, ex_tupRg1, ex_tupRg2, ex_frz, ex_slF, ex_slM, sl_tupF, sl_rolF, op_iiF, op_ssF, op_ttF, op_rrF, op_rrM, op_mmF, op_repF, li_rol, li_ref, bl_listF, bl_allF, bl_anyF, asT_some, asJ_some, op_eqBf, op_eqBt, isN_non, Bool.not_true, Bool.not_false, rep2, tabD, List.length_map, Int.toNat_natCast]
  refine ⟨by omega, by omega, ?_⟩
  have big : (1000000 : Nat) ≤ sizeLine := by decide
  refine for_rg (fun p τ M' => p ≤ x.1.length ∧ (∃ ts, M' f = some (.lst (ts.map tripD)) ∧ EdT many B x p 0 ts) ∧ ∃ x3 x4, τ = [some (tabD x.1), some pd, some (.ref f), x3, x4]) ?_ ?_
    ⟨Nat.zero_le _, ⟨[], mset_same, ⟨(fun t ht => nomatch ht), Nat.zero_le _, fun s => ⟨fun _ i j _ _ z => by omega, fun _ e he => nomatch he⟩⟩⟩, _, _, rfl⟩
  · rintro p τ M' hp ⟨_, ⟨ts, hM, hE⟩, x3, x4, rfl⟩ X hX
    rw [tg_name, st_drop]
    simp only [ex_c, ex_var, ex_op, ex_un, ex_b, ex_and, ex_or, ex_not, ex_andV, ex_orV, ex_notV, ex_if, ex_chain, ex_nil, ex_cons, ex_tup, ex_lst, ex_call, ex_callP, ex_cb, ex_bm, ex_rep, ex_sl, ex_noPart, ex_part, ex_yes, it_items, it_rng1, it_rng2, tg_name, tg_sub, tg_tup, tg_cons, tg_nil, gs_0, gs_s, ss_0, ss_s, op_ii, op_ss, op_tt, op_mm, op_sb, op_ng, op_iNf, op_iNt, op_lle, op_ixT, op_ixR, op_ixL, op_putE, op_appE, it_tupE, it_rolE, it_refE, lstOf_l, exL, asS_some, asI_int, asB_bl, asL_some, asN_some, ite3_t, ite3_f, bl_1, bl_lenT, bl_lenR, bl_lenL, bl_lenS, bl_tuple, bl_list, bl_abs, bl_intI, bl_intB, bl_max, bl_min, op_eqSf, op_eqSt, op_eqIf, op_eqIt, op_eqTf, op_eqTt, op_eqRf, op_eqRt, op_eqNf, op_eqNt, eqD_int, eqD_nil, pl_int, pl_nil, pl_non, pl_rnil, pl_bl, sl_tupE, sl_rolE, keep_ref, keep_tup, keep_rol, tp_int, tp_tup, tp_rol, tp_str, tp_bl, tp_non, tp_ref, oFd, oMd, oPw, oShl, oLt, oLe, oGt, oGe, op_in, op_cp, wipe_nil, wipe_cons, mset_same, true_and, and_true, isN_int, ex_lstF, ex_repF, ex_lgF1, ex_lgF2, ex_tupRg1, ex_tupRg2, ex_frz, ex_slF, ex_slM, sl_tupF, sl_rolF, op_iiF, op_ssF, op_ttF, op_rrF, op_rrM, op_mmF, op_repF, li_rol, li_ref, bl_listF, bl_allF, bl_anyF, asT_some, asJ_some, op_eqBf, op_eqBt, isN_non, Bool.not_true, Bool.not_false, rep2, ex_lcF, tabD, List.length_map, Int.toNat_natCast, hM]
    refine ⟨by omega, by omega, ?_⟩
    refine lc_pv (fun j acc M2 => M2 = M' ∧ j ≤ x.1.length ∧ ∃ us : List Trip, acc = us.map tripD ∧ us.length ≤ j ∧ EdT many B x p j (ts ++ us)) ?_ ?_ ⟨rfl, Nat.zero_le _, [], rfl, Nat.le_refl _, by rw [List.append_nil]; exact hE⟩
    · rintro j d acc M2 hd ⟨rfl, hj, us, rfl, hul, hE2⟩ Y hY
      obtain ⟨hjl, rfl⟩ := rgD_get hd
      refine ⟨True.intro, ?_⟩
      obtain ⟨r, h1, h2, h3, h4, h5, h6⟩ := ok.tb.sq.get (p := 0 + (p : Int)) (q := 0 + (j : Int)) (by omega) (by omega) (by omega) (by omega)
      have ep : (0 + (p : Int)).toNat = p := by omega
      have ej : (0 + (j : Int)).toNat = j := by omega
      rw [ep, ej] at h4
      have ixp : ∀ {M : Mp} {Q : VK3}, oIx pd (.int (0 + (p : Nat))) M Q = Q (.int ((x.2.getD p 0 : Nat) : Int)) M := by
        intro M Q; rw [Int.zero_add]; exact seq_pl hpl (Nat.lt_of_lt_of_le hp ok.len)
      have ixj : ∀ {M : Mp} {Q : VK3}, oIx pd (.int (0 + (j : Nat))) M Q = Q (.int ((x.2.getD j 0 : Nat) : Int)) M := by
        intro M Q; rw [Int.zero_add]; exact seq_pl hpl (Nat.lt_of_lt_of_le hjl ok.len)
      simp only [ex_c, ex_var, ex_op, ex_un, ex_b, ex_and, ex_or, ex_not, ex_andV, ex_orV, ex_notV, ex_if, ex_chain, ex_nil, ex_cons, ex_tup, ex_lst, ex_call, ex_callP, ex_cb, ex_bm, ex_rep, ex_sl, ex_noPart, ex_part, ex_yes, it_items, it_rng1, it_rng2, tg_name, tg_sub, tg_tup, tg_cons, tg_nil, gs_0, gs_s, ss_0, ss_s, op_ii, op_ss, op_tt, op_mm, op_sb, op_ng, op_iNf, op_iNt, op_lle, op_ixT, op_ixR, op_ixL, op_putE, op_appE, it_tupE, it_rolE, it_refE, lstOf_l, exL, asS_some, asI_int, asB_bl, asL_some, asN_some, ite3_t, ite3_f, bl_1, bl_lenT, bl_lenR, bl_lenL, bl_lenS, bl_tuple, bl_list, bl_abs, bl_intI, bl_intB, bl_max, bl_min, op_eqSf, op_eqSt, op_eqIf, op_eqIt, op_eqTf, op_eqTt, op_eqRf, op_eqRt, op_eqNf, op_eqNt, eqD_int, eqD_nil, pl_int, pl_nil, pl_non, pl_rnil, pl_bl, sl_tupE, sl_rolE, keep_ref, keep_tup, keep_rol, tp_int, tp_tup, tp_rol, tp_str, tp_bl, tp_non, tp_ref, oFd, oMd, oPw, oShl, oLt, oLe, oGt, oGe, op_in, op_cp, wipe_nil, wipe_cons, mset_same, true_and, and_true, isN_int, ex_lstF, ex_repF, ex_lgF1, ex_lgF2, ex_tupRg1, ex_tupRg2, ex_frz, ex_slF, ex_slM, sl_tupF, sl_rolF, op_iiF, op_ssF, op_ttF, op_rrF, op_rrM, op_mmF, op_repF, li_rol, li_ref, bl_listF, bl_allF, bl_anyF, asT_some, asJ_some, op_eqBf, op_eqBt, isN_non, Bool.not_true, Bool.not_false, rep2, h3, h4]
      cases hc : at2 x.1 p j with
      | none =>
        simp only [ex_c, ex_var, ex_op, ex_un, ex_b, ex_and, ex_or, ex_not, ex_andV, ex_orV, ex_notV, ex_if, ex_chain, ex_nil, ex_cons, ex_tup, ex_lst, ex_call, ex_callP, ex_cb, ex_bm, ex_rep, ex_sl, ex_noPart, ex_part, ex_yes, it_items, it_rng1, it_rng2, tg_name, tg_sub, tg_tup, tg_cons, tg_nil, gs_0, gs_s, ss_0, ss_s, op_ii, op_ss, op_tt, op_mm, op_sb, op_ng, op_iNf, op_iNt, op_lle, op_ixT, op_ixR, op_ixL, op_putE, op_appE, it_tupE, it_rolE, it_refE, lstOf_l, exL, asS_some, asI_int, asB_bl, asL_some, asN_some, ite3_t, ite3_f, bl_1, bl_lenT, bl_lenR, bl_lenL, bl_lenS, bl_tuple, bl_list, bl_abs, bl_intI, bl_intB, bl_max, bl_min, op_eqSf, op_eqSt, op_eqIf, op_eqIt, op_eqTf, op_eqTt, op_eqRf, op_eqRt, op_eqNf, op_eqNt, eqD_int, eqD_nil, pl_int, pl_nil, pl_non, pl_rnil, pl_bl, sl_tupE, sl_rolE, keep_ref, keep_tup, keep_rol, tp_int, tp_tup, tp_rol, tp_str, tp_bl, tp_non, tp_ref, oFd, oMd, oPw, oShl, oLt, oLe, oGt, oGe, op_in, op_cp, wipe_nil, wipe_cons, mset_same, true_and, and_true, isN_int, ex_lstF, ex_repF, ex_lgF1, ex_lgF2, ex_tupRg1, ex_tupRg2, ex_frz, ex_slF, ex_slM, sl_tupF, sl_rolF, op_iiF, op_ssF, op_ttF, op_rrF, op_rrM, op_mmF, op_repF, li_rol, li_ref, bl_listF, bl_allF, bl_anyF, asT_some, asJ_some, op_eqBf, op_eqBt, isN_non, Bool.not_true, Bool.not_false, rep2, oD]
        exact hY _ _ ⟨rfl, hjl, us, rfl, by omega, hE2.skip hc⟩
      | some c =>
        rw [hc] at h4
        simp only [ex_c, ex_var, ex_op, ex_un, ex_b, ex_and, ex_or, ex_not, ex_andV, ex_orV, ex_notV, ex_if, ex_chain, ex_nil, ex_cons, ex_tup, ex_lst, ex_call, ex_callP, ex_cb, ex_bm, ex_rep, ex_sl, ex_noPart, ex_part, ex_yes, it_items, it_rng1, it_rng2, tg_name, tg_sub, tg_tup, tg_cons, tg_nil, gs_0, gs_s, ss_0, ss_s, op_ii, op_ss, op_tt, op_mm, op_sb, op_ng, op_iNf, op_iNt, op_lle, op_ixT, op_ixR, op_ixL, op_putE, op_appE, it_tupE, it_rolE, it_refE, lstOf_l, exL, asS_some, asI_int, asB_bl, asL_some, asN_some, ite3_t, ite3_f, bl_1, bl_lenT, bl_lenR, bl_lenL, bl_lenS, bl_tuple, bl_list, bl_abs, bl_intI, bl_intB, bl_max, bl_min, op_eqSf, op_eqSt, op_eqIf, op_eqIt, op_eqTf, op_eqTt, op_eqRf, op_eqRt, op_eqNf, op_eqNt, eqD_int, eqD_nil, pl_int, pl_nil, pl_non, pl_rnil, pl_bl, sl_tupE, sl_rolE, keep_ref, keep_tup, keep_rol, tp_int, tp_tup, tp_rol, tp_str, tp_bl, tp_non, tp_ref, oFd, oMd, oPw, oShl, oLt, oLe, oGt, oGe, op_in, op_cp, wipe_nil, wipe_cons, mset_same, true_and, and_true, isN_int, ex_lstF, ex_repF, ex_lgF1, ex_lgF2, ex_tupRg1, ex_tupRg2, ex_frz, ex_slF, ex_slM, sl_tupF, sl_rolF, op_iiF, op_ssF, op_ttF, op_rrF, op_rrM, op_mmF, op_repF, li_rol, li_ref, bl_listF, bl_allF, bl_anyF, asT_some, asJ_some, op_eqBf, op_eqBt, isN_non, Bool.not_true, Bool.not_false, rep2, oD, ixp, ixj, h3, h4]
        refine ⟨by show 3 ≤ sizeLine; omega, by rw [List.length_map]; omega, hY _ _ ⟨rfl, hjl, us ++ [(((x.2.getD j 0 : Nat) : Int), ((x.2.getD p 0 : Nat) : Int), c)], by rw [List.map_append]; rfl, by rw [List.length_append]; simp only [List.length_cons, List.length_nil]; omega, ?_⟩⟩
        rw [← List.append_assoc]
        exact hE2.add ok hp hjl hc
    · rintro acc M2 ⟨rfl, hj, us, rfl, hul, hE2⟩
      rw [rgD_len] at hE2
      refine ⟨True.intro, ?_⟩
      simp only [ex_c, ex_var, ex_op, ex_un, ex_b, ex_and, ex_or, ex_not, ex_andV, ex_orV, ex_notV, ex_if, ex_chain, ex_nil, ex_cons, ex_tup, ex_lst, ex_call, ex_callP, ex_cb, ex_bm, ex_rep, ex_sl, ex_noPart, ex_part, ex_yes, it_items, it_rng1, it_rng2, tg_name, tg_sub, tg_tup, tg_cons, tg_nil, gs_0, gs_s, ss_0, ss_s, op_ii, op_ss, op_tt, op_mm, op_sb, op_ng, op_iNf, op_iNt, op_lle, op_ixT, op_ixR, op_ixL, op_putE, op_appE, it_tupE, it_rolE, it_refE, lstOf_l, exL, asS_some, asI_int, asB_bl, asL_some, asN_some, ite3_t, ite3_f, bl_1, bl_lenT, bl_lenR, bl_lenL, bl_lenS, bl_tuple, bl_list, bl_abs, bl_intI, bl_intB, bl_max, bl_min, op_eqSf, op_eqSt, op_eqIf, op_eqIt, op_eqTf, op_eqTt, op_eqRf, op_eqRt, op_eqNf, op_eqNt, eqD_int, eqD_nil, pl_int, pl_nil, pl_non, pl_rnil, pl_bl, sl_tupE, sl_rolE, keep_ref, keep_tup, keep_rol, tp_int, tp_tup, tp_rol, tp_str, tp_bl, tp_non, tp_ref, oFd, oMd, oPw, oShl, oLt, oLe, oGt, oGe, op_in, op_cp, wipe_nil, wipe_cons, mset_same, true_and, and_true, isN_int, ex_lstF, ex_repF, ex_lgF1, ex_lgF2, ex_tupRg1, ex_tupRg2, ex_frz, ex_slF, ex_slM, sl_tupF, sl_rolF, op_iiF, op_ssF, op_ttF, op_rrF, op_rrM, op_mmF, op_repF, li_rol, li_ref, bl_listF, bl_allF, bl_anyF, asT_some, asJ_some, op_eqBf, op_eqBt, isN_non, Bool.not_true, Bool.not_false, rep2, op_extF, hM]
      have hlen := hE2.2.1
      rw [List.length_append] at hlen
      refine ⟨by rw [List.length_map, List.length_map]; omega, hX _ _ ⟨hp, ⟨ts ++ us, by rw [mset_same, List.map_append], hE2.row hn⟩, _, _, rfl⟩⟩
  · rintro τ M' ⟨hp, ⟨ts, hM, hE⟩, x3, x4, rfl⟩
    try dsimp only
    rw [st_ret]
    simp only [ex_c, ex_var, ex_op, ex_un, ex_b, ex_and, ex_or, ex_not, ex_andV, ex_orV, ex_notV, ex_if, ex_chain, ex_nil, ex_cons, ex_tup, ex_lst, ex_call, ex_callP, ex_cb, ex_bm, ex_rep, ex_sl, ex_noPart, ex_part, ex_yes, it_items, it_rng1, it_rng2, tg_name, tg_sub, tg_tup, tg_cons, tg_nil, gs_0, gs_s, ss_0, ss_s, op_ii, op_ss, op_tt, op_mm, op_sb, op_ng, op_iNf, op_iNt, op_lle, op_ixT, op_ixR, op_ixL, op_putE, op_appE, it_tupE, it_rolE, it_refE, lstOf_l, exL, asS_some, asI_int, asB_bl, asL_some, asN_some, ite3_t, ite3_f, bl_1, bl_lenT, bl_lenR, bl_lenL, bl_lenS, bl_tuple, bl_list, bl_abs, bl_intI, bl_intB, bl_max, bl_min, op_eqSf, op_eqSt, op_eqIf, op_eqIt, op_eqTf, op_eqTt, op_eqRf, op_eqRt, op_eqNf, op_eqNt, eqD_int, eqD_nil, pl_int, pl_nil, pl_non, pl_rnil, pl_bl, sl_tupE, sl_rolE, keep_ref, keep_tup, keep_rol, tp_int, tp_tup, tp_rol, tp_str, tp_bl, tp_non, tp_ref, oFd, oMd, oPw, oShl, oLt, oLe, oGt, oGe, op_in, op_cp, wipe_nil, wipe_cons, mset_same, true_and, and_true, isN_int, ex_lstF, ex_repF, ex_lgF1, ex_lgF2, ex_tupRg1, ex_tupRg2, ex_frz, ex_slF, ex_slM, sl_tupF, sl_rolF, op_iiF, op_ssF, op_ttF, op_rrF, op_rrM, op_mmF, op_repF, li_rol, li_ref, bl_listF, bl_allF, bl_anyF, asT_some, asJ_some, op_eqBf, op_eqBt, isN_non, Bool.not_true, Bool.not_false, rep2, frz_l hM]
    refine q ts _ hE.1 (fun s => ?_) (by have := hE.2.1; omega)
    rw [hE.2.2]
    exact ⟨fun a i hi j hj => a i j hi hj (.inl hi), fun a i j hi hj _ => a i hi j hj⟩
end L3
set_option Elab.async false
set_option linter.all false
set_option maxRecDepth 100000
set_option maxHeartbeats 4000000
namespace L3
open PySem PySem.Spec PyProof.Rows L2
/-- a table with its points the other way about -/
def trT (T : Tab) : Tab := (List.range T.length).map fun p => (List.range T.length).map fun q => at2 T q p
theorem at2_tr {n p q : Nat} {T : Tab} (sq : Sq n T) (hp : p < n) (hq : q < n) : at2 (trT T) p q = at2 T q p := by
  have hl := sq.rows
  have r1 : (trT T).getD p [] = (List.range n).map fun q => at2 T q p := by
    unfold trT
    rw [hl, List.getD_eq_getElem?_getD, List.getElem?_map, List.getElem?_range hp]; rfl
  show ((trT T).getD p []).getD q none = _
  rw [r1, List.getD_eq_getElem?_getD, List.getElem?_map, List.getElem?_range hq]; rfl
theorem tr_sq {n : Nat} {T : Tab} (sq : Sq n T) : Sq n (trT T) := by
  have hl := sq.rows
  refine ⟨by unfold trT; rw [List.length_map, List.length_range, hl], fun r hr => ?_⟩
  unfold trT at hr
  obtain ⟨p, _, rfl⟩ := List.mem_map.mp hr
  rw [List.length_map, List.length_range, hl]
theorem tr_b {B n : Nat} {T : Tab} (t : TabB B n T) : TabB B n (trT T) := by
  have sq := tr_sq t.sq
  refine .of sq fun r hr e he => ?_
  obtain ⟨p, hp, rfl⟩ := List.mem_iff_getElem.mp hr
  obtain ⟨q, hq, rfl⟩ := List.mem_iff_getElem.mp he
  have hp' : p < n := by rw [← sq.rows]; exact hp
  have hq' : q < n := by rw [← sq.cols _ (List.getElem_mem hp)]; exact hq
  have e1 : at2 (trT T) p q = (trT T)[p][q] := by
    have r1 : (trT T).getD p [] = (trT T)[p] := by rw [List.getD_eq_getElem?_getD, List.getElem?_eq_getElem hp]; rfl
    show ((trT T).getD p []).getD q none = _
    rw [r1, List.getD_eq_getElem?_getD, List.getElem?_eq_getElem hq]; rfl
  rw [← e1, at2_tr t.sq hp' hq']
  intro i hi
  exact ends_at' t i hi
theorem pull_tr {n : Nat} {T : Tab} {pl : List Nat} {s : Nat → Ed} (sq : Sq n T) : PullT (T, pl) s ↔ Pull (trT T, pl) s := by
  have hl := sq.rows
  have hl2 := (tr_sq sq).rows
  constructor
  · intro h q hq r hr
    have hq : q < n := by rw [← hl2]; exact hq
    have hr : r < n := by rw [← hl2]; exact hr
    show eLe (s (pl.getD r 0)) (eAdd (s (pl.getD q 0)) (at2 (trT T) q r))
    rw [at2_tr sq hq hr]
    exact h r (by show r < T.length; omega) q (by show q < T.length; omega)
  · intro h i hi j hj
    have hi : i < n := by rw [← hl]; exact hi
    have hj : j < n := by rw [← hl]; exact hj
    have := h j (by show j < (trT T).length; omega) i (by show i < (trT T).length; omega)
    have this : eLe (s (pl.getD i 0)) (eAdd (s (pl.getD j 0)) (at2 (trT T) j i)) := this
    rw [at2_tr sq hj hi] at this
    exact this
def unrolled59R (se : Sp3) : XK3 → TS3 := fun E =>
  (wSeq (wSet 3 (wOp oMulF (wOp oAddF (wVar 2) (wC (.int 1))) (wVar 0)))
  (wSeq (wSet 4 (wLst wNil))
  (wSeq (wFor (wRng1 (wCons (wVar 2) wNil)) (wgName 5) (wSeq (wIfS (wB (wOp (oEq false) (wVar 1) (wTup wNil))) (wRet (wC .non)) wNext)
  (wDrop (wBM oExtF (wVar 4) (wCons (wCallP se E (wCons (wVar 1) (wCons (wOp oAddF (wLstRgF2 (wOp oMulF (wVar 5) (wVar 0)) (wOp oMulF (wOp oAddF (wVar 5) (wC (.int 2))) (wVar 0))) (wLstF (wCons (wVar 3) wNil))) wNil))) wNil)))))
  (wRet (wFrz (wVar 4))))))
/-- the columns -/
def colsP (w L : Nat) (T : Tab) (k : Nat) : List Part := (List.range k).map fun t => (trT T, chainN w t ((L + 1) * w))
theorem colsP_succ {w L k : Nat} {T : Tab} : colsP w L T (k + 1) = colsP w L T k ++ [(trT T, chainN w k ((L + 1) * w))] := by
  unfold colsP; rw [List.range_succ, List.map_append]; rfl
theorem colsP_chain {B w L : Nat} {T : Tab} {ts : List Trip} (h : PEdges B ((L + 1) * w + 1) (colsP w L T L) ts) : PEdges B (((List.replicate L (trT T)).length + 1) * w + 1) (chainP w (List.replicate L (trT T)) []) ts := by
  rw [List.length_replicate]
  refine ⟨h.ok, fun s => ?_⟩
  rw [h.st]
  have e : chainP w (List.replicate L (trT T)) [] = ([], fieldN w ((L + 1) * w)) :: colsP w L T L := by
    unfold chainP colsP
    rw [List.length_replicate]
    congr 1
    refine List.map_congr_left fun k hk => ?_
    have hk := List.mem_range.mp hk
    congr 1
    rw [List.getD_eq_getElem?_getD, List.getElem?_replicate, if_pos hk]; rfl
  rw [e]
  constructor
  · intro a x hx
    rcases List.mem_cons.mp hx with rfl | hx
    · intro q hq; exact absurd hq (Nat.not_lt_zero _)
    · exact a x hx
  · intro a x hx
    exact a x (List.mem_cons_of_mem _ hx)
def SUnrolled59 (sp : Sp3) : Prop := ∀ (w L : Nat) (T : Tab) (Q : VK3) (E : XK3), 0 < w → w ≤ 3 → L ≤ 10 → (T = [] ∨ TabB 100 (2 * w + 1) T) → (T = [] → 0 < L → ∀ M, Q .non M) →
  ((T ≠ [] ∨ L = 0) → ∀ ts M, PEdges 100 ((L + 1) * w + 1) (colsP w L T L) ts → ts.length ≤ 100000 → Q (.rol (ts.map tripD)) M) → sp [.int w, tabD T, .int L] M0 Q E
theorem s_unrolled59 {se : Sp3} (ke : SEdges59 se) : SUnrolled59 (spOf 3 6 (unrolled59R se)) := by
  refine fun w L T Q E w0 w3 hL hT q1 q2 => ⟨rfl, ?_⟩
  have big : (1000000 : Nat) ≤ sizeLine := by decide
  show unrolled59R se E _ [some (.int w), some (tabD T), some (.int L), none, none, none] M0
  unfold unrolled59R
  have ez : ((L : Int) + 1) * (w : Int) = (((L + 1) * w : Nat) : Int) := by push_cast; rfl
  rw [st_seq, st_set]
  simp only [ex_c, ex_var, ex_op, ex_un, ex_b, ex_and, ex_or, ex_not, ex_andV, ex_orV, ex_notV, ex_if, ex_chain, ex_nil, ex_cons, ex_tup, ex_lst, ex_call, ex_callP, ex_cb, ex_bm, ex_rep, ex_sl, ex_noPart, ex_part, ex_yes, it_items, it_rng1, it_rng2, tg_name, tg_sub, tg_tup, tg_cons, tg_nil, gs_0, gs_s, ss_0, ss_s, op_ii, op_ss, op_tt, op_mm, op_sb, op_ng, op_iNf, op_iNt, op_lle, op_ixT, op_ixR, op_ixL, op_putE, op_appE, it_tupE, it_rolE, it_refE, lstOf_l, exL, asS_some, asI_int, asB_bl, asL_some, asN_some, ite3_t, ite3_f, bl_1, bl_lenT, bl_lenR, bl_lenL, bl_lenS, bl_tuple, bl_list, bl_abs, bl_intI, bl_intB, bl_max, bl_min, op_eqSf, op_eqSt, op_eqIf, op_eqIt, op_eqTf, op_eqTt, op_eqRf, op_eqRt, op_eqNf, op_eqNt, eqD_int, eqD_nil, pl_int, pl_nil, pl_non, pl_rnil, pl_bl, sl_tupE, sl_rolE, keep_ref, keep_tup, keep_rol, tp_int, tp_tup, tp_rol, tp_str, tp_bl, tp_non, tp_ref, oFd, oMd, oPw, oShl, oLt, oLe, oGt, oGe, op_in, op_cp, wipe_nil, wipe_cons, mset_same, true_and, and_true, isN_int, ex_lstF, ex_repF, ex_lgF1, ex_lgF2, ex_tupRg1, ex_tupRg2, ex_frz, ex_slF, ex_slM, sl_tupF, sl_rolF, op_iiF, op_ssF, op_ttF, op_rrF, op_rrM, op_mmF, op_repF, li_rol, li_ref, bl_listF, bl_allF, bl_anyF, asT_some, asJ_some, op_eqBf, op_eqBt, isN_non, Bool.not_true, Bool.not_false, rep2, ez]
  refine ⟨mulR (by omega) (by omega), ?_⟩
  try dsimp only
  rw [st_seq, st_set]
  simp only [ex_c, ex_var, ex_op, ex_un, ex_b, ex_and, ex_or, ex_not, ex_andV, ex_orV, ex_notV, ex_if, ex_chain, ex_nil, ex_cons, ex_tup, ex_lst, ex_call, ex_callP, ex_cb, ex_bm, ex_rep, ex_sl, ex_noPart, ex_part, ex_yes, it_items, it_rng1, it_rng2, tg_name, tg_sub, tg_tup, tg_cons, tg_nil, gs_0, gs_s, ss_0, ss_s, op_ii, op_ss, op_tt, op_mm, op_sb, op_ng, op_iNf, op_iNt, op_lle, op_ixT, op_ixR, op_ixL, op_putE, op_appE, it_tupE, it_rolE, it_refE, lstOf_l, exL, asS_some, asI_int, asB_bl, asL_some, asN_some, ite3_t, ite3_f, bl_1, bl_lenT, bl_lenR, bl_lenL, bl_lenS, bl_tuple, bl_list, bl_abs, bl_intI, bl_intB, bl_max, bl_min, op_eqSf, op_eqSt, op_eqIf, op_eqIt, op_eqTf, op_eqTt, op_eqRf, op_eqRt, op_eqNf, op_eqNt, eqD_int, eqD_nil, pl_int, pl_nil, pl_non, pl_rnil, pl_bl, sl_tupE, sl_rolE, keep_ref, keep_tup, keep_rol, tp_int, tp_tup, tp_rol, tp_str, tp_bl, tp_non, tp_ref, oFd, oMd, oPw, oShl, oLt, oLe, oGt, oGe, op_in, op_cp, wipe_nil, wipe_cons, mset_same, true_and, and_true, isN_int, ex_lstF, ex_repF, ex_lgF1, ex_lgF2, ex_tupRg1, ex_tupRg2, ex_frz, ex_slF, ex_slM, sl_tupF, sl_rolF, op_iiF, op_ssF, op_ttF, op_rrF, op_rrM, op_mmF, op_repF, li_rol, li_ref, bl_listF, bl_allF, bl_anyF, asT_some, asJ_some, op_eqBf, op_eqBt, isN_non, Bool.not_true, Bool.not_false, rep2]
  refine ⟨Nat.zero_le _, fun c hc => ?_⟩
  try dsimp only
  rw [st_seq, st_for]
  simp only [ex_c, ex_var, ex_op, ex_un, ex_b, ex_and, ex_or, ex_not, ex_andV, ex_orV, ex_notV, ex_if, ex_chain, ex_nil, ex_cons, ex_tup, ex_lst, ex_call, ex_callP, ex_cb, ex_bm, ex_rep, ex_sl, ex_noPart, ex_part, ex_yes, it_items, it_rng1, it_rng2, tg_name, tg_sub, tg_tup, tg_cons, tg_nil, gs_0, gs_s, ss_0, ss_s, op_ii, op_ss, op_tt, op_mm, op_sb, op_ng, op_iNf, op_iNt, op_lle, op_ixT, op_ixR, op_ixL, op_putE, op_appE, it_tupE, it_rolE, it_refE, lstOf_l, exL, asS_some, asI_int, asB_bl, asL_some, asN_some, ite3_t, ite3_f, bl_1, bl_lenT, bl_lenR, bl_lenL, bl_lenS, bl_tuple, bl_list, bl_abs, bl_intI, bl_intB, bl_max, bl_min, op_eqSf, op_eqSt, op_eqIf, op_eqIt, op_eqTf, op_eqTt, op_eqRf, op_eqRt, op_eqNf, op_eqNt, eqD_int, eqD_nil, pl_int, pl_nil, pl_non, pl_rnil, pl_bl, sl_tupE, sl_rolE, keep_ref, keep_tup, keep_rol, tp_int, tp_tup, tp_rol, tp_str, tp_bl, tp_non, tp_ref, oFd, oMd, oPw, oShl, oLt, oLe, oGt, oGe, op_in, op_cp, wipe_nil, wipe_cons, mset_same, true_and, and_true, isN_int, ex_lstF, ex_repF, ex_lgF1, ex_lgF2, ex_tupRg1, ex_tupRg2, ex_frz, ex_slF, ex_slM, sl_tupF, sl_rolF, op_iiF, op_ssF, op_ttF, op_rrF, op_rrM, op_mmF, op_repF, li_rol, li_ref, bl_listF, bl_allF, bl_anyF, asT_some, asJ_some, op_eqBf, op_eqBt, isN_non, Bool.not_true, Bool.not_false, rep2]
  refine ⟨by omega, by omega, ?_⟩
  rw [Int.toNat_natCast]
  have zw : (L + 1) * w ≤ 11 * 3 := Nat.mul_le_mul (by omega) w3
  by_cases hb : T = []
  · subst hb
    refine for_rg (fun t τ M => t = 0 ∧ M c = some (.lst []) ∧ ∃ x5, τ = [some (.int w), some (tabD []), some (.int L), some (.int (((L + 1) * w : Nat) : Int)), some (.ref c), x5]) ?_ ?_ ⟨rfl, mset_same, _, rfl⟩
    · rintro t τ M ht ⟨rfl, hM, x5, rfl⟩ X hX
      rw [tg_name, st_seq, st_if]
      simp only [ex_c, ex_var, ex_op, ex_un, ex_b, ex_and, ex_or, ex_not, ex_andV, ex_orV, ex_notV, ex_if, ex_chain, ex_nil, ex_cons, ex_tup, ex_lst, ex_call, ex_callP, ex_cb, ex_bm, ex_rep, ex_sl, ex_noPart, ex_part, ex_yes, it_items, it_rng1, it_rng2, tg_name, tg_sub, tg_tup, tg_cons, tg_nil, gs_0, gs_s, ss_0, ss_s, op_ii, op_ss, op_tt, op_mm, op_sb, op_ng, op_iNf, op_iNt, op_lle, op_ixT, op_ixR, op_ixL, op_putE, op_appE, it_tupE, it_rolE, it_refE, lstOf_l, exL, asS_some, asI_int, asB_bl, asL_some, asN_some, ite3_t, ite3_f, bl_1, bl_lenT, bl_lenR, bl_lenL, bl_lenS, bl_tuple, bl_list, bl_abs, bl_intI, bl_intB, bl_max, bl_min, op_eqSf, op_eqSt, op_eqIf, op_eqIt, op_eqTf, op_eqTt, op_eqRf, op_eqRt, op_eqNf, op_eqNt, eqD_int, eqD_nil, pl_int, pl_nil, pl_non, pl_rnil, pl_bl, sl_tupE, sl_rolE, keep_ref, keep_tup, keep_rol, tp_int, tp_tup, tp_rol, tp_str, tp_bl, tp_non, tp_ref, oFd, oMd, oPw, oShl, oLt, oLe, oGt, oGe, op_in, op_cp, wipe_nil, wipe_cons, mset_same, true_and, and_true, isN_int, ex_lstF, ex_repF, ex_lgF1, ex_lgF2, ex_tupRg1, ex_tupRg2, ex_frz, ex_slF, ex_slM, sl_tupF, sl_rolF, op_iiF, op_ssF, op_ttF, op_rrF, op_rrM, op_mmF, op_repF, li_rol, li_ref, bl_listF, bl_allF, bl_anyF, asT_some, asJ_some, op_eqBf, op_eqBt, isN_non, Bool.not_true, Bool.not_false, rep2, tabD, List.map_nil, op_eqTf, eqD_nil, List.isEmpty, pl_nil, tp_tup]
      rw [st_ret]
      simp only [ex_c, ex_var, ex_op, ex_un, ex_b, ex_and, ex_or, ex_not, ex_andV, ex_orV, ex_notV, ex_if, ex_chain, ex_nil, ex_cons, ex_tup, ex_lst, ex_call, ex_callP, ex_cb, ex_bm, ex_rep, ex_sl, ex_noPart, ex_part, ex_yes, it_items, it_rng1, it_rng2, tg_name, tg_sub, tg_tup, tg_cons, tg_nil, gs_0, gs_s, ss_0, ss_s, op_ii, op_ss, op_tt, op_mm, op_sb, op_ng, op_iNf, op_iNt, op_lle, op_ixT, op_ixR, op_ixL, op_putE, op_appE, it_tupE, it_rolE, it_refE, lstOf_l, exL, asS_some, asI_int, asB_bl, asL_some, asN_some, ite3_t, ite3_f, bl_1, bl_lenT, bl_lenR, bl_lenL, bl_lenS, bl_tuple, bl_list, bl_abs, bl_intI, bl_intB, bl_max, bl_min, op_eqSf, op_eqSt, op_eqIf, op_eqIt, op_eqTf, op_eqTt, op_eqRf, op_eqRt, op_eqNf, op_eqNt, eqD_int, eqD_nil, pl_int, pl_nil, pl_non, pl_rnil, pl_bl, sl_tupE, sl_rolE, keep_ref, keep_tup, keep_rol, tp_int, tp_tup, tp_rol, tp_str, tp_bl, tp_non, tp_ref, oFd, oMd, oPw, oShl, oLt, oLe, oGt, oGe, op_in, op_cp, wipe_nil, wipe_cons, mset_same, true_and, and_true, isN_int, ex_lstF, ex_repF, ex_lgF1, ex_lgF2, ex_tupRg1, ex_tupRg2, ex_frz, ex_slF, ex_slM, sl_tupF, sl_rolF, op_iiF, op_ssF, op_ttF, op_rrF, op_rrM, op_mmF, op_repF, li_rol, li_ref, bl_listF, bl_allF, bl_anyF, asT_some, asJ_some, op_eqBf, op_eqBt, isN_non, Bool.not_true, Bool.not_false, rep2]
      exact ⟨Nat.zero_le _, q1 rfl (by omega) _⟩
    · rintro τ M ⟨h0, hM, x5, rfl⟩
      subst h0
      try dsimp only
      rw [st_ret]
      simp only [ex_c, ex_var, ex_op, ex_un, ex_b, ex_and, ex_or, ex_not, ex_andV, ex_orV, ex_notV, ex_if, ex_chain, ex_nil, ex_cons, ex_tup, ex_lst, ex_call, ex_callP, ex_cb, ex_bm, ex_rep, ex_sl, ex_noPart, ex_part, ex_yes, it_items, it_rng1, it_rng2, tg_name, tg_sub, tg_tup, tg_cons, tg_nil, gs_0, gs_s, ss_0, ss_s, op_ii, op_ss, op_tt, op_mm, op_sb, op_ng, op_iNf, op_iNt, op_lle, op_ixT, op_ixR, op_ixL, op_putE, op_appE, it_tupE, it_rolE, it_refE, lstOf_l, exL, asS_some, asI_int, asB_bl, asL_some, asN_some, ite3_t, ite3_f, bl_1, bl_lenT, bl_lenR, bl_lenL, bl_lenS, bl_tuple, bl_list, bl_abs, bl_intI, bl_intB, bl_max, bl_min, op_eqSf, op_eqSt, op_eqIf, op_eqIt, op_eqTf, op_eqTt, op_eqRf, op_eqRt, op_eqNf, op_eqNt, eqD_int, eqD_nil, pl_int, pl_nil, pl_non, pl_rnil, pl_bl, sl_tupE, sl_rolE, keep_ref, keep_tup, keep_rol, tp_int, tp_tup, tp_rol, tp_str, tp_bl, tp_non, tp_ref, oFd, oMd, oPw, oShl, oLt, oLe, oGt, oGe, op_in, op_cp, wipe_nil, wipe_cons, mset_same, true_and, and_true, isN_int, ex_lstF, ex_repF, ex_lgF1, ex_lgF2, ex_tupRg1, ex_tupRg2, ex_frz, ex_slF, ex_slM, sl_tupF, sl_rolF, op_iiF, op_ssF, op_ttF, op_rrF, op_rrM, op_mmF, op_repF, li_rol, li_ref, bl_listF, bl_allF, bl_anyF, asT_some, asJ_some, op_eqBf, op_eqBt, isN_non, Bool.not_true, Bool.not_false, rep2, frz_l hM]
      exact q2 (.inr rfl) [] _ ⟨(fun t ht => nomatch ht), fun s => ⟨(fun _ x hx => nomatch hx), (fun _ e he => nomatch he)⟩⟩ (Nat.zero_le _)
  · have tT := hT.resolve_left hb
    refine for_rg (fun t τ M => t ≤ L ∧ (∃ ts : List Trip, M c = some (.lst (ts.map tripD)) ∧ ts.length ≤ 10000 * t ∧ PEdges 100 ((L + 1) * w + 1) (colsP w L T t) ts) ∧ ∃ x5, τ = [some (.int w), some (tabD T), some (.int L), some (.int (((L + 1) * w : Nat) : Int)), some (.ref c), x5]) ?_ ?_
      ⟨Nat.zero_le _, ⟨[], mset_same, Nat.zero_le _, ⟨(fun t ht => nomatch ht), fun s => ⟨(fun _ x hx => nomatch hx), (fun _ e he => nomatch he)⟩⟩⟩, _, rfl⟩
    · rintro t τ M ht ⟨_, ⟨ts, hM, hl, hpe⟩, x5, rfl⟩ X hX
      rw [tg_name, st_seq, st_if]
      simp only [ex_c, ex_var, ex_op, ex_un, ex_b, ex_and, ex_or, ex_not, ex_andV, ex_orV, ex_notV, ex_if, ex_chain, ex_nil, ex_cons, ex_tup, ex_lst, ex_call, ex_callP, ex_cb, ex_bm, ex_rep, ex_sl, ex_noPart, ex_part, ex_yes, it_items, it_rng1, it_rng2, tg_name, tg_sub, tg_tup, tg_cons, tg_nil, gs_0, gs_s, ss_0, ss_s, op_ii, op_ss, op_tt, op_mm, op_sb, op_ng, op_iNf, op_iNt, op_lle, op_ixT, op_ixR, op_ixL, op_putE, op_appE, it_tupE, it_rolE, it_refE, lstOf_l, exL, asS_some, asI_int, asB_bl, asL_some, asN_some, ite3_t, ite3_f, bl_1, bl_lenT, bl_lenR, bl_lenL, bl_lenS, bl_tuple, bl_list, bl_abs, bl_intI, bl_intB, bl_max, bl_min, op_eqSf, op_eqSt, op_eqIf, op_eqIt, op_eqTf, op_eqTt, op_eqRf, op_eqRt, op_eqNf, op_eqNt, eqD_int, eqD_nil, pl_int, pl_nil, pl_non, pl_rnil, pl_bl, sl_tupE, sl_rolE, keep_ref, keep_tup, keep_rol, tp_int, tp_tup, tp_rol, tp_str, tp_bl, tp_non, tp_ref, oFd, oMd, oPw, oShl, oLt, oLe, oGt, oGe, op_in, op_cp, wipe_nil, wipe_cons, mset_same, true_and, and_true, isN_int, ex_lstF, ex_repF, ex_lgF1, ex_lgF2, ex_tupRg1, ex_tupRg2, ex_frz, ex_slF, ex_slM, sl_tupF, sl_rolF, op_iiF, op_ssF, op_ttF, op_rrF, op_rrM, op_mmF, op_repF, li_rol, li_ref, bl_listF, bl_allF, bl_anyF, asT_some, asJ_some, op_eqBf, op_eqBt, isN_non, Bool.not_true, Bool.not_false, rep2, eq_tab tT.sq (show 0 < 2 * w + 1 by omega)]
      refine ⟨Nat.zero_le _, ?_⟩
      rw [st_next]
      try dsimp only
      rw [st_drop]
      obtain ⟨tw, htw⟩ : ∃ tw, tw = t * w := ⟨_, rfl⟩
      have e1 : (0 + (t : Int)) * (w : Int) = (tw : Int) := by rw [htw]; push_cast; rw [Int.zero_add]
      have e2 : (0 + (t : Int) + 2) * (w : Int) = ((tw + 2 * w : Nat) : Int) := by rw [htw]; push_cast; rw [Int.zero_add, Int.add_mul]
      have e3 : (((tw + 2 * w : Nat) : Int) - (tw : Int)).toNat = 2 * w := by omega
      have htw2 : tw ≤ 30 := by rw [htw]; exact Nat.le_trans (Nat.mul_le_mul (show t ≤ 10 by omega) w3) (by decide)
      have ec : rgD (tw : Int) (2 * w) ++ [D.int (((L + 1) * w : Nat) : Int)] = plD (chainN w t ((L + 1) * w)) := by
        rw [rgD_Nw]; unfold chainN plD; rw [List.map_append, htw]; rfl
      rw [ex_bm, ex_var, show getS [some (D.int w), some (tabD T), some (.int L), some (.int (((L + 1) * w : Nat) : Int)), some (.ref c), some (D.int (0 + (t : Int)))] 4 = some (.ref c) from rfl, asS_some]
      refine ⟨⟨_, hM⟩, ?_⟩
      simp only [ex_c, ex_var, ex_op, ex_un, ex_b, ex_and, ex_or, ex_not, ex_andV, ex_orV, ex_notV, ex_if, ex_chain, ex_nil, ex_cons, ex_tup, ex_lst, ex_call, ex_callP, ex_cb, ex_bm, ex_rep, ex_sl, ex_noPart, ex_part, ex_yes, it_items, it_rng1, it_rng2, tg_name, tg_sub, tg_tup, tg_cons, tg_nil, gs_0, gs_s, ss_0, ss_s, op_ii, op_ss, op_tt, op_mm, op_sb, op_ng, op_iNf, op_iNt, op_lle, op_ixT, op_ixR, op_ixL, op_putE, op_appE, it_tupE, it_rolE, it_refE, lstOf_l, exL, asS_some, asI_int, asB_bl, asL_some, asN_some, ite3_t, ite3_f, bl_1, bl_lenT, bl_lenR, bl_lenL, bl_lenS, bl_tuple, bl_list, bl_abs, bl_intI, bl_intB, bl_max, bl_min, op_eqSf, op_eqSt, op_eqIf, op_eqIt, op_eqTf, op_eqTt, op_eqRf, op_eqRt, op_eqNf, op_eqNt, eqD_int, eqD_nil, pl_int, pl_nil, pl_non, pl_rnil, pl_bl, sl_tupE, sl_rolE, keep_ref, keep_tup, keep_rol, tp_int, tp_tup, tp_rol, tp_str, tp_bl, tp_non, tp_ref, oFd, oMd, oPw, oShl, oLt, oLe, oGt, oGe, op_in, op_cp, wipe_nil, wipe_cons, mset_same, true_and, and_true, isN_int, ex_lstF, ex_repF, ex_lgF1, ex_lgF2, ex_tupRg1, ex_tupRg2, ex_frz, ex_slF, ex_slM, sl_tupF, sl_rolF, op_iiF, op_ssF, op_ttF, op_rrF, op_rrM, op_mmF, op_repF, li_rol, li_ref, bl_listF, bl_allF, bl_anyF, asT_some, asJ_some, op_eqBf, op_eqBt, isN_non, Bool.not_true, Bool.not_false, rep2, e1, e2, e3]
      refine ⟨mulR (by omega) (by omega), mulR (by omega) (by omega), ⟨by omega, by omega, by omega, by omega, by omega⟩, by show 1 ≤ sizeLine; omega, by rw [rgD_len]; show _ + 1 ≤ _; omega, ?_⟩
      rw [ec]
      have pok : PartOk 100 ((L + 1) * w + 1) (T, chainN w t ((L + 1) * w)) := part_ok tT (chain_len _ _ _) (chain_lt (Nat.mul_le_mul_right w (by omega)))
      refine ke ((L + 1) * w + 1) 100 (T, chainN w t ((L + 1) * w)) _ _ _ (by show T.length ≤ 100; rw [tT.rows]; omega) pok .r fun us M2 ok st ul => ?_
      simp only [ex_c, ex_var, ex_op, ex_un, ex_b, ex_and, ex_or, ex_not, ex_andV, ex_orV, ex_notV, ex_if, ex_chain, ex_nil, ex_cons, ex_tup, ex_lst, ex_call, ex_callP, ex_cb, ex_bm, ex_rep, ex_sl, ex_noPart, ex_part, ex_yes, it_items, it_rng1, it_rng2, tg_name, tg_sub, tg_tup, tg_cons, tg_nil, gs_0, gs_s, ss_0, ss_s, op_ii, op_ss, op_tt, op_mm, op_sb, op_ng, op_iNf, op_iNt, op_lle, op_ixT, op_ixR, op_ixL, op_putE, op_appE, it_tupE, it_rolE, it_refE, lstOf_l, exL, asS_some, asI_int, asB_bl, asL_some, asN_some, ite3_t, ite3_f, bl_1, bl_lenT, bl_lenR, bl_lenL, bl_lenS, bl_tuple, bl_list, bl_abs, bl_intI, bl_intB, bl_max, bl_min, op_eqSf, op_eqSt, op_eqIf, op_eqIt, op_eqTf, op_eqTt, op_eqRf, op_eqRt, op_eqNf, op_eqNt, eqD_int, eqD_nil, pl_int, pl_nil, pl_non, pl_rnil, pl_bl, sl_tupE, sl_rolE, keep_ref, keep_tup, keep_rol, tp_int, tp_tup, tp_rol, tp_str, tp_bl, tp_non, tp_ref, oFd, oMd, oPw, oShl, oLt, oLe, oGt, oGe, op_in, op_cp, wipe_nil, wipe_cons, mset_same, true_and, and_true, isN_int, ex_lstF, ex_repF, ex_lgF1, ex_lgF2, ex_tupRg1, ex_tupRg2, ex_frz, ex_slF, ex_slM, sl_tupF, sl_rolF, op_iiF, op_ssF, op_ttF, op_rrF, op_rrM, op_mmF, op_repF, li_rol, li_ref, bl_listF, bl_allF, bl_anyF, asT_some, asJ_some, op_eqBf, op_eqBt, isN_non, Bool.not_true, Bool.not_false, rep2, op_extF, hM]
      refine ⟨by rw [List.length_map, List.length_map]; omega, hX _ _ ⟨ht, ⟨ts ++ us, by rw [mset_same, List.map_append], by rw [List.length_append]; omega, ?_⟩, _, rfl⟩⟩
      rw [colsP_succ]
      exact hpe.app (.one ok fun s => (st s).trans (pull_tr tT.sq))
    · rintro τ M ⟨_, ⟨ts, hM, hl, hpe⟩, x5, rfl⟩
      try dsimp only
      rw [st_ret]
      simp only [ex_c, ex_var, ex_op, ex_un, ex_b, ex_and, ex_or, ex_not, ex_andV, ex_orV, ex_notV, ex_if, ex_chain, ex_nil, ex_cons, ex_tup, ex_lst, ex_call, ex_callP, ex_cb, ex_bm, ex_rep, ex_sl, ex_noPart, ex_part, ex_yes, it_items, it_rng1, it_rng2, tg_name, tg_sub, tg_tup, tg_cons, tg_nil, gs_0, gs_s, ss_0, ss_s, op_ii, op_ss, op_tt, op_mm, op_sb, op_ng, op_iNf, op_iNt, op_lle, op_ixT, op_ixR, op_ixL, op_putE, op_appE, it_tupE, it_rolE, it_refE, lstOf_l, exL, asS_some, asI_int, asB_bl, asL_some, asN_some, ite3_t, ite3_f, bl_1, bl_lenT, bl_lenR, bl_lenL, bl_lenS, bl_tuple, bl_list, bl_abs, bl_intI, bl_intB, bl_max, bl_min, op_eqSf, op_eqSt, op_eqIf, op_eqIt, op_eqTf, op_eqTt, op_eqRf, op_eqRt, op_eqNf, op_eqNt, eqD_int, eqD_nil, pl_int, pl_nil, pl_non, pl_rnil, pl_bl, sl_tupE, sl_rolE, keep_ref, keep_tup, keep_rol, tp_int, tp_tup, tp_rol, tp_str, tp_bl, tp_non, tp_ref, oFd, oMd, oPw, oShl, oLt, oLe, oGt, oGe, op_in, op_cp, wipe_nil, wipe_cons, mset_same, true_and, and_true, isN_int, ex_lstF, ex_repF, ex_lgF1, ex_lgF2, ex_tupRg1, ex_tupRg2, ex_frz, ex_slF, ex_slM, sl_tupF, sl_rolF, op_iiF, op_ssF, op_ttF, op_rrF, op_rrM, op_mmF, op_repF, li_rol, li_ref, bl_listF, bl_allF, bl_anyF, asT_some, asJ_some, op_eqBf, op_eqBt, isN_non, Bool.not_true, Bool.not_false, rep2, frz_l hM]
      exact q2 (.inl hb) ts _ hpe (by omega)
end L3
set_option Elab.async false
set_option linter.all false
set_option maxRecDepth 100000
set_option maxHeartbeats 4000000
namespace L3
open PySem PySem.Spec PyProof.Rows L2
def some59R (sl : Sp3) : XK3 → TS3 := fun E =>
  (wRet (wAndV (wOp (oIsN true) (wVar 0) (wC .non)) (wOp (oIsN true) (wCall sl E (wCons (wVar 0) (wCons (wVar 1) (wCons (wRepF (wC (.int 0)) (wVar 1)) wNil)))) (wC .non))))
structure SSome59 (sp : Sp3) : Prop where
  n : ∀ (n : Nat) (Q : VK3) (E : XK3), (∀ M, Q (.bl false) M) → sp [.non, .int n] M0 Q E
  t : ∀ (n B : Nat) (ts : List Trip) (Q : VK3) (E : XK3), n ≤ 1000 → TripsOk n B ts → (∀ b M, (b = true ↔ ∃ k, k ≤ n ∧ loosN (ts.map edgeOf) (zerosL n) (k + 1) = loosN (ts.map edgeOf) (zerosL n) k) → Q (.bl b) M) → sp [.rol (ts.map tripD), .int n] M0 Q E
theorem s_some59 {sl : Sp3} (kl : SLoos59 sl) : SSome59 (spOf 2 2 (some59R sl)) where
  n := by
    refine fun n Q E q => ⟨rfl, ?_⟩
    show some59R sl E _ [some .non, some (.int n)] M0
    unfold some59R
    rw [st_ret]
    simp only [ex_c, ex_var, ex_op, ex_un, ex_b, ex_and, ex_or, ex_not, ex_andV, ex_orV, ex_notV, ex_if, ex_chain, ex_nil, ex_cons, ex_tup, ex_lst, ex_call, ex_callP, ex_cb, ex_bm, ex_rep, ex_sl, ex_noPart, ex_part, ex_yes, it_items, it_rng1, it_rng2, tg_name, tg_sub, tg_tup, tg_cons, tg_nil, gs_0, gs_s, ss_0, ss_s, op_ii, op_ss, op_tt, op_mm, op_sb, op_ng, op_iNf, op_iNt, op_lle, op_ixT, op_ixR, op_ixL, op_putE, op_appE, it_tupE, it_rolE, it_refE, lstOf_l, exL, asS_some, asI_int, asB_bl, asL_some, asN_some, ite3_t, ite3_f, bl_1, bl_lenT, bl_lenR, bl_lenL, bl_lenS, bl_tuple, bl_list, bl_abs, bl_intI, bl_intB, bl_max, bl_min, op_eqSf, op_eqSt, op_eqIf, op_eqIt, op_eqTf, op_eqTt, op_eqRf, op_eqRt, op_eqNf, op_eqNt, eqD_int, eqD_nil, pl_int, pl_nil, pl_non, pl_rnil, pl_bl, sl_tupE, sl_rolE, keep_ref, keep_tup, keep_rol, tp_int, tp_tup, tp_rol, tp_str, tp_bl, tp_non, tp_ref, oFd, oMd, oPw, oShl, oLt, oLe, oGt, oGe, op_in, op_cp, wipe_nil, wipe_cons, mset_same, true_and, and_true, isN_int, ex_lstF, ex_repF, ex_lgF1, ex_lgF2, ex_tupRg1, ex_tupRg2, ex_frz, ex_slF, ex_slM, sl_tupF, sl_rolF, op_iiF, op_ssF, op_ttF, op_rrF, op_rrM, op_mmF, op_repF, li_rol, li_ref, bl_listF, bl_allF, bl_anyF, asT_some, asJ_some, op_eqBf, op_eqBt, isN_non, Bool.not_true, Bool.not_false, rep2]
    exact q _
  t := by
    refine fun n B ts Q E hn hts q => ⟨rfl, ?_⟩
    have big : (1000000 : Nat) ≤ sizeLine := by decide
    show some59R sl E _ [some (.rol (ts.map tripD)), some (.int n)] M0
    unfold some59R
    rw [st_ret]
    have hz : items M0 (.rol (List.replicate n (D.int 0))) = some ((zerosL n).map oD) := by
      unfold zerosL; rw [List.map_replicate]; rfl
    simp only [ex_c, ex_var, ex_op, ex_un, ex_b, ex_and, ex_or, ex_not, ex_andV, ex_orV, ex_notV, ex_if, ex_chain, ex_nil, ex_cons, ex_tup, ex_lst, ex_call, ex_callP, ex_cb, ex_bm, ex_rep, ex_sl, ex_noPart, ex_part, ex_yes, it_items, it_rng1, it_rng2, tg_name, tg_sub, tg_tup, tg_cons, tg_nil, gs_0, gs_s, ss_0, ss_s, op_ii, op_ss, op_tt, op_mm, op_sb, op_ng, op_iNf, op_iNt, op_lle, op_ixT, op_ixR, op_ixL, op_putE, op_appE, it_tupE, it_rolE, it_refE, lstOf_l, exL, asS_some, asI_int, asB_bl, asL_some, asN_some, ite3_t, ite3_f, bl_1, bl_lenT, bl_lenR, bl_lenL, bl_lenS, bl_tuple, bl_list, bl_abs, bl_intI, bl_intB, bl_max, bl_min, op_eqSf, op_eqSt, op_eqIf, op_eqIt, op_eqTf, op_eqTt, op_eqRf, op_eqRt, op_eqNf, op_eqNt, eqD_int, eqD_nil, pl_int, pl_nil, pl_non, pl_rnil, pl_bl, sl_tupE, sl_rolE, keep_ref, keep_tup, keep_rol, tp_int, tp_tup, tp_rol, tp_str, tp_bl, tp_non, tp_ref, oFd, oMd, oPw, oShl, oLt, oLe, oGt, oGe, op_in, op_cp, wipe_nil, wipe_cons, mset_same, true_and, and_true, isN_int, ex_lstF, ex_repF, ex_lgF1, ex_lgF2, ex_tupRg1, ex_tupRg2, ex_frz, ex_slF, ex_slM, sl_tupF, sl_rolF, op_iiF, op_ssF, op_ttF, op_rrF, op_rrM, op_mmF, op_repF, li_rol, li_ref, bl_listF, bl_allF, bl_anyF, asT_some, asJ_some, op_eqBf, op_eqBt, isN_non, Bool.not_true, Bool.not_false, rep2, Int.toNat_natCast]
    refine ⟨by omega, by omega, by omega, ?_⟩
    refine kl n B ts (zerosL n) _ _ _ _ hn (by unfold zerosL; rw [List.length_replicate]) hts hz (fun c M' k hk h1 _ _ _ => ?_) (fun c M' h _ _ => ?_)
    · (try simp only [ex_c, ex_var, ex_op, ex_un, ex_b, ex_and, ex_or, ex_not, ex_andV, ex_orV, ex_notV, ex_if, ex_chain, ex_nil, ex_cons, ex_tup, ex_lst, ex_call, ex_callP, ex_cb, ex_bm, ex_rep, ex_sl, ex_noPart, ex_part, ex_yes, it_items, it_rng1, it_rng2, tg_name, tg_sub, tg_tup, tg_cons, tg_nil, gs_0, gs_s, ss_0, ss_s, op_ii, op_ss, op_tt, op_mm, op_sb, op_ng, op_iNf, op_iNt, op_lle, op_ixT, op_ixR, op_ixL, op_putE, op_appE, it_tupE, it_rolE, it_refE, lstOf_l, exL, asS_some, asI_int, asB_bl, asL_some, asN_some, ite3_t, ite3_f, bl_1, bl_lenT, bl_lenR, bl_lenL, bl_lenS, bl_tuple, bl_list, bl_abs, bl_intI, bl_intB, bl_max, bl_min, op_eqSf, op_eqSt, op_eqIf, op_eqIt, op_eqTf, op_eqTt, op_eqRf, op_eqRt, op_eqNf, op_eqNt, eqD_int, eqD_nil, pl_int, pl_nil, pl_non, pl_rnil, pl_bl, sl_tupE, sl_rolE, keep_ref, keep_tup, keep_rol, tp_int, tp_tup, tp_rol, tp_str, tp_bl, tp_non, tp_ref, oFd, oMd, oPw, oShl, oLt, oLe, oGt, oGe, op_in, op_cp, wipe_nil, wipe_cons, mset_same, true_and, and_true, isN_int, ex_lstF, ex_repF, ex_lgF1, ex_lgF2, ex_tupRg1, ex_tupRg2, ex_frz, ex_slF, ex_slM, sl_tupF, sl_rolF, op_iiF, op_ssF, op_ttF, op_rrF, op_rrM, op_mmF, op_repF, li_rol, li_ref, bl_listF, bl_allF, bl_anyF, asT_some, asJ_some, op_eqBf, op_eqBt, isN_non, Bool.not_true, Bool.not_false, rep2])
      exact q true _ ⟨fun _ => ⟨k, hk, h1⟩, fun _ => rfl⟩
    · (try simp only [ex_c, ex_var, ex_op, ex_un, ex_b, ex_and, ex_or, ex_not, ex_andV, ex_orV, ex_notV, ex_if, ex_chain, ex_nil, ex_cons, ex_tup, ex_lst, ex_call, ex_callP, ex_cb, ex_bm, ex_rep, ex_sl, ex_noPart, ex_part, ex_yes, it_items, it_rng1, it_rng2, tg_name, tg_sub, tg_tup, tg_cons, tg_nil, gs_0, gs_s, ss_0, ss_s, op_ii, op_ss, op_tt, op_mm, op_sb, op_ng, op_iNf, op_iNt, op_lle, op_ixT, op_ixR, op_ixL, op_putE, op_appE, it_tupE, it_rolE, it_refE, lstOf_l, exL, asS_some, asI_int, asB_bl, asL_some, asN_some, ite3_t, ite3_f, bl_1, bl_lenT, bl_lenR, bl_lenL, bl_lenS, bl_tuple, bl_list, bl_abs, bl_intI, bl_intB, bl_max, bl_min, op_eqSf, op_eqSt, op_eqIf, op_eqIt, op_eqTf, op_eqTt, op_eqRf, op_eqRt, op_eqNf, op_eqNt, eqD_int, eqD_nil, pl_int, pl_nil, pl_non, pl_rnil, pl_bl, sl_tupE, sl_rolE, keep_ref, keep_tup, keep_rol, tp_int, tp_tup, tp_rol, tp_str, tp_bl, tp_non, tp_ref, oFd, oMd, oPw, oShl, oLt, oLe, oGt, oGe, op_in, op_cp, wipe_nil, wipe_cons, mset_same, true_and, and_true, isN_int, ex_lstF, ex_repF, ex_lgF1, ex_lgF2, ex_tupRg1, ex_tupRg2, ex_frz, ex_slF, ex_slM, sl_tupF, sl_rolF, op_iiF, op_ssF, op_ttF, op_rrF, op_rrM, op_mmF, op_repF, li_rol, li_ref, bl_listF, bl_allF, bl_anyF, asT_some, asJ_some, op_eqBf, op_eqBt, isN_non, Bool.not_true, Bool.not_false, rep2])
      exact q false _ ⟨(fun z => nomatch z), (fun ⟨k, hk, h1⟩ => absurd h1 (h k hk))⟩
/-- a row of Nones for each of some things -/
theorem lc_repF {τ : St3} {i j v w : Nat} {ds : List D} {M : Mp} {Q : VK3} (hs : getS τ i = some (.rol ds)) (hv : getS τ v = some (.int w)) (hvj : v ≠ j) (hd : ds.length ≤ 1000) (hw : w ≤ 1000)
    (q : ∀ as M', Rows M M' as (List.replicate ds.length (List.replicate (w + 1) none)) → Q (.rol (as.map D.ref)) M') : wLcF (wItems (wVar i)) (wgName j) wYes (wRep (wC .non) (wOp oAddF (wVar v) (wC (.int 1)))) [j] τ M Q := by
  have big : (1000000 : Nat) ≤ sizeLine := by decide
  have e1 : ((w : Int) + 1).toNat = w + 1 := by omega
  simp only [st_seq, st_next, st_break, st_cont, st_set, st_ret, st_retN, st_drop, st_if, st_asg, st_par, st_for, ex_c, ex_var, ex_op, ex_un, ex_b, ex_and, ex_or, ex_not, ex_andV, ex_orV, ex_notV, ex_if, ex_chain, ex_nil, ex_cons, ex_tup, ex_lst, ex_call, ex_callP, ex_cb, ex_bm, ex_rep, ex_lc, ex_sl, ex_noPart, ex_part, ex_yes, it_items, it_rng1, it_rng2, tg_name, tg_sub, tg_tup, tg_cons, tg_nil, gs_0, gs_s, ss_0, ss_s, op_ii, op_ss, op_tt, op_mm, op_sb, op_ng, op_iNf, op_iNt, op_lle, op_ixT, op_ixR, op_ixL, op_putE, op_appE, it_tupE, it_rolE, it_refE, lstOf_l, exL, asS_some, asI_int, asB_bl, asL_some, asN_some, ite3_t, ite3_f, bl_1, bl_lenT, bl_lenR, bl_lenL, bl_lenS, bl_tuple, bl_list, bl_abs, bl_intI, bl_intB, bl_max, bl_min, bl_repr, op_eqSf, op_eqSt, op_eqIf, op_eqIt, op_eqTf, op_eqTt, op_eqRf, op_eqRt, op_eqNf, op_eqNt, eqD_int, eqD_nil, pl_int, pl_nil, pl_non, pl_rnil, pl_bl, sl_tupE, sl_rolE, keep_ref, keep_tup, keep_rol, tp_int, tp_tup, tp_rol, tp_str, tp_bl, tp_non, tp_ref, oFd, oMd, oPw, oShl, oLt, oLe, oGt, oGe, op_in, op_cp, wipe_nil, wipe_cons, mset_same, true_and, and_true, isN_int, sz_0, sz_1, sz_2, sz_3, sz_4, sz_5, sz_6, sz_7, sz_8, sz_9, sz_10, sz_11, sz_12, ex_lstF, ex_repF, ex_lgF1, ex_lgF2, ex_tupRg1, ex_tupRg2, ex_lcF, ex_frz, ex_slF, ex_slM, sl_tupF, sl_rolF, op_iiF, op_ssF, op_ttF, op_rrF, op_rrM, op_mmF, op_repF, li_rol, li_ref, bl_listF, bl_allF, bl_anyF, asT_some, asJ_some, op_eqLf, op_eqLt, op_eqBf, op_eqBt, isN_non, Bool.not_true, Bool.not_false, hs]
  refine lc_pv (fun k acc M' => ∃ as, acc = as.map D.ref ∧ k ≤ ds.length ∧ Rows M M' as (List.replicate k (List.replicate (w + 1) none))) ?_ ?_ ⟨[], rfl, Nat.zero_le _, .nil⟩
  · rintro k d acc M' hd ⟨as, rfl, hk, hR⟩ X hX
    have hlt := (List.getElem?_eq_some_iff.mp hd).1
    refine ⟨True.intro, ?_⟩
    simp only [st_seq, st_next, st_break, st_cont, st_set, st_ret, st_retN, st_drop, st_if, st_asg, st_par, st_for, ex_c, ex_var, ex_op, ex_un, ex_b, ex_and, ex_or, ex_not, ex_andV, ex_orV, ex_notV, ex_if, ex_chain, ex_nil, ex_cons, ex_tup, ex_lst, ex_call, ex_callP, ex_cb, ex_bm, ex_rep, ex_lc, ex_sl, ex_noPart, ex_part, ex_yes, it_items, it_rng1, it_rng2, tg_name, tg_sub, tg_tup, tg_cons, tg_nil, gs_0, gs_s, ss_0, ss_s, op_ii, op_ss, op_tt, op_mm, op_sb, op_ng, op_iNf, op_iNt, op_lle, op_ixT, op_ixR, op_ixL, op_putE, op_appE, it_tupE, it_rolE, it_refE, lstOf_l, exL, asS_some, asI_int, asB_bl, asL_some, asN_some, ite3_t, ite3_f, bl_1, bl_lenT, bl_lenR, bl_lenL, bl_lenS, bl_tuple, bl_list, bl_abs, bl_intI, bl_intB, bl_max, bl_min, bl_repr, op_eqSf, op_eqSt, op_eqIf, op_eqIt, op_eqTf, op_eqTt, op_eqRf, op_eqRt, op_eqNf, op_eqNt, eqD_int, eqD_nil, pl_int, pl_nil, pl_non, pl_rnil, pl_bl, sl_tupE, sl_rolE, keep_ref, keep_tup, keep_rol, tp_int, tp_tup, tp_rol, tp_str, tp_bl, tp_non, tp_ref, oFd, oMd, oPw, oShl, oLt, oLe, oGt, oGe, op_in, op_cp, wipe_nil, wipe_cons, mset_same, true_and, and_true, isN_int, sz_0, sz_1, sz_2, sz_3, sz_4, sz_5, sz_6, sz_7, sz_8, sz_9, sz_10, sz_11, sz_12, ex_lstF, ex_repF, ex_lgF1, ex_lgF2, ex_tupRg1, ex_tupRg2, ex_lcF, ex_frz, ex_slF, ex_slM, sl_tupF, sl_rolF, op_iiF, op_ssF, op_ttF, op_rrF, op_rrM, op_mmF, op_repF, li_rol, li_ref, bl_listF, bl_allF, bl_anyF, asT_some, asJ_some, op_eqLf, op_eqLt, op_eqBf, op_eqBt, isN_non, Bool.not_true, Bool.not_false, ex_rep, getS_other hvj, hv, e1]
    have hlen := hR.len
    rw [List.length_replicate] at hlen
    refine ⟨by omega, by omega, by omega, fun p hp => ?_⟩
    refine ⟨by rw [List.length_map]; omega, hX _ _ ⟨as ++ [p], by simp, hlt, ?_⟩⟩
    have := hR.snoc (r := List.replicate (w + 1) none) hp
    rw [List.map_replicate] at this
    have e2 : List.replicate (k + 1) (List.replicate (w + 1) (none : Ed)) = List.replicate k (List.replicate (w + 1) none) ++ [List.replicate (w + 1) none] := List.replicate_succ'
    rw [e2]
    exact this
  · rintro acc M' ⟨as, rfl, hk, hR⟩
    exact ⟨True.intro, q _ _ hR⟩
theorem Rows.fresh {Ma M : Mp} {as : List Addr} {T : Tab} {c : Addr} {o : MO} (m : Rows Ma M as T) (hc : M c = none) (hl : as.length = T.length) : Rows Ma (mset M c o) as T :=
  ⟨m.le.new hc, m.len, fun i a r h1 h2 => by
    have h3 := m.row i a r h1 h2
    rw [mset_ne (ne_m h3 hc)]; exact h3, m.nd, m.new⟩
theorem Rows.only {Ma M M' : Mp} {as : List Addr} {T : Tab} {c : Addr} (m : Rows Ma M as T) (hc : M c = none) (o : Only c M M') : Rows Ma M' as T :=
  ⟨fun a u h => by have h2 := m.le a u h; rw [o a (ne_m h2 hc)]; exact h2, m.len, fun i a r h1 h2 => by
    have h3 := m.row i a r h1 h2
    rw [o a (ne_m h3 hc)]; exact h3, m.nd, m.new⟩
/-- a round that is still stays so -/
theorem still_stays {es : List Edge} {l : List Ed} {k : Nat} (h : loosN es l (k + 1) = loosN es l k) : ∀ j, k ≤ j → loosN es l j = loosN es l k := by
  intro j hj
  induction j with
  | zero => have : k = 0 := by omega
            rw [this]
  | succ j ih =>
    by_cases e : k = j + 1
    · rw [e]
    · have := ih (by omega)
      show loosL (loosN es l j) es = _
      rw [this]; exact h
def due59R (su ss sl : Sp3) : XK3 → TS3 := fun E =>
  (wSeq (wSet 3 (wCallP su E (wCons (wVar 0) (wCons (wVar 1) (wCons (wVar 2) wNil)))))
  (wSeq (wSet 4 (wOp oMulF (wOp oAddF (wVar 2) (wC (.int 1))) (wVar 0)))
  (wSeq (wIfS (wNot (wB (wCallP ss E (wCons (wVar 3) (wCons (wOp oAddF (wVar 4) (wC (.int 1))) wNil))))) (wRet (wTup wNil)) wNext)
  (wSeq (wSet 5 (wOp oAddF (wLstRgF1 (wVar 0)) (wLstF (wCons (wVar 4) wNil))))
  (wSeq (wSet 6 (wLcF (wItems (wVar 5)) (wgName 7) wYes (wRep (wC .non) (wOp oAddF (wVar 0) (wC (.int 1)))) [7]))
  (wSeq (wFor (wEnum (wCons (wVar 5) wNil)) (wgTupN 2 (wgCons (wgName 8) (wgCons (wgName 9) wgNil))) (wSeq (wSet 10 (wRep (wC .non) (wOp oAddF (wVar 4) (wC (.int 1)))))
  (wSeq (wAsg (wC (.int 0)) (wgSub (wVar 10) (wVar 9) oPut))
  (wSeq (wSet 10 (wCall sl E (wCons (wVar 3) (wCons (wOp oAddF (wVar 4) (wC (.int 1))) (wCons (wVar 10) wNil)))))
  (wFor (wEnum (wCons (wVar 5) wNil)) (wgTupN 2 (wgCons (wgName 7) (wgCons (wgName 11) wgNil))) (wAsg (wOp oIx (wVar 10) (wVar 11)) (wgSub (wOp oIx (wVar 6) (wVar 7)) (wVar 8) oPut)))))))
  (wRet (wCB bTuple (wCons (wLcF (wItems (wVar 6)) (wgName 12) wYes (wCB bTuple (wCons (wVar 12) wNil)) [12]) wNil)))))))))
def DueIs (w L : Nat) (T : Tab) (d : D) : Prop := (T = [] ∧ 0 < L ∧ d = .tup []) ∨ ((T ≠ [] ∨ L = 0) ∧ ∃ ts, PEdges 100 ((L + 1) * w + 1) (colsP w L T L) ts ∧ ((Bad ((L + 1) * w + 1) (at2 (mtab ((L + 1) * w + 1) ts)) ∧ d = .tup []) ∨
  ∃ S F, TabB (2 ^ ((L + 1) * w + 1) * 100) ((L + 1) * w + 1) S ∧ IsCl ((L + 1) * w + 1) (at2 (mtab ((L + 1) * w + 1) ts)) (at2 S) ∧ Sq (w + 1) F ∧ (∀ p q, p < w + 1 → q < w + 1 → at2 F p q = at2 S ((fieldN w ((L + 1) * w)).getD q 0) ((fieldN w ((L + 1) * w)).getD p 0)) ∧ d = tabD F))
def SDue59 (sp : Sp3) : Prop := ∀ (w L : Nat) (T : Tab) (Q : VK3) (E : XK3), 0 < w → w ≤ 3 → L ≤ 10 → (T = [] ∨ TabB 100 (2 * w + 1) T) → (∀ d M, DueIs w L T d → Q d M) → sp [.int w, tabD T, .int L] M0 Q E
theorem s_due59 {su ss sl : Sp3} (ku : SUnrolled59 su) (ks : SSome59 ss) (kl : SLoos59 sl) : SDue59 (spOf 3 13 (due59R su ss sl)) := by
  refine fun w L T Q E w0 w3 hL hT q => ⟨rfl, ?_⟩
  have big : (1000000 : Nat) ≤ sizeLine := by decide
  show due59R su ss sl E _ [some (.int w), some (tabD T), some (.int L), none, none, none, none, none, none, none, none, none, none] M0
  unfold due59R
  obtain ⟨z, hz⟩ : ∃ z, z = (L + 1) * w := ⟨_, rfl⟩
  have hz33 : z ≤ 33 := by rw [hz]; exact Nat.le_trans (Nat.mul_le_mul (show L + 1 ≤ 11 by omega) w3) (by decide)
  have hwz : w ≤ z := by rw [hz]; exact Nat.le_mul_of_pos_left w (Nat.succ_pos _)
  have ez : ((L : Int) + 1) * (w : Int) = (z : Int) := by rw [hz]; push_cast; rfl
  have ez1 : (z : Int) + 1 = ((z + 1 : Nat) : Int) := by omega
  rw [st_seq, st_set]
  simp only [ex_c, ex_var, ex_op, ex_un, ex_b, ex_and, ex_or, ex_not, ex_andV, ex_orV, ex_notV, ex_if, ex_chain, ex_nil, ex_cons, ex_tup, ex_lst, ex_call, ex_callP, ex_cb, ex_bm, ex_rep, ex_sl, ex_noPart, ex_part, ex_yes, it_items, it_rng1, it_rng2, tg_name, tg_sub, tg_tup, tg_cons, tg_nil, gs_0, gs_s, ss_0, ss_s, op_ii, op_ss, op_tt, op_mm, op_sb, op_ng, op_iNf, op_iNt, op_lle, op_ixT, op_ixR, op_ixL, op_putE, op_appE, it_tupE, it_rolE, it_refE, lstOf_l, exL, asS_some, asI_int, asB_bl, asL_some, asN_some, ite3_t, ite3_f, bl_1, bl_lenT, bl_lenR, bl_lenL, bl_lenS, bl_tuple, bl_list, bl_abs, bl_intI, bl_intB, bl_max, bl_min, op_eqSf, op_eqSt, op_eqIf, op_eqIt, op_eqTf, op_eqTt, op_eqRf, op_eqRt, op_eqNf, op_eqNt, eqD_int, eqD_nil, pl_int, pl_nil, pl_non, pl_rnil, pl_bl, sl_tupE, sl_rolE, keep_ref, keep_tup, keep_rol, tp_int, tp_tup, tp_rol, tp_str, tp_bl, tp_non, tp_ref, oFd, oMd, oPw, oShl, oLt, oLe, oGt, oGe, op_in, op_cp, wipe_nil, wipe_cons, mset_same, true_and, and_true, isN_int, ex_lstF, ex_repF, ex_lgF1, ex_lgF2, ex_tupRg1, ex_tupRg2, ex_frz, ex_slF, ex_slM, sl_tupF, sl_rolF, op_iiF, op_ssF, op_ttF, op_rrF, op_rrM, op_mmF, op_repF, li_rol, li_ref, bl_listF, bl_allF, bl_anyF, asT_some, asJ_some, op_eqBf, op_eqBt, isN_non, Bool.not_true, Bool.not_false, rep2]
  refine ku w L T _ _ w0 w3 hL hT (fun h1 h2 M => ?_) (fun h1 ts M hpe hl => ?_)
  · try dsimp only
    rw [st_seq, st_set]
    simp only [ex_c, ex_var, ex_op, ex_un, ex_b, ex_and, ex_or, ex_not, ex_andV, ex_orV, ex_notV, ex_if, ex_chain, ex_nil, ex_cons, ex_tup, ex_lst, ex_call, ex_callP, ex_cb, ex_bm, ex_rep, ex_sl, ex_noPart, ex_part, ex_yes, it_items, it_rng1, it_rng2, tg_name, tg_sub, tg_tup, tg_cons, tg_nil, gs_0, gs_s, ss_0, ss_s, op_ii, op_ss, op_tt, op_mm, op_sb, op_ng, op_iNf, op_iNt, op_lle, op_ixT, op_ixR, op_ixL, op_putE, op_appE, it_tupE, it_rolE, it_refE, lstOf_l, exL, asS_some, asI_int, asB_bl, asL_some, asN_some, ite3_t, ite3_f, bl_1, bl_lenT, bl_lenR, bl_lenL, bl_lenS, bl_tuple, bl_list, bl_abs, bl_intI, bl_intB, bl_max, bl_min, op_eqSf, op_eqSt, op_eqIf, op_eqIt, op_eqTf, op_eqTt, op_eqRf, op_eqRt, op_eqNf, op_eqNt, eqD_int, eqD_nil, pl_int, pl_nil, pl_non, pl_rnil, pl_bl, sl_tupE, sl_rolE, keep_ref, keep_tup, keep_rol, tp_int, tp_tup, tp_rol, tp_str, tp_bl, tp_non, tp_ref, oFd, oMd, oPw, oShl, oLt, oLe, oGt, oGe, op_in, op_cp, wipe_nil, wipe_cons, mset_same, true_and, and_true, isN_int, ex_lstF, ex_repF, ex_lgF1, ex_lgF2, ex_tupRg1, ex_tupRg2, ex_frz, ex_slF, ex_slM, sl_tupF, sl_rolF, op_iiF, op_ssF, op_ttF, op_rrF, op_rrM, op_mmF, op_repF, li_rol, li_ref, bl_listF, bl_allF, bl_anyF, asT_some, asJ_some, op_eqBf, op_eqBt, isN_non, Bool.not_true, Bool.not_false, rep2, ez]
    refine ⟨mulR (by omega) (by omega), ?_⟩
    try dsimp only
    rw [st_seq, st_if]
    simp only [ex_c, ex_var, ex_op, ex_un, ex_b, ex_and, ex_or, ex_not, ex_andV, ex_orV, ex_notV, ex_if, ex_chain, ex_nil, ex_cons, ex_tup, ex_lst, ex_call, ex_callP, ex_cb, ex_bm, ex_rep, ex_sl, ex_noPart, ex_part, ex_yes, it_items, it_rng1, it_rng2, tg_name, tg_sub, tg_tup, tg_cons, tg_nil, gs_0, gs_s, ss_0, ss_s, op_ii, op_ss, op_tt, op_mm, op_sb, op_ng, op_iNf, op_iNt, op_lle, op_ixT, op_ixR, op_ixL, op_putE, op_appE, it_tupE, it_rolE, it_refE, lstOf_l, exL, asS_some, asI_int, asB_bl, asL_some, asN_some, ite3_t, ite3_f, bl_1, bl_lenT, bl_lenR, bl_lenL, bl_lenS, bl_tuple, bl_list, bl_abs, bl_intI, bl_intB, bl_max, bl_min, op_eqSf, op_eqSt, op_eqIf, op_eqIt, op_eqTf, op_eqTt, op_eqRf, op_eqRt, op_eqNf, op_eqNt, eqD_int, eqD_nil, pl_int, pl_nil, pl_non, pl_rnil, pl_bl, sl_tupE, sl_rolE, keep_ref, keep_tup, keep_rol, tp_int, tp_tup, tp_rol, tp_str, tp_bl, tp_non, tp_ref, oFd, oMd, oPw, oShl, oLt, oLe, oGt, oGe, op_in, op_cp, wipe_nil, wipe_cons, mset_same, true_and, and_true, isN_int, ex_lstF, ex_repF, ex_lgF1, ex_lgF2, ex_tupRg1, ex_tupRg2, ex_frz, ex_slF, ex_slM, sl_tupF, sl_rolF, op_iiF, op_ssF, op_ttF, op_rrF, op_rrM, op_mmF, op_repF, li_rol, li_ref, bl_listF, bl_allF, bl_anyF, asT_some, asJ_some, op_eqBf, op_eqBt, isN_non, Bool.not_true, Bool.not_false, rep2, ez1]
    refine ks.n _ _ _ fun _ => ?_
    (try simp only [ex_c, ex_var, ex_op, ex_un, ex_b, ex_and, ex_or, ex_not, ex_andV, ex_orV, ex_notV, ex_if, ex_chain, ex_nil, ex_cons, ex_tup, ex_lst, ex_call, ex_callP, ex_cb, ex_bm, ex_rep, ex_sl, ex_noPart, ex_part, ex_yes, it_items, it_rng1, it_rng2, tg_name, tg_sub, tg_tup, tg_cons, tg_nil, gs_0, gs_s, ss_0, ss_s, op_ii, op_ss, op_tt, op_mm, op_sb, op_ng, op_iNf, op_iNt, op_lle, op_ixT, op_ixR, op_ixL, op_putE, op_appE, it_tupE, it_rolE, it_refE, lstOf_l, exL, asS_some, asI_int, asB_bl, asL_some, asN_some, ite3_t, ite3_f, bl_1, bl_lenT, bl_lenR, bl_lenL, bl_lenS, bl_tuple, bl_list, bl_abs, bl_intI, bl_intB, bl_max, bl_min, op_eqSf, op_eqSt, op_eqIf, op_eqIt, op_eqTf, op_eqTt, op_eqRf, op_eqRt, op_eqNf, op_eqNt, eqD_int, eqD_nil, pl_int, pl_nil, pl_non, pl_rnil, pl_bl, sl_tupE, sl_rolE, keep_ref, keep_tup, keep_rol, tp_int, tp_tup, tp_rol, tp_str, tp_bl, tp_non, tp_ref, oFd, oMd, oPw, oShl, oLt, oLe, oGt, oGe, op_in, op_cp, wipe_nil, wipe_cons, mset_same, true_and, and_true, isN_int, ex_lstF, ex_repF, ex_lgF1, ex_lgF2, ex_tupRg1, ex_tupRg2, ex_frz, ex_slF, ex_slM, sl_tupF, sl_rolF, op_iiF, op_ssF, op_ttF, op_rrF, op_rrM, op_mmF, op_repF, li_rol, li_ref, bl_listF, bl_allF, bl_anyF, asT_some, asJ_some, op_eqBf, op_eqBt, isN_non, Bool.not_true, Bool.not_false, rep2])
    rw [st_ret]
    simp only [ex_c, ex_var, ex_op, ex_un, ex_b, ex_and, ex_or, ex_not, ex_andV, ex_orV, ex_notV, ex_if, ex_chain, ex_nil, ex_cons, ex_tup, ex_lst, ex_call, ex_callP, ex_cb, ex_bm, ex_rep, ex_sl, ex_noPart, ex_part, ex_yes, it_items, it_rng1, it_rng2, tg_name, tg_sub, tg_tup, tg_cons, tg_nil, gs_0, gs_s, ss_0, ss_s, op_ii, op_ss, op_tt, op_mm, op_sb, op_ng, op_iNf, op_iNt, op_lle, op_ixT, op_ixR, op_ixL, op_putE, op_appE, it_tupE, it_rolE, it_refE, lstOf_l, exL, asS_some, asI_int, asB_bl, asL_some, asN_some, ite3_t, ite3_f, bl_1, bl_lenT, bl_lenR, bl_lenL, bl_lenS, bl_tuple, bl_list, bl_abs, bl_intI, bl_intB, bl_max, bl_min, op_eqSf, op_eqSt, op_eqIf, op_eqIt, op_eqTf, op_eqTt, op_eqRf, op_eqRt, op_eqNf, op_eqNt, eqD_int, eqD_nil, pl_int, pl_nil, pl_non, pl_rnil, pl_bl, sl_tupE, sl_rolE, keep_ref, keep_tup, keep_rol, tp_int, tp_tup, tp_rol, tp_str, tp_bl, tp_non, tp_ref, oFd, oMd, oPw, oShl, oLt, oLe, oGt, oGe, op_in, op_cp, wipe_nil, wipe_cons, mset_same, true_and, and_true, isN_int, ex_lstF, ex_repF, ex_lgF1, ex_lgF2, ex_tupRg1, ex_tupRg2, ex_frz, ex_slF, ex_slM, sl_tupF, sl_rolF, op_iiF, op_ssF, op_ttF, op_rrF, op_rrM, op_mmF, op_repF, li_rol, li_ref, bl_listF, bl_allF, bl_anyF, asT_some, asJ_some, op_eqBf, op_eqBt, isN_non, Bool.not_true, Bool.not_false, rep2]
    exact ⟨Nat.zero_le _, q _ _ (.inl ⟨h1, h2, rfl⟩)⟩
  · have hpe' := hpe
    rw [← hz] at hpe'
    try dsimp only
    rw [st_seq, st_set]
    simp only [ex_c, ex_var, ex_op, ex_un, ex_b, ex_and, ex_or, ex_not, ex_andV, ex_orV, ex_notV, ex_if, ex_chain, ex_nil, ex_cons, ex_tup, ex_lst, ex_call, ex_callP, ex_cb, ex_bm, ex_rep, ex_sl, ex_noPart, ex_part, ex_yes, it_items, it_rng1, it_rng2, tg_name, tg_sub, tg_tup, tg_cons, tg_nil, gs_0, gs_s, ss_0, ss_s, op_ii, op_ss, op_tt, op_mm, op_sb, op_ng, op_iNf, op_iNt, op_lle, op_ixT, op_ixR, op_ixL, op_putE, op_appE, it_tupE, it_rolE, it_refE, lstOf_l, exL, asS_some, asI_int, asB_bl, asL_some, asN_some, ite3_t, ite3_f, bl_1, bl_lenT, bl_lenR, bl_lenL, bl_lenS, bl_tuple, bl_list, bl_abs, bl_intI, bl_intB, bl_max, bl_min, op_eqSf, op_eqSt, op_eqIf, op_eqIt, op_eqTf, op_eqTt, op_eqRf, op_eqRt, op_eqNf, op_eqNt, eqD_int, eqD_nil, pl_int, pl_nil, pl_non, pl_rnil, pl_bl, sl_tupE, sl_rolE, keep_ref, keep_tup, keep_rol, tp_int, tp_tup, tp_rol, tp_str, tp_bl, tp_non, tp_ref, oFd, oMd, oPw, oShl, oLt, oLe, oGt, oGe, op_in, op_cp, wipe_nil, wipe_cons, mset_same, true_and, and_true, isN_int, ex_lstF, ex_repF, ex_lgF1, ex_lgF2, ex_tupRg1, ex_tupRg2, ex_frz, ex_slF, ex_slM, sl_tupF, sl_rolF, op_iiF, op_ssF, op_ttF, op_rrF, op_rrM, op_mmF, op_repF, li_rol, li_ref, bl_listF, bl_allF, bl_anyF, asT_some, asJ_some, op_eqBf, op_eqBt, isN_non, Bool.not_true, Bool.not_false, rep2, ez]
    refine ⟨mulR (by omega) (by omega), ?_⟩
    try dsimp only
    rw [st_seq, st_if]
    simp only [ex_c, ex_var, ex_op, ex_un, ex_b, ex_and, ex_or, ex_not, ex_andV, ex_orV, ex_notV, ex_if, ex_chain, ex_nil, ex_cons, ex_tup, ex_lst, ex_call, ex_callP, ex_cb, ex_bm, ex_rep, ex_sl, ex_noPart, ex_part, ex_yes, it_items, it_rng1, it_rng2, tg_name, tg_sub, tg_tup, tg_cons, tg_nil, gs_0, gs_s, ss_0, ss_s, op_ii, op_ss, op_tt, op_mm, op_sb, op_ng, op_iNf, op_iNt, op_lle, op_ixT, op_ixR, op_ixL, op_putE, op_appE, it_tupE, it_rolE, it_refE, lstOf_l, exL, asS_some, asI_int, asB_bl, asL_some, asN_some, ite3_t, ite3_f, bl_1, bl_lenT, bl_lenR, bl_lenL, bl_lenS, bl_tuple, bl_list, bl_abs, bl_intI, bl_intB, bl_max, bl_min, op_eqSf, op_eqSt, op_eqIf, op_eqIt, op_eqTf, op_eqTt, op_eqRf, op_eqRt, op_eqNf, op_eqNt, eqD_int, eqD_nil, pl_int, pl_nil, pl_non, pl_rnil, pl_bl, sl_tupE, sl_rolE, keep_ref, keep_tup, keep_rol, tp_int, tp_tup, tp_rol, tp_str, tp_bl, tp_non, tp_ref, oFd, oMd, oPw, oShl, oLt, oLe, oGt, oGe, op_in, op_cp, wipe_nil, wipe_cons, mset_same, true_and, and_true, isN_int, ex_lstF, ex_repF, ex_lgF1, ex_lgF2, ex_tupRg1, ex_tupRg2, ex_frz, ex_slF, ex_slM, sl_tupF, sl_rolF, op_iiF, op_ssF, op_ttF, op_rrF, op_rrM, op_mmF, op_repF, li_rol, li_ref, bl_listF, bl_allF, bl_anyF, asT_some, asJ_some, op_eqBf, op_eqBt, isN_non, Bool.not_true, Bool.not_false, rep2, ez1]
    refine ks.t (z + 1) 100 ts _ _ (by omega) hpe'.ok fun b _ hb => ?_
    have hE := es_mtab (n := z + 1) (ts := ts) fun t ht => (hpe'.ok t ht).1
    have tX := mtab_b (n := z + 1) (B := 100) (ts := ts) fun t ht => (hpe'.ok t ht).2
    rw [still_iff tX (by decide) (by omega) hE] at hb
    cases b with
    | false =>
      (try simp only [ex_c, ex_var, ex_op, ex_un, ex_b, ex_and, ex_or, ex_not, ex_andV, ex_orV, ex_notV, ex_if, ex_chain, ex_nil, ex_cons, ex_tup, ex_lst, ex_call, ex_callP, ex_cb, ex_bm, ex_rep, ex_sl, ex_noPart, ex_part, ex_yes, it_items, it_rng1, it_rng2, tg_name, tg_sub, tg_tup, tg_cons, tg_nil, gs_0, gs_s, ss_0, ss_s, op_ii, op_ss, op_tt, op_mm, op_sb, op_ng, op_iNf, op_iNt, op_lle, op_ixT, op_ixR, op_ixL, op_putE, op_appE, it_tupE, it_rolE, it_refE, lstOf_l, exL, asS_some, asI_int, asB_bl, asL_some, asN_some, ite3_t, ite3_f, bl_1, bl_lenT, bl_lenR, bl_lenL, bl_lenS, bl_tuple, bl_list, bl_abs, bl_intI, bl_intB, bl_max, bl_min, op_eqSf, op_eqSt, op_eqIf, op_eqIt, op_eqTf, op_eqTt, op_eqRf, op_eqRt, op_eqNf, op_eqNt, eqD_int, eqD_nil, pl_int, pl_nil, pl_non, pl_rnil, pl_bl, sl_tupE, sl_rolE, keep_ref, keep_tup, keep_rol, tp_int, tp_tup, tp_rol, tp_str, tp_bl, tp_non, tp_ref, oFd, oMd, oPw, oShl, oLt, oLe, oGt, oGe, op_in, op_cp, wipe_nil, wipe_cons, mset_same, true_and, and_true, isN_int, ex_lstF, ex_repF, ex_lgF1, ex_lgF2, ex_tupRg1, ex_tupRg2, ex_frz, ex_slF, ex_slM, sl_tupF, sl_rolF, op_iiF, op_ssF, op_ttF, op_rrF, op_rrM, op_mmF, op_repF, li_rol, li_ref, bl_listF, bl_allF, bl_anyF, asT_some, asJ_some, op_eqBf, op_eqBt, isN_non, Bool.not_true, Bool.not_false, rep2])
      rw [st_ret]
      simp only [ex_c, ex_var, ex_op, ex_un, ex_b, ex_and, ex_or, ex_not, ex_andV, ex_orV, ex_notV, ex_if, ex_chain, ex_nil, ex_cons, ex_tup, ex_lst, ex_call, ex_callP, ex_cb, ex_bm, ex_rep, ex_sl, ex_noPart, ex_part, ex_yes, it_items, it_rng1, it_rng2, tg_name, tg_sub, tg_tup, tg_cons, tg_nil, gs_0, gs_s, ss_0, ss_s, op_ii, op_ss, op_tt, op_mm, op_sb, op_ng, op_iNf, op_iNt, op_lle, op_ixT, op_ixR, op_ixL, op_putE, op_appE, it_tupE, it_rolE, it_refE, lstOf_l, exL, asS_some, asI_int, asB_bl, asL_some, asN_some, ite3_t, ite3_f, bl_1, bl_lenT, bl_lenR, bl_lenL, bl_lenS, bl_tuple, bl_list, bl_abs, bl_intI, bl_intB, bl_max, bl_min, op_eqSf, op_eqSt, op_eqIf, op_eqIt, op_eqTf, op_eqTt, op_eqRf, op_eqRt, op_eqNf, op_eqNt, eqD_int, eqD_nil, pl_int, pl_nil, pl_non, pl_rnil, pl_bl, sl_tupE, sl_rolE, keep_ref, keep_tup, keep_rol, tp_int, tp_tup, tp_rol, tp_str, tp_bl, tp_non, tp_ref, oFd, oMd, oPw, oShl, oLt, oLe, oGt, oGe, op_in, op_cp, wipe_nil, wipe_cons, mset_same, true_and, and_true, isN_int, ex_lstF, ex_repF, ex_lgF1, ex_lgF2, ex_tupRg1, ex_tupRg2, ex_frz, ex_slF, ex_slM, sl_tupF, sl_rolF, op_iiF, op_ssF, op_ttF, op_rrF, op_rrM, op_mmF, op_repF, li_rol, li_ref, bl_listF, bl_allF, bl_anyF, asT_some, asJ_some, op_eqBf, op_eqBt, isN_non, Bool.not_true, Bool.not_false, rep2]
      have bad : Bad (z + 1) (at2 (mtab (z + 1) ts)) := Classical.byContradiction fun h => by have := hb.mpr h; cases this
      rw [hz] at bad
      exact ⟨Nat.zero_le _, q _ _ (.inr ⟨h1, ts, hpe, .inl ⟨bad, rfl⟩⟩)⟩
    | true =>
      (try simp only [ex_c, ex_var, ex_op, ex_un, ex_b, ex_and, ex_or, ex_not, ex_andV, ex_orV, ex_notV, ex_if, ex_chain, ex_nil, ex_cons, ex_tup, ex_lst, ex_call, ex_callP, ex_cb, ex_bm, ex_rep, ex_sl, ex_noPart, ex_part, ex_yes, it_items, it_rng1, it_rng2, tg_name, tg_sub, tg_tup, tg_cons, tg_nil, gs_0, gs_s, ss_0, ss_s, op_ii, op_ss, op_tt, op_mm, op_sb, op_ng, op_iNf, op_iNt, op_lle, op_ixT, op_ixR, op_ixL, op_putE, op_appE, it_tupE, it_rolE, it_refE, lstOf_l, exL, asS_some, asI_int, asB_bl, asL_some, asN_some, ite3_t, ite3_f, bl_1, bl_lenT, bl_lenR, bl_lenL, bl_lenS, bl_tuple, bl_list, bl_abs, bl_intI, bl_intB, bl_max, bl_min, op_eqSf, op_eqSt, op_eqIf, op_eqIt, op_eqTf, op_eqTt, op_eqRf, op_eqRt, op_eqNf, op_eqNt, eqD_int, eqD_nil, pl_int, pl_nil, pl_non, pl_rnil, pl_bl, sl_tupE, sl_rolE, keep_ref, keep_tup, keep_rol, tp_int, tp_tup, tp_rol, tp_str, tp_bl, tp_non, tp_ref, oFd, oMd, oPw, oShl, oLt, oLe, oGt, oGe, op_in, op_cp, wipe_nil, wipe_cons, mset_same, true_and, and_true, isN_int, ex_lstF, ex_repF, ex_lgF1, ex_lgF2, ex_tupRg1, ex_tupRg2, ex_frz, ex_slF, ex_slM, sl_tupF, sl_rolF, op_iiF, op_ssF, op_ttF, op_rrF, op_rrM, op_mmF, op_repF, li_rol, li_ref, bl_listF, bl_allF, bl_anyF, asT_some, asJ_some, op_eqBf, op_eqBt, isN_non, Bool.not_true, Bool.not_false, rep2])
      rw [st_next]
      have nb := hb.mp rfl
      obtain ⟨S, tS, cl⟩ : ∃ S, TabB (2 ^ (z + 1) * 100) (z + 1) S ∧ IsCl (z + 1) (at2 (mtab (z + 1) ts)) (at2 S) := by
        obtain ⟨d, hd⟩ := closes_ex tX (show 0 < 100 by decide)
        rcases hd with ⟨b, _⟩ | ⟨S, t, c, _⟩
        · exact absurd b nb
        · exact ⟨S, t, c⟩
      clear hb nb
      obtain ⟨pl, hpl⟩ : ∃ pl, pl = fieldN w z := ⟨_, rfl⟩
      have pll : pl.length = w + 1 := by rw [hpl, field_len]
      have plz : ∀ i, i < w + 1 → pl.getD i 0 < z + 1 := fun i hi => by
        rw [hpl, fieldN_get hi]; split <;> omega
      have ep : rgD 0 w ++ [D.int (z : Int)] = plD pl := by
        rw [rgD_N, hpl]; unfold fieldN plD; rw [List.map_append]; rfl
      try dsimp only
      rw [st_seq, st_set]
      simp only [ex_c, ex_var, ex_op, ex_un, ex_b, ex_and, ex_or, ex_not, ex_andV, ex_orV, ex_notV, ex_if, ex_chain, ex_nil, ex_cons, ex_tup, ex_lst, ex_call, ex_callP, ex_cb, ex_bm, ex_rep, ex_sl, ex_noPart, ex_part, ex_yes, it_items, it_rng1, it_rng2, tg_name, tg_sub, tg_tup, tg_cons, tg_nil, gs_0, gs_s, ss_0, ss_s, op_ii, op_ss, op_tt, op_mm, op_sb, op_ng, op_iNf, op_iNt, op_lle, op_ixT, op_ixR, op_ixL, op_putE, op_appE, it_tupE, it_rolE, it_refE, lstOf_l, exL, asS_some, asI_int, asB_bl, asL_some, asN_some, ite3_t, ite3_f, bl_1, bl_lenT, bl_lenR, bl_lenL, bl_lenS, bl_tuple, bl_list, bl_abs, bl_intI, bl_intB, bl_max, bl_min, op_eqSf, op_eqSt, op_eqIf, op_eqIt, op_eqTf, op_eqTt, op_eqRf, op_eqRt, op_eqNf, op_eqNt, eqD_int, eqD_nil, pl_int, pl_nil, pl_non, pl_rnil, pl_bl, sl_tupE, sl_rolE, keep_ref, keep_tup, keep_rol, tp_int, tp_tup, tp_rol, tp_str, tp_bl, tp_non, tp_ref, oFd, oMd, oPw, oShl, oLt, oLe, oGt, oGe, op_in, op_cp, wipe_nil, wipe_cons, mset_same, true_and, and_true, isN_int, ex_lstF, ex_repF, ex_lgF1, ex_lgF2, ex_tupRg1, ex_tupRg2, ex_frz, ex_slF, ex_slM, sl_tupF, sl_rolF, op_iiF, op_ssF, op_ttF, op_rrF, op_rrM, op_mmF, op_repF, li_rol, li_ref, bl_listF, bl_allF, bl_anyF, asT_some, asJ_some, op_eqBf, op_eqBt, isN_non, Bool.not_true, Bool.not_false, rep2, Int.toNat_natCast]
      refine ⟨⟨by omega, by omega⟩, by show 1 ≤ sizeLine; omega, by rw [rgD_len]; show w + 1 ≤ _; omega, ?_⟩
      rw [ep]
      have pdl : (plD pl).length = w + 1 := by unfold plD; rw [List.length_map, pll]
      try dsimp only
      rw [st_seq, st_set]
      refine lc_repF (ds := plD pl) (w := w) rfl rfl (by decide) (by omega) (by omega) fun as Mr hR => ?_
      rw [pdl] at hR
      try dsimp only
      rw [st_seq, st_for, it_enumF]
      simp only [ex_c, ex_var, ex_op, ex_un, ex_b, ex_and, ex_or, ex_not, ex_andV, ex_orV, ex_notV, ex_if, ex_chain, ex_nil, ex_cons, ex_tup, ex_lst, ex_call, ex_callP, ex_cb, ex_bm, ex_rep, ex_sl, ex_noPart, ex_part, ex_yes, it_items, it_rng1, it_rng2, tg_name, tg_sub, tg_tup, tg_cons, tg_nil, gs_0, gs_s, ss_0, ss_s, op_ii, op_ss, op_tt, op_mm, op_sb, op_ng, op_iNf, op_iNt, op_lle, op_ixT, op_ixR, op_ixL, op_putE, op_appE, it_tupE, it_rolE, it_refE, lstOf_l, exL, asS_some, asI_int, asB_bl, asL_some, asN_some, ite3_t, ite3_f, bl_1, bl_lenT, bl_lenR, bl_lenL, bl_lenS, bl_tuple, bl_list, bl_abs, bl_intI, bl_intB, bl_max, bl_min, op_eqSf, op_eqSt, op_eqIf, op_eqIt, op_eqTf, op_eqTt, op_eqRf, op_eqRt, op_eqNf, op_eqNt, eqD_int, eqD_nil, pl_int, pl_nil, pl_non, pl_rnil, pl_bl, sl_tupE, sl_rolE, keep_ref, keep_tup, keep_rol, tp_int, tp_tup, tp_rol, tp_str, tp_bl, tp_non, tp_ref, oFd, oMd, oPw, oShl, oLt, oLe, oGt, oGe, op_in, op_cp, wipe_nil, wipe_cons, mset_same, true_and, and_true, isN_int, ex_lstF, ex_repF, ex_lgF1, ex_lgF2, ex_tupRg1, ex_tupRg2, ex_frz, ex_slF, ex_slM, sl_tupF, sl_rolF, op_iiF, op_ssF, op_ttF, op_rrF, op_rrM, op_mmF, op_repF, li_rol, li_ref, bl_listF, bl_allF, bl_anyF, asT_some, asJ_some, op_eqBf, op_eqBt, isN_non, Bool.not_true, Bool.not_false, rep2]
      refine for_enQ (fun j τ M => j ≤ w + 1 ∧ (∃ F, Rows M0 M as F ∧ Sq (w + 1) F ∧ ∀ p q, p < w + 1 → q < w + 1 → at2 F p q = if q < j then at2 S (pl.getD q 0) (pl.getD p 0) else none) ∧ ∃ x7 x8 x9 x10 x11, τ = [some (.int w), some (tabD T), some (.int L), some (.rol (ts.map tripD)), some (.int z), some (.rol (plD pl)), some (.rol (as.map D.ref)), x7, x8, x9, x10, x11, none]) (fun _ _ _ _ => True.intro) ?_ ?_
        ⟨Nat.zero_le _, ⟨_, hR, Sq.empty (n := w + 1), fun p q hp hq => by rw [if_neg (by omega)]; exact at2_empty⟩, _, _, _, _, _, rfl⟩
      · rintro j d τ M2 hd ⟨_, ⟨F, hF, sqF, hat⟩, x7, x8, x9, x10, x11, rfl⟩ X hX
        have hj : j < w + 1 := by rw [← pdl]; exact (List.getElem?_eq_some_iff.mp hd).1
        have hdv : d = .int ((pl.getD j 0 : Nat) : Int) := by
          have := plD_get (ps := pl) (i := j) (by omega)
          rw [atI_nat hd] at this
          exact Option.some.inj this
        subst hdv
        have hst := plz j hj
        generalize hs : pl.getD j 0 = st at hst
        simp only [ex_c, ex_var, ex_op, ex_un, ex_b, ex_and, ex_or, ex_not, ex_andV, ex_orV, ex_notV, ex_if, ex_chain, ex_nil, ex_cons, ex_tup, ex_lst, ex_call, ex_callP, ex_cb, ex_bm, ex_rep, ex_sl, ex_noPart, ex_part, ex_yes, it_items, it_rng1, it_rng2, tg_name, tg_sub, tg_tup, tg_cons, tg_nil, gs_0, gs_s, ss_0, ss_s, op_ii, op_ss, op_tt, op_mm, op_sb, op_ng, op_iNf, op_iNt, op_lle, op_ixT, op_ixR, op_ixL, op_putE, op_appE, it_tupE, it_rolE, it_refE, lstOf_l, exL, asS_some, asI_int, asB_bl, asL_some, asN_some, ite3_t, ite3_f, bl_1, bl_lenT, bl_lenR, bl_lenL, bl_lenS, bl_tuple, bl_list, bl_abs, bl_intI, bl_intB, bl_max, bl_min, op_eqSf, op_eqSt, op_eqIf, op_eqIt, op_eqTf, op_eqTt, op_eqRf, op_eqRt, op_eqNf, op_eqNt, eqD_int, eqD_nil, pl_int, pl_nil, pl_non, pl_rnil, pl_bl, sl_tupE, sl_rolE, keep_ref, keep_tup, keep_rol, tp_int, tp_tup, tp_rol, tp_str, tp_bl, tp_non, tp_ref, oFd, oMd, oPw, oShl, oLt, oLe, oGt, oGe, op_in, op_cp, wipe_nil, wipe_cons, mset_same, true_and, and_true, isN_int, ex_lstF, ex_repF, ex_lgF1, ex_lgF2, ex_tupRg1, ex_tupRg2, ex_frz, ex_slF, ex_slM, sl_tupF, sl_rolF, op_iiF, op_ssF, op_ttF, op_rrF, op_rrM, op_mmF, op_repF, li_rol, li_ref, bl_listF, bl_allF, bl_anyF, asT_some, asJ_some, op_eqBf, op_eqBt, isN_non, Bool.not_true, Bool.not_false, rep2, List.length_cons, List.length_nil]
        rw [st_seq, st_set]
        simp only [ex_c, ex_var, ex_op, ex_un, ex_b, ex_and, ex_or, ex_not, ex_andV, ex_orV, ex_notV, ex_if, ex_chain, ex_nil, ex_cons, ex_tup, ex_lst, ex_call, ex_callP, ex_cb, ex_bm, ex_rep, ex_sl, ex_noPart, ex_part, ex_yes, it_items, it_rng1, it_rng2, tg_name, tg_sub, tg_tup, tg_cons, tg_nil, gs_0, gs_s, ss_0, ss_s, op_ii, op_ss, op_tt, op_mm, op_sb, op_ng, op_iNf, op_iNt, op_lle, op_ixT, op_ixR, op_ixL, op_putE, op_appE, it_tupE, it_rolE, it_refE, lstOf_l, exL, asS_some, asI_int, asB_bl, asL_some, asN_some, ite3_t, ite3_f, bl_1, bl_lenT, bl_lenR, bl_lenL, bl_lenS, bl_tuple, bl_list, bl_abs, bl_intI, bl_intB, bl_max, bl_min, op_eqSf, op_eqSt, op_eqIf, op_eqIt, op_eqTf, op_eqTt, op_eqRf, op_eqRt, op_eqNf, op_eqNt, eqD_int, eqD_nil, pl_int, pl_nil, pl_non, pl_rnil, pl_bl, sl_tupE, sl_rolE, keep_ref, keep_tup, keep_rol, tp_int, tp_tup, tp_rol, tp_str, tp_bl, tp_non, tp_ref, oFd, oMd, oPw, oShl, oLt, oLe, oGt, oGe, op_in, op_cp, wipe_nil, wipe_cons, mset_same, true_and, and_true, isN_int, ex_lstF, ex_repF, ex_lgF1, ex_lgF2, ex_tupRg1, ex_tupRg2, ex_frz, ex_slF, ex_slM, sl_tupF, sl_rolF, op_iiF, op_ssF, op_ttF, op_rrF, op_rrM, op_mmF, op_repF, li_rol, li_ref, bl_listF, bl_allF, bl_anyF, asT_some, asJ_some, op_eqBf, op_eqBt, isN_non, Bool.not_true, Bool.not_false, rep2, ez1, Int.toNat_natCast]
        refine ⟨by omega, by omega, by omega, fun c hc => ?_⟩
        have hF1 := hF.fresh (o := .lst (List.replicate (z + 1) D.non)) hc hF.len
        have hMc : mset M2 c (.lst (List.replicate (z + 1) D.non)) c = some (.lst (List.replicate (z + 1) D.non)) := mset_same
        generalize mset M2 c (.lst (List.replicate (z + 1) D.non)) = M3 at hF1 hMc
        have hix : ixN (List.replicate (z + 1) D.non).length (st : Int) = some st := by
          rw [ixN_nat (by omega) (by rw [List.length_replicate]; omega), Int.toNat_natCast]
        try dsimp only
        rw [st_seq, st_asg]
        simp only [ex_c, ex_var, ex_op, ex_un, ex_b, ex_and, ex_or, ex_not, ex_andV, ex_orV, ex_notV, ex_if, ex_chain, ex_nil, ex_cons, ex_tup, ex_lst, ex_call, ex_callP, ex_cb, ex_bm, ex_rep, ex_sl, ex_noPart, ex_part, ex_yes, it_items, it_rng1, it_rng2, tg_name, tg_sub, tg_tup, tg_cons, tg_nil, gs_0, gs_s, ss_0, ss_s, op_ii, op_ss, op_tt, op_mm, op_sb, op_ng, op_iNf, op_iNt, op_lle, op_ixT, op_ixR, op_ixL, op_putE, op_appE, it_tupE, it_rolE, it_refE, lstOf_l, exL, asS_some, asI_int, asB_bl, asL_some, asN_some, ite3_t, ite3_f, bl_1, bl_lenT, bl_lenR, bl_lenL, bl_lenS, bl_tuple, bl_list, bl_abs, bl_intI, bl_intB, bl_max, bl_min, op_eqSf, op_eqSt, op_eqIf, op_eqIt, op_eqTf, op_eqTt, op_eqRf, op_eqRt, op_eqNf, op_eqNt, eqD_int, eqD_nil, pl_int, pl_nil, pl_non, pl_rnil, pl_bl, sl_tupE, sl_rolE, keep_ref, keep_tup, keep_rol, tp_int, tp_tup, tp_rol, tp_str, tp_bl, tp_non, tp_ref, oFd, oMd, oPw, oShl, oLt, oLe, oGt, oGe, op_in, op_cp, wipe_nil, wipe_cons, mset_same, true_and, and_true, isN_int, ex_lstF, ex_repF, ex_lgF1, ex_lgF2, ex_tupRg1, ex_tupRg2, ex_frz, ex_slF, ex_slM, sl_tupF, sl_rolF, op_iiF, op_ssF, op_ttF, op_rrF, op_rrM, op_mmF, op_repF, li_rol, li_ref, bl_listF, bl_allF, bl_anyF, asT_some, asJ_some, op_eqBf, op_eqBt, isN_non, Bool.not_true, Bool.not_false, rep2, hMc, hix]
        have e0 : (List.replicate (z + 1) D.non).set st (D.int 0) = (row0 (z + 1) st).map oD := by
          rw [← row0_set hst, List.map_set, List.map_replicate]; rfl
        rw [e0]
        have hca : c ∉ as := fun h => by
          obtain ⟨i, hi, rfl⟩ := List.mem_iff_getElem.mp h
          have hiF : i < F.length := by rw [← hF.len]; exact hi
          have := hF.row i _ F[i] (List.getElem?_eq_getElem hi) (List.getElem?_eq_getElem hiF)
          rw [this] at hc; cases hc
        have hF2 : Rows M0 (mset M3 c (.lst ((row0 (z + 1) st).map oD))) as F :=
          ⟨fun a u h => (nomatch h), hF1.len, fun i a r g1 g2 => by
            have g3 := hF1.row i a r g1 g2
            have hac : a ≠ c := fun e => hca (by rw [← e]; exact List.mem_of_getElem? g1)
            rw [mset_ne hac]; exact g3, hF1.nd, hF1.new⟩
        have hMc2 : mset M3 c (.lst ((row0 (z + 1) st).map oD)) c = some (.lst ((row0 (z + 1) st).map oD)) := mset_same
        generalize mset M3 c (.lst ((row0 (z + 1) st).map oD)) = M4 at hF2 hMc2
        clear hF1 hMc
        try dsimp only
        rw [st_seq, st_set]
        simp only [ex_c, ex_var, ex_op, ex_un, ex_b, ex_and, ex_or, ex_not, ex_andV, ex_orV, ex_notV, ex_if, ex_chain, ex_nil, ex_cons, ex_tup, ex_lst, ex_call, ex_callP, ex_cb, ex_bm, ex_rep, ex_sl, ex_noPart, ex_part, ex_yes, it_items, it_rng1, it_rng2, tg_name, tg_sub, tg_tup, tg_cons, tg_nil, gs_0, gs_s, ss_0, ss_s, op_ii, op_ss, op_tt, op_mm, op_sb, op_ng, op_iNf, op_iNt, op_lle, op_ixT, op_ixR, op_ixL, op_putE, op_appE, it_tupE, it_rolE, it_refE, lstOf_l, exL, asS_some, asI_int, asB_bl, asL_some, asN_some, ite3_t, ite3_f, bl_1, bl_lenT, bl_lenR, bl_lenL, bl_lenS, bl_tuple, bl_list, bl_abs, bl_intI, bl_intB, bl_max, bl_min, op_eqSf, op_eqSt, op_eqIf, op_eqIt, op_eqTf, op_eqTt, op_eqRf, op_eqRt, op_eqNf, op_eqNt, eqD_int, eqD_nil, pl_int, pl_nil, pl_non, pl_rnil, pl_bl, sl_tupE, sl_rolE, keep_ref, keep_tup, keep_rol, tp_int, tp_tup, tp_rol, tp_str, tp_bl, tp_non, tp_ref, oFd, oMd, oPw, oShl, oLt, oLe, oGt, oGe, op_in, op_cp, wipe_nil, wipe_cons, mset_same, true_and, and_true, isN_int, ex_lstF, ex_repF, ex_lgF1, ex_lgF2, ex_tupRg1, ex_tupRg2, ex_frz, ex_slF, ex_slM, sl_tupF, sl_rolF, op_iiF, op_ssF, op_ttF, op_rrF, op_rrM, op_mmF, op_repF, li_rol, li_ref, bl_listF, bl_allF, bl_anyF, asT_some, asJ_some, op_eqBf, op_eqBt, isN_non, Bool.not_true, Bool.not_false, rep2, ez1]
        have hdone : ∀ k, z + 1 ≤ k + 1 → ∀ i, i < z + 1 → at1 (loosN (ts.map edgeOf) (row0 (z + 1) st) k) i = at2 S st i := fun k hk i hi => Way.done cl hE hst (way0 cl hst) hk i hi
        have hlenN : ∀ k, (loosN (ts.map edgeOf) (row0 (z + 1) st) k).length = z + 1 := fun k => by rw [loosN_lenZ, row0_len hst]
        refine kl (z + 1) 100 ts (row0 (z + 1) st) _ _ _ _ (by omega) (row0_len hst) hpe'.ok (by show lstOf (M4 c) = _; rw [hMc2]; rfl) (fun c2 M5 k hk hstill hM5 hn5 o5 => ?_) (fun c2 M5 hnot _ _ => ?_)
        rotate_left
        · exfalso
          refine hnot (z + 1) (Nat.le_refl _) (ed_ext (by rw [hlenN, hlenN]) fun i hi => ?_)
          rw [hlenN] at hi
          rw [hdone _ (by omega) i hi, hdone _ (by omega) i hi]
        have hkn := still_stays hstill (z + 1) hk
        have hat1 : ∀ i, i < z + 1 → at1 (loosN (ts.map edgeOf) (row0 (z + 1) st) k) i = at2 S st i := fun i hi => by rw [← hkn]; exact hdone _ (by omega) i hi
        have hlk := hlenN k
        generalize loosN (ts.map edgeOf) (row0 (z + 1) st) k = row at hM5 hat1 hlk
        have hF5 := hF2.only hn5 o5
        have hca2 : c2 ∉ as := fun h => by
          obtain ⟨i, hi, rfl⟩ := List.mem_iff_getElem.mp h
          have hiF : i < F.length := by rw [← hF.len]; exact hi
          have := hF2.row i _ F[i] (List.getElem?_eq_getElem hi) (List.getElem?_eq_getElem hiF)
          rw [this] at hn5; cases hn5
        clear hF2 hMc2 hF hn5 o5 hdone hlenN hstill hkn
        try dsimp only
        rw [st_for, it_enumF]
        simp only [ex_c, ex_var, ex_op, ex_un, ex_b, ex_and, ex_or, ex_not, ex_andV, ex_orV, ex_notV, ex_if, ex_chain, ex_nil, ex_cons, ex_tup, ex_lst, ex_call, ex_callP, ex_cb, ex_bm, ex_rep, ex_sl, ex_noPart, ex_part, ex_yes, it_items, it_rng1, it_rng2, tg_name, tg_sub, tg_tup, tg_cons, tg_nil, gs_0, gs_s, ss_0, ss_s, op_ii, op_ss, op_tt, op_mm, op_sb, op_ng, op_iNf, op_iNt, op_lle, op_ixT, op_ixR, op_ixL, op_putE, op_appE, it_tupE, it_rolE, it_refE, lstOf_l, exL, asS_some, asI_int, asB_bl, asL_some, asN_some, ite3_t, ite3_f, bl_1, bl_lenT, bl_lenR, bl_lenL, bl_lenS, bl_tuple, bl_list, bl_abs, bl_intI, bl_intB, bl_max, bl_min, op_eqSf, op_eqSt, op_eqIf, op_eqIt, op_eqTf, op_eqTt, op_eqRf, op_eqRt, op_eqNf, op_eqNt, eqD_int, eqD_nil, pl_int, pl_nil, pl_non, pl_rnil, pl_bl, sl_tupE, sl_rolE, keep_ref, keep_tup, keep_rol, tp_int, tp_tup, tp_rol, tp_str, tp_bl, tp_non, tp_ref, oFd, oMd, oPw, oShl, oLt, oLe, oGt, oGe, op_in, op_cp, wipe_nil, wipe_cons, mset_same, true_and, and_true, isN_int, ex_lstF, ex_repF, ex_lgF1, ex_lgF2, ex_tupRg1, ex_tupRg2, ex_frz, ex_slF, ex_slM, sl_tupF, sl_rolF, op_iiF, op_ssF, op_ttF, op_rrF, op_rrM, op_mmF, op_repF, li_rol, li_ref, bl_listF, bl_allF, bl_anyF, asT_some, asJ_some, op_eqBf, op_eqBt, isN_non, Bool.not_true, Bool.not_false, rep2]
        refine for_enQ (fun i τ M => i ≤ w + 1 ∧ M c2 = some (.lst (row.map oD)) ∧ (∃ F, Rows M0 M as F ∧ Sq (w + 1) F ∧ ∀ p q, p < w + 1 → q < w + 1 → at2 F p q = if q < j ∨ (q = j ∧ p < i) then at2 S (pl.getD q 0) (pl.getD p 0) else none) ∧ ∃ x7 x11, τ = [some (.int w), some (tabD T), some (.int L), some (.rol (ts.map tripD)), some (.int z), some (.rol (plD pl)), some (.rol (as.map D.ref)), x7, some (.int (j : Nat)), some (.int (st : Int)), some (.ref c2), x11, none]) (fun _ _ _ _ => True.intro) ?_ ?_
          ⟨Nat.zero_le _, hM5, ⟨F, hF5, sqF, fun p q hp hq => by
            rw [hat p q hp hq]
            by_cases h : q < j
            · rw [if_pos h, if_pos (.inl h)]
            · rw [if_neg h, if_neg (by omega)]⟩, _, _, rfl⟩
        · rintro i d τ M6 hd6 ⟨_, hM6, ⟨F6, hF6, sq6, hat6⟩, y7, y11, rfl⟩ Y hY
          have hi : i < w + 1 := by rw [← pdl]; exact (List.getElem?_eq_some_iff.mp hd6).1
          have hdv : d = .int ((pl.getD i 0 : Nat) : Int) := by
            have := plD_get (ps := pl) (i := i) (by omega)
            rw [atI_nat hd6] at this
            exact Option.some.inj this
          subst hdv
          have hgo := plz i hi
          have hval := hat1 _ hgo
          generalize hg : pl.getD i 0 = go at hgo hval
          have a1 := at1_get (l := row) (i := (go : Int)) (by omega) (by omega)
          rw [Int.toNat_natCast, hval] at a1
          obtain ⟨a, r, g1, g2, _, g4, g5, g6⟩ := hF6.at2R sq6 (p := (i : Int)) (q := (j : Int)) (by omega) (by omega) (by omega) (by omega)
          rw [Int.toNat_natCast] at g4 g5 g6
          simp only [ex_c, ex_var, ex_op, ex_un, ex_b, ex_and, ex_or, ex_not, ex_andV, ex_orV, ex_notV, ex_if, ex_chain, ex_nil, ex_cons, ex_tup, ex_lst, ex_call, ex_callP, ex_cb, ex_bm, ex_rep, ex_sl, ex_noPart, ex_part, ex_yes, it_items, it_rng1, it_rng2, tg_name, tg_sub, tg_tup, tg_cons, tg_nil, gs_0, gs_s, ss_0, ss_s, op_ii, op_ss, op_tt, op_mm, op_sb, op_ng, op_iNf, op_iNt, op_lle, op_ixT, op_ixR, op_ixL, op_putE, op_appE, it_tupE, it_rolE, it_refE, lstOf_l, exL, asS_some, asI_int, asB_bl, asL_some, asN_some, ite3_t, ite3_f, bl_1, bl_lenT, bl_lenR, bl_lenL, bl_lenS, bl_tuple, bl_list, bl_abs, bl_intI, bl_intB, bl_max, bl_min, op_eqSf, op_eqSt, op_eqIf, op_eqIt, op_eqTf, op_eqTt, op_eqRf, op_eqRt, op_eqNf, op_eqNt, eqD_int, eqD_nil, pl_int, pl_nil, pl_non, pl_rnil, pl_bl, sl_tupE, sl_rolE, keep_ref, keep_tup, keep_rol, tp_int, tp_tup, tp_rol, tp_str, tp_bl, tp_non, tp_ref, oFd, oMd, oPw, oShl, oLt, oLe, oGt, oGe, op_in, op_cp, wipe_nil, wipe_cons, mset_same, true_and, and_true, isN_int, ex_lstF, ex_repF, ex_lgF1, ex_lgF2, ex_tupRg1, ex_tupRg2, ex_frz, ex_slF, ex_slM, sl_tupF, sl_rolF, op_iiF, op_ssF, op_ttF, op_rrF, op_rrM, op_mmF, op_repF, li_rol, li_ref, bl_listF, bl_allF, bl_anyF, asT_some, asJ_some, op_eqBf, op_eqBt, isN_non, Bool.not_true, Bool.not_false, rep2, List.length_cons, List.length_nil]
          rw [st_asg]
          simp only [ex_c, ex_var, ex_op, ex_un, ex_b, ex_and, ex_or, ex_not, ex_andV, ex_orV, ex_notV, ex_if, ex_chain, ex_nil, ex_cons, ex_tup, ex_lst, ex_call, ex_callP, ex_cb, ex_bm, ex_rep, ex_sl, ex_noPart, ex_part, ex_yes, it_items, it_rng1, it_rng2, tg_name, tg_sub, tg_tup, tg_cons, tg_nil, gs_0, gs_s, ss_0, ss_s, op_ii, op_ss, op_tt, op_mm, op_sb, op_ng, op_iNf, op_iNt, op_lle, op_ixT, op_ixR, op_ixL, op_putE, op_appE, it_tupE, it_rolE, it_refE, lstOf_l, exL, asS_some, asI_int, asB_bl, asL_some, asN_some, ite3_t, ite3_f, bl_1, bl_lenT, bl_lenR, bl_lenL, bl_lenS, bl_tuple, bl_list, bl_abs, bl_intI, bl_intB, bl_max, bl_min, op_eqSf, op_eqSt, op_eqIf, op_eqIt, op_eqTf, op_eqTt, op_eqRf, op_eqRt, op_eqNf, op_eqNt, eqD_int, eqD_nil, pl_int, pl_nil, pl_non, pl_rnil, pl_bl, sl_tupE, sl_rolE, keep_ref, keep_tup, keep_rol, tp_int, tp_tup, tp_rol, tp_str, tp_bl, tp_non, tp_ref, oFd, oMd, oPw, oShl, oLt, oLe, oGt, oGe, op_in, op_cp, wipe_nil, wipe_cons, mset_same, true_and, and_true, isN_int, ex_lstF, ex_repF, ex_lgF1, ex_lgF2, ex_tupRg1, ex_tupRg2, ex_frz, ex_slF, ex_slM, sl_tupF, sl_rolF, op_iiF, op_ssF, op_ttF, op_rrF, op_rrM, op_mmF, op_repF, li_rol, li_ref, bl_listF, bl_allF, bl_anyF, asT_some, asJ_some, op_eqBf, op_eqBt, isN_non, Bool.not_true, Bool.not_false, rep2, hM6, a1, g1, g2, g4]
          have hac : c2 ≠ a := fun e => hca2 (by rw [e]; exact List.mem_of_getElem? g5)
          refine hY _ _ ⟨hi, by rw [mset_ne hac]; exact hM6, ⟨putT F6 i j (at2 S st go), hF6.putR g5 g6, sq6.put, fun p q hp hq => ?_⟩, _, _, rfl⟩
          rw [at2_putQ sq6 hi hj]
          by_cases h : p = i ∧ q = j
          · obtain ⟨rfl, rfl⟩ := h
            rw [if_pos ⟨rfl, rfl⟩, if_pos (by omega), hs, hg]
          · rw [if_neg h, hat6 p q hp hq]
            by_cases h2 : q < j ∨ (q = j ∧ p < i)
            · rw [if_pos h2, if_pos (by omega)]
            · rw [if_neg h2, if_neg (by omega)]
        · rintro τ M6 ⟨_, hM6, ⟨F6, hF6, sq6, hat6⟩, y7, y11, rfl⟩
          rw [pdl] at hat6
          refine hX _ _ ⟨hj, ⟨F6, hF6, sq6, fun p q hp hq => ?_⟩, _, _, _, _, _, rfl⟩
          rw [hat6 p q hp hq]
          by_cases h : q < j + 1
          · rw [if_pos h, if_pos (by omega)]
          · rw [if_neg h, if_neg (by omega)]
      · rintro τ M2 ⟨_, ⟨F, hF, sqF, hat⟩, x7, x8, x9, x10, x11, rfl⟩
        try dsimp only
        rw [st_ret]
        refine tab_of_rows rfl (Nat.lt_succ_self 12) hF (by rw [hF.len2 sqF]; omega) ?_
        subst hz
        rw [pdl] at hat
        refine q _ _ (.inr ⟨h1, ts, hpe, .inr ⟨S, F, tS, cl, sqF, fun p q hp hq => ?_, rfl⟩⟩)
        rw [hat p q hp hq, if_pos hq, hpl]
end L3
set_option Elab.async false
set_option linter.all false
set_option maxRecDepth 100000
set_option maxHeartbeats 4000000
namespace L3
open PySem PySem.Spec PyProof.Rows L2
def negV (v : Vl) : Vl := fun i => - v i
theorem meets_tr {n : Nat} {T : Tab} (sq : Sq n T) {v : Vl} : Meets n (at2 (trT T)) v ↔ Meets n (at2 T) (negV v) := by
  constructor
  · intro h p q hp hq e he
    have := h q p hq hp e (by rw [at2_tr sq hq hp]; exact he)
    show -v p - -v q ≤ e
    omega
  · intro h p q hp hq e he
    rw [at2_tr sq hp hq] at he
    have := h q p hq hp e he
    have this : -v q - -v p ≤ e := this
    omega
theorem neg_enc {w : Nat} {a b : Vl} : negV (enc w a b) = enc w (negV a) (negV b) := by
  funext i
  unfold negV enc
  by_cases h : i < w
  · rw [if_pos h, if_pos h]
  · rw [if_neg h, if_neg h]
    by_cases h2 : i < 2 * w
    · rw [if_pos h2, if_pos h2]
    · rw [if_neg h2, if_neg h2]; rfl
theorem neg_encF {w : Nat} {a : Vl} : negV (encF w a) = encF w (negV a) := by
  funext i
  unfold negV encF
  by_cases h : i < w
  · rw [if_pos h, if_pos h]
  · rw [if_neg h, if_neg h]; rfl
theorem neg_neg {v : Vl} : negV (negV v) = v := by
  funext i
  show - -v i = v i
  omega
theorem relT_tr {w : Nat} {T : Tab} (sq : Sq (2 * w + 1) T) {a b : Vl} : relT w (trT T) a b ↔ relT w T (negV a) (negV b) := by
  unfold relT
  rw [meets_tr sq, neg_enc]
theorem compL_tr {w L : Nat} {T : Tab} (sq : Sq (2 * w + 1) T) {a : Vl} : (∃ b, compL w ((List.replicate L (trT T)).map (relT w)) (negV a) b) ↔ ∃ b, compL w (List.replicate L (relT w T)) a b := by
  rw [List.map_replicate]
  constructor
  · rintro ⟨b, h⟩
    obtain ⟨m, h0, hl, hk⟩ := compL_seq.mp h
    refine ⟨negV b, compL_seq.mpr ⟨fun k => negV (m k), by show negV (m 0) = a; rw [h0, neg_neg], fun i hi => ?_, fun k R hR => ?_⟩⟩
    · rw [List.length_replicate] at hl ⊢
      show -(m L i) = -(b i)
      rw [hl i hi]
    · rw [List.getElem?_replicate] at hR
      split at hR
      · rename_i hkl
        cases hR
        have := hk k (relT w (trT T)) (by rw [List.getElem?_replicate, if_pos hkl])
        exact (relT_tr sq).mp this
      · cases hR
  · rintro ⟨b, h⟩
    obtain ⟨m, h0, hl, hk⟩ := compL_seq.mp h
    refine ⟨negV b, compL_seq.mpr ⟨fun k => negV (m k), by show negV (m 0) = negV a; rw [h0], fun i hi => ?_, fun k R hR => ?_⟩⟩
    · rw [List.length_replicate] at hl ⊢
      show -(m L i) = -(b i)
      rw [hl i hi]
    · rw [List.getElem?_replicate] at hR
      split at hR
      · rename_i hkl
        cases hR
        have := hk k (relT w T) (by rw [List.getElem?_replicate, if_pos hkl])
        refine (relT_tr sq).mpr ?_
        rw [neg_neg, neg_neg]; exact this
      · cases hR
/-- the first end of a chain -/
theorem chain_relO {w B : Nat} {Ts : List Tab} {X : Tab} (hw : 0 < w) (sq : ∀ T ∈ Ts, Sq (2 * w + 1) T) (hX : PutIs B ((Ts.length + 1) * w + 1) (chainP w Ts []) X) (a : Vl) :
    Proj ((Ts.length + 1) * w + 1) (fieldN w ((Ts.length + 1) * w)) (Meets ((Ts.length + 1) * w + 1) (at2 X)) (encF w a) ↔ ∃ b, compL w (Ts.map (relT w)) a b := by
  constructor
  · rintro ⟨v, m, ag⟩
    rw [field_len] at ag
    have hz : v ((Ts.length + 1) * w) = 0 := by
      have := ag w (by omega)
      rw [fieldN_get (by omega), if_neg (by omega)] at this
      rw [this]; unfold encF; rw [if_neg (by omega)]
    have ha : ∀ i, i < w → v (0 * w + i) = a i := fun i hi => by
      have := ag i (by omega)
      rw [fieldN_get (by omega), if_pos hi] at this
      rw [Nat.zero_mul, Nat.zero_add, this]; unfold encF; rw [if_pos hi]
    rw [hX.meets, chain_meets sq (.inl rfl) hz] at m
    refine ⟨if Ts.length = 0 then a else fun i => v (Ts.length * w + i), compL_seq.mpr ⟨fun k => if k = 0 then a else fun i => v (k * w + i), rfl, fun i hi => ?_, fun k R e => ?_⟩⟩
    · rw [List.length_map]
    · rw [List.getElem?_map] at e
      obtain ⟨T, hT, rfl⟩ := Option.map_eq_some_iff.mp e
      refine relT_loc _ _ _ _ (fun i hi => ?_) (fun i hi => ?_) (m.2 k T hT)
      · by_cases hk : k = 0
        · subst hk
          show v (0 * w + i) = a i
          exact ha i hi
        · show v (k * w + i) = (if k = 0 then a else fun i => v (k * w + i)) i
          rw [if_neg hk]
      · rfl
  · rintro ⟨b, c⟩
    obtain ⟨m, h0, hl, hk⟩ := compL_seq.mp c
    rw [List.length_map] at hl
    refine ⟨colV w ((Ts.length + 1) * w) m, ?_, fun i hi => ?_⟩
    · have hz : colV w ((Ts.length + 1) * w) m ((Ts.length + 1) * w) = 0 := by unfold colV; rw [if_pos rfl]
      rw [hX.meets, chain_meets sq (.inl rfl) hz]
      refine ⟨.inl rfl, fun k T hT => ?_⟩
      have hkl := (List.getElem?_eq_some_iff.mp hT).1
      exact relT_loc _ _ _ _ (fun i hi => (colV_at hi (by omega)).symm) (fun i hi => (colV_at hi (by omega)).symm) (hk k (relT w T) (by rw [List.getElem?_map, hT]; rfl))
    · rw [field_len] at hi
      rw [fieldN_get hi]
      unfold encF
      by_cases h : i < w
      · rw [if_pos h, if_pos h]
        have := colV_at (w := w) (k := 0) (i := i) (L := Ts.length) (m := m) h (Nat.zero_le _)
        rw [Nat.zero_mul, Nat.zero_add] at this
        rw [this, h0]
      · rw [if_neg h, if_neg h]
        unfold colV; rw [if_pos rfl]
theorem tr_cl {n : Nat} {G : Tab} (sq : Sq n G) (c : IsCl n (at2 G) (at2 G)) : IsCl n (at2 (trT G)) (at2 (trT G)) where
  diag := fun p hp => by rw [at2_tr sq hp hp]; exact c.diag p hp
  tri := fun p q m hp hq hm => by
    rw [at2_tr sq hp hq, at2_tr sq hp hm, at2_tr sq hm hq]
    have := c.tri q p m hq hp hm
    have e : eAdd (at2 G m p) (at2 G q m) = eAdd (at2 G q m) (at2 G m p) := by
      cases at2 G m p <;> cases at2 G q m <;> simp only [eAdd]
      congr 1; omega
    rw [e]; exact this
  le := fun p q hp hq => eLe.rfl'
  st := fun s h => h
theorem fieldN_nodup {w z : Nat} (h : w ≤ z) : (fieldN w z).Nodup := by
  unfold fieldN
  refine List.nodup_append.mpr ⟨rgN_nodup _ _, by simp, fun x hx y hy => ?_⟩
  rw [List.mem_singleton] at hy
  have := rgN_mem.mp hx
  omega
theorem fieldN_lt {w z : Nat} (h : w ≤ z) : ∀ p ∈ fieldN w z, p < z + 1 := fun p hp => by
  unfold fieldN at hp
  rcases List.mem_append.mp hp with h1 | h1
  · have := rgN_mem.mp h1; omega
  · rw [List.mem_singleton] at h1; omega
/-- which step it is -/
def stepR (w : Nat) (T : Tab) : Rel := if T = [] then fun _ _ => False else relT w T
theorem due_den {w L : Nat} {T : Tab} {d : D} (w0 : 0 < w) (hT : T = [] ∨ TabB 100 (2 * w + 1) T) (h : DueIs w L T d) : ∃ B, DenF B w d (back (iter w (stepR w T) L) fun _ => True) := by
  rcases h with ⟨rfl, hL, rfl⟩ | ⟨hc, ts, hpe, h⟩
  · refine ⟨1, .inl ⟨rfl, fun a => ?_⟩⟩
    rintro ⟨b, hb, _⟩
    cases L with
    | zero => omega
    | succ L =>
      obtain ⟨m, h1, _⟩ := hb
      unfold stepR at h1
      rw [if_pos rfl] at h1
      exact h1
  · have hput := (colsP_chain hpe).put
    rw [List.length_replicate] at hput
    have hwz : w ≤ (L + 1) * w := Nat.le_mul_of_pos_left w (Nat.succ_pos _)
    have key : ∀ a, Proj ((L + 1) * w + 1) (fieldN w ((L + 1) * w)) (Meets ((L + 1) * w + 1) (at2 (mtab ((L + 1) * w + 1) ts))) (encF w (negV a)) ↔ back (iter w (stepR w T) L) (fun _ => True) a := fun a => by
      by_cases hb : T = []
      · have hL : L = 0 := hc.resolve_left (fun h => h hb)
        subst hL
        have := chain_relO (Ts := []) (X := mtab ((0 + 1) * w + 1) ts) w0 (fun _ h => nomatch h) hput (negV a)
        rw [show (([] : List Tab).length + 1) * w = (0 + 1) * w from rfl] at this
        rw [this]
        constructor
        · intro _
          exact ⟨a, fun i _ => rfl, trivial⟩
        · intro _
          exact ⟨negV a, fun i _ => rfl⟩
      · have tT := hT.resolve_left hb
        have := chain_relO (Ts := List.replicate L (trT T)) (X := mtab ((L + 1) * w + 1) ts) (B := 100) w0 (fun U hU => by rw [(List.mem_replicate.mp hU).2]; exact tr_sq tT.sq) (by rw [List.length_replicate]; exact hput) (negV a)
        rw [List.length_replicate] at this
        rw [this, compL_tr tT.sq]
        unfold back stepR
        rw [if_neg hb, ← iter_compL]
        exact ⟨fun ⟨b, h⟩ => ⟨b, h, trivial⟩, fun ⟨b, h, _⟩ => ⟨b, h⟩⟩
    rcases h with ⟨bad, rfl⟩ | ⟨S, F, tS, cl, sqF, hF, rfl⟩
    · refine ⟨1, .inl ⟨rfl, fun a ha => ?_⟩⟩
      obtain ⟨v, m, _⟩ := (key a).mpr ha
      exact bad.none v m
    · have oo : OnlyOf ((L + 1) * w + 1) 100 (mtab ((L + 1) * w + 1) ts) (fieldN w ((L + 1) * w)) (tabD (partT S (fieldN w ((L + 1) * w)))) := .inr ⟨S, tS, cl, rfl⟩
      rcases oo.denB hput.tb (fieldN_nodup hwz) (fieldN_lt hwz) with ⟨e, _⟩ | ⟨G, e, tG, cG, hG⟩
      · exfalso
        unfold tabD partT fieldN at e
        have e := D.tup.inj e
        simp at e
      · have e := tabD_inj e
        rw [field_len] at tG cG hG
        have hFG : F = trT G := by
          refine tab_ext sqF (tr_sq tG.sq) fun p q hp hq => ?_
          rw [hF p q hp hq, at2_tr tG.sq hp hq, ← e, at2_part (by rw [field_len]; exact hq) (by rw [field_len]; exact hp)]
        rw [hFG]
        refine ⟨_, .inr ⟨_, rfl, tr_b tG, tr_cl tG.sq cG, fun a => ?_⟩⟩
        rw [meets_tr tG.sq, neg_encF, ← hG, key a]
end L3
set_option Elab.async false
set_option linter.all false
set_option maxRecDepth 100000
set_option maxHeartbeats 4000000
namespace W
open PySem PySem.Spec PyProof.Rows L2 L3
def top (i : Nat) : PySem.Stmt := PySem.Challenge.pw_everturns_k59_can_do_by_columns.main.body.getD i (.Pass ⟨0, 0, 0, 0⟩)
section
variable {P : Program} {w : World} {K : PySem.W.Frag} {mg : PySem.Str → Option Value} {base : Heap}
abbrev s__law_deck : PySem.Stmt := top 22
abbrev N__law_deck : List PySem.Str := [("_law_script" : PySem.Str)]
theorem sc__law_deck : FnScope N__law_deck [("_law_script" : PySem.Str)] (defScope s__law_deck) := ⟨rfl, rfl, rfl, by decide +kernel, rfl, by decide +kernel, by decide +kernel⟩
def r__law_deck : XK3 → TS3 := fun E =>
  (wRet (wLst (wCons (wCB bListF (wCons (wVar 0) wNil)) (wCons (wC (.int 0)) (wCons (wC (.int 0)) (wCons (wC (.int 0)) wNil))))))
def sp__law_deck : Sp3 := spOf 1 1 r__law_deck
theorem ok__law_deck {f : Addr} {fd : FuncData} (hm : mg ("_law_deck" : PySem.Str) = some (.ref f)) (F : Fun K ("_law_deck" : PySem.Str) ("_law_deck" : PySem.Str) s__law_deck f fd) (bd : Binds K fd [("_law_script" : PySem.Str)] []) (z_list : mg ("list" : PySem.Str) = none) : Def3 P w K mg base (L2.CX P w) 1 ("_law_deck" : PySem.Str) sp__law_deck := by
  refine def_of (t := r__law_deck) hm F bd sc__law_deck ?_
  intro cdv A outer s H E bs E3 hG hr hE
  have hG : (A.deeper (envOfC ("_law_deck" : PySem.Str) (defScope s__law_deck) s.heap.objs.size f cdv)).guards = some [] := hG
  have hu := hr.units
  have hu2 := hu_more hr
  have nd := sc__law_deck.nd
  exact (ss_one (s_ret (e_lst (a_cons (e_callTy c_listF z_list (by decide +kernel) (a_cons (ev 0) a_nil)) (a_cons e_int (a_cons e_int (a_cons e_int a_nil)))))))
abbrev s__law_mixed : PySem.Stmt := top 23
abbrev N__law_mixed : List PySem.Str := [("_law_cell" : PySem.Str), ("_law_turn" : PySem.Str)]
theorem sc__law_mixed : FnScope N__law_mixed [("_law_cell" : PySem.Str), ("_law_turn" : PySem.Str)] (defScope s__law_mixed) := ⟨rfl, rfl, rfl, by decide +kernel, rfl, by decide +kernel, by decide +kernel⟩
def r__law_mixed : XK3 → TS3 := fun E =>
  (wRet (wOp oMd (wOp oPw (wOp oAddF (wOp oAddF (wOp oMd (wVar 0) (wC (.int 2147483629))) (wOp oMulF (wVar 1) (wC (.int 1000003)))) (wC (.int 17))) (wC (.int 5))) (wC (.int 2147483647))))
def sp__law_mixed : Sp3 := spOf 2 2 r__law_mixed
theorem ok__law_mixed {f : Addr} {fd : FuncData} (hm : mg ("_law_mixed" : PySem.Str) = some (.ref f)) (F : Fun K ("_law_mixed" : PySem.Str) ("_law_mixed" : PySem.Str) s__law_mixed f fd) (bd : Binds K fd [("_law_cell" : PySem.Str), ("_law_turn" : PySem.Str)] []) : Def3 P w K mg base (L2.CX P w) 1 ("_law_mixed" : PySem.Str) sp__law_mixed := by
  refine def_of (t := r__law_mixed) hm F bd sc__law_mixed ?_
  intro cdv A outer s H E bs E3 hG hr hE
  have hG : (A.deeper (envOfC ("_law_mixed" : PySem.Str) (defScope s__law_mixed) s.heap.objs.size f cdv)).guards = some [] := hG
  have hu := hr.units
  have hu2 := hu_more hr
  have nd := sc__law_mixed.nd
  exact (ss_one (s_ret (e_op o_md (e_op o_pw (e_op o_addF (e_op o_addF (e_op o_md (ev 0) e_int) (e_op o_mulF (ev 1) e_int)) e_int) e_int) e_int)))
abbrev s__law_draw : PySem.Stmt := top 24
abbrev N__law_draw : List PySem.Str := [("_law_deck_here" : PySem.Str), ("_law_many" : PySem.Str), ("_law_cells" : PySem.Str), ("_law_found" : PySem.Str), ("_law_number" : PySem.Str)]
theorem sc__law_draw : FnScope N__law_draw [("_law_deck_here" : PySem.Str), ("_law_many" : PySem.Str)] (defScope s__law_draw) := ⟨rfl, rfl, rfl, by decide +kernel, rfl, by decide +kernel, by decide +kernel⟩
def r__law_draw (sp__law_mixed : Sp3) : XK3 → TS3 := fun E =>
  (wSeq (wSet 2 (wOp oIx (wVar 0) (wC (.int 0))))
  (wSeq (wAsg (wOp oAddF (wOp oIx (wVar 0) (wC (.int 3))) (wC (.int 1))) (wgSub (wVar 0) (wC (.int 3)) oPut))
  (wSeq (wIfS (wAnd (wB (wOp (oEq false) (wOp oIx (wVar 0) (wC (.int 2))) (wC (.int 0)))) (wB (wOp oLt (wOp oIx (wVar 0) (wC (.int 1))) (wCB bLen (wCons (wVar 2) wNil))))) (wSeq (wAsg (wOp oAddF (wOp oIx (wVar 0) (wC (.int 1))) (wC (.int 1))) (wgSub (wVar 0) (wC (.int 1)) oPut))
  (wSeq (wIfS (wB (wOp oLt (wCB bAbs (wCons (wOp oIx (wVar 2) (wOp oSub (wOp oIx (wVar 0) (wC (.int 1))) (wC (.int 1)))) wNil)) (wOp oPw (wC (.int 10)) (wC (.int 18))))) (wRet (wOp oMd (wCallP sp__law_mixed E (wCons (wOp oIx (wVar 2) (wOp oSub (wOp oIx (wVar 0) (wC (.int 1))) (wC (.int 1)))) (wCons (wOp oIx (wVar 0) (wC (.int 3))) wNil))) (wVar 1))) wNext)
  (wAsg (wCB bAbs (wCons (wOp oIx (wVar 2) (wOp oSub (wOp oIx (wVar 0) (wC (.int 1))) (wC (.int 1)))) wNil)) (wgSub (wVar 0) (wC (.int 2)) oPut)))) wNext)
  (wSeq (wIfS (wB (wOp oGt (wOp oIx (wVar 0) (wC (.int 2))) (wC (.int 0)))) (wSeq (wSet 3 (wOp oMd (wOp oIx (wVar 0) (wC (.int 2))) (wVar 1)))
  (wSeq (wAsg (wOp oFd (wOp oIx (wVar 0) (wC (.int 2))) (wVar 1)) (wgSub (wVar 0) (wC (.int 2)) oPut))
  (wRet (wVar 3)))) wNext)
  (wSeq (wSet 4 (wOp oMulF (wOp oIx (wVar 0) (wC (.int 3))) (wC (.int 48271))))
  (wSeq (wIfS (wB (wOp oGt (wCB bLen (wCons (wVar 2) wNil)) (wC (.int 0)))) (wSet 4 (wOp oAddF (wVar 4) (wOp oMd (wOp oIx (wVar 2) (wOp oMd (wOp oMulF (wOp oIx (wVar 0) (wC (.int 3))) (wC (.int 7))) (wCB bLen (wCons (wVar 2) wNil)))) (wC (.int 2147483629))))) wNext)
  (wRet (wOp oMd (wCallP sp__law_mixed E (wCons (wVar 4) (wCons (wOp oIx (wVar 0) (wC (.int 3))) wNil))) (wVar 1)))))))))
def sp__law_draw : Sp3 := spOf 2 5 (r__law_draw sp__law_mixed)
theorem ok__law_draw {f : Addr} {fd : FuncData} (hm : mg ("_law_draw" : PySem.Str) = some (.ref f)) (F : Fun K ("_law_draw" : PySem.Str) ("_law_draw" : PySem.Str) s__law_draw f fd) (bd : Binds K fd [("_law_deck_here" : PySem.Str), ("_law_many" : PySem.Str)] []) (z_abs : mg ("abs" : PySem.Str) = none) (z_len : mg ("len" : PySem.Str) = none) (d__law_mixed : Def3 P w K mg base (L2.CX P w) 1 ("_law_mixed" : PySem.Str) sp__law_mixed) : Def3 P w K mg base (L2.CX P w) 2 ("_law_draw" : PySem.Str) sp__law_draw := by
  refine def_of (t := (r__law_draw sp__law_mixed)) hm F bd sc__law_draw ?_
  intro cdv A outer s H E bs E3 hG hr hE
  have hG : (A.deeper (envOfC ("_law_draw" : PySem.Str) (defScope s__law_draw) s.heap.objs.size f cdv)).guards = some [] := hG
  have hu := hr.units
  have hu2 := hu_more hr
  have nd := sc__law_draw.nd
  exact (ss_cons (s_set (i := 2) nd rfl (by first | exact Or.inl rfl | exact Or.inr rfl) (e_ix (ev 0) e_int))
     (ss_cons (s_asg (e_op o_addF (e_ix (ev 0) e_int) e_int) (g_sub (ev 0) e_int p_put))
     (ss_cons (s_if (PW3.pt (t_and (t_cmp (o_eq hu) (e_ix (ev 0) e_int) e_int (nomark _)) (t_and1 (t_cmp o_lt (e_ix (ev 0) e_int) (e_callB c_len z_len (by decide +kernel) (a_cons (ev 2) a_nil)) (nomark _))))) (ss_cons (s_asg (e_op o_addF (e_ix (ev 0) e_int) e_int) (g_sub (ev 0) e_int p_put))
     (ss_cons (s_if (t_cmp o_lt (e_callB c_abs z_abs (by decide +kernel) (a_cons (e_ix (ev 2) (e_op o_sub (e_ix (ev 0) e_int) e_int)) a_nil)) (e_op o_pw e_int e_int) (nomark _)) (ss_one (s_ret (e_op o_md (e_callP d__law_mixed hG (hr.mono (by decide)) (passXE hE) (a_cons (e_ix (ev 2) (e_op o_sub (e_ix (ev 0) e_int) e_int)) (a_cons (e_ix (ev 0) e_int) a_nil))) (ev 1)))) ss_nil)
     (ss_one (s_asg (e_callB c_abs z_abs (by decide +kernel) (a_cons (e_ix (ev 2) (e_op o_sub (e_ix (ev 0) e_int) e_int)) a_nil)) (g_sub (ev 0) e_int p_put))))) ss_nil)
     (ss_cons (s_if (t_cmp o_gt (e_ix (ev 0) e_int) e_int (nomark _)) (ss_cons (s_set (i := 3) nd rfl (by first | exact Or.inl rfl | exact Or.inr rfl) (e_op o_md (e_ix (ev 0) e_int) (ev 1)))
     (ss_cons (s_asg (e_op o_fd (e_ix (ev 0) e_int) (ev 1)) (g_sub (ev 0) e_int p_put))
     (ss_one (s_ret (ev 3))))) ss_nil)
     (ss_cons (s_set (i := 4) nd rfl (by first | exact Or.inl rfl | exact Or.inr rfl) (e_op o_mulF (e_ix (ev 0) e_int) e_int))
     (ss_cons (s_if (t_cmp o_gt (e_callB c_len z_len (by decide +kernel) (a_cons (ev 2) a_nil)) e_int (nomark _)) (ss_one (s_set (i := 4) nd rfl (by first | exact Or.inl rfl | exact Or.inr rfl) (e_op o_addF (ev 4) (e_op o_md (e_ix (ev 2) (e_op o_md (e_op o_mulF (e_ix (ev 0) e_int) e_int) (e_callB c_len z_len (by decide +kernel) (a_cons (ev 2) a_nil)))) e_int)))) ss_nil)
     (ss_one (s_ret (e_op o_md (e_callP d__law_mixed hG (hr.mono (by decide)) (passXE hE) (a_cons (ev 4) (a_cons (e_ix (ev 0) e_int) a_nil))) (ev 1))))))))))
abbrev s__law_table : PySem.Stmt := top 26
abbrev N__law_table : List PySem.Str := [("_law_many" : PySem.Str), ("_law_ends" : PySem.Str), ("_law_p" : PySem.Str), ("_law_q" : PySem.Str)]
theorem sc__law_table : FnScope N__law_table [("_law_many" : PySem.Str), ("_law_ends" : PySem.Str)] (defScope s__law_table) := ⟨rfl, rfl, rfl, by decide +kernel, rfl, by decide +kernel, by decide +kernel⟩
def r__law_table : XK3 → TS3 := fun E =>
  (wRet (wCB bTuple (wCons (wLcF (wRng1 (wCons (wVar 0) wNil)) (wgName 2) wYes (wCB bTuple (wCons (wLcF (wRng1 (wCons (wVar 0) wNil)) (wgName 3) wYes (wTGet1 (wVar 1) (wTup (wCons (wVar 2) (wCons (wVar 3) wNil)))) [3]) wNil)) [2]) wNil)))
def sp__law_table : Sp3 := spOf 2 4 r__law_table
theorem ok__law_table {f : Addr} {fd : FuncData} (hm : mg ("_law_table" : PySem.Str) = some (.ref f)) (F : Fun K ("_law_table" : PySem.Str) ("_law_table" : PySem.Str) s__law_table f fd) (bd : Binds K fd [("_law_many" : PySem.Str), ("_law_ends" : PySem.Str)] []) (z_range : mg ("range" : PySem.Str) = none) (z_tuple : mg ("tuple" : PySem.Str) = none) : Def3 P w K mg base (L2.CX P w) 1 ("_law_table" : PySem.Str) sp__law_table := by
  refine def_of (t := r__law_table) hm F bd sc__law_table ?_
  intro cdv A outer s H E bs E3 hG hr hE
  have hG : (A.deeper (envOfC ("_law_table" : PySem.Str) (defScope s__law_table) s.heap.objs.size f cdv)).guards = some [] := hG
  have hu := hr.units
  have hu2 := hu_more hr
  have nd := sc__law_table.nd
  exact (ss_one (s_ret (e_callTy c_tuple z_tuple (by decide +kernel) (a_cons (e_lcF (own := [(("_law_p" : PySem.Str), 2)]) (by decide) rfl nd (w_rng1 z_range (a_cons (ev 0) a_nil)) (blkOk_by (N := N__law_table) (sc := defScope s__law_table) (by decide +kernel)) (fun _ _ _ _ _ => (g_name (i := 2) nd rfl (by first | exact Or.inl rfl | exact Or.inr rfl))) (fun _ _ _ _ _ => ts_nil) (fun _ _ _ _ _ => (e_callTy c_tuple z_tuple (by decide +kernel) (a_cons (e_lcF (own := [(("_law_q" : PySem.Str), 3)]) (by decide) rfl nd (w_rng1 z_range (a_cons (ev 0) a_nil)) (blkOk_by (N := N__law_table) (by rfl)) (fun _ _ _ _ _ => (g_name (i := 3) nd rfl (by first | exact Or.inl rfl | exact Or.inr rfl))) (fun _ _ _ _ _ => ts_nil) (fun _ _ _ _ _ => (e_tget1 hu2 (ev 1) (e_tup (a_cons (ev 2) (a_cons (ev 3) a_nil)))))) a_nil)))) a_nil))))
abbrev s__law_step : PySem.Stmt := top 27
abbrev N__law_step : List PySem.Str := [("_law_deck_here" : PySem.Str), ("_law_width" : PySem.Str), ("_law_many" : PySem.Str), ("_law_ends" : PySem.Str), ("_law_x" : PySem.Str), ("_law_kind" : PySem.Str), ("_law_y" : PySem.Str), ("_law_c" : PySem.Str), ("_law_k" : PySem.Str), ("_law_p" : PySem.Str), ("_law_q" : PySem.Str)]
theorem sc__law_step : FnScope N__law_step [("_law_deck_here" : PySem.Str), ("_law_width" : PySem.Str)] (defScope s__law_step) := ⟨rfl, rfl, rfl, by decide +kernel, rfl, by decide +kernel, by decide +kernel⟩
def r__law_step (sp__law_draw : Sp3) (sp__law_table : Sp3) : XK3 → TS3 := fun E =>
  (wSeq (wSet 2 (wOp oAddF (wOp oMulF (wC (.int 2)) (wVar 1)) (wC (.int 1))))
  (wSeq (wSet 3 wDNewT)
  (wSeq (wFor (wRng1 (wCons (wVar 1) wNil)) (wgName 4) (wSeq (wPar3 5 6 7 (wCons (wCall sp__law_draw E (wCons (wVar 0) (wCons (wC (.int 6)) wNil))) (wCons (wCall sp__law_draw E (wCons (wVar 0) (wCons (wVar 1) wNil))) (wCons (wOp oSub (wCall sp__law_draw E (wCons (wVar 0) (wCons (wC (.int 5)) wNil))) (wC (.int 2))) wNil))))
  (wSeq (wIfS (wB (wOp oLt (wVar 5) (wC (.int 5)))) (wAsg (wVar 7) (wgSubT (wVar 3) (wCons (wOp oAddF (wVar 1) (wVar 4)) (wCons (wVar 6) wNil)))) wNext)
  (wIfS (wB (wOp oLt (wVar 5) (wC (.int 3)))) (wAsg (wUn oNeg (wVar 7)) (wgSubT (wVar 3) (wCons (wVar 6) (wCons (wOp oAddF (wVar 1) (wVar 4)) wNil)))) wNext))))
  (wSeq (wFor (wRng1 (wCons (wCall sp__law_draw E (wCons (wVar 0) (wCons (wC (.int 4)) wNil))) wNil)) (wgName 8) (wSeq (wPar 9 10 (wCons (wCall sp__law_draw E (wCons (wVar 0) (wCons (wVar 2) wNil))) (wCons (wCall sp__law_draw E (wCons (wVar 0) (wCons (wVar 2) wNil))) wNil)))
  (wAsg (wOp oAddF (wOp oSub (wCall sp__law_draw E (wCons (wVar 0) (wCons (wC (.int 10)) wNil))) (wC (.int 2))) (wOp oMulF (wCB bInt (wCons (wOp (oEq false) (wVar 9) (wVar 10)) wNil)) (wC (.int 2)))) (wgSubT (wVar 3) (wCons (wVar 9) (wCons (wVar 10) wNil))))))
  (wRet (wCall sp__law_table E (wCons (wVar 2) (wCons (wVar 3) wNil))))))))
def sp__law_step : Sp3 := spOf 2 11 (r__law_step sp__law_draw sp__law_table)
theorem ok__law_step {f : Addr} {fd : FuncData} (hm : mg ("_law_step" : PySem.Str) = some (.ref f)) (F : Fun K ("_law_step" : PySem.Str) ("_law_step" : PySem.Str) s__law_step f fd) (bd : Binds K fd [("_law_deck_here" : PySem.Str), ("_law_width" : PySem.Str)] []) (z_int : mg ("int" : PySem.Str) = none) (z_range : mg ("range" : PySem.Str) = none) (d__law_draw : Def3 P w K mg base (L2.CX P w) 2 ("_law_draw" : PySem.Str) sp__law_draw) (d__law_table : Def3 P w K mg base (L2.CX P w) 1 ("_law_table" : PySem.Str) sp__law_table) : Def3 P w K mg base (L2.CX P w) 3 ("_law_step" : PySem.Str) sp__law_step := by
  refine def_of (t := (r__law_step sp__law_draw sp__law_table)) hm F bd sc__law_step ?_
  intro cdv A outer s H E bs E3 hG hr hE
  have hG : (A.deeper (envOfC ("_law_step" : PySem.Str) (defScope s__law_step) s.heap.objs.size f cdv)).guards = some [] := hG
  have hu := hr.units
  have hu2 := hu_more hr
  have nd := sc__law_step.nd
  exact (ss_cons (s_set (i := 2) nd rfl (by first | exact Or.inl rfl | exact Or.inr rfl) (e_op o_addF (e_op o_mulF e_int (ev 1)) e_int))
     (ss_cons (s_set (i := 3) nd rfl (by first | exact Or.inl rfl | exact Or.inr rfl) e_dnewT)
     (ss_cons (s_for (passes_of rfl) rfl (w_rng1 z_range (a_cons (ev 1) a_nil)) (g_name (i := 4) nd rfl (by first | exact Or.inl rfl | exact Or.inr rfl)) (ss_cons (s_par3 (i := 5) (j := 6) (l := 7) rfl nd rfl rfl rfl (by decide) (by decide) (by decide) rfl rfl rfl (a_cons (e_call d__law_draw hG (hr.mono (by decide)) (passXE hE) (a_cons (ev 0) (a_cons e_int a_nil))) (a_cons (e_call d__law_draw hG (hr.mono (by decide)) (passXE hE) (a_cons (ev 0) (a_cons (ev 1) a_nil))) (a_cons (e_op o_sub (e_call d__law_draw hG (hr.mono (by decide)) (passXE hE) (a_cons (ev 0) (a_cons e_int a_nil))) e_int) a_nil))) rfl)
     (ss_cons (s_if (t_cmp o_lt (ev 5) e_int (nomark _)) (ss_one (s_asg (ev 7) (g_subT hu2 (ev 3) (a_cons (e_op o_addF (ev 1) (ev 4)) (a_cons (ev 6) a_nil))))) ss_nil)
     (ss_one (s_if (t_cmp o_lt (ev 5) e_int (nomark _)) (ss_one (s_asg (e_neg (ev 7)) (g_subT hu2 (ev 3) (a_cons (ev 6) (a_cons (e_op o_addF (ev 1) (ev 4)) a_nil))))) ss_nil)))))
     (ss_cons (s_for (passes_of rfl) rfl (w_rng1 z_range (a_cons (e_call d__law_draw hG (hr.mono (by decide)) (passXE hE) (a_cons (ev 0) (a_cons e_int a_nil))) a_nil)) (g_name (i := 8) nd rfl (by first | exact Or.inl rfl | exact Or.inr rfl)) (ss_cons (s_par (i := 9) (j := 10) rfl nd rfl rfl (by decide) rfl rfl (a_cons (e_call d__law_draw hG (hr.mono (by decide)) (passXE hE) (a_cons (ev 0) (a_cons (ev 2) a_nil))) (a_cons (e_call d__law_draw hG (hr.mono (by decide)) (passXE hE) (a_cons (ev 0) (a_cons (ev 2) a_nil))) a_nil)) rfl)
     (ss_one (s_asg (e_op o_addF (e_op o_sub (e_call d__law_draw hG (hr.mono (by decide)) (passXE hE) (a_cons (ev 0) (a_cons e_int a_nil))) e_int) (e_op o_mulF (e_callTy c_int z_int (by decide +kernel) (a_cons (e_cmp (o_eq hu) (ev 9) (ev 10) (nomark _)) a_nil)) e_int)) (g_subT hu2 (ev 3) (a_cons (ev 9) (a_cons (ev 10) a_nil)))))))
     (ss_one (s_ret (e_call d__law_table hG (hr.mono (by decide)) (passXE hE) (a_cons (ev 2) (a_cons (ev 3) a_nil)))))))))
abbrev s__law_same : PySem.Stmt := top 25
abbrev N__law_same : List PySem.Str := [("_law_found" : PySem.Str), ("_law_due_here" : PySem.Str), ("_law_k" : PySem.Str)]
theorem sc__law_same : FnScope N__law_same [("_law_found" : PySem.Str), ("_law_due_here" : PySem.Str)] (defScope s__law_same) := ⟨rfl, rfl, rfl, by decide +kernel, rfl, by decide +kernel, by decide +kernel⟩
def r__law_same (sp__law_same : Sp3) : XK3 → TS3 := fun E =>
  (wSeq (wIfS (wB (wCB bIsiT (wCons (wVar 1) (wCons (wTup (wCons (wC (.ty "tuple")) (wCons (wC (.ty "list")) wNil))) wNil)))) (wSeq (wIfS (wOr (wB (wOp (oEq true) (wCB bIsi (wCons (wVar 0) (wCons (wC (.ty "tuple")) wNil))) (wCB bIsi (wCons (wVar 1) (wCons (wC (.ty "tuple")) wNil))))) (wB (wOp (oEq true) (wCB bIsi (wCons (wVar 0) (wCons (wC (.ty "list")) wNil))) (wCB bIsi (wCons (wVar 1) (wCons (wC (.ty "list")) wNil)))))) (wRet (wC (.bl false))) wNext)
  (wSeq (wIfS (wB (wOp (oEq true) (wCB bLen (wCons (wVar 0) wNil)) (wCB bLen (wCons (wVar 1) wNil)))) (wRet (wC (.bl false))) wNext)
  (wRet (wOp (oEq false) (wLcF (wRng1 (wCons (wCB bLen (wCons (wVar 1) wNil)) wNil)) (wgName 2) (wNot (wB (wCallP sp__law_same X0 (wCons (wOp oIx (wVar 0) (wVar 2)) (wCons (wOp oIx (wVar 1) (wVar 2)) wNil))))) (wVar 2) [2]) (wLstF wNil))))) wNext)
  (wSeq (wIfS (wB (wOp (oIsN false) (wVar 1) (wC .non))) (wRet (wOp (oIsN false) (wVar 0) (wC .non))) wNext)
  (wSeq (wIfS (wB (wCB bIsi (wCons (wVar 1) (wCons (wC (.ty "str")) wNil)))) (wRet (wAndV (wCB bIsi (wCons (wVar 0) (wCons (wC (.ty "str")) wNil))) (wOp (oEq false) (wVar 0) (wVar 1)))) wNext)
  (wRet (wAndV (wCB bIsi (wCons (wVar 0) (wCons (wC (.ty "int")) wNil))) (wAndV (wOp (oEq false) (wCB bIsi (wCons (wVar 0) (wCons (wC (.ty "bool")) wNil))) (wCB bIsi (wCons (wVar 1) (wCons (wC (.ty "bool")) wNil)))) (wOp (oEq false) (wVar 0) (wVar 1))))))))
def sn__law_same : Nat → Sp3
  | 0 => fun _ _ _ _ => False
  | n + 1 => spOf 2 3 (r__law_same (sn__law_same n))
abbrev sp__law_same : Sp3 := sn__law_same 6
theorem ok__law_same {n : Nat} {f : Addr} {fd : FuncData} (hm : mg ("_law_same" : PySem.Str) = some (.ref f)) (F : Fun K ("_law_same" : PySem.Str) ("_law_same" : PySem.Str) s__law_same f fd) (bd : Binds K fd [("_law_found" : PySem.Str), ("_law_due_here" : PySem.Str)] []) (z_bool : mg ("bool" : PySem.Str) = none) (z_int : mg ("int" : PySem.Str) = none) (z_isinstance : mg ("isinstance" : PySem.Str) = none) (z_len : mg ("len" : PySem.Str) = none) (z_list : mg ("list" : PySem.Str) = none) (z_range : mg ("range" : PySem.Str) = none) (z_str : mg ("str" : PySem.Str) = none) (z_tuple : mg ("tuple" : PySem.Str) = none) (d__law_same : Def3 P w K mg base (L2.CX P w) (2 + n) ("_law_same" : PySem.Str) (sn__law_same n)) : Def3 P w K mg base (L2.CX P w) (2 + n + 1) ("_law_same" : PySem.Str) (sn__law_same (n + 1)) := by
  refine def_of (t := (r__law_same (sn__law_same n))) hm F bd sc__law_same ?_
  intro cdv A outer s H E bs E3 hG hr hE
  have hG : (A.deeper (envOfC ("_law_same" : PySem.Str) (defScope s__law_same) s.heap.objs.size f cdv)).guards = some [] := hG
  have hu := hr.units
  have hu2 := hu_more hr
  have nd := sc__law_same.nd
  exact (ss_cons (s_if (t_val (e_callB c_isiT z_isinstance (by decide +kernel) (a_cons (ev 1) (a_cons (e_tup (a_cons (e_bty z_tuple (by decide +kernel)) (a_cons (e_bty z_list (by decide +kernel)) a_nil))) a_nil)))) (ss_cons (s_if (PW3.pt (t_or (t_cmp (o_ne hu) (e_callB c_isi z_isinstance (by decide +kernel) (a_cons (ev 0) (a_cons (e_bty z_tuple (by decide +kernel)) a_nil))) (e_callB c_isi z_isinstance (by decide +kernel) (a_cons (ev 1) (a_cons (e_bty z_tuple (by decide +kernel)) a_nil))) (nomark _)) (t_or1 (t_cmp (o_ne hu) (e_callB c_isi z_isinstance (by decide +kernel) (a_cons (ev 0) (a_cons (e_bty z_list (by decide +kernel)) a_nil))) (e_callB c_isi z_isinstance (by decide +kernel) (a_cons (ev 1) (a_cons (e_bty z_list (by decide +kernel)) a_nil))) (nomark _))))) (ss_one (s_ret e_bl)) ss_nil)
     (ss_cons (s_if (t_cmp (o_ne hu) (e_callB c_len z_len (by decide +kernel) (a_cons (ev 0) a_nil)) (e_callB c_len z_len (by decide +kernel) (a_cons (ev 1) a_nil)) (nomark _)) (ss_one (s_ret e_bl)) ss_nil)
     (ss_one (s_ret (e_cmp (o_eq hu) (e_lcF (own := [(("_law_k" : PySem.Str), 2)]) (by decide) rfl nd (w_rng1 z_range (a_cons (e_callB c_len z_len (by decide +kernel) (a_cons (ev 1) a_nil)) a_nil)) (blkOk_by (N := N__law_same) (sc := defScope s__law_same) (by decide +kernel)) (fun _ _ _ _ _ => (g_name (i := 2) nd rfl (by first | exact Or.inl rfl | exact Or.inr rfl))) (fun _ _ _ _ _ => (ts_one (t_not (t_val (e_callP d__law_same hG (hr.mono (by omega)) passX1 (a_cons (e_ix (ev 0) (ev 2)) (a_cons (e_ix (ev 1) (ev 2)) a_nil))))))) (fun _ _ _ _ _ => (ev 2))) (e_lstF a_nil) (nomark _)))))) ss_nil)
     (ss_cons (s_if (t_cmp o_is (ev 1) e_non (nomark _)) (ss_one (s_ret (e_cmp o_is (ev 0) e_non (nomark _)))) ss_nil)
     (ss_cons (s_if (t_val (e_callB c_isi z_isinstance (by decide +kernel) (a_cons (ev 1) (a_cons (e_bty z_str (by decide +kernel)) a_nil)))) (ss_one (s_ret (e_and (e_callB c_isi z_isinstance (by decide +kernel) (a_cons (ev 0) (a_cons (e_bty z_str (by decide +kernel)) a_nil))) (e_one (e_cmp (o_eq hu) (ev 0) (ev 1) (nomark _)))))) ss_nil)
     (ss_one (s_ret (e_and (e_callB c_isi z_isinstance (by decide +kernel) (a_cons (ev 0) (a_cons (e_bty z_int (by decide +kernel)) a_nil))) (e_and (e_cmp (o_eq hu) (e_callB c_isi z_isinstance (by decide +kernel) (a_cons (ev 0) (a_cons (e_bty z_bool (by decide +kernel)) a_nil))) (e_callB c_isi z_isinstance (by decide +kernel) (a_cons (ev 1) (a_cons (e_bty z_bool (by decide +kernel)) a_nil))) (nomark _)) (e_one (e_cmp (o_eq hu) (ev 0) (ev 1) (nomark _))))))))))
abbrev s_lesser : PySem.Stmt := top 2
abbrev N_lesser : List PySem.Str := [("first" : PySem.Str), ("second" : PySem.Str)]
theorem sc_lesser : FnScope N_lesser [("first" : PySem.Str), ("second" : PySem.Str)] (defScope s_lesser) := ⟨rfl, rfl, rfl, by decide +kernel, rfl, by decide +kernel, by decide +kernel⟩
def r_lesser : XK3 → TS3 := fun E =>
  (wSeq (wIfS (wOr (wB (wOp (oIsN false) (wVar 0) (wC .non))) (wB (wOp (oIsN false) (wVar 1) (wC .non)))) (wRet (wIf (wB (wOp (oIsN false) (wVar 0) (wC .non))) (wVar 1) (wVar 0))) wNext)
  (wRet (wCB bMin (wCons (wVar 0) (wCons (wVar 1) wNil)))))
def sp_lesser : Sp3 := spOf 2 2 r_lesser
theorem ok_lesser {f : Addr} {fd : FuncData} (hm : mg ("lesser" : PySem.Str) = some (.ref f)) (F : Fun K ("lesser" : PySem.Str) ("lesser" : PySem.Str) s_lesser f fd) (bd : Binds K fd [("first" : PySem.Str), ("second" : PySem.Str)] []) (z_min : mg ("min" : PySem.Str) = none) : Def3 P w K mg base (L2.CX P w) 1 ("lesser" : PySem.Str) sp_lesser := by
  refine def_of (t := r_lesser) hm F bd sc_lesser ?_
  intro cdv A outer s H E bs E3 hG hr hE
  have hG : (A.deeper (envOfC ("lesser" : PySem.Str) (defScope s_lesser) s.heap.objs.size f cdv)).guards = some [] := hG
  have hu := hr.units
  have hu2 := hu_more hr
  have nd := sc_lesser.nd
  exact (ss_cons (s_if (PW3.pt (t_or (t_cmp o_is (ev 0) e_non (nomark _)) (t_or1 (t_cmp o_is (ev 1) e_non (nomark _))))) (ss_one (s_ret (e_if (t_cmp o_is (ev 0) e_non (nomark _)) (ev 1) (ev 0)))) ss_nil)
     (ss_one (s_ret (e_callB (c_min rfl) z_min (by decide +kernel) (a_cons (ev 0) (a_cons (ev 1) a_nil))))))
abbrev s_put_together : PySem.Stmt := top 9
abbrev N_put_together : List PySem.Str := [("many" : PySem.Str), ("parts" : PySem.Str), ("rows" : PySem.Str), ("k" : PySem.Str), ("table" : PySem.Str), ("places" : PySem.Str), ("p" : PySem.Str), ("row" : PySem.Str), ("q" : PySem.Str), ("end" : PySem.Str)]
theorem sc_put_together : FnScope N_put_together [("many" : PySem.Str), ("parts" : PySem.Str)] (defScope s_put_together) := ⟨rfl, rfl, rfl, by decide +kernel, rfl, by decide +kernel, by decide +kernel⟩
def r_put_together (sp_lesser : Sp3) : XK3 → TS3 := fun E =>
  (wSeq (wSet 2 (wLcF (wRng1 (wCons (wVar 0) wNil)) (wgName 3) wYes (wRep (wC .non) (wVar 0)) [3]))
  (wSeq (wFor (wItems (wVar 1)) (wgTupN 2 (wgCons (wgName 4) (wgCons (wgName 5) wgNil))) (wFor (wEnum (wCons (wVar 4) wNil)) (wgTupN 2 (wgCons (wgName 6) (wgCons (wgName 7) wgNil))) (wFor (wEnum (wCons (wVar 7) wNil)) (wgTupN 2 (wgCons (wgName 8) (wgCons (wgName 9) wgNil))) (wAsg (wCallP sp_lesser E (wCons (wOp oIx (wOp oIx (wVar 2) (wOp oIx (wVar 5) (wVar 6))) (wOp oIx (wVar 5) (wVar 8))) (wCons (wVar 9) wNil))) (wgSub (wOp oIx (wVar 2) (wOp oIx (wVar 5) (wVar 6))) (wOp oIx (wVar 5) (wVar 8)) oPut)))))
  (wRet (wCB bTuple (wCons (wLcF (wItems (wVar 2)) (wgName 7) wYes (wCB bTuple (wCons (wVar 7) wNil)) [7]) wNil)))))
def sp_put_together : Sp3 := spOf 2 10 (r_put_together sp_lesser)
theorem ok_put_together {f : Addr} {fd : FuncData} (hm : mg ("put_together" : PySem.Str) = some (.ref f)) (F : Fun K ("put_together" : PySem.Str) ("put_together" : PySem.Str) s_put_together f fd) (bd : Binds K fd [("many" : PySem.Str), ("parts" : PySem.Str)] []) (z_enumerate : mg ("enumerate" : PySem.Str) = none) (z_range : mg ("range" : PySem.Str) = none) (z_tuple : mg ("tuple" : PySem.Str) = none) (d_lesser : Def3 P w K mg base (L2.CX P w) 1 ("lesser" : PySem.Str) sp_lesser) : Def3 P w K mg base (L2.CX P w) 2 ("put_together" : PySem.Str) sp_put_together := by
  refine def_of (t := (r_put_together sp_lesser)) hm F bd sc_put_together ?_
  intro cdv A outer s H E bs E3 hG hr hE
  have hG : (A.deeper (envOfC ("put_together" : PySem.Str) (defScope s_put_together) s.heap.objs.size f cdv)).guards = some [] := hG
  have hu := hr.units
  have hu2 := hu_more hr
  have nd := sc_put_together.nd
  exact (ss_cons (s_setLcF (i := 2) (own := [(("k" : PySem.Str), 3)]) (by decide) rfl nd rfl rfl (sw_true rfl rfl rfl (by decide +kernel)) (w_rng1 z_range (a_cons (ev 0) a_nil)) (blkOk_by (N := N_put_together) (sc := defScope s_put_together) (by decide +kernel)) (fun _ _ _ _ _ => (g_name (i := 3) nd rfl (by first | exact Or.inl rfl | exact Or.inr rfl))) (fun _ _ _ _ _ => ts_nil) (fun _ _ _ _ _ => (e_rep e_non (ev 0))))
     (ss_cons (s_for (passes_of rfl) rfl (w_seq (ev 1)) (g_tupN rfl (gs_cons (g_name (i := 4) nd rfl (by first | exact Or.inl rfl | exact Or.inr rfl)) (gs_cons (g_name (i := 5) nd rfl (by first | exact Or.inl rfl | exact Or.inr rfl)) gs_nil))) (ss_one (s_for (passes_of rfl) rfl (w_enum z_enumerate (a_cons (ev 4) a_nil)) (g_tupN rfl (gs_cons (g_name (i := 6) nd rfl (by first | exact Or.inl rfl | exact Or.inr rfl)) (gs_cons (g_name (i := 7) nd rfl (by first | exact Or.inl rfl | exact Or.inr rfl)) gs_nil))) (ss_one (s_for (passes_of rfl) rfl (w_enum z_enumerate (a_cons (ev 7) a_nil)) (g_tupN rfl (gs_cons (g_name (i := 8) nd rfl (by first | exact Or.inl rfl | exact Or.inr rfl)) (gs_cons (g_name (i := 9) nd rfl (by first | exact Or.inl rfl | exact Or.inr rfl)) gs_nil))) (ss_one (s_asg (e_callP d_lesser hG (hr.mono (by decide)) (passXE hE) (a_cons (e_ix (e_ix (ev 2) (e_ix (ev 5) (ev 6))) (e_ix (ev 5) (ev 8))) (a_cons (ev 9) a_nil))) (g_sub (e_ix (ev 2) (e_ix (ev 5) (ev 6))) (e_ix (ev 5) (ev 8)) p_put))))))))
     (ss_one (s_ret (e_callTy c_tuple z_tuple (by decide +kernel) (a_cons (e_lcF (own := [(("row" : PySem.Str), 7)]) (by decide) rfl nd (w_seq (ev 2)) (blkOk_by (N := N_put_together) (sc := defScope s_put_together) (by decide +kernel)) (fun _ _ _ _ _ => (g_name (i := 7) nd rfl (by first | exact Or.inl rfl | exact Or.inr rfl))) (fun _ _ _ _ _ => ts_nil) (fun _ _ _ _ _ => (e_callTy c_tuple z_tuple (by decide +kernel) (a_cons (ev 7) a_nil)))) a_nil))))))
abbrev s_joined : PySem.Stmt := top 1
abbrev N_joined : List PySem.Str := [("first" : PySem.Str), ("second" : PySem.Str)]
theorem sc_joined : FnScope N_joined [("first" : PySem.Str), ("second" : PySem.Str)] (defScope s_joined) := ⟨rfl, rfl, rfl, by decide +kernel, rfl, by decide +kernel, by decide +kernel⟩
def r_joined : XK3 → TS3 := fun E =>
  (wRet (wIf (wOr (wB (wOp (oIsN false) (wVar 0) (wC .non))) (wB (wOp (oIsN false) (wVar 1) (wC .non)))) (wC .non) (wOp oAddF (wVar 0) (wVar 1))))
def sp_joined : Sp3 := spOf 2 2 r_joined
theorem ok_joined {f : Addr} {fd : FuncData} (hm : mg ("joined" : PySem.Str) = some (.ref f)) (F : Fun K ("joined" : PySem.Str) ("joined" : PySem.Str) s_joined f fd) (bd : Binds K fd [("first" : PySem.Str), ("second" : PySem.Str)] []) : Def3 P w K mg base (L2.CX P w) 1 ("joined" : PySem.Str) sp_joined := by
  refine def_of (t := r_joined) hm F bd sc_joined ?_
  intro cdv A outer s H E bs E3 hG hr hE
  have hG : (A.deeper (envOfC ("joined" : PySem.Str) (defScope s_joined) s.heap.objs.size f cdv)).guards = some [] := hG
  have hu := hr.units
  have hu2 := hu_more hr
  have nd := sc_joined.nd
  exact (ss_one (s_ret (e_if (PW3.pt (t_or (t_cmp o_is (ev 0) e_non (nomark _)) (t_or1 (t_cmp o_is (ev 1) e_non (nomark _))))) e_non (e_op o_addF (ev 0) (ev 1)))))
abbrev s_closed : PySem.Stmt := top 3
abbrev N_closed : List PySem.Str := [("table" : PySem.Str), ("points" : PySem.Str), ("ends" : PySem.Str), ("row" : PySem.Str), ("p" : PySem.Str), ("middle" : PySem.Str), ("q" : PySem.Str)]
theorem sc_closed : FnScope N_closed [("table" : PySem.Str)] (defScope s_closed) := ⟨rfl, rfl, rfl, by decide +kernel, rfl, by decide +kernel, by decide +kernel⟩
def r_closed (sp_lesser : Sp3) (sp_joined : Sp3) : XK3 → TS3 := fun E =>
  (wSeq (wSet 1 (wLstRgF1 (wCB bLen (wCons (wVar 0) wNil))))
  (wSeq (wSet 2 (wLcF (wItems (wVar 0)) (wgName 3) wYes (wCB bList (wCons (wVar 3) wNil)) [3]))
  (wSeq (wFor (wItems (wVar 1)) (wgName 4) (wAsg (wCallP sp_lesser E (wCons (wOp oIx (wOp oIx (wVar 2) (wVar 4)) (wVar 4)) (wCons (wC (.int 0)) wNil))) (wgSub (wOp oIx (wVar 2) (wVar 4)) (wVar 4) oPut)))
  (wSeq (wFor (wItems (wVar 1)) (wgName 5) (wFor (wItems (wVar 1)) (wgName 4) (wFor (wItems (wVar 1)) (wgName 6) (wAsg (wCallP sp_lesser E (wCons (wOp oIx (wOp oIx (wVar 2) (wVar 4)) (wVar 6)) (wCons (wCallP sp_joined E (wCons (wOp oIx (wOp oIx (wVar 2) (wVar 4)) (wVar 5)) (wCons (wOp oIx (wOp oIx (wVar 2) (wVar 5)) (wVar 6)) wNil))) wNil))) (wgSub (wOp oIx (wVar 2) (wVar 4)) (wVar 6) oPut)))))
  (wSeq (wIfS (wB (wCB bAnyF (wCons (wLcF (wItems (wVar 1)) (wgName 4) wYes (wOp oLt (wOp oIx (wOp oIx (wVar 2) (wVar 4)) (wVar 4)) (wC (.int 0))) [4]) wNil))) (wRet (wTup wNil)) wNext)
  (wRet (wCB bTuple (wCons (wLcF (wItems (wVar 2)) (wgName 3) wYes (wCB bTuple (wCons (wVar 3) wNil)) [3]) wNil))))))))
def sp_closed : Sp3 := spOf 1 7 (r_closed sp_lesser sp_joined)
theorem ok_closed {f : Addr} {fd : FuncData} (hm : mg ("closed" : PySem.Str) = some (.ref f)) (F : Fun K ("closed" : PySem.Str) ("closed" : PySem.Str) s_closed f fd) (bd : Binds K fd [("table" : PySem.Str)] []) (z_any : mg ("any" : PySem.Str) = none) (z_len : mg ("len" : PySem.Str) = none) (z_list : mg ("list" : PySem.Str) = none) (z_range : mg ("range" : PySem.Str) = none) (z_tuple : mg ("tuple" : PySem.Str) = none) (d_lesser : Def3 P w K mg base (L2.CX P w) 1 ("lesser" : PySem.Str) sp_lesser) (d_joined : Def3 P w K mg base (L2.CX P w) 1 ("joined" : PySem.Str) sp_joined) : Def3 P w K mg base (L2.CX P w) 2 ("closed" : PySem.Str) sp_closed := by
  refine def_of (t := (r_closed sp_lesser sp_joined)) hm F bd sc_closed ?_
  intro cdv A outer s H E bs E3 hG hr hE
  have hG : (A.deeper (envOfC ("closed" : PySem.Str) (defScope s_closed) s.heap.objs.size f cdv)).guards = some [] := hG
  have hu := hr.units
  have hu2 := hu_more hr
  have nd := sc_closed.nd
  exact (ss_cons (s_set (i := 1) nd rfl (by first | exact Or.inl rfl | exact Or.inr rfl) (e_listRgF1 rfl z_list z_range (e_callB c_len z_len (by decide +kernel) (a_cons (ev 0) a_nil))))
     (ss_cons (s_set (i := 2) nd rfl (by first | exact Or.inl rfl | exact Or.inr rfl) (e_lcF (own := [(("row" : PySem.Str), 3)]) (by decide) rfl nd (w_seq (ev 0)) (blkOk_by (N := N_closed) (sc := defScope s_closed) (by decide +kernel)) (fun _ _ _ _ _ => (g_name (i := 3) nd rfl (by first | exact Or.inl rfl | exact Or.inr rfl))) (fun _ _ _ _ _ => ts_nil) (fun _ _ _ _ _ => (e_callTy c_list z_list (by decide +kernel) (a_cons (ev 3) a_nil)))))
     (ss_cons (s_for (passes_of rfl) rfl (w_seq (ev 1)) (g_name (i := 4) nd rfl (by first | exact Or.inl rfl | exact Or.inr rfl)) (ss_one (s_asg (e_callP d_lesser hG (hr.mono (by decide)) (passXE hE) (a_cons (e_ix (e_ix (ev 2) (ev 4)) (ev 4)) (a_cons e_int a_nil))) (g_sub (e_ix (ev 2) (ev 4)) (ev 4) p_put))))
     (ss_cons (s_for (passes_of rfl) rfl (w_seq (ev 1)) (g_name (i := 5) nd rfl (by first | exact Or.inl rfl | exact Or.inr rfl)) (ss_one (s_for (passes_of rfl) rfl (w_seq (ev 1)) (g_name (i := 4) nd rfl (by first | exact Or.inl rfl | exact Or.inr rfl)) (ss_one (s_for (passes_of rfl) rfl (w_seq (ev 1)) (g_name (i := 6) nd rfl (by first | exact Or.inl rfl | exact Or.inr rfl)) (ss_one (s_asg (e_callP d_lesser hG (hr.mono (by decide)) (passXE hE) (a_cons (e_ix (e_ix (ev 2) (ev 4)) (ev 6)) (a_cons (e_callP d_joined hG (hr.mono (by decide)) (passXE hE) (a_cons (e_ix (e_ix (ev 2) (ev 4)) (ev 5)) (a_cons (e_ix (e_ix (ev 2) (ev 5)) (ev 6)) a_nil))) a_nil))) (g_sub (e_ix (ev 2) (ev 4)) (ev 6) p_put))))))))
     (ss_cons (s_if (t_val (e_callB (c_anyF rfl) z_any (by decide +kernel) (a_cons (e_lcF (own := [(("p" : PySem.Str), 4)]) (by decide) rfl nd (w_seq (ev 1)) (blkOk_by (N := N_closed) (sc := defScope s_closed) (by decide +kernel)) (fun _ _ _ _ _ => (g_name (i := 4) nd rfl (by first | exact Or.inl rfl | exact Or.inr rfl))) (fun _ _ _ _ _ => ts_nil) (fun _ _ _ _ _ => (e_cmp o_lt (e_ix (e_ix (ev 2) (ev 4)) (ev 4)) e_int (nomark _)))) a_nil))) (ss_one (s_ret (e_tup a_nil))) ss_nil)
     (ss_one (s_ret (e_callTy c_tuple z_tuple (by decide +kernel) (a_cons (e_lcF (own := [(("row" : PySem.Str), 3)]) (by decide) rfl nd (w_seq (ev 2)) (blkOk_by (N := N_closed) (sc := defScope s_closed) (by decide +kernel)) (fun _ _ _ _ _ => (g_name (i := 3) nd rfl (by first | exact Or.inl rfl | exact Or.inr rfl))) (fun _ _ _ _ _ => ts_nil) (fun _ _ _ _ _ => (e_callTy c_tuple z_tuple (by decide +kernel) (a_cons (ev 3) a_nil)))) a_nil)))))))))
abbrev s_only : PySem.Stmt := top 5
abbrev N_only : List PySem.Str := [("table" : PySem.Str), ("points" : PySem.Str), ("whole" : PySem.Str), ("zero" : PySem.Str), ("kept" : PySem.Str), ("p" : PySem.Str), ("q" : PySem.Str)]
theorem sc_only : FnScope N_only [("table" : PySem.Str), ("points" : PySem.Str)] (defScope s_only) := ⟨rfl, rfl, rfl, by decide +kernel, rfl, by decide +kernel, by decide +kernel⟩
def r_only (sp_closed : Sp3) : XK3 → TS3 := fun E =>
  (wSeq (wSet 2 (wCallP sp_closed E (wCons (wVar 0) wNil)))
  (wSeq (wIfS (wB (wOp (oEq false) (wVar 2) (wTup wNil))) (wRet (wTup wNil)) wNext)
  (wSeq (wSet 3 (wOp oSub (wCB bLen (wCons (wVar 2) wNil)) (wC (.int 1))))
  (wSeq (wSet 4 (wOp oAddF (wLcF (wItems (wVar 1)) (wgName 5) (wB (wOp (oEq true) (wVar 5) (wVar 3))) (wVar 5) [5]) (wLstF (wCons (wVar 3) wNil))))
  (wRet (wCB bTuple (wCons (wLcF (wItems (wVar 4)) (wgName 5) wYes (wCB bTuple (wCons (wLcF (wItems (wVar 4)) (wgName 6) wYes (wOp oIx (wOp oIx (wVar 2) (wVar 5)) (wVar 6)) [6]) wNil)) [5]) wNil)))))))
def sp_only : Sp3 := spOf 2 7 (r_only sp_closed)
theorem ok_only {f : Addr} {fd : FuncData} (hm : mg ("only" : PySem.Str) = some (.ref f)) (F : Fun K ("only" : PySem.Str) ("only" : PySem.Str) s_only f fd) (bd : Binds K fd [("table" : PySem.Str), ("points" : PySem.Str)] []) (z_len : mg ("len" : PySem.Str) = none) (z_tuple : mg ("tuple" : PySem.Str) = none) (d_closed : Def3 P w K mg base (L2.CX P w) 2 ("closed" : PySem.Str) sp_closed) : Def3 P w K mg base (L2.CX P w) 3 ("only" : PySem.Str) sp_only := by
  refine def_of (t := (r_only sp_closed)) hm F bd sc_only ?_
  intro cdv A outer s H E bs E3 hG hr hE
  have hG : (A.deeper (envOfC ("only" : PySem.Str) (defScope s_only) s.heap.objs.size f cdv)).guards = some [] := hG
  have hu := hr.units
  have hu2 := hu_more hr
  have nd := sc_only.nd
  exact (ss_cons (s_set (i := 2) nd rfl (by first | exact Or.inl rfl | exact Or.inr rfl) (e_callP d_closed hG (hr.mono (by decide)) (passXE hE) (a_cons (ev 0) a_nil)))
     (ss_cons (s_if (t_cmp (o_eq hu) (ev 2) (e_tup a_nil) (nomark _)) (ss_one (s_ret (e_tup a_nil))) ss_nil)
     (ss_cons (s_set (i := 3) nd rfl (by first | exact Or.inl rfl | exact Or.inr rfl) (e_op o_sub (e_callB c_len z_len (by decide +kernel) (a_cons (ev 2) a_nil)) e_int))
     (ss_cons (s_set (i := 4) nd rfl (by first | exact Or.inl rfl | exact Or.inr rfl) (e_op o_addF (e_lcF (own := [(("p" : PySem.Str), 5)]) (by decide) rfl nd (w_seq (ev 1)) (blkOk_by (N := N_only) (sc := defScope s_only) (by decide +kernel)) (fun _ _ _ _ _ => (g_name (i := 5) nd rfl (by first | exact Or.inl rfl | exact Or.inr rfl))) (fun _ _ _ _ _ => (ts_one (t_cmp (o_ne hu) (ev 5) (ev 3) (nomark _)))) (fun _ _ _ _ _ => (ev 5))) (e_lstF (a_cons (ev 3) a_nil))))
     (ss_one (s_ret (e_callTy c_tuple z_tuple (by decide +kernel) (a_cons (e_lcF (own := [(("p" : PySem.Str), 5)]) (by decide) rfl nd (w_seq (ev 4)) (blkOk_by (N := N_only) (sc := defScope s_only) (by decide +kernel)) (fun _ _ _ _ _ => (g_name (i := 5) nd rfl (by first | exact Or.inl rfl | exact Or.inr rfl))) (fun _ _ _ _ _ => ts_nil) (fun _ _ _ _ _ => (e_callTy c_tuple z_tuple (by decide +kernel) (a_cons (e_lcF (own := [(("q" : PySem.Str), 6)]) (by decide) rfl nd (w_seq (ev 4)) (blkOk_by (N := N_only) (by rfl)) (fun _ _ _ _ _ => (g_name (i := 6) nd rfl (by first | exact Or.inl rfl | exact Or.inr rfl))) (fun _ _ _ _ _ => ts_nil) (fun _ _ _ _ _ => (e_ix (e_ix (ev 2) (ev 5)) (ev 6)))) a_nil)))) a_nil))))))))
abbrev s_places_of : PySem.Stmt := top 13
abbrev N_places_of : List PySem.Str := [("width" : PySem.Str), ("first" : PySem.Str)]
theorem sc_places_of : FnScope N_places_of [("width" : PySem.Str), ("first" : PySem.Str)] (defScope s_places_of) := ⟨rfl, rfl, rfl, by decide +kernel, rfl, by decide +kernel, by decide +kernel⟩
def r_places_of : XK3 → TS3 := fun E =>
  (wRet (wOp oAddF (wLstRgF2 (wVar 1) (wOp oAddF (wVar 1) (wVar 0))) (wLstF (wCons (wOp oMulF (wC (.int 2)) (wVar 0)) wNil))))
def sp_places_of : Sp3 := spOf 2 2 r_places_of
theorem ok_places_of {f : Addr} {fd : FuncData} (hm : mg ("places_of" : PySem.Str) = some (.ref f)) (F : Fun K ("places_of" : PySem.Str) ("places_of" : PySem.Str) s_places_of f fd) (bd : Binds K fd [("width" : PySem.Str), ("first" : PySem.Str)] []) (z_list : mg ("list" : PySem.Str) = none) (z_range : mg ("range" : PySem.Str) = none) : Def3 P w K mg base (L2.CX P w) 1 ("places_of" : PySem.Str) sp_places_of := by
  refine def_of (t := r_places_of) hm F bd sc_places_of ?_
  intro cdv A outer s H E bs E3 hG hr hE
  have hG : (A.deeper (envOfC ("places_of" : PySem.Str) (defScope s_places_of) s.heap.objs.size f cdv)).guards = some [] := hG
  have hu := hr.units
  have hu2 := hu_more hr
  have nd := sc_places_of.nd
  exact (ss_one (s_ret (e_op o_addF (e_listRgF2 rfl z_list z_range (ev 1) (e_op o_addF (ev 1) (ev 0))) (e_lstF (a_cons (e_op o_mulF e_int (ev 0)) a_nil)))))
abbrev s_olds : PySem.Stmt := top 15
abbrev N_olds : List PySem.Str := [("step" : PySem.Str), ("field" : PySem.Str), ("width" : PySem.Str), ("table" : PySem.Str)]
theorem sc_olds : FnScope N_olds [("step" : PySem.Str), ("field" : PySem.Str)] (defScope s_olds) := ⟨rfl, rfl, rfl, by decide +kernel, rfl, by decide +kernel, by decide +kernel⟩
def r_olds (sp_put_together : Sp3) (sp_places_of : Sp3) (sp_only : Sp3) : XK3 → TS3 := fun E =>
  (wSeq (wIfS (wOr (wB (wOp (oEq false) (wVar 1) (wTup wNil))) (wB (wOp (oEq false) (wVar 0) (wTup wNil)))) (wRet (wTup wNil)) wNext)
  (wSeq (wSet 2 (wOp oFd (wCB bLen (wCons (wVar 0) wNil)) (wC (.int 2))))
  (wSeq (wSet 3 (wCallP sp_put_together E (wCons (wCB bLen (wCons (wVar 0) wNil)) (wCons (wLstF (wCons (wTup (wCons (wVar 0) (wCons (wLstRgF1 (wCB bLen (wCons (wVar 0) wNil))) wNil))) (wCons (wTup (wCons (wVar 1) (wCons (wCallP sp_places_of E (wCons (wVar 2) (wCons (wVar 2) wNil))) wNil))) wNil))) wNil))))
  (wRet (wCallP sp_only E (wCons (wVar 3) (wCons (wTupRg1 (wVar 2)) wNil)))))))
def sp_olds : Sp3 := spOf 2 4 (r_olds sp_put_together sp_places_of sp_only)
theorem ok_olds {f : Addr} {fd : FuncData} (hm : mg ("olds" : PySem.Str) = some (.ref f)) (F : Fun K ("olds" : PySem.Str) ("olds" : PySem.Str) s_olds f fd) (bd : Binds K fd [("step" : PySem.Str), ("field" : PySem.Str)] []) (z_len : mg ("len" : PySem.Str) = none) (z_list : mg ("list" : PySem.Str) = none) (z_range : mg ("range" : PySem.Str) = none) (z_tuple : mg ("tuple" : PySem.Str) = none) (d_put_together : Def3 P w K mg base (L2.CX P w) 2 ("put_together" : PySem.Str) sp_put_together) (d_places_of : Def3 P w K mg base (L2.CX P w) 1 ("places_of" : PySem.Str) sp_places_of) (d_only : Def3 P w K mg base (L2.CX P w) 3 ("only" : PySem.Str) sp_only) : Def3 P w K mg base (L2.CX P w) 4 ("olds" : PySem.Str) sp_olds := by
  refine def_of (t := (r_olds sp_put_together sp_places_of sp_only)) hm F bd sc_olds ?_
  intro cdv A outer s H E bs E3 hG hr hE
  have hG : (A.deeper (envOfC ("olds" : PySem.Str) (defScope s_olds) s.heap.objs.size f cdv)).guards = some [] := hG
  have hu := hr.units
  have hu2 := hu_more hr
  have nd := sc_olds.nd
  exact (ss_cons (s_if (PW3.pt (t_or (t_cmp (o_eq hu) (ev 1) (e_tup a_nil) (nomark _)) (t_or1 (t_cmp (o_eq hu) (ev 0) (e_tup a_nil) (nomark _))))) (ss_one (s_ret (e_tup a_nil))) ss_nil)
     (ss_cons (s_set (i := 2) nd rfl (by first | exact Or.inl rfl | exact Or.inr rfl) (e_op o_fd (e_callB c_len z_len (by decide +kernel) (a_cons (ev 0) a_nil)) e_int))
     (ss_cons (s_set (i := 3) nd rfl (by first | exact Or.inl rfl | exact Or.inr rfl) (e_callP d_put_together hG (hr.mono (by decide)) (passXE hE) (a_cons (e_callB c_len z_len (by decide +kernel) (a_cons (ev 0) a_nil)) (a_cons (e_lstF (a_cons (e_tup (a_cons (ev 0) (a_cons (e_listRgF1 rfl z_list z_range (e_callB c_len z_len (by decide +kernel) (a_cons (ev 0) a_nil))) a_nil))) (a_cons (e_tup (a_cons (ev 1) (a_cons (e_callP d_places_of hG (hr.mono (by decide)) (passXE hE) (a_cons (ev 2) (a_cons (ev 2) a_nil))) a_nil))) a_nil))) a_nil))))
     (ss_one (s_ret (e_callP d_only hG (hr.mono (by decide)) (passXE hE) (a_cons (ev 3) (a_cons (e_tupRg1 rfl z_tuple z_range (ev 2)) a_nil))))))))
abbrev s_table_of : PySem.Stmt := top 4
abbrev N_table_of : List PySem.Str := [("many" : PySem.Str), ("rows" : PySem.Str), ("ends" : PySem.Str), ("p" : PySem.Str), ("q" : PySem.Str), ("c" : PySem.Str), ("row" : PySem.Str)]
theorem sc_table_of : FnScope N_table_of [("many" : PySem.Str), ("rows" : PySem.Str)] (defScope s_table_of) := ⟨rfl, rfl, rfl, by decide +kernel, rfl, by decide +kernel, by decide +kernel⟩
def r_table_of (sp_lesser : Sp3) (sp_closed : Sp3) : XK3 → TS3 := fun E =>
  (wSeq (wSet 2 (wLcF (wRng1 (wCons (wVar 0) wNil)) (wgName 3) wYes (wRep (wC .non) (wVar 0)) [3]))
  (wSeq (wFor (wItems (wVar 1)) (wgTupN 3 (wgCons (wgName 3) (wgCons (wgName 4) (wgCons (wgName 5) wgNil)))) (wAsg (wCallP sp_lesser E (wCons (wOp oIx (wOp oIx (wVar 2) (wVar 3)) (wVar 4)) (wCons (wVar 5) wNil))) (wgSub (wOp oIx (wVar 2) (wVar 3)) (wVar 4) oPut)))
  (wRet (wCallP sp_closed E (wCons (wCB bTuple (wCons (wLcF (wItems (wVar 2)) (wgName 6) wYes (wCB bTuple (wCons (wVar 6) wNil)) [6]) wNil)) wNil)))))
def sp_table_of : Sp3 := spOf 2 7 (r_table_of sp_lesser sp_closed)
theorem ok_table_of {f : Addr} {fd : FuncData} (hm : mg ("table_of" : PySem.Str) = some (.ref f)) (F : Fun K ("table_of" : PySem.Str) ("table_of" : PySem.Str) s_table_of f fd) (bd : Binds K fd [("many" : PySem.Str), ("rows" : PySem.Str)] []) (z_range : mg ("range" : PySem.Str) = none) (z_tuple : mg ("tuple" : PySem.Str) = none) (d_lesser : Def3 P w K mg base (L2.CX P w) 1 ("lesser" : PySem.Str) sp_lesser) (d_closed : Def3 P w K mg base (L2.CX P w) 2 ("closed" : PySem.Str) sp_closed) : Def3 P w K mg base (L2.CX P w) 3 ("table_of" : PySem.Str) sp_table_of := by
  refine def_of (t := (r_table_of sp_lesser sp_closed)) hm F bd sc_table_of ?_
  intro cdv A outer s H E bs E3 hG hr hE
  have hG : (A.deeper (envOfC ("table_of" : PySem.Str) (defScope s_table_of) s.heap.objs.size f cdv)).guards = some [] := hG
  have hu := hr.units
  have hu2 := hu_more hr
  have nd := sc_table_of.nd
  exact (ss_cons (s_setLcF (i := 2) (own := [(("p" : PySem.Str), 3)]) (by decide) rfl nd rfl rfl (sw_true rfl rfl rfl (by decide +kernel)) (w_rng1 z_range (a_cons (ev 0) a_nil)) (blkOk_by (N := N_table_of) (sc := defScope s_table_of) (by decide +kernel)) (fun _ _ _ _ _ => (g_name (i := 3) nd rfl (by first | exact Or.inl rfl | exact Or.inr rfl))) (fun _ _ _ _ _ => ts_nil) (fun _ _ _ _ _ => (e_rep e_non (ev 0))))
     (ss_cons (s_for (passes_of rfl) rfl (w_seq (ev 1)) (g_tupN rfl (gs_cons (g_name (i := 3) nd rfl (by first | exact Or.inl rfl | exact Or.inr rfl)) (gs_cons (g_name (i := 4) nd rfl (by first | exact Or.inl rfl | exact Or.inr rfl)) (gs_cons (g_name (i := 5) nd rfl (by first | exact Or.inl rfl | exact Or.inr rfl)) gs_nil)))) (ss_one (s_asg (e_callP d_lesser hG (hr.mono (by decide)) (passXE hE) (a_cons (e_ix (e_ix (ev 2) (ev 3)) (ev 4)) (a_cons (ev 5) a_nil))) (g_sub (e_ix (ev 2) (ev 3)) (ev 4) p_put))))
     (ss_one (s_ret (e_callP d_closed hG (hr.mono (by decide)) (passXE hE) (a_cons (e_callTy c_tuple z_tuple (by decide +kernel) (a_cons (e_lcF (own := [(("row" : PySem.Str), 6)]) (by decide) rfl nd (w_seq (ev 2)) (blkOk_by (N := N_table_of) (sc := defScope s_table_of) (by decide +kernel)) (fun _ _ _ _ _ => (g_name (i := 6) nd rfl (by first | exact Or.inl rfl | exact Or.inr rfl))) (fun _ _ _ _ _ => ts_nil) (fun _ _ _ _ _ => (e_callTy c_tuple z_tuple (by decide +kernel) (a_cons (ev 6) a_nil)))) a_nil)) a_nil))))))
abbrev s_step_of : PySem.Stmt := top 10
abbrev N_step_of : List PySem.Str := [("width" : PySem.Str), ("rows" : PySem.Str)]
theorem sc_step_of : FnScope N_step_of [("width" : PySem.Str), ("rows" : PySem.Str)] (defScope s_step_of) := ⟨rfl, rfl, rfl, by decide +kernel, rfl, by decide +kernel, by decide +kernel⟩
def r_step_of (sp_table_of : Sp3) : XK3 → TS3 := fun E =>
  (wRet (wCallP sp_table_of E (wCons (wOp oAddF (wOp oMulF (wC (.int 2)) (wVar 0)) (wC (.int 1))) (wCons (wVar 1) wNil))))
def sp_step_of : Sp3 := spOf 2 2 (r_step_of sp_table_of)
theorem ok_step_of {f : Addr} {fd : FuncData} (hm : mg ("step_of" : PySem.Str) = some (.ref f)) (F : Fun K ("step_of" : PySem.Str) ("step_of" : PySem.Str) s_step_of f fd) (bd : Binds K fd [("width" : PySem.Str), ("rows" : PySem.Str)] []) (d_table_of : Def3 P w K mg base (L2.CX P w) 3 ("table_of" : PySem.Str) sp_table_of) : Def3 P w K mg base (L2.CX P w) 4 ("step_of" : PySem.Str) sp_step_of := by
  refine def_of (t := (r_step_of sp_table_of)) hm F bd sc_step_of ?_
  intro cdv A outer s H E bs E3 hG hr hE
  have hG : (A.deeper (envOfC ("step_of" : PySem.Str) (defScope s_step_of) s.heap.objs.size f cdv)).guards = some [] := hG
  have hu := hr.units
  have hu2 := hu_more hr
  have nd := sc_step_of.nd
  exact (ss_one (s_ret (e_callP d_table_of hG (hr.mono (by decide)) (passXE hE) (a_cons (e_op o_addF (e_op o_mulF e_int (ev 0)) e_int) (a_cons (ev 1) a_nil)))))
abbrev s_like : PySem.Stmt := top 11
abbrev N_like : List PySem.Str := [("p" : PySem.Str), ("q" : PySem.Str), ("c" : PySem.Str)]
theorem sc_like : FnScope N_like [("p" : PySem.Str), ("q" : PySem.Str), ("c" : PySem.Str)] (defScope s_like) := ⟨rfl, rfl, rfl, by decide +kernel, rfl, by decide +kernel, by decide +kernel⟩
def r_like : XK3 → TS3 := fun E =>
  (wRet (wLstF (wCons (wTup (wCons (wVar 0) (wCons (wVar 1) (wCons (wVar 2) wNil)))) (wCons (wTup (wCons (wVar 1) (wCons (wVar 0) (wCons (wUn oNeg (wVar 2)) wNil)))) wNil))))
def sp_like : Sp3 := spOf 3 3 r_like
theorem ok_like {f : Addr} {fd : FuncData} (hm : mg ("like" : PySem.Str) = some (.ref f)) (F : Fun K ("like" : PySem.Str) ("like" : PySem.Str) s_like f fd) (bd : Binds K fd [("p" : PySem.Str), ("q" : PySem.Str), ("c" : PySem.Str)] []) : Def3 P w K mg base (L2.CX P w) 1 ("like" : PySem.Str) sp_like := by
  refine def_of (t := r_like) hm F bd sc_like ?_
  intro cdv A outer s H E bs E3 hG hr hE
  have hG : (A.deeper (envOfC ("like" : PySem.Str) (defScope s_like) s.heap.objs.size f cdv)).guards = some [] := hG
  have hu := hr.units
  have hu2 := hu_more hr
  have nd := sc_like.nd
  exact (ss_one (s_ret (e_lstF (a_cons (e_tup (a_cons (ev 0) (a_cons (ev 1) (a_cons (ev 2) a_nil)))) (a_cons (e_tup (a_cons (ev 1) (a_cons (ev 0) (a_cons (e_neg (ev 2)) a_nil)))) a_nil)))))
abbrev s_kept : PySem.Stmt := top 12
abbrev N_kept : List PySem.Str := [("width" : PySem.Str), ("rows" : PySem.Str), ("x" : PySem.Str)]
theorem sc_kept : FnScope N_kept [("width" : PySem.Str)] (defScope s_kept) := ⟨rfl, rfl, rfl, by decide +kernel, rfl, by decide +kernel, by decide +kernel⟩
def r_kept (sp_like : Sp3) (sp_step_of : Sp3) : XK3 → TS3 := fun E =>
  (wSeq (wSet 1 (wLst wNil))
  (wSeq (wFor (wRng1 (wCons (wVar 0) wNil)) (wgName 2) (wDrop (wBM oExtF (wVar 1) (wCons (wCallP sp_like E (wCons (wOp oAddF (wVar 0) (wVar 2)) (wCons (wVar 2) (wCons (wC (.int 0)) wNil)))) wNil))))
  (wRet (wCallP sp_step_of E (wCons (wVar 0) (wCons (wFrz (wVar 1)) wNil))))))
def sp_kept : Sp3 := spOf 1 3 (r_kept sp_like sp_step_of)
theorem ok_kept {f : Addr} {fd : FuncData} (hm : mg ("kept" : PySem.Str) = some (.ref f)) (F : Fun K ("kept" : PySem.Str) ("kept" : PySem.Str) s_kept f fd) (bd : Binds K fd [("width" : PySem.Str)] []) (z_range : mg ("range" : PySem.Str) = none) (d_like : Def3 P w K mg base (L2.CX P w) 1 ("like" : PySem.Str) sp_like) (d_step_of : Def3 P w K mg base (L2.CX P w) 4 ("step_of" : PySem.Str) sp_step_of) : Def3 P w K mg base (L2.CX P w) 5 ("kept" : PySem.Str) sp_kept := by
  refine def_of (t := (r_kept sp_like sp_step_of)) hm F bd sc_kept ?_
  intro cdv A outer s H E bs E3 hG hr hE
  have hG : (A.deeper (envOfC ("kept" : PySem.Str) (defScope s_kept) s.heap.objs.size f cdv)).guards = some [] := hG
  have hu := hr.units
  have hu2 := hu_more hr
  have nd := sc_kept.nd
  exact (ss_cons (s_set (i := 1) nd rfl (by first | exact Or.inl rfl | exact Or.inr rfl) (e_lst a_nil))
     (ss_cons (s_for (passes_of rfl) rfl (w_rng1 z_range (a_cons (ev 0) a_nil)) (g_name (i := 2) nd rfl (by first | exact Or.inl rfl | exact Or.inr rfl)) (ss_one (s_expr (e_extendF (ev 1) (e_callP d_like hG (hr.mono (by decide)) (passXE hE) (a_cons (e_op o_addF (ev 0) (ev 2)) (a_cons (ev 2) (a_cons e_int a_nil))))))))
     (ss_one (s_ret (e_callP d_step_of hG (hr.mono (by decide)) (passXE hE) (a_cons (ev 0) (a_cons (e_frz (ev 1)) a_nil)))))))
abbrev s_behind : PySem.Stmt := top 14
abbrev N_behind : List PySem.Str := [("one" : PySem.Str), ("other" : PySem.Str), ("width" : PySem.Str), ("ahead" : PySem.Str), ("table" : PySem.Str)]
theorem sc_behind : FnScope N_behind [("one" : PySem.Str), ("other" : PySem.Str)] (defScope s_behind) := ⟨rfl, rfl, rfl, by decide +kernel, rfl, by decide +kernel, by decide +kernel⟩
def r_behind (sp_put_together : Sp3) (sp_only : Sp3) : XK3 → TS3 := fun E =>
  (wSeq (wIfS (wOr (wB (wOp (oEq false) (wVar 0) (wTup wNil))) (wB (wOp (oEq false) (wVar 1) (wTup wNil)))) (wRet (wTup wNil)) wNext)
  (wSeq (wSet 2 (wOp oFd (wCB bLen (wCons (wVar 0) wNil)) (wC (.int 2))))
  (wSeq (wSet 3 (wOp oAddF (wLstRgF1 (wOp oMulF (wC (.int 2)) (wVar 2))) (wLstF (wCons (wOp oMulF (wC (.int 3)) (wVar 2)) wNil))))
  (wSeq (wSet 4 (wCallP sp_put_together E (wCons (wOp oAddF (wOp oMulF (wC (.int 3)) (wVar 2)) (wC (.int 1))) (wCons (wLstF (wCons (wTup (wCons (wVar 0) (wCons (wVar 3) wNil))) (wCons (wTup (wCons (wVar 1) (wCons (wLstRgF2 (wVar 2) (wOp oAddF (wOp oMulF (wC (.int 3)) (wVar 2)) (wC (.int 1)))) wNil))) wNil))) wNil))))
  (wRet (wCallP sp_only E (wCons (wVar 4) (wCons (wCB bTuple (wCons (wOp oAddF (wLstRgF1 (wVar 2)) (wLstRgF2 (wOp oMulF (wC (.int 2)) (wVar 2)) (wOp oMulF (wC (.int 3)) (wVar 2)))) wNil)) wNil))))))))
def sp_behind : Sp3 := spOf 2 5 (r_behind sp_put_together sp_only)
theorem ok_behind {f : Addr} {fd : FuncData} (hm : mg ("behind" : PySem.Str) = some (.ref f)) (F : Fun K ("behind" : PySem.Str) ("behind" : PySem.Str) s_behind f fd) (bd : Binds K fd [("one" : PySem.Str), ("other" : PySem.Str)] []) (z_len : mg ("len" : PySem.Str) = none) (z_list : mg ("list" : PySem.Str) = none) (z_range : mg ("range" : PySem.Str) = none) (z_tuple : mg ("tuple" : PySem.Str) = none) (d_put_together : Def3 P w K mg base (L2.CX P w) 2 ("put_together" : PySem.Str) sp_put_together) (d_only : Def3 P w K mg base (L2.CX P w) 3 ("only" : PySem.Str) sp_only) : Def3 P w K mg base (L2.CX P w) 4 ("behind" : PySem.Str) sp_behind := by
  refine def_of (t := (r_behind sp_put_together sp_only)) hm F bd sc_behind ?_
  intro cdv A outer s H E bs E3 hG hr hE
  have hG : (A.deeper (envOfC ("behind" : PySem.Str) (defScope s_behind) s.heap.objs.size f cdv)).guards = some [] := hG
  have hu := hr.units
  have hu2 := hu_more hr
  have nd := sc_behind.nd
  exact (ss_cons (s_if (PW3.pt (t_or (t_cmp (o_eq hu) (ev 0) (e_tup a_nil) (nomark _)) (t_or1 (t_cmp (o_eq hu) (ev 1) (e_tup a_nil) (nomark _))))) (ss_one (s_ret (e_tup a_nil))) ss_nil)
     (ss_cons (s_set (i := 2) nd rfl (by first | exact Or.inl rfl | exact Or.inr rfl) (e_op o_fd (e_callB c_len z_len (by decide +kernel) (a_cons (ev 0) a_nil)) e_int))
     (ss_cons (s_set (i := 3) nd rfl (by first | exact Or.inl rfl | exact Or.inr rfl) (e_op o_addF (e_listRgF1 rfl z_list z_range (e_op o_mulF e_int (ev 2))) (e_lstF (a_cons (e_op o_mulF e_int (ev 2)) a_nil))))
     (ss_cons (s_set (i := 4) nd rfl (by first | exact Or.inl rfl | exact Or.inr rfl) (e_callP d_put_together hG (hr.mono (by decide)) (passXE hE) (a_cons (e_op o_addF (e_op o_mulF e_int (ev 2)) e_int) (a_cons (e_lstF (a_cons (e_tup (a_cons (ev 0) (a_cons (ev 3) a_nil))) (a_cons (e_tup (a_cons (ev 1) (a_cons (e_listRgF2 rfl z_list z_range (ev 2) (e_op o_addF (e_op o_mulF e_int (ev 2)) e_int)) a_nil))) a_nil))) a_nil))))
     (ss_one (s_ret (e_callP d_only hG (hr.mono (by decide)) (passXE hE) (a_cons (ev 4) (a_cons (e_callTy c_tuple z_tuple (by decide +kernel) (a_cons (e_op o_addF (e_listRgF1 rfl z_list z_range (ev 2)) (e_listRgF2 rfl z_list z_range (e_op o_mulF e_int (ev 2)) (e_op o_mulF e_int (ev 2)))) a_nil)) a_nil)))))))))
abbrev s_power : PySem.Stmt := top 17
abbrev N_power : List PySem.Str := [("width" : PySem.Str), ("step" : PySem.Str), ("times" : PySem.Str), ("found" : PySem.Str), ("now" : PySem.Str)]
theorem sc_power : FnScope N_power [("width" : PySem.Str), ("step" : PySem.Str), ("times" : PySem.Str)] (defScope s_power) := ⟨rfl, rfl, rfl, by decide +kernel, rfl, by decide +kernel, by decide +kernel⟩
def r_power (sp_closed : Sp3) (sp_kept : Sp3) (sp_behind : Sp3) : XK3 → TS3 := fun E =>
  (wSeq (wPar 3 4 (wCons (wCallP sp_kept E (wCons (wVar 0) wNil)) (wCons (wCallP sp_closed E (wCons (wVar 1) wNil)) wNil)))
  (wSeq (wWhile (wB (wOp oGt (wVar 2) (wC (.int 0)))) (wSeq (wIfS (wB (wOp (oEq false) (wOp oMd (wVar 2) (wC (.int 2))) (wC (.int 1)))) (wSet 3 (wCallP sp_behind E (wCons (wVar 3) (wCons (wVar 4) wNil)))) wNext)
  (wSeq (wSet 4 (wCallP sp_behind E (wCons (wVar 4) (wCons (wVar 4) wNil))))
  (wSet 2 (wOp oFd (wVar 2) (wC (.int 2)))))))
  (wRet (wVar 3))))
def sp_power : Sp3 := spOf 3 5 (r_power sp_closed sp_kept sp_behind)
theorem ok_power {f : Addr} {fd : FuncData} (hm : mg ("power" : PySem.Str) = some (.ref f)) (F : Fun K ("power" : PySem.Str) ("power" : PySem.Str) s_power f fd) (bd : Binds K fd [("width" : PySem.Str), ("step" : PySem.Str), ("times" : PySem.Str)] []) (d_closed : Def3 P w K mg base (L2.CX P w) 2 ("closed" : PySem.Str) sp_closed) (d_kept : Def3 P w K mg base (L2.CX P w) 5 ("kept" : PySem.Str) sp_kept) (d_behind : Def3 P w K mg base (L2.CX P w) 4 ("behind" : PySem.Str) sp_behind) : Def3 P w K mg base (L2.CX P w) 6 ("power" : PySem.Str) sp_power := by
  refine def_of (t := (r_power sp_closed sp_kept sp_behind)) hm F bd sc_power ?_
  intro cdv A outer s H E bs E3 hG hr hE
  have hG : (A.deeper (envOfC ("power" : PySem.Str) (defScope s_power) s.heap.objs.size f cdv)).guards = some [] := hG
  have hu := hr.units
  have hu2 := hu_more hr
  have nd := sc_power.nd
  exact (ss_cons (s_par (i := 3) (j := 4) rfl nd rfl rfl (by decide) rfl rfl (a_cons (e_callP d_kept hG (hr.mono (by decide)) (passXE hE) (a_cons (ev 0) a_nil)) (a_cons (e_callP d_closed hG (hr.mono (by decide)) (passXE hE) (a_cons (ev 1) a_nil)) a_nil)) rfl)
     (ss_cons (s_while (passes_of rfl) (t_cmp o_gt (ev 2) e_int (nomark _)) (ss_cons (s_if (t_cmp (o_eq hu) (e_op o_md (ev 2) e_int) e_int (nomark _)) (ss_one (s_set (i := 3) nd rfl (by first | exact Or.inl rfl | exact Or.inr rfl) (e_callP d_behind hG (hr.mono (by decide)) (passXE hE) (a_cons (ev 3) (a_cons (ev 4) a_nil))))) ss_nil)
     (ss_cons (s_set (i := 4) nd rfl (by first | exact Or.inl rfl | exact Or.inr rfl) (e_callP d_behind hG (hr.mono (by decide)) (passXE hE) (a_cons (ev 4) (a_cons (ev 4) a_nil))))
     (ss_one (s_set (i := 2) nd rfl (by first | exact Or.inl rfl | exact Or.inr rfl) (e_op o_fd (ev 2) e_int))))))
     (ss_one (s_ret (ev 3)))))
abbrev s_olds_before : PySem.Stmt := top 18
abbrev N_olds_before : List PySem.Str := [("width" : PySem.Str), ("step" : PySem.Str), ("field" : PySem.Str), ("times" : PySem.Str)]
theorem sc_olds_before : FnScope N_olds_before [("width" : PySem.Str), ("step" : PySem.Str), ("field" : PySem.Str), ("times" : PySem.Str)] (defScope s_olds_before) := ⟨rfl, rfl, rfl, by decide +kernel, rfl, by decide +kernel, by decide +kernel⟩
def r_olds_before (sp_closed : Sp3) (sp_olds : Sp3) (sp_power : Sp3) : XK3 → TS3 := fun E =>
  (wSeq (wIfS (wB (wOp (oEq false) (wVar 3) (wC (.int 0)))) (wRet (wCallP sp_closed E (wCons (wVar 2) wNil))) wNext)
  (wRet (wCallP sp_olds E (wCons (wCallP sp_power E (wCons (wVar 0) (wCons (wVar 1) (wCons (wVar 3) wNil)))) (wCons (wVar 2) wNil)))))
def sp_olds_before : Sp3 := spOf 4 4 (r_olds_before sp_closed sp_olds sp_power)
theorem ok_olds_before {f : Addr} {fd : FuncData} (hm : mg ("olds_before" : PySem.Str) = some (.ref f)) (F : Fun K ("olds_before" : PySem.Str) ("olds_before" : PySem.Str) s_olds_before f fd) (bd : Binds K fd [("width" : PySem.Str), ("step" : PySem.Str), ("field" : PySem.Str), ("times" : PySem.Str)] []) (d_closed : Def3 P w K mg base (L2.CX P w) 2 ("closed" : PySem.Str) sp_closed) (d_olds : Def3 P w K mg base (L2.CX P w) 4 ("olds" : PySem.Str) sp_olds) (d_power : Def3 P w K mg base (L2.CX P w) 6 ("power" : PySem.Str) sp_power) : Def3 P w K mg base (L2.CX P w) 7 ("olds_before" : PySem.Str) sp_olds_before := by
  refine def_of (t := (r_olds_before sp_closed sp_olds sp_power)) hm F bd sc_olds_before ?_
  intro cdv A outer s H E bs E3 hG hr hE
  have hG : (A.deeper (envOfC ("olds_before" : PySem.Str) (defScope s_olds_before) s.heap.objs.size f cdv)).guards = some [] := hG
  have hu := hr.units
  have hu2 := hu_more hr
  have nd := sc_olds_before.nd
  exact (ss_cons (s_if (t_cmp (o_eq hu) (ev 3) e_int (nomark _)) (ss_one (s_ret (e_callP d_closed hG (hr.mono (by decide)) (passXE hE) (a_cons (ev 2) a_nil)))) ss_nil)
     (ss_one (s_ret (e_callP d_olds hG (hr.mono (by decide)) (passXE hE) (a_cons (e_callP d_power hG (hr.mono (by decide)) (passXE hE) (a_cons (ev 0) (a_cons (ev 1) (a_cons (ev 3) a_nil)))) (a_cons (ev 2) a_nil))))))
abbrev s_field_of : PySem.Stmt := top 7
abbrev N_field_of : List PySem.Str := [("width" : PySem.Str), ("rows" : PySem.Str)]
theorem sc_field_of : FnScope N_field_of [("width" : PySem.Str), ("rows" : PySem.Str)] (defScope s_field_of) := ⟨rfl, rfl, rfl, by decide +kernel, rfl, by decide +kernel, by decide +kernel⟩
def r_field_of (sp_table_of : Sp3) : XK3 → TS3 := fun E =>
  (wRet (wCallP sp_table_of E (wCons (wOp oAddF (wVar 0) (wC (.int 1))) (wCons (wVar 1) wNil))))
def sp_field_of : Sp3 := spOf 2 2 (r_field_of sp_table_of)
theorem ok_field_of {f : Addr} {fd : FuncData} (hm : mg ("field_of" : PySem.Str) = some (.ref f)) (F : Fun K ("field_of" : PySem.Str) ("field_of" : PySem.Str) s_field_of f fd) (bd : Binds K fd [("width" : PySem.Str), ("rows" : PySem.Str)] []) (d_table_of : Def3 P w K mg base (L2.CX P w) 3 ("table_of" : PySem.Str) sp_table_of) : Def3 P w K mg base (L2.CX P w) 4 ("field_of" : PySem.Str) sp_field_of := by
  refine def_of (t := (r_field_of sp_table_of)) hm F bd sc_field_of ?_
  intro cdv A outer s H E bs E3 hG hr hE
  have hG : (A.deeper (envOfC ("field_of" : PySem.Str) (defScope s_field_of) s.heap.objs.size f cdv)).guards = some [] := hG
  have hu := hr.units
  have hu2 := hu_more hr
  have nd := sc_field_of.nd
  exact (ss_one (s_ret (e_callP d_table_of hG (hr.mono (by decide)) (passXE hE) (a_cons (e_op o_addF (ev 0) e_int) (a_cons (ev 1) a_nil)))))
abbrev s_can_do : PySem.Stmt := top 20
abbrev N_can_do : List PySem.Str := [("width" : PySem.Str), ("step" : PySem.Str), ("times" : PySem.Str)]
theorem sc_can_do : FnScope N_can_do [("width" : PySem.Str), ("step" : PySem.Str), ("times" : PySem.Str)] (defScope s_can_do) := ⟨rfl, rfl, rfl, by decide +kernel, rfl, by decide +kernel, by decide +kernel⟩
def r_can_do (sp_olds_before : Sp3) (sp_field_of : Sp3) : XK3 → TS3 := fun E =>
  (wRet (wCallP sp_olds_before E (wCons (wVar 0) (wCons (wVar 1) (wCons (wCallP sp_field_of E (wCons (wVar 0) (wCons (wTup wNil) wNil))) (wCons (wVar 2) wNil))))))
def sp_can_do : Sp3 := spOf 3 3 (r_can_do sp_olds_before sp_field_of)
theorem ok_can_do {f : Addr} {fd : FuncData} (hm : mg ("can_do" : PySem.Str) = some (.ref f)) (F : Fun K ("can_do" : PySem.Str) ("can_do" : PySem.Str) s_can_do f fd) (bd : Binds K fd [("width" : PySem.Str), ("step" : PySem.Str), ("times" : PySem.Str)] []) (d_olds_before : Def3 P w K mg base (L2.CX P w) 7 ("olds_before" : PySem.Str) sp_olds_before) (d_field_of : Def3 P w K mg base (L2.CX P w) 4 ("field_of" : PySem.Str) sp_field_of) : Def3 P w K mg base (L2.CX P w) 8 ("can_do" : PySem.Str) sp_can_do := by
  refine def_of (t := (r_can_do sp_olds_before sp_field_of)) hm F bd sc_can_do ?_
  intro cdv A outer s H E bs E3 hG hr hE
  have hG : (A.deeper (envOfC ("can_do" : PySem.Str) (defScope s_can_do) s.heap.objs.size f cdv)).guards = some [] := hG
  have hu := hr.units
  have hu2 := hu_more hr
  have nd := sc_can_do.nd
  exact (ss_one (s_ret (e_callP d_olds_before hG (hr.mono (by decide)) (passXE hE) (a_cons (ev 0) (a_cons (ev 1) (a_cons (e_callP d_field_of hG (hr.mono (by decide)) (passXE hE) (a_cons (ev 0) (a_cons (e_tup a_nil) a_nil))) (a_cons (ev 2) a_nil)))))))
abbrev s__law_edges : PySem.Stmt := top 30
abbrev N__law_edges : List PySem.Str := [("_law_table_here" : PySem.Str), ("_law_places" : PySem.Str), ("_law_found" : PySem.Str), ("_law_p" : PySem.Str), ("_law_q" : PySem.Str)]
theorem sc__law_edges : FnScope N__law_edges [("_law_table_here" : PySem.Str), ("_law_places" : PySem.Str)] (defScope s__law_edges) := ⟨rfl, rfl, rfl, by decide +kernel, rfl, by decide +kernel, by decide +kernel⟩
def r__law_edges : XK3 → TS3 := fun E =>
  (wSeq (wSet 2 (wLst wNil))
  (wSeq (wFor (wRng1 (wCons (wCB bLen (wCons (wVar 0) wNil)) wNil)) (wgName 3) (wDrop (wBM oExtF (wVar 2) (wCons (wLcF (wRng1 (wCons (wCB bLen (wCons (wVar 0) wNil)) wNil)) (wgName 4) (wB (wOp (oIsN true) (wOp oIx (wOp oIx (wVar 0) (wVar 3)) (wVar 4)) (wC .non))) (wTup (wCons (wOp oIx (wVar 1) (wVar 4)) (wCons (wOp oIx (wVar 1) (wVar 3)) (wCons (wOp oIx (wOp oIx (wVar 0) (wVar 3)) (wVar 4)) wNil)))) [4]) wNil))))
  (wRet (wFrz (wVar 2)))))
def sp__law_edges : Sp3 := spOf 2 5 r__law_edges
theorem ok__law_edges {f : Addr} {fd : FuncData} (hm : mg ("_law_edges" : PySem.Str) = some (.ref f)) (F : Fun K ("_law_edges" : PySem.Str) ("_law_edges" : PySem.Str) s__law_edges f fd) (bd : Binds K fd [("_law_table_here" : PySem.Str), ("_law_places" : PySem.Str)] []) (z_len : mg ("len" : PySem.Str) = none) (z_range : mg ("range" : PySem.Str) = none) : Def3 P w K mg base (L2.CX P w) 1 ("_law_edges" : PySem.Str) sp__law_edges := by
  refine def_of (t := r__law_edges) hm F bd sc__law_edges ?_
  intro cdv A outer s H E bs E3 hG hr hE
  have hG : (A.deeper (envOfC ("_law_edges" : PySem.Str) (defScope s__law_edges) s.heap.objs.size f cdv)).guards = some [] := hG
  have hu := hr.units
  have hu2 := hu_more hr
  have nd := sc__law_edges.nd
  exact (ss_cons (s_set (i := 2) nd rfl (by first | exact Or.inl rfl | exact Or.inr rfl) (e_lst a_nil))
     (ss_cons (s_for (passes_of rfl) rfl (w_rng1 z_range (a_cons (e_callB c_len z_len (by decide +kernel) (a_cons (ev 0) a_nil)) a_nil)) (g_name (i := 3) nd rfl (by first | exact Or.inl rfl | exact Or.inr rfl)) (ss_one (s_expr (e_extendF (ev 2) (e_lcF (own := [(("_law_q" : PySem.Str), 4)]) (by decide) rfl nd (w_rng1 z_range (a_cons (e_callB c_len z_len (by decide +kernel) (a_cons (ev 0) a_nil)) a_nil)) (blkOk_by (N := N__law_edges) (sc := defScope s__law_edges) (by decide +kernel)) (fun _ _ _ _ _ => (g_name (i := 4) nd rfl (by first | exact Or.inl rfl | exact Or.inr rfl))) (fun _ _ _ _ _ => (ts_one (t_cmp o_isnot (e_ix (e_ix (ev 0) (ev 3)) (ev 4)) e_non (nomark _)))) (fun _ _ _ _ _ => (e_tup (a_cons (e_ix (ev 1) (ev 4)) (a_cons (e_ix (ev 1) (ev 3)) (a_cons (e_ix (e_ix (ev 0) (ev 3)) (ev 4)) a_nil))))))))))
     (ss_one (s_ret (e_frz (ev 2))))))
abbrev s__law_unrolled : PySem.Stmt := top 31
abbrev N__law_unrolled : List PySem.Str := [("_law_width" : PySem.Str), ("_law_step_here" : PySem.Str), ("_law_times" : PySem.Str), ("_law_zero" : PySem.Str), ("_law_found" : PySem.Str), ("_law_turn" : PySem.Str)]
theorem sc__law_unrolled : FnScope N__law_unrolled [("_law_width" : PySem.Str), ("_law_step_here" : PySem.Str), ("_law_times" : PySem.Str)] (defScope s__law_unrolled) := ⟨rfl, rfl, rfl, by decide +kernel, rfl, by decide +kernel, by decide +kernel⟩
def r__law_unrolled (sp__law_edges : Sp3) : XK3 → TS3 := fun E =>
  (wSeq (wSet 3 (wOp oMulF (wOp oAddF (wVar 2) (wC (.int 1))) (wVar 0)))
  (wSeq (wSet 4 (wLst wNil))
  (wSeq (wFor (wRng1 (wCons (wVar 2) wNil)) (wgName 5) (wSeq (wIfS (wB (wOp (oEq false) (wVar 1) (wTup wNil))) (wRet (wC .non)) wNext)
  (wDrop (wBM oExtF (wVar 4) (wCons (wCallP sp__law_edges E (wCons (wVar 1) (wCons (wOp oAddF (wLstRgF2 (wOp oMulF (wVar 5) (wVar 0)) (wOp oMulF (wOp oAddF (wVar 5) (wC (.int 2))) (wVar 0))) (wLstF (wCons (wVar 3) wNil))) wNil))) wNil)))))
  (wRet (wFrz (wVar 4))))))
def sp__law_unrolled : Sp3 := spOf 3 6 (r__law_unrolled sp__law_edges)
theorem ok__law_unrolled {f : Addr} {fd : FuncData} (hm : mg ("_law_unrolled" : PySem.Str) = some (.ref f)) (F : Fun K ("_law_unrolled" : PySem.Str) ("_law_unrolled" : PySem.Str) s__law_unrolled f fd) (bd : Binds K fd [("_law_width" : PySem.Str), ("_law_step_here" : PySem.Str), ("_law_times" : PySem.Str)] []) (z_list : mg ("list" : PySem.Str) = none) (z_range : mg ("range" : PySem.Str) = none) (d__law_edges : Def3 P w K mg base (L2.CX P w) 1 ("_law_edges" : PySem.Str) sp__law_edges) : Def3 P w K mg base (L2.CX P w) 2 ("_law_unrolled" : PySem.Str) sp__law_unrolled := by
  refine def_of (t := (r__law_unrolled sp__law_edges)) hm F bd sc__law_unrolled ?_
  intro cdv A outer s H E bs E3 hG hr hE
  have hG : (A.deeper (envOfC ("_law_unrolled" : PySem.Str) (defScope s__law_unrolled) s.heap.objs.size f cdv)).guards = some [] := hG
  have hu := hr.units
  have hu2 := hu_more hr
  have nd := sc__law_unrolled.nd
  exact (ss_cons (s_set (i := 3) nd rfl (by first | exact Or.inl rfl | exact Or.inr rfl) (e_op o_mulF (e_op o_addF (ev 2) e_int) (ev 0)))
     (ss_cons (s_set (i := 4) nd rfl (by first | exact Or.inl rfl | exact Or.inr rfl) (e_lst a_nil))
     (ss_cons (s_for (passes_of rfl) rfl (w_rng1 z_range (a_cons (ev 2) a_nil)) (g_name (i := 5) nd rfl (by first | exact Or.inl rfl | exact Or.inr rfl)) (ss_cons (s_if (t_cmp (o_eq hu) (ev 1) (e_tup a_nil) (nomark _)) (ss_one (s_ret e_non)) ss_nil)
     (ss_one (s_expr (e_extendF (ev 4) (e_callP d__law_edges hG (hr.mono (by decide)) (passXE hE) (a_cons (ev 1) (a_cons (e_op o_addF (e_listRgF2 rfl z_list z_range (e_op o_mulF (ev 5) (ev 0)) (e_op o_mulF (e_op o_addF (ev 5) e_int) (ev 0))) (e_lstF (a_cons (ev 3) a_nil))) a_nil))))))))
     (ss_one (s_ret (e_frz (ev 4)))))))
abbrev s__law_loosened : PySem.Stmt := top 32
abbrev N__law_loosened : List PySem.Str := [("_law_edges_here" : PySem.Str), ("_law_many" : PySem.Str), ("_law_sums" : PySem.Str), ("_law_found" : PySem.Str), ("_law_turn" : PySem.Str), ("_law_is_loose" : PySem.Str), ("_law_start" : PySem.Str), ("_law_goal" : PySem.Str), ("_law_end" : PySem.Str)]
theorem sc__law_loosened : FnScope N__law_loosened [("_law_edges_here" : PySem.Str), ("_law_many" : PySem.Str), ("_law_sums" : PySem.Str)] (defScope s__law_loosened) := ⟨rfl, rfl, rfl, by decide +kernel, rfl, by decide +kernel, by decide +kernel⟩
def r__law_loosened : XK3 → TS3 := fun E =>
  (wSeq (wSet 3 (wCB bList (wCons (wVar 2) wNil)))
  (wSeq (wFor (wRng1 (wCons (wOp oAddF (wVar 1) (wC (.int 1))) wNil)) (wgName 4) (wSeq (wSet 5 (wC (.bl false)))
  (wSeq (wFor (wItems (wVar 0)) (wgTupN 3 (wgCons (wgName 6) (wgCons (wgName 7) (wgCons (wgName 8) wgNil)))) (wIfS (wAnd (wB (wOp (oIsN true) (wOp oIx (wVar 3) (wVar 6)) (wC .non))) (wOr (wB (wOp (oIsN false) (wOp oIx (wVar 3) (wVar 7)) (wC .non))) (wB (wOp oLt (wOp oAddF (wOp oIx (wVar 3) (wVar 6)) (wVar 8)) (wOp oIx (wVar 3) (wVar 7)))))) (wSeq (wAsg (wOp oAddF (wOp oIx (wVar 3) (wVar 6)) (wVar 8)) (wgSub (wVar 3) (wVar 7) oPut))
  (wSet 5 (wC (.bl true)))) wNext))
  (wIfS (wNot (wB (wVar 5))) (wRet (wVar 3)) wNext))))
  (wRet (wC .non))))
def sp__law_loosened : Sp3 := spOf 3 9 r__law_loosened
theorem ok__law_loosened {f : Addr} {fd : FuncData} (hm : mg ("_law_loosened" : PySem.Str) = some (.ref f)) (F : Fun K ("_law_loosened" : PySem.Str) ("_law_loosened" : PySem.Str) s__law_loosened f fd) (bd : Binds K fd [("_law_edges_here" : PySem.Str), ("_law_many" : PySem.Str), ("_law_sums" : PySem.Str)] []) (z_list : mg ("list" : PySem.Str) = none) (z_range : mg ("range" : PySem.Str) = none) : Def3 P w K mg base (L2.CX P w) 1 ("_law_loosened" : PySem.Str) sp__law_loosened := by
  refine def_of (t := r__law_loosened) hm F bd sc__law_loosened ?_
  intro cdv A outer s H E bs E3 hG hr hE
  have hG : (A.deeper (envOfC ("_law_loosened" : PySem.Str) (defScope s__law_loosened) s.heap.objs.size f cdv)).guards = some [] := hG
  have hu := hr.units
  have hu2 := hu_more hr
  have nd := sc__law_loosened.nd
  exact (ss_cons (s_set (i := 3) nd rfl (by first | exact Or.inl rfl | exact Or.inr rfl) (e_callTy c_list z_list (by decide +kernel) (a_cons (ev 2) a_nil)))
     (ss_cons (s_for (passes_of rfl) rfl (w_rng1 z_range (a_cons (e_op o_addF (ev 1) e_int) a_nil)) (g_name (i := 4) nd rfl (by first | exact Or.inl rfl | exact Or.inr rfl)) (ss_cons (s_set (i := 5) nd rfl (by first | exact Or.inl rfl | exact Or.inr rfl) e_bl)
     (ss_cons (s_for (passes_of rfl) rfl (w_seq (ev 0)) (g_tupN rfl (gs_cons (g_name (i := 6) nd rfl (by first | exact Or.inl rfl | exact Or.inr rfl)) (gs_cons (g_name (i := 7) nd rfl (by first | exact Or.inl rfl | exact Or.inr rfl)) (gs_cons (g_name (i := 8) nd rfl (by first | exact Or.inl rfl | exact Or.inr rfl)) gs_nil)))) (ss_one (s_if (PW3.pt (t_and (t_cmp o_isnot (e_ix (ev 3) (ev 6)) e_non (nomark _)) (t_and1 (PW3.pt (t_or (t_cmp o_is (e_ix (ev 3) (ev 7)) e_non (nomark _)) (t_or1 (t_cmp o_lt (e_op o_addF (e_ix (ev 3) (ev 6)) (ev 8)) (e_ix (ev 3) (ev 7)) (nomark _)))))))) (ss_cons (s_asg (e_op o_addF (e_ix (ev 3) (ev 6)) (ev 8)) (g_sub (ev 3) (ev 7) p_put))
     (ss_one (s_set (i := 5) nd rfl (by first | exact Or.inl rfl | exact Or.inr rfl) e_bl))) ss_nil)))
     (ss_one (s_if (t_not (t_val (ev 5))) (ss_one (s_ret (ev 3))) ss_nil)))))
     (ss_one (s_ret e_non))))
abbrev s__law_some : PySem.Stmt := top 33
abbrev N__law_some : List PySem.Str := [("_law_edges_here" : PySem.Str), ("_law_many" : PySem.Str)]
theorem sc__law_some : FnScope N__law_some [("_law_edges_here" : PySem.Str), ("_law_many" : PySem.Str)] (defScope s__law_some) := ⟨rfl, rfl, rfl, by decide +kernel, rfl, by decide +kernel, by decide +kernel⟩
def r__law_some (sp__law_loosened : Sp3) : XK3 → TS3 := fun E =>
  (wRet (wAndV (wOp (oIsN true) (wVar 0) (wC .non)) (wOp (oIsN true) (wCall sp__law_loosened E (wCons (wVar 0) (wCons (wVar 1) (wCons (wRepF (wC (.int 0)) (wVar 1)) wNil)))) (wC .non))))
def sp__law_some : Sp3 := spOf 2 2 (r__law_some sp__law_loosened)
theorem ok__law_some {f : Addr} {fd : FuncData} (hm : mg ("_law_some" : PySem.Str) = some (.ref f)) (F : Fun K ("_law_some" : PySem.Str) ("_law_some" : PySem.Str) s__law_some f fd) (bd : Binds K fd [("_law_edges_here" : PySem.Str), ("_law_many" : PySem.Str)] []) (d__law_loosened : Def3 P w K mg base (L2.CX P w) 1 ("_law_loosened" : PySem.Str) sp__law_loosened) : Def3 P w K mg base (L2.CX P w) 2 ("_law_some" : PySem.Str) sp__law_some := by
  refine def_of (t := (r__law_some sp__law_loosened)) hm F bd sc__law_some ?_
  intro cdv A outer s H E bs E3 hG hr hE
  have hG : (A.deeper (envOfC ("_law_some" : PySem.Str) (defScope s__law_some) s.heap.objs.size f cdv)).guards = some [] := hG
  have hu := hr.units
  have hu2 := hu_more hr
  have nd := sc__law_some.nd
  exact (ss_one (s_ret (e_and (e_cmp o_isnot (ev 0) e_non (nomark _)) (e_one (e_cmp o_isnot (e_call d__law_loosened hG (hr.mono (by decide)) (passXE hE) (a_cons (ev 0) (a_cons (ev 1) (a_cons (e_repF e_int (ev 1)) a_nil)))) e_non (nomark _))))))
abbrev s__law_due : PySem.Stmt := top 36
abbrev N__law_due : List PySem.Str := [("_law_width" : PySem.Str), ("_law_step_here" : PySem.Str), ("_law_times" : PySem.Str), ("_law_edges_here" : PySem.Str), ("_law_zero" : PySem.Str), ("_law_places" : PySem.Str), ("_law_found" : PySem.Str), ("_law_p" : PySem.Str), ("_law_q" : PySem.Str), ("_law_start" : PySem.Str), ("_law_sums" : PySem.Str), ("_law_goal" : PySem.Str), ("_law_row" : PySem.Str)]
theorem sc__law_due : FnScope N__law_due [("_law_width" : PySem.Str), ("_law_step_here" : PySem.Str), ("_law_times" : PySem.Str)] (defScope s__law_due) := ⟨rfl, rfl, rfl, by decide +kernel, rfl, by decide +kernel, by decide +kernel⟩
def r__law_due (sp__law_unrolled : Sp3) (sp__law_some : Sp3) (sp__law_loosened : Sp3) : XK3 → TS3 := fun E =>
  (wSeq (wSet 3 (wCallP sp__law_unrolled E (wCons (wVar 0) (wCons (wVar 1) (wCons (wVar 2) wNil)))))
  (wSeq (wSet 4 (wOp oMulF (wOp oAddF (wVar 2) (wC (.int 1))) (wVar 0)))
  (wSeq (wIfS (wNot (wB (wCallP sp__law_some E (wCons (wVar 3) (wCons (wOp oAddF (wVar 4) (wC (.int 1))) wNil))))) (wRet (wTup wNil)) wNext)
  (wSeq (wSet 5 (wOp oAddF (wLstRgF1 (wVar 0)) (wLstF (wCons (wVar 4) wNil))))
  (wSeq (wSet 6 (wLcF (wItems (wVar 5)) (wgName 7) wYes (wRep (wC .non) (wOp oAddF (wVar 0) (wC (.int 1)))) [7]))
  (wSeq (wFor (wEnum (wCons (wVar 5) wNil)) (wgTupN 2 (wgCons (wgName 8) (wgCons (wgName 9) wgNil))) (wSeq (wSet 10 (wRep (wC .non) (wOp oAddF (wVar 4) (wC (.int 1)))))
  (wSeq (wAsg (wC (.int 0)) (wgSub (wVar 10) (wVar 9) oPut))
  (wSeq (wSet 10 (wCall sp__law_loosened E (wCons (wVar 3) (wCons (wOp oAddF (wVar 4) (wC (.int 1))) (wCons (wVar 10) wNil)))))
  (wFor (wEnum (wCons (wVar 5) wNil)) (wgTupN 2 (wgCons (wgName 7) (wgCons (wgName 11) wgNil))) (wAsg (wOp oIx (wVar 10) (wVar 11)) (wgSub (wOp oIx (wVar 6) (wVar 7)) (wVar 8) oPut)))))))
  (wRet (wCB bTuple (wCons (wLcF (wItems (wVar 6)) (wgName 12) wYes (wCB bTuple (wCons (wVar 12) wNil)) [12]) wNil)))))))))
def sp__law_due : Sp3 := spOf 3 13 (r__law_due sp__law_unrolled sp__law_some sp__law_loosened)
theorem ok__law_due {f : Addr} {fd : FuncData} (hm : mg ("_law_due" : PySem.Str) = some (.ref f)) (F : Fun K ("_law_due" : PySem.Str) ("_law_due" : PySem.Str) s__law_due f fd) (bd : Binds K fd [("_law_width" : PySem.Str), ("_law_step_here" : PySem.Str), ("_law_times" : PySem.Str)] []) (z_enumerate : mg ("enumerate" : PySem.Str) = none) (z_list : mg ("list" : PySem.Str) = none) (z_range : mg ("range" : PySem.Str) = none) (z_tuple : mg ("tuple" : PySem.Str) = none) (d__law_unrolled : Def3 P w K mg base (L2.CX P w) 2 ("_law_unrolled" : PySem.Str) sp__law_unrolled) (d__law_some : Def3 P w K mg base (L2.CX P w) 2 ("_law_some" : PySem.Str) sp__law_some) (d__law_loosened : Def3 P w K mg base (L2.CX P w) 1 ("_law_loosened" : PySem.Str) sp__law_loosened) : Def3 P w K mg base (L2.CX P w) 3 ("_law_due" : PySem.Str) sp__law_due := by
  refine def_of (t := (r__law_due sp__law_unrolled sp__law_some sp__law_loosened)) hm F bd sc__law_due ?_
  intro cdv A outer s H E bs E3 hG hr hE
  have hG : (A.deeper (envOfC ("_law_due" : PySem.Str) (defScope s__law_due) s.heap.objs.size f cdv)).guards = some [] := hG
  have hu := hr.units
  have hu2 := hu_more hr
  have nd := sc__law_due.nd
  exact (ss_cons (s_set (i := 3) nd rfl (by first | exact Or.inl rfl | exact Or.inr rfl) (e_callP d__law_unrolled hG (hr.mono (by decide)) (passXE hE) (a_cons (ev 0) (a_cons (ev 1) (a_cons (ev 2) a_nil)))))
     (ss_cons (s_set (i := 4) nd rfl (by first | exact Or.inl rfl | exact Or.inr rfl) (e_op o_mulF (e_op o_addF (ev 2) e_int) (ev 0)))
     (ss_cons (s_if (t_not (t_val (e_callP d__law_some hG (hr.mono (by decide)) (passXE hE) (a_cons (ev 3) (a_cons (e_op o_addF (ev 4) e_int) a_nil))))) (ss_one (s_ret (e_tup a_nil))) ss_nil)
     (ss_cons (s_set (i := 5) nd rfl (by first | exact Or.inl rfl | exact Or.inr rfl) (e_op o_addF (e_listRgF1 rfl z_list z_range (ev 0)) (e_lstF (a_cons (ev 4) a_nil))))
     (ss_cons (s_setLcF (i := 6) (own := [(("_law_p" : PySem.Str), 7)]) (by decide) rfl nd rfl rfl (sw_true rfl rfl rfl (by decide +kernel)) (w_seq (ev 5)) (blkOk_by (N := N__law_due) (sc := defScope s__law_due) (by decide +kernel)) (fun _ _ _ _ _ => (g_name (i := 7) nd rfl (by first | exact Or.inl rfl | exact Or.inr rfl))) (fun _ _ _ _ _ => ts_nil) (fun _ _ _ _ _ => (e_rep e_non (e_op o_addF (ev 0) e_int))))
     (ss_cons (s_for (passes_of rfl) rfl (w_enum z_enumerate (a_cons (ev 5) a_nil)) (g_tupN rfl (gs_cons (g_name (i := 8) nd rfl (by first | exact Or.inl rfl | exact Or.inr rfl)) (gs_cons (g_name (i := 9) nd rfl (by first | exact Or.inl rfl | exact Or.inr rfl)) gs_nil))) (ss_cons (s_set (i := 10) nd rfl (by first | exact Or.inl rfl | exact Or.inr rfl) (e_rep e_non (e_op o_addF (ev 4) e_int)))
     (ss_cons (s_asg e_int (g_sub (ev 10) (ev 9) p_put))
     (ss_cons (s_set (i := 10) nd rfl (by first | exact Or.inl rfl | exact Or.inr rfl) (e_call d__law_loosened hG (hr.mono (by decide)) (passXE hE) (a_cons (ev 3) (a_cons (e_op o_addF (ev 4) e_int) (a_cons (ev 10) a_nil)))))
     (ss_one (s_for (passes_of rfl) rfl (w_enum z_enumerate (a_cons (ev 5) a_nil)) (g_tupN rfl (gs_cons (g_name (i := 7) nd rfl (by first | exact Or.inl rfl | exact Or.inr rfl)) (gs_cons (g_name (i := 11) nd rfl (by first | exact Or.inl rfl | exact Or.inr rfl)) gs_nil))) (ss_one (s_asg (e_ix (ev 10) (ev 11)) (g_sub (e_ix (ev 6) (ev 7)) (ev 8) p_put)))))))))
     (ss_one (s_ret (e_callTy c_tuple z_tuple (by decide +kernel) (a_cons (e_lcF (own := [(("_law_row" : PySem.Str), 12)]) (by decide) rfl nd (w_seq (ev 6)) (blkOk_by (N := N__law_due) (sc := defScope s__law_due) (by decide +kernel)) (fun _ _ _ _ _ => (g_name (i := 12) nd rfl (by first | exact Or.inl rfl | exact Or.inr rfl))) (fun _ _ _ _ _ => ts_nil) (fun _ _ _ _ _ => (e_callTy c_tuple z_tuple (by decide +kernel) (a_cons (ev 12) a_nil)))) a_nil))))))))))
abbrev s_law : PySem.Stmt := top 37
abbrev N_law : List PySem.Str := [("_law_script" : PySem.Str), ("_law_deck_here" : PySem.Str), ("_law_turn" : PySem.Str), ("_law_width" : PySem.Str), ("_law_step_here" : PySem.Str), ("_law_times" : PySem.Str)]
theorem sc_law : FnScope N_law [("_law_script" : PySem.Str)] (defScope s_law) := ⟨rfl, rfl, rfl, by decide +kernel, rfl, by decide +kernel, by decide +kernel⟩
def r_law (sp__law_deck : Sp3) (sp__law_draw : Sp3) (sp__law_step : Sp3) (sp__law_same : Sp3) (sp__law_due : Sp3) (sp_can_do : Sp3) : XK3 → TS3 := fun E =>
  (wSeq (wSet 1 (wCall sp__law_deck E (wCons (wVar 0) wNil)))
  (wSeq (wFor (wRng1 (wCons (wC (.int 4)) wNil)) (wgName 2) (wSeq (wSet 3 (wOp oAddF (wC (.int 1)) (wCall sp__law_draw E (wCons (wVar 1) (wCons (wC (.int 3)) wNil)))))
  (wSeq (wSet 4 (wIf (wB (wOp oGt (wCall sp__law_draw E (wCons (wVar 1) (wCons (wC (.int 12)) wNil))) (wC (.int 0)))) (wCall sp__law_step E (wCons (wVar 1) (wCons (wVar 3) wNil))) (wTup wNil)))
  (wFor (wItems (wLstF (wCons (wC (.int 0)) (wCons (wC (.int 1)) (wCons (wOp oAddF (wC (.int 2)) (wCall sp__law_draw E (wCons (wVar 1) (wCons (wOp oSub (wC (.int 5)) (wVar 3)) wNil)))) wNil))))) (wgName 5) (wIfS (wNot (wB (wCallP sp__law_same E (wCons (wCallP sp_can_do E (wCons (wVar 3) (wCons (wVar 4) (wCons (wVar 5) wNil)))) (wCons (wCallP sp__law_due E (wCons (wVar 3) (wCons (wVar 4) (wCons (wVar 5) wNil)))) wNil))))) (wRet (wC (.bl false))) wNext)))))
  (wRet (wC (.bl true)))))
def sp_law : Sp3 := spOf 1 6 (r_law sp__law_deck sp__law_draw sp__law_step sp__law_same sp__law_due sp_can_do)
theorem ok_law {f : Addr} {fd : FuncData} (F : Fun K ("law" : PySem.Str) ("law" : PySem.Str) s_law f fd) (z_range : mg ("range" : PySem.Str) = none) (d__law_deck : Def3 P w K mg base (L2.CX P w) 1 ("_law_deck" : PySem.Str) sp__law_deck) (d__law_draw : Def3 P w K mg base (L2.CX P w) 2 ("_law_draw" : PySem.Str) sp__law_draw) (d__law_step : Def3 P w K mg base (L2.CX P w) 3 ("_law_step" : PySem.Str) sp__law_step) (d__law_same : Def3 P w K mg base (L2.CX P w) 8 ("_law_same" : PySem.Str) sp__law_same) (d__law_due : Def3 P w K mg base (L2.CX P w) 3 ("_law_due" : PySem.Str) sp__law_due) (d_can_do : Def3 P w K mg base (L2.CX P w) 8 ("can_do" : PySem.Str) sp_can_do) : FnG P w K mg base (L2.CX P w) 9 f fd [("_law_script" : PySem.Str)] (liftSp K sp_law) := by
  refine fng_of (t := (r_law sp__law_deck sp__law_draw sp__law_step sp__law_same sp__law_due sp_can_do)) F sc_law ?_
  intro cdv A outer s H E bs E3 hG hr hE
  have hG : (A.deeper (envOfC ("law" : PySem.Str) (defScope s_law) s.heap.objs.size f cdv)).guards = some [] := hG
  have hu := hr.units
  have hu2 := hu_more hr
  have nd := sc_law.nd
  exact (ss_cons (s_set (i := 1) nd rfl (by first | exact Or.inl rfl | exact Or.inr rfl) (e_call d__law_deck hG (hr.mono (by decide)) (passXE hE) (a_cons (ev 0) a_nil)))
     (ss_cons (s_for (passes_of rfl) rfl (w_rng1 z_range (a_cons e_int a_nil)) (g_name (i := 2) nd rfl (by first | exact Or.inl rfl | exact Or.inr rfl)) (ss_cons (s_set (i := 3) nd rfl (by first | exact Or.inl rfl | exact Or.inr rfl) (e_op o_addF e_int (e_call d__law_draw hG (hr.mono (by decide)) (passXE hE) (a_cons (ev 1) (a_cons e_int a_nil)))))
     (ss_cons (s_set (i := 4) nd rfl (by first | exact Or.inl rfl | exact Or.inr rfl) (e_if (t_cmp o_gt (e_call d__law_draw hG (hr.mono (by decide)) (passXE hE) (a_cons (ev 1) (a_cons e_int a_nil))) e_int (nomark _)) (e_call d__law_step hG (hr.mono (by decide)) (passXE hE) (a_cons (ev 1) (a_cons (ev 3) a_nil))) (e_tup a_nil)))
     (ss_one (s_for (passes_of rfl) rfl (w_seq (e_lstF (a_cons e_int (a_cons e_int (a_cons (e_op o_addF e_int (e_call d__law_draw hG (hr.mono (by decide)) (passXE hE) (a_cons (ev 1) (a_cons (e_op o_sub e_int (ev 3)) a_nil)))) a_nil))))) (g_name (i := 5) nd rfl (by first | exact Or.inl rfl | exact Or.inr rfl)) (ss_one (s_if (t_not (t_val (e_callP d__law_same hG (hr.mono (by decide)) (passXE hE) (a_cons (e_callP d_can_do hG (hr.mono (by decide)) (passXE hE) (a_cons (ev 3) (a_cons (ev 4) (a_cons (ev 5) a_nil)))) (a_cons (e_callP d__law_due hG (hr.mono (by decide)) (passXE hE) (a_cons (ev 3) (a_cons (ev 4) (a_cons (ev 5) a_nil)))) a_nil))))) (ss_one (s_ret e_bl)) ss_nil)))))))
     (ss_one (s_ret e_bl))))
end
end W
set_option Elab.async false
set_option linter.all false
set_option maxRecDepth 100000
set_option maxHeartbeats 4000000
namespace W
open PySem PySem.Spec PyProof.Rows L2 L3
theorem m_lesser : SLesser sp_lesser := L3.s_lesser
theorem m_joined : SJoined sp_joined := L3.s_joined
theorem m_closed : SClosed sp_closed := L3.s_closed m_lesser m_joined
theorem m_table_of : STableOf sp_table_of := L3.s_tableOf m_lesser m_closed
theorem m_step_of : SStepOf sp_step_of := L3.s_stepOf m_table_of
theorem m_only : SOnly sp_only := L3.s_only m_closed
theorem m_put : SPut sp_put_together := L3.s_put m_lesser
theorem m_like : SLike sp_like := L3.s_like
theorem m_kept : SKept sp_kept := L3.s_kept m_like m_step_of
theorem m_cloS : SCloS sp_closed := L3.s_cloS m_closed
theorem m_cloF : SCloF sp_closed := L3.s_cloF m_closed
theorem m_behind : SBehind sp_behind := L3.s_behind m_put m_only
theorem m_behD : SBehD sp_behind := L3.s_behD m_behind
theorem m_places : SPlaces sp_places_of := L3.s_places
theorem m_olds : SOlds sp_olds := L3.s_olds m_put m_places m_only
theorem m_oldsD : SOldsD sp_olds := L3.s_oldsD m_olds
theorem m_powerX : SPowerX sp_power := L3.s_powerX m_cloS m_kept m_behD
theorem m_power : SPower sp_power := L3.s_power m_powerX
theorem m_oldsBefore : SOldsBefore sp_olds_before := L3.s_oldsBefore m_cloF m_oldsD m_power
theorem m_field_of : SFieldOf sp_field_of := L3.s_fieldOf m_table_of
theorem m_deck : SFeed7 sp__law_deck := L3.s_deck
theorem m_mixed : SMixed sp__law_mixed := L3.s_mixed
theorem m_draw : SDraw7 sp__law_draw := L3.s_drawK m_mixed
theorem m_dtab : SDTab sp__law_table := L3.s_dtab
theorem m_step : SStep59 sp__law_step := L3.s_step59 m_draw m_dtab
theorem m_edges : SEdges59 sp__law_edges := L3.s_edges59
theorem m_unrolled : SUnrolled59 sp__law_unrolled := L3.s_unrolled59 m_edges
theorem m_loos : SLoos59 sp__law_loosened := L3.s_loos59
theorem m_some : SSome59 sp__law_some := L3.s_some59 m_loos
theorem m_due : SDue59 sp__law_due := L3.s_due59 m_unrolled m_some m_loos
def edP : D → Prop := fun d => ∃ e : Ed, d = oD e
def rowP : D → Prop := fun d => ∃ ds : List D, d = .tup ds ∧ ds.length ≤ 1000 ∧ ∀ x ∈ ds, edP x
def tabP : D → Prop := fun d => ∃ ds : List D, d = .tup ds ∧ ds.length ≤ 1000 ∧ ∀ x ∈ ds, rowP x
theorem m_same1 : SameOn (sn__law_same 4) edP := L3.same_ed (ss := sn__law_same 3)
theorem m_same2 : SameOn (sn__law_same 5) rowP := L3.same_tup m_same1
theorem m_same : SameOn sp__law_same tabP := L3.same_tup m_same2
theorem tabP_of {n B : Nat} {T : Tab} (t : TabB B n T) (hn : n ≤ 1000) : tabP (tabD T) := by
  refine ⟨T.map rowD, rfl, by rw [List.length_map, t.rows]; exact hn, fun x hx => ?_⟩
  obtain ⟨r, hr, rfl⟩ := List.mem_map.mp hx
  refine ⟨r.map oD, rfl, by rw [List.length_map, t.cols r hr]; exact hn, fun y hy => ?_⟩
  obtain ⟨e, _, rfl⟩ := List.mem_map.mp hy
  exact ⟨e, rfl⟩
theorem tabP_den {B w : Nat} {d : D} {P : Vl → Prop} (h : DenF B w d P) (hw : w ≤ 400) : tabP d := by
  rcases h with ⟨rfl, _⟩ | ⟨S, rfl, t, _⟩
  · exact ⟨[], rfl, Nat.zero_le _, fun _ h => nomatch h⟩
  · exact tabP_of t (by omega)
def SCan (sp : Sp3) : Prop := ∀ (w L : Nat) (T : Tab) (Q : VK3) (E : XK3), 0 < w → w ≤ 3 → L ≤ 10 → (T = [] ∨ TabB 100 (2 * w + 1) T) → (∀ d M B, DenF B w d (back (iter w (stepR w T) L) fun _ => True) → Q d M) → sp [.int w, tabD T, .int L] M0 Q E
theorem m_can : SCan sp_can_do := by
  refine fun w L T Q E w0 w3 hL hT q => ⟨rfl, ?_⟩
  show r_can_do sp_olds_before sp_field_of E _ [some (.int w), some (tabD T), some (.int L)] M0
  unfold r_can_do
  rw [st_ret]
  simp only [ex_c, ex_var, ex_op, ex_un, ex_b, ex_and, ex_or, ex_not, ex_andV, ex_orV, ex_notV, ex_if, ex_chain, ex_nil, ex_cons, ex_tup, ex_lst, ex_call, ex_callP, ex_cb, ex_bm, ex_rep, ex_sl, ex_noPart, ex_part, ex_yes, it_items, it_rng1, it_rng2, tg_name, tg_sub, tg_tup, tg_cons, tg_nil, gs_0, gs_s, ss_0, ss_s, op_ii, op_ss, op_tt, op_mm, op_sb, op_ng, op_iNf, op_iNt, op_lle, op_ixT, op_ixR, op_ixL, op_putE, op_appE, it_tupE, it_rolE, it_refE, lstOf_l, exL, asS_some, asI_int, asB_bl, asL_some, asN_some, ite3_t, ite3_f, bl_1, bl_lenT, bl_lenR, bl_lenL, bl_lenS, bl_tuple, bl_list, bl_abs, bl_intI, bl_intB, bl_max, bl_min, op_eqSf, op_eqSt, op_eqIf, op_eqIt, op_eqTf, op_eqTt, op_eqRf, op_eqRt, op_eqNf, op_eqNt, eqD_int, eqD_nil, pl_int, pl_nil, pl_non, pl_rnil, pl_bl, sl_tupE, sl_rolE, keep_ref, keep_tup, keep_rol, tp_int, tp_tup, tp_rol, tp_str, tp_bl, tp_non, tp_ref, oFd, oMd, oPw, oShl, oLt, oLe, oGt, oGe, op_in, op_cp, wipe_nil, wipe_cons, mset_same, true_and, and_true, isN_int, ex_lstF, ex_repF, ex_lgF1, ex_lgF2, ex_tupRg1, ex_tupRg2, ex_frz, ex_slF, ex_slM, sl_tupF, sl_rolF, op_iiF, op_ssF, op_ttF, op_rrF, op_rrM, op_mmF, op_repF, li_rol, li_ref, bl_listF, bl_allF, bl_anyF, asT_some, asJ_some, op_eqBf, op_eqBt, isN_non, Bool.not_true, Bool.not_false, rep2]
  refine ⟨Nat.zero_le _, m_field_of (w : Int) 1 [] (.tup []) _ _ (by omega) (by omega) (by decide) .t (fun t ht => nomatch ht) fun d M hd => ?_⟩
  have e1 : ((w : Int) + 1).toNat = w + 1 := by omega
  rw [e1] at hd
  have free : ∀ v : Vl, Meets (w + 1) (at2 (mtab (w + 1) [])) v := fun v p q hp hq e he => by
    have : at2 (mtab (w + 1) []) p q = none := at2_empty
    rw [this] at he; cases he
  have hF : RepF 100 w d fun _ => True := by
    rcases hd with ⟨b, _⟩ | ⟨S, tS, c, rfl⟩
    · exact absurd (free fun _ => 0) (b.none _)
    · refine .inr ⟨S, rfl, tS.mono ?_, fun a => ⟨fun _ => meets_st.mpr (c.st _ (meets_st.mp (free _))), fun _ => trivial⟩⟩
      exact Nat.le_trans (Nat.mul_le_mul_right 1 (Nat.pow_le_pow_right (by decide) (show w + 1 ≤ 4 by omega))) (by decide)
  have hS : RepS 100 w (tabD T) (stepR w T) := by
    by_cases h : T = []
    · subst h
      refine .inl ⟨rfl, fun a b => ?_⟩
      unfold stepR
      rw [if_pos rfl]; exact id
    · refine .inr ⟨T, rfl, hT.resolve_left h, fun a b => ?_⟩
      unfold stepR
      rw [if_neg h]; exact Iff.rfl
  exact m_oldsBefore w 100 L d (tabD T) _ _ _ _ w0 (by omega) (by decide) hF hS fun c _ B hc => q c M0 B hc
theorem m_law {s1 s2 s3 s4 s5 s6 : Sp3} (k1 : SFeed7 s1) (k2 : SDraw7 s2) (k3 : SStep59 s3) (k4 : SameOn s4 tabP) (k5 : SDue59 s5) (k6 : SCan s6) (ns : List Int) :
    spOf 1 6 (r_law s1 s2 s3 s4 s5 s6) [.rol (ns.map D.int)] M0 (fun v _ => v = .bl true) (fun _ _ _ => False) := by
  refine ⟨rfl, ?_⟩
  show r_law s1 s2 s3 s4 s5 s6 _ _ [some (.rol (ns.map D.int)), none, none, none, none, none] M0
  unfold r_law
  have big : (1000000 : Nat) ≤ sizeLine := by decide
  rw [st_seq, st_set]
  simp only [ex_c, ex_var, ex_op, ex_un, ex_b, ex_and, ex_or, ex_not, ex_andV, ex_orV, ex_notV, ex_if, ex_chain, ex_nil, ex_cons, ex_tup, ex_lst, ex_call, ex_callP, ex_cb, ex_bm, ex_rep, ex_sl, ex_noPart, ex_part, ex_yes, it_items, it_rng1, it_rng2, tg_name, tg_sub, tg_tup, tg_cons, tg_nil, gs_0, gs_s, ss_0, ss_s, op_ii, op_ss, op_tt, op_mm, op_sb, op_ng, op_iNf, op_iNt, op_lle, op_ixT, op_ixR, op_ixL, op_putE, op_appE, it_tupE, it_rolE, it_refE, lstOf_l, exL, asS_some, asI_int, asB_bl, asL_some, asN_some, ite3_t, ite3_f, bl_1, bl_lenT, bl_lenR, bl_lenL, bl_lenS, bl_tuple, bl_list, bl_abs, bl_intI, bl_intB, bl_max, bl_min, op_eqSf, op_eqSt, op_eqIf, op_eqIt, op_eqTf, op_eqTt, op_eqRf, op_eqRt, op_eqNf, op_eqNt, eqD_int, eqD_nil, pl_int, pl_nil, pl_non, pl_rnil, pl_bl, sl_tupE, sl_rolE, keep_ref, keep_tup, keep_rol, tp_int, tp_tup, tp_rol, tp_str, tp_bl, tp_non, tp_ref, oFd, oMd, oPw, oShl, oLt, oLe, oGt, oGe, op_in, op_cp, wipe_nil, wipe_cons, mset_same, true_and, and_true, isN_int, ex_lstF, ex_repF, ex_lgF1, ex_lgF2, ex_tupRg1, ex_tupRg2, ex_frz, ex_slF, ex_slM, sl_tupF, sl_rolF, op_iiF, op_ssF, op_ttF, op_rrF, op_rrM, op_mmF, op_repF, li_rol, li_ref, bl_listF, bl_allF, bl_anyF, asT_some, asJ_some, op_eqBf, op_eqBt, isN_non, Bool.not_true, Bool.not_false, rep2]
  refine k1 _ _ _ _ fun a M1 _ f _ => ?_
  try dsimp only
  rw [st_seq, st_for]
  simp only [ex_c, ex_var, ex_op, ex_un, ex_b, ex_and, ex_or, ex_not, ex_andV, ex_orV, ex_notV, ex_if, ex_chain, ex_nil, ex_cons, ex_tup, ex_lst, ex_call, ex_callP, ex_cb, ex_bm, ex_rep, ex_sl, ex_noPart, ex_part, ex_yes, it_items, it_rng1, it_rng2, tg_name, tg_sub, tg_tup, tg_cons, tg_nil, gs_0, gs_s, ss_0, ss_s, op_ii, op_ss, op_tt, op_mm, op_sb, op_ng, op_iNf, op_iNt, op_lle, op_ixT, op_ixR, op_ixL, op_putE, op_appE, it_tupE, it_rolE, it_refE, lstOf_l, exL, asS_some, asI_int, asB_bl, asL_some, asN_some, ite3_t, ite3_f, bl_1, bl_lenT, bl_lenR, bl_lenL, bl_lenS, bl_tuple, bl_list, bl_abs, bl_intI, bl_intB, bl_max, bl_min, op_eqSf, op_eqSt, op_eqIf, op_eqIt, op_eqTf, op_eqTt, op_eqRf, op_eqRt, op_eqNf, op_eqNt, eqD_int, eqD_nil, pl_int, pl_nil, pl_non, pl_rnil, pl_bl, sl_tupE, sl_rolE, keep_ref, keep_tup, keep_rol, tp_int, tp_tup, tp_rol, tp_str, tp_bl, tp_non, tp_ref, oFd, oMd, oPw, oShl, oLt, oLe, oGt, oGe, op_in, op_cp, wipe_nil, wipe_cons, mset_same, true_and, and_true, isN_int, ex_lstF, ex_repF, ex_lgF1, ex_lgF2, ex_tupRg1, ex_tupRg2, ex_frz, ex_slF, ex_slM, sl_tupF, sl_rolF, op_iiF, op_ssF, op_ttF, op_rrF, op_rrM, op_mmF, op_repF, li_rol, li_ref, bl_listF, bl_allF, bl_anyF, asT_some, asJ_some, op_eqBf, op_eqBt, isN_non, Bool.not_true, Bool.not_false, rep2]
  refine ⟨by decide, by decide, ?_⟩
  refine for_rg (fun i τ M => i ≤ 4 ∧ Fd (100 * i) M a ∧ ∃ x2 x3 x4 x5, τ = [some (.rol (ns.map D.int)), some (.ref a), x2, x3, x4, x5]) ?_ ?_ ⟨Nat.zero_le _, f, _, _, _, _, rfl⟩
  · rintro i τ M hi ⟨_, f, x2, x3, x4, x5, rfl⟩ X hX
    have hi : i < 4 := hi
    rw [tg_name, st_seq, st_set]
    simp only [ex_c, ex_var, ex_op, ex_un, ex_b, ex_and, ex_or, ex_not, ex_andV, ex_orV, ex_notV, ex_if, ex_chain, ex_nil, ex_cons, ex_tup, ex_lst, ex_call, ex_callP, ex_cb, ex_bm, ex_rep, ex_sl, ex_noPart, ex_part, ex_yes, it_items, it_rng1, it_rng2, tg_name, tg_sub, tg_tup, tg_cons, tg_nil, gs_0, gs_s, ss_0, ss_s, op_ii, op_ss, op_tt, op_mm, op_sb, op_ng, op_iNf, op_iNt, op_lle, op_ixT, op_ixR, op_ixL, op_putE, op_appE, it_tupE, it_rolE, it_refE, lstOf_l, exL, asS_some, asI_int, asB_bl, asL_some, asN_some, ite3_t, ite3_f, bl_1, bl_lenT, bl_lenR, bl_lenL, bl_lenS, bl_tuple, bl_list, bl_abs, bl_intI, bl_intB, bl_max, bl_min, op_eqSf, op_eqSt, op_eqIf, op_eqIt, op_eqTf, op_eqTt, op_eqRf, op_eqRt, op_eqNf, op_eqNt, eqD_int, eqD_nil, pl_int, pl_nil, pl_non, pl_rnil, pl_bl, sl_tupE, sl_rolE, keep_ref, keep_tup, keep_rol, tp_int, tp_tup, tp_rol, tp_str, tp_bl, tp_non, tp_ref, oFd, oMd, oPw, oShl, oLt, oLe, oGt, oGe, op_in, op_cp, wipe_nil, wipe_cons, mset_same, true_and, and_true, isN_int, ex_lstF, ex_repF, ex_lgF1, ex_lgF2, ex_tupRg1, ex_tupRg2, ex_frz, ex_slF, ex_slM, sl_tupF, sl_rolF, op_iiF, op_ssF, op_ttF, op_rrF, op_rrM, op_mmF, op_repF, li_rol, li_ref, bl_listF, bl_allF, bl_anyF, asT_some, asJ_some, op_eqBf, op_eqBt, isN_non, Bool.not_true, Bool.not_false, rep2]
    refine k2 _ (100 * i) _ _ _ _ f (by omega) (by decide) (by decide) fun r M2 h0 h1 f2 _ => ?_
    obtain ⟨w, hw⟩ : ∃ w : Nat, 1 + r = w := ⟨(1 + r).toNat, by omega⟩
    simp only [ex_c, ex_var, ex_op, ex_un, ex_b, ex_and, ex_or, ex_not, ex_andV, ex_orV, ex_notV, ex_if, ex_chain, ex_nil, ex_cons, ex_tup, ex_lst, ex_call, ex_callP, ex_cb, ex_bm, ex_rep, ex_sl, ex_noPart, ex_part, ex_yes, it_items, it_rng1, it_rng2, tg_name, tg_sub, tg_tup, tg_cons, tg_nil, gs_0, gs_s, ss_0, ss_s, op_ii, op_ss, op_tt, op_mm, op_sb, op_ng, op_iNf, op_iNt, op_lle, op_ixT, op_ixR, op_ixL, op_putE, op_appE, it_tupE, it_rolE, it_refE, lstOf_l, exL, asS_some, asI_int, asB_bl, asL_some, asN_some, ite3_t, ite3_f, bl_1, bl_lenT, bl_lenR, bl_lenL, bl_lenS, bl_tuple, bl_list, bl_abs, bl_intI, bl_intB, bl_max, bl_min, op_eqSf, op_eqSt, op_eqIf, op_eqIt, op_eqTf, op_eqTt, op_eqRf, op_eqRt, op_eqNf, op_eqNt, eqD_int, eqD_nil, pl_int, pl_nil, pl_non, pl_rnil, pl_bl, sl_tupE, sl_rolE, keep_ref, keep_tup, keep_rol, tp_int, tp_tup, tp_rol, tp_str, tp_bl, tp_non, tp_ref, oFd, oMd, oPw, oShl, oLt, oLe, oGt, oGe, op_in, op_cp, wipe_nil, wipe_cons, mset_same, true_and, and_true, isN_int, ex_lstF, ex_repF, ex_lgF1, ex_lgF2, ex_tupRg1, ex_tupRg2, ex_frz, ex_slF, ex_slM, sl_tupF, sl_rolF, op_iiF, op_ssF, op_ttF, op_rrF, op_rrM, op_mmF, op_repF, li_rol, li_ref, bl_listF, bl_allF, bl_anyF, asT_some, asJ_some, op_eqBf, op_eqBt, isN_non, Bool.not_true, Bool.not_false, rep2, hw]
    have w0 : 0 < w := by omega
    have w3 : w ≤ 3 := by omega
    have rest : ∀ (K : Ends3) (T : Tab) (M3 : Mp) (x5 : Option D), K.nx = X → K.rt = (fun v _ => v = .bl true) → (T = [] ∨ TabB 100 (2 * w + 1) T) → Fd (100 * i + 50) M3 a →
        wFor (wItems (wLstF (wCons (wC (.int 0)) (wCons (wC (.int 1)) (wCons (wOp oAddF (wC (.int 2)) (wCall s2 (fun _ _ _ => False) (wCons (wVar 1) (wCons (wOp oSub (wC (.int 5)) (wVar 3)) wNil)))) wNil))))) (wgName 5) (wIfS (wNot (wB (wCallP s4 (fun _ _ _ => False) (wCons (wCallP s6 (fun _ _ _ => False) (wCons (wVar 3) (wCons (wVar 4) (wCons (wVar 5) wNil)))) (wCons (wCallP s5 (fun _ _ _ => False) (wCons (wVar 3) (wCons (wVar 4) (wCons (wVar 5) wNil)))) wNil))))) (wRet (wC (.bl false))) wNext)
          K [some (.rol (ns.map D.int)), some (.ref a), some (.int (0 + (i : Int))), some (.int w), some (tabD T), x5] M3 := by
      intro K T M3 x5 hK hK2 hT f3
      rw [st_for]
      simp only [ex_c, ex_var, ex_op, ex_un, ex_b, ex_and, ex_or, ex_not, ex_andV, ex_orV, ex_notV, ex_if, ex_chain, ex_nil, ex_cons, ex_tup, ex_lst, ex_call, ex_callP, ex_cb, ex_bm, ex_rep, ex_sl, ex_noPart, ex_part, ex_yes, it_items, it_rng1, it_rng2, tg_name, tg_sub, tg_tup, tg_cons, tg_nil, gs_0, gs_s, ss_0, ss_s, op_ii, op_ss, op_tt, op_mm, op_sb, op_ng, op_iNf, op_iNt, op_lle, op_ixT, op_ixR, op_ixL, op_putE, op_appE, it_tupE, it_rolE, it_refE, lstOf_l, exL, asS_some, asI_int, asB_bl, asL_some, asN_some, ite3_t, ite3_f, bl_1, bl_lenT, bl_lenR, bl_lenL, bl_lenS, bl_tuple, bl_list, bl_abs, bl_intI, bl_intB, bl_max, bl_min, op_eqSf, op_eqSt, op_eqIf, op_eqIt, op_eqTf, op_eqTt, op_eqRf, op_eqRt, op_eqNf, op_eqNt, eqD_int, eqD_nil, pl_int, pl_nil, pl_non, pl_rnil, pl_bl, sl_tupE, sl_rolE, keep_ref, keep_tup, keep_rol, tp_int, tp_tup, tp_rol, tp_str, tp_bl, tp_non, tp_ref, oFd, oMd, oPw, oShl, oLt, oLe, oGt, oGe, op_in, op_cp, wipe_nil, wipe_cons, mset_same, true_and, and_true, isN_int, ex_lstF, ex_repF, ex_lgF1, ex_lgF2, ex_tupRg1, ex_tupRg2, ex_frz, ex_slF, ex_slM, sl_tupF, sl_rolF, op_iiF, op_ssF, op_ttF, op_rrF, op_rrM, op_mmF, op_repF, li_rol, li_ref, bl_listF, bl_allF, bl_anyF, asT_some, asJ_some, op_eqBf, op_eqBt, isN_non, Bool.not_true, Bool.not_false, rep2]
      refine k2 _ (100 * i + 50) _ _ _ _ f3 (by omega) (by omega) (by omega) fun r4 M4 r0 r1 f4 _ => ?_
      simp only [ex_c, ex_var, ex_op, ex_un, ex_b, ex_and, ex_or, ex_not, ex_andV, ex_orV, ex_notV, ex_if, ex_chain, ex_nil, ex_cons, ex_tup, ex_lst, ex_call, ex_callP, ex_cb, ex_bm, ex_rep, ex_sl, ex_noPart, ex_part, ex_yes, it_items, it_rng1, it_rng2, tg_name, tg_sub, tg_tup, tg_cons, tg_nil, gs_0, gs_s, ss_0, ss_s, op_ii, op_ss, op_tt, op_mm, op_sb, op_ng, op_iNf, op_iNt, op_lle, op_ixT, op_ixR, op_ixL, op_putE, op_appE, it_tupE, it_rolE, it_refE, lstOf_l, exL, asS_some, asI_int, asB_bl, asL_some, asN_some, ite3_t, ite3_f, bl_1, bl_lenT, bl_lenR, bl_lenL, bl_lenS, bl_tuple, bl_list, bl_abs, bl_intI, bl_intB, bl_max, bl_min, op_eqSf, op_eqSt, op_eqIf, op_eqIt, op_eqTf, op_eqTt, op_eqRf, op_eqRt, op_eqNf, op_eqNt, eqD_int, eqD_nil, pl_int, pl_nil, pl_non, pl_rnil, pl_bl, sl_tupE, sl_rolE, keep_ref, keep_tup, keep_rol, tp_int, tp_tup, tp_rol, tp_str, tp_bl, tp_non, tp_ref, oFd, oMd, oPw, oShl, oLt, oLe, oGt, oGe, op_in, op_cp, wipe_nil, wipe_cons, mset_same, true_and, and_true, isN_int, ex_lstF, ex_repF, ex_lgF1, ex_lgF2, ex_tupRg1, ex_tupRg2, ex_frz, ex_slF, ex_slM, sl_tupF, sl_rolF, op_iiF, op_ssF, op_ttF, op_rrF, op_rrM, op_mmF, op_repF, li_rol, li_ref, bl_listF, bl_allF, bl_anyF, asT_some, asJ_some, op_eqBf, op_eqBt, isN_non, Bool.not_true, Bool.not_false, rep2]
      refine ⟨by show 3 ≤ sizeLine; omega, ?_⟩
      refine for_pv (fun j τ M => M = M4 ∧ ∃ x5, τ = [some (.rol (ns.map D.int)), some (.ref a), some (.int (0 + (i : Int))), some (.int w), some (tabD T), x5]) ?_ ?_ ⟨rfl, _, rfl⟩
      · rintro j d τ M' hd ⟨e0, y5, rfl⟩ Y hY
        rw [e0]
        obtain ⟨L, rfl, hL⟩ : ∃ L : Nat, d = .int L ∧ L ≤ 10 := by
          have := List.mem_of_getElem? hd
          simp only [List.mem_cons, List.not_mem_nil, or_false] at this
          rcases this with rfl | rfl | rfl
          · exact ⟨0, rfl, by decide⟩
          · exact ⟨1, rfl, by decide⟩
          · exact ⟨(2 + r4).toNat, by rw [Int.toNat_of_nonneg (by omega)], by omega⟩
        refine ⟨True.intro, ?_⟩
        rw [tg_name, st_if]
        simp only [ex_c, ex_var, ex_op, ex_un, ex_b, ex_and, ex_or, ex_not, ex_andV, ex_orV, ex_notV, ex_if, ex_chain, ex_nil, ex_cons, ex_tup, ex_lst, ex_call, ex_callP, ex_cb, ex_bm, ex_rep, ex_sl, ex_noPart, ex_part, ex_yes, it_items, it_rng1, it_rng2, tg_name, tg_sub, tg_tup, tg_cons, tg_nil, gs_0, gs_s, ss_0, ss_s, op_ii, op_ss, op_tt, op_mm, op_sb, op_ng, op_iNf, op_iNt, op_lle, op_ixT, op_ixR, op_ixL, op_putE, op_appE, it_tupE, it_rolE, it_refE, lstOf_l, exL, asS_some, asI_int, asB_bl, asL_some, asN_some, ite3_t, ite3_f, bl_1, bl_lenT, bl_lenR, bl_lenL, bl_lenS, bl_tuple, bl_list, bl_abs, bl_intI, bl_intB, bl_max, bl_min, op_eqSf, op_eqSt, op_eqIf, op_eqIt, op_eqTf, op_eqTt, op_eqRf, op_eqRt, op_eqNf, op_eqNt, eqD_int, eqD_nil, pl_int, pl_nil, pl_non, pl_rnil, pl_bl, sl_tupE, sl_rolE, keep_ref, keep_tup, keep_rol, tp_int, tp_tup, tp_rol, tp_str, tp_bl, tp_non, tp_ref, oFd, oMd, oPw, oShl, oLt, oLe, oGt, oGe, op_in, op_cp, wipe_nil, wipe_cons, mset_same, true_and, and_true, isN_int, ex_lstF, ex_repF, ex_lgF1, ex_lgF2, ex_tupRg1, ex_tupRg2, ex_frz, ex_slF, ex_slM, sl_tupF, sl_rolF, op_iiF, op_ssF, op_ttF, op_rrF, op_rrM, op_mmF, op_repF, li_rol, li_ref, bl_listF, bl_allF, bl_anyF, asT_some, asJ_some, op_eqBf, op_eqBt, isN_non, Bool.not_true, Bool.not_false, rep2]
        refine k6 w L T _ _ w0 w3 hL hT fun d1 _ B1 h1 => ?_
        (try simp only [ex_c, ex_var, ex_op, ex_un, ex_b, ex_and, ex_or, ex_not, ex_andV, ex_orV, ex_notV, ex_if, ex_chain, ex_nil, ex_cons, ex_tup, ex_lst, ex_call, ex_callP, ex_cb, ex_bm, ex_rep, ex_sl, ex_noPart, ex_part, ex_yes, it_items, it_rng1, it_rng2, tg_name, tg_sub, tg_tup, tg_cons, tg_nil, gs_0, gs_s, ss_0, ss_s, op_ii, op_ss, op_tt, op_mm, op_sb, op_ng, op_iNf, op_iNt, op_lle, op_ixT, op_ixR, op_ixL, op_putE, op_appE, it_tupE, it_rolE, it_refE, lstOf_l, exL, asS_some, asI_int, asB_bl, asL_some, asN_some, ite3_t, ite3_f, bl_1, bl_lenT, bl_lenR, bl_lenL, bl_lenS, bl_tuple, bl_list, bl_abs, bl_intI, bl_intB, bl_max, bl_min, op_eqSf, op_eqSt, op_eqIf, op_eqIt, op_eqTf, op_eqTt, op_eqRf, op_eqRt, op_eqNf, op_eqNt, eqD_int, eqD_nil, pl_int, pl_nil, pl_non, pl_rnil, pl_bl, sl_tupE, sl_rolE, keep_ref, keep_tup, keep_rol, tp_int, tp_tup, tp_rol, tp_str, tp_bl, tp_non, tp_ref, oFd, oMd, oPw, oShl, oLt, oLe, oGt, oGe, op_in, op_cp, wipe_nil, wipe_cons, mset_same, true_and, and_true, isN_int, ex_lstF, ex_repF, ex_lgF1, ex_lgF2, ex_tupRg1, ex_tupRg2, ex_frz, ex_slF, ex_slM, sl_tupF, sl_rolF, op_iiF, op_ssF, op_ttF, op_rrF, op_rrM, op_mmF, op_repF, li_rol, li_ref, bl_listF, bl_allF, bl_anyF, asT_some, asJ_some, op_eqBf, op_eqBt, isN_non, Bool.not_true, Bool.not_false, rep2])
        refine k5 w L T _ _ w0 w3 hL hT fun d2 _ h2 => ?_
        obtain ⟨B2, h2⟩ := due_den w0 hT h2
        have e : d1 = d2 := h1.uniq h2 fun _ => Iff.rfl
        subst e
        (try simp only [ex_c, ex_var, ex_op, ex_un, ex_b, ex_and, ex_or, ex_not, ex_andV, ex_orV, ex_notV, ex_if, ex_chain, ex_nil, ex_cons, ex_tup, ex_lst, ex_call, ex_callP, ex_cb, ex_bm, ex_rep, ex_sl, ex_noPart, ex_part, ex_yes, it_items, it_rng1, it_rng2, tg_name, tg_sub, tg_tup, tg_cons, tg_nil, gs_0, gs_s, ss_0, ss_s, op_ii, op_ss, op_tt, op_mm, op_sb, op_ng, op_iNf, op_iNt, op_lle, op_ixT, op_ixR, op_ixL, op_putE, op_appE, it_tupE, it_rolE, it_refE, lstOf_l, exL, asS_some, asI_int, asB_bl, asL_some, asN_some, ite3_t, ite3_f, bl_1, bl_lenT, bl_lenR, bl_lenL, bl_lenS, bl_tuple, bl_list, bl_abs, bl_intI, bl_intB, bl_max, bl_min, op_eqSf, op_eqSt, op_eqIf, op_eqIt, op_eqTf, op_eqTt, op_eqRf, op_eqRt, op_eqNf, op_eqNt, eqD_int, eqD_nil, pl_int, pl_nil, pl_non, pl_rnil, pl_bl, sl_tupE, sl_rolE, keep_ref, keep_tup, keep_rol, tp_int, tp_tup, tp_rol, tp_str, tp_bl, tp_non, tp_ref, oFd, oMd, oPw, oShl, oLt, oLe, oGt, oGe, op_in, op_cp, wipe_nil, wipe_cons, mset_same, true_and, and_true, isN_int, ex_lstF, ex_repF, ex_lgF1, ex_lgF2, ex_tupRg1, ex_tupRg2, ex_frz, ex_slF, ex_slM, sl_tupF, sl_rolF, op_iiF, op_ssF, op_ttF, op_rrF, op_rrM, op_mmF, op_repF, li_rol, li_ref, bl_listF, bl_allF, bl_anyF, asT_some, asJ_some, op_eqBf, op_eqBt, isN_non, Bool.not_true, Bool.not_false, rep2])
        refine k4 _ _ _ (tabP_den h1 (by omega)) fun _ => ?_
        (try simp only [ex_c, ex_var, ex_op, ex_un, ex_b, ex_and, ex_or, ex_not, ex_andV, ex_orV, ex_notV, ex_if, ex_chain, ex_nil, ex_cons, ex_tup, ex_lst, ex_call, ex_callP, ex_cb, ex_bm, ex_rep, ex_sl, ex_noPart, ex_part, ex_yes, it_items, it_rng1, it_rng2, tg_name, tg_sub, tg_tup, tg_cons, tg_nil, gs_0, gs_s, ss_0, ss_s, op_ii, op_ss, op_tt, op_mm, op_sb, op_ng, op_iNf, op_iNt, op_lle, op_ixT, op_ixR, op_ixL, op_putE, op_appE, it_tupE, it_rolE, it_refE, lstOf_l, exL, asS_some, asI_int, asB_bl, asL_some, asN_some, ite3_t, ite3_f, bl_1, bl_lenT, bl_lenR, bl_lenL, bl_lenS, bl_tuple, bl_list, bl_abs, bl_intI, bl_intB, bl_max, bl_min, op_eqSf, op_eqSt, op_eqIf, op_eqIt, op_eqTf, op_eqTt, op_eqRf, op_eqRt, op_eqNf, op_eqNt, eqD_int, eqD_nil, pl_int, pl_nil, pl_non, pl_rnil, pl_bl, sl_tupE, sl_rolE, keep_ref, keep_tup, keep_rol, tp_int, tp_tup, tp_rol, tp_str, tp_bl, tp_non, tp_ref, oFd, oMd, oPw, oShl, oLt, oLe, oGt, oGe, op_in, op_cp, wipe_nil, wipe_cons, mset_same, true_and, and_true, isN_int, ex_lstF, ex_repF, ex_lgF1, ex_lgF2, ex_tupRg1, ex_tupRg2, ex_frz, ex_slF, ex_slM, sl_tupF, sl_rolF, op_iiF, op_ssF, op_ttF, op_rrF, op_rrM, op_mmF, op_repF, li_rol, li_ref, bl_listF, bl_allF, bl_anyF, asT_some, asJ_some, op_eqBf, op_eqBt, isN_non, Bool.not_true, Bool.not_false, rep2])
        rw [st_next]
        exact hY _ _ ⟨rfl, _, rfl⟩
      · rintro τ M' ⟨e0, y5, rfl⟩
        rw [e0, hK]
        exact ⟨True.intro, hX _ _ ⟨hi, f4.mono (by omega), _, _, _, _, rfl⟩⟩
    try dsimp only
    rw [st_seq, st_set]
    simp only [ex_c, ex_var, ex_op, ex_un, ex_b, ex_and, ex_or, ex_not, ex_andV, ex_orV, ex_notV, ex_if, ex_chain, ex_nil, ex_cons, ex_tup, ex_lst, ex_call, ex_callP, ex_cb, ex_bm, ex_rep, ex_sl, ex_noPart, ex_part, ex_yes, it_items, it_rng1, it_rng2, tg_name, tg_sub, tg_tup, tg_cons, tg_nil, gs_0, gs_s, ss_0, ss_s, op_ii, op_ss, op_tt, op_mm, op_sb, op_ng, op_iNf, op_iNt, op_lle, op_ixT, op_ixR, op_ixL, op_putE, op_appE, it_tupE, it_rolE, it_refE, lstOf_l, exL, asS_some, asI_int, asB_bl, asL_some, asN_some, ite3_t, ite3_f, bl_1, bl_lenT, bl_lenR, bl_lenL, bl_lenS, bl_tuple, bl_list, bl_abs, bl_intI, bl_intB, bl_max, bl_min, op_eqSf, op_eqSt, op_eqIf, op_eqIt, op_eqTf, op_eqTt, op_eqRf, op_eqRt, op_eqNf, op_eqNt, eqD_int, eqD_nil, pl_int, pl_nil, pl_non, pl_rnil, pl_bl, sl_tupE, sl_rolE, keep_ref, keep_tup, keep_rol, tp_int, tp_tup, tp_rol, tp_str, tp_bl, tp_non, tp_ref, oFd, oMd, oPw, oShl, oLt, oLe, oGt, oGe, op_in, op_cp, wipe_nil, wipe_cons, mset_same, true_and, and_true, isN_int, ex_lstF, ex_repF, ex_lgF1, ex_lgF2, ex_tupRg1, ex_tupRg2, ex_frz, ex_slF, ex_slM, sl_tupF, sl_rolF, op_iiF, op_ssF, op_ttF, op_rrF, op_rrM, op_mmF, op_repF, li_rol, li_ref, bl_listF, bl_allF, bl_anyF, asT_some, asJ_some, op_eqBf, op_eqBt, isN_non, Bool.not_true, Bool.not_false, rep2]
    refine k2 _ (100 * i + 1) _ _ _ _ f2 (by omega) (by decide) (by decide) fun r3 M3 _ _ f3 _ => ?_
    (try simp only [ex_c, ex_var, ex_op, ex_un, ex_b, ex_and, ex_or, ex_not, ex_andV, ex_orV, ex_notV, ex_if, ex_chain, ex_nil, ex_cons, ex_tup, ex_lst, ex_call, ex_callP, ex_cb, ex_bm, ex_rep, ex_sl, ex_noPart, ex_part, ex_yes, it_items, it_rng1, it_rng2, tg_name, tg_sub, tg_tup, tg_cons, tg_nil, gs_0, gs_s, ss_0, ss_s, op_ii, op_ss, op_tt, op_mm, op_sb, op_ng, op_iNf, op_iNt, op_lle, op_ixT, op_ixR, op_ixL, op_putE, op_appE, it_tupE, it_rolE, it_refE, lstOf_l, exL, asS_some, asI_int, asB_bl, asL_some, asN_some, ite3_t, ite3_f, bl_1, bl_lenT, bl_lenR, bl_lenL, bl_lenS, bl_tuple, bl_list, bl_abs, bl_intI, bl_intB, bl_max, bl_min, op_eqSf, op_eqSt, op_eqIf, op_eqIt, op_eqTf, op_eqTt, op_eqRf, op_eqRt, op_eqNf, op_eqNt, eqD_int, eqD_nil, pl_int, pl_nil, pl_non, pl_rnil, pl_bl, sl_tupE, sl_rolE, keep_ref, keep_tup, keep_rol, tp_int, tp_tup, tp_rol, tp_str, tp_bl, tp_non, tp_ref, oFd, oMd, oPw, oShl, oLt, oLe, oGt, oGe, op_in, op_cp, wipe_nil, wipe_cons, mset_same, true_and, and_true, isN_int, ex_lstF, ex_repF, ex_lgF1, ex_lgF2, ex_tupRg1, ex_tupRg2, ex_frz, ex_slF, ex_slM, sl_tupF, sl_rolF, op_iiF, op_ssF, op_ttF, op_rrF, op_rrM, op_mmF, op_repF, li_rol, li_ref, bl_listF, bl_allF, bl_anyF, asT_some, asJ_some, op_eqBf, op_eqBt, isN_non, Bool.not_true, Bool.not_false, rep2])
    refine ite3_by (fun h => ?_) (fun h => ?_)
    · refine k3 _ (100 * i + 2) w _ _ _ f3 (by omega) w0 w3 fun T M4 tT f4 => ?_
      (try simp only [ex_c, ex_var, ex_op, ex_un, ex_b, ex_and, ex_or, ex_not, ex_andV, ex_orV, ex_notV, ex_if, ex_chain, ex_nil, ex_cons, ex_tup, ex_lst, ex_call, ex_callP, ex_cb, ex_bm, ex_rep, ex_sl, ex_noPart, ex_part, ex_yes, it_items, it_rng1, it_rng2, tg_name, tg_sub, tg_tup, tg_cons, tg_nil, gs_0, gs_s, ss_0, ss_s, op_ii, op_ss, op_tt, op_mm, op_sb, op_ng, op_iNf, op_iNt, op_lle, op_ixT, op_ixR, op_ixL, op_putE, op_appE, it_tupE, it_rolE, it_refE, lstOf_l, exL, asS_some, asI_int, asB_bl, asL_some, asN_some, ite3_t, ite3_f, bl_1, bl_lenT, bl_lenR, bl_lenL, bl_lenS, bl_tuple, bl_list, bl_abs, bl_intI, bl_intB, bl_max, bl_min, op_eqSf, op_eqSt, op_eqIf, op_eqIt, op_eqTf, op_eqTt, op_eqRf, op_eqRt, op_eqNf, op_eqNt, eqD_int, eqD_nil, pl_int, pl_nil, pl_non, pl_rnil, pl_bl, sl_tupE, sl_rolE, keep_ref, keep_tup, keep_rol, tp_int, tp_tup, tp_rol, tp_str, tp_bl, tp_non, tp_ref, oFd, oMd, oPw, oShl, oLt, oLe, oGt, oGe, op_in, op_cp, wipe_nil, wipe_cons, mset_same, true_and, and_true, isN_int, ex_lstF, ex_repF, ex_lgF1, ex_lgF2, ex_tupRg1, ex_tupRg2, ex_frz, ex_slF, ex_slM, sl_tupF, sl_rolF, op_iiF, op_ssF, op_ttF, op_rrF, op_rrM, op_mmF, op_repF, li_rol, li_ref, bl_listF, bl_allF, bl_anyF, asT_some, asJ_some, op_eqBf, op_eqBt, isN_non, Bool.not_true, Bool.not_false, rep2])
      exact rest _ T M4 _ rfl rfl (.inr tT) (f4.mono (by omega))
    · (try simp only [ex_c, ex_var, ex_op, ex_un, ex_b, ex_and, ex_or, ex_not, ex_andV, ex_orV, ex_notV, ex_if, ex_chain, ex_nil, ex_cons, ex_tup, ex_lst, ex_call, ex_callP, ex_cb, ex_bm, ex_rep, ex_sl, ex_noPart, ex_part, ex_yes, it_items, it_rng1, it_rng2, tg_name, tg_sub, tg_tup, tg_cons, tg_nil, gs_0, gs_s, ss_0, ss_s, op_ii, op_ss, op_tt, op_mm, op_sb, op_ng, op_iNf, op_iNt, op_lle, op_ixT, op_ixR, op_ixL, op_putE, op_appE, it_tupE, it_rolE, it_refE, lstOf_l, exL, asS_some, asI_int, asB_bl, asL_some, asN_some, ite3_t, ite3_f, bl_1, bl_lenT, bl_lenR, bl_lenL, bl_lenS, bl_tuple, bl_list, bl_abs, bl_intI, bl_intB, bl_max, bl_min, op_eqSf, op_eqSt, op_eqIf, op_eqIt, op_eqTf, op_eqTt, op_eqRf, op_eqRt, op_eqNf, op_eqNt, eqD_int, eqD_nil, pl_int, pl_nil, pl_non, pl_rnil, pl_bl, sl_tupE, sl_rolE, keep_ref, keep_tup, keep_rol, tp_int, tp_tup, tp_rol, tp_str, tp_bl, tp_non, tp_ref, oFd, oMd, oPw, oShl, oLt, oLe, oGt, oGe, op_in, op_cp, wipe_nil, wipe_cons, mset_same, true_and, and_true, isN_int, ex_lstF, ex_repF, ex_lgF1, ex_lgF2, ex_tupRg1, ex_tupRg2, ex_frz, ex_slF, ex_slM, sl_tupF, sl_rolF, op_iiF, op_ssF, op_ttF, op_rrF, op_rrM, op_mmF, op_repF, li_rol, li_ref, bl_listF, bl_allF, bl_anyF, asT_some, asJ_some, op_eqBf, op_eqBt, isN_non, Bool.not_true, Bool.not_false, rep2])
      refine ⟨Nat.zero_le _, ?_⟩
      exact rest _ [] M3 _ rfl rfl (.inl rfl) (f3.mono (by omega))
  · rintro τ M ⟨_, f, x2, x3, x4, x5, rfl⟩
    try dsimp only
    rw [st_ret]
    simp only [ex_c, ex_var, ex_op, ex_un, ex_b, ex_and, ex_or, ex_not, ex_andV, ex_orV, ex_notV, ex_if, ex_chain, ex_nil, ex_cons, ex_tup, ex_lst, ex_call, ex_callP, ex_cb, ex_bm, ex_rep, ex_sl, ex_noPart, ex_part, ex_yes, it_items, it_rng1, it_rng2, tg_name, tg_sub, tg_tup, tg_cons, tg_nil, gs_0, gs_s, ss_0, ss_s, op_ii, op_ss, op_tt, op_mm, op_sb, op_ng, op_iNf, op_iNt, op_lle, op_ixT, op_ixR, op_ixL, op_putE, op_appE, it_tupE, it_rolE, it_refE, lstOf_l, exL, asS_some, asI_int, asB_bl, asL_some, asN_some, ite3_t, ite3_f, bl_1, bl_lenT, bl_lenR, bl_lenL, bl_lenS, bl_tuple, bl_list, bl_abs, bl_intI, bl_intB, bl_max, bl_min, op_eqSf, op_eqSt, op_eqIf, op_eqIt, op_eqTf, op_eqTt, op_eqRf, op_eqRt, op_eqNf, op_eqNt, eqD_int, eqD_nil, pl_int, pl_nil, pl_non, pl_rnil, pl_bl, sl_tupE, sl_rolE, keep_ref, keep_tup, keep_rol, tp_int, tp_tup, tp_rol, tp_str, tp_bl, tp_non, tp_ref, oFd, oMd, oPw, oShl, oLt, oLe, oGt, oGe, op_in, op_cp, wipe_nil, wipe_cons, mset_same, true_and, and_true, isN_int, ex_lstF, ex_repF, ex_lgF1, ex_lgF2, ex_tupRg1, ex_tupRg2, ex_frz, ex_slF, ex_slM, sl_tupF, sl_rolF, op_iiF, op_ssF, op_ttF, op_rrF, op_rrM, op_mmF, op_repF, li_rol, li_ref, bl_listF, bl_allF, bl_anyF, asT_some, asJ_some, op_eqBf, op_eqBt, isN_non, Bool.not_true, Bool.not_false, rep2]
theorem said : ∀ ns : List Int, ns.length ≤ 63 → sp_law [.rol (ns.map D.int)] M0 (fun v _ => v = .bl true) (fun _ _ _ => False) := fun ns _ =>
  m_law m_deck m_draw m_step m_same m_due m_can ns
end W
set_option Elab.async false
set_option linter.all false
set_option maxRecDepth 100000
set_option maxHeartbeats 4000000
namespace W
open PySem PySem.Spec PyProof.Rows L2 L3
theorem all_mk {l : PySem.W.OpenLaw} {w : World} {K : PySem.W.Frag} {h : Heap} {mg : PySem.Str → Option Value} {fa f1 f2 f3 f4 f5 f6 f7 f8 f9 f10 f11 f12 f13 f14 f15 f16 f17 f18 f19 f20 f21 f22 f23 f24 f25 f26 f27 f28 : Addr} (X : K.In h) (G : h.Ns mainGlobals mg) (hfa : mg "law" = some (.ref fa))
    {od1 an1 od2 an2 od3 an3 od4 an4 od5 an5 od6 an6 od7 an7 od8 an8 od9 an9 od10 an10 od11 an11 od12 an12 od13 an13 od14 an14 od15 an15 od16 an16 od17 an17 od18 an18 od19 an19 od20 an20 od21 an21 od22 an22 od23 an23 od24 an24 od25 an25 od26 an26 od27 an27 od28 an28 : Option Addr} {sl1 sl2 sl3 sl4 sl5 sl6 sl7 sl8 sl9 sl10 sl11 sl12 sl13 sl14 sl15 sl16 sl17 sl18 sl19 sl20 sl21 sl22 sl23 sl24 sl25 sl26 sl27 sl28 : Array (Option Value)} {oc1 kV1 dc1 pm1 cd1 ct1 oc2 kV2 dc2 pm2 cd2 ct2 oc3 kV3 dc3 pm3 cd3 ct3 oc4 kV4 dc4 pm4 cd4 ct4 oc5 kV5 dc5 pm5 cd5 ct5 oc6 kV6 dc6 pm6 cd6 ct6 oc7 kV7 dc7 pm7 cd7 ct7 oc8 kV8 dc8 pm8 cd8 ct8 oc9 kV9 dc9 pm9 cd9 ct9 oc10 kV10 dc10 pm10 cd10 ct10 oc11 kV11 dc11 pm11 cd11 ct11 oc12 kV12 dc12 pm12 cd12 ct12 oc13 kV13 dc13 pm13 cd13 ct13 oc14 kV14 dc14 pm14 cd14 ct14 oc15 kV15 dc15 pm15 cd15 ct15 oc16 kV16 dc16 pm16 cd16 ct16 oc17 kV17 dc17 pm17 cd17 ct17 oc18 kV18 dc18 pm18 cd18 ct18 oc19 kV19 dc19 pm19 cd19 ct19 oc20 kV20 dc20 pm20 cd20 ct20 oc21 kV21 dc21 pm21 cd21 ct21 oc22 kV22 dc22 pm22 cd22 ct22 oc23 kV23 dc23 pm23 cd23 ct23 oc24 kV24 dc24 pm24 cd24 ct24 oc25 kV25 dc25 pm25 cd25 ct25 oc26 kV26 dc26 pm26 cd26 ct26 oc27 kV27 dc27 pm27 cd27 ct27 oc28 kV28 dc28 pm28 cd28 ct28 : Value}
    (a1 : PySem.W.nsIn K mainGlobals ("_law_deck" : PySem.Str) = some (some (.ref f1))) (l1 : K.lookup f1 = some ⟨oc1, od1, .func (PySem.W.fnOf ("_law_deck" : PySem.Str) ("_law_deck" : PySem.Str) (defArgs s__law_deck) (defBody s__law_deck) (defScope s__law_deck) .none kV1 dc1 pm1 an1 cd1 ct1), sl1⟩) (c1 : PySem.W.codeIn K cd1 ("_law_deck" : PySem.Str) = true) (k1 : PySem.W.keepIn K (.ref f1) = true)
    (a2 : PySem.W.nsIn K mainGlobals ("_law_mixed" : PySem.Str) = some (some (.ref f2))) (l2 : K.lookup f2 = some ⟨oc2, od2, .func (PySem.W.fnOf ("_law_mixed" : PySem.Str) ("_law_mixed" : PySem.Str) (defArgs s__law_mixed) (defBody s__law_mixed) (defScope s__law_mixed) .none kV2 dc2 pm2 an2 cd2 ct2), sl2⟩) (c2 : PySem.W.codeIn K cd2 ("_law_mixed" : PySem.Str) = true) (k2 : PySem.W.keepIn K (.ref f2) = true)
    (a3 : PySem.W.nsIn K mainGlobals ("_law_draw" : PySem.Str) = some (some (.ref f3))) (l3 : K.lookup f3 = some ⟨oc3, od3, .func (PySem.W.fnOf ("_law_draw" : PySem.Str) ("_law_draw" : PySem.Str) (defArgs s__law_draw) (defBody s__law_draw) (defScope s__law_draw) .none kV3 dc3 pm3 an3 cd3 ct3), sl3⟩) (c3 : PySem.W.codeIn K cd3 ("_law_draw" : PySem.Str) = true) (k3 : PySem.W.keepIn K (.ref f3) = true)
    (a4 : PySem.W.nsIn K mainGlobals ("_law_table" : PySem.Str) = some (some (.ref f4))) (l4 : K.lookup f4 = some ⟨oc4, od4, .func (PySem.W.fnOf ("_law_table" : PySem.Str) ("_law_table" : PySem.Str) (defArgs s__law_table) (defBody s__law_table) (defScope s__law_table) .none kV4 dc4 pm4 an4 cd4 ct4), sl4⟩) (c4 : PySem.W.codeIn K cd4 ("_law_table" : PySem.Str) = true) (k4 : PySem.W.keepIn K (.ref f4) = true)
    (a5 : PySem.W.nsIn K mainGlobals ("_law_step" : PySem.Str) = some (some (.ref f5))) (l5 : K.lookup f5 = some ⟨oc5, od5, .func (PySem.W.fnOf ("_law_step" : PySem.Str) ("_law_step" : PySem.Str) (defArgs s__law_step) (defBody s__law_step) (defScope s__law_step) .none kV5 dc5 pm5 an5 cd5 ct5), sl5⟩) (c5 : PySem.W.codeIn K cd5 ("_law_step" : PySem.Str) = true) (k5 : PySem.W.keepIn K (.ref f5) = true)
    (a6 : PySem.W.nsIn K mainGlobals ("_law_same" : PySem.Str) = some (some (.ref f6))) (l6 : K.lookup f6 = some ⟨oc6, od6, .func (PySem.W.fnOf ("_law_same" : PySem.Str) ("_law_same" : PySem.Str) (defArgs s__law_same) (defBody s__law_same) (defScope s__law_same) .none kV6 dc6 pm6 an6 cd6 ct6), sl6⟩) (c6 : PySem.W.codeIn K cd6 ("_law_same" : PySem.Str) = true) (k6 : PySem.W.keepIn K (.ref f6) = true)
    (a7 : PySem.W.nsIn K mainGlobals ("lesser" : PySem.Str) = some (some (.ref f7))) (l7 : K.lookup f7 = some ⟨oc7, od7, .func (PySem.W.fnOf ("lesser" : PySem.Str) ("lesser" : PySem.Str) (defArgs s_lesser) (defBody s_lesser) (defScope s_lesser) .none kV7 dc7 pm7 an7 cd7 ct7), sl7⟩) (c7 : PySem.W.codeIn K cd7 ("lesser" : PySem.Str) = true) (k7 : PySem.W.keepIn K (.ref f7) = true)
    (a8 : PySem.W.nsIn K mainGlobals ("put_together" : PySem.Str) = some (some (.ref f8))) (l8 : K.lookup f8 = some ⟨oc8, od8, .func (PySem.W.fnOf ("put_together" : PySem.Str) ("put_together" : PySem.Str) (defArgs s_put_together) (defBody s_put_together) (defScope s_put_together) .none kV8 dc8 pm8 an8 cd8 ct8), sl8⟩) (c8 : PySem.W.codeIn K cd8 ("put_together" : PySem.Str) = true) (k8 : PySem.W.keepIn K (.ref f8) = true)
    (a9 : PySem.W.nsIn K mainGlobals ("joined" : PySem.Str) = some (some (.ref f9))) (l9 : K.lookup f9 = some ⟨oc9, od9, .func (PySem.W.fnOf ("joined" : PySem.Str) ("joined" : PySem.Str) (defArgs s_joined) (defBody s_joined) (defScope s_joined) .none kV9 dc9 pm9 an9 cd9 ct9), sl9⟩) (c9 : PySem.W.codeIn K cd9 ("joined" : PySem.Str) = true) (k9 : PySem.W.keepIn K (.ref f9) = true)
    (a10 : PySem.W.nsIn K mainGlobals ("closed" : PySem.Str) = some (some (.ref f10))) (l10 : K.lookup f10 = some ⟨oc10, od10, .func (PySem.W.fnOf ("closed" : PySem.Str) ("closed" : PySem.Str) (defArgs s_closed) (defBody s_closed) (defScope s_closed) .none kV10 dc10 pm10 an10 cd10 ct10), sl10⟩) (c10 : PySem.W.codeIn K cd10 ("closed" : PySem.Str) = true) (k10 : PySem.W.keepIn K (.ref f10) = true)
    (a11 : PySem.W.nsIn K mainGlobals ("only" : PySem.Str) = some (some (.ref f11))) (l11 : K.lookup f11 = some ⟨oc11, od11, .func (PySem.W.fnOf ("only" : PySem.Str) ("only" : PySem.Str) (defArgs s_only) (defBody s_only) (defScope s_only) .none kV11 dc11 pm11 an11 cd11 ct11), sl11⟩) (c11 : PySem.W.codeIn K cd11 ("only" : PySem.Str) = true) (k11 : PySem.W.keepIn K (.ref f11) = true)
    (a12 : PySem.W.nsIn K mainGlobals ("places_of" : PySem.Str) = some (some (.ref f12))) (l12 : K.lookup f12 = some ⟨oc12, od12, .func (PySem.W.fnOf ("places_of" : PySem.Str) ("places_of" : PySem.Str) (defArgs s_places_of) (defBody s_places_of) (defScope s_places_of) .none kV12 dc12 pm12 an12 cd12 ct12), sl12⟩) (c12 : PySem.W.codeIn K cd12 ("places_of" : PySem.Str) = true) (k12 : PySem.W.keepIn K (.ref f12) = true)
    (a13 : PySem.W.nsIn K mainGlobals ("olds" : PySem.Str) = some (some (.ref f13))) (l13 : K.lookup f13 = some ⟨oc13, od13, .func (PySem.W.fnOf ("olds" : PySem.Str) ("olds" : PySem.Str) (defArgs s_olds) (defBody s_olds) (defScope s_olds) .none kV13 dc13 pm13 an13 cd13 ct13), sl13⟩) (c13 : PySem.W.codeIn K cd13 ("olds" : PySem.Str) = true) (k13 : PySem.W.keepIn K (.ref f13) = true)
    (a14 : PySem.W.nsIn K mainGlobals ("table_of" : PySem.Str) = some (some (.ref f14))) (l14 : K.lookup f14 = some ⟨oc14, od14, .func (PySem.W.fnOf ("table_of" : PySem.Str) ("table_of" : PySem.Str) (defArgs s_table_of) (defBody s_table_of) (defScope s_table_of) .none kV14 dc14 pm14 an14 cd14 ct14), sl14⟩) (c14 : PySem.W.codeIn K cd14 ("table_of" : PySem.Str) = true) (k14 : PySem.W.keepIn K (.ref f14) = true)
    (a15 : PySem.W.nsIn K mainGlobals ("step_of" : PySem.Str) = some (some (.ref f15))) (l15 : K.lookup f15 = some ⟨oc15, od15, .func (PySem.W.fnOf ("step_of" : PySem.Str) ("step_of" : PySem.Str) (defArgs s_step_of) (defBody s_step_of) (defScope s_step_of) .none kV15 dc15 pm15 an15 cd15 ct15), sl15⟩) (c15 : PySem.W.codeIn K cd15 ("step_of" : PySem.Str) = true) (k15 : PySem.W.keepIn K (.ref f15) = true)
    (a16 : PySem.W.nsIn K mainGlobals ("like" : PySem.Str) = some (some (.ref f16))) (l16 : K.lookup f16 = some ⟨oc16, od16, .func (PySem.W.fnOf ("like" : PySem.Str) ("like" : PySem.Str) (defArgs s_like) (defBody s_like) (defScope s_like) .none kV16 dc16 pm16 an16 cd16 ct16), sl16⟩) (c16 : PySem.W.codeIn K cd16 ("like" : PySem.Str) = true) (k16 : PySem.W.keepIn K (.ref f16) = true)
    (a17 : PySem.W.nsIn K mainGlobals ("kept" : PySem.Str) = some (some (.ref f17))) (l17 : K.lookup f17 = some ⟨oc17, od17, .func (PySem.W.fnOf ("kept" : PySem.Str) ("kept" : PySem.Str) (defArgs s_kept) (defBody s_kept) (defScope s_kept) .none kV17 dc17 pm17 an17 cd17 ct17), sl17⟩) (c17 : PySem.W.codeIn K cd17 ("kept" : PySem.Str) = true) (k17 : PySem.W.keepIn K (.ref f17) = true)
    (a18 : PySem.W.nsIn K mainGlobals ("behind" : PySem.Str) = some (some (.ref f18))) (l18 : K.lookup f18 = some ⟨oc18, od18, .func (PySem.W.fnOf ("behind" : PySem.Str) ("behind" : PySem.Str) (defArgs s_behind) (defBody s_behind) (defScope s_behind) .none kV18 dc18 pm18 an18 cd18 ct18), sl18⟩) (c18 : PySem.W.codeIn K cd18 ("behind" : PySem.Str) = true) (k18 : PySem.W.keepIn K (.ref f18) = true)
    (a19 : PySem.W.nsIn K mainGlobals ("power" : PySem.Str) = some (some (.ref f19))) (l19 : K.lookup f19 = some ⟨oc19, od19, .func (PySem.W.fnOf ("power" : PySem.Str) ("power" : PySem.Str) (defArgs s_power) (defBody s_power) (defScope s_power) .none kV19 dc19 pm19 an19 cd19 ct19), sl19⟩) (c19 : PySem.W.codeIn K cd19 ("power" : PySem.Str) = true) (k19 : PySem.W.keepIn K (.ref f19) = true)
    (a20 : PySem.W.nsIn K mainGlobals ("olds_before" : PySem.Str) = some (some (.ref f20))) (l20 : K.lookup f20 = some ⟨oc20, od20, .func (PySem.W.fnOf ("olds_before" : PySem.Str) ("olds_before" : PySem.Str) (defArgs s_olds_before) (defBody s_olds_before) (defScope s_olds_before) .none kV20 dc20 pm20 an20 cd20 ct20), sl20⟩) (c20 : PySem.W.codeIn K cd20 ("olds_before" : PySem.Str) = true) (k20 : PySem.W.keepIn K (.ref f20) = true)
    (a21 : PySem.W.nsIn K mainGlobals ("field_of" : PySem.Str) = some (some (.ref f21))) (l21 : K.lookup f21 = some ⟨oc21, od21, .func (PySem.W.fnOf ("field_of" : PySem.Str) ("field_of" : PySem.Str) (defArgs s_field_of) (defBody s_field_of) (defScope s_field_of) .none kV21 dc21 pm21 an21 cd21 ct21), sl21⟩) (c21 : PySem.W.codeIn K cd21 ("field_of" : PySem.Str) = true) (k21 : PySem.W.keepIn K (.ref f21) = true)
    (a22 : PySem.W.nsIn K mainGlobals ("can_do" : PySem.Str) = some (some (.ref f22))) (l22 : K.lookup f22 = some ⟨oc22, od22, .func (PySem.W.fnOf ("can_do" : PySem.Str) ("can_do" : PySem.Str) (defArgs s_can_do) (defBody s_can_do) (defScope s_can_do) .none kV22 dc22 pm22 an22 cd22 ct22), sl22⟩) (c22 : PySem.W.codeIn K cd22 ("can_do" : PySem.Str) = true) (k22 : PySem.W.keepIn K (.ref f22) = true)
    (a23 : PySem.W.nsIn K mainGlobals ("_law_edges" : PySem.Str) = some (some (.ref f23))) (l23 : K.lookup f23 = some ⟨oc23, od23, .func (PySem.W.fnOf ("_law_edges" : PySem.Str) ("_law_edges" : PySem.Str) (defArgs s__law_edges) (defBody s__law_edges) (defScope s__law_edges) .none kV23 dc23 pm23 an23 cd23 ct23), sl23⟩) (c23 : PySem.W.codeIn K cd23 ("_law_edges" : PySem.Str) = true) (k23 : PySem.W.keepIn K (.ref f23) = true)
    (a24 : PySem.W.nsIn K mainGlobals ("_law_unrolled" : PySem.Str) = some (some (.ref f24))) (l24 : K.lookup f24 = some ⟨oc24, od24, .func (PySem.W.fnOf ("_law_unrolled" : PySem.Str) ("_law_unrolled" : PySem.Str) (defArgs s__law_unrolled) (defBody s__law_unrolled) (defScope s__law_unrolled) .none kV24 dc24 pm24 an24 cd24 ct24), sl24⟩) (c24 : PySem.W.codeIn K cd24 ("_law_unrolled" : PySem.Str) = true) (k24 : PySem.W.keepIn K (.ref f24) = true)
    (a25 : PySem.W.nsIn K mainGlobals ("_law_loosened" : PySem.Str) = some (some (.ref f25))) (l25 : K.lookup f25 = some ⟨oc25, od25, .func (PySem.W.fnOf ("_law_loosened" : PySem.Str) ("_law_loosened" : PySem.Str) (defArgs s__law_loosened) (defBody s__law_loosened) (defScope s__law_loosened) .none kV25 dc25 pm25 an25 cd25 ct25), sl25⟩) (c25 : PySem.W.codeIn K cd25 ("_law_loosened" : PySem.Str) = true) (k25 : PySem.W.keepIn K (.ref f25) = true)
    (a26 : PySem.W.nsIn K mainGlobals ("_law_some" : PySem.Str) = some (some (.ref f26))) (l26 : K.lookup f26 = some ⟨oc26, od26, .func (PySem.W.fnOf ("_law_some" : PySem.Str) ("_law_some" : PySem.Str) (defArgs s__law_some) (defBody s__law_some) (defScope s__law_some) .none kV26 dc26 pm26 an26 cd26 ct26), sl26⟩) (c26 : PySem.W.codeIn K cd26 ("_law_some" : PySem.Str) = true) (k26 : PySem.W.keepIn K (.ref f26) = true)
    (a27 : PySem.W.nsIn K mainGlobals ("_law_due" : PySem.Str) = some (some (.ref f27))) (l27 : K.lookup f27 = some ⟨oc27, od27, .func (PySem.W.fnOf ("_law_due" : PySem.Str) ("_law_due" : PySem.Str) (defArgs s__law_due) (defBody s__law_due) (defScope s__law_due) .none kV27 dc27 pm27 an27 cd27 ct27), sl27⟩) (c27 : PySem.W.codeIn K cd27 ("_law_due" : PySem.Str) = true) (k27 : PySem.W.keepIn K (.ref f27) = true)
    (a28 : PySem.W.nsIn K mainGlobals ("law" : PySem.Str) = some (some (.ref f28))) (l28 : K.lookup f28 = some ⟨oc28, od28, .func (PySem.W.fnOf ("law" : PySem.Str) ("law" : PySem.Str) (defArgs s_law) (defBody s_law) (defScope s_law) .none kV28 dc28 pm28 an28 cd28 ct28), sl28⟩) (c28 : PySem.W.codeIn K cd28 ("law" : PySem.Str) = true) (k28 : PySem.W.keepIn K (.ref f28) = true)
    (z0 : PySem.W.nsIn K mainGlobals ("abs" : PySem.Str) = some none)
    (z1 : PySem.W.nsIn K mainGlobals ("any" : PySem.Str) = some none)
    (z2 : PySem.W.nsIn K mainGlobals ("bool" : PySem.Str) = some none)
    (z3 : PySem.W.nsIn K mainGlobals ("enumerate" : PySem.Str) = some none)
    (z4 : PySem.W.nsIn K mainGlobals ("int" : PySem.Str) = some none)
    (z5 : PySem.W.nsIn K mainGlobals ("isinstance" : PySem.Str) = some none)
    (z6 : PySem.W.nsIn K mainGlobals ("len" : PySem.Str) = some none)
    (z7 : PySem.W.nsIn K mainGlobals ("list" : PySem.Str) = some none)
    (z8 : PySem.W.nsIn K mainGlobals ("min" : PySem.Str) = some none)
    (z9 : PySem.W.nsIn K mainGlobals ("range" : PySem.Str) = some none)
    (z10 : PySem.W.nsIn K mainGlobals ("str" : PySem.Str) = some none)
    (z11 : PySem.W.nsIn K mainGlobals ("tuple" : PySem.Str) = some none)
    : ∃ fd : FuncData, (∀ (s : Shared) (v : Value), BindsTo s fd ⟨[v], []⟩ [(("_law_script" : PySem.Str), v)]) ∧ ∀ base : Heap, K.In base → base.Ns mainGlobals mg → FnG l.prog w K mg base (L2.CX l.prog w) 9 fa fd [("_law_script" : PySem.Str)] (liftSp K sp_law) := by
  have e := hfa.symm.trans (PySem.W.mg_of X G a28)
  cases e
  have F1 := fun_mk (st := s__law_deck) l1 c1 k1
  have b1 := F1.binds (ps := [("_law_script" : PySem.Str)]) fun _ _ _ _ _ _ us hl => match us, hl with | [_], _ => rfl
  have F2 := fun_mk (st := s__law_mixed) l2 c2 k2
  have b2 := F2.binds (ps := [("_law_cell" : PySem.Str), ("_law_turn" : PySem.Str)]) fun _ _ _ _ _ _ us hl => match us, hl with | [_, _], _ => rfl
  have F3 := fun_mk (st := s__law_draw) l3 c3 k3
  have b3 := F3.binds (ps := [("_law_deck_here" : PySem.Str), ("_law_many" : PySem.Str)]) fun _ _ _ _ _ _ us hl => match us, hl with | [_, _], _ => rfl
  have F4 := fun_mk (st := s__law_table) l4 c4 k4
  have b4 := F4.binds (ps := [("_law_many" : PySem.Str), ("_law_ends" : PySem.Str)]) fun _ _ _ _ _ _ us hl => match us, hl with | [_, _], _ => rfl
  have F5 := fun_mk (st := s__law_step) l5 c5 k5
  have b5 := F5.binds (ps := [("_law_deck_here" : PySem.Str), ("_law_width" : PySem.Str)]) fun _ _ _ _ _ _ us hl => match us, hl with | [_, _], _ => rfl
  have F6 := fun_mk (st := s__law_same) l6 c6 k6
  have b6 := F6.binds (ps := [("_law_found" : PySem.Str), ("_law_due_here" : PySem.Str)]) fun _ _ _ _ _ _ us hl => match us, hl with | [_, _], _ => rfl
  have F7 := fun_mk (st := s_lesser) l7 c7 k7
  have b7 := F7.binds (ps := [("first" : PySem.Str), ("second" : PySem.Str)]) fun _ _ _ _ _ _ us hl => match us, hl with | [_, _], _ => rfl
  have F8 := fun_mk (st := s_put_together) l8 c8 k8
  have b8 := F8.binds (ps := [("many" : PySem.Str), ("parts" : PySem.Str)]) fun _ _ _ _ _ _ us hl => match us, hl with | [_, _], _ => rfl
  have F9 := fun_mk (st := s_joined) l9 c9 k9
  have b9 := F9.binds (ps := [("first" : PySem.Str), ("second" : PySem.Str)]) fun _ _ _ _ _ _ us hl => match us, hl with | [_, _], _ => rfl
  have F10 := fun_mk (st := s_closed) l10 c10 k10
  have b10 := F10.binds (ps := [("table" : PySem.Str)]) fun _ _ _ _ _ _ us hl => match us, hl with | [_], _ => rfl
  have F11 := fun_mk (st := s_only) l11 c11 k11
  have b11 := F11.binds (ps := [("table" : PySem.Str), ("points" : PySem.Str)]) fun _ _ _ _ _ _ us hl => match us, hl with | [_, _], _ => rfl
  have F12 := fun_mk (st := s_places_of) l12 c12 k12
  have b12 := F12.binds (ps := [("width" : PySem.Str), ("first" : PySem.Str)]) fun _ _ _ _ _ _ us hl => match us, hl with | [_, _], _ => rfl
  have F13 := fun_mk (st := s_olds) l13 c13 k13
  have b13 := F13.binds (ps := [("step" : PySem.Str), ("field" : PySem.Str)]) fun _ _ _ _ _ _ us hl => match us, hl with | [_, _], _ => rfl
  have F14 := fun_mk (st := s_table_of) l14 c14 k14
  have b14 := F14.binds (ps := [("many" : PySem.Str), ("rows" : PySem.Str)]) fun _ _ _ _ _ _ us hl => match us, hl with | [_, _], _ => rfl
  have F15 := fun_mk (st := s_step_of) l15 c15 k15
  have b15 := F15.binds (ps := [("width" : PySem.Str), ("rows" : PySem.Str)]) fun _ _ _ _ _ _ us hl => match us, hl with | [_, _], _ => rfl
  have F16 := fun_mk (st := s_like) l16 c16 k16
  have b16 := F16.binds (ps := [("p" : PySem.Str), ("q" : PySem.Str), ("c" : PySem.Str)]) fun _ _ _ _ _ _ us hl => match us, hl with | [_, _, _], _ => rfl
  have F17 := fun_mk (st := s_kept) l17 c17 k17
  have b17 := F17.binds (ps := [("width" : PySem.Str)]) fun _ _ _ _ _ _ us hl => match us, hl with | [_], _ => rfl
  have F18 := fun_mk (st := s_behind) l18 c18 k18
  have b18 := F18.binds (ps := [("one" : PySem.Str), ("other" : PySem.Str)]) fun _ _ _ _ _ _ us hl => match us, hl with | [_, _], _ => rfl
  have F19 := fun_mk (st := s_power) l19 c19 k19
  have b19 := F19.binds (ps := [("width" : PySem.Str), ("step" : PySem.Str), ("times" : PySem.Str)]) fun _ _ _ _ _ _ us hl => match us, hl with | [_, _, _], _ => rfl
  have F20 := fun_mk (st := s_olds_before) l20 c20 k20
  have b20 := F20.binds (ps := [("width" : PySem.Str), ("step" : PySem.Str), ("field" : PySem.Str), ("times" : PySem.Str)]) fun _ _ _ _ _ _ us hl => match us, hl with | [_, _, _, _], _ => rfl
  have F21 := fun_mk (st := s_field_of) l21 c21 k21
  have b21 := F21.binds (ps := [("width" : PySem.Str), ("rows" : PySem.Str)]) fun _ _ _ _ _ _ us hl => match us, hl with | [_, _], _ => rfl
  have F22 := fun_mk (st := s_can_do) l22 c22 k22
  have b22 := F22.binds (ps := [("width" : PySem.Str), ("step" : PySem.Str), ("times" : PySem.Str)]) fun _ _ _ _ _ _ us hl => match us, hl with | [_, _, _], _ => rfl
  have F23 := fun_mk (st := s__law_edges) l23 c23 k23
  have b23 := F23.binds (ps := [("_law_table_here" : PySem.Str), ("_law_places" : PySem.Str)]) fun _ _ _ _ _ _ us hl => match us, hl with | [_, _], _ => rfl
  have F24 := fun_mk (st := s__law_unrolled) l24 c24 k24
  have b24 := F24.binds (ps := [("_law_width" : PySem.Str), ("_law_step_here" : PySem.Str), ("_law_times" : PySem.Str)]) fun _ _ _ _ _ _ us hl => match us, hl with | [_, _, _], _ => rfl
  have F25 := fun_mk (st := s__law_loosened) l25 c25 k25
  have b25 := F25.binds (ps := [("_law_edges_here" : PySem.Str), ("_law_many" : PySem.Str), ("_law_sums" : PySem.Str)]) fun _ _ _ _ _ _ us hl => match us, hl with | [_, _, _], _ => rfl
  have F26 := fun_mk (st := s__law_some) l26 c26 k26
  have b26 := F26.binds (ps := [("_law_edges_here" : PySem.Str), ("_law_many" : PySem.Str)]) fun _ _ _ _ _ _ us hl => match us, hl with | [_, _], _ => rfl
  have F27 := fun_mk (st := s__law_due) l27 c27 k27
  have b27 := F27.binds (ps := [("_law_width" : PySem.Str), ("_law_step_here" : PySem.Str), ("_law_times" : PySem.Str)]) fun _ _ _ _ _ _ us hl => match us, hl with | [_, _, _], _ => rfl
  have F28 := fun_mk (st := s_law) l28 c28 k28
  have b28 := F28.binds (ps := [("_law_script" : PySem.Str)]) fun _ _ _ _ _ _ us hl => match us, hl with | [_], _ => rfl
  have zz_abs := PySem.W.mg_none_of X G z0
  have zz_any := PySem.W.mg_none_of X G z1
  have zz_bool := PySem.W.mg_none_of X G z2
  have zz_enumerate := PySem.W.mg_none_of X G z3
  have zz_int := PySem.W.mg_none_of X G z4
  have zz_isinstance := PySem.W.mg_none_of X G z5
  have zz_len := PySem.W.mg_none_of X G z6
  have zz_list := PySem.W.mg_none_of X G z7
  have zz_min := PySem.W.mg_none_of X G z8
  have zz_range := PySem.W.mg_none_of X G z9
  have zz_str := PySem.W.mg_none_of X G z10
  have zz_tuple := PySem.W.mg_none_of X G z11
  refine ⟨PySem.W.fnOf "law" "law" (defArgs s_law) (defBody s_law) (defScope s_law) .none kV28 dc28 pm28 an28 cd28 ct28, fun s v => .of_eq rfl, fun base _ _ => ?_⟩
  have D__law_deck := ok__law_deck (P := l.prog) (w := w) (base := base) (PySem.W.mg_of X G a1) F1 b1 zz_list        
  have D__law_mixed := ok__law_mixed (P := l.prog) (w := w) (base := base) (PySem.W.mg_of X G a2) F2 b2         
  have D__law_draw := ok__law_draw (P := l.prog) (w := w) (base := base) (PySem.W.mg_of X G a3) F3 b3 zz_abs zz_len        D__law_mixed
  have D__law_table := ok__law_table (P := l.prog) (w := w) (base := base) (PySem.W.mg_of X G a4) F4 b4 zz_range zz_tuple        
  have D__law_step := ok__law_step (P := l.prog) (w := w) (base := base) (PySem.W.mg_of X G a5) F5 b5 zz_int zz_range        D__law_draw D__law_table
  have D__law_same_0 : Def3 l.prog w K mg base (L2.CX l.prog w) 2 ("_law_same" : PySem.Str) (sn__law_same 0) := def_no (k := 1) (PySem.W.mg_of X G a6) F6 b6 sc__law_same
  have D__law_same_1 := ok__law_same (n := 0) (P := l.prog) (w := w) (base := base) (PySem.W.mg_of X G a6) F6 b6 zz_bool zz_int zz_isinstance zz_len zz_list zz_range zz_str zz_tuple   D__law_same_0
  have D__law_same_2 := ok__law_same (n := 1) (P := l.prog) (w := w) (base := base) (PySem.W.mg_of X G a6) F6 b6 zz_bool zz_int zz_isinstance zz_len zz_list zz_range zz_str zz_tuple   D__law_same_1
  have D__law_same_3 := ok__law_same (n := 2) (P := l.prog) (w := w) (base := base) (PySem.W.mg_of X G a6) F6 b6 zz_bool zz_int zz_isinstance zz_len zz_list zz_range zz_str zz_tuple   D__law_same_2
  have D__law_same_4 := ok__law_same (n := 3) (P := l.prog) (w := w) (base := base) (PySem.W.mg_of X G a6) F6 b6 zz_bool zz_int zz_isinstance zz_len zz_list zz_range zz_str zz_tuple   D__law_same_3
  have D__law_same_5 := ok__law_same (n := 4) (P := l.prog) (w := w) (base := base) (PySem.W.mg_of X G a6) F6 b6 zz_bool zz_int zz_isinstance zz_len zz_list zz_range zz_str zz_tuple   D__law_same_4
  have D__law_same_6 := ok__law_same (n := 5) (P := l.prog) (w := w) (base := base) (PySem.W.mg_of X G a6) F6 b6 zz_bool zz_int zz_isinstance zz_len zz_list zz_range zz_str zz_tuple   D__law_same_5
  have D__law_same : Def3 l.prog w K mg base (L2.CX l.prog w) 8 ("_law_same" : PySem.Str) sp__law_same := D__law_same_6
  have D_lesser := ok_lesser (P := l.prog) (w := w) (base := base) (PySem.W.mg_of X G a7) F7 b7 zz_min        
  have D_put_together := ok_put_together (P := l.prog) (w := w) (base := base) (PySem.W.mg_of X G a8) F8 b8 zz_enumerate zz_range zz_tuple        D_lesser
  have D_joined := ok_joined (P := l.prog) (w := w) (base := base) (PySem.W.mg_of X G a9) F9 b9         
  have D_closed := ok_closed (P := l.prog) (w := w) (base := base) (PySem.W.mg_of X G a10) F10 b10 zz_any zz_len zz_list zz_range zz_tuple        D_lesser D_joined
  have D_only := ok_only (P := l.prog) (w := w) (base := base) (PySem.W.mg_of X G a11) F11 b11 zz_len zz_tuple        D_closed
  have D_places_of := ok_places_of (P := l.prog) (w := w) (base := base) (PySem.W.mg_of X G a12) F12 b12 zz_list zz_range        
  have D_olds := ok_olds (P := l.prog) (w := w) (base := base) (PySem.W.mg_of X G a13) F13 b13 zz_len zz_list zz_range zz_tuple        D_put_together D_places_of D_only
  have D_table_of := ok_table_of (P := l.prog) (w := w) (base := base) (PySem.W.mg_of X G a14) F14 b14 zz_range zz_tuple        D_lesser D_closed
  have D_step_of := ok_step_of (P := l.prog) (w := w) (base := base) (PySem.W.mg_of X G a15) F15 b15         D_table_of
  have D_like := ok_like (P := l.prog) (w := w) (base := base) (PySem.W.mg_of X G a16) F16 b16         
  have D_kept := ok_kept (P := l.prog) (w := w) (base := base) (PySem.W.mg_of X G a17) F17 b17 zz_range        D_like D_step_of
  have D_behind := ok_behind (P := l.prog) (w := w) (base := base) (PySem.W.mg_of X G a18) F18 b18 zz_len zz_list zz_range zz_tuple        D_put_together D_only
  have D_power := ok_power (P := l.prog) (w := w) (base := base) (PySem.W.mg_of X G a19) F19 b19         D_closed D_kept D_behind
  have D_olds_before := ok_olds_before (P := l.prog) (w := w) (base := base) (PySem.W.mg_of X G a20) F20 b20         D_closed D_olds D_power
  have D_field_of := ok_field_of (P := l.prog) (w := w) (base := base) (PySem.W.mg_of X G a21) F21 b21         D_table_of
  have D_can_do := ok_can_do (P := l.prog) (w := w) (base := base) (PySem.W.mg_of X G a22) F22 b22         D_olds_before D_field_of
  have D__law_edges := ok__law_edges (P := l.prog) (w := w) (base := base) (PySem.W.mg_of X G a23) F23 b23 zz_len zz_range        
  have D__law_unrolled := ok__law_unrolled (P := l.prog) (w := w) (base := base) (PySem.W.mg_of X G a24) F24 b24 zz_list zz_range        D__law_edges
  have D__law_loosened := ok__law_loosened (P := l.prog) (w := w) (base := base) (PySem.W.mg_of X G a25) F25 b25 zz_list zz_range        
  have D__law_some := ok__law_some (P := l.prog) (w := w) (base := base) (PySem.W.mg_of X G a26) F26 b26         D__law_loosened
  have D__law_due := ok__law_due (P := l.prog) (w := w) (base := base) (PySem.W.mg_of X G a27) F27 b27 zz_enumerate zz_list zz_range zz_tuple        D__law_unrolled D__law_some D__law_loosened
  exact ok_law (P := l.prog) (w := w) (base := base) F28 zz_range        D__law_deck D__law_draw D__law_step D__law_same D__law_due D_can_do
end W
open PySem PySem.W PyProof.Rows
set_option maxRecDepth 100000 in
set_option maxHeartbeats 0 in
theorem PySem.Challenge.cw_everturns_k59_can_do_by_columns_holds : PySem.Challenge.rw_everturns_k59_can_do_by_columns.Holds := by
  w_on; o_law; k_head; (case hw => w_witness2)
  k_fill
  refine L3.law_end (l := PySem.Challenge.rw_everturns_k59_can_do_by_columns) (CX := fun P w => L2.CX P w) (sp := W.sp_law) (k := 9) (x := ("_law_script" : PySem.Str)) rfl rfl ⟨rfl, by decide, by decide⟩ (fun w h Y => PySem.W.kIn_of Y) ?F W.said L3.quietX
  case F =>
    intro w mg fa h KX G hmg
    refine' W.all_mk KX G hmg ?a1 ?l1 ?c1 ?k1 ?a2 ?l2 ?c2 ?k2 ?a3 ?l3 ?c3 ?k3 ?a4 ?l4 ?c4 ?k4 ?a5 ?l5 ?c5 ?k5 ?a6 ?l6 ?c6 ?k6 ?a7 ?l7 ?c7 ?k7 ?a8 ?l8 ?c8 ?k8 ?a9 ?l9 ?c9 ?k9 ?a10 ?l10 ?c10 ?k10 ?a11 ?l11 ?c11 ?k11 ?a12 ?l12 ?c12 ?k12 ?a13 ?l13 ?c13 ?k13 ?a14 ?l14 ?c14 ?k14 ?a15 ?l15 ?c15 ?k15 ?a16 ?l16 ?c16 ?k16 ?a17 ?l17 ?c17 ?k17 ?a18 ?l18 ?c18 ?k18 ?a19 ?l19 ?c19 ?k19 ?a20 ?l20 ?c20 ?k20 ?a21 ?l21 ?c21 ?k21 ?a22 ?l22 ?c22 ?k22 ?a23 ?l23 ?c23 ?k23 ?a24 ?l24 ?c24 ?k24 ?a25 ?l25 ?c25 ?k25 ?a26 ?l26 ?c26 ?k26 ?a27 ?l27 ?c27 ?k27 ?a28 ?l28 ?c28 ?k28 ?z0 ?z1 ?z2 ?z3 ?z4 ?z5 ?z6 ?z7 ?z8 ?z9 ?z10 ?z11
    (case a1 => k_is)
    (case l1 => k_is)
    (case c1 => k_is)
    (case k1 => k_is)
    (case a2 => k_is)
    (case l2 => k_is)
    (case c2 => k_is)
    (case k2 => k_is)
    (case a3 => k_is)
    (case l3 => k_is)
    (case c3 => k_is)
    (case k3 => k_is)
    (case a4 => k_is)
    (case l4 => k_is)
    (case c4 => k_is)
    (case k4 => k_is)
    (case a5 => k_is)
    (case l5 => k_is)
    (case c5 => k_is)
    (case k5 => k_is)
    (case a6 => k_is)
    (case l6 => k_is)
    (case c6 => k_is)
    (case k6 => k_is)
    (case a7 => k_is)
    (case l7 => k_is)
    (case c7 => k_is)
    (case k7 => k_is)
    (case a8 => k_is)
    (case l8 => k_is)
    (case c8 => k_is)
    (case k8 => k_is)
    (case a9 => k_is)
    (case l9 => k_is)
    (case c9 => k_is)
    (case k9 => k_is)
    (case a10 => k_is)
    (case l10 => k_is)
    (case c10 => k_is)
    (case k10 => k_is)
    (case a11 => k_is)
    (case l11 => k_is)
    (case c11 => k_is)
    (case k11 => k_is)
    (case a12 => k_is)
    (case l12 => k_is)
    (case c12 => k_is)
    (case k12 => k_is)
    (case a13 => k_is)
    (case l13 => k_is)
    (case c13 => k_is)
    (case k13 => k_is)
    (case a14 => k_is)
    (case l14 => k_is)
    (case c14 => k_is)
    (case k14 => k_is)
    (case a15 => k_is)
    (case l15 => k_is)
    (case c15 => k_is)
    (case k15 => k_is)
    (case a16 => k_is)
    (case l16 => k_is)
    (case c16 => k_is)
    (case k16 => k_is)
    (case a17 => k_is)
    (case l17 => k_is)
    (case c17 => k_is)
    (case k17 => k_is)
    (case a18 => k_is)
    (case l18 => k_is)
    (case c18 => k_is)
    (case k18 => k_is)
    (case a19 => k_is)
    (case l19 => k_is)
    (case c19 => k_is)
    (case k19 => k_is)
    (case a20 => k_is)
    (case l20 => k_is)
    (case c20 => k_is)
    (case k20 => k_is)
    (case a21 => k_is)
    (case l21 => k_is)
    (case c21 => k_is)
    (case k21 => k_is)
    (case a22 => k_is)
    (case l22 => k_is)
    (case c22 => k_is)
    (case k22 => k_is)
    (case a23 => k_is)
    (case l23 => k_is)
    (case c23 => k_is)
    (case k23 => k_is)
    (case a24 => k_is)
    (case l24 => k_is)
    (case c24 => k_is)
    (case k24 => k_is)
    (case a25 => k_is)
    (case l25 => k_is)
    (case c25 => k_is)
    (case k25 => k_is)
    (case a26 => k_is)
    (case l26 => k_is)
    (case c26 => k_is)
    (case k26 => k_is)
    (case a27 => k_is)
    (case l27 => k_is)
    (case c27 => k_is)
    (case k27 => k_is)
    (case a28 => k_is)
    (case l28 => k_is)
    (case c28 => k_is)
    (case k28 => k_is)
    (case z0 => k_is)
    (case z1 => k_is)
    (case z2 => k_is)
    (case z3 => k_is)
    (case z4 => k_is)
    (case z5 => k_is)
    (case z6 => k_is)
    (case z7 => k_is)
    (case z8 => k_is)
    (case z9 => k_is)
    (case z10 => k_is)
    (case z11 => k_is)
