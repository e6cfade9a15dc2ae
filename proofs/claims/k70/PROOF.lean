import PyProof.Rows.All
import Wide.All
import OpenK.AllK
import Wide.FinOn
import HandS.ForMost
import HandS.Wide
import HandS.Zip
import HandS.TupAny
import HandS.Conv
import HandS.WordsExc
import KE.GoesMore
import HandS.Style
import HandS.Deep
import KE.DatumOrd
import HandS.IsInst
import HandS.Dict
import HandS.SetFor
import HandS.Exc
import HandS.ExcInit
import HandS.TryOnly
import HandS.CallSlots
import HandS.ExcIs
import HandS.ExcField
import KE.KIsAll
import KE.KTryMore
import HandS.Property
import HandS.Star
import HandS.FStr
import OpenK.KOps
import OpenK.KMeth
import KE.KCallOwn
import HandS.Defaults
import HandS.SetBool
import HandS.Strs
import HandS.Text
import PyProof.Rows.StrOr
import PyProof.ReprBulk
import PyProof.Rows.ReprOcc
import KE.IntTextLaws
import PySem.Challenge.RW_everturns_k70_tables_written
set_option Elab.async false
set_option linter.all false
set_option maxRecDepth 100000
set_option maxHeartbeats 4000000
namespace L3
open PySem PySem.Spec PyProof.Rows L2
inductive D where
  | non | bl (b : Bool) | int (i : Int) | str (x : Str)
  | tup (xs : List D)
  | rol (xs : List D)
  | ref (a : Addr)
  | ty (n : String)
/-- a list that nobody writes: the script -/
def RoL (K : PySem.W.Frag) (H : Hp) (a : Addr) (xs : List V) : Prop :=
  (∃ o, H a = some (.frz o (.lst xs))) ∨
    ∃ (its : Array Value) (n : Nat), K.lookup a = some { cls := .type "list", data := .seq its n } ∧ its.size ≤ sizeLine ∧ Vals xs its.toList
theorem RoL.sq {K : PySem.W.Frag} {H : Hp} {a : Addr} {xs : List V} (h : RoL K H a xs) : SqL K H a xs := by
  rcases h with h | ⟨its, n, h, z, v⟩
  · exact .inl (.inr h)
  · exact .inr ⟨_, its, n, h, rfl, rfl, rfl, z, v⟩
mutual
inductive RD (K : PySem.W.Frag) (H : Hp) : V → D → Prop
  | non : RD K H .non .non
  | bl (b : Bool) : RD K H (.bl b) (.bl b)
  | int (i : Int) : RD K H (.int i) (.int i)
  | str (x : Str) : RD K H (.str x) (.str x)
  | ref (a : Addr) : RD K H (.ref a) (.ref a)
  | ty (n : String) : RD K H (.ty n) (.ty n)
  | tup {a : Addr} {vs : List V} {ds : List D} : SqT K H a vs → RDs K H vs ds → RD K H (.ref a) (.tup ds)
  | rol {a : Addr} {vs : List V} {ds : List D} : RoL K H a vs → RDs K H vs ds → RD K H (.ref a) (.rol ds)
inductive RDs (K : PySem.W.Frag) (H : Hp) : List V → List D → Prop
  | nil : RDs K H [] []
  | cons {v : V} {vs : List V} {d : D} {ds : List D} : RD K H v d → RDs K H vs ds → RDs K H (v :: vs) (d :: ds)
end
/-- what stands at a mutable address -/
inductive MO where
  | lst (ds : List D)
  | dK (kvs : List (Key × D))
  | dT (kvs : List (List Key × D))
  /-- a dict that is walked: read, not written -/
  | dL (o : Obj) (ks : List (Key × V)) (kvs : List (Key × D))
  /-- the same, its keys tuples -/
  | dM (o : Obj) (ks : List (List Key × V)) (kvs : List (List Key × D))
  | ins (n : Str) (fs : List (Str × D))
abbrev Mp := Addr → Option MO
def mset (M : Mp) (a : Addr) (o : MO) : Mp := fun b => if b = a then some o else M b
def M0 : Mp := fun _ => none
theorem mset_same {M : Mp} {a : Addr} {o : MO} : mset M a o a = some o := if_pos rfl
theorem mset_ne {M : Mp} {a b : Addr} {o : MO} (h : b ≠ a) : mset M a o b = M b := if_neg h
theorem ne_m {M : Mp} {a p : Addr} {o : MO} (h : M a = some o) (hp : M p = none) : a ≠ p := by
  intro e; subst e; rw [h] at hp; cases hp
def RKv {κ : Type} (K : PySem.W.Frag) (H : Hp) : List (κ × V) → List (κ × D) → Prop
  | [], [] => True
  | (k, v) :: r, (j, d) :: q => k = j ∧ RD K H v d ∧ RKv K H r q
  | _, _ => False
/-- the program's name n is that value -/
def Cl (K : PySem.W.Frag) (n : Str) (c : Value) : Prop := PySem.W.nsIn K mainGlobals n = some (some c)
def RO (K : PySem.W.Frag) (H : Hp) (a : Addr) : MO → Prop
  | .lst ds => ∃ vs, H a = some (.lst vs) ∧ RDs K H vs ds
  | .dK kvs => ∃ ks, H a = some (.dK ks) ∧ RKv K H ks kvs
  | .dT kvs => ∃ ks, H a = some (.dT ks) ∧ RKv K H ks kvs
  | .dL o ks kvs => H a = some (.frz o (.dK ks)) ∧ RKv K H ks kvs
  | .dM o ks kvs => H a = some (.frz o (.dT ks)) ∧ RKv K H ks kvs
  | .ins n fs => ∃ C dx gs, Cl K n (.ref C) ∧ H a = some (.ins C dx gs) ∧ RKv K H gs fs
def RM0 (K : PySem.W.Frag) (H : Hp) (M : Mp) : Prop := ∀ a o, M a = some o → RO K H a o
/-- M to M', H to H': what is not in M stays; what is new in M' was free -/
structure Ext (M M' : Mp) (H H' : Hp) : Prop where
  fr : ∀ a o, H a = some o → M a = none → H' a = some o
  dom : ∀ a, M' a ≠ none → M a ≠ none ∨ H a = none
theorem Ext.refl {M : Mp} {H : Hp} : Ext M M H H := ⟨fun _ _ h _ => h, fun _ h => .inl h⟩
theorem Ext.trans {M M1 M2 : Mp} {H H1 H2 : Hp} (x : Ext M M1 H H1) (y : Ext M1 M2 H1 H2) : Ext M M2 H H2 := by
  refine ⟨fun a o h hm => ?_, fun a h => ?_⟩
  · have h1 := x.fr a o h hm
    refine y.fr a o h1 ?_
    cases q : M1 a with
    | none => rfl
    | some u =>
      rcases x.dom a (by rw [q]; exact fun z => nomatch z) with z | z
      · exact absurd hm z
      · rw [h] at z; cases z
  · rcases y.dom a h with z | z
    · exact x.dom a z
    · cases q : H a with
      | none => exact .inr rfl
      | some o =>
        left
        intro hm
        have := x.fr a o q hm
        rw [z] at this; cases this
section
variable {K : PySem.W.Frag} {M M' : Mp} {H H' : Hp} {a : Addr}
theorem RM0.noTup {xs : List V} (m : RM0 K H M) (h : H a = some (.tup xs)) : M a = none := by
  cases q : M a with
  | none => rfl
  | some o =>
    have r := m a o q
    cases o with
    | lst ds => obtain ⟨_, e, _⟩ := r; rw [h] at e; cases e
    | dK ds => obtain ⟨_, e, _⟩ := r; rw [h] at e; cases e
    | dT ds => obtain ⟨_, e, _⟩ := r; rw [h] at e; cases e
    | dL o ks ds => obtain ⟨e, _⟩ := r; rw [h] at e; cases e
    | dM o ks ds => obtain ⟨e, _⟩ := r; rw [h] at e; cases e
    | ins C ds => obtain ⟨_, _, _, _, e, _⟩ := r; rw [h] at e; cases e
theorem RM0.noFrz {ob : Obj} {u : HO} (m : RM0 K H M) (h : H a = some (.frz ob u)) (hu : ∀ ks, u ≠ .dK ks) (hu2 : ∀ ks, u ≠ .dT ks := by exact fun _ z => nomatch z) : M a = none := by
  cases q : M a with
  | none => rfl
  | some o =>
    have r := m a o q
    cases o with
    | lst ds => obtain ⟨_, e, _⟩ := r; rw [h] at e; cases e
    | dK ds => obtain ⟨_, e, _⟩ := r; rw [h] at e; cases e
    | dT ds => obtain ⟨_, e, _⟩ := r; rw [h] at e; cases e
    | dL o ks ds => obtain ⟨e, _⟩ := r; rw [h] at e; cases e; exact absurd rfl (hu _)
    | dM o ks ds => obtain ⟨e, _⟩ := r; rw [h] at e; cases e; exact absurd rfl (hu2 _)
    | ins C ds => obtain ⟨_, _, _, _, e, _⟩ := r; rw [h] at e; cases e
theorem RM0.free (m : RM0 K H M) (h : H a = none) : M a = none := by
  cases q : M a with
  | none => rfl
  | some o =>
    have r := m a o q
    cases o with
    | lst ds => obtain ⟨_, e, _⟩ := r; rw [h] at e; cases e
    | dK ds => obtain ⟨_, e, _⟩ := r; rw [h] at e; cases e
    | dT ds => obtain ⟨_, e, _⟩ := r; rw [h] at e; cases e
    | dL o ks ds => obtain ⟨e, _⟩ := r; rw [h] at e; cases e
    | dM o ks ds => obtain ⟨e, _⟩ := r; rw [h] at e; cases e
    | ins C ds => obtain ⟨_, _, _, _, e, _⟩ := r; rw [h] at e; cases e
/-- what a value's reading leans on -/
def Still (K : PySem.W.Frag) (H H' : Hp) : Prop := (∀ a xs, SqT K H a xs → SqT K H' a xs) ∧ ∀ a xs, RoL K H a xs → RoL K H' a xs
theorem Still.refl : Still K H H := ⟨fun _ _ h => h, fun _ _ h => h⟩
theorem Still.trans {H1 H2 : Hp} (x : Still K H H1) (y : Still K H1 H2) : Still K H H2 := ⟨fun a xs h => y.1 a xs (x.1 a xs h), fun a xs h => y.2 a xs (x.2 a xs h)⟩
theorem Ext.still0 (x : Ext M M' H H') (m : RM0 K H M) : Still K H H' := by
  refine ⟨fun a xs h => ?_, fun a xs h => ?_⟩
  · rcases h with (h | ⟨o, h⟩) | h
    · exact .inl (.inl (x.fr a _ h (m.noTup h)))
    · exact .inl (.inr ⟨o, x.fr a _ h (m.noFrz h fun _ z => nomatch z)⟩)
    · exact .inr h
  · rcases h with ⟨o, h⟩ | h
    · exact .inl ⟨o, x.fr a _ h (m.noFrz h fun _ z => nomatch z)⟩
    · exact .inr h
mutual
theorem RD.still (s : Still K H H') : ∀ (d : D) (v : V), RD K H v d → RD K H' v d
  | .non, _, h => by cases h; exact .non
  | .bl b, _, h => by cases h; exact .bl b
  | .int i, _, h => by cases h; exact .int i
  | .str x, _, h => by cases h; exact .str x
  | .ref a, _, h => by cases h; exact .ref a
  | .ty n, _, h => by cases h; exact .ty n
  | .tup ds, _, h => by
    cases h with
    | tup h1 h2 => exact .tup (s.1 _ _ h1) (RDs.still s ds _ h2)
  | .rol ds, _, h => by
    cases h with
    | rol h1 h2 => exact .rol (s.2 _ _ h1) (RDs.still s ds _ h2)
theorem RDs.still (s : Still K H H') : ∀ (ds : List D) (vs : List V), RDs K H vs ds → RDs K H' vs ds
  | [], _, h => by cases h; exact .nil
  | d :: ds, _, h => by
    cases h with
    | cons h1 h2 => exact .cons (RD.still s d _ h1) (RDs.still s ds _ h2)
end
theorem RD.go {v : V} {d : D} (r : RD K H v d) (s : Still K H H') : RD K H' v d := RD.still s d v r
theorem RDs.go {vs : List V} {ds : List D} (r : RDs K H vs ds) (s : Still K H H') : RDs K H' vs ds := RDs.still s ds vs r
theorem RKv.go {κ : Type} (s : Still K H H') : ∀ {ks : List (κ × V)} {ds : List (κ × D)}, RKv K H ks ds → RKv K H' ks ds
  | [], [], _ => True.intro
  | (k, v) :: r, (j, d) :: q, h => ⟨h.1, h.2.1.go s, RKv.go s h.2.2⟩
  | [], _ :: _, h => h.elim
  | _ :: _, [], h => h.elim
theorem RO.go {o : MO} (r : RO K H a o) (s : Still K H H') (k : ∀ u, H a = some u → H' a = some u) : RO K H' a o := by
  cases o with
  | lst ds => obtain ⟨vs, e, q⟩ := r; exact ⟨vs, k _ e, q.go s⟩
  | dK ds => obtain ⟨vs, e, q⟩ := r; exact ⟨vs, k _ e, RKv.go s q⟩
  | dT ds => obtain ⟨vs, e, q⟩ := r; exact ⟨vs, k _ e, RKv.go s q⟩
  | dL o ks ds => obtain ⟨e, q⟩ := r; exact ⟨k _ e, RKv.go s q⟩
  | dM o ks ds => obtain ⟨e, q⟩ := r; exact ⟨k _ e, RKv.go s q⟩
  | ins n fs => obtain ⟨C, dx, vs, c, e, q⟩ := r; exact ⟨C, dx, vs, c, k _ e, RKv.go s q⟩
/-- all that was tracked is kept: M is as it was -/
theorem RM0.keep (m : RM0 K H M) (k : ∀ b u, H b = some u → H' b = some u) : Ext M M H H' ∧ RM0 K H' M := by
  have x : Ext M M H H' := ⟨fun b u h _ => k b u h, fun _ h => .inl h⟩
  exact ⟨x, fun b o h => (m b o h).go (x.still0 m) (k b)⟩
theorem RM0.upNew {p : Addr} {o : HO} (m : RM0 K H M) (hp : H p = none) : Ext M M H (upd H p o) ∧ RM0 K (upd H p o) M :=
  m.keep fun b u h => by rw [upd_ne (ne_of_none h hp)]; exact h
/-- a new object laid -/
theorem RM0.new {p : Addr} {o : HO} {mo : MO} (m : RM0 K H M) (hp : H p = none) (r : RO K (upd H p o) p mo) : Ext M (mset M p mo) H (upd H p o) ∧ RM0 K (upd H p o) (mset M p mo) := by
  have x0 : Ext M M H (upd H p o) := (m.upNew hp).1
  have x : Ext M (mset M p mo) H (upd H p o) := ⟨x0.fr, fun b h => by
    by_cases e : b = p
    · subst e; exact .inr hp
    · rw [mset_ne e] at h; exact .inl h⟩
  refine ⟨x, fun b u h => ?_⟩
  by_cases e : b = p
  · subst e; rw [mset_same] at h; cases h; exact r
  · rw [mset_ne e] at h
    exact (m.upNew hp).2 b u h
theorem RM0.newL {p : Addr} {vs : List V} {ds : List D} (m : RM0 K H M) (hp : H p = none) (r : RDs K H vs ds) : Ext M (mset M p (.lst ds)) H (upd H p (.lst vs)) ∧ RM0 K (upd H p (.lst vs)) (mset M p (.lst ds)) :=
  m.new hp ⟨vs, upd_same, r.go ((m.upNew hp).1.still0 m)⟩
/-- an object written -/
theorem RM0.put {p : Addr} {o : HO} {mo mo' : MO} (m : RM0 K H M) (hp : M p = some mo) (r : Still K H (upd H p o) → RO K (upd H p o) p mo') : Ext M (mset M p mo') H (upd H p o) ∧ RM0 K (upd H p o) (mset M p mo') := by
  have x : Ext M (mset M p mo') H (upd H p o) := by
    refine ⟨fun b u h hm => ?_, fun b h => ?_⟩
    · rw [upd_ne (by intro e; subst e; rw [hp] at hm; cases hm)]; exact h
    · by_cases e : b = p
      · subst e; left; rw [hp]; exact fun z => nomatch z
      · rw [mset_ne e] at h; exact .inl h
  refine ⟨x, fun b u h => ?_⟩
  by_cases e : b = p
  · subst e; rw [mset_same] at h; cases h; exact r (x.still0 m)
  · rw [mset_ne e] at h
    exact (m b u h).go (x.still0 m) fun v hv => by rw [upd_ne e]; exact hv
theorem RM0.putL {p : Addr} {vs : List V} {ds : List D} {mo : MO} (m : RM0 K H M) (hp : M p = some mo) (r : RDs K H vs ds) : Ext M (mset M p (.lst ds)) H (upd H p (.lst vs)) ∧ RM0 K (upd H p (.lst vs)) (mset M p (.lst ds)) :=
  m.put hp fun s => ⟨vs, upd_same, r.go s⟩
end
structure BS where
  ok : Mp → Hp → Prop
  go : ∀ {M M' : Mp} {H H' : Hp}, ok M H → Ext M M' H H' → ok M' H'
def bsOf (M : Mp) (H : Hp) : BS := ⟨fun M' H' => Ext M M' H H', fun a b => a.trans b⟩
structure RM (K : PySem.W.Frag) (bs : BS) (H : Hp) (M : Mp) : Prop where
  m : RM0 K H M
  b : bs.ok M H
section
variable {K : PySem.W.Frag} {bs : BS} {M M' : Mp} {H H' : Hp} {a : Addr}
theorem Ext.still (x : Ext M M' H H') (m : RM K bs H M) : Still K H H' := x.still0 m.m
theorem RM.go (m : RM K bs H M) (x : Ext M M' H H' ∧ RM0 K H' M') : Ext M M' H H' ∧ RM K bs H' M' := ⟨x.1, x.2, bs.go m.b x.1⟩
theorem RM.to (m : RM K bs H M) (x : Ext M M' H H') (m' : RM0 K H' M') : RM K bs H' M' := ⟨m', bs.go m.b x⟩
theorem RM.free (m : RM K bs H M) (h : H a = none) : M a = none := m.m.free h
theorem RM.keep (m : RM K bs H M) (k : ∀ b u, H b = some u → H' b = some u) : Ext M M H H' ∧ RM K bs H' M := m.go (m.m.keep k)
theorem RM.upNew {p : Addr} {o : HO} (m : RM K bs H M) (hp : H p = none) : Ext M M H (upd H p o) ∧ RM K bs (upd H p o) M := m.go (m.m.upNew hp)
theorem RM.new {p : Addr} {o : HO} {mo : MO} (m : RM K bs H M) (hp : H p = none) (r : RO K (upd H p o) p mo) : Ext M (mset M p mo) H (upd H p o) ∧ RM K bs (upd H p o) (mset M p mo) := m.go (m.m.new hp r)
theorem RM.newL {p : Addr} {vs : List V} {ds : List D} (m : RM K bs H M) (hp : H p = none) (r : RDs K H vs ds) : Ext M (mset M p (.lst ds)) H (upd H p (.lst vs)) ∧ RM K bs (upd H p (.lst vs)) (mset M p (.lst ds)) := m.go (m.m.newL hp r)
theorem RM.put {p : Addr} {o : HO} {mo mo' : MO} (m : RM K bs H M) (hp : M p = some mo) (r : Still K H (upd H p o) → RO K (upd H p o) p mo') : Ext M (mset M p mo') H (upd H p o) ∧ RM K bs (upd H p o) (mset M p mo') := m.go (m.m.put hp r)
theorem RM.putL {p : Addr} {vs : List V} {ds : List D} {mo : MO} (m : RM K bs H M) (hp : M p = some mo) (r : RDs K H vs ds) : Ext M (mset M p (.lst ds)) H (upd H p (.lst vs)) ∧ RM K bs (upd H p (.lst vs)) (mset M p (.lst ds)) := m.go (m.m.putL hp r)
theorem RM.at (m : RM K bs H M) {o : MO} (h : M a = some o) : RO K H a o := m.m a o h
end
section
variable {K : PySem.W.Frag} {H : Hp}
theorem RDs.length : ∀ {vs : List V} {ds : List D}, RDs K H vs ds → vs.length = ds.length
  | _, _, .nil => rfl
  | _, _, .cons _ t => by rw [List.length_cons, List.length_cons, t.length]
theorem RDs.get : ∀ {vs : List V} {ds : List D} {i : Nat} {d : D}, RDs K H vs ds → ds[i]? = some d → ∃ v, vs[i]? = some v ∧ RD K H v d
  | _, _, _, _, .nil, e => by simp at e
  | _, _, 0, _, .cons r _, e => by simp at e; subst e; exact ⟨_, rfl, r⟩
  | _, _, i + 1, d, .cons _ t, e => by
    obtain ⟨u, h1, h2⟩ := RDs.get (i := i) (d := d) t (by simpa using e)
    exact ⟨u, by simpa using h1, h2⟩
theorem RDs.app : ∀ {vs ws : List V} {ds es : List D}, RDs K H vs ds → RDs K H ws es → RDs K H (vs ++ ws) (ds ++ es)
  | _, _, _, _, .nil, s => s
  | _, _, _, _, .cons r t, s => .cons r (RDs.app t s)
theorem RDs.take : ∀ {vs : List V} {ds : List D} (n : Nat), RDs K H vs ds → RDs K H (vs.take n) (ds.take n)
  | _, _, 0, _ => .nil
  | _, _, _ + 1, .nil => .nil
  | _, _, n + 1, .cons r t => .cons r (RDs.take n t)
theorem RDs.drop : ∀ {vs : List V} {ds : List D} (n : Nat), RDs K H vs ds → RDs K H (vs.drop n) (ds.drop n)
  | _, _, 0, r => r
  | _, _, _ + 1, .nil => .nil
  | _, _, n + 1, .cons _ t => RDs.drop n t
theorem RDs.set {v : V} {d : D} (r : RD K H v d) : ∀ {vs : List V} {ds : List D} (i : Nat), RDs K H vs ds → RDs K H (vs.set i v) (ds.set i d)
  | _, _, _, .nil => .nil
  | _, _, 0, .cons _ t => .cons r t
  | _, _, i + 1, .cons q t => .cons q (RDs.set r i t)
theorem RDs.ofInts : ∀ (ns : List Int), RDs K H (ns.map V.int) (ns.map D.int)
  | [] => .nil
  | n :: ns => .cons (.int n) (RDs.ofInts ns)
end
abbrev St3 := List (Option D)
abbrev VK3 := D → Mp → Prop
abbrev TE3 := St3 → Mp → VK3 → Prop
abbrev TT3 := St3 → Mp → (Bool → Mp → Prop) → Prop
abbrev TA3 := St3 → Mp → (List D → Mp → Prop) → Prop
def getS : St3 → Nat → Option D
  | [], _ => none
  | x :: _, 0 => x
  | _ :: r, i + 1 => getS r i
def setS : St3 → Nat → Option D → St3
  | [], _, _ => []
  | _ :: r, 0, d => d :: r
  | x :: r, i + 1, d => x :: setS r i d
structure RE (K : PySem.W.Frag) (H : Hp) (σ : L2.St) (τ : St3) : Prop where
  len : σ.length = τ.length
  get : ∀ i d, getS τ i = some d → ∃ v, σ[i]? = some (some v) ∧ RD K H v d
theorem setS_len : ∀ (τ : St3) (i : Nat) (d : Option D), (setS τ i d).length = τ.length
  | [], _, _ => rfl
  | _ :: _, 0, _ => rfl
  | _ :: r, i + 1, d => by show (setS r i d).length + 1 = r.length + 1; rw [setS_len]
theorem getS_set : ∀ (τ : St3) (i j : Nat) (d : Option D), getS (setS τ i d) j = if j = i ∧ i < τ.length then d else getS τ j
  | [], i, j, d => by
    show none = _
    split
    · rename_i h; exact absurd h.2 (by simp)
    · rfl
  | x :: r, 0, 0, d => by simp [setS, getS]
  | x :: r, 0, j + 1, d => by simp [setS, getS]
  | x :: r, i + 1, 0, d => by simp [setS, getS]
  | x :: r, i + 1, j + 1, d => by
    show getS (setS r i d) j = _
    rw [getS_set r i j d]
    simp [getS]
theorem getS_lt : ∀ (τ : St3) (i : Nat) (d : D), getS τ i = some d → i < τ.length
  | [], _, _, h => by cases h
  | _ :: _, 0, _, _ => Nat.succ_pos _
  | _ :: r, i + 1, d, h => Nat.succ_lt_succ (getS_lt r i d h)
section
variable {K : PySem.W.Frag} {H H' : Hp} {σ : L2.St} {τ : St3}
theorem RE.go (r : RE K H σ τ) (s : Still K H H') : RE K H' σ τ := ⟨r.len, fun i d e => let ⟨v, a, b⟩ := r.get i d e; ⟨v, a, b.go s⟩⟩
theorem RE.set {i : Nat} {v : V} {d : D} (r : RE K H σ τ) (rv : RD K H v d) : RE K H (σ.set i (some v)) (setS τ i (some d)) := by
  refine ⟨by rw [List.length_set, setS_len]; exact r.len, fun j e h => ?_⟩
  rw [getS_set] at h
  split at h
  · rename_i q
    obtain ⟨rfl, q⟩ := q
    cases h
    exact ⟨v, by rw [List.getElem?_set_self (by rw [r.len]; exact q)], rv⟩
  · rename_i q
    obtain ⟨u, e1, e2⟩ := r.get j e h
    refine ⟨u, ?_, e2⟩
    by_cases hij : i = j
    · subst hij
      exact absurd ⟨rfl, getS_lt _ _ _ h⟩ q
    · rw [List.getElem?_set_ne hij]; exact e1
theorem RE.drop {i : Nat} (r : RE K H σ τ) (x : Option V) : RE K H (σ.set i x) (setS τ i none) := by
  refine ⟨by rw [List.length_set, setS_len]; exact r.len, fun j e h => ?_⟩
  rw [getS_set] at h
  split at h
  · cases h
  · rename_i q
    obtain ⟨u, e1, e2⟩ := r.get j e h
    refine ⟨u, ?_, e2⟩
    by_cases hij : i = j
    · subst hij
      exact absurd ⟨rfl, getS_lt _ _ _ h⟩ q
    · rw [List.getElem?_set_ne hij]; exact e1
def wipe3 (τ : St3) : List Nat → St3
  | [] => τ
  | v :: vs => setS (wipe3 τ vs) v none
theorem RE.wipe (r : RE K H σ τ) : ∀ vs : List Nat, RE K H (wipe σ vs) (wipe3 τ vs)
  | [] => r
  | v :: vs => by
    unfold wipe3 L2.wipe
    exact (RE.wipe r vs).drop none
end
def ite3 (b : Bool) (A B : Prop) : Prop := match b with
  | true => A
  | false => B
def asB (d : D) (k : Bool → Prop) : Prop := match d with
  | .bl b => k b
  | _ => False
def asI (d : D) (k : Int → Prop) : Prop := match d with
  | .int i => k i
  | _ => False
def asS (d : Option D) (k : D → Prop) : Prop := match d with
  | some d => k d
  | none => False
theorem ite3_t {A B : Prop} : ite3 true A B = A := rfl
theorem ite3_f {A B : Prop} : ite3 false A B = B := rfl
theorem asB_bl {b : Bool} {k : Bool → Prop} : asB (.bl b) k = k b := rfl
theorem asI_int {i : Int} {k : Int → Prop} : asI (.int i) k = k i := rfl
theorem asS_some {d : D} {k : D → Prop} : asS (some d) k = k d := rfl
theorem ite3_by {b : Bool} {A B : Prop} (h1 : b = true → A) (h2 : b = false → B) : ite3 b A B := by
  cases b with
  | true => exact h1 rfl
  | false => exact h2 rfl
section
variable (K : PySem.W.Frag) (bs : BS)
def lift (t : TE3) : TE := fun σ H Q => ∃ τ M Q3, RE K H σ τ ∧ RM K bs H M ∧ t τ M Q3 ∧
  ∀ v H' d M', Ext M M' H H' → RM K bs H' M' → RD K H' v d → Q3 d M' → Q v H'
def liftT (t : TT3) : TT := fun σ H Q => ∃ τ M Q3, RE K H σ τ ∧ RM K bs H M ∧ t τ M Q3 ∧
  ∀ b H' M', Ext M M' H H' → RM K bs H' M' → Q3 b M' → Q b H'
def liftA (t : TA3) : TA := fun σ H Q => ∃ τ M Q3, RE K H σ τ ∧ RM K bs H M ∧ t τ M Q3 ∧
  ∀ vs H' ds M', Ext M M' H H' → RM K bs H' M' → RDs K H' vs ds → Q3 ds M' → Q vs H'
abbrev R23 := D → D → Mp → VK3 → Prop
def lift2 (r : R23) : R2 := fun x y H Q => ∃ d e M Q3, RD K H x d ∧ RD K H y e ∧ RM K bs H M ∧ r d e M Q3 ∧
  ∀ v H' z M', Ext M M' H H' → RM K bs H' M' → RD K H' v z → Q3 z M' → Q v H'
def liftV (r : List D → Mp → VK3 → Prop) : List V → Hp → VK → Prop := fun xs H Q => ∃ ds M Q3, RDs K H xs ds ∧ RM K bs H M ∧ r ds M Q3 ∧
  ∀ v H' z M', Ext M M' H H' → RM K bs H' M' → RD K H' v z → Q3 z M' → Q v H'
end
def PE3 (bs : BS) (X : Cx) (e : Expr) (t : TE3) : Prop := PE X e (lift X.K bs t)
def PT3 (bs : BS) (X : Cx) (e : Expr) (t : TT3) : Prop := PT X e (liftT X.K bs t)
def PA3 (bs : BS) (X : Cx) (es : List Expr) (t : TA3) : Prop := PA X es (liftA X.K bs t)
end L3
namespace L2
open PySem PySem.Spec PyProof.Rows
theorem PE.weak {X : Cx} {e : Expr} {t t' : TE} (h : PE X e t) (i : ∀ σ H Q, t' σ H Q → t σ H Q) : PE X e t' := ⟨fun pins s σ H Q I q => h.run pins s σ H Q I (i σ H Q q)⟩
theorem PT.weak {X : Cx} {e : Expr} {t t' : TT} (h : PT X e t) (i : ∀ σ H Q, t' σ H Q → t σ H Q) : PT X e t' := ⟨fun pins s σ H Q I q => h.run pins s σ H Q I (i σ H Q q)⟩
theorem PW.weak {X : Cx} {e : Expr} {t t' : TT} (h : PW X e t) (i : ∀ σ H Q, t' σ H Q → t σ H Q) : PW X e t' := ⟨fun wh pins s σ H Q I q => h.run wh pins s σ H Q I (i σ H Q q)⟩
theorem PA.weak {X : Cx} {e : List Expr} {t t' : TA} (h : PA X e t) (i : ∀ σ H Q, t' σ H Q → t σ H Q) : PA X e t' := ⟨fun pos pins s σ H Q I q => h.run pos pins s σ H Q I (i σ H Q q)⟩
theorem PS.weak {X : Cx} {e : Stmt} {t t' : TS} (h : PS X e t) (i : ∀ D σ H, t' D σ H → t D σ H) : PS X e t' := ⟨fun pins s σ H D I q => h.run pins s σ H D I (i D σ H q)⟩
theorem PSs.weak {X : Cx} {e : List Stmt} {t t' : TS} (h : PSs X e t) (i : ∀ D σ H, t' D σ H → t D σ H) : PSs X e t' := ⟨fun pins s σ H D I q => h.run pins s σ H D I (i D σ H q)⟩
theorem PG.weak {X : Cx} {e : Expr} {t t' : TG} (h : PG X e t) (i : ∀ v σ H Q, t' v σ H Q → t v σ H Q) : PG X e t' := ⟨fun pins s σ H v u Q I r q => h.run pins s σ H v u Q I r (i v σ H Q q)⟩
theorem PGs.weak {X : Cx} {e : List Expr} {t t' : TGs} (h : PGs X e t) (i : ∀ v σ H Q, t' v σ H Q → t v σ H Q) : PGs X e t' := ⟨fun pins s σ H v u Q I r q => h.run pins s σ H v u Q I r (i v σ H Q q)⟩
theorem PI.weak {X : Cx} {g e : Expr} {t t' : TI} (h : PI X g e t) (i : ∀ σ H R, t' σ H R → t σ H R) : PI X g e t' := ⟨fun pins s σ H R I q => h.run pins s σ H R I (i σ H R q)⟩
theorem OpR.weak {X : Cx} {f : Value → Value → Sem Value} {r r' : R2} (h : OpR X f r) (i : ∀ x y H Q, r' x y H Q → r x y H Q) : OpR X f r' :=
  fun pins s σ H x y v u Q I rx ry q => h pins s σ H x y v u Q I rx ry (i x y H Q q)
theorem CallR.weak {X : Cx} {f : Value} {r r' : List V → Hp → VK → Prop} (h : CallR X f r) (i : ∀ xs H Q, r' xs H Q → r xs H Q) : CallR X f r' :=
  fun pins s σ H xs us Q I rx q => h pins s σ H xs us Q I rx (i xs H Q q)
end L2
namespace L3
open PySem PySem.Spec PyProof.Rows L2
section
variable {bs : BS} {X : Cx} {a b c : Expr} {ta tb tc : TE3} {pos : Pos}
def wC (d : D) : TE3 := fun _ M Q => Q d M
def wVar (i : Nat) : TE3 := fun τ M Q => asS (getS τ i) fun d => Q d M
theorem e_c {v : V} {d : D} (h : PE X a (tC v)) (r : ∀ H, RD X.K H v d) : PE3 bs X a (wC d) :=
  h.weak fun σ H Q ⟨τ, M, Q3, e, m, q, k⟩ => k v H d M .refl m (r H) q
theorem e_int {i j} : PE3 bs X (.Constant (.int i) j pos) (wC (.int i)) := e_c pe_int fun _ => .int i
theorem e_bl {i j} : PE3 bs X (.Constant (.bool i) j pos) (wC (.bl i)) := e_c pe_bl fun _ => .bl i
theorem e_non {j} : PE3 bs X (.Constant .none j pos) (wC .non) := e_c pe_non fun _ => .non
theorem e_str {x j} : PE3 bs X (.Constant (.str x) j pos) (wC (.str x)) := e_c pe_str fun _ => .str x
theorem e_var (i : Nat) (h : PE X a (tVar i)) : PE3 bs X a (wVar i) :=
  h.weak fun σ H Q ⟨τ, M, Q3, e, m, q, k⟩ => by
    unfold wVar at q
    cases hd : getS τ i with
    | none => rw [hd] at q; exact False.elim q
    | some d =>
      rw [hd] at q
      obtain ⟨v, hv, r⟩ := e.get i d hd
      exact ⟨v, hv, k v H d M .refl m r q⟩
theorem ev (i : Nat) {x : Str} {pos : Pos} (hN : X.N[i]? = some x := by rfl) (hv : Vis X.env.scope x := by first | exact Or.inl rfl | exact Or.inr (Or.inl rfl) | exact Or.inr (Or.inr rfl)) (hd : (x == ("__debug__" : Str)) = false := by decide)
    (hcd : (x == ("__classdict__" : Str)) = false := by decide) : PE3 bs X (.Name x pos) (wVar i) := e_var i (pe_var hN hv hd hcd)
def wOp (r : R23) (ta tb : TE3) : TE3 := fun τ M Q => ta τ M fun x M1 => tb τ M1 fun y M2 => r x y M2 Q
theorem lift_op {r : R23} : ∀ σ H Q, lift X.K bs (wOp r ta tb) σ H Q → tOp (lift2 X.K bs r) (lift X.K bs ta) (lift X.K bs tb) σ H Q := by
  rintro σ H Q ⟨τ, M, Q3, e, m, q, k⟩
  refine ⟨τ, M, _, e, m, q, fun x H1 d M1 x1 m1 r1 q1 => ⟨τ, M1, _, e.go (x1.still m), m1, q1, fun y H2 d2 M2 x2 m2 r2 q2 => ?_⟩⟩
  exact ⟨d, d2, M2, Q3, r1.go (x2.still m1), r2, m2, q2, fun v H' z M' x3 m3 r3 q3 => k v H' z M' (x1.trans (x2.trans x3)) m3 r3 q3⟩
theorem e_op {op : Operator} {r : R23} (ho : OpR X (binaryOp op) (lift2 X.K bs r)) (ha : PE3 bs X a ta) (hb : PE3 bs X b tb) : PE3 bs X (.BinOp a op b pos) (wOp r ta tb) := (pe_op ho ha hb).weak lift_op
theorem e_cmp {op : CmpOp} {r : R23} (ho : OpR X (compareOp op) (lift2 X.K bs r)) (ha : PE3 bs X a ta) (hb : PE3 bs X b tb) (hm : behindInMarks op b = false) : PE3 bs X (.Compare a [op] [b] pos) (wOp r ta tb) := (pe_cmpR ho ha hb hm).weak lift_op
/-- a value as a test: a truth -/
def wB (t : TE3) : TT3 := fun τ M Q => t τ M fun d M' => asB d fun k => Q k M'
theorem lift_b : ∀ σ H Q, liftT X.K bs (wB ta) σ H Q → tB (lift X.K bs ta) σ H Q := by
  rintro σ H Q ⟨τ, M, Q3, e, m, q, k⟩
  refine ⟨τ, M, _, e, m, q, fun x H1 d M1 x1 m1 r1 q1 => ?_⟩
  cases d with
  | bl z =>
    cases r1
    exact ⟨z, rfl, k z H1 M1 x1 m1 q1⟩
  | _ => exact False.elim q1
theorem lift_tt {r : R23} : ∀ σ H Q, liftT X.K bs (wB (wOp r ta tb)) σ H Q → tTest (tOp (lift2 X.K bs r) (lift X.K bs ta) (lift X.K bs tb)) σ H Q := by
  rintro σ H Q ⟨τ, M, Q3, e, m, q, k⟩
  refine lift_op (r := r) σ H _ ⟨τ, M, _, e, m, q, fun x H1 d M1 x1 m1 r1 q1 => ?_⟩
  cases d with
  | bl z =>
    cases r1
    exact ⟨z, rfl, k z H1 M1 x1 m1 q1⟩
  | _ => exact False.elim q1
theorem t_cmp {op : CmpOp} {r : R23} (ho : OpR X (compareOp op) (lift2 X.K bs r)) (ha : PE3 bs X a ta) (hb : PE3 bs X b tb) (hm : behindInMarks op b = false) : PT3 bs X (.Compare a [op] [b] pos) (wB (wOp r ta tb)) := (pt_cmpR ho ha hb hm).weak lift_tt
theorem t_val (h : PE3 bs X a ta) (he : ∀ whole, isTrue a X.env whole = (do let v ← whole; standAt a.pos; holding [v] (truthy v)) := by intro _; rfl) : PT3 bs X a (wB ta) := (pt_val h he).weak lift_b
/-- a op b op' c -/
def wChain (r r' : R23) (ta tb tc : TE3) : TE3 := fun τ M Q => ta τ M fun x M1 => tb τ M1 fun y M2 => r x y M2 fun z M3 => asB z fun c => ite3 c (tc τ M3 fun w M4 => r' y w M4 Q) (Q (.bl false) M3)
variable {A B : TT3} {rest : List Expr}
def wAnd (t u : TT3) : TT3 := fun τ M Q => t τ M fun c M1 => ite3 c (u τ M1 Q) (Q false M1)
def wOr (t u : TT3) : TT3 := fun τ M Q => t τ M fun c M1 => ite3 c (Q true M1) (u τ M1 Q)
def wNot (t : TT3) : TT3 := fun τ M Q => t τ M fun c M1 => Q (!c) M1
def PW3 (bs : BS) (X : Cx) (e : Expr) (t : TT3) : Prop := PW X e (liftT X.K bs t)
theorem PW3.pt {e : Expr} {t : TT3} (h : PW3 bs X e t) : PT3 bs X e t := PW.pt h
theorem t_and1 (ha : PT3 bs X a A) : PW3 bs X (.BoolOp .And [a] pos) A := pw_and1 ha
theorem t_or1 (ha : PT3 bs X a A) : PW3 bs X (.BoolOp .Or [a] pos) A := pw_or1 ha
theorem t_and (ha : PT3 bs X a A) (hb : PW3 bs X (.BoolOp .And (b :: rest) pos) B) : PW3 bs X (.BoolOp .And (a :: b :: rest) pos) (wAnd A B) := by
  refine (pw_and ha hb).weak ?_
  rintro σ H Q ⟨τ, M, Q3, e, m, q, k⟩
  refine ⟨τ, M, _, e, m, q, fun z H1 M1 x1 m1 q1 => ?_⟩
  cases z with
  | true => exact iteT ⟨τ, M1, Q3, e.go (x1.still m), m1, q1, fun z H' M' x2 m2 q2 => k z H' M' (x1.trans x2) m2 q2⟩
  | false => exact iteF (k false H1 M1 x1 m1 q1)
theorem t_or (ha : PT3 bs X a A) (hb : PW3 bs X (.BoolOp .Or (b :: rest) pos) B) : PW3 bs X (.BoolOp .Or (a :: b :: rest) pos) (wOr A B) := by
  refine (pw_or ha hb).weak ?_
  rintro σ H Q ⟨τ, M, Q3, e, m, q, k⟩
  refine ⟨τ, M, _, e, m, q, fun z H1 M1 x1 m1 q1 => ?_⟩
  cases z with
  | true => exact iteT (k true H1 M1 x1 m1 q1)
  | false => exact iteF ⟨τ, M1, Q3, e.go (x1.still m), m1, q1, fun z H' M' x2 m2 q2 => k z H' M' (x1.trans x2) m2 q2⟩
theorem t_not (ha : PT3 bs X a A) : PT3 bs X (.UnaryOp .Not a pos) (wNot A) := by
  refine (pt_not ha).weak ?_
  rintro σ H Q ⟨τ, M, Q3, e, m, q, k⟩
  exact ⟨τ, M, _, e, m, q, fun z H1 M1 x1 m1 q1 => k (!z) H1 M1 x1 m1 q1⟩
def wAndV (ta tb : TE3) : TE3 := fun τ M Q => ta τ M fun x M1 => asB x fun c => ite3 c (tb τ M1 Q) (Q (.bl false) M1)
def wOrV (ta tb : TE3) : TE3 := fun τ M Q => ta τ M fun x M1 => asB x fun c => ite3 c (Q (.bl true) M1) (tb τ M1 Q)
def wNotV (ta : TE3) : TE3 := fun τ M Q => ta τ M fun x M1 => asB x fun c => Q (.bl (!c)) M1
theorem e_one {op} (h : PE3 bs X a ta) : PE3 bs X (.BoolOp op [a] pos) ta := pe_one h
theorem e_and (ha : PE3 bs X a ta) (hb : PE3 bs X (.BoolOp .And (b :: rest) pos) tb) : PE3 bs X (.BoolOp .And (a :: b :: rest) pos) (wAndV ta tb) := by
  refine (pe_and ha hb).weak ?_
  rintro σ H Q ⟨τ, M, Q3, e, m, q, k⟩
  refine ⟨τ, M, _, e, m, q, fun z H1 d M1 x1 m1 r1 q1 => ?_⟩
  cases d with
  | bl t =>
    cases r1
    cases t with
    | true => exact ⟨true, rfl, iteT ⟨τ, M1, Q3, e.go (x1.still m), m1, q1, fun z H' d M' x2 m2 r2 q2 => k z H' d M' (x1.trans x2) m2 r2 q2⟩⟩
    | false => exact ⟨false, rfl, iteF (k _ H1 _ M1 x1 m1 (.bl _) q1)⟩
  | _ => exact False.elim q1
def wIf (c : TT3) (ta tb : TE3) : TE3 := fun τ M Q => c τ M fun z M1 => ite3 z (ta τ M1 Q) (tb τ M1 Q)
theorem e_if (hc : PT3 bs X c A) (ha : PE3 bs X a ta) (hb : PE3 bs X b tb) : PE3 bs X (.IfExp c a b pos) (wIf A ta tb) := by
  refine (pe_ifExp hc ha hb).weak ?_
  rintro σ H Q ⟨τ, M, Q3, e, m, q, k⟩
  refine ⟨τ, M, _, e, m, q, fun z H1 M1 x1 m1 q1 => ?_⟩
  cases z with
  | true => exact iteT ⟨τ, M1, Q3, e.go (x1.still m), m1, q1, fun z H' d M' x2 m2 r2 q2 => k z H' d M' (x1.trans x2) m2 r2 q2⟩
  | false => exact iteF ⟨τ, M1, Q3, e.go (x1.still m), m1, q1, fun z H' d M' x2 m2 r2 q2 => k z H' d M' (x1.trans x2) m2 r2 q2⟩
variable {es : List Expr} {t : TA3}
def wNil : TA3 := fun _ M Q => Q [] M
def wCons (ta : TE3) (tr : TA3) : TA3 := fun τ M Q => ta τ M fun x M1 => tr τ M1 fun xs M2 => Q (x :: xs) M2
theorem a_nil : PA3 bs X [] wNil := pa_nil.weak fun σ H Q ⟨τ, M, Q3, e, m, q, k⟩ => k [] H [] M .refl m .nil q
theorem a_cons (ha : PE3 bs X a ta) (hr : PA3 bs X es t) (hs : starEach (a :: es) X.env = (false, eval a X.env) :: starEach es X.env := by rfl) : PA3 bs X (a :: es) (wCons ta t) := by
  refine PA.weak (pa_cons ha hr hs) ?_
  rintro σ H Q ⟨τ, M, Q3, e, m, q, k⟩
  refine ⟨τ, M, _, e, m, q, fun z H1 d M1 x1 m1 r1 q1 => ⟨τ, M1, _, e.go (x1.still m), m1, q1, fun zs H2 ds M2 x2 m2 r2 q2 => ?_⟩⟩
  exact k _ H2 _ M2 (x1.trans x2) m2 (.cons (r1.go (x2.still m1)) r2) q2
def wTup (t : TA3) : TE3 := fun τ M Q => t τ M fun xs M1 => xs.length ≤ sizeLine ∧ Q (.tup xs) M1
def wLst (t : TA3) : TE3 := fun τ M Q => t τ M fun xs M1 => xs.length ≤ sizeLine ∧ ∀ p, M1 p = none → Q (.ref p) (mset M1 p (.lst xs))
theorem e_tup {x1} (h : PA3 bs X es t) : PE3 bs X (.Tuple es x1 pos) (wTup t) := by
  refine PE.weak (pe_tup h) ?_
  rintro σ H Q ⟨τ, M, Q3, e, m, q, k⟩
  refine ⟨τ, M, _, e, m, q, fun zs H1 ds M1 x1 m1 r1 q1 => ⟨by rw [r1.length]; exact q1.1, fun p hp => ?_⟩⟩
  obtain ⟨x2, m2⟩ := m1.upNew (o := .tup zs) hp
  exact k _ _ (.tup ds) M1 (x1.trans x2) m2 (.tup (SqT.of upd_same) (r1.go (x2.still m1))) q1.2
theorem e_lst (h : PA3 bs X es t) : PE3 bs X (.List es pos) (wLst t) := by
  refine PE.weak (pe_lst h) ?_
  rintro σ H Q ⟨τ, M, Q3, e, m, q, k⟩
  refine ⟨τ, M, _, e, m, q, fun zs H1 ds M1 x1 m1 r1 q1 => ⟨by rw [r1.length]; exact q1.1, fun p hp => ?_⟩⟩
  obtain ⟨x2, m2⟩ := m1.newL hp r1
  exact k _ _ (.ref p) _ (x1.trans x2) m2 (.ref p) (q1.2 p (m1.free hp))
/-- a built-in's call by values -/
def wCB (r : List D → Mp → VK3 → Prop) (t : TA3) : TE3 := fun τ M Q => t τ M fun ds M1 => r ds M1 Q
theorem lift_cb {r : List D → Mp → VK3 → Prop} : ∀ σ H Q, lift X.K bs (wCB r t) σ H Q → tCB (liftV X.K bs r) (liftA X.K bs t) σ H Q := by
  rintro σ H Q ⟨τ, M, Q3, e, m, q, k⟩
  refine ⟨τ, M, _, e, m, q, fun zs H1 ds M1 x1 m1 r1 q1 => ?_⟩
  exact ⟨ds, M1, Q3, r1, m1, q1, fun v H' z M' x2 m2 r2 q2 => k v H' z M' (x1.trans x2) m2 r2 q2⟩
end
end L3
set_option Elab.async false
set_option linter.all false
set_option maxRecDepth 100000
set_option maxHeartbeats 4000000
namespace L3
open PySem PySem.Spec PyProof.Rows L2
/-- what is wanted behind a statement -/
structure Ends3 where
  nx : St3 → Mp → Prop
  rt : VK3
  bk : St3 → Mp → Prop := fun _ _ => False
  ct : St3 → Mp → Prop := fun _ _ => False
abbrev TS3 := Ends3 → St3 → Mp → Prop
abbrev TG3 := D → St3 → Mp → (St3 → Mp → Prop) → Prop
abbrev TGs3 := List D → St3 → Mp → (St3 → Mp → Prop) → Prop
/-- σ' is σ but at some places -/
def But (ix : List Nat) (σ σ' : L2.St) : Prop := σ'.length = σ.length ∧ ∀ i, i ∉ ix → σ'[i]? = σ[i]?
theorem But.refl {ix : List Nat} {σ : L2.St} : But ix σ σ := ⟨rfl, fun _ _ => rfl⟩
theorem But.trans {ix : List Nat} {σ σ1 σ2 : L2.St} (a : But ix σ σ1) (b : But ix σ1 σ2) : But ix σ σ2 := ⟨b.1.trans a.1, fun i h => (b.2 i h).trans (a.2 i h)⟩
theorem But.more {ix iy : List Nat} {σ σ1 : L2.St} (a : But ix σ σ1) (h : ∀ i ∈ ix, i ∈ iy) : But iy σ σ1 := ⟨a.1, fun i hi => a.2 i fun z => hi (h i z)⟩
theorem wipe_at (σ : L2.St) (i : Nat) : ∀ vs : List Nat, i ∈ vs → i < σ.length → (L2.wipe σ vs)[i]? = some none
  | [], h, _ => by simp at h
  | v :: vs, h, hl => by
    unfold L2.wipe
    by_cases e : v = i
    · subst e
      rw [List.getElem?_set_self (by rw [L2.wipe_length]; exact hl)]
    · rw [List.getElem?_set_ne e]
      rcases List.mem_cons.mp h with z | z
      · exact absurd z.symm e
      · exact wipe_at σ i vs z hl
theorem wipe_off (σ : L2.St) (i : Nat) (vs : List Nat) (h : i ∉ vs) : (L2.wipe σ vs)[i]? = σ[i]? := L2.wipe_out h
theorem But.wipe {ix vs : List Nat} {σ σ' : L2.St} (b : But ix σ σ') (h : ∀ i ∈ ix, i ∈ vs) : L2.wipe σ' vs = L2.wipe σ vs := by
  refine List.ext_getElem? fun i => ?_
  by_cases hi : i ∈ vs
  · by_cases hl : i < σ.length
    · rw [wipe_at σ i vs hi hl, wipe_at σ' i vs hi (by rw [b.1]; exact hl)]
    · rw [List.getElem?_eq_none (by rw [L2.wipe_length, b.1]; omega), List.getElem?_eq_none (by rw [L2.wipe_length]; omega)]
  · rw [wipe_off σ' i vs hi, wipe_off σ i vs hi]
    exact b.2 i fun z => hi (h i z)
theorem wipe_wipe (σ : L2.St) (vs : List Nat) : L2.wipe (L2.wipe σ vs) vs = L2.wipe σ vs := by
  refine List.ext_getElem? fun i => ?_
  by_cases hi : i ∈ vs
  · by_cases hl : i < σ.length
    · rw [wipe_at _ i vs hi (by rw [L2.wipe_length]; exact hl), wipe_at σ i vs hi hl]
    · rw [List.getElem?_eq_none (by rw [L2.wipe_length, L2.wipe_length]; omega), List.getElem?_eq_none (by rw [L2.wipe_length]; omega)]
  · rw [wipe_off _ i vs hi]
section
variable (K : PySem.W.Frag) (bs : BS)
def liftS (t : TS3) : TS := fun D σ H => ∃ τ M D3, RE K H σ τ ∧ RM K bs H M ∧ t D3 τ M ∧
  (∀ σ' τ' H' M', Ext M M' H H' → RE K H' σ' τ' → RM K bs H' M' → D3.nx τ' M' → D.nx σ' H') ∧
  (∀ v d H' M', Ext M M' H H' → RM K bs H' M' → RD K H' v d → D3.rt d M' → D.rt v H') ∧
  (∀ σ' τ' H' M', Ext M M' H H' → RE K H' σ' τ' → RM K bs H' M' → D3.bk τ' M' → D.bk σ' H') ∧
  (∀ σ' τ' H' M', Ext M M' H H' → RE K H' σ' τ' → RM K bs H' M' → D3.ct τ' M' → D.ct σ' H')
def liftG (ix : List Nat) (g : TG3) : TG := fun v σ H Q => ∃ d τ M Q3, RD K H v d ∧ RE K H σ τ ∧ RM K bs H M ∧ g d τ M Q3 ∧
  ∀ σ' τ' H' M', Ext M M' H H' → But ix σ σ' → RE K H' σ' τ' → RM K bs H' M' → Q3 τ' M' → Q σ' H'
def liftGs (ix : List Nat) (g : TGs3) : TGs := fun vs σ H Q => ∃ ds τ M Q3, RDs K H vs ds ∧ RE K H σ τ ∧ RM K bs H M ∧ g ds τ M Q3 ∧
  ∀ σ' τ' H' M', Ext M M' H H' → But ix σ σ' → RE K H' σ' τ' → RM K bs H' M' → Q3 τ' M' → Q σ' H'
end
def PS3 (bs : BS) (X : Cx) (st : Stmt) (t : TS3) : Prop := PS X st (liftS X.K bs t)
def PSs3 (bs : BS) (X : Cx) (st : List Stmt) (t : TS3) : Prop := PSs X st (liftS X.K bs t)
def PG3 (bs : BS) (X : Cx) (e : Expr) (ix : List Nat) (g : TG3) : Prop := PG X e (liftG X.K bs ix g)
def PGs3 (bs : BS) (X : Cx) (es : List Expr) (ix : List Nat) (g : TGs3) : Prop := PGs X es (liftGs X.K bs ix g)
section
variable {bs : BS} {X : Cx} {st : Stmt} {sts : List Stmt} {t u : TS3} {e : Expr} {te : TE3} {pos : Pos}
def wNext : TS3 := fun D τ M => D.nx τ M
def wSeq (t u : TS3) : TS3 := fun D τ M => t { D with nx := u D } τ M
theorem ss_nil : PSs3 bs X [] wNext := pss_nil.weak fun D σ H ⟨τ, M, D3, e, m, q, k, _⟩ => k σ τ H M .refl e m q
theorem ss_cons (h1 : PS3 bs X st t) (h2 : PSs3 bs X sts u) : PSs3 bs X (st :: sts) (wSeq t u) := by
  refine PSs.weak (pss_cons h1 h2) ?_
  rintro D σ H ⟨τ, M, D3, e, m, q, kn, kr, kb, kc⟩
  refine ⟨τ, M, _, e, m, q, fun σ' τ' H' M' x e1 m1 q1 => ⟨τ', M', D3, e1, m1, q1, ?_, ?_, ?_, ?_⟩, kr, kb, kc⟩
  · exact fun σ2 τ2 H2 M2 x2 => kn σ2 τ2 H2 M2 (x.trans x2)
  · exact fun v d H2 M2 x2 => kr v d H2 M2 (x.trans x2)
  · exact fun σ2 τ2 H2 M2 x2 => kb σ2 τ2 H2 M2 (x.trans x2)
  · exact fun σ2 τ2 H2 M2 x2 => kc σ2 τ2 H2 M2 (x.trans x2)
theorem ss_one (h1 : PS3 bs X st t) : PSs3 bs X [st] t := pss_one h1
def wDrop (te : TE3) : TS3 := fun D τ M => te τ M fun _ M1 => D.nx τ M1
theorem s_expr (he : PE3 bs X e te) (hs : swapsWith e none pos.line X.env = pure false := by rfl) : PS3 bs X (.Expr e pos) (wDrop te) := by
  refine PS.weak (ps_expr he hs) ?_
  rintro D σ H ⟨τ, M, D3, e, m, q, kn, _⟩
  exact ⟨τ, M, _, e, m, q, fun v H' d M' x m1 r q1 => kn σ τ H' M' x (e.go (x.still m)) m1 q1⟩
def wRet (te : TE3) : TS3 := fun D τ M => te τ M D.rt
theorem s_ret (he : PE3 bs X e te) : PS3 bs X (.Return (some e) pos) (wRet te) := by
  refine PS.weak (ps_ret he) ?_
  rintro D σ H ⟨τ, M, D3, e, m, q, _, kr, _⟩
  exact ⟨τ, M, _, e, m, q, fun v H' d M' x m1 r q1 => kr v d H' M' x m1 r q1⟩
def wIfS (c : TT3) (t u : TS3) : TS3 := fun D τ M => c τ M fun b M1 => ite3 b (t D τ M1) (u D τ M1)
theorem s_if {c : Expr} {a b : List Stmt} {tc : TT3} (hc : PT3 bs X c tc) (ha : PSs3 bs X a t) (hb : PSs3 bs X b u) : PS3 bs X (.If c a b pos) (wIfS tc t u) := by
  refine PS.weak (ps_if hc ha hb) ?_
  rintro D σ H ⟨τ, M, D3, e, m, q, kn, kr, kb, kc⟩
  refine ⟨τ, M, _, e, m, q, fun z H1 M1 x m1 q1 => ?_⟩
  have L : ∀ t : TS3, t D3 τ M1 → liftS X.K bs t D σ H1 := fun t q => ⟨τ, M1, D3, e.go (x.still m), m1, q, fun σ2 τ2 H2 M2 x2 => kn σ2 τ2 H2 M2 (x.trans x2), fun v d H2 M2 x2 => kr v d H2 M2 (x.trans x2),
    fun σ2 τ2 H2 M2 x2 => kb σ2 τ2 H2 M2 (x.trans x2), fun σ2 τ2 H2 M2 x2 => kc σ2 τ2 H2 M2 (x.trans x2)⟩
  cases z with
  | true => exact iteT (L t q1)
  | false => exact iteF (L u q1)
def wSet (i : Nat) (te : TE3) : TS3 := fun D τ M => te τ M fun d M1 => D.nx (setS τ i (some d)) M1
theorem lift_set {i : Nat} : ∀ D σ H, liftS X.K bs (wSet i te) D σ H → tAsg (lift X.K bs te) (gName i) D σ H := by
  rintro D σ H ⟨τ, M, D3, e, m, q, kn, _⟩
  exact ⟨τ, M, _, e, m, q, fun v H' d M' x m1 r q1 => kn _ _ H' M' x ((e.go (x.still m)).set r) m1 q1⟩
theorem s_set {i : Nat} {x : Str} {pos' : Pos} (hN : X.N.Nodup) (hi : X.N[i]? = some x) (hx : Loc X.env.scope x) (he : PE3 bs X e te) (hs : swapsWith e (some (.Name x pos')) pos.line X.env = pure false := by rfl)
    (hf : X.fn x = true ∨ X.env.scope.names.lookup x = some .local := by first | exact .inl rfl | exact .inr rfl | assumption) : PS3 bs X (.Assign [.Name x pos'] e pos) (wSet i te) :=
  PS.weak (ps_set hN hi hx he hs hf) lift_set
def wgName (i : Nat) : TG3 := fun d τ M Q => Q (setS τ i (some d)) M
theorem g_name {i : Nat} {x : Str} (hN : X.N.Nodup) (hi : X.N[i]? = some x) (hx : Loc X.env.scope x) (hf : X.fn x = true ∨ X.env.scope.names.lookup x = some .local := by first | exact .inl rfl | exact .inr rfl | assumption) : PG3 bs X (.Name x pos) [i] (wgName i) := by
  refine PG.weak (pg_name hN hi hx hf) ?_
  rintro v σ H Q ⟨d, τ, M, Q3, r, e, m, q, k⟩
  exact k _ _ H M .refl ⟨List.length_set, fun j hj => List.getElem?_set_ne (fun z => hj (by simp [z]))⟩ (e.set r) m q
def wgNil : TGs3 := fun ds τ M Q => match ds with
  | [] => Q τ M
  | _ => False
def wgCons (t : TG3) (u : TGs3) : TGs3 := fun ds τ M Q => match ds with
  | d :: r => t d τ M fun τ' M' => u r τ' M' Q
  | [] => False
theorem gs_nil : PGs3 bs X [] [] wgNil := by
  refine PGs.weak pgs_nil ?_
  rintro vs σ H Q ⟨ds, τ, M, Q3, r, e, m, q, k⟩
  cases ds with
  | nil => cases r; exact ⟨rfl, k _ _ H M .refl .refl e m q⟩
  | cons _ _ => exact False.elim q
theorem gs_cons {g : Expr} {gs : List Expr} {ix iy : List Nat} {t : TG3} {u : TGs3} (h1 : PG3 bs X g ix t) (h2 : PGs3 bs X gs iy u)
    (hs : (assignEach (g :: gs) X.env).map (·.2) = assign g X.env :: (assignEach gs X.env).map (·.2) := by rfl) : PGs3 bs X (g :: gs) (ix ++ iy) (wgCons t u) := by
  refine PGs.weak (pgs_cons h1 h2 hs) ?_
  rintro vs σ H Q ⟨ds, τ, M, Q3, r, e, m, q, k⟩
  cases ds with
  | nil => exact False.elim q
  | cons d ds =>
    cases r with
    | cons r1 r2 =>
      refine ⟨_, _, rfl, d, τ, M, _, r1, e, m, q, fun σ1 τ1 H1 M1 x b e1 m1 q1 => ?_⟩
      exact ⟨ds, τ1, M1, Q3, r2.go (x.still m), e1, m1, q1, fun σ2 τ2 H2 M2 x2 b2 e2 m2 q2 =>
        k σ2 τ2 H2 M2 (x.trans x2) ((b.more fun i h => List.mem_append_left _ h).trans (b2.more fun i h => List.mem_append_right _ h)) e2 m2 q2⟩
/-- (a, b, ..) = a tuple; ds of that length is what t asks -/
theorem g_tup {es : List Expr} {k n : Nat} {ix : List Nat} {t : TGs3} (hc : X.calm = true) (h : PGs3 bs X es ix t)
    (hn : (assignEach es X.env).length = n := by rfl) (hst : (assignEach es X.env).findIdx? (·.1) = none := by rfl) : PG3 bs X (.Tuple es k pos) ix (fun d τ M Q => match d with
      | .tup ds => ds.length = n ∧ t ds τ M Q
      | _ => False) := by
  refine PG.weak (pg_tup hc h hn hst) ?_
  rintro v σ H Q ⟨d, τ, M, Q3, r, e, m, q, k⟩
  cases d with
  | tup ds =>
    cases r with
    | tup h1 h2 => exact ⟨_, _, rfl, h1, by rw [h2.length]; exact q.1, ds, τ, M, Q3, h2, e, m, q.2, k⟩
  | _ => exact False.elim q
/-- o[i] = v by values -/
abbrev TSet3 := D → D → D → Mp → (Mp → Prop) → Prop
def liftSet (K : PySem.W.Frag) (bs : BS) (t : TSet3) : TSet := fun o i v H Q => ∃ do_ di dv M Q3, RD K H o do_ ∧ RD K H i di ∧ RD K H v dv ∧ RM K bs H M ∧ t do_ di dv M Q3 ∧ ∀ H' M', Ext M M' H H' → RM K bs H' M' → Q3 M' → Q H'
theorem PSet.weak {t t' : TSet} (h : PSet X t) (i : ∀ o i v H Q, t' o i v H Q → t o i v H Q) : PSet X t' := fun pins s σ H o j v ov iv u Q I r1 r2 r3 q => h pins s σ H o j v ov iv u Q I r1 r2 r3 (i o j v H Q q)
def wgSub (to ti : TE3) (t : TSet3) : TG3 := fun d τ M Q => to τ M fun o M1 => ti τ M1 fun i M2 => t o i d M2 fun M3 => Q τ M3
theorem g_sub {o i : Expr} {to ti : TE3} {t : TSet3} (ho : PE3 bs X o to) (hi : PE3 bs X i ti) (hs : PSet X (liftSet X.K bs t))
    (ha : ∀ v, assign (.Subscript o i pos) X.env v = (do
      let ov ← holding [v] (eval o X.env)
      let iv ← holding [v, ov] (eval i X.env)
      standAt pos
      holding [v, ov, iv] (setItem ov iv v)
      release [v, ov, iv] []) := by intro _; rfl) : PG3 bs X (.Subscript o i pos) [] (wgSub to ti t) := by
  refine PG.weak (pg_sub ho hi hs ha) ?_
  rintro v σ H Q ⟨d, τ, M, Q3, r, e, m, q, k⟩
  refine ⟨τ, M, _, e, m, q, fun ov H1 od M1 x1 m1 r1 q1 => ⟨τ, M1, _, e.go (x1.still m), m1, q1, fun iv H2 id M2 x2 m2 r2 q2 => ?_⟩⟩
  exact ⟨od, id, d, M2, _, r1.go (x2.still m1), r2, (r.go (x1.still m)).go (x2.still m1), m2, q2, fun H3 M3 x3 m3 q3 =>
    k σ τ H3 M3 (x1.trans (x2.trans x3)) .refl (((e.go (x1.still m)).go (x2.still m1)).go (x3.still m2)) m3 q3⟩
def wAsg (te : TE3) (g : TG3) : TS3 := fun D τ M => te τ M fun d M1 => g d τ M1 D.nx
theorem s_asg {tg : Expr} {g : TG3} {ix : List Nat} (he : PE3 bs X e te) (hg : PG3 bs X tg ix g) (hs : swapsWithSole [tg] e pos.line X.env = pure false := by rfl) (hw : swappedStores [tg] e X.env = pure none := by rfl)
    (h1 : (assignEach [tg] X.env).map (·.2) = [assign tg X.env] := by rfl) : PS3 bs X (.Assign [tg] e pos) (wAsg te g) := by
  refine PS.weak (ps_asg he hg hs hw h1) ?_
  rintro D σ H ⟨τ, M, D3, e, m, q, kn, _⟩
  refine ⟨τ, M, _, e, m, q, fun v H1 d M1 x m1 r q1 => ?_⟩
  exact ⟨d, τ, M1, D3.nx, r, e.go (x.still m), m1, q1, fun σ2 τ2 H2 M2 x2 _ e2 m2 q2 => kn σ2 τ2 H2 M2 (x.trans x2) e2 m2 q2⟩
/-- name op= e -/
def liftIp (K : PySem.W.Frag) (bs : BS) (r : R23) : TIp := fun x y H Q => lift2 K bs r x y H Q
def wAug (i : Nat) (te : TE3) (r : R23) : TS3 := fun D τ M => match getS τ i with
  | some x => te τ M fun y M1 => r x y M1 fun z M2 => D.nx (setS τ i (some z)) M2
  | none => False
theorem s_aug {i : Nat} {x : Str} {op : Operator} {r : R23} {pos' : Pos} (hN : X.N.Nodup) (hi : X.N[i]? = some x) (hx : Loc X.env.scope x) (he : PE3 bs X e te) (ho : PIp X op (liftIp X.K bs r))
    (hf : X.fn x = true ∨ X.env.scope.names.lookup x = some .local := by first | exact .inl rfl | exact .inr rfl | assumption) : PS3 bs X (.AugAssign (.Name x pos') op e pos) (wAug i te r) := by
  refine PS.weak (ps_aug hN hi hx he ho hf) ?_
  rintro D σ H ⟨τ, M, D3, e, m, q, kn, _⟩
  unfold wAug at q
  cases hd : getS τ i with
  | none => rw [hd] at q; exact False.elim q
  | some d =>
    rw [hd] at q
    obtain ⟨v, hv, rv⟩ := e.get i d hd
    refine ⟨v, hv, τ, M, _, e, m, q, fun y H1 dy M1 x1 m1 r1 q1 => ?_⟩
    refine ⟨d, dy, M1, _, rv.go (x1.still m), r1, m1, q1, fun z H2 dz M2 x2 m2 r2 q2 => ?_⟩
    exact kn _ _ H2 M2 (x1.trans x2) (((e.go (x1.still m)).go (x2.still m1)).set r2) m2 q2
end
structure ItOk (K : PySem.W.Frag) (J : It) (P : Hp → Prop) (G : Mp → Prop) (ds : List D) : Prop where
  mono : ∀ M M' H H', RM0 K H M → Ext M M' H H' → P H → P H'
  stop : ∀ H M, RM0 K H M → P H → G M → J.stop ds.length H
  go : ∀ i d H M, RM0 K H M → P H → G M → ds[i]? = some d → J.go i H ∧ ∀ x H', J.yld i H x H' → Ext M M H H' ∧ RM0 K H' M ∧ RD K H' x d
abbrev TI3 := St3 → Mp → (List D → (Mp → Prop) → Mp → Prop) → Prop
def liftI (K : PySem.W.Frag) (bs : BS) (w : TI3) : TI := fun σ H R => ∃ τ M R3, RE K H σ τ ∧ RM K bs H M ∧ w τ M R3 ∧
  ∀ J P G ds H' M', Ext M M' H H' → RM K bs H' M' → ItOk K J P G ds → P H' → R3 ds G M' → R J H'
def PI3 (bs : BS) (X : Cx) (tg e : Expr) (w : TI3) : Prop := PI X tg e (liftI X.K bs w)
/-- a loop over ds -/
def forW (G : Mp → Prop) (g : TG3) (tb : TS3) (E : Ends3) : List D → St3 → Mp → Prop
  | [], τ, M => G M ∧ E.nx τ M
  | d :: r, τ, M => G M ∧ g d τ M fun τ2 M2 => tb { E with nx := forW G g tb E r, ct := forW G g tb E r, bk := E.nx } τ2 M2
def wFor (wi : TI3) (g : TG3) (tb : TS3) : TS3 := fun E τ M => wi τ M fun ds G M1 => forW G g tb E ds τ M1
section
variable {bs : BS} {X : Cx} {tg iter : Expr} {body : List Stmt} {wi : TI3} {g : TG3} {tb : TS3} {ix : List Nat} {pos : Pos}
theorem s_for (hp : PassesOwn (model X.prog X.w) X.A X.env X.xe) (hc : X.calm = true) (hi : PI3 bs X tg iter wi) (hg : PG3 bs X tg ix g) (hb : PSs3 bs X body tb)
    (hs : ∀ x, foldedSetIterable iter X.env x = pure x := by intro _; rfl) : PS3 bs X (.For tg iter body [] pos) (wFor wi g tb) := by
  refine PS.weak (ps_for hp hc hi hg hb hs) ?_
  rintro E σ H ⟨τ, M, D3, e, m, q, kn, kr, kb, kc⟩
  refine ⟨τ, M, _, e, m, q, fun J P G ds H1 M1 x1 m1 it p1 q1 => ?_⟩
  refine ⟨fun i mm σ' H' => mm = ds.length - i ∧ i ≤ ds.length ∧ P H' ∧ ∃ τ' M', RE X.K H' σ' τ' ∧ RM X.K bs H' M' ∧ Ext M M' H H' ∧ forW G g tb D3 (ds.drop i) τ' M', ?_, ?_⟩
  · exact ⟨ds.length, by simp, Nat.zero_le _, p1, τ, M1, e.go (x1.still m), m1, x1, by simpa using q1⟩
  · rintro i mm σ2 H2 ⟨rfl, hi', p2, τ2, M2, e2, m2, x2, q2⟩
    by_cases hlt : i < ds.length
    · right
      have hd : ds[i]? = some ds[i] := List.getElem?_eq_getElem hlt
      rw [List.drop_eq_getElem_cons hlt] at q2
      obtain ⟨g2, q2⟩ := q2
      obtain ⟨go, yl⟩ := it.go i ds[i] H2 M2 m2.m p2 g2 hd
      refine ⟨go, fun σ' H' => P H' ∧ ∃ τ' M', RE X.K H' σ' τ' ∧ RM X.K bs H' M' ∧ Ext M M' H H' ∧ forW G g tb D3 (ds.drop (i + 1)) τ' M', fun σ' H' h => ?_, fun x H3 y => ?_⟩
      · exact ⟨ds.length - (i + 1), by omega, rfl, hlt, h⟩
      · obtain ⟨x3, m30, r3⟩ := yl x H3 y
        have m3 := m2.to x3 m30
        have p3 := it.mono M2 M2 H2 H3 m2.m x3 p2
        refine ⟨ds[i], τ2, M2, _, r3, e2.go (x3.still m2), m3, q2, fun σ4 τ4 H4 M4 x4 b4 e4 m4 q4 => ?_⟩
        have p4 := it.mono M2 M4 H3 H4 m3.m x4 p3
        have x24 : Ext M M4 H H4 := x2.trans (x3.trans x4)
        refine ⟨τ4, M4, _, e4, m4, q4, fun σ5 τ5 H5 M5 x5 e5 m5 q5 => ?_, fun v d H5 M5 x5 m5 r5 q5 => kr v d H5 M5 (x24.trans x5) m5 r5 q5, fun σ5 τ5 H5 M5 x5 e5 m5 q5 => kn σ5 τ5 H5 M5 (x24.trans x5) e5 m5 q5, fun σ5 τ5 H5 M5 x5 e5 m5 q5 => ?_⟩
        · exact ⟨it.mono M4 M5 H4 H5 m4.m x5 p4, τ5, M5, e5, m5, x24.trans x5, q5⟩
        · exact ⟨it.mono M4 M5 H4 H5 m4.m x5 p4, τ5, M5, e5, m5, x24.trans x5, q5⟩
    · left
      have ei : i = ds.length := by omega
      subst ei
      rw [List.drop_length] at q2
      obtain ⟨g2, q2⟩ := q2
      exact ⟨it.stop H2 M2 m2.m p2 g2, kn σ2 τ2 H2 M2 x2 e2 m2 q2⟩
end
def whileW (c : TT3) (tb : TS3) (E : Ends3) : Nat → St3 → Mp → Prop
  | 0, _, _ => False
  | n + 1, τ, M => c τ M fun b M1 => ite3 b (tb { E with nx := whileW c tb E n, ct := whileW c tb E n, bk := E.nx } τ M1) (E.nx τ M1)
def wWhile (c : TT3) (tb : TS3) : TS3 := fun E τ M => ∃ n, whileW c tb E n τ M
section
variable {bs : BS} {X : Cx} {c : Expr} {body : List Stmt} {tc : TT3} {tb : TS3} {pos : Pos}
theorem s_while (hp : PassesOwn (model X.prog X.w) X.A X.env X.xe) (hc : PT3 bs X c tc) (hb : PSs3 bs X body tb) : PS3 bs X (.While c body [] pos) (wWhile tc tb) := by
  refine PS.weak (ps_while hp hc hb) ?_
  rintro E σ H ⟨τ, M, D3, e, m, ⟨n, q⟩, kn, kr, kb, kc⟩
  refine ⟨fun mm σ H' => ∃ τ' M', RE X.K H' σ τ' ∧ RM X.K bs H' M' ∧ Ext M M' H H' ∧ whileW tc tb D3 mm τ' M', ⟨n, τ, M, e, m, .refl, q⟩, ?_⟩
  rintro mm σ2 H2 ⟨τ2, M2, e2, m2, x2, q2⟩
  cases mm with
  | zero => exact False.elim q2
  | succ mm =>
    refine ⟨τ2, M2, _, e2, m2, q2, fun b H3 M3 x3 m3 q3 => ?_⟩
    cases b with
    | true =>
      refine iteT ⟨fun σ' H' => ∃ τ' M', RE X.K H' σ' τ' ∧ RM X.K bs H' M' ∧ Ext M M' H H' ∧ whileW tc tb D3 mm τ' M', fun σ' H' h => ⟨mm, Nat.lt_succ_self _, h⟩, ?_⟩
      have x23 : Ext M M3 H H3 := x2.trans x3
      exact ⟨τ2, M3, _, e2.go (x3.still m2), m3, q3, fun σ5 τ5 H5 M5 x5 e5 m5 q5 => ⟨τ5, M5, e5, m5, x23.trans x5, q5⟩, fun v d H5 M5 x5 m5 r5 q5 => kr v d H5 M5 (x23.trans x5) m5 r5 q5,
        fun σ5 τ5 H5 M5 x5 e5 m5 q5 => kn σ5 τ5 H5 M5 (x23.trans x5) e5 m5 q5, fun σ5 τ5 H5 M5 x5 e5 m5 q5 => ⟨τ5, M5, e5, m5, x23.trans x5, q5⟩⟩
    | false => exact iteF (kn σ2 τ2 H3 M3 (x2.trans x3) (e2.go (x3.still m2)) m3 q3)
end
/-- the list that comes of ds, from τ with the block's names forgotten -/
def lcW (G : Mp → Prop) (g : TG3) (tt : TT3) (te : TE3) (τ : St3) (Q : List D → Mp → Prop) : List D → List D → Mp → Prop
  | [], acc, M => G M ∧ Q acc M
  | d :: r, acc, M => G M ∧ g d τ M fun τ2 M2 => tt τ2 M2 fun b M3 => ite3 b (te τ2 M3 fun y M4 => acc.length < sizeLine ∧ lcW G g tt te τ Q r (acc ++ [y]) M4) (lcW G g tt te τ Q r acc M3)
def wLcL (wi : TI3) (g : TG3) (tt : TT3) (te : TE3) (vs : List Nat) : St3 → Mp → (List D → Mp → Prop) → Prop := fun τ M Q => wi τ M fun ds G M1 => lcW G g tt te (wipe3 τ vs) Q ds [] M1
def PTs3 (bs : BS) (X : Cx) (ifs : List Expr) (t : TT3) : Prop := PTs X ifs (liftT X.K bs t)
def wYes : TT3 := fun _ M Q => Q true M
theorem ts_nil {bs : BS} {X : Cx} : PTs3 bs X [] wYes := ⟨fun pins s σ H Q I ⟨τ, M, Q3, e, m, q, k⟩ => pts_nil.run pins s σ H Q I (k true H M .refl m q)⟩
theorem ts_one {bs : BS} {X : Cx} {c : Expr} {t : TT3} (h : PT3 bs X c t) : PTs3 bs X [c] t := pts_one h
/-- a fresh list at p, not in M -/
structure Fresh (K : PySem.W.Frag) (H : Hp) (M : Mp) (p : Addr) (ds : List D) : Prop where
  free : M p = none
  lst : ∃ vs, H p = some (.lst vs) ∧ RDs K H vs ds
theorem Fresh.go {K : PySem.W.Frag} {H H' : Hp} {M M' : Mp} {p : Addr} {ds : List D} (f : Fresh K H M p ds) (m : RM0 K H M) (x : Ext M M' H H') : Fresh K H' M' p ds := by
  obtain ⟨vs, h, r⟩ := f.lst
  refine ⟨?_, vs, x.fr p _ h f.free, r.go (x.still0 m)⟩
  cases q : M' p with
  | none => rfl
  | some o =>
    rcases x.dom p (by rw [q]; exact fun z => nomatch z) with z | z
    · exact absurd f.free z
    · rw [h] at z; cases z
theorem Fresh.laid {K : PySem.W.Frag} {H : Hp} {M : Mp} {p : Addr} {vs : List V} {ds : List D} (m : RM0 K H M) (hp : H p = none) (r : RDs K H vs ds) : Fresh K (upd H p (.lst vs)) M p ds :=
  ⟨m.free hp, vs, upd_same, r.go ((m.upNew hp).1.still0 m)⟩
/-- it is written, M stays -/
theorem Fresh.put {K : PySem.W.Frag} {H : Hp} {M : Mp} {p : Addr} {ds ds' : List D} {vs : List V} (f : Fresh K H M p ds) (m : RM0 K H M) (r : RDs K H vs ds') : Still K H (upd H p (.lst vs)) ∧ RM0 K (upd H p (.lst vs)) M ∧ Fresh K (upd H p (.lst vs)) M p ds' := by
  obtain ⟨ws, h, _⟩ := f.lst
  have s : Still K H (upd H p (.lst vs)) := by
    refine ⟨fun a xs q => ?_, fun a xs q => ?_⟩
    · rcases q with (q | ⟨o, q⟩) | q
      · exact .inl (.inl (by rw [upd_ne (by intro z; subst z; rw [h] at q; cases q)]; exact q))
      · exact .inl (.inr ⟨o, by rw [upd_ne (by intro z; subst z; rw [h] at q; cases q)]; exact q⟩)
      · exact .inr q
    · rcases q with ⟨o, q⟩ | q
      · exact .inl ⟨o, by rw [upd_ne (by intro z; subst z; rw [h] at q; cases q)]; exact q⟩
      · exact .inr q
  refine ⟨s, fun a o q => (m a o q).go s fun u hu => ?_, f.free, vs, upd_same, r.go s⟩
  rw [upd_ne (ne_m q f.free)]; exact hu
/-- it comes into M -/
theorem Fresh.take {K : PySem.W.Frag} {H : Hp} {M' : Mp} {p : Addr} {ds : List D} (f : Fresh K H M' p ds) (m : RM0 K H M') : RM0 K H (mset M' p (.lst ds)) := by
  intro a o q
  by_cases e : a = p
  · subst e; rw [mset_same] at q; cases q; exact f.lst
  · rw [mset_ne e] at q; exact m a o q
/-- a step that leaves out p: from H (p fresh there) to H' with p's list otherwise -/
theorem ext_but {M M' : Mp} {H H1 : Hp} {p : Addr} (h0 : H p = none) (x : Ext M M' H H1) (o : HO) : Ext M M' H (upd H1 p o) :=
  ⟨fun a u ha hm => by rw [upd_ne (ne_of_none ha h0)]; exact x.fr a u ha hm, x.dom⟩
section
variable {bs : BS} {X : Cx} {elt tg iter : Expr} {ifs : List Expr} {scope : Scope} {own : List (Str × Nat)} {pos : Pos} {wi : TI3} {g : TG3} {tt : TT3} {te : TE3} {ix : List Nat}
theorem lift_lcL (hix : ∀ i ∈ ix, i ∈ own.map (·.2)) : ∀ σ H (Q : VK), (∃ τ M Q3, RE X.K H σ τ ∧ RM X.K bs H M ∧ wLcL wi g tt te (own.map (·.2)) τ M Q3 ∧
      ∀ D H' acc M', Ext M M' H H' → RM X.K bs H' M' → Fresh X.K H' M' D acc → (M D ≠ none ∨ H D = none) → Q3 acc M' → Q (.ref D) H') →
    tLc (liftI X.K bs wi) (liftG X.K bs ix g) (liftT X.K bs tt) (lift X.K bs te) (own.map (·.2)) σ H Q := by
  rintro σ H Q ⟨τ, M, Q3, e, m, q, k⟩
  refine ⟨τ, M, _, e, m, q, fun J P G ds H1 M1 x1 m1 it p1 q1 => ?_⟩
  intro L hL
  refine ⟨fun i mm H' => mm = ds.length - i ∧ i ≤ ds.length ∧ P H' ∧ ∃ M' acc, RM X.K bs H' M' ∧ Ext M1 M' H1 H' ∧ Fresh X.K H' M' L acc ∧ lcW G g tt te (wipe3 τ (own.map (·.2))) Q3 (ds.drop i) acc M', ?_, ?_⟩
  · obtain ⟨x2, m2⟩ := m1.upNew (o := .lst []) hL
    exact ⟨ds.length, by simp, Nat.zero_le _, it.mono M1 M1 H1 _ m1.m x2 p1, M1, [], m2, x2, Fresh.laid m1.m hL .nil, by simpa using q1⟩
  · rintro i mm H2 ⟨rfl, hi', p2, M2, acc, m2, x2, f2, q2⟩
    by_cases hlt : i < ds.length
    · right
      have hd : ds[i]? = some ds[i] := List.getElem?_eq_getElem hlt
      rw [List.drop_eq_getElem_cons hlt] at q2
      obtain ⟨g2, q2⟩ := q2
      obtain ⟨go, yl⟩ := it.go i ds[i] H2 M2 m2.m p2 g2 hd
      refine ⟨go, fun H' => P H' ∧ ∃ M' acc, RM X.K bs H' M' ∧ Ext M1 M' H1 H' ∧ Fresh X.K H' M' L acc ∧ lcW G g tt te (wipe3 τ (own.map (·.2))) Q3 (ds.drop (i + 1)) acc M', fun H' h => ⟨ds.length - (i + 1), by omega, rfl, hlt, h⟩, fun x H3 y => ?_⟩
      obtain ⟨x3, m30, r3⟩ := yl x H3 y
      have m3 := m2.to x3 m30
      have p3 := it.mono M2 M2 H2 H3 m2.m x3 p2
      have f3 := f2.go m2.m x3
      have x13 := x2.trans x3
      have e3 : RE X.K H3 (L2.wipe σ (own.map (·.2))) (wipe3 τ (own.map (·.2))) := (e.go ((x1.still m).trans (x13.still m1))).wipe _
      refine ⟨ds[i], _, M2, _, r3, e3, m3, q2, fun σ4 τ4 H4 M4 x4 b4 e4 m4 q4 => ⟨(b4.wipe hix).trans (wipe_wipe _ _), ?_⟩⟩
      have p4 := it.mono M2 M4 H3 H4 m3.m x4 p3
      have f4 := f3.go m3.m x4
      have x14 := x13.trans x4
      refine ⟨τ4, M4, _, e4, m4, q4, fun b H5 M5 x5 m5 q5 => ?_⟩
      have p5 := it.mono M4 M5 H4 H5 m4.m x5 p4
      have f5 := f4.go m4.m x5
      have x15 := x14.trans x5
      cases b with
      | false => exact iteF ⟨p5, M5, acc, m5, x15, f5, q5⟩
      | true =>
        refine iteT ⟨τ4, M5, _, e4.go (x5.still m4), m5, q5, fun z H6 dz M6 x6 m6 r6 q6 => ?_⟩
        have f6 := f5.go m5.m x6
        have x16 := x15.trans x6
        obtain ⟨vs, hv, rv⟩ := f6.lst
        obtain ⟨s7, m7, f7⟩ := f6.put (vs := vs ++ [z]) m6.m (rv.app (.cons r6 .nil))
        have x17 : Ext M1 M6 H1 (upd H6 L (.lst (vs ++ [z]))) := ext_but hL x16 _
        have m7 := m1.to x17 m7
        refine ⟨vs, hv, by rw [rv.length]; exact q6.1, it.mono M1 M6 H1 _ m1.m x17 p1, M6, acc ++ [dz], m7, x17, f7, q6.2⟩
    · left
      have ei : i = ds.length := by omega
      subst ei
      rw [List.drop_length] at q2
      obtain ⟨g2, q2⟩ := q2
      refine ⟨it.stop H2 M2 m2.m p2 g2, k L H2 acc M2 (x1.trans x2) m2 f2 ?_ q2⟩
      cases z : H L with
      | none => exact .inr rfl
      | some o =>
        left
        intro zm
        rw [x1.fr L o z zm] at hL; cases hL
end
end L3
set_option Elab.async false
set_option linter.all false
set_option maxRecDepth 100000
set_option maxHeartbeats 4000000
namespace L3
open PySem PySem.Spec PyProof.Rows L2
section
variable {bs : BS} {X : Cx}
/-- from a rule by values to a rule by data -/
theorem op3 {f : Value → Value → Sem Value} {r : R23} (h : ∀ (d e : D) (x y : V) (H : Hp) (M : Mp) (Q : VK) (Q3 : VK3), RD X.K H x d → RD X.K H y e → RM X.K bs H M → r d e M Q3 →
    (∀ v H' z M', Ext M M' H H' → RM X.K bs H' M' → RD X.K H' v z → Q3 z M' → Q v H') → ∃ r2 : R2, OpR X f r2 ∧ r2 x y H Q) : OpR X f (lift2 X.K bs r) := by
  rintro pins s σ H x y v u Q I rx ry ⟨d, e, M, Q3, r1, r2, m, q, k⟩
  obtain ⟨rr, ho, hq⟩ := h d e x y H M Q Q3 r1 r2 m q k
  exact ho pins s σ H x y v u Q I rx ry hq
theorem call3 {f : Value} {r : List D → Mp → VK3 → Prop} (h : ∀ (ds : List D) (xs : List V) (H : Hp) (M : Mp) (Q : VK) (Q3 : VK3), RDs X.K H xs ds → RM X.K bs H M → r ds M Q3 →
    (∀ v H' z M', Ext M M' H H' → RM X.K bs H' M' → RD X.K H' v z → Q3 z M' → Q v H') → ∃ r2 : List V → Hp → VK → Prop, CallR X f r2 ∧ r2 xs H Q) : CallR X f (liftV X.K bs r) := by
  rintro pins s σ H xs us Q I rx ⟨ds, M, Q3, r1, m, q, k⟩
  obtain ⟨rr, ho, hq⟩ := h ds xs H M Q Q3 r1 m q k
  exact ho pins s σ H xs us Q I rx hq
def oAdd : R23 := fun d e M Q => match d, e with
  | .int i, .int j => Q (.int (i + j)) M
  | .str x, .str y => x.length + y.length ≤ sizeLine ∧ Q (.str (x ++ y)) M
  | .tup xs, .tup ys => xs.length + ys.length ≤ sizeLine ∧ Q (.tup (xs ++ ys)) M
  | .ref a, .ref b => match M a, M b with
    | some (.lst xs), some (.lst ys) => xs.length + ys.length ≤ sizeLine ∧ ∀ p, M p = none → Q (.ref p) (mset M p (.lst (xs ++ ys)))
    | _, _ => False
  | _, _ => False
theorem o_add : OpR X (binaryOp .Add) (lift2 X.K bs oAdd) := op3 fun d e x y H M Q Q3 r1 r2 m q k => by
  cases d with
  | int i =>
    cases e with
    | int j => cases r1; cases r2; exact ⟨_, op_add, _, _, rfl, rfl, k _ _ _ M .refl m (.int _) q⟩
    | _ => exact False.elim q
  | str i =>
    cases e with
    | str j => cases r1; cases r2; exact ⟨_, op_add_str, _, _, rfl, rfl, q.1, k _ _ _ M .refl m (.str _) q.2⟩
    | _ => exact False.elim q
  | tup xs =>
    cases e with
    | tup ys =>
      cases r1 with
      | tup h1 l1 =>
        cases r2 with
        | tup h2 l2 =>
          refine ⟨_, op_catA, _, _, _, _, rfl, rfl, h1, h2, by rw [l1.length, l2.length]; exact q.1, fun e => ?_, fun _ e => ?_, fun _ _ p hp => ?_⟩
          · subst e; cases l1; exact k _ _ _ M .refl m (.tup h2 l2) q.2
          · subst e; cases l2
            have q' : xs.length + 0 ≤ sizeLine ∧ Q3 (.tup (xs ++ [])) M := q
            rw [List.append_nil] at q'
            exact k _ _ _ M .refl m (.tup h1 l1) q'.2
          · obtain ⟨x2, m2⟩ := m.upNew (o := .tup _) hp
            exact k _ _ _ M x2 m2 (.tup (SqT.of upd_same) ((l1.app l2).go (x2.still m))) q.2
    | _ => exact False.elim q
  | ref a =>
    cases e with
    | ref b =>
      cases r1; cases r2
      simp only [oAdd] at q
      split at q
      · rename_i xs ys ha hb
        obtain ⟨vs, hv, l1⟩ := m.at ha
        obtain ⟨ws, hw, l2⟩ := m.at hb
        refine ⟨_, op_cat, _, _, _, _, rfl, rfl, hv, hw, by rw [l1.length, l2.length]; exact q.1, fun p hp => ?_⟩
        obtain ⟨x2, m2⟩ := m.newL hp (l1.app l2)
        exact k _ _ _ _ x2 m2 (.ref p) (q.2 p (m.free hp))
      · exact False.elim q
    | _ => exact False.elim q
  | _ => cases e <;> exact False.elim q
def oInt (C : Int → Int → Prop) (g : Int → Int → Int) : R23 := fun d e M Q => asI d fun i => asI e fun j => C i j ∧ Q (.int (g i j)) M
theorem o_int {f : Value → Value → Sem Value} {C : Int → Int → Prop} {g : Int → Int → Int} (h : OpR X f (rI C fun i j => .int (g i j))) : OpR X f (lift2 X.K bs (oInt C g)) := op3 fun d e x y H M Q Q3 r1 r2 m q k => by
  cases d with
  | int i =>
    cases e with
    | int j => cases r1; cases r2; exact ⟨_, h, _, _, rfl, rfl, q.1, k _ _ _ M .refl m (.int _) q.2⟩
    | _ => exact False.elim q
  | _ => cases e <;> exact False.elim q
def oSub : R23 := fun d e M Q => asI d fun i => asI e fun j => Q (.int (i - j)) M
theorem o_sub : OpR X (binaryOp .Sub) (lift2 X.K bs oSub) := op3 fun d e x y H M Q Q3 r1 r2 m q k => by
  cases d with
  | int i =>
    cases e with
    | int j => cases r1; cases r2; exact ⟨_, op_sub, _, _, rfl, rfl, k _ _ _ M .refl m (.int _) q⟩
    | _ => exact False.elim q
  | _ => cases e <;> exact False.elim q
/-- // by a positive divisor below 2 ^ 9000, or by a small one of any sign -/
def CFd (i j : Int) : Prop := j ≠ 0 ∧ j.natAbs.log2 < 9000
theorem op_fd : OpR X (binaryOp .FloorDiv) (rI CFd fun i j => .int (i.fdiv j)) := opI fun i j _ _ _ _ _ hc q => floordiv_int hc.1 q (.inl (PyProof.noPylong_of_log2 hc.2))
theorem op_ml : OpR X (binaryOp .Mult) (rI IntMulOk fun i j => .int (i * j)) := opI fun _ _ _ _ _ _ _ hc q => mul_int q hc
def oFd : R23 := oInt CFd fun i j => i.fdiv j
def oMd : R23 := oInt (fun _ j => j ≠ 0) fun i j => i.fmod j
def oPw : R23 := oInt CPow fun i j => i ^ j.toNat
def oShl : R23 := oInt CPow fun i j => i * 2 ^ j.toNat
theorem o_fd : OpR X (binaryOp .FloorDiv) (lift2 X.K bs oFd) := o_int op_fd
theorem o_md : OpR X (binaryOp .Mod) (lift2 X.K bs oMd) := o_int op_modN
theorem o_pw : OpR X (binaryOp .Pow) (lift2 X.K bs oPw) := o_int op_pow
def oMul : R23 := fun d e M Q => match d, e with
  | .int i, .int j => IntMulOk i j ∧ Q (.int (i * j)) M
  | .ref a, .int k => match M a with
    | some (.lst xs) => (-(2 ^ 63) ≤ k ∧ k < 2 ^ 63 ∧ xs.length * k.toNat ≤ sizeLine) ∧ ∀ p, M p = none → Q (.ref p) (mset M p (.lst (List.replicate k.toNat xs).flatten))
    | _ => False
  | _, _ => False
theorem RDs.rep {K : PySem.W.Frag} {H : Hp} {vs : List V} {ds : List D} (h : RDs K H vs ds) : ∀ k : Nat, RDs K H (List.replicate k vs).flatten (List.replicate k ds).flatten
  | 0 => .nil
  | k + 1 => by
    rw [List.replicate_succ, List.replicate_succ, List.flatten_cons, List.flatten_cons]
    exact h.app (RDs.rep h k)
theorem o_mul : OpR X (binaryOp .Mult) (lift2 X.K bs oMul) := op3 fun d e x y H M Q Q3 r1 r2 m q k => by
  cases d with
  | int i =>
    cases e with
    | int j => cases r1; cases r2; exact ⟨_, op_ml, _, _, rfl, rfl, q.1, k _ _ _ M .refl m (.int _) q.2⟩
    | _ => exact False.elim q
  | ref a =>
    cases e with
    | int j =>
      cases r1; cases r2
      simp only [oMul] at q
      split at q
      · rename_i xs ha
        obtain ⟨vs, hv, l1⟩ := m.at ha
        refine ⟨_, op_rep, _, _, _, rfl, rfl, hv, q.1.1, q.1.2.1, by rw [l1.length]; exact q.1.2.2, fun p hp => ?_⟩
        obtain ⟨x2, m2⟩ := m.newL hp (l1.rep j.toNat)
        exact k _ _ _ _ x2 m2 (.ref p) (q.2 p (m.free hp))
      · exact False.elim q
    | _ => exact False.elim q
  | _ => cases e <;> exact False.elim q
def oNeg : D → Mp → VK3 → Prop := fun d M Q => asI d fun i => Q (.int (-i)) M
def wUn (r : D → Mp → VK3 → Prop) (ta : TE3) : TE3 := fun τ M Q => ta τ M fun x M1 => r x M1 Q
theorem e_neg {a : Expr} {ta : TE3} {pos : Pos} (ha : PE3 bs X a ta) : PE3 bs X (.UnaryOp .USub a pos) (wUn oNeg ta) := by
  refine PE.weak (pe_un un_neg ha) ?_
  rintro σ H Q ⟨τ, M, Q3, e, m, q, k⟩
  refine ⟨τ, M, _, e, m, q, fun x H1 d M1 x1 m1 r1 q1 => ?_⟩
  cases d with
  | int i => cases r1; exact ⟨i, rfl, k _ H1 _ M1 x1 m1 (.int _) q1⟩
  | _ => exact False.elim q1
def oCmp (p : Int → Int → Bool) : R23 := fun d e M Q => asI d fun i => asI e fun j => Q (.bl (p i j)) M
theorem o_cmp {f : Value → Value → Sem Value} {p : Int → Int → Bool} (h : OpR X f (rI0 fun i j => .bl (p i j))) : OpR X f (lift2 X.K bs (oCmp p)) := op3 fun d e x y H M Q Q3 r1 r2 m q k => by
  cases d with
  | int i =>
    cases e with
    | int j => cases r1; cases r2; exact ⟨_, h, _, _, rfl, rfl, k _ _ _ M .refl m (.bl _) q⟩
    | _ => exact False.elim q
  | _ => cases e <;> exact False.elim q
def oLt : R23 := oCmp fun i j => decide (i < j)
def oLe : R23 := oCmp fun i j => decide (i ≤ j)
def oGt : R23 := oCmp fun i j => decide (j < i)
def oGe : R23 := oCmp fun i j => decide (j ≤ i)
theorem o_lt : OpR X (compareOp .Lt) (lift2 X.K bs oLt) := o_cmp op_lt
theorem o_gt : OpR X (compareOp .Gt) (lift2 X.K bs oGt) := o_cmp op_gt
theorem o_ge : OpR X (compareOp .GtE) (lift2 X.K bs oGe) := o_cmp op_ge
/-- is None -/
def isN : D → Bool
  | .non => true
  | _ => false
def oIsN (neg : Bool) : R23 := fun d e M Q => match e with
  | .non => Q (.bl (if neg then !isN d else isN d)) M
  | _ => False
theorem isN_of {K : PySem.W.Frag} {H : Hp} {v : V} {d : D} (r : RD K H v d) : decide (v = .non) = isN d := by
  cases r <;> simp [isN]
theorem o_is : OpR X (compareOp .Is) (lift2 X.K bs (oIsN false)) := op3 fun d e x y H M Q Q3 r1 r2 m q k => by
  cases e with
  | non => cases r2; exact ⟨_, op_isN, rfl, k _ _ _ M .refl m (.bl _) (by rw [isN_of r1]; exact q)⟩
  | _ => exact False.elim q
mutual
def pdOf : D → PyData
  | .non => .none
  | .bl b => .bool b
  | .int i => .int i
  | .str x => .str x
  | .tup xs => .tuple (pdsOf xs)
  | .rol xs => .list (pdsOf xs)
  | .ref _ => .none
  | .ty _ => .none
def pdsOf : List D → List PyData
  | [] => []
  | d :: ds => pdOf d :: pdsOf ds
end
mutual
/-- no addresses within, texts that are texts -/
def plain : D → Bool
  | .non => true
  | .bl _ => true
  | .int _ => true
  | .str x => PyData.strOk x
  | .tup xs => plains xs
  | .rol xs => plains xs
  | .ref _ => false
  | .ty _ => false
def plains : List D → Bool
  | [] => true
  | d :: ds => plain d && plains ds
end
mutual
def deep : D → Nat
  | .tup xs => deeps xs + 1
  | .rol xs => deeps xs + 1
  | _ => 0
def deeps : List D → Nat
  | [] => 0
  | d :: ds => max (deep d) (deeps ds)
end
mutual
theorem depth_pd : ∀ d : D, (pdOf d).depth = deep d
  | .non => by simp [pdOf, deep, PyData.depth]
  | .bl _ => by simp [pdOf, deep, PyData.depth]
  | .int _ => by simp [pdOf, deep, PyData.depth]
  | .str _ => by simp [pdOf, deep, PyData.depth]
  | .ref _ => by simp [pdOf, deep, PyData.depth]
  | .ty _ => by simp [pdOf, deep, PyData.depth]
  | .tup xs => by simp [pdOf, deep, PyData.depth, depth_pds xs]
  | .rol xs => by simp [pdOf, deep, PyData.depth, depth_pds xs]
theorem depth_pds : ∀ ds : List D, PyData.depthAll (pdsOf ds) = deeps ds
  | [] => by simp [pdsOf, deeps, PyData.depthAll]
  | d :: ds => by simp [pdsOf, deeps, PyData.depthAll, depth_pd d, depth_pds ds]
end
mutual
theorem canLay_pd : ∀ d : D, plain d = true → (pdOf d).canLay0 = true
  | .non, _ => by simp [pdOf, PyData.canLay0]
  | .bl _, _ => by simp [pdOf, PyData.canLay0]
  | .int _, _ => by simp [pdOf, PyData.canLay0]
  | .str _, h => by simpa [pdOf, PyData.canLay0, plain] using h
  | .ref _, h => by simp [plain] at h
  | .ty _, h => by simp [plain] at h
  | .tup xs, h => by simpa [pdOf, PyData.canLay0] using canLay_pds xs (by simpa [plain] using h)
  | .rol xs, h => by simpa [pdOf, PyData.canLay0] using canLay_pds xs (by simpa [plain] using h)
theorem canLay_pds : ∀ ds : List D, plains ds = true → PyData.canLayAll0 (pdsOf ds) = true
  | [], _ => by simp [pdsOf, PyData.canLayAll0]
  | d :: ds, h => by
    have h' : plain d = true ∧ plains ds = true := by simpa [plains] using h
    simp [pdsOf, PyData.canLayAll0, canLay_pd d h'.1, canLay_pds ds h'.2]
end
mutual
theorem dp_of {K : PySem.W.Frag} {H : Hp} : ∀ (d : D) (v : V), plain d = true → RD K H v d → Dp K H v (pdOf d)
  | .non, _, _, r => by cases r; simp only [pdOf]; exact .non
  | .bl b, _, _, r => by cases r; simp only [pdOf]; exact .bl b
  | .int i, _, _, r => by cases r; simp only [pdOf]; exact .int i
  | .str x, _, _, r => by cases r; simp only [pdOf]; exact .str x
  | .ref _, _, h, _ => by simp [plain] at h
  | .ty _, _, h, _ => by simp [plain] at h
  | .tup xs, _, h, r => by
    cases r with
    | tup h1 h2 => simp only [pdOf]; exact .tup h1 (dps_of xs _ (by simpa [plain] using h) h2)
  | .rol xs, _, h, r => by
    cases r with
    | rol h1 h2 => simp only [pdOf]; exact .lst h1.sq (dps_of xs _ (by simpa [plain] using h) h2)
theorem dps_of {K : PySem.W.Frag} {H : Hp} : ∀ (ds : List D) (vs : List V), plains ds = true → RDs K H vs ds → DpAll K H vs (pdsOf ds)
  | [], _, _, r => by cases r; simp only [pdsOf]; exact .nil
  | d :: ds, _, h, r => by
    have h' : plain d = true ∧ plains ds = true := by simpa [plains] using h
    cases r with
    | cons r1 r2 => simp only [pdsOf]; exact .cons (dp_of d _ h'.1 r1) (dps_of ds _ h'.2 r2)
end
/-- a list at an address as a list of data -/
def top (M : Mp) : D → D
  | .ref a => match M a with
    | some (.lst ds) => .rol ds
    | _ => .ref a
  | d => d
theorem dp_top {K : PySem.W.Frag} {H : Hp} {M : Mp} {v : V} {d : D} (m : RM0 K H M) (r : RD K H v d) (h : plain (top M d) = true) : Dp K H v (pdOf (top M d)) := by
  cases d with
  | ref a =>
    cases r
    simp only [top] at h ⊢
    split at h
    · rename_i ds ha
      obtain ⟨vs, hv, l⟩ := m a _ ha
      simp only [ha, pdOf]
      exact .lst (SqL.of hv) (dps_of ds vs (by simpa [plain] using h) l)
    · simp [plain] at h
  | _ => exact dp_of _ v h r
/-- data that == and repr take -/
structure Pl (d : D) : Prop where
  p : plain d = true
  d : deep d ≤ 64
def eqD (d e : D) : Bool := PyData.eqv (pdOf d) (pdOf e)
def eqP (neg : Bool) (d e : D) (Q : D → Prop) : Prop := Pl d ∧ Pl e ∧ Q (.bl (if neg then !eqD d e else eqD d e))
def oEq (neg : Bool) : R23 := fun d e M Q => match d with
  | .str x => match e with
    | .str y => Q (.bl (if neg then !decide (x = y) else decide (x = y))) M
    | e => eqP neg (.str x) (top M e) fun z => Q z M
  | d => eqP neg (top M d) (top M e) fun z => Q z M
theorem shaped_pl {d : D} (h : Pl d) : SeqAt.shaped (pdOf d) = true := by
  unfold SeqAt.shaped
  rw [canLay_pd d h.p, depth_pd, decide_eq_true h.d]
  rfl
theorem o_eqG {neg : Bool} {f : Value → Value → Sem Value} {r1 r2 : R2} (h1 : OpR X f r1) (h2 : OpR X f r2)
    (g1 : ∀ x y : V, ∀ H Q, scal x y = true → Q (V.bl (if neg then !decide (x = y) else decide (x = y))) H → r1 x y H Q)
    (g2 : ∀ (x y : V) H (Q : VK) (d e : PyData), Dp X.K H x d → Dp X.K H y e → SeqAt.shaped d = true → SeqAt.shaped e = true → Q (.bl (if neg then !PyData.eqv d e else PyData.eqv d e)) H → r2 x y H Q) : OpR X f (lift2 X.K bs (oEq neg)) := op3 fun d e x y H M Q Q3 w1 w2 m q k => by
  have gen : ∀ d e, RD X.K H x d → RD X.K H y e → eqP neg (top M d) (top M e) (fun z => Q3 z M) → ∃ r, OpR X f r ∧ r x y H Q := fun d e w1 w2 q =>
    ⟨_, h2, g2 _ _ _ _ _ _ (dp_top m.m w1 q.1.p) (dp_top m.m w2 q.2.1.p) (shaped_pl q.1) (shaped_pl q.2.1) (k _ _ _ M .refl m (.bl _) q.2.2)⟩
  cases d with
  | str a =>
    cases e with
    | str b =>
      cases w1; cases w2
      refine ⟨_, h1, g1 _ _ _ _ rfl (k _ _ _ M .refl m (.bl _) ?_)⟩
      have e : decide (V.str a = V.str b) = decide (a = b) := by
        rw [Bool.eq_iff_iff]; simp
      rw [e]
      exact q
    | _ => exact gen _ _ w1 w2 q
  | _ => exact gen _ _ w1 w2 q
theorem o_eq (hu : X.A.units + 64 < cLine) : OpR X (compareOp .Eq) (lift2 X.K bs (oEq false)) := o_eqG op_eq (op_eqD hu) (fun _ _ _ _ hs q => ⟨hs, q⟩) fun _ _ _ _ _ _ a b c d q => ⟨_, _, a, b, c, d, q⟩
theorem o_ne (hu : X.A.units + 64 < cLine) : OpR X (compareOp .NotEq) (lift2 X.K bs (oEq true)) := o_eqG op_ne (op_neD hu) (fun _ _ _ _ hs q => ⟨hs, q⟩) fun _ _ _ _ _ _ a b c d q => ⟨_, _, a, b, c, d, q⟩
/-- the items of a tuple, a list -/
def lstOf : Option MO → Option (List D)
  | some (.lst ds) => some ds
  | _ => none
def items (M : Mp) : D → Option (List D)
  | .tup ds => some ds
  | .rol ds => some ds
  | .ref a => lstOf (M a)
  | _ => none
def asL (o : Option (List D)) (k : List D → Prop) : Prop := match o with
  | some ds => k ds
  | none => False
theorem asL_some {ds : List D} {k : List D → Prop} : asL (some ds) k = k ds := rfl
theorem lstOf_some {o : Option MO} {ds : List D} (h : lstOf o = some ds) : o = some (.lst ds) := by
  unfold lstOf at h
  split at h
  · cases h; rfl
  · cases h
theorem items_of {K : PySem.W.Frag} {H : Hp} {M : Mp} {v : V} {d : D} {ds : List D} (m : RM0 K H M) (r : RD K H v d) (h : items M d = some ds) : ∃ p vs, v = .ref p ∧ (SqL K H p vs ∨ SqT K H p vs) ∧ RDs K H vs ds := by
  cases d with
  | tup es =>
    cases r with
    | tup h1 h2 => cases h; exact ⟨_, _, rfl, .inr h1, h2⟩
  | rol es =>
    cases r with
    | rol h1 h2 => cases h; exact ⟨_, _, rfl, .inl h1.sq, h2⟩
  | ref a =>
    cases r
    obtain ⟨vs, hv, l⟩ := m a _ (lstOf_some h)
    exact ⟨_, _, rfl, .inl (SqL.of hv), l⟩
  | _ => cases h
theorem atI_rel {K : PySem.W.Frag} {H : Hp} {vs : List V} {ds : List D} {i : Int} {d : D} (l : RDs K H vs ds) (h : atI ds i = some d) : ∃ v, atI vs i = some v ∧ RD K H v d := by
  unfold atI at h ⊢
  rw [l.length]
  cases e : ixN ds.length i with
  | none => rw [e] at h; cases h
  | some j =>
    rw [e] at h
    exact l.get (i := j) h
def oIxS (z : Str) (i : Int) (M : Mp) (Q : VK3) : Prop := match atI z.cps.toList i with
  | some c => z.length ≤ sizeLine ∧ Q (.str ⟨#[c]⟩) M
  | none => False
def oIx : R23 := fun d e M Q => asI e fun i => match d with
  | .str z => oIxS z i M Q
  | d => asL (items M d) fun ds => asS (atI ds i) fun v => Q v M
theorem i_ix : IxR X (lift2 X.K bs oIx) := by
  rintro value slice pins s σ H x y v u Q I rx ry ⟨d, e, M, Q3, r1, r2, m, q, k⟩ hs
  have it : ∀ i, (asL (items M d) fun ds => asS (atI ds i) fun v => Q3 v M) → y = .int i → wpAny (model X.prog X.w) X.A (subscriptTail value slice v u) (EP X pins σ Q) X.xe s := by
    intro i q hy
    unfold asL at q
    split at q
    · rename_i ds hd
      unfold asS at q
      split at q
      · rename_i z hz
        obtain ⟨p, vs, rfl, hq, l⟩ := items_of m.m r1 hd
        obtain ⟨w, hw, rw'⟩ := atI_rel l hz
        refine ix_seq value slice pins s σ H _ y v u Q I rx ry ?_ hs
        rcases hq with hq | hq
        · exact .inl ⟨p, vs, i, w, rfl, hy, hq, hw, k _ _ _ M .refl m rw' q⟩
        · exact .inr (.inl ⟨p, vs, i, w, rfl, hy, hq, hw, k _ _ _ M .refl m rw' q⟩)
      · exact False.elim q
    · exact False.elim q
  cases e with
  | int i =>
    cases r2
    cases d with
    | str z =>
      cases r1
      have q : oIxS z i M Q3 := q
      unfold oIxS at q
      split at q
      · rename_i c hc
        exact ix_seq value slice pins s σ H _ _ v u Q I rx ry (.inr (.inr ⟨z, i, c, rfl, rfl, q.1, hc, k _ _ _ M .refl m (.str _) q.2⟩)) hs
      · exact False.elim q
    | _ => exact it i q rfl
  | _ => exact False.elim q
theorem e_ix {a b : Expr} {ta tb : TE3} {pos : Pos} (ha : PE3 bs X a ta) (hb : PE3 bs X b tb) (hs : PlainIx b := by exact fun _ _ => rfl) : PE3 bs X (.Subscript a b pos) (wOp oIx ta tb) := PE.weak (pe_ix i_ix ha hb hs) lift_op
/-- slices -/
def PO3 (bs : BS) (X : Cx) (e : Option Expr) (t : St3 → Mp → (Option Int → Mp → Prop) → Prop) : Prop := PO X e (fun σ H Q => ∃ τ M Q3, RE X.K H σ τ ∧ RM X.K bs H M ∧ t τ M Q3 ∧ ∀ o H' M', Ext M M' H H' → RM X.K bs H' M' → Q3 o M' → Q o H')
def wNoPart : St3 → Mp → (Option Int → Mp → Prop) → Prop := fun _ M Q => Q none M
def wPart (t : TE3) : St3 → Mp → (Option Int → Mp → Prop) → Prop := fun τ M Q => t τ M fun d M1 => asI d fun i => Q (some i) M1
theorem p_none : PO3 bs X none wNoPart := ⟨fun pins s σ H Q I ⟨τ, M, Q3, e, m, q, k⟩ => po_none.run pins s σ H Q I (k none H M .refl m q)⟩
theorem p_some {e : Expr} {t : TE3} (h : PE3 bs X e t) : PO3 bs X (some e) (wPart t) := by
  refine ⟨fun pins s σ H Q I ⟨τ, M, Q3, e, m, q, k⟩ => (po_some h).run pins s σ H Q I ⟨τ, M, _, e, m, q, fun v H' d M' x m' r q' => ?_⟩⟩
  cases d with
  | int i => cases r; exact ⟨i, rfl, k _ H' M' x m' q'⟩
  | _ => exact False.elim q'
def cutD (xs : List D) (lo hi : Option Int) : List D := (xs.drop (HT.sIx xs.length 0 lo)).take (HT.sIx xs.length xs.length hi - HT.sIx xs.length 0 lo)
def oSl : D → Option Int → Option Int → Mp → VK3 → Prop := fun d lo hi M Q => match d with
  | .tup ds => Q (.tup (cutD ds lo hi)) M
  | .rol ds => ∀ p, M p = none → Q (.ref p) (mset M p (.lst (cutD ds lo hi)))
  | .ref a => match M a with
    | some (.lst ds) => ∀ p, M p = none → Q (.ref p) (mset M p (.lst (cutD ds lo hi)))
    | _ => False
  | _ => False
theorem cut_rel {K : PySem.W.Frag} {H : Hp} {vs : List V} {ds : List D} (l : RDs K H vs ds) (lo hi : Option Int) : RDs K H (cutV vs lo hi) (cutD ds lo hi) := by
  unfold cutV cutD
  rw [l.length]
  exact (l.drop _).take _
theorem cut_whole {ds : List D} {lo hi : Option Int} (h1 : HT.sIx ds.length 0 lo = 0) (h2 : HT.sIx ds.length ds.length hi = ds.length) : cutD ds lo hi = ds := by
  unfold cutD
  rw [h1, h2]
  simp
theorem s_sl : SlR X (fun x lo hi H Q => ∃ d M Q3, RD X.K H x d ∧ RM X.K bs H M ∧ oSl d lo hi M Q3 ∧ ∀ v H' z M', Ext M M' H H' → RM X.K bs H' M' → RD X.K H' v z → Q3 z M' → Q v H') := by
  rintro pins s σ H x v vl vu lo hi sl Q I rx hs pl pu ⟨d, M, Q3, r, m, q, k⟩
  cases d with
  | tup ds =>
    cases r with
    | tup h1 h2 =>
      refine sl_tupA pins s σ H _ v vl vu lo hi sl Q I rx hs pl pu ⟨_, _, rfl, h1, fun w => ?_, fun w p hp => ?_⟩
      · rw [h2.length] at w
        have q' : Q3 (.tup (cutD ds lo hi)) M := q
        rw [cut_whole w.1 w.2] at q'
        exact k _ _ _ M .refl m (.tup h1 h2) q'
      · obtain ⟨x2, m2⟩ := m.upNew (o := .tup _) hp
        exact k _ _ _ M x2 m2 (.tup (SqT.of upd_same) ((cut_rel h2 lo hi).go (x2.still m))) q
  | rol ds =>
    cases r with
    | rol h1 h2 =>
      refine sl_list pins s σ H _ v vl vu lo hi sl Q I rx hs pl pu ⟨_, _, rfl, h1.sq, fun p hp => ?_⟩
      obtain ⟨x2, m2⟩ := m.newL hp (cut_rel h2 lo hi)
      exact k _ _ _ _ x2 m2 (.ref p) (q p (m.free hp))
  | ref a =>
    cases r
    simp only [oSl] at q
    split at q
    · rename_i ds ha
      obtain ⟨vs, hv, l⟩ := m.at ha
      refine sl_list pins s σ H _ v vl vu lo hi sl Q I rx hs pl pu ⟨_, _, rfl, SqL.of hv, fun p hp => ?_⟩
      obtain ⟨x2, m2⟩ := m.newL hp (cut_rel l lo hi)
      exact k _ _ _ _ x2 m2 (.ref p) (q p (m.free hp))
    · exact False.elim q
  | _ => exact False.elim q
def wSl (te : TE3) (tl th : St3 → Mp → (Option Int → Mp → Prop) → Prop) : TE3 := fun τ M Q => te τ M fun d M1 => tl τ M1 fun lo M2 => th τ M2 fun hi M3 => oSl d lo hi M3 Q
def oPut : TSet3 := fun o i v M Q => match o, i with
  | .ref a, .int k => match M a with
    | some (.lst ds) => match ixN ds.length k with
      | some j => Q (mset M a (.lst (ds.set j v)))
      | none => False
    | _ => False
  | _, _ => False
theorem p_put : PSet X (liftSet X.K bs oPut) := by
  rintro pins s σ H o i v ov iv u Q I r1 r2 r3 ⟨od, id, dv, M, Q3, ro, ri, rv, m, q, k⟩
  cases od with
  | ref a =>
    cases id with
    | int z =>
      cases ro; cases ri
      simp only [oPut] at q
      split at q
      · rename_i ds ha
        split at q
        · rename_i j hj
          obtain ⟨vs, hv, l⟩ := m.at ha
          refine set_list pins s σ H _ _ v ov iv u Q I r1 r2 r3 ⟨a, vs, z, j, rfl, rfl, hv, by rw [l.length]; exact hj, ?_⟩
          obtain ⟨x2, m2⟩ := m.putL ha (RDs.set rv j l)
          exact k _ _ x2 m2 q
        · exact False.elim q
      · exact False.elim q
    | _ => exact False.elim q
  | _ => cases id <;> exact False.elim q
abbrev M23 := D → List D → Mp → VK3 → Prop
def liftM (K : PySem.W.Frag) (bs : BS) (r : M23) : V → List V → Hp → VK → Prop := fun x xs H Q => ∃ d ds M Q3, RD K H x d ∧ RDs K H xs ds ∧ RM K bs H M ∧ r d ds M Q3 ∧ ∀ v H' z M', Ext M M' H H' → RM K bs H' M' → RD K H' v z → Q3 z M' → Q v H'
def wBM (r : M23) (to : TE3) (t : TA3) : TE3 := fun τ M Q => to τ M fun d M1 => (match d with | .ref a => ∃ ds, M1 a = some (.lst ds) | _ => False) ∧ t τ M1 fun ds M2 => r d ds M2 Q
theorem e_bm {o e : Expr} {es : List Expr} {to : TE3} {t : TA3} {name : Str} {apos cpos : Pos} {id : String} {r : M23} (pa : PlainAttrs "list") (slot : Slot "list" name id) (hty : typeOf (.builtin id) = pure (.type "method_descriptor")) (hm : MtR X id (liftM X.K bs r))
    (ho : PE3 bs X o to) (ha : PA3 bs X (e :: es) t)
    (hbase : attributeBase o name X.env (eval o X.env) = eval o X.env := by rfl)
    (hfew : ((backTo cpos (starEach (e :: es) X.env)).all (fun x => !x.1) && (backToKw cpos (keywordEach [] X.env)).all (fun x => x.1.isSome)
      && decide ((e :: es).length + ([] : List Keyword).length + (if ([] : List Keyword).isEmpty then 0 else 1) < 30)) = true := by rfl)
    (hline : (apos.endLine == cpos.line) = true := by rfl) (hs : starEach (e :: es) X.env = (false, eval e X.env) :: starEach es X.env := by rfl) (hplain : (backTo cpos (starEach es X.env)).any (·.1) = false := by rfl) :
    PE3 bs X (.Call (.Attribute o name apos) (e :: es) [] cpos) (wBM r to t) := by
  refine PE.weak (pe_bm pa slot hty hm ho ha hbase hfew hline hs hplain) ?_
  rintro σ H Q ⟨τ, M, Q3, e, m, q, k⟩
  refine ⟨τ, M, _, e, m, q, fun v H1 d M1 x1 m1 r1 q1 => ?_⟩
  cases d with
  | ref a =>
    cases r1
    obtain ⟨⟨ds, ha⟩, q1⟩ := q1
    obtain ⟨vs, hv, l⟩ := m1.at ha
    refine ⟨.inl ⟨rfl, vs, SqL.of hv⟩, τ, M1, _, e.go (x1.still m), m1, q1, fun ws H2 es M2 x2 m2 r2 q2 => ?_⟩
    exact ⟨.ref a, es, M2, Q3, .ref a, r2, m2, q2, fun v H' z M' x3 m3 r3 q3 => k v H' z M' (x1.trans (x2.trans x3)) m3 r3 q3⟩
  | _ => exact False.elim q1.1
def oApp : M23 := fun d ds M Q => match d, ds with
  | .ref a, [y] => match M a with
    | some (.lst xs) => xs.length < sizeLine ∧ Q .non (mset M a (.lst (xs ++ [y])))
    | _ => False
  | _, _ => False
theorem m_app : MtR X "list.append" (liftM X.K bs oApp) := by
  rintro pins s σ H x xs v us Q I r1 r2 ⟨d, ds, M, Q3, rd, rs, m, q, k⟩
  unfold oApp at q
  split at q
  · rename_i a y
    cases rd
    split at q
    · rename_i zs ha
      obtain ⟨vs, hv, l⟩ := m.at ha
      cases rs with
      | cons ry rn =>
        cases rn
        refine mt_append pins s σ H _ _ v us Q I r1 r2 ⟨a, vs, _, rfl, rfl, hv, by rw [l.length]; exact q.1, ?_⟩
        obtain ⟨x2, m2⟩ := m.putL ha (l.app (.cons ry .nil))
        exact k _ _ _ _ x2 m2 .non q.2
    · exact False.elim q
  · exact False.elim q
theorem e_append {o e : Expr} {to te : TE3} {apos cpos : Pos} (ho : PE3 bs X o to) (he : PE3 bs X e te) (hs1 : starEach [e] X.env = (false, eval e X.env) :: starEach [] X.env := by rfl)
    (hbase : attributeBase o "append" X.env (eval o X.env) = eval o X.env := by rfl)
    (hfew : ((backTo cpos (starEach (e :: []) X.env)).all (fun x => !x.1) && (backToKw cpos (keywordEach [] X.env)).all (fun x => x.1.isSome)
      && decide ((e :: []).length + ([] : List Keyword).length + (if ([] : List Keyword).isEmpty then 0 else 1) < 30)) = true := by rfl)
    (hline : (apos.endLine == cpos.line) = true := by rfl) :
    PE3 bs X (.Call (.Attribute o "append" apos) [e] [] cpos) (wBM oApp to (wCons te wNil)) :=
  e_bm PySem.F.plainAttrs_list PySem.F.slot_list_append PySem.F.type_list_append m_app ho (a_cons he a_nil hs1) hbase hfew hline hs1 rfl
end
end L3
set_option Elab.async false
set_option linter.all false
set_option maxRecDepth 100000
set_option maxHeartbeats 4000000
namespace L3
open PySem PySem.Spec PyProof.Rows L2
section
variable {bs : BS} {X : Cx} {tg : Expr}
def iSeq (K : PySem.W.Frag) (tl : TE) : TI := fun σ H R => tl σ H fun x H1 => ∃ a, x = .ref a ∧ ((∃ xs, SqL K H1 a xs ∧ R (Itl K a) H1) ∨ ∃ xs, SqT K H1 a xs ∧ R (Itt K a) H1)
theorem pi_seq {l : Expr} {tl : TE} (hl : PE X l tl) : PI X tg l (iSeq X.K tl) := by
  constructor
  intro pins s σ H R I h
  refine thn (hl.run pins s σ H _ I h) ?_
  rintro v s1 ⟨x, H1, I1, r1, a, rfl, q1⟩
  cases r1
  have nw : ∀ b, b ∈ [s1.heap.objs.size] → FpOk X pins H1 b := by
    intro b hb
    rw [List.mem_singleton] at hb
    rw [hb]
    exact I1.fpOk (Nat.le_refl _) I1.fresh
  rcases q1 with ⟨xs, hq, q⟩ | ⟨xs, hq, q⟩
  · obtain ⟨its, rv, p, hz⟩ := I1.list hq
    exact wpAny_pyIter_list p.isList ⟨_, [s1.heap.objs.size], _, _, H1, rfl, I1.kept (t' := s1.toks) (fun b o e => Heap.get?_push_of_some _ e), turn_list a _, ⟨_, Heap.get?_push_size _ rfl, rfl, rfl⟩, nw, q⟩
  · obtain ⟨its, rv, p, hz⟩ := I1.tuple hq
    have p' : s1.heap.IsTuple a its.toArray := p
    exact wpAny_pyIter_tuple p' ⟨_, [s1.heap.objs.size], _, _, H1, rfl, I1.kept (t' := s1.toks) (fun b o e => Heap.get?_push_of_some _ e), turn_tuple a _, ⟨_, Heap.get?_push_size _ rfl, rfl, rfl⟩, nw, q⟩
/-- what must stand still while a sequence is walked -/
def keepG (M : Mp) (d : D) (ds : List D) : Mp → Prop := match d with
  | .ref a => fun M' => M' a = some (.lst ds)
  | _ => fun _ => True
theorem it_tup {K : PySem.W.Frag} {a : Addr} {vs : List V} {ds : List D} {H0 : Hp} : ItOk K (Itt K a) (fun H => SqT K H a vs ∧ RDs K H vs ds) (fun _ => True) ds where
  mono := fun M M' H H' m x p => ⟨(x.still0 m).1 _ _ p.1, p.2.go (x.still0 m)⟩
  stop := fun H M m p _ => ⟨vs, p.1, by rw [p.2.length]; exact Nat.le_refl _⟩
  go := fun i d H M m p _ hd => by
    obtain ⟨v, hv, r⟩ := p.2.get hd
    refine ⟨⟨vs, v, p.1, hv⟩, ?_⟩
    rintro x H' ⟨rfl, y⟩
    have e := y vs p.1
    rw [hv] at e
    cases e
    exact ⟨.refl, m, r⟩
theorem it_rol {K : PySem.W.Frag} {a : Addr} {vs : List V} {ds : List D} : ItOk K (Itl K a) (fun H => RoL K H a vs ∧ RDs K H vs ds) (fun _ => True) ds where
  mono := fun M M' H H' m x p => ⟨(x.still0 m).2 _ _ p.1, p.2.go (x.still0 m)⟩
  stop := fun H M m p _ => ⟨vs, p.1.sq, by rw [p.2.length]; exact Nat.le_refl _⟩
  go := fun i d H M m p _ hd => by
    obtain ⟨v, hv, r⟩ := p.2.get hd
    refine ⟨⟨vs, v, p.1.sq, hv⟩, ?_⟩
    rintro x H' ⟨rfl, y⟩
    have e := y vs p.1.sq
    rw [hv] at e
    cases e
    exact ⟨.refl, m, r⟩
theorem it_lst {K : PySem.W.Frag} {a : Addr} {ds : List D} : ItOk K (Itl K a) (fun _ => True) (fun M => M a = some (.lst ds)) ds where
  mono := fun _ _ _ _ _ _ _ => True.intro
  stop := fun H M m _ g => by
    obtain ⟨vs, hv, l⟩ := m a _ g
    exact ⟨vs, SqL.of hv, by rw [l.length]; exact Nat.le_refl _⟩
  go := fun i d H M m _ g hd => by
    obtain ⟨vs, hv, l⟩ := m a _ g
    obtain ⟨v, hv', r⟩ := l.get hd
    refine ⟨⟨vs, v, SqL.of hv, hv'⟩, ?_⟩
    rintro x H' ⟨rfl, y⟩
    have e := y vs (SqL.of hv)
    rw [hv'] at e
    cases e
    exact ⟨.refl, m, r⟩
def wItems (tl : TE3) : TI3 := fun τ M R => tl τ M fun d M1 => asL (items M1 d) fun ds => R ds (keepG M1 d ds) M1
theorem w_seq {l : Expr} {tl : TE3} (hl : PE3 bs X l tl) : PI3 bs X tg l (wItems tl) := by
  refine PI.weak (pi_seq hl) ?_
  rintro σ H R ⟨τ, M, R3, e, m, q, k⟩
  refine ⟨τ, M, _, e, m, q, fun v H1 d M1 x1 m1 r1 q1 => ?_⟩
  unfold asL at q1
  split at q1
  · rename_i ds hd
    cases d with
    | tup es =>
      cases hd
      cases r1 with
      | tup h1 h2 => exact ⟨_, rfl, .inr ⟨_, h1, k _ _ _ _ H1 M1 x1 m1 (it_tup (H0 := H1)) ⟨h1, h2⟩ q1⟩⟩
    | rol es =>
      cases hd
      cases r1 with
      | rol h1 h2 => exact ⟨_, rfl, .inl ⟨_, h1.sq, k _ _ _ _ H1 M1 x1 m1 it_rol ⟨h1, h2⟩ q1⟩⟩
    | ref a =>
      cases r1
      obtain ⟨vs, hv, l⟩ := m1.at (lstOf_some hd)
      exact ⟨_, rfl, .inl ⟨vs, SqL.of hv, k _ _ _ _ H1 M1 x1 m1 it_lst True.intro q1⟩⟩
    | _ => cases hd
  · exact False.elim q1
/-- range -/
def rgD (lo : Int) (n : Nat) : List D := (List.range n).map fun i => D.int (lo + (i : Nat))
theorem rgD_get {lo : Int} {n i : Nat} {d : D} (h : (rgD lo n)[i]? = some d) : i < n ∧ d = .int (lo + (i : Nat)) := by
  unfold rgD at h
  rw [List.getElem?_map] at h
  by_cases hi : i < n
  · rw [List.getElem?_range hi] at h
    exact ⟨hi, (Option.some.inj h).symm⟩
  · rw [List.getElem?_eq_none (by rw [List.length_range]; omega)] at h
    cases h
theorem it_rg {K : PySem.W.Frag} {lo : Int} {n : Nat} : ItOk K (Itr lo n) (fun _ => True) (fun _ => True) (rgD lo n) where
  mono := fun _ _ _ _ _ _ _ => True.intro
  stop := fun H M m _ g => by show n ≤ (rgD lo n).length; unfold rgD; rw [List.length_map, List.length_range]; exact Nat.le_refl _
  go := fun i d H M m _ g hd => by
    obtain ⟨hi, rfl⟩ := rgD_get hd
    refine ⟨hi, ?_⟩
    rintro x H' ⟨rfl, rfl⟩
    exact ⟨.refl, m, .int _⟩
def wRng1 (t : TA3) : TI3 := fun τ M R => t τ M fun ds M1 => match ds with
  | [.int j] => -(2 ^ 62) ≤ j ∧ j < 2 ^ 62 ∧ R (rgD 0 j.toNat) (fun _ => True) M1
  | _ => False
def wRng2 (t : TA3) : TI3 := fun τ M R => t τ M fun ds M1 => match ds with
  | [.int i, .int j] => (-(2 ^ 62) ≤ i ∧ i < 2 ^ 62 ∧ -(2 ^ 62) ≤ j ∧ j < 2 ^ 62) ∧ R (rgD i (j - i).toNat) (fun _ => True) M1
  | _ => False
theorem w_rng1 {a : Expr} {ta : TA3} {p pos : Pos} (hm : X.mg "range" = none) (ha : PA3 bs X [a] ta) (hg : Gl X "range" := by rfl) (hs : starEach [a] X.env = [(false, eval a X.env)] := by rfl) : PI3 bs X tg (.Call (.Name "range" p) [a] [] pos) (wRng1 ta) := by
  refine PI.weak (pi_range1 hg hm ha hs) ?_
  rintro σ H R ⟨τ, M, R3, e, m, q, k⟩
  refine ⟨τ, M, _, e, m, q, fun vs H1 ds M1 x1 m1 r1 q1 => ?_⟩
  split at q1
  · rename_i j
    cases r1 with
    | cons r rn =>
      cases rn
      cases r
      exact ⟨j, rfl, q1.1, q1.2.1, k _ _ _ _ H1 M1 x1 m1 it_rg True.intro q1.2.2⟩
  · exact False.elim q1
end
section
variable {bs : BS} {X : Cx} {e : Expr} {es : List Expr} {t : TA3} {x : Str} {p pos : Pos}
theorem e_callB {id : String} {r : List D → Mp → VK3 → Prop} (hc : CallR X (.builtin id) (liftV X.K bs r)) (hm : X.mg x = none) (hv : bootBuiltins x = some (.builtin id)) (ha : PA3 bs X (e :: es) t) (hg : Gl X x := by rfl) (hn : x ≠ "__name__" := by decide) (hdb : (x == ("__debug__" : Str)) = false := by decide)
    (he : starEach (e :: es) X.env = (false, eval e X.env) :: starEach es X.env := by rfl) (hpl : (backTo pos (starEach es X.env)).any (·.1) = false := by rfl) : PE3 bs X (.Call (.Name x p) (e :: es) [] pos) (wCB r t) :=
  PE.weak (pe_callB hc hg hm hv ha hn hdb he hpl) lift_cb
theorem e_callTy {T : String} {r : List D → Mp → VK3 → Prop} (hc : CallR X (.type T) (liftV X.K bs r)) (hm : X.mg x = none) (hv : bootBuiltins x = some (.type T)) (ha : PA3 bs X (e :: es) t) (hg : Gl X x := by rfl) (hn : x ≠ "__name__" := by decide) (hdb : (x == ("__debug__" : Str)) = false := by decide)
    (he : starEach (e :: es) X.env = (false, eval e X.env) :: starEach es X.env := by rfl) (hpl : (backTo pos (starEach es X.env)).any (·.1) = false := by rfl) : PE3 bs X (.Call (.Name x p) (e :: es) [] pos) (wCB r t) :=
  PE.weak (pe_callTy hc hg hm hv ha hn hdb he hpl) lift_cb
/-- one argument -/
def b1 (r : D → Mp → VK3 → Prop) : List D → Mp → VK3 → Prop := fun ds M Q => match ds with
  | [d] => r d M Q
  | _ => False
theorem call1 {f : Value} {r : D → Mp → VK3 → Prop} (h : ∀ (d : D) (x : V) (H : Hp) (M : Mp) (Q : VK) (Q3 : VK3), RD X.K H x d → RM X.K bs H M → r d M Q3 →
    (∀ v H' z M', Ext M M' H H' → RM X.K bs H' M' → RD X.K H' v z → Q3 z M' → Q v H') → ∃ r2 : List V → Hp → VK → Prop, CallR X f r2 ∧ r2 [x] H Q) : CallR X f (liftV X.K bs (b1 r)) := call3 fun ds xs H M Q Q3 r1 m q k => by
  match ds, r1, q with
  | [], _, q => exact False.elim q
  | [d], .cons r1 .nil, q => exact h d _ H M Q Q3 r1 m q k
  | _ :: _ :: _, _, q => exact False.elim q
def bLen : List D → Mp → VK3 → Prop := b1 fun d M Q => match d with
  | .str z => z.length ≤ sizeLine ∧ Q (.int z.length) M
  | d => asL (items M d) fun ds => Q (.int ds.length) M
theorem c_len : CallR X (.builtin "len") (liftV X.K bs bLen) := call1 fun d x H M Q Q3 r m q k => by
  have it : (asL (items M d) fun ds => Q3 (.int ds.length) M) → ∃ r2 : List V → Hp → VK → Prop, CallR X (.builtin "len") r2 ∧ r2 [x] H Q := fun q => by
    unfold asL at q
    split at q
    · rename_i ds hd
      obtain ⟨p, vs, rfl, hs, l⟩ := items_of m.m r hd
      exact ⟨_, call_len_seq, p, vs, rfl, hs, by rw [l.length]; exact k _ _ _ M .refl m (.int _) q⟩
    · exact False.elim q
  cases d with
  | str z => cases r; exact ⟨_, call_len_str, z, rfl, q.1, k _ _ _ M .refl m (.int _) q.2⟩
  | _ => exact it q
def bTuple : List D → Mp → VK3 → Prop := b1 fun d M Q => asL (items M d) fun ds => Q (.tup ds) M
theorem c_tuple : CallR X (.type "tuple") (liftV X.K bs bTuple) := call1 fun d x H M Q Q3 r m q k => by
  unfold asL at q
  split at q
  · rename_i ds hd
    obtain ⟨p, vs, rfl, hs, l⟩ := items_of m.m r hd
    refine ⟨_, call_tuple_of, p, vs, rfl, ?_⟩
    rcases hs with hs | hs
    · refine .inl ⟨hs, fun c hc => ?_⟩
      obtain ⟨x2, m2⟩ := m.upNew (o := .tup vs) hc
      exact k _ _ _ M x2 m2 (.tup (SqT.of upd_same) (l.go (x2.still m))) q
    · exact .inr ⟨hs, k _ _ _ M .refl m (.tup hs l) q⟩
  · exact False.elim q
def bList : List D → Mp → VK3 → Prop := b1 fun d M Q => asL (items M d) fun ds => ∀ p, M p = none → Q (.ref p) (mset M p (.lst ds))
def bAbs : List D → Mp → VK3 → Prop := b1 fun d M Q => asI d fun i => Q (.int (if i < 0 then -i else i)) M
theorem c_abs : CallR X (.builtin "abs") (liftV X.K bs bAbs) := call1 fun d x H M Q Q3 r m q k => by
  cases d with
  | int i => cases r; exact ⟨_, call_abs, i, rfl, k _ _ _ M .refl m (.int _) q⟩
  | _ => exact False.elim q
def bInt : List D → Mp → VK3 → Prop := b1 fun d M Q => match d with
  | .int i => Q (.int i) M
  | .bl b => Q (.int (if b then 1 else 0)) M
  | _ => False
def b2I (g : Int → Int → Int) : List D → Mp → VK3 → Prop := fun ds M Q => match ds with
  | [.int i, .int j] => Q (.int (g i j)) M
  | _ => False
def bMax : List D → Mp → VK3 → Prop := b2I fun i j => if j > i then j else i
def bMin : List D → Mp → VK3 → Prop := b2I fun i j => if j < i then j else i
/-- a list of truths -/
def bls : List D → Option (List Bool)
  | [] => some []
  | .bl b :: r => (bls r).map (b :: ·)
  | _ :: _ => none
mutual
def showOk : D → Bool
  | .int i => decide (i.natAbs.log2 < 1920)
  | .tup xs => showOks xs
  | .rol xs => showOks xs
  | _ => true
def showOks : List D → Bool
  | [] => true
  | d :: ds => showOk d && showOks ds
end
def shown (d : D) : Str := (pdOf d).shown
/-- data whose text fits -/
structure Sh (d : D) : Prop where
  pl : Pl d
  ok : showOk d = true
  sz : (shown d).length ≤ sizeLine
end
/-- what is wished of an exception: its class by name, its fields -/
abbrev XK3 := Str → List (Str × D) → Mp → Prop
abbrev Sp3 := List D → Mp → VK3 → XK3 → Prop
/-- an exception's own dict -/
def RXd (K : PySem.W.Frag) (H : Hp) : Option Addr → List (Str × D) → Prop
  | some a, fs => ∃ gs, H a = some (.xd gs) ∧ RKv K H gs fs
  | none, fs => fs = []
/-- its class c is the one called n, its own dict is a's -/
def RX (K : PySem.W.Frag) (H : Hp) (n : Str) (c : Value) (a : Option Addr) (fs : List (Str × D)) : Prop := Cl K n c ∧ RXd K H a fs
def liftSp (K : PySem.W.Frag) (sp : Sp3) : Sp := fun vs H Q E => ∃ ds M Q3 E3, RDs K H vs ds ∧ RM0 K H M ∧ sp ds M Q3 E3 ∧
  (∀ v H' d M', Ext M M' H H' → RM0 K H' M' → RD K H' v d → Q3 d M' → Q v H') ∧
  ∀ n c a H' fs M', Ext M M' H H' → RM0 K H' M' → RX K H' n c a fs → E3 n fs M' → E c a H'
structure FnG (P : Program) (w : World) (K : PySem.W.Frag) (mg : Str → Option Value) (base : Heap) (CX : CXT) (k : Nat) (f : Addr) (fd : FuncData) (ps : List Str) (sp : Sp) : Prop where
  len : ∀ vs H Q E, sp vs H Q E → vs.length = ps.length
  run : ∀ (A : Around) (outer : List Env) (s : Shared) (H : Hp) (args : Args) (us : List Value) (vs : List V) (Q : VK) (E : XK), A.guards = some [] → Room k A → Env0 P w K mg base A outer s H → BindsTo s fd args (ps.zip us) →
    Vals vs us → sp vs H Q E → codeAny (model P w) A (.call (.ref f) args) (CR CX outer P w H s Q E) s
theorem FnG.mono {P : Program} {w : World} {K : PySem.W.Frag} {mg : Str → Option Value} {base : Heap} {CX : CXT} {j k : Nat} {f : Addr} {fd : FuncData} {ps : List Str} {sp : Sp} (F : FnG P w K mg base CX j f fd ps sp) (h : j ≤ k) :
    FnG P w K mg base CX k f fd ps sp := ⟨F.len, fun A outer s H args us vs Q E hg hr => F.run A outer s H args us vs Q E hg (hr.mono h)⟩
/-- a def by its body -/
theorem fn_g {CX : CXT} {P : Program} {w : World} {K : PySem.W.Frag} {mg : Str → Option Value} {base : Heap} {k : Nat} {f : Addr} {x qual : Str} {st : Stmt} {fd : FuncData} {N ps : List Str} {sp : Sp} (F : Fun K x qual st f fd) (S : FnScope N ps (defScope st))
    (len : ∀ vs H Q E, sp vs H Q E → vs.length = ps.length)
    (body : ∀ (cdv : Value) (A : Around) (outer : List Env) (s : Shared) (H : Hp) (vs : List V) (Q : VK) (E : XK), A.guards = some [] → Room k (A.deeper (envOfC qual (defScope st) s.heap.objs.size f cdv)) → sp vs H Q E →
      ∃ t, PSs (cxOf CX P w K mg base N qual (defScope st) f cdv A outer s H E) (defBody st) t ∧ t { nx := fun _ H' => Q .non H', rt := Q } (L2.start N vs) H) :
    FnG P w K mg base CX (k + 1) f fd ps sp := by
  obtain ⟨oc, od, kV, doc, pm, an, cdv, ct, osl, rfl, lk, hcd⟩ := F.ex
  constructor
  · exact len
  intro A outer s H args us vs Q E hG hr e0 hb r hsp
  have sizes := len vs H Q E hsp
  have inK : K.In s.heap := e0.mod.kin.keeps (fun b o z => (e0.bs b o z).1)
  have noLim : s.heap.NoLimit := e0.mod.nolimit.keeps (fun b o z => (e0.bs b o z).1)
  have kinds : ∀ y ∈ ps.zip us, (defScope st).names.lookup y.1 = some .local ∨ ((defScope st).names.lookup y.1 = some .cell ∧ ((cellsFrom (s.heap.objs.size + 1) (defScope st).names []).lookup y.1).isSome = true) := by
    rintro ⟨n, v⟩ hy
    rcases S.par n (List.of_mem_zip hy).1 with z | z
    · exact .inl z
    · exact .inr ⟨z, PySem.W.cellsFrom_some _ _ _ (.inl z)⟩
  refine codeAny_call_function hr.depth (inK _ _ lk) rfl S.co S.gen rfl (PySem.W.codeRec_of inK hcd) (hb _ _ _ _ ?_)
  refine wpAny_newFunctionEnv_cells S.kind kinds ?_
  rintro env rfl s1 x
  refine ⟨noLim.keeps x.toInCall.keep, codeAny_func ?_⟩
  obtain ⟨t, ht, hq⟩ := body cdv A outer s H vs Q E hG (hr.deeper _) hsp
  have I := inv_start (CX := CX) (E := E) S hr.hd e0 sizes r x
  refine wpAny_mono (ht.run [] s1 (L2.start N vs) H _ I hq) ?_ (fun _ _ z => z)
  have done : ∀ (σ' : L2.St) (H' : Hp) (v : V) (u : Value) (s' : Shared), Inv (cxOf CX P w K mg base N qual (defScope st) f cdv A outer s H E) [] σ' H' s' → RelV v u → Q v H' → CE outer P w H s Q u s' :=
    fun σ' H' v u s' J rv q => ⟨v, H', J.os, J.bare, J.base, J.hok, rv, q⟩
  intro fl s' hs
  cases fl with
  | next =>
    obtain ⟨σ', H', J, q⟩ := hs
    exact done σ' H' .non .none s' J rfl q
  | ret u =>
    obtain ⟨v, σ', H', J, rv, q⟩ := hs
    exact done σ' H' v u s' J rv q
  | brk => obtain ⟨_, _, _, q⟩ := hs; cases q
  | cont => obtain ⟨_, _, _, q⟩ := hs; cases q
/-- what a def's body is read to -/
def start3 (n : Nat) (ds : List D) : St3 := ds.map some ++ List.replicate (n - ds.length) none
def spOf (np n : Nat) (t : XK3 → TS3) : Sp3 := fun ds M Q E => ds.length = np ∧ t E { nx := fun _ M' => Q .non M', rt := Q } (start3 n ds) M
theorem getS_app_l : ∀ (ds : List D) (r : St3) (i : Nat), i < ds.length → getS (ds.map some ++ r) i = ds[i]?
  | [], _, _, h => by simp at h
  | d :: ds, r, 0, _ => rfl
  | d :: ds, r, i + 1, h => by
    show getS (ds.map some ++ r) i = _
    rw [getS_app_l ds r i (by simpa using h)]
    simp
theorem getS_none (n i : Nat) : getS (List.replicate n none) i = none := by
  induction n generalizing i with
  | zero => rfl
  | succ n ih =>
    cases i with
    | zero => rfl
    | succ i => exact ih i
theorem getS_app_r : ∀ (ds : List D) (n i : Nat), ds.length ≤ i → getS (ds.map some ++ List.replicate n none) i = none
  | [], n, i, _ => getS_none n i
  | d :: ds, n, 0, h => by simp at h
  | d :: ds, n, i + 1, h => getS_app_r ds n i (by simpa using h)
theorem re_start {K : PySem.W.Frag} {H : Hp} {N : List Str} {vs : List V} {ds : List D} (r : RDs K H vs ds) : RE K H (L2.start N vs) (start3 N.length ds) := by
  have hl := r.length
  constructor
  · unfold L2.start start3
    simp [hl]
  · intro i d h
    unfold start3 at h
    by_cases hi : i < ds.length
    · rw [getS_app_l ds _ i hi] at h
      obtain ⟨v, hv, rv⟩ := r.get h
      refine ⟨v, ?_, rv⟩
      unfold L2.start
      rw [List.getElem?_append_left (by rw [List.length_map]; omega), List.getElem?_map, hv]
      rfl
    · rw [getS_app_r ds _ i (by omega)] at h
      cases h
/-- the def called x, with n parameters, keeps sp at so deep a level -/
def Def3 (P : Program) (w : World) (K : PySem.W.Frag) (mg : Str → Option Value) (base : Heap) (CX : CXT) (k : Nat) (x : Str) (sp : Sp3) : Prop :=
  ∃ f fd ps, mg x = some (.ref f) ∧ PySem.W.keepIn K (.ref f) = true ∧ Binds K fd ps [] ∧ FnG P w K mg base CX k f fd ps (liftSp K sp)
theorem Def3.mono {P : Program} {w : World} {K : PySem.W.Frag} {mg : Str → Option Value} {base : Heap} {CX : CXT} {j k : Nat} {x : Str} {sp : Sp3} (F : Def3 P w K mg base CX j x sp) (h : j ≤ k) : Def3 P w K mg base CX k x sp := by
  obtain ⟨f, fd, ps, a, b, c, d⟩ := F
  exact ⟨f, fd, ps, a, b, c, d.mono h⟩
/-- from its body's reading: E3 is the wish of the exceptions, bs the standing condition -/
theorem fng_of {CX : CXT} {P : Program} {w : World} {K : PySem.W.Frag} {mg : Str → Option Value} {base : Heap} {k : Nat} {f : Addr} {x qual : Str} {st : Stmt} {fd : FuncData} {N ps : List Str} {t : XK3 → TS3} (F : Fun K x qual st f fd) (S : FnScope N ps (defScope st))
    (body : ∀ (cdv : Value) (A : Around) (outer : List Env) (s : Shared) (H : Hp) (E : XK) (bs : BS) (E3 : XK3), A.guards = some [] → Room k (A.deeper (envOfC qual (defScope st) s.heap.objs.size f cdv)) →
      (∀ n c a H' fs M', RM0 K H' M' → bs.ok M' H' → RX K H' n c a fs → E3 n fs M' → E c a H') →
      PSs3 bs (cxOf CX P w K mg base N qual (defScope st) f cdv A outer s H E) (defBody st) (t E3)) :
    FnG P w K mg base CX (k + 1) f fd ps (liftSp K (spOf ps.length N.length t)) := by
  refine fn_g F S (fun vs H Q E h => ?_) fun cdv A outer s H vs Q E hG hr h => ?_
  · obtain ⟨ds, M, Q3, E3, r, m, ⟨l, q⟩, _⟩ := h
    rw [r.length]; exact l
  · obtain ⟨ds, M, Q3, E3, r, m, ⟨l, q⟩, kq, ke⟩ := h
    refine ⟨_, body cdv A outer s H E (bsOf M H) E3 hG hr (fun n c a H' fs M' m' x r' e => ke n c a H' fs M' x m' r' e), ?_⟩
    refine ⟨start3 N.length ds, M, _, re_start r, ⟨m, .refl⟩, q, fun σ' τ' H' M' x e m' q' => ?_, fun v d H' M' x m' r' q' => ?_, fun _ _ _ _ _ _ _ z => z.elim, fun _ _ _ _ _ _ _ z => z.elim⟩
    · exact kq .non H' .non M' x m'.m .non q'
    · exact kq v H' d M' x m'.m r' q'
theorem def_of {CX : CXT} {P : Program} {w : World} {K : PySem.W.Frag} {mg : Str → Option Value} {base : Heap} {k : Nat} {f : Addr} {x qual : Str} {st : Stmt} {fd : FuncData} {N ps : List Str} {t : XK3 → TS3} (hm : mg x = some (.ref f)) (F : Fun K x qual st f fd) (b : Binds K fd ps [])
    (S : FnScope N ps (defScope st))
    (body : ∀ (cdv : Value) (A : Around) (outer : List Env) (s : Shared) (H : Hp) (E : XK) (bs : BS) (E3 : XK3), A.guards = some [] → Room k (A.deeper (envOfC qual (defScope st) s.heap.objs.size f cdv)) →
      (∀ n c a H' fs M', RM0 K H' M' → bs.ok M' H' → RX K H' n c a fs → E3 n fs M' → E c a H') →
      PSs3 bs (cxOf CX P w K mg base N qual (defScope st) f cdv A outer s H E) (defBody st) (t E3)) :
    Def3 P w K mg base CX (k + 1) x (spOf ps.length N.length t) := ⟨f, fd, ps, hm, F.kp, b, fng_of F S body⟩
section
variable {bs : BS} {X : Cx} {CX : CXT} {k : Nat} {x : Str} {sp : Sp3} {E3 : XK3} {e : Expr} {es : List Expr} {t : TA3} {p pos : Pos}
def wCall (sp : Sp3) (E : XK3) (t : TA3) : TE3 := fun τ M Q => t τ M fun ds M1 => sp ds M1 Q E
/-- a def that leans on nothing in M, and whose answer does not either -/
def wCallP (sp : Sp3) (E : XK3) (t : TA3) : TE3 := fun τ M Q => t τ M fun ds M1 => sp ds M0 (fun d _ => Q d M1) (fun c fs _ => E c fs M1)
theorem run_g {f : Addr} {fd : FuncData} {ps : List Str} {spv : Sp} {E : XK} {pins : List (Addr × Obj)} {σ : L2.St} {H : Hp} {s : Shared} {Q : VK} {us : List Value} {vs : List V} (F : FnG X.prog X.w X.K X.mg X.base CX k f fd ps spv) (hG : X.A.guards = some []) (hr : Room k X.A)
    (hb : Binds X.K fd ps []) (hx : Passes CX X E) (I : Inv X pins σ H s) (r : Vals vs us) (h : spv vs H Q E) : wpAny (model X.prog X.w) X.A (call (.ref f) us) (EP X pins σ Q) X.xe s := by
  have hl : (us ++ []).length = ps.length := by rw [List.append_nil, ← r.length]; exact F.len _ _ _ _ h
  have bd := hb s us I.kIn hl
  rw [List.append_nil] at bd
  refine wpAny_call (codeAny_mono (F.run X.A X.stack s H ⟨us, []⟩ us vs Q E hG hr I.env0 bd r h) ?_)
  intro res s' hq
  cases res with
  | error z => exact hx pins σ H s z s' I hq
  | ok fl =>
    cases fl with
    | ret u => exact I.after hq
    | next => cases hq
    | brk => cases hq
    | cont => cases hq
theorem pe_g {f : Addr} {fd : FuncData} {ps : List Str} {spv : Sp} {E : XK} {ta : TA} (F : FnG X.prog X.w X.K X.mg X.base CX k f fd ps spv) (hG : X.A.guards = some []) (hr : Room k X.A) (hm : X.mg x = some (.ref f)) (hk : PySem.W.keepIn X.K (.ref f) = true) (hb : Binds X.K fd ps []) (hx : Passes CX X E)
    (ha : PA X (e :: es) ta) (hg : Gl X x) (hdb : (x == ("__debug__" : Str)) = false) (he : starEach (e :: es) X.env = (false, eval e X.env) :: starEach es X.env) (hpl : (backTo pos (starEach es X.env)).any (·.1) = false) :
    PE X (.Call (.Name x p) (e :: es) [] pos) (tCall spv [] E ta) := by
  constructor
  intro pins s σ H Q I h
  refine wpAny_Call_Name_kw (ld_glob I hg hm ?_ hdb)
  refine PySem.W.callWith_K (h₀ := X.base) I.ok.mod.kin hk (thn (ha.run pos pins s σ H _ I h) ?_) he hpl
  rintro us s1 ⟨vs, H1, I1, r, q⟩
  have q' : spv (vs ++ []) H1 Q E := q
  rw [List.append_nil] at q'
  exact ⟨I1.kIn, run_g F hG hr hb hx I1 r q'⟩
/-- how an exception of a callee passes on: what is wanted of it here -/
def PassX (bs : BS) (CX : CXT) (X : Cx) (E3 : XK3) : Prop := ∃ E : XK, Passes CX X E ∧ ∀ n c a H' fs M', RM0 X.K H' M' → bs.ok M' H' → RX X.K H' n c a fs → E3 n fs M' → E c a H'
theorem e_call (F : Def3 X.prog X.w X.K X.mg X.base CX k x sp) (hG : X.A.guards = some []) (hr : Room k X.A) (hx : PassX bs CX X E3) (ha : PA3 bs X (e :: es) t) (hg : Gl X x := by rfl) (hdb : (x == ("__debug__" : Str)) = false := by decide)
    (he : starEach (e :: es) X.env = (false, eval e X.env) :: starEach es X.env := by rfl) (hpl : (backTo pos (starEach es X.env)).any (·.1) = false := by rfl) : PE3 bs X (.Call (.Name x p) (e :: es) [] pos) (wCall sp E3 t) := by
  obtain ⟨f, fd, ps, hm, hk, hb, F⟩ := F
  obtain ⟨E, hp, he3⟩ := hx
  refine PE.weak (pe_g F hG hr hm hk hb hp ha hg hdb he hpl) ?_
  rintro σ H Q ⟨τ, M, Q3, e, m, q, kk⟩
  refine ⟨τ, M, _, e, m, q, fun vs H1 ds M1 x1 m1 r1 q1 => ?_⟩
  show liftSp X.K sp (vs ++ []) H1 Q E
  rw [List.append_nil]
  refine ⟨ds, M1, Q3, E3, r1, m1.m, q1, fun v H' d M' x2 m2 r2 q2 => kk v H' d M' (x1.trans x2) (m1.to x2 m2) r2 q2, fun n c a H' fs M' x2 m2 r2 q2 => he3 n c a H' fs M' m2 (bs.go m1.b x2) r2 q2⟩
/-- from nothing: all that stood is kept -/
theorem ext_all {M M' : Mp} {H H' : Hp} (x : Ext M0 M' H H') : Ext M M H H' := ⟨fun a o h _ => x.fr a o h rfl, fun _ h => .inl h⟩
theorem rm_all {K : PySem.W.Frag} {M M' : Mp} {H H' : Hp} (m : RM0 K H M) (x : Ext M0 M' H H') : RM0 K H' M := (m.keep fun a o h => x.fr a o h rfl).2
theorem e_callP (F : Def3 X.prog X.w X.K X.mg X.base CX k x sp) (hG : X.A.guards = some []) (hr : Room k X.A) (hx : PassX bs CX X E3) (ha : PA3 bs X (e :: es) t) (hg : Gl X x := by rfl) (hdb : (x == ("__debug__" : Str)) = false := by decide)
    (he : starEach (e :: es) X.env = (false, eval e X.env) :: starEach es X.env := by rfl) (hpl : (backTo pos (starEach es X.env)).any (·.1) = false := by rfl) : PE3 bs X (.Call (.Name x p) (e :: es) [] pos) (wCallP sp E3 t) := by
  obtain ⟨f, fd, ps, hm, hk, hb, F⟩ := F
  obtain ⟨E, hp, he3⟩ := hx
  refine PE.weak (pe_g F hG hr hm hk hb hp ha hg hdb he hpl) ?_
  rintro σ H Q ⟨τ, M, Q3, e, m, q, kk⟩
  refine ⟨τ, M, _, e, m, q, fun vs H1 ds M1 x1 m1 r1 q1 => ?_⟩
  show liftSp X.K sp (vs ++ []) H1 Q E
  rw [List.append_nil]
  refine ⟨ds, M0, _, _, r1, (fun a o h => nomatch h), q1, fun v H' d M' x2 m2 r2 q2 => ?_, fun n c a H' fs M' x2 m2 r2 q2 => ?_⟩
  · exact kk v H' d M1 (x1.trans (ext_all x2)) (m1.to (ext_all x2) (rm_all m1.m x2)) r2 q2
  · exact he3 n c a H' fs M1 (rm_all m1.m x2) (bs.go m1.b (ext_all x2)) r2 q2
end
end L3
set_option Elab.async false
set_option linter.all false
set_option maxRecDepth 100000
set_option maxHeartbeats 4000000
namespace L3
open PySem PySem.Spec PyProof.Rows L2
theorem law_at {P : Program} {w : World} {K : PySem.W.Frag} {mg mb : Str → Option Value} {CX : CXT} {k : Nat} {fa a : Addr} {fd : FuncData} {x : Str} {sp : Sp} {t : Shared} {vs : List Value} {ns : List Int}
    (inK : K.In t.heap) (nsM : t.heap.Ns mainGlobals mg) (nsB : t.heap.Ns builtinsNs mb) (boots : ∀ y : Str, y ≠ "__name__" → mb y = bootBuiltins y) (noLim : t.heap.NoLimit) (noGen : t.gens = #[])
    (obj : t.heap.get? a = some { cls := .type "list", data := .seq vs.toArray }) (hnt : IntsAre vs ns) (len : ns.length ≤ sizeLine) (room : Room k callerA)
    (F : ∀ base : Heap, K.In base → base.Ns mainGlobals mg → FnG P w K mg base CX k fa fd [x] sp) (bind : ∀ (s : Shared) (u : Value), BindsTo s fd ⟨[u], []⟩ [(x, u)])
    (said : ∀ H : Hp, RoL K H a (ns.map V.int) → sp [.ref a] H (fun v _ => v = .bl true) (fun _ _ _ => False)) (quiet : ∀ H e s', CX [] H t (fun _ _ _ => False) e s' → False) :
    codeAny (model P w) callerA (.call (.ref fa) ⟨[.ref a], []⟩) (fun r s' => r = .ok (.ret (.bool true)) ∧ OldK t.heap s'.heap ∧ s'.os = t.os ∧ AllBare s'.gens) t := by
  have vals := vals_ints hnt
  have lens := hnt.length
  -- H: nothing, or the script as a thing that nobody writes
  suffices main : ∀ H : Hp, RoL K H a (ns.map V.int) → HOk P w H t.heap → (∀ b u, H b = some u → b = a ∧ ∃ o xs, u = .frz o (.lst xs)) → (H a ≠ none → K.lookup a = none) →
      codeAny (model P w) callerA (.call (.ref fa) ⟨[.ref a], []⟩) (fun r s' => r = .ok (.ret (.bool true)) ∧ OldK t.heap s'.heap ∧ s'.os = t.os ∧ AllBare s'.gens) t by
    cases q : K.lookup a with
    | some o =>
      have z := inK a o q
      rw [obj] at z
      cases z
      exact main (fun _ => none) (.inr ⟨vs.toArray, _, q, by rw [List.size_toArray, lens]; exact len, by simpa using vals⟩) (fun _ _ z => nomatch z) (fun _ _ z => nomatch z) fun z => absurd rfl z
    | none =>
      refine main (upd (fun _ => none) a (.frz { cls := .type "list", data := .seq vs.toArray } (.lst (ns.map V.int)))) (.inl ⟨_, upd_same⟩) (fun b u z => ?_) (fun b u z => ?_) fun _ => q
      · by_cases e : b = a
        · subst e
          rw [upd_same] at z
          cases z
          exact ⟨obj, by rw [List.length_map]; exact len, vs, _, vals, obj⟩
        · rw [upd_ne e] at z; cases z
      · by_cases e : b = a
        · subst e
          rw [upd_same] at z
          cases z
          exact ⟨rfl, _, _, rfl⟩
        · rw [upd_ne e] at z; cases z
  intro H ro hok one out
  have dataH : ∀ {b : Addr} {o : Obj} {es : Array DictEntry} {n : Nat}, t.heap.get? b = some o → o.data = .dict es n → H b = none := by
    intro b o es n z d
    cases q : H b with
    | none => rfl
    | some u =>
      obtain ⟨rfl, _⟩ := one b u q
      rw [obj] at z
      cases z
      cases d
  have nsH : ∀ {b : Addr} {m : Str → Option Value}, t.heap.Ns b m → (hidT t.heap H).Ns b m := by
    rintro b m ⟨o, es, n, z, d, r⟩
    exact ⟨o, es, n, hidT_get z (dataH z d), d, r⟩
  have inH : K.In (hidT t.heap H) := by
    intro b o z
    refine hidT_get (inK b o z) ?_
    cases q : H b with
    | none => rfl
    | some u =>
      obtain ⟨rfl, _⟩ := one b u q
      rw [out (by rw [q]; exact fun z => nomatch z)] at z
      cases z
  have limH : (hidT t.heap H).NoLimit := by
    obtain ⟨mc, l1, l2⟩ := noLim
    exact ⟨mc, nsH l1, l2⟩
  have env : Env0 P w K mg (hidT t.heap H) callerA [] t H :=
    ⟨rfl, ⟨inH, nsH nsM, ⟨mb, nsH nsB, boots⟩, limH⟩, fun _ _ z => of_hidT z, Nat.le_of_eq (hidT_size _ _), True.intro, fun b z => (List.not_mem_nil (show b ∈ ([] : List Addr) from z)).elim, hok, .of_eq noGen⟩
  refine codeAny_mono ((F _ inH (nsH nsM)).run callerA [] t H ⟨[.ref a], []⟩ [.ref a] [.ref a] _ _ rfl room env (bind t (.ref a)) (.cons rfl .nil) (said H ro)) ?_
  intro r s' z
  cases r with
  | error e => exact (quiet H e s' z).elim
  | ok fl =>
    cases fl with
    | ret u =>
      obtain ⟨v, H', os, bare, un, hok', rv, e⟩ := z
      have e' : v = .bl true := e
      subst e'
      cases rv
      refine ⟨rfl, OldK.of_keep fun b o z => ?_, os, bare⟩
      cases q : H b with
      | none => exact un.keep b o z q (by simp [frs]) (by simp)
      | some u =>
        obtain ⟨rfl, ob, xs, rfl⟩ := one b u q
        obtain ⟨z1, _⟩ := hok b _ q
        obtain ⟨z2, _⟩ := hok' b _ (un.frzs b ob _ q)
        rw [z] at z1
        cases z1
        exact z2
    | next => cases z
    | brk => cases z
    | cont => cases z
theorem rm_nil {K : PySem.W.Frag} {H : Hp} : RM0 K H M0 := by
  intro a o h
  cases h
/-- the goal that k_head leaves, from the law's def -/
theorem law_end {l : PySem.W.OpenLaw} {k : Nat} {q : Program} {loose : List Str} {XP : (Str → Option Value) → Heap → Prop} {YP : World → Heap → Prop} {d : DefRec} {K : Params → PySem.W.Frag} {CX : Program → World → CXT} {sp : Sp3} {x : Str}
    (hn : l.most = some 63) (hdf : d.params.defaults = []) (room : Room k callerA) (hY : ∀ (w : World) (h : Heap), YP w h → (K w.params).In h)
    (F : ∀ (w : World) (mg : Str → Option Value) (fa : Addr) (h : Heap), (K w.params).In h → h.Ns mainGlobals mg → mg d.name = some (.ref fa) →
      ∃ fd : FuncData, (∀ (s : Shared) (u : Value), BindsTo s fd ⟨[u], []⟩ [(x, u)]) ∧
        ∀ base : Heap, (K w.params).In base → base.Ns mainGlobals mg → FnG l.prog w (K w.params) mg base (CX l.prog w) k fa fd [x] (liftSp (K w.params) sp))
    (said : ∀ ns : List Int, ns.length ≤ 63 → sp [.rol (ns.map D.int)] M0 (fun v _ => v = .bl true) (fun _ _ _ => False))
    (quiet : ∀ (P : Program) (w : World) (H : Hp) (s : Shared) (e : Value) (s' : Shared), CX P w [] H s (fun _ _ _ => False) e s' → False) :
    PySem.W.WalkO q loose XP YP l.row.toRowW d [] (fun f vs => PySem.call f vs) := by
  refine Att.attach_call hn hdf ?_
  intro w s0 t mg mb fa o pm cd doc a vs ns G Y ho hd hcd hmg hobj hints hlen hg
  have inK := hY w _ Y
  obtain ⟨fd, hb, hF⟩ := F w mg fa _ inK G.T.g hmg
  refine law_at inK G.T.g G.T.b G.T.builtins G.T.nolimit hg hobj hints (Nat.le_trans hlen (by decide)) room hF hb (fun H ro => ?_) fun H e s' => quiet l.prog w H t e s'
  refine ⟨[.rol (ns.map D.int)], M0, _, _, .cons (.rol ro (RDs.ofInts ns)) .nil, rm_nil, said ns hlen, fun v H' d' M' _ _ rd e => ?_, fun _ _ _ _ _ _ _ _ _ z => z⟩
  subst e
  cases rd
  rfl
end L3
set_option Elab.async false
set_option linter.all false
set_option maxRecDepth 100000
set_option maxHeartbeats 4000000
namespace L3
open PySem PySem.Spec PyProof.Rows L2
/-- no exception -/
def X0 : XK3 := fun _ _ _ => False
theorem passX1 {bs : BS} {X : Cx} : PassX bs (L2.CX X.prog X.w) X X0 := ⟨E0, passL, fun _ _ _ _ _ _ _ _ _ z => z.elim⟩
theorem passXE {bs : BS} {P : Program} {w : World} {K : PySem.W.Frag} {mg : Str → Option Value} {base : Heap} {N : List Str} {qual : Str} {scope : Scope} {f : Addr} {cd : Value} {A : Around} {outer : List Env} {s : Shared} {H : Hp} {E : XK} {E3 : XK3}
    (h : ∀ n c a H' fs M', RM0 K H' M' → bs.ok M' H' → RX K H' n c a fs → E3 n fs M' → E c a H') : PassX bs (L2.CX P w) (cxOf (L2.CX P w) P w K mg base N qual scope f cd A outer s H E) E3 :=
  ⟨E, passes_call (W := fun c a _ H => E c a H) (takes_of rfl rfl rfl rfl) (fun _ _ _ _ z => z), h⟩
theorem quietX : ∀ (P : Program) (w : World) (H : Hp) (s : Shared) (e : Value) (s' : Shared), L2.CX P w [] H s (fun _ _ _ => False) e s' → False := by
  intro P w H s e s' h
  obtain ⟨_, _, _, _, _, _, _, _, _, _, _, _, z⟩ := h
  exact z.elim
theorem hu_more {k : Nat} {A : Around} (r : Room k A) : A.units + 64 + 100 < cLine := by have := r.un; omega
def wgTupN (n : Nat) (t : TGs3) : TG3 := fun d τ M Q => match d with
  | .tup ds => ds.length = n ∧ t ds τ M Q
  | _ => False
section
variable {bs : BS} {X : Cx} {e b : Expr} {es : List Expr} {te tb : TE3} {pos : Pos}
theorem g_tupN {es : List Expr} {k n : Nat} {ix : List Nat} {t : TGs3} (hc : X.calm = true) (h : PGs3 bs X es ix t)
    (hn : (assignEach es X.env).length = n := by rfl) (hst : (assignEach es X.env).findIdx? (·.1) = none := by rfl) : PG3 bs X (.Tuple es k pos) ix (wgTupN n t) := g_tup hc h hn hst
/-- [e] * k: the list of one is forgotten -/
def wRep (te tb : TE3) : TE3 := fun τ M Q => te τ M fun d M1 => tb τ M1 fun i M2 => match i with
  | .int k => -(2 ^ 63) ≤ k ∧ k < 2 ^ 63 ∧ k.toNat ≤ sizeLine ∧ ∀ p, M2 p = none → Q (.ref p) (mset M2 p (.lst (List.replicate k.toNat d)))
  | _ => False
end
end L3
set_option Elab.async false
set_option linter.all false
set_option maxRecDepth 100000
set_option maxHeartbeats 4000000
namespace L3
open PySem PySem.Spec PyProof.Rows L2
section
variable {bs : BS} {X : Cx} {a b : Expr} {ta tb : TE3} {pos p p2 pos2 : Pos}
def wTupRg1 (ta : TE3) : TE3 := fun τ M Q => ta τ M fun d M1 => asI d fun n => (-(2 ^ 62) ≤ n ∧ n ≤ 16777216) ∧ Q (.tup (rgD 0 n.toNat)) M1
end
end L3
set_option Elab.async false
set_option linter.all false
set_option maxRecDepth 100000
set_option maxHeartbeats 4000000
namespace L3
open PySem PySem.Spec PyProof.Rows L2
section
variable {bs : BS} {X : Cx}
def wTupRg2 (ta tb : TE3) : TE3 := fun τ M Q => ta τ M fun d M1 => tb τ M1 fun e M2 => asI d fun i => asI e fun j => (-(2 ^ 60) ≤ i ∧ i < 2 ^ 60 ∧ -(2 ^ 60) ≤ j ∧ j < 2 ^ 60 ∧ j - i ≤ 16777216) ∧ Q (.tup (rgD i (j - i).toNat)) M2
end
end L3
set_option Elab.async false
set_option linter.all false
set_option maxRecDepth 100000
set_option maxHeartbeats 4000000
namespace L3
open PySem PySem.Spec PyProof.Rows L2
/-- a new list may be taken as a thing that nobody writes -/
def FQ (Q : VK) : VK := fun v H => Q v H ∨ ∃ p vs, H p = some (.lst vs) ∧ ∀ o, Q v (upd H p (.frz o (.lst vs)))
section
variable {X : Cx} {pins : List (Addr × Obj)} {σ : L2.St} {H : Hp} {s : Shared}
theorem inv_frz {p : Addr} {vs : List V} (I : Inv X pins σ H s) (h : H p = some (.lst vs)) : ∃ o, Inv X pins σ (upd H p (.frz o (.lst vs))) s := by
  obtain ⟨z, its, n, r, e⟩ := I.hok p _ h
  have hok : HOk X.prog X.w (upd H p (.frz { cls := .type "list", data := .seq its.toArray n } (.lst vs))) s.heap := by
    intro b u q
    by_cases hb : b = p
    · subst hb
      rw [upd_same] at q
      cases q
      exact ⟨e, z, its, n, r, e⟩
    · rw [upd_ne hb] at q
      refine (I.hok b u q).stay (fun _ _ _ w => w) (fun c w => ?_) fun c xs w => ?_
      · rw [upd_ne (by intro y; subst y; rw [h] at w; cases w)]; exact w
      · rw [upd_ne (by intro y; subst y; rw [h] at w; cases w)]; exact w
  refine ⟨_, I.un (h' := s.heap) (t' := s.toks) (H' := upd H p (.frz { cls := .type "list", data := .seq its.toArray n } (.lst vs))) ⟨fun _ _ q _ _ _ => q, fun b o q _ _ _ => ⟨o.slots, q⟩, fun b o q n' _ => ?_, fun b o q _ => ⟨o, q⟩, fun b xs q => ?_, fun b o u q => ?_, fun b ps q => ⟨#[], ?_⟩⟩ hok⟩
  · rw [upd_ne (by intro w; subst w; rw [n'] at h; cases h)]; exact n'
  · rw [upd_ne (by intro w; subst w; rw [h] at q; cases q)]; exact q
  · rw [upd_ne (by intro w; subst w; rw [h] at q; cases q)]; exact q
  · rw [upd_ne (by intro w; subst w; rw [h] at q; cases q), q]; simp
theorem ep_frz {Q : VK} {u : Value} (h : EP X pins σ (FQ Q) u s) : EP X pins σ Q u s := by
  obtain ⟨v, H', I, r, q | ⟨p, vs, hp, k⟩⟩ := h
  · exact ⟨v, H', I, r, q⟩
  · obtain ⟨o, I'⟩ := inv_frz I hp
    exact ⟨v, _, I', r, k o⟩
end
section
variable {X : Cx}
theorem PE_frz {e : Expr} {t : TE} (h : PE X e t) : PE X e fun σ H Q => t σ H (FQ Q) := ⟨fun pins s σ H Q I q => thn (h.run pins s σ H _ I q) fun _ _ => ep_frz⟩
theorem OpR_frz {f : Value → Value → Sem Value} {r : R2} (h : OpR X f r) : OpR X f fun x y H Q => r x y H (FQ Q) := fun pins s σ H x y v u Q I r1 r2 q => thn (h pins s σ H x y v u _ I r1 r2 q) fun _ _ => ep_frz
theorem CallR_frz {f : Value} {r : List V → Hp → VK → Prop} (h : CallR X f r) : CallR X f fun xs H Q => r xs H (FQ Q) := fun pins s σ H xs us Q I r1 q => thn (h pins s σ H xs us _ I r1 q) fun _ _ => ep_frz
end
section
variable {K : PySem.W.Frag} {bs : BS} {M M1 : Mp} {H H1 : Hp} {p : Addr} {vs : List V} {ds : List D} {Q : VK}
theorem still_frz {o : Obj} (h : H p = some (.lst vs)) : Still K H (upd H p (.frz o (.lst vs))) := by
  refine ⟨fun a xs q => ?_, fun a xs q => ?_⟩
  · rcases q with (q | ⟨u, q⟩) | q
    · exact .inl (.inl (by rw [upd_ne (by intro z; subst z; rw [h] at q; cases q)]; exact q))
    · exact .inl (.inr ⟨u, by rw [upd_ne (by intro z; subst z; rw [h] at q; cases q)]; exact q⟩)
    · exact .inr q
  · rcases q with ⟨u, q⟩ | q
    · exact .inl ⟨u, by rw [upd_ne (by intro z; subst z; rw [h] at q; cases q)]; exact q⟩
    · exact .inr q
/-- a list just laid -/
theorem fq_new (m : RM K bs H M) (hp : H p = none) (r : RDs K H vs ds) (k : ∀ H', Ext M M H H' → RM K bs H' M → RD K H' (.ref p) (.rol ds) → Q (.ref p) H') : FQ Q (.ref p) (upd H p (.lst vs)) := by
  refine .inr ⟨p, vs, upd_same, fun o => ?_⟩
  rw [upd_upd]
  obtain ⟨x2, m2⟩ := m.upNew (o := .frz o (.lst vs)) hp
  exact k _ x2 m2 (.rol (.inl ⟨o, upd_same⟩) (r.go (x2.still m)))
end
/-- M without a -/
def mdel (M : Mp) (a : Addr) : Mp := fun b => if b = a then none else M b
/-- a list in M is taken out, as data -/
def frzK (Q : VK3) : VK3 := fun d M => match d with
  | .ref p => match M p with
    | some (.lst ds) => Q (.rol ds) (mdel M p)
    | _ => False
  | d => Q d M
def wFrz (te : TE3) : TE3 := fun τ M Q => te τ M (frzK Q)
section
variable {bs : BS} {X : Cx} {e a b : Expr} {te ta tb : TE3} {t : TA3} {es : List Expr} {pos : Pos}
def wLstF (t : TA3) : TE3 := fun τ M Q => t τ M fun xs M1 => xs.length ≤ sizeLine ∧ Q (.rol xs) M1
theorem e_lstF (h : PA3 bs X es t) : PE3 bs X (.List es pos) (wLstF t) := by
  refine PE.weak (PE_frz (pe_lst h)) ?_
  rintro σ H Q ⟨τ, M, Q3, e, m, q, k⟩
  refine ⟨τ, M, _, e, m, q, fun zs H1 ds M1 x1 m1 r1 q1 => ⟨by rw [r1.length]; exact q1.1, fun p hp => ?_⟩⟩
  exact fq_new m1 hp r1 fun H' x2 m2 r2 => k _ H' _ M1 (x1.trans x2) m2 r2 q1.2
def wRepF (te tb : TE3) : TE3 := fun τ M Q => te τ M fun d M1 => tb τ M1 fun i M2 => asI i fun k => -(2 ^ 63) ≤ k ∧ k < 2 ^ 63 ∧ k.toNat ≤ sizeLine ∧ Q (.rol (List.replicate k.toNat d)) M2
variable {p p2 pos2 : Pos}
def wLstRgF1 (ta : TE3) : TE3 := fun τ M Q => ta τ M fun d M1 => asI d fun n => (-(2 ^ 62) ≤ n ∧ n ≤ 16777216) ∧ Q (.rol (rgD 0 n.toNat)) M1
def wLstRgF2 (ta tb : TE3) : TE3 := fun τ M Q => ta τ M fun d M1 => tb τ M1 fun e M2 => asI d fun i => asI e fun j => (-(2 ^ 60) ≤ i ∧ i < 2 ^ 60 ∧ -(2 ^ 60) ≤ j ∧ j < 2 ^ 60 ∧ j - i ≤ 16777216) ∧ Q (.rol (rgD i (j - i).toNat)) M2
end
section
variable {bs : BS} {X : Cx} {elt tg iter : Expr} {ifs : List Expr} {scope : Scope} {own : List (Str × Nat)} {pos : Pos} {wi : TI3} {g : TG3} {tt : TT3} {te : TE3} {ix : List Nat}
def wLcF (wi : TI3) (g : TG3) (tt : TT3) (te : TE3) (vs : List Nat) : TE3 := fun τ M Q => wLcL wi g tt te vs τ M fun acc M2 => Q (.rol acc) M2
theorem ext_frz {M M' : Mp} {H H' : Hp} {L : Addr} {vs : List V} {o : Obj} (x : Ext M M' H H') (hv : H' L = some (.lst vs)) (hf : M' L = none) (z : M L ≠ none ∨ H L = none) : Ext M M' H (upd H' L (.frz o (.lst vs))) := by
  refine ⟨fun a u ha hm => ?_, x.dom⟩
  by_cases e : a = L
  · subst e
    rcases z with z | z
    · exact absurd hm z
    · rw [ha] at z; cases z
  · rw [upd_ne e]; exact x.fr a u ha hm
theorem lift_lcF (hix : ∀ i ∈ ix, i ∈ own.map (·.2)) : ∀ σ H (Q : VK), lift X.K bs (wLcF wi g tt te (own.map (·.2))) σ H Q → tLc (liftI X.K bs wi) (liftG X.K bs ix g) (liftT X.K bs tt) (lift X.K bs te) (own.map (·.2)) σ H (FQ Q) := by
  rintro σ H Q ⟨τ, M, Q3, e, m, q, k⟩
  refine lift_lcL hix σ H _ ⟨τ, M, _, e, m, q, fun L H' acc M' x m' f z q' => ?_⟩
  obtain ⟨vs, hv, r⟩ := f.lst
  refine .inr ⟨L, vs, hv, fun o => ?_⟩
  have st := still_frz (K := X.K) (o := o) hv
  have y := ext_frz (o := o) x hv f.free z
  refine k (.ref L) _ (.rol acc) M' y (m.to y fun a u h => (m'.m a u h).go st fun w hw => ?_) (.rol (.inl ⟨o, upd_same⟩) (r.go st)) q'
  rw [upd_ne (ne_m h f.free)]; exact hw
theorem e_lcF (hix : ∀ i ∈ ix, i ∈ own.map (·.2)) (hc : X.calm = true) (hN : X.N.Nodup) (hi : PI3 bs X tg iter wi) (ok : BlkOk X.N X.env.scope scope own)
    (hg : ∀ (s : Shared) (H : Hp) (C : Addr) (cl : List (Str × Addr)) (fp : List Addr), PG3 bs (X.blk s H scope (compEnvC scope cl C X.env) fp) tg ix g)
    (ht : ∀ (s : Shared) (H : Hp) (C : Addr) (cl : List (Str × Addr)) (fp : List Addr), PTs3 bs (X.blk s H scope (compEnvC scope cl C X.env) fp) ifs tt)
    (he : ∀ (s : Shared) (H : Hp) (C : Addr) (cl : List (Str × Addr)) (fp : List Addr), PE3 bs (X.blk s H scope (compEnvC scope cl C X.env) fp) elt te) (hs : ∀ x, foldedSetIterable iter X.env x = pure x := by intro _; rfl) :
    PE3 bs X (.ListComp elt [⟨tg, iter, ifs, 0⟩] scope pos) (wLcF wi g tt te (own.map (·.2))) :=
  PE.weak (PE_frz (pe_lc (g := liftG X.K bs ix g) (tt := liftT X.K bs tt) (te := lift X.K bs te) hc hN hi ok hg ht he hs)) (lift_lcF hix)
end
def LstV (K : PySem.W.Frag) (H : Hp) (a : Addr) (xs : List V) : Prop := H a = some (.lst xs) ∨ RoL K H a xs
theorem LstV.sq {K : PySem.W.Frag} {H : Hp} {a : Addr} {xs : List V} (h : LstV K H a xs) : SqL K H a xs := by
  rcases h with h | h
  · exact SqL.of h
  · exact h.sq
def lstI (M : Mp) : D → Option (List D)
  | .rol ds => some ds
  | .ref a => lstOf (M a)
  | _ => none
theorem lst_of {K : PySem.W.Frag} {H : Hp} {M : Mp} {v : V} {d : D} {ds : List D} (m : RM0 K H M) (r : RD K H v d) (h : lstI M d = some ds) : ∃ p vs, v = .ref p ∧ LstV K H p vs ∧ RDs K H vs ds := by
  cases d with
  | rol es =>
    cases r with
    | rol h1 h2 => cases h; exact ⟨_, _, rfl, .inr h1, h2⟩
  | ref a =>
    cases r
    obtain ⟨vs, hv, l⟩ := m a _ (lstOf_some h)
    exact ⟨_, _, rfl, .inl hv, l⟩
  | _ => cases h
theorem inv_lstV {X : Cx} {pins : List (Addr × Obj)} {σ : L2.St} {H : Hp} {s : Shared} {l : Addr} {xs : List V} (I : Inv X pins σ H s) (h : LstV X.K H l xs) :
    xs.length ≤ sizeLine ∧ ∃ (its : List Value) (n : Nat), Vals xs its ∧ xs.length = its.length ∧ s.heap.get? l = some { cls := .type "list", data := .seq its.toArray n } := by
  rcases h with h | ⟨o, h⟩ | ⟨its, n, h, z, v⟩
  · obtain ⟨z, its, n, r, e⟩ := I.hok l _ h
    exact ⟨z, its, n, r, r.length, e⟩
  · obtain ⟨_, z, its, n, r, e⟩ := I.hok l _ h
    exact ⟨z, its, n, r, r.length, e⟩
  · have e := I.kIn l _ h
    have hl := v.length
    exact ⟨by rw [hl, Array.length_toList]; exact z, its.toList, n, v, hl, by simpa using e⟩
section
variable {bs : BS} {X : Cx}
def rCatV (K : PySem.W.Frag) : R2 := fun x y H Q => ∃ l b xs zs, x = .ref l ∧ y = .ref b ∧ LstV K H l xs ∧ LstV K H b zs ∧ xs.length + zs.length ≤ sizeLine ∧ ∀ p, H p = none → Q (.ref p) (upd H p (.lst (xs ++ zs)))
theorem op_catV : OpR X (binaryOp .Add) (rCatV X.K) := by
  intro pins s σ H x y v u Q I rx ry h
  obtain ⟨l, b, xs, zs, rfl, rfl, hH, hB, hz, q⟩ := h
  cases rx
  cases ry
  obtain ⟨z, its, n, r, hl, e⟩ := inv_lstV I hH
  obtain ⟨z2, its2, n2, r2, hl2, e2⟩ := inv_lstV I hB
  refine PySem.P.add_list e e2 ?_ (by rw [List.size_toArray, List.size_toArray]; omega)
  have ea : its.toArray ++ its2.toArray = (its ++ its2).toArray := by simp
  rw [ea]
  exact ⟨.ref _, _, I.lnew (t' := s.toks) (r.append r2) (by rw [List.length_append]; omega), rfl, q _ I.fresh⟩
def catL (xs ys : List D) (M : Mp) (Q : VK3) : Prop := xs.length + ys.length ≤ sizeLine ∧ Q (.rol (xs ++ ys)) M
def catM (xs ys : List D) (M : Mp) (Q : VK3) : Prop := xs.length + ys.length ≤ sizeLine ∧ ∀ p, M p = none → Q (.ref p) (mset M p (.lst (xs ++ ys)))
/-- + whose list is data -/
def oAddF : R23 := fun d e M Q => match d with
  | .int _ => oAdd d e M Q
  | .str _ => oAdd d e M Q
  | .tup _ => oAdd d e M Q
  | d => asL (lstI M d) fun xs => asL (lstI M e) fun ys => catL xs ys M Q
/-- + whose list may be written -/
def oAddM : R23 := fun d e M Q => asL (lstI M d) fun xs => asL (lstI M e) fun ys => catM xs ys M Q
theorem op3w {f : Value → Value → Sem Value} {r : R23} {d e : D} {x y : V} {H : Hp} {M : Mp} {Q : VK} {Q3 : VK3} (ho : OpR X f (lift2 X.K bs r)) (r1 : RD X.K H x d) (r2 : RD X.K H y e) (m : RM X.K bs H M) (q : r d e M Q3)
    (k : ∀ v H' z M', Ext M M' H H' → RM X.K bs H' M' → RD X.K H' v z → Q3 z M' → Q v H') : ∃ r2 : R2, OpR X f r2 ∧ r2 x y H Q := ⟨_, ho, d, e, M, Q3, r1, r2, m, q, k⟩
theorem o_addF : OpR X (binaryOp .Add) (lift2 X.K bs oAddF) := op3 fun d e x y H M Q Q3 r1 r2 m q k => by
  have li : (asL (lstI M d) fun xs => asL (lstI M e) fun ys => catL xs ys M Q3) → ∃ r2 : R2, OpR X (binaryOp .Add) r2 ∧ r2 x y H Q := fun q => by
    unfold asL at q
    split at q
    · rename_i xs hx
      split at q
      · rename_i ys hy
        obtain ⟨a, vs, rfl, hv, l1⟩ := lst_of m.m r1 hx
        obtain ⟨b, ws, rfl, hw, l2⟩ := lst_of m.m r2 hy
        refine ⟨_, OpR_frz op_catV, a, b, vs, ws, rfl, rfl, hv, hw, by rw [l1.length, l2.length]; exact q.1, fun p hp => ?_⟩
        exact fq_new m hp (l1.app l2) fun H' x2 m2 r3 => k _ H' _ M x2 m2 r3 q.2
      · exact False.elim q
    · exact False.elim q
  cases d with
  | int _ => exact op3w o_add r1 r2 m q k
  | str _ => exact op3w o_add r1 r2 m q k
  | tup _ => exact op3w o_add r1 r2 m q k
  | _ => exact li q
def rRepV (K : PySem.W.Frag) : R2 := fun x y H Q => ∃ l k xs, x = .ref l ∧ y = .int k ∧ LstV K H l xs ∧ -(2 ^ 63) ≤ k ∧ k < 2 ^ 63 ∧ xs.length * k.toNat ≤ sizeLine ∧
  ∀ p, H p = none → Q (.ref p) (upd H p (.lst (List.replicate k.toNat xs).flatten))
theorem op_repV : OpR X (binaryOp .Mult) (rRepV X.K) := by
  intro pins s σ H x y v u Q I rx ry h
  obtain ⟨l, k, xs, rfl, rfl, hH, h1, h2, hz, q⟩ := h
  cases rx
  obtain ⟨t, rfl⟩ := ry
  obtain ⟨z, its, n, r, hl, e⟩ := inv_lstV I hH
  have hlen : its.toArray.size * k.toNat ≤ sizeLine := by rw [List.size_toArray, ← hl]; exact hz
  have hcap : ¬ its.toArray.size * k.toNat > (2 ^ 63 - 1) / 8 := by
    have : (sizeLine : Nat) ≤ (2 ^ 63 - 1) / 8 := by decide
    omega
  have hfit : ¬ (!Builtin.List.listFitsIndex k) = true := by
    rw [fitsIndex_both h1 h2]
    exact Bool.false_ne_true
  have hlong : ¬ Builtin.List.listTooLong (its.toArray.size * k.toNat) = true := by
    rw [notLongL hlen]
    exact Bool.false_ne_true
  have hnew : List.foldl (fun x1 x2 => x1 ++ x2) #[] (List.replicate (if its.toArray.isEmpty = true then 0 else k.toNat) its.toArray) = (List.replicate k.toNat its).flatten.toArray := by
    have f0 : ∀ m : Nat, List.foldl (fun x1 x2 => x1 ++ x2) #[] (List.replicate m its.toArray) = (List.replicate m its).flatten.toArray := fun m => by
      have := foldl_rep its m []
      rw [List.nil_append] at this
      exact this
    rw [f0]
    cases its with
    | nil => simp
    | cons a r' => rw [if_neg (by simp)]
  refine wpAny_binaryOp_repeat_ref (T := "list") (U := "int") (by decide) ⟨_, e, rfl⟩ (fun s' => typeIs_int s' k t) noFill_list_mul F.fills_int_mul F.slot_int_rmul repeat_list F.slot_int_index.lookup
    (call_meets F.slot_int_rmul (typeIs_int s k t) F.entry_int_rmul (F.args_int_rmul_2 _ _) (int___rmul___int_list k t l its.toArray n)
      ⟨e, rfl, ⟨_, e, rfl⟩, call_meets F.slot_list_mul ⟨_, e, rfl⟩ F.entry_list_mul (F.args_list_mul_2 _ _) (AutoListH.list___mul___list_int_3 l its.toArray n k t hfit hcap hlong) ⟨e, ?_⟩⟩)
  rw [hnew]
  exact ⟨.ref _, _, I.lnew (t' := s.toks) (r.rep k.toNat) (by rw [PyProof.Rows.lm_len_rep_flat, Nat.mul_comm]; exact hz), rfl, q _ I.fresh⟩
/-- * whose list is data -/
def repL (xs : List D) (e : D) (M : Mp) (Q : VK3) : Prop := asI e fun k => -(2 ^ 63) ≤ k ∧ k < 2 ^ 63 ∧ xs.length * k.toNat ≤ sizeLine ∧ Q (.rol (List.replicate k.toNat xs).flatten) M
def oMulF : R23 := fun d e M Q => match d with
  | .int _ => oMul d e M Q
  | d => asL (lstI M d) fun xs => repL xs e M Q
theorem o_mulF : OpR X (binaryOp .Mult) (lift2 X.K bs oMulF) := op3 fun d e x y H M Q Q3 r1 r2 m q k => by
  have li : (asL (lstI M d) fun xs => repL xs e M Q3) → ∃ r2 : R2, OpR X (binaryOp .Mult) r2 ∧ r2 x y H Q := fun q => by
    unfold asL at q
    split at q
    · rename_i xs hx
      cases e with
      | int n =>
        cases r2
        obtain ⟨a, vs, rfl, hv, l1⟩ := lst_of m.m r1 hx
        obtain ⟨q1, q2, q3, q4⟩ := q
        refine ⟨_, OpR_frz op_repV, a, n, vs, rfl, rfl, hv, q1, q2, by rw [l1.length]; exact q3, fun p hp => ?_⟩
        exact fq_new m hp (l1.rep n.toNat) fun H' x2 m2 r3 => k _ H' _ M x2 m2 r3 q4
      | _ => exact False.elim q
    · exact False.elim q
  cases d with
  | int _ => exact op3w o_mul r1 r2 m q k
  | _ => exact li q
def oSlF : D → Option Int → Option Int → Mp → VK3 → Prop := fun d lo hi M Q => match d with
  | .tup ds => Q (.tup (cutD ds lo hi)) M
  | d => asL (lstI M d) fun ds => Q (.rol (cutD ds lo hi)) M
def oSlM : D → Option Int → Option Int → Mp → VK3 → Prop := fun d lo hi M Q => asL (lstI M d) fun ds => ∀ p, M p = none → Q (.ref p) (mset M p (.lst (cutD ds lo hi)))
theorem s_slF : SlR X (fun x lo hi H Q => ∃ d M Q3, RD X.K H x d ∧ RM X.K bs H M ∧ oSlF d lo hi M Q3 ∧ ∀ v H' z M', Ext M M' H H' → RM X.K bs H' M' → RD X.K H' v z → Q3 z M' → Q v H') := by
  rintro pins s σ H x v vl vu lo hi sl Q I rx hs pl pu ⟨d, M, Q3, r, m, q, k⟩
  have li : (asL (lstI M d) fun ds => Q3 (.rol (cutD ds lo hi)) M) → ∃ T id, typeLookup (.type T) "__getitem__" = pure (some (.builtin id)) ∧ s.TypeIs v T ∧ wpAny (model X.prog X.w) X.A (getItem v (.ref sl)) (EP X pins σ Q) X.xe s := fun q => by
    unfold asL at q
    split at q
    · rename_i ds hd
      obtain ⟨a, vs, rfl, hv, l⟩ := lst_of m.m r hd
      obtain ⟨T, id, w1, w2, w3⟩ := sl_list pins s σ H _ v vl vu lo hi sl (FQ Q) I rx hs pl pu ⟨_, _, rfl, hv.sq, fun p hp => fq_new m hp (cut_rel l lo hi) fun H' x2 m2 r2 => k _ H' _ M x2 m2 r2 q⟩
      exact ⟨T, id, w1, w2, thn w3 fun _ _ => ep_frz⟩
    · exact False.elim q
  cases d with
  | tup ds => exact s_sl pins s σ H x v vl vu lo hi sl Q I rx hs pl pu ⟨_, M, Q3, r, m, q, k⟩
  | _ => exact li q
abbrev PT3o := St3 → Mp → (Option Int → Mp → Prop) → Prop
def wSlF (te : TE3) (tl th : PT3o) : TE3 := fun τ M Q => te τ M fun d M1 => tl τ M1 fun lo M2 => th τ M2 fun hi M3 => oSlF d lo hi M3 Q
def wSlM (te : TE3) (tl th : PT3o) : TE3 := fun τ M Q => te τ M fun d M1 => tl τ M1 fun lo M2 => th τ M2 fun hi M3 => oSlM d lo hi M3 Q
theorem e_sliceF {e : Expr} {lo hi : Option Expr} {te : TE3} {tl th : PT3o} {pos p2 : Pos} (he : PE3 bs X e te) (hl : PO3 bs X lo tl) (hh : PO3 bs X hi th) : PE3 bs X (.Subscript e (.Slice lo hi none p2) pos) (wSlF te tl th) := by
  refine PE.weak (pe_slice (s_slF (bs := bs)) he hl hh) ?_
  rintro σ H Q ⟨τ, M, Q3, e, m, q, k⟩
  refine ⟨τ, M, _, e, m, q, fun v H1 d M1 x1 m1 r1 q1 => ⟨τ, M1, _, e.go (x1.still m), m1, q1, fun lo H2 M2 x2 m2 q2 => ⟨τ, M2, _, (e.go (x1.still m)).go (x2.still m1), m2, q2, fun hi H3 M3 x3 m3 q3 => ?_⟩⟩⟩
  exact ⟨d, M3, Q3, (r1.go (x2.still m1)).go (x3.still m2), m3, q3, fun v H' z M' x4 m4 r4 q4 => k v H' z M' (x1.trans (x2.trans (x3.trans x4))) m4 r4 q4⟩
def bListF : List D → Mp → VK3 → Prop := b1 fun d M Q => asL (items M d) fun ds => Q (.rol ds) M
theorem c_listF : CallR X (.type "list") (liftV X.K bs bListF) := call1 fun d x H M Q Q3 r m q k => by
  unfold asL at q
  split at q
  · rename_i ds hd
    obtain ⟨p, vs, rfl, hs, l⟩ := items_of m.m r hd
    refine ⟨_, CallR_frz call_list_of, p, vs, rfl, hs, fun c hc => ?_⟩
    exact fq_new m hc l fun H' x2 m2 r2 => k _ H' _ M x2 m2 r2 q
  · exact False.elim q
def asT (o : Option (List Bool)) (k : List Bool → Prop) : Prop := match o with
  | some l => k l
  | none => False
def bAllF : List D → Mp → VK3 → Prop := b1 fun d M Q => asL (lstI M d) fun ds => asT (bls ds) fun l => Q (.bl (l.all id)) M
def bAnyF : List D → Mp → VK3 → Prop := b1 fun d M Q => asL (lstI M d) fun ds => asT (bls ds) fun l => Q (.bl (l.any id)) M
def asJ (o : Option (List Int)) (k : List Int → Prop) : Prop := match o with
  | some l => k l
  | none => False
end
end L3
set_option Elab.async false
set_option linter.all false
set_option maxRecDepth 100000
set_option maxHeartbeats 4000000
namespace L3
open PySem PySem.Spec PyProof.Rows L2
end L3
set_option Elab.async false
set_option linter.all false
set_option maxRecDepth 100000
set_option maxHeartbeats 4000000
namespace L3
open PySem PySem.Spec PyProof.Rows L2
end L3
set_option Elab.async false
set_option linter.all false
set_option maxRecDepth 100000
set_option maxHeartbeats 4000000
namespace L3
open PySem PySem.Spec PyProof.Rows L2 HT
variable {bs : BS} {X : Cx}
section
variable {prog : Program} {w : World} {A : Around} {E : Value → Shared → Prop} {s : Shared}
def cutLo (lo hi : Option Int) (st : Int) (n : Nat) : Int := (Builtin.Slice.sliceAdjust lo hi st (n : Int)).1
def cutN (lo hi : Option Int) (st : Int) (n : Nat) : Nat := Builtin.Slice.slicePlaces (Builtin.Slice.sliceAdjust lo hi st (n : Int)).1 (Builtin.Slice.sliceAdjust lo hi st (n : Int)).2 st
def cutS (xs : List Value) (lo hi : Option Int) (st : Int) : List Value := (List.range (cutN lo hi st xs.length)).filterMap fun (k : Nat) => xs[(cutLo lo hi st xs.length + (k : Int) * st).toNat]?
end
theorem RDs.reverse {K : PySem.W.Frag} {H : Hp} : ∀ {vs : List V} {ds : List D}, RDs K H vs ds → RDs K H vs.reverse ds.reverse
  | _, _, .nil => .nil
  | _, _, .cons r t => by
    rw [List.reverse_cons, List.reverse_cons]
    exact t.reverse.app (.cons r .nil)
end L3
set_option Elab.async false
set_option linter.all false
set_option maxRecDepth 100000
set_option maxHeartbeats 4000000
namespace L3
open PySem PySem.Spec PyProof.Rows L2
end L3
set_option Elab.async false
set_option linter.all false
set_option maxRecDepth 100000
set_option maxHeartbeats 4000000
namespace L3
open PySem PySem.Spec PyProof.Rows L2
variable {bs : BS} {X : Cx}
def tyM : Option MO → Option String
  | some (.lst _) => some "list"
  | some (.dK _) => some "dict"
  | some (.dT _) => some "dict"
  | _ => none
def tyN (M : Mp) : D → Option String
  | .non => some "NoneType"
  | .bl _ => some "bool"
  | .int _ => some "int"
  | .str _ => some "str"
  | .tup _ => some "tuple"
  | .rol _ => some "list"
  | .ref a => tyM (M a)
  | .ty _ => none
theorem tyx_of {K : PySem.W.Frag} {H : Hp} {M : Mp} {v : V} {d : D} {n : String} (m : RM0 K H M) (r : RD K H v d) (h : tyN M d = some n) : TyX K H v (.type n) := by
  cases d with
  | non => cases r; cases h; exact .base .non
  | bl b => cases r; cases h; exact .base (.bl b)
  | int i => cases r; cases h; exact .base (.int i)
  | str x => cases r; cases h; exact .base (.str x)
  | tup ds =>
    cases r with
    | tup h1 h2 =>
      cases h
      rcases h1 with (e | ⟨o, e⟩) | ⟨o, its, n, e, c, _⟩
      · exact .base (.tup e)
      · exact .fTuple e
      · exact .kTuple e c
  | rol ds =>
    cases r with
    | rol h1 h2 =>
      cases h
      rcases h1 with ⟨o, e⟩ | ⟨its, n, e, _⟩
      · exact .base (.frz e)
      · exact .kList e rfl
  | ref a =>
    cases r
    have h : tyM (M a) = some n := h
    cases q : M a with
    | none => rw [q] at h; cases h
    | some o =>
      rw [q] at h
      have ro := m a o q
      cases o with
      | lst ds => cases h; obtain ⟨vs, e, _⟩ := ro; exact .base (.lst e)
      | dK ds => cases h; obtain ⟨vs, e, _⟩ := ro; exact .base (.dK e)
      | dT ds => cases h; obtain ⟨vs, e, _⟩ := ro; exact .base (.dT e)
      | dL o ks ds => cases h
      | dM o ks ds => cases h
      | ins C fs => cases h
  | ty n => cases h
def asStr (o : Option String) (k : String → Prop) : Prop := match o with
  | some n => k n
  | none => False
def asBo (o : Option Bool) (k : Bool → Prop) : Prop := match o with
  | some n => k n
  | none => False
theorem asStr_some {n : String} {k : String → Prop} : asStr (some n) k = k n := rfl
theorem asBo_some {b : Bool} {k : Bool → Prop} : asBo (some b) k = k b := rfl
def bIsi : List D → Mp → VK3 → Prop := fun ds M Q => match ds with
  | [d, .ty n] => asStr (tyN M d) fun t => asBo (kitB t n) fun b => Q (.bl b) M
  | _ => False
theorem c_isi : CallR X (.builtin "isinstance") (liftV X.K bs bIsi) := by
  rintro pins s σ H xs us Q I rx ⟨ds, M, Q3, r1, m, q, k⟩
  unfold bIsi at q
  split at q
  · rename_i d n
    cases r1 with
    | cons ra r1 =>
      cases r1 with
      | cons rb r1 =>
        cases r1
        cases rb
        unfold asStr at q
        split at q
        · rename_i t ht
          unfold asBo at q
          split at q
          · rename_i b hb
            exact call_isi pins s σ H _ us Q I rx ⟨_, _, _, _, b, rfl, .ty n, tyx_of m.m ra ht, kit_ty hb, k _ _ _ M .refl m (.bl _) q⟩
          · exact False.elim q
        · exact False.elim q
  · exact False.elim q
theorem e_bty {x : Str} {pos : Pos} {T : String} (hm : X.mg x = none) (hv : bootBuiltins x = some (.type T)) (hg : Gl X x := by rfl) (hn : x ≠ "__name__" := by decide) (hd : (x == ("__debug__" : Str)) = false := by decide) : PE3 bs X (.Name x pos) (wC (.ty T)) :=
  e_c (pe_bltn (v := V.ty T) hg hm hv rfl hn hd) fun _ => .ty T
theorem bl_isi {d : D} {n : String} {M : Mp} {Q : VK3} : bIsi [d, .ty n] M Q = asStr (tyN M d) fun t => asBo (kitB t n) fun b => Q (.bl b) M := rfl
theorem isi_is {d : D} {n t : String} {b : Bool} {M : Mp} {Q : VK3} (h : tyN M d = some t) (h2 : kitB t n = some b) : bIsi [d, .ty n] M Q = Q (.bl b) M := by
  rw [bl_isi, h, asStr_some, h2, asBo_some]
theorem kb_ii : kitB "int" "int" = some true := by decide +kernel
theorem kb_ib : kitB "int" "bool" = some false := by decide +kernel
theorem kb_ss : kitB "str" "str" = some true := by decide +kernel
def GC (mg : Str → Option Value) (K : PySem.W.Frag) (x : Str) (d : D) : Prop := ∃ u v, mg x = some u ∧ RelV v u ∧ ∀ H, RD K H v d
theorem e_glob {x : Str} {pos : Pos} {d : D} (h : GC X.mg X.K x d) (hg : Gl X x := by rfl) (hd : (x == ("__debug__" : Str)) = false := by decide) : PE3 bs X (.Name x pos) (wC d) :=
  let ⟨_, _, h1, h2, h3⟩ := h
  e_c (pe_glob hg h1 h2 hd) h3
end L3
set_option Elab.async false
set_option linter.all false
set_option maxRecDepth 100000
set_option maxHeartbeats 4000000
namespace L3
open PySem PySem.Spec PyProof.Rows L2
theorem def_no {CX : CXT} {P : Program} {w : World} {K : PySem.W.Frag} {mg : Str → Option Value} {base : Heap} {k : Nat} {f : Addr} {x qual : Str} {st : Stmt} {fd : FuncData} {N ps : List Str} (hm : mg x = some (.ref f)) (F : Fun K x qual st f fd) (b : Binds K fd ps [])
    (S : FnScope N ps (defScope st)) : Def3 P w K mg base CX (k + 1) x (fun _ _ _ _ => False) :=
  ⟨f, fd, ps, hm, F.kp, b, fn_g F S (fun vs H Q E h => by obtain ⟨_, _, _, _, _, _, z, _⟩ := h; exact z.elim) fun cdv A outer s H vs Q E hG hr h => by obtain ⟨_, _, _, _, _, _, z, _⟩ := h; exact z.elim⟩
end L3
set_option Elab.async false
set_option linter.all false
set_option maxRecDepth 100000
set_option maxHeartbeats 4000000
namespace L3
open PySem PySem.Spec PyProof.Rows L2
end L3
set_option Elab.async false
set_option linter.all false
set_option maxRecDepth 100000
set_option maxHeartbeats 4000000
namespace L3
open PySem PySem.Spec PyProof.Rows L2
def CountD (ns : List Int) (c : Nat) : Prop := ∃ ks : List Int, ks.Nodup ∧ (∀ k, k ∈ ks ↔ k ∈ ns) ∧ ks.length = c
theorem nodup_sub_len : ∀ {ks ns : List Int}, ks.Nodup → (∀ k, k ∈ ks → k ∈ ns) → ks.length ≤ ns.length
  | [], _, _, _ => Nat.zero_le _
  | k :: ks, ns, nd, h => by
    rw [List.nodup_cons] at nd
    have hk := h k (by simp)
    have := nodup_sub_len (ks := ks) (ns := ns.erase k) nd.2 fun x hx => by
      have hne : x ≠ k := fun e => nd.1 (e ▸ hx)
      exact (List.mem_erase_of_ne hne).mpr (h x (by simp [hx]))
    rw [List.length_erase_of_mem hk] at this
    have pos : 0 < ns.length := List.length_pos_of_mem hk
    rw [List.length_cons]
    omega
end L3
set_option Elab.async false
set_option linter.all false
set_option maxRecDepth 100000
set_option maxHeartbeats 4000000
namespace L3
open PySem PySem.Spec PyProof.Rows L2
/-- __init__ stores its parameters, one by one -/
def spIni (C : Addr) (fs : List Str) : Sp := fun vs H Q _ => ∃ (a : Addr) (ws : List V), vs = .ref a :: ws ∧ ws.length = fs.length ∧ H a = some (exo a C none) ∧
  ∀ (H' : Hp) (d : Addr), H' a = some (exo a C (some d)) → H' d = some (exd d (fs.zip ws).reverse) → H d = none → (∀ b, b ≠ a → b ≠ d → H' b = H b) → Q .non H'
theorem exo_exd {e C d : Addr} {o : Option Addr} {fs : List (Str × V)} {H : Hp} (h : H e = some (exo e C o)) (h2 : H d = none) : d ≠ e := fun z => by rw [z, h] at h2; cases h2
theorem rd_ini1 {K : PySem.W.Frag} {C a : Addr} {f1 : Str} {w1 : V} {N : List Str} {H : Hp} {Q : VK} {E : XK} (T : OexC K C) (n1 : PySem.W.findIn K (.ref C) f1 = some none) (hN : N.length = 2)
    (h : spIni C [f1] [.ref a, w1] H Q E) : tOst K f1 (tVar 0) (tVar 1) { nx := fun _ H' => Q .non H', rt := Q } (L2.start N [.ref a, w1]) H := by
  obtain ⟨a', ws, e, _, hH, q⟩ := h
  cases e
  have s0 : (L2.start N [V.ref a, w1])[0]? = some (some (.ref a)) := rfl
  have s1 : (L2.start N [V.ref a, w1])[1]? = some (some w1) := rfl
  refine ⟨w1, s1, .ref a, s0, a, C, rfl, T, n1, .inl ⟨hH, fun dx hd hne => ?_⟩⟩
  refine q _ dx upd_same ?_ hd fun b h1 h2 => by rw [upd_ne h1, upd_ne h2]
  rw [upd_ne hne, upd_same]; rfl
/-- the class called n makes exceptions with the fields fs -/
def MkX (P : Program) (w : World) (K : PySem.W.Frag) (mg : Str → Option Value) (base : Heap) (n : Str) (fs : List Str) : Prop :=
  ∃ (C fI : Addr) (fd : FuncData) (ps : List Str), Cl K n (.ref C) ∧ mg n = some (.ref C) ∧ OexC K C ∧ PySem.W.findIn K (.ref C) "__init__" = some (some (.ref fI)) ∧ PySem.W.typeIn K (.ref fI) = some (.type "function") ∧
    Binds K fd ps [] ∧ FnOk P w K mg base CX0 1 fI fd ps (spIni C fs)
/-- what is raised here, and wished for -/
def TakesS (bs : BS) (X : Cx) (W3 : St3 → XK3) : Prop := ∃ W : WX, Takes X W ∧ ∀ n c a σ τ H' fs M', RE X.K H' σ τ → RM0 X.K H' M' → bs.ok M' H' → RX X.K H' n c a fs → W3 τ n fs M' → W c a σ H'
theorem takesXE {bs : BS} {P : Program} {w : World} {K : PySem.W.Frag} {mg : Str → Option Value} {base : Heap} {N : List Str} {qual : Str} {scope : Scope} {f : Addr} {cd : Value} {A : Around} {outer : List Env} {s : Shared} {H : Hp} {E : XK} {E3 : XK3}
    (h : ∀ n c a H' fs M', RM0 K H' M' → bs.ok M' H' → RX K H' n c a fs → E3 n fs M' → E c a H') : TakesS bs (cxOf (L2.CX P w) P w K mg base N qual scope f cd A outer s H E) (fun _ => E3) :=
  ⟨fun c a _ H' => E c a H', takes_of rfl rfl rfl rfl, fun n c a σ τ H' fs M' _ m b r e => h n c a H' fs M' m b r e⟩
section
variable {bs : BS} {X : Cx} {W3 : St3 → XK3} {e : Expr} {es : List Expr} {t : TA3} {n : Str} {fs : List Str} {p pos pos2 : Pos}
def wRaise (n : Str) (fs : List Str) (W3 : St3 → XK3) (t : TA3) : TS3 := fun _ τ M => t τ M fun ds M1 => ds.length = fs.length ∧ ds.length ≤ 1000 ∧ W3 τ n (fs.zip ds).reverse M1
theorem rkv_zip {K : PySem.W.Frag} {H : Hp} : ∀ {fs : List Str} {vs : List V} {ds : List D}, RDs K H vs ds → RKv K H (fs.zip vs) (fs.zip ds)
  | [], _, _, _ => True.intro
  | _ :: _, _, _, .nil => True.intro
  | f :: fs, _, _, .cons r t => ⟨rfl, r, rkv_zip t⟩
theorem rkv_app {κ : Type} {K : PySem.W.Frag} {H : Hp} : ∀ {a c : List (κ × V)} {b d : List (κ × D)}, RKv K H a b → RKv K H c d → RKv K H (a ++ c) (b ++ d)
  | [], _, [], _, _, s => s
  | [], _, _ :: _, _, r, _ => r.elim
  | _ :: _, _, [], _, r, _ => r.elim
  | (k, v) :: a, _, (j, x) :: b, _, r, s => ⟨r.1, r.2.1, rkv_app r.2.2 s⟩
theorem rkv_rev {κ : Type} {K : PySem.W.Frag} {H : Hp} : ∀ {a : List (κ × V)} {b : List (κ × D)}, RKv K H a b → RKv K H a.reverse b.reverse
  | [], [], _ => True.intro
  | [], _ :: _, r => r.elim
  | _ :: _, [], r => r.elim
  | (k, v) :: a, (j, x) :: b, r => by
    rw [List.reverse_cons, List.reverse_cons]
    exact rkv_app (rkv_rev r.2.2) ⟨r.1, r.2.1, True.intro⟩
theorem s_raise (hc : X.calm = true) (hr : Room 2 X.A) (mk : MkX X.prog X.w X.K X.mg X.base n fs) (tk : TakesS bs X W3) (ha : PA3 bs X (e :: es) t) (hg : Gl X n := by rfl)
    (hdb : (n == ("__debug__" : Str)) = false := by decide) (he : starEach (e :: es) X.env = (false, eval e X.env) :: starEach es X.env := by rfl) (hpl : (backTo pos (starEach es X.env)).any (·.1) = false := by rfl) :
    PS3 bs X (.Raise (some (.Call (.Name n p) (e :: es) [] pos)) none pos2) (wRaise n fs W3 t) := by
  obtain ⟨C, fI, fd, ps, cl, hm, T, iC, tI, hb, F⟩ := mk
  obtain ⟨W, tkW, up⟩ := tk
  refine PS.weak (ps_raise hc tkW (pmk_oex (dvs := []) (ds := []) T iC tI F hr hb .nil (fun _ _ _ _ _ _ _ z => z.elim) hg hm ha hdb he hpl)) ?_
  rintro D σ H ⟨τ, M, D3, re, rm, q, k⟩
  refine ⟨τ, M, _, re, rm, q, fun vs H1 ds M1 x1 m1 r1 ⟨hl, hl2, q1⟩ => ⟨by rw [r1.length]; exact hl2, fun a ha => ?_⟩⟩
  refine ⟨a, vs, by rw [List.append_nil], by rw [r1.length]; exact hl, upd_same, fun H2 d h1 h2 h3 h4 => ⟨rfl, d, _, h1, h2, ?_, ?_⟩⟩
  · by_cases e : d = a
    · rw [e]; exact ha
    · rwa [upd_ne e] at h3
  · have hda : d ≠ a := exo_exd (fs := []) (H := upd H1 a (exo a C none)) upd_same h3
    have hd1 : H1 d = none := by rwa [upd_ne hda] at h3
    have same : ∀ b u, H1 b = some u → upd (del H2 a) d (.xd (fs.zip vs).reverse) b = some u := fun b u hu => by
      have hb1 : b ≠ a := fun z => by rw [z, ha] at hu; cases hu
      have hb2 : b ≠ d := fun z => by rw [z, hd1] at hu; cases hu
      rw [upd_ne hb2, del_ne hb1, h4 b hb1 hb2, upd_ne hb1]; exact hu
    obtain ⟨x2, m2⟩ := m1.keep same
    exact up n _ _ σ τ _ _ M1 ((re.go (x1.still rm)).go (x2.still m1)) m2.m m2.b ⟨cl, _, upd_same, rkv_rev (rkv_zip (r1.go (x2.still m1)))⟩ q1
end
theorem RM0.noXd {K : PySem.W.Frag} {M : Mp} {H : Hp} {a : Addr} {gs : List (Str × V)} (m : RM0 K H M) (h : H a = some (.xd gs)) : M a = none := by
  cases q : M a with
  | none => rfl
  | some o =>
    have r := m a o q
    cases o with
    | lst ds => obtain ⟨_, e, _⟩ := r; rw [h] at e; cases e
    | dK ds => obtain ⟨_, e, _⟩ := r; rw [h] at e; cases e
    | dT ds => obtain ⟨_, e, _⟩ := r; rw [h] at e; cases e
    | dL o ks ds => obtain ⟨e, _⟩ := r; rw [h] at e; cases e
    | dM o ks ds => obtain ⟨e, _⟩ := r; rw [h] at e; cases e
    | ins C ds => obtain ⟨_, _, _, _, e, _⟩ := r; rw [h] at e; cases e
theorem RX.go {K : PySem.W.Frag} {M M' : Mp} {H H' : Hp} {n : Str} {c : Value} {d : Option Addr} {fs : List (Str × D)} (r : RX K H n c d fs) (m : RM0 K H M) (x : Ext M M' H H') : RX K H' n c d fs := by
  refine ⟨r.1, ?_⟩
  have r := r.2
  cases d with
  | none => exact r
  | some a =>
    obtain ⟨gs, e, q⟩ := r
    exact ⟨gs, x.fr a _ e (m.noXd e), RKv.go (x.still0 m) q⟩
end L3
set_option Elab.async false
set_option linter.all false
set_option maxRecDepth 100000
set_option maxHeartbeats 4000000
namespace L3
open PySem PySem.Spec PyProof.Rows L2
theorem kit_ty {K : PySem.W.Frag} {C : Addr} {T : String} (h : PySem.W.kitMeta T = true) (s : PySem.W.subIn K (.ref C) (.type T) = some true) : PySem.W.kitOne K (.ref C) (.type T) = some true := by
  unfold PySem.W.kitOne
  split
  · rfl
  · unfold PySem.W.kitCls
    dsimp only
    rw [if_pos h]
    exact s
end L3
set_option Elab.async false
set_option linter.all false
set_option maxRecDepth 100000
set_option maxHeartbeats 4000000
namespace L3
open PySem PySem.Spec PyProof.Rows L2
def asSt (d : D) (k : Str → Prop) : Prop := match d with
  | .str z => k z
  | _ => False
end L3
set_option Elab.async false
set_option linter.all false
set_option maxRecDepth 100000
set_option maxHeartbeats 4000000
namespace L3
open PySem PySem.Spec PyProof.Rows L2
end L3
set_option Elab.async false
set_option linter.all false
set_option maxRecDepth 100000
set_option maxHeartbeats 4000000
namespace L3
open PySem PySem.Spec PyProof.Rows L2
end L3
set_option Elab.async false
set_option linter.all false
set_option maxRecDepth 100000
set_option maxHeartbeats 4000000
namespace L3
open PySem PySem.Spec PyProof.Rows L2
variable {bs : BS} {X : Cx}
def kitBs (t : String) : List String → Option Bool
  | [] => some false
  | n :: ns => match kitB t n with
    | some true => some true
    | some false => kitBs t ns
    | none => none
theorem kitBs_ok {K : PySem.W.Frag} {t : String} : ∀ {ns : List String} {b : Bool}, kitBs t ns = some b → PySem.W.kitAny K (.type t) (ns.map Value.type) = some b
  | [], b, h => by
    cases h; rfl
  | n :: ns, b, h => by
    unfold kitBs at h
    split at h
    · rename_i h1
      cases h
      exact kitAny_cons (b := true) (r := true) (L2.kit_ty h1) (fun z => nomatch z) fun _ => rfl
    · rename_i h1
      exact kitAny_cons (b := false) (L2.kit_ty h1) (fun _ => kitBs_ok h) fun z => nomatch z
    · cases h
def tysOf : List D → Option (List String)
  | [] => some []
  | .ty n :: ds => (tysOf ds).map (n :: ·)
  | _ :: _ => none
theorem tysOf_of {K : PySem.W.Frag} {H : Hp} : ∀ {ds : List D} {vs : List V} {ns : List String}, tysOf ds = some ns → RDs K H vs ds → Paired ClsV vs (ns.map Value.type)
  | [], _, _, h, r => by
    cases h; cases r; exact .nil
  | .ty n :: ds, _, _, h, r => by
    unfold tysOf at h
    cases hd : tysOf ds with
    | none => rw [hd] at h; cases h
    | some ns =>
      rw [hd] at h
      cases h
      cases r with
      | cons r rs =>
        cases r
        exact .cons (.ty n) (tysOf_of hd rs)
  | .non :: _, _, _, h, _ => by cases h
  | .bl _ :: _, _, _, h, _ => by cases h
  | .int _ :: _, _, _, h, _ => by cases h
  | .str _ :: _, _, _, h, _ => by cases h
  | .tup _ :: _, _, _, h, _ => by cases h
  | .rol _ :: _, _, _, h, _ => by cases h
  | .ref _ :: _, _, _, h, _ => by cases h
def asTys (o : Option (List String)) (k : List String → Prop) : Prop := match o with
  | some n => k n
  | none => False
def bIsiT : List D → Mp → VK3 → Prop := fun ds M Q => match ds with
  | [d, .tup cs] => asTys (tysOf cs) fun ns => asStr (tyN M d) fun t => asBo (kitBs t ns) fun b => Q (.bl b) M
  | _ => False
theorem c_isiT : CallR X (.builtin "isinstance") (liftV X.K bs bIsiT) := by
  rintro pins s σ H xs us Q I rx ⟨ds, M, Q3, r1, m, q, k⟩
  unfold bIsiT at q
  split at q
  · rename_i d cs
    cases r1 with
    | cons ra r1 =>
      cases r1 with
      | cons rb r1 =>
        cases r1
        cases rb with
        | tup h1 h2 =>
          unfold asTys at q
          split at q
          · rename_i ns hns
            unfold asStr at q
            split at q
            · rename_i t ht
              unfold asBo at q
              split at q
              · rename_i b hb
                obtain ⟨u1, u2, rfl, e1, e2⟩ := vals2 rx
                have e2 : u2 = Value.ref _ := e2
                subst e2
                obtain ⟨P, Z, p, hx⟩ := kit_of I e1 (tyx_of m.m ra ht)
                obtain ⟨its, rv, ⟨o, g1, g2, n, g3⟩, _⟩ := I.tuple h1
                have e3 := ClsV.all (tysOf_of hns h2) rv
                subst e3
                obtain ⟨oc, od, dt, sl⟩ := o
                simp only at g2 g3
                subst g2 g3
                exact PySem.W.kia_tup Z I.kIn p g1 (kitBs_ok hb) hx fun tk => ⟨.bl b, H, I.tok tk, rfl, k _ _ _ M .refl m (.bl _) q⟩
              · exact q.elim
            · exact q.elim
          · exact q.elim
  · exact q.elim
end L3
set_option Elab.async false
set_option linter.all false
set_option maxRecDepth 100000
set_option maxHeartbeats 4000000
namespace L3
open PySem PySem.Spec PyProof.Rows L2
/-- a set that M does not know -/
structure FreshS (w : World) (H : Hp) (M : Mp) (p : Addr) (ns : List Int) : Prop where
  free : M p = none
  set : ∃ (S : Int → Bool) (c : Nat), H p = some (SetO w p S c) ∧ (∀ k, S k = true ↔ k ∈ ns) ∧ CountD ns c
theorem FreshS.go {K : PySem.W.Frag} {w : World} {H H' : Hp} {M M' : Mp} {p : Addr} {ns : List Int} (f : FreshS w H M p ns) (m : RM0 K H M) (x : Ext M M' H H') : FreshS w H' M' p ns := by
  obtain ⟨S, c, h, r, cd⟩ := f.set
  refine ⟨?_, S, c, x.fr p _ h f.free, r, cd⟩
  cases q : M' p with
  | none => rfl
  | some o =>
    rcases x.dom p (by rw [q]; exact fun z => nomatch z) with z | z
    · exact absurd f.free z
    · rw [h] at z; cases z
theorem CountD.nil : CountD [] 0 := ⟨[], List.nodup_nil, fun _ => Iff.rfl, rfl⟩
theorem CountD.le {ns : List Int} {c : Nat} (h : CountD ns c) : c ≤ ns.length := by
  obtain ⟨ks, nd, e, rfl⟩ := h
  exact nodup_sub_len nd fun k hk => (e k).mp hk
/-- it is written, M stays -/
theorem FreshS.put {K : PySem.W.Frag} {w : World} {H : Hp} {M : Mp} {p : Addr} {ns ms : List Int} {S : Int → Bool} {c : Nat} (f : FreshS w H M p ns) (m : RM0 K H M) (hS : ∀ k, S k = true ↔ k ∈ ms) (hc : CountD ms c) :
    RM0 K (upd H p (SetO w p S c)) M ∧ FreshS w (upd H p (SetO w p S c)) M p ms := by
  obtain ⟨S0, c0, h, _, _⟩ := f.set
  have s : Still K H (upd H p (SetO w p S c)) := by
    refine ⟨fun a xs q => ?_, fun a xs q => ?_⟩
    · rcases q with (q | ⟨o, q⟩) | q
      · exact .inl (.inl (by rw [upd_ne (by intro z; subst z; rw [h] at q; cases q)]; exact q))
      · exact .inl (.inr ⟨o, by rw [upd_ne (by intro z; subst z; rw [h] at q; cases q)]; exact q⟩)
      · exact .inr q
    · rcases q with ⟨o, q⟩ | q
      · exact .inl ⟨o, by rw [upd_ne (by intro z; subst z; rw [h] at q; cases q)]; exact q⟩
      · exact .inr q
  refine ⟨fun a o q => (m a o q).go s fun u hu => ?_, f.free, S, c, upd_same, hS, hc⟩
  rw [upd_ne (ne_m q f.free)]; exact hu
end L3
set_option Elab.async false
set_option linter.all false
set_option maxRecDepth 100000
set_option maxHeartbeats 4000000
namespace L3
open PySem PySem.Spec PyProof.Rows L2
end L3
set_option Elab.async false
set_option linter.all false
set_option maxRecDepth 100000
set_option maxHeartbeats 4000000
namespace L3
open PySem PySem.Spec PyProof.Rows L2
section
variable {bs : BS} {X : Cx}
def wSlS (te : TE3) (tl th : PT3o) : TE3 := fun τ M Q => te τ M fun d M1 => tl τ M1 fun lo M2 => th τ M2 fun hi M3 => asSt d fun z => z.length ≤ sizeLine ∧ Q (.str (L2.cutS z lo hi)) M3
theorem e_sliceS {e : Expr} {lo hi : Option Expr} {te : TE3} {tl th : PT3o} {pos p2 : Pos} (he : PE3 bs X e te) (hl : PO3 bs X lo tl) (hh : PO3 bs X hi th) : PE3 bs X (.Subscript e (.Slice lo hi none p2) pos) (wSlS te tl th) := by
  refine PE.weak (pe_slice sl_str he hl hh) ?_
  rintro σ H Q ⟨τ, M, Q3, e, m, q, k⟩
  refine ⟨τ, M, _, e, m, q, fun v H1 d M1 x1 m1 r1 q1 => ⟨τ, M1, _, e.go (x1.still m), m1, q1, fun lo H2 M2 x2 m2 q2 => ⟨τ, M2, _, (e.go (x1.still m)).go (x2.still m1), m2, q2, fun hi H3 M3 x3 m3 q3 => ?_⟩⟩⟩
  cases d with
  | str z => cases r1; exact ⟨z, rfl, q3.1, k _ _ _ M3 (x1.trans (x2.trans x3)) m3 (.str _) q3.2⟩
  | _ => exact False.elim q3
def oInS (neg : Bool) : R23 := fun d e M Q => asSt d fun x => asSt e fun z => ∃ c : Nat, x = ⟨#[c]⟩ ∧ Q (.bl (if neg then !decide (c ∈ z.cps.toList) else decide (c ∈ z.cps.toList))) M
theorem o_inS : OpR X (compareOp .In) (lift2 X.K bs (oInS false)) := op3 fun d e x y H M Q Q3 r1 r2 m q k => by
  cases d with
  | str a =>
    cases e with
    | str z =>
      obtain ⟨c, rfl, q⟩ := q
      cases r1
      cases r2
      exact ⟨_, op_in_sign, c, z, rfl, rfl, k _ _ _ M .refl m (.bl _) q⟩
    | _ => exact False.elim q
  | _ => exact False.elim q
def signsD (z : Str) : List D := z.cps.toList.map fun c => .str ⟨#[c]⟩
def wSigns (te : TE3) : TI3 := fun τ M R => te τ M fun d M1 => asSt d fun z => R (signsD z) (fun _ => True) M1
theorem it_str {K : PySem.W.Frag} {z : Str} : ItOk K (Its z) (fun _ => True) (fun _ => True) (signsD z) where
  mono := fun _ _ _ _ _ _ _ => True.intro
  stop := fun H M m _ _ => by
    show z.cps.size ≤ (signsD z).length
    unfold signsD
    rw [List.length_map, Array.length_toList]; exact Nat.le_refl _
  go := fun i d H M m _ _ hd => by
    unfold signsD at hd
    rw [List.getElem?_map, Array.getElem?_toList] at hd
    obtain ⟨c, hc, rfl⟩ := Option.map_eq_some_iff.mp hd
    refine ⟨(Array.getElem?_eq_some_iff.mp hc).1, ?_⟩
    rintro x H' ⟨rfl, c', hc', rfl⟩
    rw [hc] at hc'
    cases hc'
    exact ⟨.refl, m, .str _⟩
theorem w_signs {tg l : Expr} {tl : TE3} (hl : PE3 bs X l tl) : PI3 bs X tg l (wSigns tl) := by
  refine PI.weak (pi_str hl) ?_
  rintro σ H R ⟨τ, M, R3, e, m, q, k⟩
  refine ⟨τ, M, _, e, m, q, fun v H1 d M1 x1 m1 r1 q1 => ?_⟩
  cases d with
  | str z => cases r1; exact ⟨z, rfl, k _ _ _ _ H1 M1 x1 m1 it_str True.intro q1⟩
  | _ => exact False.elim q1
def strsD : List D → Option (List Str)
  | [] => some []
  | .str s :: r => (strsD r).map (s :: ·)
  | _ :: _ => none
def asSs (o : Option (List Str)) (k : List Str → Prop) : Prop := match o with
  | some l => k l
  | none => False
theorem strs_rel {K : PySem.W.Frag} {H : Hp} : ∀ {vs : List V} {ds : List D} {ys : List Str}, RDs K H vs ds → strsD ds = some ys → vs = ys.map V.str
  | _, _, ys, .nil, h => by cases h; rfl
  | _, _, ys, .cons (d := d) r rs, h => by
    cases d with
    | str s =>
      unfold strsD at h
      obtain ⟨zs, hz, rfl⟩ := Option.map_eq_some_iff.mp h
      cases r
      rw [strs_rel rs hz]; rfl
    | _ => cases h
def wJoin (to tl : TE3) : TE3 := fun τ M Q => to τ M fun d M1 => asSt d fun a => tl τ M1 fun e M2 => asL (items M2 e) fun ds => asSs (strsD ds) fun ys => (ys.map (·.length)).sum + ys.length * a.length ≤ 16777216 ∧ Q (.str (Txt.join a ys)) M2
theorem e_join {o e : Expr} {to te : TE3} {apos cpos : Pos} (ho : PE3 bs X o to) (he : PE3 bs X e te) (hs : starEach [e] X.env = [(false, eval e X.env)] := by rfl) (hbase : attributeBase o "join" X.env (eval o X.env) = eval o X.env := by rfl) (hline : (apos.endLine == cpos.line) = true := by rfl) :
    PE3 bs X (.Call (.Attribute o "join" apos) [e] [] cpos) (wJoin to te) := by
  refine PE.weak (pe_join ho he hs hbase hline) ?_
  rintro σ H Q ⟨τ, M, Q3, e, m, q, k⟩
  refine ⟨τ, M, _, e, m, q, fun v H1 d M1 x1 m1 r1 q1 => ?_⟩
  cases d with
  | str a =>
    cases r1
    refine ⟨⟨a, rfl⟩, τ, M1, _, e.go (x1.still m), m1, q1, fun w H2 d2 M2 x2 m2 r2 q2 => ?_⟩
    unfold asL at q2
    split at q2
    · rename_i ds hd
      unfold asSs at q2
      split at q2
      · rename_i ys hy
        obtain ⟨p, vs, rfl, hq, l⟩ := items_of m2.m r2 hd
        have ev := strs_rel l hy
        subst ev
        exact ⟨a, p, ys, rfl, rfl, hq, q2.1, k _ _ _ M2 (x1.trans x2) m2 (.str _) q2.2⟩
      · exact False.elim q2
    · exact False.elim q2
  | _ => exact False.elim q1
def oAddI : R23 := fun d e M Q => match d, e with
  | .int i, .int j => Q (.int (i + j)) M
  | _, _ => False
theorem ip_addI : PIp X .Add (liftIp X.K bs oAddI) := by
  rintro pins s σ H x y v u Q I rx ry ⟨d, e, M, Q3, r1, r2, m, q, k⟩
  cases d with
  | int i =>
    cases e with
    | int j =>
      cases r1
      cases r2
      exact ip_add pins s σ H _ _ v u Q I rx ry ⟨i, j, rfl, rfl, k _ _ _ M .refl m (.int _) q⟩
    | _ => exact False.elim q
  | _ => exact False.elim q
end
end L3
set_option Elab.async false
set_option linter.all false
set_option maxRecDepth 100000
set_option maxHeartbeats 4000000
namespace L3
open PySem PySem.Spec PyProof.Rows L2 PySem.NumText
theorem digits_wp {M : Model} {A : Around} {E : Value → Shared → Prop} {s : Shared} {Q : Nat → Shared → Prop} (hn : s.heap.NoDigits) (h : Q 4300 s) : wpAny M A Builtin.intMaxStrDigits Q E s := by
  obtain ⟨mc, hns, hnone⟩ := hn
  unfold Builtin.intMaxStrDigits
  refine wpAny_bind (wpAny_nsGet hns ?_)
  rw [hnone]
  exact wpAny_pure h
theorem wp_textL {M : Model} {A : Around} {E : Value → Shared → Prop} {s : Shared} {Q : Value → Shared → Prop} {v : Value} {text : List Nat} {n : Int} (hn : s.heap.NoDigits)
    (hs : ¬ (text.takeWhile (· != 0)).length ≤ 640) (hr : (int_private% "readNumeral") 4300 10 (text.takeWhile (· != 0)) = (int_private% "Numeral.value") n)
    (ha : ((text.takeWhile (· != 0)).length == text.length) = true) (h : Q (.int n s.toks) { s with toks := s.toks + 1 }) :
    wpAny M A ((int_private% "intFromText") v text 10) Q E s := by
  have hs' : decide ((text.takeWhile (· != 0)).length ≤ 640) = false := decide_eq_false hs
  wp_step
  rw [if_neg hs]
  refine wpAny_bind (digits_wp hn ?_)
  dsimp only
  rw [hr]
  dsimp only
  rw [if_pos ha]
  exact wpAny_mkInt h
/-- what a namespace lacks, by the fragment -/
theorem ns_lacks {K : PySem.W.Frag} {h : Heap} {mg : Str → Option Value} {a : Addr} {n : Str} (X : K.In h) (G : h.Ns a mg) (e : PySem.W.nsIn K a n = some none) : mg n = none := by
  obtain ⟨o, es, ep, ho, hd, _, hf⟩ := G
  unfold PySem.W.nsIn at e
  split at e
  · rename_i c d es' n' sl q
    have := X _ _ q
    rw [ho] at this
    cases this
    cases hd
    split at e
    · cases e
    · rename_i he
      rw [← hf]
      unfold nsFind findBy
      rw [← Array.find?_toList, he]
      rfl
  · cases e
abbrev DgF (K : PySem.W.Frag) : Prop := PySem.W.nsIn K cStatics ("sys.int_max_str_digits" : PySem.Str) = some none
theorem no_digits {X : Cx} {pins : List (Addr × Obj)} {σ : L2.St} {H : Hp} {s : Shared} (I : Inv X pins σ H s) (dg : DgF X.K) : s.heap.NoDigits := by
  obtain ⟨mc, hns, _⟩ := I.nolimit
  exact ⟨mc, hns, ns_lacks I.kIn hns dg⟩
theorem meets_textL {x : PySem.Str} {u : Tok} {n : Int} (hx : x.length ≤ sizeLine) (hn : PySem.intText? x = some n) :
    Meets (Builtin.«int.__new__» ⟨[.type "int", .str x u], []⟩) (fun A R s => s.heap.NoDigits ∧ R (.ok (.ret (.int n s.toks))) { s with toks := s.toks + 1 }) :=
  .of_wp fun prog w A R s h => by
    obtain ⟨hd, h⟩ := h
    have f1 := F.conv_sub_int
    have f2 := F.madeHere_int
    have f3 := PySem.W.KIN.str_int
    have f4 := PySem.W.KIN.str_idx
    have f5 := PySem.W.KIN.str_trunc
    have f6 : typeOf (.str x u) = pure (.type "str") := rfl
    by_cases hl : (numSeenOf x).length ≤ 640
    · have hr : (int_private% "readNumeral") 0 10 (numSeenOf x) = (int_private% "Numeral.value") n ∧ ((numSeenOf x).length == (numTextOf x).length) = true := by
        rcases read0 x hl with ⟨m, h1, h2, h3⟩ | ⟨h1, _⟩
        · rw [hn] at h1
          injection h1 with h1
          subst h1
          exact ⟨h3, h2⟩
        · rw [hn] at h1
          cases h1
      have hk := PySem.W.KIN.Hid.mk (And.intro hl hr)
      clear hl hr hn hd
      obtain ⟨hp, g, d, tk, os⟩ := s
      repeat (any_goals (first
        | assumption
        | ((with_reducible show wpAny _ _ ((int_private% "intFromText") _ _ _) _ _ _); refine PySem.W.KIN.wp_text hk.out.1 hk.out.2.1 hk.out.2.2 ?_)
        | wp_step))
      all_goals first | exact ⟨_, rfl, h⟩ | skip
    have hr : (int_private% "readNumeral") 4300 10 (numSeenOf x) = (int_private% "Numeral.value") n ∧ ((numSeenOf x).length == (numTextOf x).length) = true := by
      rcases read4300 x hx with ⟨m, h1, h2, h3⟩ | ⟨h1, _⟩
      · rw [hn] at h1
        injection h1 with h1
        subst h1
        exact ⟨h3, h2⟩
      · rw [hn] at h1
        cases h1
    have hk := PySem.W.KIN.Hid.mk (And.intro hl hr)
    have hd := PySem.W.KIN.Hid.mk hd
    clear hl hr hn
    obtain ⟨hp, g, d, tk, os⟩ := s
    repeat (any_goals (first
      | assumption
      | ((with_reducible show wpAny _ _ ((int_private% "intFromText") _ _ _) _ _ _); refine wp_textL hd.out hk.out.1 hk.out.2.1 hk.out.2.2 ?_)
      | wp_step))
    all_goals first | exact ⟨_, rfl, h⟩ | skip
theorem int_textL {prog : Program} {w : World} {A : Around} {E : Value → Shared → Prop} {s : Shared} {Q : Value → Shared → Prop} {x : PySem.Str} {t : Tok} {n : Int} (hd : s.heap.NoDigits) (hn : PySem.intText? x = some n) (hl : x.length ≤ sizeLine)
    (h : Q (.int n s.toks) { s with toks := s.toks + 1 }) : wpAny (model prog w) A (call (.type "int") [.str x t]) Q E s :=
  call_int_1 (meets_textL hl hn) ⟨hd, ⟨rfl, h⟩⟩
section
variable {bs : BS} {X : Cx}
/-- int(text), of any length that it takes -/
def bIntL : List D → Mp → VK3 → Prop := b1 fun d M Q => asSt d fun a => ∃ n, PySem.intText? a = some n ∧ a.length ≤ sizeLine ∧ Q (.int n) M
theorem c_intL (dg : DgF X.K) : CallR X (.type "int") (liftV X.K bs bIntL) := call1 fun d x H M Q Q3 r m q k => by
  cases d with
  | str a =>
    cases r
    obtain ⟨n, h1, h2, q⟩ := q
    refine ⟨fun xs H Q => ∃ a n, xs = [V.str a] ∧ PySem.intText? a = some n ∧ a.length ≤ sizeLine ∧ Q (.int n) H, ?_, a, n, rfl, h1, h2, k _ _ _ M .refl m (.int _) q⟩
    intro pins s σ H xs us Q I rs h
    obtain ⟨a, n, rfl, hn, hl, h⟩ := h
    cases rs with
    | cons r1 rs =>
      cases rs
      obtain ⟨t, rfl⟩ := r1
      exact int_textL (no_digits I dg) hn hl ⟨.int n, H, I.tok _, ⟨_, rfl⟩, h⟩
  | _ => exact False.elim q
/-- str(int), of any length that it takes -/
def bStrL : List D → Mp → VK3 → Prop := b1 fun d M Q => match d with
  | .int i => i.natAbs < 10 ^ 4300 ∧ Q (.str (toString i)) M
  | _ => False
theorem c_strL (hc : X.calm = true) (dg : DgF X.K) : CallR X (.type "str") (liftV X.K bs bStrL) := call1 fun d x H M Q Q3 r m q k => by
  cases d with
  | int i =>
    cases r
    refine ⟨fun xs H Q => ∃ i, xs = [V.int i] ∧ i.natAbs < 10 ^ 4300 ∧ Q (.str (toString i)) H, ?_, i, rfl, q.1, k _ _ _ M .refl m (.str _) q.2⟩
    intro pins s σ H xs us Q I rs h
    obtain ⟨i, rfl, hz, q⟩ := h
    obtain ⟨u, rfl, t, rfl⟩ := vals1 rs
    exact str_of_int_or (I.ok.hd hc) (no_digits I dg) (fun _ => ⟨.str _, H, I.tok _, ⟨_, rfl⟩, q⟩) fun hge => absurd hz (Nat.not_lt.mpr hge)
  | _ => exact False.elim q
/-- a sign, so many times -/
def oMulS : R23 := fun d e M Q => match d, e with
  | .str x, .int n => 2 ≤ n ∧ n ≤ 100000 ∧ ∃ c, x = ⟨#[c]⟩ ∧ Q (.str ⟨(List.replicate n.toNat c).toArray⟩) M
  | _, _ => False
theorem rep_sign {c : Nat} : ∀ n : Nat, (List.replicate n (#[c] : Array Nat)).foldl (· ++ ·) #[] = (List.replicate n c).toArray := by
  intro n
  have h : ∀ (n : Nat) (a : Array Nat), (List.replicate n (#[c] : Array Nat)).foldl (· ++ ·) a = a ++ (List.replicate n c).toArray := by
    intro n
    induction n with
    | zero => intro a; simp
    | succ n ih =>
      intro a
      rw [List.replicate_succ, List.foldl_cons, ih, List.replicate_succ]
      apply Array.toList_inj.mp
      simp
  rw [h]; simp
theorem o_mulS : OpR X (binaryOp .Mult) (lift2 X.K bs oMulS) := op3 fun d e x y H M Q Q3 r1 r2 m q k => by
  cases d with
  | str a =>
    cases e with
    | int n =>
      obtain ⟨h1, h2, c, rfl, q⟩ := q
      cases r1
      cases r2
      refine ⟨fun x y H Q => x = V.str ⟨#[c]⟩ ∧ y = V.int n ∧ Q (.str ⟨(List.replicate n.toNat c).toArray⟩) H, ?_, rfl, rfl, k _ _ _ M .refl m (.str _) q⟩
      rintro pins s σ H x y v u Q I rx ry ⟨rfl, rfl, q⟩
      obtain ⟨t, rfl⟩ := rx
      obtain ⟨t', rfl⟩ := ry
      have big : sizeLine = 16777216 := sizeLine_eq
      refine PySem.P.mul_str (by rw [decide_eq_false (by omega), decide_eq_false (by omega)]; rfl) (fun _ _ => ?_) (fun _ _ => ?_) ?_
      · show ¬ ((1 : Nat) : Int) > (2 ^ 63 - 1) / n
        have : (100000 : Int) ≤ (2 ^ 63 - 1) / n := Int.le_ediv_of_mul_le (by omega) (by
          have : (100000 : Int) * n ≤ 100000 * 100000 := Int.mul_le_mul_of_nonneg_left h2 (by decide)
          omega)
        omega
      · show Builtin.Str.tooLong (1 * n.toNat) = false
        unfold Builtin.Str.tooLong
        exact decide_eq_false (by omega)
      · have e1 : ¬ n < 1 := by omega
        have e2 : ¬ ((n == 1 || (⟨#[c]⟩ : PySem.Str).length == 0) = true) := by
          rw [Bool.or_eq_true, beq_iff_eq, beq_iff_eq]
          intro h
          rcases h with h | h
          · omega
          · exact absurd h (by show ¬ (1 : Nat) = 0; decide)
        rw [if_neg e1, if_neg e2]
        have e3 : (⟨(List.replicate n.toNat (⟨#[c]⟩ : PySem.Str).cps).foldl (· ++ ·) #[]⟩ : PySem.Str) = ⟨(List.replicate n.toNat c).toArray⟩ := by rw [rep_sign]
        rw [e3]
        refine ⟨?_, V.str _, H, I.tok _, ⟨_, rfl⟩, q⟩
        show ((List.replicate n.toNat c).toArray).size ≤ sizeLine
        rw [List.size_toArray, List.length_replicate]
        omega
    | _ => exact False.elim q
  | _ => exact False.elim q
end
end L3
set_option Elab.async false
set_option linter.all false
set_option maxRecDepth 100000
set_option maxHeartbeats 4000000
namespace L3
open PySem PySem.Spec PyProof.Rows L2
/-- two values, exchanged where b says so -/
def pm {α : Type} (b : Bool) : List α → List α
  | [x, y] => if b then [y, x] else [x, y]
  | l => l
theorem pm_vals {b : Bool} {vs : List V} {us : List Value} (r : Vals vs us) : Vals (pm b vs) (pm b us) := by
  cases r with
  | nil => exact .nil
  | cons r1 r =>
    cases r with
    | nil => exact .cons r1 .nil
    | cons r2 r =>
      cases r with
      | nil =>
        cases b with
        | false => exact .cons r1 (.cons r2 .nil)
        | true => exact .cons r2 (.cons r1 .nil)
      | cons r3 r => exact .cons r1 (.cons r2 (.cons r3 r))
theorem pm_rds {K : PySem.W.Frag} {H : Hp} {b : Bool} {vs : List V} {ds : List D} (r : RDs K H vs ds) : RDs K H (pm b vs) (pm b ds) := by
  cases r with
  | nil => exact .nil
  | cons r1 r =>
    cases r with
    | nil => exact .cons r1 .nil
    | cons r2 r =>
      cases r with
      | nil =>
        cases b with
        | false => exact .cons r1 (.cons r2 .nil)
        | true => exact .cons r2 (.cons r1 .nil)
      | cons r3 r => exact .cons r1 (.cons r2 (.cons r3 r))
theorem pm_len {α : Type} {b : Bool} {l : List α} : (pm b l).length = l.length := by
  match l with
  | [] => rfl
  | [_] => rfl
  | [_, _] => cases b <;> rfl
  | _ :: _ :: _ :: _ => rfl
def BindK (K : PySem.W.Frag) (fd : FuncData) (ps ks : List Str) (b : Bool) : Prop := ∀ (s : Shared) (ws : List Value), K.In s.heap → ws.length = ks.length → BindsTo s fd ⟨[], ks.zip ws⟩ (ps.zip (pm b ws))
theorem bindK_of {K : PySem.W.Frag} {x qual : Str} {st : Stmt} {f : Addr} {fd : FuncData} {ps ks : List Str} {b : Bool} (F : Fun K x qual st f fd)
    (h : ∀ (kV doc pm' : Value) (an : Option Addr) (cdv ct : Value) (ws : List Value), ws.length = ks.length → bindArgs (PySem.W.fnOf x qual (defArgs st) (defBody st) (defScope st) .none kV doc pm' an cdv ct) ⟨[], ks.zip ws⟩ = pure (ps.zip (pm b ws))) : BindK K fd ps ks b := by
  obtain ⟨oc, od, kV, doc, pm', an, cdv, ct, osl, rfl, lk, hcd⟩ := F.ex
  exact fun s ws _ hl => .of_eq (h kV doc pm' an cdv ct ws hl)
/-- the def called x, by the names ks, exchanged where b says so -/
def DefK (P : Program) (w : World) (K : PySem.W.Frag) (mg : Str → Option Value) (base : Heap) (CX : CXT) (k : Nat) (x : Str) (ks : List Str) (b : Bool) (sp : Sp3) : Prop :=
  ∃ f fd ps, mg x = some (.ref f) ∧ PySem.W.keepIn K (.ref f) = true ∧ ps.length = ks.length ∧ BindK K fd ps ks b ∧ FnG P w K mg base CX k f fd ps (liftSp K sp)
def PK3 (bs : BS) (X : Cx) (kws : List Keyword) (t : TA3) : Prop := PK X kws (liftA X.K bs t)
section
variable {bs : BS} {X : Cx} {CX : CXT} {k : Nat} {x : Str} {sp : Sp3} {E3 : XK3} {e : Expr} {kws : List Keyword} {te : TE3} {t : TA3} {p pos kpos : Pos} {nm : Option Str} {ks : List Str} {b : Bool}
theorem PK.weak {t t' : TA} (h : PK X kws t) (i : ∀ σ H Q, t' σ H Q → t σ H Q) : PK X kws t' := ⟨fun pos pins s σ H Q I q => h.run pos pins s σ H Q I (i σ H Q q)⟩
theorem k_nil : PK3 bs X [] wNil := PK.weak pk_nil fun σ H Q ⟨τ, M, Q3, e, m, q, k⟩ => k [] H [] M .refl m .nil q
theorem k_cons (ha : PE3 bs X e te) (hr : PK3 bs X kws t) : PK3 bs X (⟨nm, e, kpos⟩ :: kws) (wCons te t) := by
  refine PK.weak (pk_cons ha hr) ?_
  rintro σ H Q ⟨τ, M, Q3, e, m, q, k⟩
  refine ⟨τ, M, _, e, m, q, fun z H1 d M1 x1 m1 r1 q1 => ⟨τ, M1, _, e.go (x1.still m), m1, q1, fun zs H2 ds M2 x2 m2 r2 q2 => ?_⟩⟩
  exact k _ H2 _ M2 (x1.trans x2) m2 (.cons (r1.go (x2.still m1)) r2) q2
theorem run_gk {f : Addr} {fd : FuncData} {ps : List Str} {spv : Sp} {E : XK} {pins : List (Addr × Obj)} {σ : L2.St} {H : Hp} {s : Shared} {Q : VK} {us : List Value} {vs : List V} (F : FnG X.prog X.w X.K X.mg X.base CX k f fd ps spv) (hG : X.A.guards = some []) (hr : Room k X.A)
    (hpk : ps.length = ks.length) (hb : BindK X.K fd ps ks b) (hx : Passes CX X E) (I : Inv X pins σ H s) (r : Vals vs us) (h : spv (pm b vs) H Q E) : wpAny (model X.prog X.w) X.A (call (.ref f) [] (ks.zip us)) (EP X pins σ Q) X.xe s := by
  have hl : us.length = ks.length := by rw [← hpk, ← F.len _ _ _ _ h, pm_len, r.length]
  refine wpAny_call (codeAny_mono (F.run X.A X.stack s H ⟨[], ks.zip us⟩ (pm b us) (pm b vs) Q E hG hr I.env0 (hb s us I.kIn hl) (pm_vals r) h) ?_)
  intro res s' hq
  cases res with
  | error z => exact hx pins σ H s z s' I hq
  | ok fl =>
    cases fl with
    | ret u => exact I.after hq
    | next => cases hq
    | brk => cases hq
    | cont => cases hq
/-- a def that leans on nothing in M, called by names -/
def wCallK (b : Bool) (sp : Sp3) (E : XK3) (t : TA3) : TE3 := fun τ M Q => t τ M fun ds M1 => sp (pm b ds) M0 (fun d _ => Q d M1) (fun c fs _ => E c fs M1)
theorem e_callKP (F : DefK X.prog X.w X.K X.mg X.base CX k x ks b sp) (hG : X.A.guards = some []) (hr : Room k X.A) (hx : PassX bs CX X E3) (hkw : PK3 bs X kws t) (hg : Gl X x := by rfl) (hdb : (x == ("__debug__" : Str)) = false := by decide)
    (hall : (backToKw pos (keywordEach kws X.env)).all (·.1.isSome) = true := by rfl) (hks : (backToKw pos (keywordEach kws X.env)).filterMap (·.1) = ks := by rfl)
    (hpl : ((backTo pos (starEach [] X.env)).any (·.1) || (backToKw pos (keywordEach kws X.env)).any (·.1.isNone)) = false := by rfl) : PE3 bs X (.Call (.Name x p) [] kws pos) (wCallK b sp E3 t) := by
  obtain ⟨f, fd, ps, hm, hk, hpk, hb, F⟩ := F
  obtain ⟨E, hp, he3⟩ := hx
  refine ⟨fun pins s σ H Q I h => ?_⟩
  refine wpAny_Call_Name_kw (ld_glob I hg hm ?_ hdb)
  obtain ⟨τ, M, Q3, e, m, q, kk⟩ := h
  refine PySem.W.callWith_KW0 (h₀ := X.base) I.ok.mod.kin hk hall (thn (hkw.run pos pins s σ H (fun vs H1 => ∃ M1 ds, Ext M M1 H H1 ∧ RM X.K bs H1 M1 ∧ RDs X.K H1 vs ds ∧ sp (pm b ds) M0 (fun d _ => Q3 d M1) (fun c fs _ => E3 c fs M1)) I ⟨τ, M, _, e, m, q, fun vs H1 ds M1 x1 m1 r1 q1 => ⟨M1, ds, x1, m1, r1, q1⟩⟩) fun ws s1 ⟨vs, H1, I1, rz, q1⟩ => ⟨I1.kIn, ?_⟩) hpl
  obtain ⟨M1, ds, x1, m1, r1, q1⟩ := q1
  rw [hks]
  refine run_gk F hG hr hpk hb hp I1 rz (?_ : liftSp X.K sp (pm b vs) H1 Q E)
  refine ⟨pm b ds, M0, _, _, pm_rds r1, (fun a o h => nomatch h), q1, fun v H' d M' x2 m2 r2 q2 => ?_, fun n c a H' fs M' x2 m2 r2 q2 => ?_⟩
  · exact kk v H' d M1 (x1.trans (ext_all x2)) (m1.to (ext_all x2) (rm_all m1.m x2)) r2 q2
  · exact he3 n c a H' fs M1 (rm_all m1.m x2) (bs.go m1.b (ext_all x2)) r2 q2
end
end L3
set_option Elab.async false
set_option linter.all false
set_option maxRecDepth 100000
set_option maxHeartbeats 4000000
namespace L3
open PySem PySem.Spec PyProof.Rows L2
/-- all that M has, M' has -/
def Le (M M' : Mp) : Prop := ∀ a o, M a = some o → M' a = some o
theorem Le.refl {M : Mp} : Le M M := fun _ _ h => h
theorem Le.trans {M M1 M2 : Mp} (x : Le M M1) (y : Le M1 M2) : Le M M2 := fun a o h => y a o (x a o h)
theorem Le.new {M M1 : Mp} {p : Addr} {o : MO} (x : Le M M1) (h : M1 p = none) : Le M (mset M1 p o) := fun a u hu => by
  have z := x a u hu
  rw [mset_ne (ne_m z h)]; exact z
/-- an address that M does not know may be written -/
theorem Le.put {M M1 : Mp} {p : Addr} {o : MO} (x : Le M M1) (h : M p = none) : Le M (mset M1 p o) := fun a u hu => by
  rw [mset_ne (ne_m hu h)]; exact x a u hu
abbrev Ed := Option Int
abbrev Tab := List (List Ed)
def oD : Ed → D
  | none => .non
  | some i => .int i
def rowD (r : List Ed) : D := .tup (r.map oD)
def tabD (T : Tab) : D := .tup (T.map rowD)
theorem st_seq {t u : TS3} {D : Ends3} {τ : St3} {M : Mp} : wSeq t u D τ M = t { D with nx := u D } τ M := rfl
theorem st_next {D : Ends3} {τ : St3} {M : Mp} : wNext D τ M = D.nx τ M := rfl
theorem st_set {i : Nat} {te : TE3} {D : Ends3} {τ : St3} {M : Mp} : wSet i te D τ M = te τ M fun d M1 => D.nx (setS τ i (some d)) M1 := rfl
theorem st_ret {te : TE3} {D : Ends3} {τ : St3} {M : Mp} : wRet te D τ M = te τ M D.rt := rfl
theorem st_drop {te : TE3} {D : Ends3} {τ : St3} {M : Mp} : wDrop te D τ M = te τ M fun _ M1 => D.nx τ M1 := rfl
theorem st_if {c : TT3} {t u : TS3} {D : Ends3} {τ : St3} {M : Mp} : wIfS c t u D τ M = c τ M fun b M1 => ite3 b (t D τ M1) (u D τ M1) := rfl
theorem st_asg {te : TE3} {g : TG3} {D : Ends3} {τ : St3} {M : Mp} : wAsg te g D τ M = te τ M fun d M1 => g d τ M1 D.nx := rfl
theorem st_for {wi : TI3} {g : TG3} {tb : TS3} {D : Ends3} {τ : St3} {M : Mp} : wFor wi g tb D τ M = wi τ M fun ds G M1 => forW G g tb D ds τ M1 := rfl
theorem ex_c {d : D} {τ : St3} {M : Mp} {Q : VK3} : wC d τ M Q = Q d M := rfl
theorem ex_var {i : Nat} {τ : St3} {M : Mp} {Q : VK3} : wVar i τ M Q = asS (getS τ i) fun d => Q d M := rfl
theorem ex_op {r : R23} {ta tb : TE3} {τ : St3} {M : Mp} {Q : VK3} : wOp r ta tb τ M Q = ta τ M fun x M1 => tb τ M1 fun y M2 => r x y M2 Q := rfl
theorem ex_un {r : D → Mp → VK3 → Prop} {ta : TE3} {τ : St3} {M : Mp} {Q : VK3} : wUn r ta τ M Q = ta τ M fun x M1 => r x M1 Q := rfl
theorem ex_b {t : TE3} {τ : St3} {M : Mp} {Q : Bool → Mp → Prop} : wB t τ M Q = t τ M fun d M' => asB d fun k => Q k M' := rfl
theorem ex_and {t u : TT3} {τ : St3} {M : Mp} {Q : Bool → Mp → Prop} : wAnd t u τ M Q = t τ M fun c M1 => ite3 c (u τ M1 Q) (Q false M1) := rfl
theorem ex_or {t u : TT3} {τ : St3} {M : Mp} {Q : Bool → Mp → Prop} : wOr t u τ M Q = t τ M fun c M1 => ite3 c (Q true M1) (u τ M1 Q) := rfl
theorem ex_not {t : TT3} {τ : St3} {M : Mp} {Q : Bool → Mp → Prop} : wNot t τ M Q = t τ M fun c M1 => Q (!c) M1 := rfl
theorem ex_andV {ta tb : TE3} {τ : St3} {M : Mp} {Q : VK3} : wAndV ta tb τ M Q = ta τ M fun x M1 => asB x fun c => ite3 c (tb τ M1 Q) (Q (.bl false) M1) := rfl
theorem ex_orV {ta tb : TE3} {τ : St3} {M : Mp} {Q : VK3} : wOrV ta tb τ M Q = ta τ M fun x M1 => asB x fun c => ite3 c (Q (.bl true) M1) (tb τ M1 Q) := rfl
theorem ex_notV {ta : TE3} {τ : St3} {M : Mp} {Q : VK3} : wNotV ta τ M Q = ta τ M fun x M1 => asB x fun c => Q (.bl (!c)) M1 := rfl
theorem ex_if {c : TT3} {ta tb : TE3} {τ : St3} {M : Mp} {Q : VK3} : wIf c ta tb τ M Q = c τ M fun z M1 => ite3 z (ta τ M1 Q) (tb τ M1 Q) := rfl
theorem ex_chain {r r' : R23} {ta tb tc : TE3} {τ : St3} {M : Mp} {Q : VK3} : wChain r r' ta tb tc τ M Q = ta τ M fun x M1 => tb τ M1 fun y M2 => r x y M2 fun z M3 => asB z fun c => ite3 c (tc τ M3 fun w M4 => r' y w M4 Q) (Q (.bl false) M3) := rfl
theorem ex_nil {τ : St3} {M : Mp} {Q : List D → Mp → Prop} : wNil τ M Q = Q [] M := rfl
theorem ex_cons {ta : TE3} {tr : TA3} {τ : St3} {M : Mp} {Q : List D → Mp → Prop} : wCons ta tr τ M Q = ta τ M fun x M1 => tr τ M1 fun xs M2 => Q (x :: xs) M2 := rfl
theorem ex_tup {t : TA3} {τ : St3} {M : Mp} {Q : VK3} : wTup t τ M Q = t τ M fun xs M1 => xs.length ≤ sizeLine ∧ Q (.tup xs) M1 := rfl
theorem ex_lst {t : TA3} {τ : St3} {M : Mp} {Q : VK3} : wLst t τ M Q = t τ M fun xs M1 => xs.length ≤ sizeLine ∧ ∀ p, M1 p = none → Q (.ref p) (mset M1 p (.lst xs)) := rfl
theorem ex_call {sp : Sp3} {E : XK3} {t : TA3} {τ : St3} {M : Mp} {Q : VK3} : wCall sp E t τ M Q = t τ M fun ds M1 => sp ds M1 Q E := rfl
theorem ex_callP {sp : Sp3} {E : XK3} {t : TA3} {τ : St3} {M : Mp} {Q : VK3} : wCallP sp E t τ M Q = t τ M fun ds M1 => sp ds M0 (fun d _ => Q d M1) (fun c fs _ => E c fs M1) := rfl
theorem ex_cb {r : List D → Mp → VK3 → Prop} {t : TA3} {τ : St3} {M : Mp} {Q : VK3} : wCB r t τ M Q = t τ M fun ds M1 => r ds M1 Q := rfl
theorem ex_bm {r : M23} {to : TE3} {t : TA3} {τ : St3} {M : Mp} {Q : VK3} : wBM r to t τ M Q = to τ M fun d M1 => (match d with | .ref a => ∃ ds, M1 a = some (.lst ds) | _ => False) ∧ t τ M1 fun ds M2 => r d ds M2 Q := rfl
theorem ex_rep {te tb : TE3} {τ : St3} {M : Mp} {Q : VK3} : wRep te tb τ M Q = te τ M fun d M1 => tb τ M1 fun i M2 => asI i fun k => -(2 ^ 63) ≤ k ∧ k < 2 ^ 63 ∧ k.toNat ≤ sizeLine ∧ ∀ p, M2 p = none → Q (.ref p) (mset M2 p (.lst (List.replicate k.toNat d))) := rfl
theorem ex_sl {te : TE3} {tl th : St3 → Mp → (Option Int → Mp → Prop) → Prop} {τ : St3} {M : Mp} {Q : VK3} : wSl te tl th τ M Q = te τ M fun d M1 => tl τ M1 fun lo M2 => th τ M2 fun hi M3 => oSl d lo hi M3 Q := rfl
theorem ex_noPart {τ : St3} {M : Mp} {Q : Option Int → Mp → Prop} : wNoPart τ M Q = Q none M := rfl
theorem ex_part {t : TE3} {τ : St3} {M : Mp} {Q : Option Int → Mp → Prop} : wPart t τ M Q = t τ M fun d M1 => asI d fun i => Q (some i) M1 := rfl
theorem ex_yes {τ : St3} {M : Mp} {Q : Bool → Mp → Prop} : wYes τ M Q = Q true M := rfl
theorem it_items {tl : TE3} {τ : St3} {M : Mp} {R : List D → (Mp → Prop) → Mp → Prop} : wItems tl τ M R = tl τ M fun d M1 => asL (items M1 d) fun ds => R ds (keepG M1 d ds) M1 := rfl
theorem it_rng1 {t : TA3} {τ : St3} {M : Mp} {R : List D → (Mp → Prop) → Mp → Prop} : wRng1 t τ M R = t τ M fun ds M1 => match ds with | [.int j] => -(2 ^ 62) ≤ j ∧ j < 2 ^ 62 ∧ R (rgD 0 j.toNat) (fun _ => True) M1 | _ => False := rfl
theorem it_rng2 {t : TA3} {τ : St3} {M : Mp} {R : List D → (Mp → Prop) → Mp → Prop} : wRng2 t τ M R = t τ M fun ds M1 => match ds with | [.int i, .int j] => (-(2 ^ 62) ≤ i ∧ i < 2 ^ 62 ∧ -(2 ^ 62) ≤ j ∧ j < 2 ^ 62) ∧ R (rgD i (j - i).toNat) (fun _ => True) M1 | _ => False := rfl
theorem tg_name {i : Nat} {d : D} {τ : St3} {M : Mp} {Q : St3 → Mp → Prop} : wgName i d τ M Q = Q (setS τ i (some d)) M := rfl
theorem tg_sub {to ti : TE3} {t : TSet3} {d : D} {τ : St3} {M : Mp} {Q : St3 → Mp → Prop} : wgSub to ti t d τ M Q = to τ M fun o M1 => ti τ M1 fun i M2 => t o i d M2 fun M3 => Q τ M3 := rfl
theorem tg_tup {n : Nat} {t : TGs3} {ds : List D} {τ : St3} {M : Mp} {Q : St3 → Mp → Prop} : wgTupN n t (.tup ds) τ M Q = (ds.length = n ∧ t ds τ M Q) := rfl
theorem tg_cons {t : TG3} {u : TGs3} {d : D} {r : List D} {τ : St3} {M : Mp} {Q : St3 → Mp → Prop} : wgCons t u (d :: r) τ M Q = t d τ M fun τ' M' => u r τ' M' Q := rfl
theorem tg_nil {τ : St3} {M : Mp} {Q : St3 → Mp → Prop} : wgNil [] τ M Q = Q τ M := rfl
theorem gs_0 {d : Option D} {τ : St3} : getS (d :: τ) 0 = d := rfl
theorem gs_s {d : Option D} {τ : St3} {i : Nat} : getS (d :: τ) (i + 1) = getS τ i := rfl
theorem ss_0 {d e : Option D} {τ : St3} : setS (d :: τ) 0 e = e :: τ := rfl
theorem ss_s {d e : Option D} {τ : St3} {i : Nat} : setS (d :: τ) (i + 1) e = d :: setS τ i e := rfl
theorem op_ii {i j : Int} {M : Mp} {Q : VK3} : oAdd (.int i) (.int j) M Q = Q (.int (i + j)) M := rfl
theorem op_ss {i j : Str} {M : Mp} {Q : VK3} : oAdd (.str i) (.str j) M Q = (i.length + j.length ≤ sizeLine ∧ Q (.str (i ++ j)) M) := rfl
theorem op_tt {i j : List D} {M : Mp} {Q : VK3} : oAdd (.tup i) (.tup j) M Q = (i.length + j.length ≤ sizeLine ∧ Q (.tup (i ++ j)) M) := rfl
theorem op_mm {i j : Int} {M : Mp} {Q : VK3} : oMul (.int i) (.int j) M Q = (IntMulOk i j ∧ Q (.int (i * j)) M) := rfl
theorem op_sb {d e : D} {M : Mp} {Q : VK3} : oSub d e M Q = asI d fun i => asI e fun j => Q (.int (i - j)) M := rfl
theorem op_in {C : Int → Int → Prop} {g : Int → Int → Int} {d e : D} {M : Mp} {Q : VK3} : oInt C g d e M Q = asI d fun i => asI e fun j => C i j ∧ Q (.int (g i j)) M := rfl
theorem op_ng {d : D} {M : Mp} {Q : VK3} : oNeg d M Q = asI d fun i => Q (.int (-i)) M := rfl
theorem op_cp {p : Int → Int → Bool} {d e : D} {M : Mp} {Q : VK3} : oCmp p d e M Q = asI d fun i => asI e fun j => Q (.bl (p i j)) M := rfl
theorem op_iNf {d : D} {M : Mp} {Q : VK3} : oIsN false d .non M Q = Q (.bl (isN d)) M := rfl
theorem op_iNt {d : D} {M : Mp} {Q : VK3} : oIsN true d .non M Q = Q (.bl (!isN d)) M := rfl
theorem op_ixT {ds : List D} {e : D} {M : Mp} {Q : VK3} : oIx (.tup ds) e M Q = asI e fun i => asS (atI ds i) fun v => Q v M := rfl
theorem op_ixR {ds : List D} {e : D} {M : Mp} {Q : VK3} : oIx (.rol ds) e M Q = asI e fun i => asS (atI ds i) fun v => Q v M := rfl
theorem op_ixL {a : Addr} {e : D} {M : Mp} {Q : VK3} : oIx (.ref a) e M Q = asI e fun i => asL (lstOf (M a)) fun ds => asS (atI ds i) fun v => Q v M := rfl
theorem it_tupE {M : Mp} {ds : List D} : items M (.tup ds) = some ds := rfl
theorem it_rolE {M : Mp} {ds : List D} : items M (.rol ds) = some ds := rfl
theorem it_refE {M : Mp} {a : Addr} : items M (.ref a) = lstOf (M a) := rfl
theorem lstOf_l {ds : List D} : lstOf (some (.lst ds)) = some ds := rfl
theorem bl_1 {r : D → Mp → VK3 → Prop} {d : D} {M : Mp} {Q : VK3} : b1 r [d] M Q = r d M Q := rfl
theorem bl_lenT {M : Mp} {ds : List D} {Q : VK3} : bLen [.tup ds] M Q = Q (.int ds.length) M := rfl
theorem bl_lenR {M : Mp} {ds : List D} {Q : VK3} : bLen [.rol ds] M Q = Q (.int ds.length) M := rfl
theorem bl_lenL {M : Mp} {a : Addr} {Q : VK3} : bLen [.ref a] M Q = asL (lstOf (M a)) fun ds => Q (.int ds.length) M := rfl
theorem bl_lenS {M : Mp} {z : Str} {Q : VK3} : bLen [.str z] M Q = (z.length ≤ sizeLine ∧ Q (.int z.length) M) := rfl
theorem bl_tuple {M : Mp} {d : D} {Q : VK3} : bTuple [d] M Q = asL (items M d) fun ds => Q (.tup ds) M := rfl
theorem bl_list {M : Mp} {d : D} {Q : VK3} : bList [d] M Q = asL (items M d) fun ds => ∀ p, M p = none → Q (.ref p) (mset M p (.lst ds)) := rfl
theorem bl_abs {M : Mp} {d : D} {Q : VK3} : bAbs [d] M Q = asI d fun i => Q (.int (if i < 0 then -i else i)) M := rfl
theorem bl_intI {M : Mp} {i : Int} {Q : VK3} : bInt [.int i] M Q = Q (.int i) M := rfl
theorem bl_intB {M : Mp} {i : Bool} {Q : VK3} : bInt [.bl i] M Q = Q (.int (if i then 1 else 0)) M := rfl
theorem bl_max {M : Mp} {i j : Int} {Q : VK3} : bMax [.int i, .int j] M Q = Q (.int (if j > i then j else i)) M := rfl
theorem bl_min {M : Mp} {i j : Int} {Q : VK3} : bMin [.int i, .int j] M Q = Q (.int (if j < i then j else i)) M := rfl
theorem op_eqSf {x y : Str} {M : Mp} {Q : VK3} : oEq false (.str x) (.str y) M Q = Q (.bl (decide (x = y))) M := rfl
theorem op_eqSt {x y : Str} {M : Mp} {Q : VK3} : oEq true (.str x) (.str y) M Q = Q (.bl (!decide (x = y))) M := rfl
theorem op_eqIf {x : Int} {e : D} {M : Mp} {Q : VK3} : oEq false (.int x) e M Q = (Pl (.int x) ∧ Pl (top M e) ∧ Q (.bl (eqD (.int x) (top M e))) M) := rfl
theorem op_eqIt {x : Int} {e : D} {M : Mp} {Q : VK3} : oEq true (.int x) e M Q = (Pl (.int x) ∧ Pl (top M e) ∧ Q (.bl (!eqD (.int x) (top M e))) M) := rfl
theorem op_eqTf {x : List D} {e : D} {M : Mp} {Q : VK3} : oEq false (.tup x) e M Q = (Pl (.tup x) ∧ Pl (top M e) ∧ Q (.bl (eqD (.tup x) (top M e))) M) := rfl
theorem op_eqTt {x : List D} {e : D} {M : Mp} {Q : VK3} : oEq true (.tup x) e M Q = (Pl (.tup x) ∧ Pl (top M e) ∧ Q (.bl (!eqD (.tup x) (top M e))) M) := rfl
theorem op_eqRf {x : Addr} {e : D} {M : Mp} {Q : VK3} : oEq false (.ref x) e M Q = (Pl (top M (.ref x)) ∧ Pl (top M e) ∧ Q (.bl (eqD (top M (.ref x)) (top M e))) M) := rfl
theorem op_eqRt {x : Addr} {e : D} {M : Mp} {Q : VK3} : oEq true (.ref x) e M Q = (Pl (top M (.ref x)) ∧ Pl (top M e) ∧ Q (.bl (!eqD (top M (.ref x)) (top M e))) M) := rfl
theorem op_eqNf {e : D} {M : Mp} {Q : VK3} : oEq false .non e M Q = (Pl .non ∧ Pl (top M e) ∧ Q (.bl (eqD .non (top M e))) M) := rfl
theorem op_eqNt {e : D} {M : Mp} {Q : VK3} : oEq true .non e M Q = (Pl .non ∧ Pl (top M e) ∧ Q (.bl (!eqD .non (top M e))) M) := rfl
theorem eqD_int {i j : Int} : eqD (.int i) (.int j) = decide (i = j) := by
  simp only [eqD, pdOf, PyData.eqv]
  rw [Bool.eq_iff_iff]; simp
theorem eqD_nil {x : List D} : eqD (.tup x) (.tup []) = x.isEmpty := by
  cases x <;> simp only [eqD, pdOf, pdsOf, PyData.eqv, PyData.eqvAll, List.isEmpty]
theorem pl_int {i : Int} : Pl (.int i) = True := eq_true ⟨rfl, Nat.zero_le _⟩
theorem pl_nil : Pl (.tup []) = True := eq_true ⟨rfl, by decide⟩
theorem pl_non : Pl .non = True := eq_true ⟨rfl, by decide⟩
theorem pl_rnil : Pl (.rol []) = True := eq_true ⟨rfl, by decide⟩
theorem pl_bl {b : Bool} : Pl (.bl b) = True := eq_true ⟨rfl, Nat.zero_le _⟩
theorem op_lle {a b : Addr} {M : Mp} {Q : VK3} : oAdd (.ref a) (.ref b) M Q = asL (lstOf (M a)) fun xs => asL (lstOf (M b)) fun ys => xs.length + ys.length ≤ sizeLine ∧ ∀ p, M p = none → Q (.ref p) (mset M p (.lst (xs ++ ys))) := by
  simp only [oAdd]
  cases M a with
  | none => rfl
  | some o =>
    cases o with
    | lst xs =>
      cases M b with
      | none => rfl
      | some u => cases u <;> rfl
    | _ => cases M b <;> rfl
theorem sl_tupE {ds : List D} {lo hi : Option Int} {M : Mp} {Q : VK3} : oSl (.tup ds) lo hi M Q = Q (.tup (cutD ds lo hi)) M := rfl
theorem sl_rolE {ds : List D} {lo hi : Option Int} {M : Mp} {Q : VK3} : oSl (.rol ds) lo hi M Q = ∀ p, M p = none → Q (.ref p) (mset M p (.lst (cutD ds lo hi))) := rfl
/-- a comprehension by what holds of the turn, what is made, M -/
theorem lc_pv {G : Mp → Prop} {g : TG3} {tt : TT3} {te : TE3} {τ : St3} {Q : List D → Mp → Prop} {ds : List D} (Pv : Nat → List D → Mp → Prop)
    (step : ∀ i d acc M, ds[i]? = some d → Pv i acc M → ∀ X : List D → Mp → Prop, (∀ acc' M', Pv (i + 1) acc' M' → X acc' M') → G M ∧ g d τ M fun τ2 M2 => tt τ2 M2 fun b M3 => ite3 b (te τ2 M3 fun y M4 => acc.length < sizeLine ∧ X (acc ++ [y]) M4) (X acc M3))
    (fin : ∀ acc M, Pv ds.length acc M → G M ∧ Q acc M) {M : Mp} (h0 : Pv 0 [] M) : lcW G g tt te τ Q ds [] M := by
  have go : ∀ (k i : Nat) (acc : List D) (M : Mp), ds.length - i = k → i ≤ ds.length → Pv i acc M → lcW G g tt te τ Q (ds.drop i) acc M := by
    intro k
    induction k with
    | zero =>
      intro i acc M hk hi p
      have e : i = ds.length := by omega
      subst e
      rw [List.drop_length]
      exact fin acc M p
    | succ k ih =>
      intro i acc M hk hi p
      have hlt : i < ds.length := by omega
      rw [List.drop_eq_getElem_cons hlt]
      exact step i _ acc M (List.getElem?_eq_getElem hlt) p _ fun acc' M' p' => ih (i + 1) acc' M' (by omega) hlt p'
  exact go _ 0 [] M rfl (Nat.zero_le _) h0
/-- a for by what holds ahead of each turn -/
theorem for_pv {G : Mp → Prop} {g : TG3} {tb : TS3} {E : Ends3} {ds : List D} (Pv : Nat → St3 → Mp → Prop)
    (step : ∀ i d τ M, ds[i]? = some d → Pv i τ M → ∀ X : St3 → Mp → Prop, (∀ τ' M', Pv (i + 1) τ' M' → X τ' M') → G M ∧ g d τ M fun τ2 M2 => tb { E with nx := X, ct := X, bk := E.nx } τ2 M2)
    (fin : ∀ τ M, Pv ds.length τ M → G M ∧ E.nx τ M) {τ : St3} {M : Mp} (h0 : Pv 0 τ M) : forW G g tb E ds τ M := by
  have go : ∀ (k i : Nat) (τ : St3) (M : Mp), ds.length - i = k → i ≤ ds.length → Pv i τ M → forW G g tb E (ds.drop i) τ M := by
    intro k
    induction k with
    | zero =>
      intro i τ M hk hi p
      have e : i = ds.length := by omega
      subst e
      rw [List.drop_length]
      exact fin τ M p
    | succ k ih =>
      intro i τ M hk hi p
      have hlt : i < ds.length := by omega
      rw [List.drop_eq_getElem_cons hlt]
      exact step i _ τ M (List.getElem?_eq_getElem hlt) p _ fun τ' M' p' => ih (i + 1) τ' M' (by omega) hlt p'
  exact go _ 0 τ M rfl (Nat.zero_le _) h0
theorem rgD_len (lo : Int) (n : Nat) : (rgD lo n).length = n := by unfold rgD; simp
/-- over a range -/
theorem for_rg {g : TG3} {tb : TS3} {E : Ends3} {lo : Int} {n : Nat} (Pv : Nat → St3 → Mp → Prop)
    (step : ∀ i τ M, i < n → Pv i τ M → ∀ X : St3 → Mp → Prop, (∀ τ' M', Pv (i + 1) τ' M' → X τ' M') → g (.int (lo + (i : Nat))) τ M fun τ2 M2 => tb { E with nx := X, ct := X, bk := E.nx } τ2 M2)
    (fin : ∀ τ M, Pv n τ M → E.nx τ M) {τ : St3} {M : Mp} (h0 : Pv 0 τ M) : forW (fun _ => True) g tb E (rgD lo n) τ M :=
  for_pv Pv (fun i d τ M hd p X hX => by
    obtain ⟨hi, rfl⟩ := rgD_get hd
    exact ⟨True.intro, step i τ M hi p X hX⟩) (fun τ M p => ⟨True.intro, fin τ M (by rw [rgD_len] at p; exact p)⟩) h0
theorem while_pv {c : TT3} {tb : TS3} {E : Ends3} (Pv : Nat → St3 → Mp → Prop)
    (step : ∀ n τ M, Pv n τ M → ∀ X : St3 → Mp → Prop, (∀ m τ' M', m < n → Pv m τ' M' → X τ' M') → c τ M fun b M1 => ite3 b (tb { E with nx := X, ct := X, bk := E.nx } τ M1) (E.nx τ M1)) {n : Nat} {τ : St3} {M : Mp} (h0 : Pv n τ M) : wWhile c tb E τ M := by
  refine ⟨n + 1, ?_⟩
  have go : ∀ k n τ M, n ≤ k → Pv n τ M → whileW c tb E (k + 1) τ M := by
    intro k
    induction k with
    | zero =>
      intro n τ M hn p
      exact step n τ M p _ fun m τ' M' hm p' => by omega
    | succ k ih =>
      intro n τ M hn p
      exact step n τ M p _ fun m τ' M' hm p' => ih m τ' M' (by omega) p'
  exact go n n τ M (Nat.le_refl _) h0
structure Mat (M : Mp) (e : Addr) (as : List Addr) (T : Tab) : Prop where
  top : M e = some (.lst (as.map D.ref))
  len : as.length = T.length
  row : ∀ (i : Nat) (a : Addr) (r : List Ed), as[i]? = some a → T[i]? = some r → M a = some (.lst (r.map oD))
  nd : as.Nodup
  ne : e ∉ as
theorem Mat.le {M M' : Mp} {e : Addr} {as : List Addr} {T : Tab} (m : Mat M e as T) (l : Le M M') : Mat M' e as T :=
  ⟨l _ _ m.top, m.len, fun i a r h1 h2 => l _ _ (m.row i a r h1 h2), m.nd, m.ne⟩
/-- so many rows laid, the list of them not yet -/
structure Rows (M M' : Mp) (as : List Addr) (T : Tab) : Prop where
  le : Le M M'
  len : as.length = T.length
  row : ∀ (i : Nat) (a : Addr) (r : List Ed), as[i]? = some a → T[i]? = some r → M' a = some (.lst (r.map oD))
  nd : as.Nodup
  new : ∀ a ∈ as, M a = none
theorem Rows.nil {M : Mp} : Rows M M [] [] := ⟨.refl, rfl, fun _ _ _ h => by simp at h, List.nodup_nil, fun _ h => by simp at h⟩
/-- a matrix's end stored -/
theorem Mat.put {M : Mp} {e : Addr} {as : List Addr} {T : Tab} {p : Nat} {a : Addr} {r r' : List Ed} (m : Mat M e as T) (ha : as[p]? = some a) (hr : T[p]? = some r) : Mat (mset M a (.lst (r'.map oD))) e as (T.set p r') := by
  have nea : e ≠ a := fun h => m.ne (h ▸ List.mem_of_getElem? ha)
  refine ⟨by rw [mset_ne nea]; exact m.top, by rw [List.length_set]; exact m.len, fun i b q h1 h2 => ?_, m.nd, m.ne⟩
  by_cases hi : i = p
  · subst hi
    rw [ha] at h1; cases h1
    rw [List.getElem?_set_self (List.getElem?_eq_some_iff.mp hr).1] at h2
    cases h2
    exact mset_same
  · rw [List.getElem?_set_ne (Ne.symm hi)] at h2
    have : b ≠ a := fun h => by subst h; exact hi (nd_ix m.nd h1 ha)
    rw [mset_ne this]
    exact m.row i b q h1 h2
theorem Mat.at {M : Mp} {e : Addr} {as : List Addr} {T : Tab} {p : Nat} {r : List Ed} (m : Mat M e as T) (hr : T[p]? = some r) : ∃ a, as[p]? = some a ∧ M a = some (.lst (r.map oD)) := by
  have hp : p < as.length := by rw [m.len]; exact (List.getElem?_eq_some_iff.mp hr).1
  exact ⟨as[p], List.getElem?_eq_getElem hp, m.row p _ r (List.getElem?_eq_getElem hp) hr⟩
theorem atI_nat' {α : Type} {xs : List α} {i : Int} {v : α} (h0 : 0 ≤ i) (h : xs[i.toNat]? = some v) : atI xs i = some v := by
  have e : i = ((i.toNat : Nat) : Int) := by omega
  rw [e]; exact atI_nat h
theorem ixN_nat {n : Nat} {i : Int} (h0 : 0 ≤ i) (h1 : i < n) : ixN n i = some i.toNat := by
  unfold ixN
  rw [if_pos h0, if_pos h1]
theorem ex_lstF {t : TA3} {τ : St3} {M : Mp} {Q : VK3} : wLstF t τ M Q = t τ M fun xs M1 => xs.length ≤ sizeLine ∧ Q (.rol xs) M1 := rfl
theorem ex_repF {te tb : TE3} {τ : St3} {M : Mp} {Q : VK3} : wRepF te tb τ M Q = te τ M fun d M1 => tb τ M1 fun i M2 => asI i fun k => -(2 ^ 63) ≤ k ∧ k < 2 ^ 63 ∧ k.toNat ≤ sizeLine ∧ Q (.rol (List.replicate k.toNat d)) M2 := rfl
theorem ex_lgF1 {ta : TE3} {τ : St3} {M : Mp} {Q : VK3} : wLstRgF1 ta τ M Q = ta τ M fun d M1 => asI d fun n => (-(2 ^ 62) ≤ n ∧ n ≤ 16777216) ∧ Q (.rol (rgD 0 n.toNat)) M1 := rfl
theorem ex_lgF2 {ta tb : TE3} {τ : St3} {M : Mp} {Q : VK3} : wLstRgF2 ta tb τ M Q = ta τ M fun d M1 => tb τ M1 fun e M2 => asI d fun i => asI e fun j => (-(2 ^ 60) ≤ i ∧ i < 2 ^ 60 ∧ -(2 ^ 60) ≤ j ∧ j < 2 ^ 60 ∧ j - i ≤ 16777216) ∧ Q (.rol (rgD i (j - i).toNat)) M2 := rfl
theorem ex_tupRg1 {ta : TE3} {τ : St3} {M : Mp} {Q : VK3} : wTupRg1 ta τ M Q = ta τ M fun d M1 => asI d fun n => (-(2 ^ 62) ≤ n ∧ n ≤ 16777216) ∧ Q (.tup (rgD 0 n.toNat)) M1 := rfl
theorem ex_tupRg2 {ta tb : TE3} {τ : St3} {M : Mp} {Q : VK3} : wTupRg2 ta tb τ M Q = ta τ M fun d M1 => tb τ M1 fun e M2 => asI d fun i => asI e fun j => (-(2 ^ 60) ≤ i ∧ i < 2 ^ 60 ∧ -(2 ^ 60) ≤ j ∧ j < 2 ^ 60 ∧ j - i ≤ 16777216) ∧ Q (.tup (rgD i (j - i).toNat)) M2 := rfl
theorem ex_lcF {wi : TI3} {g : TG3} {tt : TT3} {te : TE3} {vs : List Nat} {τ : St3} {M : Mp} {Q : VK3} : wLcF wi g tt te vs τ M Q = wi τ M fun ds G M1 => lcW G g tt te (wipe3 τ vs) (fun acc M2 => Q (.rol acc) M2) ds [] M1 := rfl
theorem ex_frz {te : TE3} {τ : St3} {M : Mp} {Q : VK3} : wFrz te τ M Q = te τ M (frzK Q) := rfl
theorem ex_slF {te : TE3} {tl th : PT3o} {τ : St3} {M : Mp} {Q : VK3} : wSlF te tl th τ M Q = te τ M fun d M1 => tl τ M1 fun lo M2 => th τ M2 fun hi M3 => oSlF d lo hi M3 Q := rfl
theorem ex_slM {te : TE3} {tl th : PT3o} {τ : St3} {M : Mp} {Q : VK3} : wSlM te tl th τ M Q = te τ M fun d M1 => tl τ M1 fun lo M2 => th τ M2 fun hi M3 => oSlM d lo hi M3 Q := rfl
theorem sl_tupF {ds : List D} {lo hi : Option Int} {M : Mp} {Q : VK3} : oSlF (.tup ds) lo hi M Q = Q (.tup (cutD ds lo hi)) M := rfl
theorem sl_rolF {ds : List D} {lo hi : Option Int} {M : Mp} {Q : VK3} : oSlF (.rol ds) lo hi M Q = Q (.rol (cutD ds lo hi)) M := rfl
theorem sl_refF {a : Addr} {lo hi : Option Int} {M : Mp} {Q : VK3} : oSlF (.ref a) lo hi M Q = asL (lstOf (M a)) fun ds => Q (.rol (cutD ds lo hi)) M := rfl
theorem op_iiF {i j : Int} {M : Mp} {Q : VK3} : oAddF (.int i) (.int j) M Q = Q (.int (i + j)) M := rfl
theorem op_ssF {i j : Str} {M : Mp} {Q : VK3} : oAddF (.str i) (.str j) M Q = (i.length + j.length ≤ sizeLine ∧ Q (.str (i ++ j)) M) := rfl
theorem op_ttF {i j : List D} {M : Mp} {Q : VK3} : oAddF (.tup i) (.tup j) M Q = (i.length + j.length ≤ sizeLine ∧ Q (.tup (i ++ j)) M) := rfl
theorem op_rrF {i j : List D} {M : Mp} {Q : VK3} : oAddF (.rol i) (.rol j) M Q = (i.length + j.length ≤ sizeLine ∧ Q (.rol (i ++ j)) M) := rfl
theorem op_rrM {i j : List D} {M : Mp} {Q : VK3} : oAddM (.rol i) (.rol j) M Q = (i.length + j.length ≤ sizeLine ∧ ∀ p, M p = none → Q (.ref p) (mset M p (.lst (i ++ j)))) := rfl
theorem op_mmF {i j : Int} {M : Mp} {Q : VK3} : oMulF (.int i) (.int j) M Q = (IntMulOk i j ∧ Q (.int (i * j)) M) := rfl
theorem op_repF {xs : List D} {e : D} {M : Mp} {Q : VK3} : oMulF (.rol xs) e M Q = asI e fun k => -(2 ^ 63) ≤ k ∧ k < 2 ^ 63 ∧ xs.length * k.toNat ≤ sizeLine ∧ Q (.rol (List.replicate k.toNat xs).flatten) M := rfl
theorem rep2 {x : D} : List.replicate (Int.toNat 2) x = [x, x] := rfl
theorem li_rol {M : Mp} {ds : List D} : lstI M (.rol ds) = some ds := rfl
theorem li_ref {M : Mp} {a : Addr} : lstI M (.ref a) = lstOf (M a) := rfl
theorem bl_listF {M : Mp} {d : D} {Q : VK3} : bListF [d] M Q = asL (items M d) fun ds => Q (.rol ds) M := rfl
theorem bl_allF {M : Mp} {d : D} {Q : VK3} : bAllF [d] M Q = asL (lstI M d) fun ds => asT (bls ds) fun l => Q (.bl (l.all id)) M := rfl
theorem bl_anyF {M : Mp} {d : D} {Q : VK3} : bAnyF [d] M Q = asL (lstI M d) fun ds => asT (bls ds) fun l => Q (.bl (l.any id)) M := rfl
theorem asT_some {l : List Bool} {k : List Bool → Prop} : asT (some l) k = k l := rfl
theorem asJ_some {l : List Int} {k : List Int → Prop} : asJ (some l) k = k l := rfl
theorem op_eqLf {x : List D} {e : D} {M : Mp} {Q : VK3} : oEq false (.rol x) e M Q = (Pl (.rol x) ∧ Pl (top M e) ∧ Q (.bl (eqD (.rol x) (top M e))) M) := rfl
theorem op_eqBf {x : Bool} {e : D} {M : Mp} {Q : VK3} : oEq false (.bl x) e M Q = (Pl (.bl x) ∧ Pl (top M e) ∧ Q (.bl (eqD (.bl x) (top M e))) M) := rfl
theorem op_eqBt {x : Bool} {e : D} {M : Mp} {Q : VK3} : oEq true (.bl x) e M Q = (Pl (.bl x) ∧ Pl (top M e) ∧ Q (.bl (!eqD (.bl x) (top M e))) M) := rfl
/-- a comprehension over items by what they are made of -/
theorem lc_of {α : Type} {G : Mp → Prop} {g : TG3} {te : TE3} {τ : St3} {Q : List D → Mp → Prop} {M : Mp} (enc : α → D) (f : α → D) (hG : G M) (xs : List α) (hl : xs.length ≤ sizeLine)
    (h : ∀ x ∈ xs, ∀ k : D → Mp → Prop, k (f x) M → g (enc x) τ M fun τ2 M2 => te τ2 M2 k) (q : Q (xs.map f) M) : lcW G g wYes te τ Q (xs.map enc) [] M := by
  have go : ∀ (ys : List α) (acc : List D), acc.length + ys.length ≤ sizeLine → (∀ x ∈ ys, x ∈ xs) → Q (acc ++ ys.map f) M → lcW G g wYes te τ Q (ys.map enc) acc M := by
    intro ys
    induction ys with
    | nil => intro acc _ _ q; exact ⟨hG, by simpa using q⟩
    | cons y ys ih =>
      intro acc hl hm q
      refine ⟨hG, h y (hm y (by simp)) _ ⟨by simp at hl; omega, ih _ (by simp at hl ⊢; omega) (fun x hx => hm x (by simp [hx])) (by simpa using q)⟩⟩
  exact go xs [] (by simpa using hl) (fun _ h => h) (by simpa using q)
/-- over items by what they are made of -/
theorem for_of {α : Type} {G : Mp → Prop} {g : TG3} {tb : TS3} {E : Ends3} {xs : List α} (enc : α → D) (Pv : Nat → St3 → Mp → Prop) (hG : ∀ i τ M, Pv i τ M → G M)
    (step : ∀ i x τ M, xs[i]? = some x → Pv i τ M → ∀ X : St3 → Mp → Prop, (∀ τ' M', Pv (i + 1) τ' M' → X τ' M') → g (enc x) τ M fun τ2 M2 => tb { E with nx := X, ct := X, bk := E.nx } τ2 M2)
    (fin : ∀ τ M, Pv xs.length τ M → E.nx τ M) {τ : St3} {M : Mp} (h0 : Pv 0 τ M) : forW G g tb E (xs.map enc) τ M :=
  for_pv Pv (fun i d τ M hd p X hX => by
    rw [List.getElem?_map] at hd
    obtain ⟨x, hx, rfl⟩ := Option.map_eq_some_iff.mp hd
    exact ⟨hG i τ M p, step i x τ M hx p X hX⟩) (fun τ M p => ⟨hG _ τ M p, fin τ M (by rw [List.length_map] at p; exact p)⟩) h0
end L3
set_option Elab.async false
set_option linter.all false
set_option maxRecDepth 100000
set_option maxHeartbeats 4000000
namespace L3
open PySem PySem.Spec PyProof.Rows L2
def asN (o : Option Nat) (k : Nat → Prop) : Prop := match o with
  | some n => k n
  | none => False
theorem asN_some {n : Nat} {k : Nat → Prop} : asN (some n) k = k n := rfl
theorem exL {xs : List D} : (∃ ds, some (MO.lst xs) = some (MO.lst ds)) = True := eq_true ⟨xs, rfl⟩
theorem op_putE {a : Addr} {k : Int} {v : D} {M : Mp} {Q : Mp → Prop} : oPut (.ref a) (.int k) v M Q = asL (lstOf (M a)) fun ds => asN (ixN ds.length k) fun j => Q (mset M a (.lst (ds.set j v))) := by
  simp only [oPut]
  cases M a with
  | none => rfl
  | some o =>
    cases o with
    | lst ds =>
      simp only [lstOf_l, asL_some]
      cases ixN ds.length k <;> rfl
    | _ => rfl
theorem op_appE {a : Addr} {y : D} {M : Mp} {Q : VK3} : oApp (.ref a) [y] M Q = asL (lstOf (M a)) fun xs => xs.length < sizeLine ∧ Q .non (mset M a (.lst (xs ++ [y]))) := by
  simp only [oApp]
  cases M a with
  | none => rfl
  | some o => cases o <;> rfl
theorem keep_ref {M : Mp} {a : Addr} {ds : List D} : keepG M (.ref a) ds = fun M' => M' a = some (.lst ds) := rfl
theorem keep_tup {M : Mp} {xs ds : List D} : keepG M (.tup xs) ds = fun _ => True := rfl
theorem keep_rol {M : Mp} {xs ds : List D} : keepG M (.rol xs) ds = fun _ => True := rfl
theorem tp_int {M : Mp} {i : Int} : top M (.int i) = .int i := rfl
theorem tp_tup {M : Mp} {i : List D} : top M (.tup i) = .tup i := rfl
theorem tp_rol {M : Mp} {i : List D} : top M (.rol i) = .rol i := rfl
theorem tp_str {M : Mp} {i : Str} : top M (.str i) = .str i := rfl
theorem tp_bl {M : Mp} {i : Bool} : top M (.bl i) = .bl i := rfl
theorem tp_non {M : Mp} : top M .non = .non := rfl
def topOf (a : Addr) : Option MO → D
  | some (.lst ds) => .rol ds
  | _ => .ref a
theorem tp_ref {M : Mp} {a : Addr} : top M (.ref a) = topOf a (M a) := by
  simp only [top]
  cases M a with
  | none => rfl
  | some o => cases o <;> rfl
theorem wipe_nil {τ : St3} : wipe3 τ [] = τ := rfl
theorem wipe_cons {τ : St3} {v : Nat} {vs : List Nat} : wipe3 τ (v :: vs) = setS (wipe3 τ vs) v none := rfl
theorem isN_int {i : Int} : isN (.int i) = false := rfl
theorem isN_non : isN .non = true := rfl
/-- a holds three numbers -/
def Feed (M : Mp) (a : Addr) : Prop := ∃ g m c : Int, M a = some (.lst [.int g, .int m, .int c])
/-- a alone was written -/
def Only (a : Addr) (M M' : Mp) : Prop := ∀ b, b ≠ a → M' b = M b
theorem Only.refl {a : Addr} {M : Mp} : Only a M M := fun _ _ => rfl
theorem Only.trans {a : Addr} {M M1 M2 : Mp} (x : Only a M M1) (y : Only a M1 M2) : Only a M M2 := fun b h => (y b h).trans (x b h)
theorem Only.set {a : Addr} {M M1 : Mp} {o : MO} (x : Only a M M1) : Only a M (mset M1 a o) := fun b h => by rw [mset_ne h]; exact x b h
theorem md_in {x n : Int} (h : 0 < n) : 0 ≤ x.fmod n ∧ x.fmod n < n := ⟨Int.fmod_nonneg_of_pos _ h, Int.fmod_lt_of_pos _ h⟩
theorem mulL {i j : Int} (h : 0 ≤ i) (h1 : i < 2 ^ 64) : IntMulOk i j := CMul.ok (.inl ⟨by omega, h1⟩)
theorem mulR {i j : Int} (h : 0 ≤ j) (h1 : j < 2 ^ 64) : IntMulOk i j := CMul.ok (.inr ⟨by omega, h1⟩)
end L3
set_option Elab.async false
set_option linter.all false
set_option maxRecDepth 100000
set_option maxHeartbeats 4000000
namespace L3
open PySem PySem.Spec PyProof.Rows L2
structure Tm (h n : Nat) (d : D) : Prop where
  p : plain d = true
  dp : deep d ≤ h
  ok : showOk d = true
  sh : (pdOf d).leavesShort 120 = true
  bk : (pdOf d).bulk ≤ n
theorem Tm.int {i : Int} (hi : i.natAbs < 10 ^ 100) : Tm 0 0 (.int i) := by
  refine ⟨rfl, Nat.le_refl _, ?_, ?_, Nat.le_refl _⟩
  · unfold showOk
    rw [decide_eq_true_eq]
    by_cases e : i.natAbs = 0
    · rw [e]; decide
    · exact (Nat.log2_lt e).mpr (Nat.lt_of_lt_of_le hi (by decide +kernel))
  · show decide ((PyData.shown (.int i)).length ≤ 120) = true
    rw [decide_eq_true_eq]
    have e := int_text_length_le10 (k := 100) (by decide) hi
    show (Str.ofString (toString i)).length ≤ 120
    rw [PySem.ofString_length]
    omega
theorem Tm.non : Tm 0 0 .non := ⟨rfl, Nat.le_refl _, rfl, rfl, Nat.le_refl _⟩
theorem Tm.bl {b : Bool} : Tm 0 0 (.bl b) := ⟨rfl, Nat.le_refl _, rfl, rfl, Nat.le_refl _⟩
theorem Tm.mono {h n h' n' : Nat} {d : D} (t : Tm h n d) (a : h ≤ h') (b : n ≤ n') : Tm h' n' d := ⟨t.p, Nat.le_trans t.dp a, t.ok, t.sh, Nat.le_trans t.bk b⟩
theorem tms {h n : Nat} : ∀ ds : List D, (∀ d ∈ ds, Tm h n d) → plains ds = true ∧ deeps ds ≤ h ∧ showOks ds = true ∧ PyData.leavesShortAll 120 (pdsOf ds) = true ∧ PyData.bulkAll (pdsOf ds) ≤ ds.length * (n + 1)
  | [], _ => ⟨rfl, Nat.zero_le _, rfl, rfl, by simp [pdsOf, PyData.bulkAll]⟩
  | d :: ds, a => by
    obtain ⟨h1, h2, h3, h4, h5⟩ := tms ds fun x hx => a x (by simp [hx])
    have t := a d (by simp)
    refine ⟨by simp [plains, t.p, h1], ?_, by simp [showOks, t.ok, h3], by simp [pdsOf, PyData.leavesShortAll, t.sh, h4], ?_⟩
    · simp only [deeps]
      exact Nat.max_le.mpr ⟨t.dp, h2⟩
    · simp only [pdsOf, PyData.bulkAll, List.length_cons]
      have := t.bk
      rw [Nat.add_mul]
      omega
theorem Tm.tup {h n m : Nat} {ds : List D} (a : ∀ d ∈ ds, Tm h n d) (l : ds.length ≤ m) : Tm (h + 1) (m * (n + 1)) (.tup ds) := by
  obtain ⟨h1, h2, h3, h4, h5⟩ := tms ds a
  refine ⟨by simpa [plain] using h1, by simp only [deep]; omega, by simpa [showOk] using h3, by simpa [pdOf, PyData.leavesShort] using h4, ?_⟩
  simp only [pdOf, PyData.bulk]
  exact Nat.le_trans h5 (Nat.mul_le_mul_right _ l)
theorem Tm.rol {h n m : Nat} {ds : List D} (a : ∀ d ∈ ds, Tm h n d) (l : ds.length ≤ m) : Tm (h + 1) (m * (n + 1)) (.rol ds) := by
  obtain ⟨h1, h2, h3, h4, h5⟩ := tms ds a
  refine ⟨by simpa [plain] using h1, by simp only [deep]; omega, by simpa [showOk] using h3, by simpa [pdOf, PyData.leavesShort] using h4, ?_⟩
  simp only [pdOf, PyData.bulk]
  exact Nat.le_trans h5 (Nat.mul_le_mul_right _ l)
theorem Tm.pl {h n : Nat} {d : D} (t : Tm h n d) (a : h ≤ 64) : Pl d := ⟨t.p, Nat.le_trans t.dp a⟩
theorem Tm.fits {h n : Nat} {d : D} (t : Tm h n d) (a : h ≤ 64) (b : n ≤ 130000) : Sh d := by
  refine ⟨t.pl a, t.ok, ?_⟩
  have := PyData.shown_le_bulk 120 (by decide) (pdOf d) t.sh
  have := t.bk
  show (pdOf d).shown.length ≤ sizeLine
  have : sizeLine = 16777216 := by decide
  omega
/-- an end within a bound -/
def EdB (B : Nat) (e : Ed) : Prop := ∀ i, e = some i → i.natAbs < B
/-- a table of so many rows and columns, its ends within a bound -/
structure TabB (B n : Nat) (T : Tab) : Prop where
  rows : T.length = n
  cols : ∀ r ∈ T, r.length = n
  ends : ∀ r ∈ T, ∀ e ∈ r, EdB B e
theorem Tm.ed {B : Nat} {e : Ed} (h : EdB B e) (hB : B ≤ 10 ^ 100) : Tm 0 0 (oD e) := by
  cases e with
  | none => exact .non
  | some i => exact .int (Nat.lt_of_lt_of_le (h i rfl) hB)
theorem Tm.tab {B n : Nat} {T : Tab} (h : TabB B n T) (hB : B ≤ 10 ^ 100) : Tm 2 (n * (n + 1)) (tabD T) := by
  refine (Tm.tup (h := 1) (n := n * 1) (m := n) (fun d hd => ?_) (by rw [List.length_map, h.rows]; exact Nat.le_refl _)).mono (Nat.le_refl _) (by rw [Nat.mul_one]; exact Nat.le_refl _)
  obtain ⟨r, hr, rfl⟩ := List.mem_map.mp hd
  refine Tm.tup (h := 0) (n := 0) (m := n) (fun e he => ?_) (by rw [List.length_map, h.cols r hr]; exact Nat.le_refl _)
  obtain ⟨x, hx, rfl⟩ := List.mem_map.mp he
  exact .ed (h.ends r hr x hx) hB
end L3
set_option Elab.async false
set_option linter.all false
set_option maxRecDepth 100000
set_option maxHeartbeats 4000000
namespace L3
open PySem PySem.Spec PyProof.Rows L2
def emptyT (n : Nat) : Tab := List.replicate n (List.replicate n none)
def at2 (T : Tab) (p q : Nat) : Ed := (T.getD p []).getD q none
def putT (T : Tab) (p q : Nat) (e : Ed) : Tab := T.set p ((T.getD p []).set q e)
/-- so many rows, so many columns -/
structure Sq (n : Nat) (T : Tab) : Prop where
  rows : T.length = n
  cols : ∀ r ∈ T, r.length = n
theorem Sq.empty {n : Nat} : Sq n (emptyT n) := ⟨by simp [emptyT], fun r hr => by
  rw [List.eq_of_mem_replicate hr]; simp⟩
theorem Sq.put {n p q : Nat} {T : Tab} {e : Ed} (s : Sq n T) : Sq n (putT T p q e) := by
  refine ⟨by simp [putT, s.rows], fun r hr => ?_⟩
  rcases List.mem_or_eq_of_mem_set hr with h | h
  · exact s.cols r h
  · by_cases hp : p < T.length
    · rw [h, List.length_set, List.getD_eq_getElem?_getD, List.getElem?_eq_getElem hp]
      exact s.cols _ (List.getElem_mem hp)
    · unfold putT at hr
      rw [List.set_eq_of_length_le (by omega)] at hr
      exact s.cols r hr
/-- ends within a bound -/
def Ends (B : Nat) (T : Tab) : Prop := ∀ r ∈ T, ∀ e ∈ r, EdB B e
theorem EdB.non {B : Nat} : EdB B none := fun _ h => nomatch h
theorem Ends.empty {B n : Nat} : Ends B (emptyT n) := fun r hr e he => by
  rw [List.eq_of_mem_replicate hr] at he
  rw [List.eq_of_mem_replicate he]; exact .non
theorem Ends.put {B p q : Nat} {T : Tab} {e : Ed} (s : Ends B T) (h : EdB B e) : Ends B (putT T p q e) := by
  intro r hr x hx
  rcases List.mem_or_eq_of_mem_set hr with h' | h'
  · exact s r h' x hx
  · rw [h'] at hx
    rcases List.mem_or_eq_of_mem_set hx with h2 | h2
    · by_cases hp : p < T.length
      · rw [List.getD_eq_getElem?_getD, List.getElem?_eq_getElem hp] at h2
        exact s _ (List.getElem_mem hp) x h2
      · rw [List.getD_eq_getElem?_getD, List.getElem?_eq_none (by omega)] at h2
        simp at h2
    · rw [h2]; exact h
theorem TabB.of {B n : Nat} {T : Tab} (s : Sq n T) (e : Ends B T) : TabB B n T := ⟨s.rows, s.cols, e⟩
theorem TabB.sq {B n : Nat} {T : Tab} (t : TabB B n T) : Sq n T := ⟨t.rows, t.cols⟩
/-- the row and the end there -/
theorem Sq.get {n : Nat} {T : Tab} (s : Sq n T) {p q : Int} (hp : 0 ≤ p) (hp1 : p < n) (hq : 0 ≤ q) (hq1 : q < n) :
    ∃ r, T[p.toNat]? = some r ∧ r[q.toNat]? = some (at2 T p.toNat q.toNat) ∧ atI (T.map rowD) p = some (.tup (r.map oD)) ∧ atI (r.map oD) q = some (oD (at2 T p.toNat q.toNat)) ∧ ixN (r.map oD).length q = some q.toNat ∧ T.getD p.toNat [] = r := by
  have h1 : p.toNat < T.length := by rw [s.rows]; omega
  have h2 : q.toNat < T[p.toNat].length := by rw [s.cols _ (List.getElem_mem h1)]; omega
  have e1 : T.getD p.toNat [] = T[p.toNat] := by rw [List.getD_eq_getElem?_getD, List.getElem?_eq_getElem h1]; rfl
  have e2 : T[p.toNat][q.toNat]? = some (at2 T p.toNat q.toNat) := by
    unfold at2
    rw [e1, List.getD_eq_getElem?_getD, List.getElem?_eq_getElem h2]; rfl
  refine ⟨_, List.getElem?_eq_getElem h1, e2, atI_nat' hp (by rw [List.getElem?_map, List.getElem?_eq_getElem h1]; rfl), atI_nat' hq (by rw [List.getElem?_map, e2]; rfl), ixN_nat hq ?_, e1⟩
  rw [List.length_map, s.cols _ (List.getElem_mem h1)]; exact hq1
end L3
set_option Elab.async false
set_option linter.all false
set_option maxRecDepth 100000
set_option maxHeartbeats 4000000
namespace L3
open PySem PySem.Spec PyProof.Rows L2
abbrev Trip := Int × Int × Int
/-- within the table -/
def In2 (n : Int) (t : Trip) : Prop := 0 ≤ t.1 ∧ t.1 < n ∧ 0 ≤ t.2.1 ∧ t.2.1 < n
end L3
set_option Elab.async false
set_option linter.all false
set_option maxRecDepth 100000
set_option maxHeartbeats 4000000
namespace L3
def eLe : Ed → Ed → Prop
  | _, none => True
  | some x, some y => x ≤ y
  | none, some _ => False
def eAdd : Ed → Ed → Ed
  | some x, some y => some (x + y)
  | _, _ => none
def eMin : Ed → Ed → Ed
  | none, b => b
  | a, none => a
  | some x, some y => some (if y < x then y else x)
section
variable {a b c d : Ed}
theorem eLe.rfl' : eLe a a := by cases a <;> simp [eLe]
theorem eLe_none : eLe a none := by cases a <;> simp [eLe]
theorem eLe_trans (h : eLe a b) (h2 : eLe b c) : eLe a c := by
  cases a <;> cases b <;> cases c <;> simp [eLe] at * <;> omega
theorem eMin_l : eLe (eMin a b) a := by
  cases a <;> cases b <;> simp [eLe, eMin] <;> split <;> omega
theorem eMin_r : eLe (eMin a b) b := by
  cases a <;> cases b <;> simp [eLe, eMin] <;> split <;> omega
theorem eMin_or : eMin a b = a ∨ eMin a b = b := by
  cases a with
  | none => exact .inr rfl
  | some x =>
    cases b with
    | none => exact .inl rfl
    | some y =>
      by_cases h : y < x
      · exact .inr (by simp only [eMin, if_pos h])
      · exact .inl (by simp only [eMin, if_neg h])
theorem eAdd_mono (h : eLe a b) (h2 : eLe c d) : eLe (eAdd a c) (eAdd b d) := by
  cases a <;> cases b <;> cases c <;> cases d <;> simp [eLe, eAdd] at * <;> omega
theorem eAdd_0 : eAdd a (some 0) = a := by cases a <;> simp [eAdd]
theorem le_add_minr (h1 : eLe a (eAdd d b)) (h2 : eLe a (eAdd d c)) : eLe a (eAdd d (eMin b c)) := by
  rcases eMin_or (a := b) (b := c) with e | e <;> rw [e] <;> assumption
end
abbrev Fn := Nat → Nat → Ed
def Stable (n : Nat) (F : Fn) (s : Nat → Ed) : Prop := ∀ q, q < n → ∀ r, r < n → eLe (s r) (eAdd (s q) (F q r))
/-- S is T closed -/
structure IsCl (n : Nat) (T S : Fn) : Prop where
  diag : ∀ p, p < n → S p p = some 0
  tri : ∀ p q m, p < n → q < n → m < n → eLe (S p q) (eAdd (S p m) (S m q))
  le : ∀ p q, p < n → q < n → eLe (S p q) (T p q)
  st : ∀ s, Stable n T s → Stable n S s
/-- sums fall for ever -/
def Bad (n : Nat) (T : Fn) : Prop := ∃ m, m < n ∧ ∀ s, Stable n T s → s m = none
theorem IsCl.row {n m : Nat} {T S : Fn} (c : IsCl n T S) (hm : m < n) : Stable n T (S m) := fun q hq r hr =>
  eLe_trans (c.tri m r q hm hr hq) (eAdd_mono eLe.rfl' (c.le q r hq hr))
def Neg (n : Nat) (f : Fn) : Prop := ∃ p, p < n ∧ ∃ x, f p p = some x ∧ x < 0
/-- what holds at all times: nothing is lost, nothing grows -/
structure Run (n : Nat) (T f : Fn) : Prop where
  st : ∀ s, Stable n T s → Stable n f s
  le : ∀ p q, p < n → q < n → eLe (f p q) (T p q)
  dg : ∀ p, p < n → eLe (f p p) (some 0)
/-- ahead of round m -/
structure Cm (n m B : Nat) (F : Fn) : Prop where
  diag : ∀ p, p < n → F p p = some 0
  tri : ∀ p q k, p < n → q < n → k < m → eLe (F p q) (eAdd (F p k) (F k q))
  bd : ∀ p q, p < n → q < n → EdB (2 ^ m * B) (F p q)
def rnd (F : Fn) (m : Nat) : Fn := fun p q => eMin (F p q) (eAdd (F p m) (F m q))
/-- in round m, rows ahead of i done, in row i columns ahead of j -/
def Mid (n m : Nat) (F f : Fn) (i j : Nat) : Prop := ∀ p q, p < n → q < n → f p q = if p < i ∨ (p = i ∧ q < j) then rnd F m p q else F p q
def updF (f : Fn) (i j : Nat) (e : Ed) : Fn := fun p q => if p = i ∧ q = j then e else f p q
def RunM (n m B : Nat) (T f : Fn) (i j : Nat) : Prop := Run n T f ∧ (Neg n f ∨ ∃ F, Cm n m B F ∧ Mid n m F f i j)
theorem RunM.row {n m B : Nat} {T f : Fn} {i : Nat} (r : RunM n m B T f i n) : RunM n m B T f (i + 1) 0 := by
  refine ⟨r.1, ?_⟩
  rcases r.2 with h | ⟨F, c, h⟩
  · exact .inl h
  · refine .inr ⟨F, c, fun p q hp hq => ?_⟩
    rw [h p q hp hq]
    have : (p < i ∨ p = i ∧ q < n) ↔ (p < i + 1 ∨ p = i + 1 ∧ q < 0) := by omega
    simp only [this]
def RunC (n m B : Nat) (T f : Fn) : Prop := Run n T f ∧ (Neg n f ∨ Cm n m B f)
theorem RunC.start {n m B : Nat} {T f : Fn} (r : RunC n m B T f) : RunM n m B T f 0 0 := by
  refine ⟨r.1, ?_⟩
  rcases r.2 with h | h
  · exact .inl h
  · refine .inr ⟨f, h, fun p q _ _ => ?_⟩
    rw [if_neg (by omega)]
/-- the diagonal lessened: rows ahead of i done -/
def Dg (n : Nat) (T f : Fn) (i : Nat) : Prop := ∀ p q, p < n → q < n → f p q = if p = q ∧ p < i then eMin (T p q) (some 0) else T p q
theorem Dg.run {n B : Nat} {T f : Fn} (d : Dg n T f n) (hB : ∀ p q, p < n → q < n → EdB B (T p q)) (h0 : 0 < B) : RunC n 0 B T f := by
  have dg : ∀ p, p < n → eLe (f p p) (some 0) := fun p hp => by
    rw [d p p hp hp, if_pos ⟨rfl, hp⟩]; exact eMin_r
  refine ⟨⟨fun s hs q hq r hr => ?_, fun p q hp hq => ?_, dg⟩, ?_⟩
  · rw [d q r hq hr]
    split
    · rename_i h
      obtain ⟨rfl, _⟩ := h
      refine le_add_minr (hs q hq q hq) ?_
      rw [eAdd_0]; exact eLe.rfl'
    · exact hs q hq r hr
  · rw [d p q hp hq]
    split
    · exact eMin_l
    · exact eLe.rfl'
  · by_cases hn : Neg n f
    · exact .inl hn
    · refine .inr ⟨fun p hp => ?_, fun p q k _ _ hk => absurd hk (Nat.not_lt_zero _), fun p q hp hq => ?_⟩
      · have h1 := dg p hp
        cases e : f p p with
        | none => rw [e] at h1; exact h1.elim
        | some x =>
          rw [e] at h1
          have : ¬ x < 0 := fun z => hn ⟨p, hp, x, e, z⟩
          simp [eLe] at h1
          have : x = 0 := by omega
          rw [this]
      · rw [d p q hp hq]
        have hb := hB p q hp hq
        have e2 : 2 ^ 0 * B = B := by simp
        rw [e2]
        split
        · rcases eMin_or (a := T p q) (b := some 0) with z | z <;> rw [z]
          · exact hb
          · intro x hx
            cases hx
            exact h0
        · exact hb
end L3
set_option Elab.async false
set_option linter.all false
set_option maxRecDepth 100000
set_option maxHeartbeats 4000000
namespace L3
open PySem PySem.Spec PyProof.Rows L2
theorem at2_put {n p q : Nat} {T : Tab} {e : Ed} (s : Sq n T) (hp : p < n) (hq : q < n) : at2 (putT T p q e) = updF (at2 T) p q e := by
  have h1 : p < T.length := by rw [s.rows]; exact hp
  have h2 : q < (T.getD p []).length := by
    rw [List.getD_eq_getElem?_getD, List.getElem?_eq_getElem h1]
    show q < T[p].length
    rw [s.cols _ (List.getElem_mem h1)]; exact hq
  funext i j
  unfold updF at2 putT
  by_cases hi : i = p
  · subst hi
    rw [List.getD_eq_getElem?_getD (l := T.set i _), List.getElem?_set_self h1]
    show ((T.getD i []).set q e).getD j none = _
    by_cases hj : j = q
    · subst hj
      rw [if_pos ⟨rfl, rfl⟩, List.getD_eq_getElem?_getD, List.getElem?_set_self h2]; rfl
    · rw [if_neg (fun h => hj h.2), List.getD_eq_getElem?_getD, List.getElem?_set_ne (Ne.symm hj), ← List.getD_eq_getElem?_getD]
  · rw [if_neg (fun h => hi h.1), List.getD_eq_getElem?_getD (l := T.set p _), List.getElem?_set_ne (Ne.symm hi), ← List.getD_eq_getElem?_getD]
theorem ends_at' {B n p q : Nat} {T : Tab} (t : TabB B n T) : EdB B (at2 T p q) := by
  unfold at2
  by_cases hp : p < T.length
  · rw [List.getD_eq_getElem?_getD, List.getD_eq_getElem?_getD, List.getElem?_eq_getElem hp]
    by_cases hq : q < T[p].length
    · have e : (some T[p]).getD [] = T[p] := rfl
      rw [e, List.getElem?_eq_getElem hq]
      exact t.ends _ (List.getElem_mem hp) _ (List.getElem_mem hq)
    · have e : (some T[p]).getD [] = T[p] := rfl
      rw [e, List.getElem?_eq_none (by omega)]
      exact .non
  · have e : T[p]? = none := List.getElem?_eq_none (by omega)
    rw [List.getD_eq_getElem?_getD, List.getD_eq_getElem?_getD, e]
    exact .non
def Closes (n B : Nat) (T : Tab) (d : D) : Prop := (Bad n (at2 T) ∧ d = .tup []) ∨ ∃ S : Tab, TabB (2 ^ n * B) n S ∧ IsCl n (at2 T) (at2 S) ∧ d = tabD S
end L3
set_option Elab.async false
set_option linter.all false
set_option maxRecDepth 100000
set_option maxHeartbeats 4000000
namespace L3
abbrev Edge := Nat × Nat × Int
def at1 (l : List Ed) (i : Nat) : Ed := l.getD i none
def StE (es : List Edge) (s : Nat → Ed) : Prop := ∀ e ∈ es, eLe (s e.2.1) (eAdd (s e.1) (some e.2.2))
/-- es say what T says -/
structure Es (n : Nat) (T : Fn) (es : List Edge) : Prop where
  st : ∀ s, Stable n T s ↔ StE es s
  rg : ∀ e ∈ es, e.1 < n ∧ e.2.1 < n
instance : DecidableEq Ed := inferInstanceAs (DecidableEq (Option Int))
end L3
set_option Elab.async false
set_option linter.all false
set_option maxRecDepth 100000
set_option maxHeartbeats 4000000
namespace L3
open PySem PySem.Spec PyProof.Rows L2
def edgeOf (t : Trip) : Edge := (t.1.toNat, t.2.1.toNat, t.2.2)
theorem pl_row {l : List Ed} : Pl (.rol (l.map oD)) := by
  refine ⟨?_, ?_⟩
  · show plains (l.map oD) = true
    induction l with
    | nil => rfl
    | cons a r ih => cases a <;> simp [plains, oD, plain, ih]
  · show deeps (l.map oD) + 1 ≤ 64
    have : deeps (l.map oD) = 0 := by
      induction l with
      | nil => rfl
      | cons a r ih => cases a <;> simp [deeps, oD, deep, ih]
    omega
end L3
set_option Elab.async false
set_option linter.all false
set_option maxRecDepth 100000
set_option maxHeartbeats 4000000
namespace L3
open PySem PySem.Spec PyProof.Rows L2
def stepM (T : Tab) (t : Trip) : Tab := putT T t.1.toNat t.2.1.toNat (eMin (at2 T t.1.toNat t.2.1.toNat) (some t.2.2))
def mtab (n : Nat) (ts : List Trip) : Tab := ts.foldl stepM (emptyT n)
theorem Sq.foldM {n : Nat} : ∀ {ts : List Trip} {T : Tab}, Sq n T → Sq n (ts.foldl stepM T)
  | [], _, s => s
  | _ :: ts, _, s => Sq.foldM (ts := ts) s.put
theorem EdB.min {B : Nat} {a b : Ed} (h : EdB B a) (h2 : EdB B b) : EdB B (eMin a b) := by
  rcases eMin_or (a := a) (b := b) with e | e <;> rw [e] <;> assumption
theorem at2_b {B n : Nat} {T : Tab} (s : Sq n T) (e : Ends B T) {p q : Nat} : EdB B (at2 T p q) := ends_at' (n := n) ⟨s.rows, s.cols, e⟩
theorem Ends.foldM {B n : Nat} : ∀ {ts : List Trip} {T : Tab}, Sq n T → Ends B T → (∀ t ∈ ts, t.2.2.natAbs < B) → Ends B (ts.foldl stepM T)
  | [], _, _, s, _ => s
  | t :: ts, _, q, s, h => Ends.foldM (ts := ts) q.put (s.put ((at2_b q s).min fun i hi => by cases hi; exact h t (by simp))) fun x hx => h x (by simp [hx])
theorem mtab_b {B n : Nat} {ts : List Trip} (h : ∀ t ∈ ts, t.2.2.natAbs < B) : TabB B n (mtab n ts) := TabB.of (Sq.foldM .empty) (Ends.foldM .empty .empty h)
theorem es_step {n p q : Nat} {F : Fn} {c : Int} {s : Nat → Ed} (hp : p < n) (hq : q < n) : Stable n (updF F p q (eMin (F p q) (some c))) s ↔ Stable n F s ∧ eLe (s q) (eAdd (s p) (some c)) := by
  constructor
  · intro h
    refine ⟨fun i hi j hj => ?_, ?_⟩
    · have := h i hi j hj
      unfold updF at this
      by_cases e : i = p ∧ j = q
      · rw [if_pos e] at this
        obtain ⟨rfl, rfl⟩ := e
        exact eLe_trans this (eAdd_mono eLe.rfl' eMin_l)
      · rw [if_neg e] at this; exact this
    · have := h p hp q hq
      unfold updF at this
      rw [if_pos ⟨rfl, rfl⟩] at this
      exact eLe_trans this (eAdd_mono eLe.rfl' eMin_r)
  · rintro ⟨h, h2⟩ i hi j hj
    unfold updF
    by_cases e : i = p ∧ j = q
    · rw [if_pos e]
      obtain ⟨rfl, rfl⟩ := e
      exact le_add_minr (h i hi j hj) h2
    · rw [if_neg e]; exact h i hi j hj
theorem es_fold {n : Nat} (hn : 0 ≤ (n : Int)) : ∀ (ts : List Trip) (T : Tab), Sq n T → (∀ t ∈ ts, In2 n t) → ∀ s, Stable n (at2 (ts.foldl stepM T)) s ↔ Stable n (at2 T) s ∧ StE (ts.map edgeOf) s
  | [], T, _, _, s => ⟨fun h => ⟨h, fun e he => nomatch he⟩, fun h => h.1⟩
  | t :: ts, T, sq, h, s => by
    obtain ⟨b1, b2, b3, b4⟩ := h t (by simp)
    show Stable n (at2 (ts.foldl stepM (stepM T t))) s ↔ _
    rw [es_fold hn ts (stepM T t) sq.put (fun x hx => h x (by simp [hx])) s]
    unfold stepM
    rw [at2_put sq (by omega) (by omega), es_step (by omega) (by omega)]
    constructor
    · rintro ⟨⟨h1, h2⟩, h3⟩
      refine ⟨h1, fun e he => ?_⟩
      rcases List.mem_cons.mp he with rfl | he
      · exact h2
      · exact h3 e he
    · rintro ⟨h1, h2⟩
      exact ⟨⟨h1, h2 (edgeOf t) (by simp)⟩, fun e he => h2 e (by simp [he])⟩
theorem at2_empty' {n p q : Nat} : at2 (emptyT n) p q = none := by
  unfold at2 emptyT
  by_cases hp : p < n
  · rw [List.getD_eq_getElem?_getD, List.getD_eq_getElem?_getD, List.getElem?_replicate, if_pos hp]
    by_cases hq : q < n
    · simp [List.getElem?_replicate, hq]
    · simp [List.getElem?_replicate, hq]
  · simp [List.getD_eq_getElem?_getD, List.getElem?_replicate, hp]
theorem es_mtab {n : Nat} {ts : List Trip} (h : ∀ t ∈ ts, In2 n t) : Es n (at2 (mtab n ts)) (ts.map edgeOf) := by
  refine ⟨fun s => ?_, fun e he => ?_⟩
  · rw [show mtab n ts = ts.foldl stepM (emptyT n) from rfl, es_fold (by omega) ts _ .empty h s]
    refine ⟨fun h => h.2, fun h => ⟨fun q _ r _ => ?_, h⟩⟩
    rw [at2_empty']
    cases s q <;> exact eLe_none
  · obtain ⟨t, ht, rfl⟩ := List.mem_map.mp he
    obtain ⟨b1, b2, b3, b4⟩ := h t ht
    show t.1.toNat < n ∧ t.2.1.toNat < n
    omega
/-- a tuple or a list that nobody writes -/
def IsSeq (d : D) (ds : List D) : Prop := d = .tup ds ∨ d = .rol ds
theorem IsSeq.keep {d : D} {ds : List D} (h : IsSeq d ds) {M : Mp} {es : List D} : keepG M d es = fun _ => True := by rcases h with rfl | rfl <;> rfl
theorem IsSeq.len {d : D} {ds : List D} (h : IsSeq d ds) {M : Mp} {Q : VK3} : bLen [d] M Q = Q (.int ds.length) M := by rcases h with rfl | rfl <;> rfl
end L3
set_option Elab.async false
set_option linter.all false
set_option maxRecDepth 100000
set_option maxHeartbeats 4000000
namespace L3
open PySem PySem.Spec PyProof.Rows L2
abbrev Part := Tab × List Nat
def Pull (x : Part) (s : Nat → Ed) : Prop := Stable x.1.length (at2 x.1) fun i => s (x.2.getD i 0)
/-- what is put together of the parts -/
structure PutIs (B many : Nat) (xs : List Part) (X : Tab) : Prop where
  tb : TabB B many X
  st : ∀ s, Stable many (at2 X) s ↔ ∀ x ∈ xs, Pull x s
/-- so far: the parts ahead, of this one the rows ahead of p, of row p the ends ahead of q -/
structure Puts (B many : Nat) (xs : List Part) (x : Part) (p q : Nat) (X : Tab) : Prop where
  sq : Sq many X
  en : Ends B X
  st : ∀ s, Stable many (at2 X) s ↔ (∀ y ∈ xs, Pull y s) ∧ ∀ i j, i < x.1.length → j < x.1.length → (i < p ∨ (i = p ∧ j < q)) → eLe (s (x.2.getD j 0)) (eAdd (s (x.2.getD i 0)) (at2 x.1 i j))
theorem Puts.row {B many p : Nat} {xs : List Part} {x : Part} {X : Tab} (h : Puts B many xs x p x.1.length X) : Puts B many xs x (p + 1) 0 X :=
  ⟨h.sq, h.en, fun s => by
    rw [h.st]
    have e : ∀ i j, j < x.1.length → ((i < p ∨ (i = p ∧ j < x.1.length)) ↔ (i < p + 1 ∨ (i = p + 1 ∧ j < 0))) := fun i j hj => by omega
    constructor
    · rintro ⟨a, b⟩; exact ⟨a, fun i j hi hj z => b i j hi hj ((e i j hj).mpr z)⟩
    · rintro ⟨a, b⟩; exact ⟨a, fun i j hi hj z => b i j hi hj ((e i j hj).mp z)⟩⟩
end L3
set_option Elab.async false
set_option linter.all false
set_option maxRecDepth 100000
set_option maxHeartbeats 4000000
namespace L3
open PySem PySem.Spec PyProof.Rows L2
/-- trips of places, ends within a bound -/
def TripsOk (many B : Nat) (ts : List Trip) : Prop := ∀ t ∈ ts, In2 many t ∧ t.2.2.natAbs < B
/-- edges of the rows ahead of p, of row p those ahead of q -/
def Edg (many B : Nat) (x : Part) (p q : Nat) (ts : List Trip) : Prop := TripsOk many B ts ∧ ts.length ≤ 100 * p + q ∧
  ∀ s, StE (ts.map edgeOf) s ↔ ∀ i j, i < x.1.length → j < x.1.length → (i < p ∨ (i = p ∧ j < q)) → eLe (s (x.2.getD j 0)) (eAdd (s (x.2.getD i 0)) (at2 x.1 i j))
theorem StE.app {es fs : List Edge} {s : Nat → Ed} : StE (es ++ fs) s ↔ StE es s ∧ StE fs s :=
  ⟨fun h => ⟨fun e he => h e (by simp [he]), fun e he => h e (by simp [he])⟩, fun h e he => (List.mem_append.mp he).elim (h.1 e) (h.2 e)⟩
theorem Edg.row {many B p : Nat} {x : Part} {ts : List Trip} (h : Edg many B x p x.1.length ts) (hl : x.1.length ≤ 100) : Edg many B x (p + 1) 0 ts :=
  ⟨h.1, by have := h.2.1; omega, fun s => by
    rw [h.2.2]
    exact ⟨fun a i j hi hj z => a i j hi hj (by omega), fun a i j hi hj z => a i j hi hj (by omega)⟩⟩
end L3
set_option Elab.async false
set_option linter.all false
set_option maxRecDepth 100000
set_option maxHeartbeats 4000000
namespace L3
open PySem PySem.Spec PyProof.Rows L2
/-- a table's part: rows and columns at these places -/
def partT (S : Tab) (ps : List Nat) : Tab := ps.map fun p => ps.map fun q => at2 S p q
end L3
set_option Elab.async false
set_option linter.all false
set_option maxRecDepth 100000
set_option maxHeartbeats 4000000
namespace L3
open PySem PySem.Spec PyProof.Rows L2
end L3
set_option Elab.async false
set_option linter.all false
set_option maxRecDepth 100000
set_option maxHeartbeats 4000000
namespace L3
open PySem PySem.Spec PyProof.Rows L2
end L3
set_option Elab.async false
set_option linter.all false
set_option maxRecDepth 100000
set_option maxHeartbeats 4000000
namespace L3
open PySem PySem.Spec PyProof.Rows L2
end L3
set_option Elab.async false
set_option linter.all false
set_option maxRecDepth 100000
set_option maxHeartbeats 4000000
namespace L3
open PySem PySem.Spec PyProof.Rows L2
end L3
set_option Elab.async false
set_option linter.all false
set_option maxRecDepth 100000
set_option maxHeartbeats 4000000
namespace L3
open PySem PySem.Spec PyProof.Rows L2
/-- some points of a table closed -/
def OnlyOf (n B : Nat) (X : Tab) (ps : List Nat) (d : D) : Prop := (Bad n (at2 X) ∧ d = .tup []) ∨ ∃ S : Tab, TabB (2 ^ n * B) n S ∧ IsCl n (at2 X) (at2 S) ∧ d = tabD (partT S ps)
theorem partT_b {B n : Nat} {S : Tab} {ps : List Nat} (t : TabB B n S) : TabB B ps.length (partT S ps) := by
  refine ⟨by simp [partT], fun r hr => ?_, fun r hr e he => ?_⟩
  · obtain ⟨p, _, rfl⟩ := List.mem_map.mp hr; simp
  · obtain ⟨p, _, rfl⟩ := List.mem_map.mp hr
    obtain ⟨q, _, rfl⟩ := List.mem_map.mp he
    exact ends_at' t
theorem OnlyOf.tm {n B : Nat} {X : Tab} {ps : List Nat} {d : D} (c : OnlyOf n B X ps d) (hB : 2 ^ n * B ≤ 10 ^ 100) : Tm 2 (ps.length * (ps.length + 1)) d := by
  rcases c with ⟨_, rfl⟩ | ⟨S, tb, _, rfl⟩
  · exact (Tm.tup (h := 0) (n := 0) (m := 0) (ds := []) (fun d h => nomatch h) (Nat.le_refl _)).mono (by decide) (Nat.zero_le _)
  · exact Tm.tab (partT_b tb) hB
theorem OnlyOf.top {n B : Nat} {X : Tab} {ps : List Nat} {d : D} {M : Mp} (c : OnlyOf n B X ps d) : L3.top M d = d := by
  rcases c with ⟨_, rfl⟩ | ⟨S, _, _, rfl⟩ <;> rfl
/-- from closing and taking a part -/
theorem OnlyOf.of {n B : Nat} {X : Tab} {ps : List Nat} {d : D} (c : Closes n B X d) : ∃ d', OnlyOf n B X ps d' ∧ ((d = .tup [] ∧ d' = .tup []) ∨ ∃ S, d = tabD S ∧ d' = tabD (partT S ps)) := by
  rcases c with ⟨b, rfl⟩ | ⟨S, tb, cl, rfl⟩
  · exact ⟨_, .inl ⟨b, rfl⟩, .inl ⟨rfl, rfl⟩⟩
  · exact ⟨_, .inr ⟨S, tb, cl, rfl⟩, .inr ⟨S, rfl, rfl⟩⟩
theorem pl_tab {T : Tab} : Pl (tabD T) := by
  refine ⟨?_, ?_⟩
  · show plains (T.map rowD) = true
    induction T with
    | nil => rfl
    | cons r T ih =>
      have hr : plain (rowD r) = true := by
        show plains (r.map oD) = true
        induction r with
        | nil => rfl
        | cons a r ih => cases a <;> simp [plains, oD, plain, ih]
      simp [plains, hr, ih]
  · show deeps (T.map rowD) + 1 ≤ 64
    have : deeps (T.map rowD) ≤ 1 := by
      induction T with
      | nil => simp [deeps]
      | cons r T ih =>
        have hr : deep (rowD r) ≤ 1 := by
          show deeps (r.map oD) + 1 ≤ 1
          have : deeps (r.map oD) = 0 := by
            clear ih
            induction r with
            | nil => rfl
            | cons a r ih => cases a <;> simp [deeps, oD, deep, ih]
          omega
        simp only [List.map_cons, deeps]
        exact Nat.max_le.mpr ⟨hr, ih⟩
    omega
theorem pl_tabT {T : Tab} : Pl (.tup (T.map rowD)) := pl_tab
end L3
set_option Elab.async false
set_option linter.all false
set_option maxRecDepth 100000
set_option maxHeartbeats 4000000
namespace L3
open PySem PySem.Spec PyProof.Rows L2
/-- () or a table -/
def NilOr (d : D) : Prop := d = .tup [] ∨ ∃ n T, d = tabD T ∧ Sq n T ∧ 0 < n
end L3
set_option Elab.async false
set_option linter.all false
set_option maxRecDepth 100000
set_option maxHeartbeats 4000000
namespace L3
open PySem PySem.Spec PyProof.Rows L2
/-- a grown M: a's draws aside -/
def Gr (a : Addr) (M M' : Mp) : Prop := ∀ b o, b ≠ a → M b = some o → M' b = some o
theorem Gr.refl {a : Addr} {M : Mp} : Gr a M M := fun _ _ _ h => h
theorem Gr.trans {a : Addr} {M M1 M2 : Mp} (x : Gr a M M1) (y : Gr a M1 M2) : Gr a M M2 := fun b o h z => y b o h (x b o h z)
theorem Only.gr {a : Addr} {M M' : Mp} (x : Only a M M') : Gr a M M' := fun b o h z => (x b h).trans z
theorem Gr.put {a f : Addr} {M M' : Mp} {o : MO} (x : Gr a M M') (h : M f = none) : Gr a M (mset M' f o) := fun b u hb z => by
  rw [mset_ne (ne_m z h)]; exact x b u hb z
theorem Feed.put {a f : Addr} {M : Mp} {o : MO} (x : Feed M a) (h : f ≠ a) : Feed (mset M f o) a := by
  obtain ⟨g, m, c, e⟩ := x
  exact ⟨g, m, c, by rw [mset_ne (Ne.symm h)]; exact e⟩
theorem Feed.ne {a f : Addr} {M : Mp} (x : Feed M a) (h : M f = none) : f ≠ a := by
  obtain ⟨g, m, c, e⟩ := x
  exact fun z => by rw [z, e] at h; cases h
/-- rows of a drawn table -/
def TsOk (n : Nat) (ts : List Trip) : Prop := ∀ t ∈ ts, In2 n t ∧ t.2.2.natAbs < 100
theorem TsOk.nil {n : Nat} : TsOk n [] := fun _ h => nomatch h
theorem TsOk.app {n : Nat} {ts us : List Trip} (h : TsOk n ts) (h2 : TsOk n us) : TsOk n (ts ++ us) := fun t ht => (List.mem_append.mp ht).elim (h t) (h2 t)
theorem TsOk.rep {n k : Nat} {t : Trip} (h : In2 n t ∧ t.2.2.natAbs < 100) : TsOk n (List.replicate k t) := fun x hx => by rw [List.eq_of_mem_replicate hx]; exact h
end L3
set_option Elab.async false
set_option linter.all false
set_option maxRecDepth 100000
set_option maxHeartbeats 4000000
namespace L3
open PySem PySem.Spec PyProof.Rows L2
theorem only_sh {n B : Nat} {X : Tab} {ps : List Nat} {d : D} (c : OnlyOf n B X ps d) (hB : 2 ^ n * B ≤ 10 ^ 100) (hp : ps.length ≤ 100) : Sh d := (c.tm hB).fits (by decide) (Nat.le_trans (Nat.mul_le_mul hp (Nat.add_le_add_right hp 1)) (by decide))
theorem b7 {n B : Nat} (hn : n ≤ 12) (hB : B ≤ 10 ^ 40) : 2 ^ n * B ≤ 10 ^ 100 := Nat.le_trans (Nat.mul_le_mul (Nat.pow_le_pow_right (by decide) hn) hB) (by decide)
end L3
set_option Elab.async false
set_option linter.all false
set_option maxRecDepth 100000
set_option maxHeartbeats 4000000
namespace L3
open PySem PySem.Spec PyProof.Rows L2
/-- edges of some parts -/
structure PEdges (B n : Nat) (xs : List Part) (ts : List Trip) : Prop where
  ok : TripsOk n B ts
  st : ∀ s, StE (ts.map edgeOf) s ↔ ∀ x ∈ xs, Pull x s
theorem PEdges.app {B n : Nat} {xs ys : List Part} {ts us : List Trip} (h : PEdges B n xs ts) (h2 : PEdges B n ys us) : PEdges B n (xs ++ ys) (ts ++ us) :=
  ⟨fun t ht => (List.mem_append.mp ht).elim (h.ok t) (h2.ok t), fun s => by
    rw [List.map_append, StE.app, h.st, h2.st]
    exact ⟨fun a x hx => (List.mem_append.mp hx).elim (a.1 x) (a.2 x), fun a => ⟨fun x hx => a x (List.mem_append_left _ hx), fun x hx => a x (List.mem_append_right _ hx)⟩⟩⟩
/-- closing what edges say -/
theorem PEdges.put {B n : Nat} {xs : List Part} {ts : List Trip} (h : PEdges B n xs ts) : PutIs B n xs (mtab n ts) :=
  ⟨mtab_b fun t ht => (h.ok t ht).2, fun s => by rw [(es_mtab fun t ht => (h.ok t ht).1).st, h.st]⟩
/-- some points of a chain -/
def RowIs (B n : Nat) (xs : List Part) (ps : List Nat) (d : D) : Prop := ∃ X, PutIs B n xs X ∧ OnlyOf n B X ps d
theorem eqD_rnil {x : List D} : eqD (.rol x) (.rol []) = x.isEmpty := by
  cases x <;> simp only [eqD, pdOf, pdsOf, PyData.eqv, PyData.eqvAll, List.isEmpty]
theorem RowIs.sh {B n : Nat} {xs : List Part} {ps : List Nat} {d : D} (h : RowIs B n xs ps d) (hB : 2 ^ n * B ≤ 10 ^ 100) (hp : ps.length ≤ 100) : Sh d := by
  obtain ⟨X, hX, c⟩ := h; exact only_sh c hB hp
theorem RowIs.top {B n : Nat} {xs : List Part} {ps : List Nat} {d : D} (h : RowIs B n xs ps d) {M : Mp} : L3.top M d = d := by
  obtain ⟨X, hX, c⟩ := h; exact c.top
end L3
set_option Elab.async false
set_option linter.all false
set_option maxRecDepth 100000
set_option maxHeartbeats 4000000
namespace L3
open PySem PySem.Spec PyProof.Rows L2
def Meets (n : Nat) (F : Fn) (v : Nat → Int) : Prop := ∀ p q, p < n → q < n → ∀ e, F p q = some e → v p - v q ≤ e
theorem meets_st {n : Nat} {F : Fn} {v : Nat → Int} : Meets n F v ↔ Stable n F fun p => some (- v p) := by
  constructor
  · intro h p hp q hq
    cases e : F p q with
    | none => exact eLe_none
    | some x => have := h p q hp hq x e; show _ ≤ _; omega
  · intro h p q hp hq x e
    have := h p hp q hq
    rw [e] at this
    have this : - v q ≤ - v p + x := this
    omega
theorem Bad.none {n : Nat} {T : Fn} (b : Bad n T) (v : Nat → Int) : ¬ Meets n T v := fun h => by
  obtain ⟨m, hm, z⟩ := b
  have := z _ (meets_st.mp h)
  cases this
/-- between some lowest and some greatest ones -/
theorem between (L U : List Int) (h : ∀ l ∈ L, ∀ u ∈ U, l ≤ u) : ∃ x, (∀ l ∈ L, l ≤ x) ∧ (∀ u ∈ U, x ≤ u) ∧ (x ∈ L ∨ x ∈ U ∨ x = 0) := by
  have mx : ∀ L : List Int, L = [] ∨ ∃ m ∈ L, ∀ l ∈ L, l ≤ m := by
    intro L
    induction L with
    | nil => exact .inl rfl
    | cons a L ih =>
      right
      rcases ih with rfl | ⟨m, hm, h⟩
      · exact ⟨a, by simp, fun l hl => by simp at hl; omega⟩
      · by_cases z : a ≤ m
        · exact ⟨m, by simp [hm], fun l hl => by
            rcases List.mem_cons.mp hl with rfl | hl
            · exact z
            · exact h l hl⟩
        · exact ⟨a, by simp, fun l hl => by
            rcases List.mem_cons.mp hl with rfl | hl
            · omega
            · have := h l hl; omega⟩
  have mn : ∀ L : List Int, L = [] ∨ ∃ m ∈ L, ∀ l ∈ L, m ≤ l := by
    intro L
    induction L with
    | nil => exact .inl rfl
    | cons a L ih =>
      right
      rcases ih with rfl | ⟨m, hm, h⟩
      · exact ⟨a, by simp, fun l hl => by simp at hl; omega⟩
      · by_cases z : m ≤ a
        · exact ⟨m, by simp [hm], fun l hl => by
            rcases List.mem_cons.mp hl with rfl | hl
            · exact z
            · exact h l hl⟩
        · exact ⟨a, by simp, fun l hl => by
            rcases List.mem_cons.mp hl with rfl | hl
            · omega
            · have := h l hl; omega⟩
  rcases mn U with rfl | ⟨u, hu, hU⟩
  · rcases mx L with rfl | ⟨l, hl, hL⟩
    · exact ⟨0, by simp, by simp, .inr (.inr rfl)⟩
    · exact ⟨l, hL, by simp, .inl hl⟩
  · exact ⟨u, fun l hl => h l hl u hu, hU, .inr (.inl hu)⟩
def setV (v : Nat → Int) (r : Nat) (x : Int) : Nat → Int := fun i => if i = r then x else v i
/-- meeting a table on some points alone -/
def MeetsOn (n : Nat) (A : Nat → Bool) (F : Fn) (v : Nat → Int) : Prop := ∀ p q, p < n → q < n → A p = true → A q = true → ∀ e, F p q = some e → v p - v q ≤ e
theorem ext_one {n : Nat} {T S : Fn} (c : IsCl n T S) {A : Nat → Bool} {v : Nat → Int} (h : MeetsOn n A S v) {r : Nat} (hr : r < n) : ∃ v', MeetsOn n (fun i => A i || decide (i = r)) S v' ∧ ∀ i, A i = true → v' i = v i := by
  by_cases hA : A r = true
  · refine ⟨v, fun p q hp hq h1 h2 => h p q hp hq ?_ ?_, fun _ _ => rfl⟩
    · rcases Bool.or_eq_true _ _ ▸ h1 with z | z
      · exact z
      · have := of_decide_eq_true z; subst this; exact hA
    · rcases Bool.or_eq_true _ _ ▸ h2 with z | z
      · exact z
      · have := of_decide_eq_true z; subst this; exact hA
  · let ix := (List.range n).filter A
    let U := ix.filterMap fun q => (S r q).map fun e => v q + e
    let L := ix.filterMap fun q => (S q r).map fun e => v q - e
    have mU : ∀ u, u ∈ U ↔ ∃ q e, q < n ∧ A q = true ∧ S r q = some e ∧ u = v q + e := fun u => by
      simp only [U, ix, List.mem_filterMap, List.mem_filter, List.mem_range, Option.map_eq_some_iff]
      constructor
      · rintro ⟨q, ⟨h1, h2⟩, e, h3, rfl⟩; exact ⟨q, e, h1, h2, h3, rfl⟩
      · rintro ⟨q, e, h1, h2, h3, rfl⟩; exact ⟨q, ⟨h1, h2⟩, e, h3, rfl⟩
    have mL : ∀ u, u ∈ L ↔ ∃ q e, q < n ∧ A q = true ∧ S q r = some e ∧ u = v q - e := fun u => by
      simp only [L, ix, List.mem_filterMap, List.mem_filter, List.mem_range, Option.map_eq_some_iff]
      constructor
      · rintro ⟨q, ⟨h1, h2⟩, e, h3, rfl⟩; exact ⟨q, e, h1, h2, h3, rfl⟩
      · rintro ⟨q, e, h1, h2, h3, rfl⟩; exact ⟨q, ⟨h1, h2⟩, e, h3, rfl⟩
    obtain ⟨x, hL, hU, _⟩ := between L U (fun l hl u hu => by
      obtain ⟨p, e, hp, ap, he, rfl⟩ := (mL l).mp hl
      obtain ⟨q, f, hq, aq, hf, rfl⟩ := (mU u).mp hu
      have t := c.tri p q r hp hq hr
      rw [he, hf] at t
      cases g : S p q with
      | none => rw [g] at t; exact t.elim
      | some y =>
        rw [g] at t
        have t : y ≤ e + f := t
        have := h p q hp hq ap aq y g
        omega)
    refine ⟨setV v r x, fun p q hp hq h1 h2 e he => ?_, fun i hi => ?_⟩
    · unfold setV
      have c1 : A p = true ∨ p = r := (Bool.or_eq_true _ _ ▸ h1).imp id of_decide_eq_true
      have c2 : A q = true ∨ q = r := (Bool.or_eq_true _ _ ▸ h2).imp id of_decide_eq_true
      by_cases e1 : p = r
      · subst e1
        by_cases e2 : q = p
        · subst e2
          rw [c.diag q hp] at he; cases he; omega
        · rw [if_pos rfl, if_neg e2]
          have := hU _ ((mU _).mpr ⟨q, e, hq, c2.resolve_right e2, he, rfl⟩)
          omega
      · rw [if_neg e1]
        by_cases e2 : q = r
        · subst e2
          rw [if_pos rfl]
          have := hL _ ((mL _).mpr ⟨p, e, hp, c1.resolve_right e1, he, rfl⟩)
          omega
        · rw [if_neg e2]
          exact h p q hp hq (c1.resolve_right e1) (c2.resolve_right e2) e he
    · unfold setV
      rw [if_neg (fun z => hA (by rw [← z]; exact hi))]
/-- what meets a closed table at some points can be completed -/
theorem ext_all' {n : Nat} {T S : Fn} (c : IsCl n T S) {A : Nat → Bool} {v : Nat → Int} (h : MeetsOn n A S v) : ∃ v', Meets n S v' ∧ ∀ i, A i = true → v' i = v i := by
  have go : ∀ k, k ≤ n → ∃ v', MeetsOn n (fun i => A i || decide (i < k)) S v' ∧ ∀ i, A i = true → v' i = v i := by
    intro k
    induction k with
    | zero => exact fun _ => ⟨v, fun p q hp hq h1 h2 => h p q hp hq (by simpa using h1) (by simpa using h2), fun _ _ => rfl⟩
    | succ k ih =>
      intro hk
      obtain ⟨v1, h1, e1⟩ := ih (by omega)
      obtain ⟨v2, h2, e2⟩ := ext_one c h1 (r := k) (by omega)
      refine ⟨v2, fun p q hp hq a b => h2 p q hp hq ?_ ?_, fun i hi => (e2 i (by simp [hi])).trans (e1 i hi)⟩
      · simp only [Bool.or_eq_true, decide_eq_true_eq] at a ⊢
        rcases a with a | a
        · exact .inl (.inl a)
        · by_cases z : p < k
          · exact .inl (.inr z)
          · exact .inr (by omega)
      · simp only [Bool.or_eq_true, decide_eq_true_eq] at b ⊢
        rcases b with b | b
        · exact .inl (.inl b)
        · by_cases z : q < k
          · exact .inl (.inr z)
          · exact .inr (by omega)
  obtain ⟨v', h1, h2⟩ := go n (Nat.le_refl _)
  exact ⟨v', fun p q hp hq => h1 p q hp hq (by simp [hp]) (by simp [hq]), h2⟩
theorem IsCl.some {n : Nat} {T S : Fn} (c : IsCl n T S) : ∃ v, Meets n S v := by
  obtain ⟨v, m, _⟩ := ext_all' c (A := fun _ => false) (v := fun _ => 0) (fun p q _ _ h => by cases h)
  exact ⟨v, m⟩
end L3
set_option Elab.async false
set_option linter.all false
set_option maxRecDepth 100000
set_option maxHeartbeats 4000000
namespace L3
open PySem PySem.Spec PyProof.Rows L2
abbrev Vl := Nat → Int
abbrev Rel := Vl → Vl → Prop
/-- old, new, zero -/
def enc (w : Nat) (a b : Vl) : Vl := fun i => if i < w then a i else if i < 2 * w then b (i - w) else 0
def encF (w : Nat) (a : Vl) : Vl := fun i => if i < w then a i else 0
theorem Meets.shift {n : Nat} {F : Fn} {v u : Vl} (c : Int) (h : ∀ i, i < n → u i = v i + c) : Meets n F v ↔ Meets n F u := by
  constructor
  · intro m p q hp hq e he
    have := m p q hp hq e he
    rw [h p hp, h q hq]; omega
  · intro m p q hp hq e he
    have := m p q hp hq e he
    rw [h p hp, h q hq] at this; omega
theorem enc_of {w : Nat} (v : Vl) : ∃ a b, ∀ i, i < 2 * w + 1 → v i = enc w a b i + v (2 * w) := by
  refine ⟨fun i => v i - v (2 * w), fun i => v (w + i) - v (2 * w), fun i hi => ?_⟩
  unfold enc
  by_cases h : i < w
  · rw [if_pos h]; dsimp only; omega
  · rw [if_neg h]
    by_cases h2 : i < 2 * w
    · rw [if_pos h2]
      have : w + (i - w) = i := by omega
      dsimp only
      rw [this]; omega
    · have : i = 2 * w := by omega
      rw [if_neg h2, this]; omega
theorem encF_of {w : Nat} (v : Vl) : ∃ a, ∀ i, i < w + 1 → v i = encF w a i + v w := by
  refine ⟨fun i => v i - v w, fun i hi => ?_⟩
  unfold encF
  by_cases h : i < w
  · rw [if_pos h]; dsimp only; omega
  · have : i = w := by omega
    rw [if_neg h, this]; omega
/-- a step as it stands, its ends within B -/
def RepS (B w : Nat) (d : D) (R : Rel) : Prop := (d = .tup [] ∧ ∀ a b, ¬ R a b) ∨ ∃ T : Tab, d = tabD T ∧ TabB B (2 * w + 1) T ∧ ∀ a b, R a b ↔ Meets (2 * w + 1) (at2 T) (enc w a b)
def RepF (B w : Nat) (d : D) (P : Vl → Prop) : Prop := (d = .tup [] ∧ ∀ a, ¬ P a) ∨ ∃ T : Tab, d = tabD T ∧ TabB B (w + 1) T ∧ ∀ a, P a ↔ Meets (w + 1) (at2 T) (encF w a)
/-- a step closed -/
def DenS (B w : Nat) (d : D) (R : Rel) : Prop := (d = .tup [] ∧ ∀ a b, ¬ R a b) ∨ ∃ S : Tab, d = tabD S ∧ TabB B (2 * w + 1) S ∧ IsCl (2 * w + 1) (at2 S) (at2 S) ∧ ∀ a b, R a b ↔ Meets (2 * w + 1) (at2 S) (enc w a b)
def DenF (B w : Nat) (d : D) (P : Vl → Prop) : Prop := (d = .tup [] ∧ ∀ a, ¬ P a) ∨ ∃ S : Tab, d = tabD S ∧ TabB B (w + 1) S ∧ IsCl (w + 1) (at2 S) (at2 S) ∧ ∀ a, P a ↔ Meets (w + 1) (at2 S) (encF w a)
section
variable {B B' w : Nat} {d d' : D} {R R' : Rel} {P P' : Vl → Prop}
theorem TabB.mono {n : Nat} {T : Tab} (t : TabB B n T) (h : B ≤ B') : TabB B' n T := ⟨t.rows, t.cols, fun r hr e he i hi => Nat.lt_of_lt_of_le (t.ends r hr e he i hi) h⟩
theorem DenS.rep (h : DenS B w d R) : RepS B w d R := by
  rcases h with h | ⟨S, h1, h2, _, h3⟩
  · exact .inl h
  · exact .inr ⟨S, h1, h2, h3⟩
theorem DenF.rep (h : DenF B w d P) : RepF B w d P := by
  rcases h with h | ⟨S, h1, h2, _, h3⟩
  · exact .inl h
  · exact .inr ⟨S, h1, h2, h3⟩
theorem RepS.mono (h : RepS B w d R) (hB : B ≤ B') : RepS B' w d R := by
  rcases h with h | ⟨S, h1, h2, h3⟩
  · exact .inl h
  · exact .inr ⟨S, h1, h2.mono hB, h3⟩
theorem RepF.mono (h : RepF B w d P) (hB : B ≤ B') : RepF B' w d P := by
  rcases h with h | ⟨S, h1, h2, h3⟩
  · exact .inl h
  · exact .inr ⟨S, h1, h2.mono hB, h3⟩
theorem DenS.mono (h : DenS B w d R) (hB : B ≤ B') : DenS B' w d R := by
  rcases h with h | ⟨S, h1, h2, c, h3⟩
  · exact .inl h
  · exact .inr ⟨S, h1, h2.mono hB, c, h3⟩
theorem DenF.mono (h : DenF B w d P) (hB : B ≤ B') : DenF B' w d P := by
  rcases h with h | ⟨S, h1, h2, c, h3⟩
  · exact .inl h
  · exact .inr ⟨S, h1, h2.mono hB, c, h3⟩
theorem some_enc {F : Fn} (h : ∃ v, Meets (2 * w + 1) F v) : ∃ a b, Meets (2 * w + 1) F (enc w a b) := by
  obtain ⟨v, m⟩ := h
  obtain ⟨a, b, e⟩ := enc_of (w := w) v
  exact ⟨a, b, (Meets.shift (v (2 * w)) e).mpr m⟩
theorem some_encF {F : Fn} (h : ∃ v, Meets (w + 1) F v) : ∃ a, Meets (w + 1) F (encF w a) := by
  obtain ⟨v, m⟩ := h
  obtain ⟨a, e⟩ := encF_of (w := w) v
  exact ⟨a, (Meets.shift (v w) e).mpr m⟩
theorem DenS.tm (h : DenS B w d R) (hB : B ≤ 10 ^ 100) : Tm 2 ((2 * w + 1) * (2 * w + 1 + 1)) d := by
  rcases h with ⟨rfl, _⟩ | ⟨S, rfl, t, _⟩
  · exact (Tm.tup (h := 0) (n := 0) (m := 0) (ds := []) (fun d h => nomatch h) (Nat.le_refl _)).mono (by decide) (Nat.zero_le _)
  · exact Tm.tab t hB
theorem DenF.tm (h : DenF B w d P) (hB : B ≤ 10 ^ 100) : Tm 2 ((w + 1) * (w + 1 + 1)) d := by
  rcases h with ⟨rfl, _⟩ | ⟨S, rfl, t, _⟩
  · exact (Tm.tup (h := 0) (n := 0) (m := 0) (ds := []) (fun d h => nomatch h) (Nat.le_refl _)).mono (by decide) (Nat.zero_le _)
  · exact Tm.tab t hB
theorem DenS.top (h : DenS B w d R) {M : Mp} : L3.top M d = d := by
  rcases h with ⟨rfl, _⟩ | ⟨S, rfl, t, _⟩ <;> rfl
theorem DenF.top (h : DenF B w d P) {M : Mp} : L3.top M d = d := by
  rcases h with ⟨rfl, _⟩ | ⟨S, rfl, t, _⟩ <;> rfl
/-- a step's relation looks at its own values alone -/
def Loc (w : Nat) (R : Rel) : Prop := ∀ a a' b b', (∀ i, i < w → a i = a' i) → (∀ i, i < w → b i = b' i) → R a b → R a' b'
end
/-- first R, then R' -/
def comp (R R' : Rel) : Rel := fun a b => ∃ m, R a m ∧ R' m b
def eqW (w : Nat) : Rel := fun a b => ∀ i, i < w → a i = b i
def iter (w : Nat) (R : Rel) : Nat → Rel
  | 0 => eqW w
  | n + 1 => comp R (iter w R n)
end L3
set_option Elab.async false
set_option linter.all false
set_option maxRecDepth 100000
set_option maxHeartbeats 4000000
namespace L3
open PySem PySem.Spec PyProof.Rows L2
end L3
set_option Elab.async false
set_option linter.all false
set_option maxRecDepth 100000
set_option maxHeartbeats 4000000
namespace L3
open PySem PySem.Spec PyProof.Rows L2
end L3
set_option Elab.async false
set_option linter.all false
set_option maxRecDepth 100000
set_option maxHeartbeats 4000000
namespace L3
open PySem PySem.Spec PyProof.Rows L2
end L3
set_option Elab.async false
set_option linter.all false
set_option maxRecDepth 100000
set_option maxHeartbeats 4000000
namespace L3
open PySem PySem.Spec PyProof.Rows L2
theorem NilOr.pl {d : D} (h : NilOr d) : Pl d := by
  rcases h with rfl | ⟨n, T, rfl, _, _⟩
  · rw [pl_nil]; trivial
  · exact pl_tab
theorem DenS.nil {B w : Nat} {d : D} {R : Rel} (h : DenS B w d R) (no : ∀ a b, ¬ R a b) : d = .tup [] := by
  rcases h with ⟨rfl, _⟩ | ⟨S, _, _, cl, h⟩
  · rfl
  · obtain ⟨a, b, m⟩ := some_enc cl.some
    exact absurd ((h a b).mpr m) (no a b)
theorem DenF.nil {B w : Nat} {d : D} {P : Vl → Prop} (h : DenF B w d P) (no : ∀ a, ¬ P a) : d = .tup [] := by
  rcases h with ⟨rfl, _⟩ | ⟨S, _, _, cl, h⟩
  · rfl
  · obtain ⟨a, m⟩ := some_encF cl.some
    exact absurd ((h a).mpr m) (no a)
theorem DenS.sh {B w : Nat} {d : D} {R : Rel} (h : DenS B w d R) (hB : B ≤ 10 ^ 100) (hw : w ≤ 40) : Sh d := (h.tm hB).fits (by decide) (Nat.le_trans (Nat.mul_le_mul (show 2 * w + 1 ≤ 81 by omega) (show 2 * w + 1 + 1 ≤ 82 by omega)) (by decide))
theorem DenF.sh {B w : Nat} {d : D} {P : Vl → Prop} (h : DenF B w d P) (hB : B ≤ 10 ^ 100) (hw : w ≤ 40) : Sh d := (h.tm hB).fits (by decide) (Nat.le_trans (Nat.mul_le_mul (show w + 1 ≤ 41 by omega) (show w + 1 + 1 ≤ 42 by omega)) (by decide))
end L3
set_option Elab.async false
set_option linter.all false
set_option maxRecDepth 100000
set_option maxHeartbeats 4000000
namespace L3
open PySem PySem.Spec PyProof.Rows L2
def TsB (n b : Nat) (ts : List Trip) : Prop := ∀ t ∈ ts, In2 n t ∧ t.2.2.natAbs ≤ b
theorem TsB.ok {n b : Nat} {ts : List Trip} (h : TsB n b ts) (hb : b < 100) : TsOk n ts := fun t ht => ⟨(h t ht).1, by have := (h t ht).2; omega⟩
theorem TsB.app {n b : Nat} {ts us : List Trip} (h : TsB n b ts) (h2 : TsB n b us) : TsB n b (ts ++ us) := fun t ht => (List.mem_append.mp ht).elim (h t) (h2 t)
theorem TsB.rep {n b k : Nat} {t : Trip} (h : In2 n t ∧ t.2.2.natAbs ≤ b) : TsB n b (List.replicate k t) := fun x hx => by rw [List.eq_of_mem_replicate hx]; exact h
end L3
set_option Elab.async false
set_option linter.all false
set_option maxRecDepth 100000
set_option maxHeartbeats 4000000
namespace L3
open PySem PySem.Spec PyProof.Rows L2
end L3
set_option Elab.async false
set_option linter.all false
set_option maxRecDepth 100000
set_option maxHeartbeats 4000000
namespace L3
open PySem PySem.Spec PyProof.Rows L2
end L3
set_option Elab.async false
set_option linter.all false
set_option maxRecDepth 100000
set_option maxHeartbeats 4000000
namespace L3
open PySem PySem.Spec PyProof.Rows L2
/-- a holds cells and three numbers, the last one at most b -/
def Fd (b : Nat) (M : Mp) (a : Addr) : Prop := ∃ (cs : List Int) (i : Nat) (g : Int) (n : Nat), n ≤ b ∧ M a = some (.lst [.rol (cs.map D.int), .int i, .int g, .int n])
theorem Fd.mono {b c : Nat} {M : Mp} {a : Addr} (f : Fd b M a) (h : b ≤ c) : Fd c M a := by
  obtain ⟨cs, i, g, n, hn, e⟩ := f
  exact ⟨cs, i, g, n, by omega, e⟩
theorem Fd.put {b : Nat} {a f : Addr} {M : Mp} {o : MO} (x : Fd b M a) (h : f ≠ a) : Fd b (mset M f o) a := by
  obtain ⟨cs, i, g, n, hn, e⟩ := x
  exact ⟨cs, i, g, n, hn, by rw [mset_ne (Ne.symm h)]; exact e⟩
theorem Fd.ne {b : Nat} {a f : Addr} {M : Mp} (x : Fd b M a) (h : M f = none) : f ≠ a := by
  obtain ⟨cs, i, g, n, hn, e⟩ := x
  exact fun z => by rw [z, e] at h; cases h
def SFeed7 (sp : Sp3) : Prop := ∀ (ns : List Int) (M : Mp) (Q : VK3) (E : XK3), (∀ a M', M a = none → Fd 0 M' a → Only a M M' → Q (.ref a) M') → sp [.rol (ns.map D.int)] M Q E
def SDraw7 (sp : Sp3) : Prop := ∀ (a : Addr) (b : Nat) (n : Int) (M : Mp) (Q : VK3) (E : XK3), Fd b M a → b < 2 ^ 30 → 0 < n → n < 2 ^ 200 → (∀ r M', 0 ≤ r → r < n → Fd (b + 1) M' a → Only a M M' → Q (.int r) M') → sp [.ref a, .int n] M Q E
theorem at_40 {x y z w : D} : atI [x, y, z, w] 0 = some x := rfl
theorem at_41 {x y z w : D} : atI [x, y, z, w] 1 = some y := rfl
theorem at_42 {x y z w : D} : atI [x, y, z, w] 2 = some z := rfl
theorem at_43 {x y z w : D} : atI [x, y, z, w] 3 = some w := rfl
theorem ix_41 {x y z w : D} : ixN [x, y, z, w].length 1 = some 1 := rfl
theorem ix_42 {x y z w : D} : ixN [x, y, z, w].length 2 = some 2 := rfl
theorem ix_43 {x y z w : D} : ixN [x, y, z, w].length 3 = some 3 := rfl
theorem set_41 {x y z w v : D} : [x, y, z, w].set 1 v = [x, v, z, w] := rfl
theorem set_42 {x y z w v : D} : [x, y, z, w].set 2 v = [x, y, v, w] := rfl
theorem set_43 {x y z w v : D} : [x, y, z, w].set 3 v = [x, y, z, v] := rfl
end L3
set_option Elab.async false
set_option linter.all false
set_option maxRecDepth 100000
set_option maxHeartbeats 4000000
namespace L3
open PySem PySem.Spec PyProof.Rows L2
theorem Gr.none {a b : Addr} {M M' : Mp} (x : Gr a M M') (h : M' b = none) (hb : b ≠ a) : M b = none := by
  cases e : M b with
  | none => rfl
  | some o => rw [x b o hb e] at h; cases h
end L3
set_option Elab.async false
set_option linter.all false
set_option maxRecDepth 100000
set_option maxHeartbeats 4000000
namespace L3
open PySem PySem.Spec PyProof.Rows L2
def RowFrom (n : Nat) (T : Tab) (p : Nat) (d : D) : Prop := (d = .non ∧ ∀ S, ¬ IsCl n (at2 T) S) ∨ ∃ l : List Ed, d = rowD l ∧ l.length = n ∧ Stable n (at2 T) (at1 l) ∧ eLe (at1 l p) (some 0) ∧ ∀ S, IsCl n (at2 T) S → ∀ i, i < n → at1 l i = S p i
end L3
set_option Elab.async false
set_option linter.all false
set_option maxRecDepth 100000
set_option maxHeartbeats 4000000
namespace L3
open PySem PySem.Spec PyProof.Rows L2
theorem RowFrom.pl {n p : Nat} {T : Tab} {d : D} (h : RowFrom n T p d) : plain d = true ∧ deep d ≤ 1 := by
  rcases h with ⟨rfl, _⟩ | ⟨l, rfl, _⟩
  · exact ⟨rfl, by simp [deep]⟩
  · have p := pl_row (l := l)
    refine ⟨p.p, ?_⟩
    show deeps (l.map oD) + 1 ≤ 1
    have : deeps (l.map oD) = 0 := by
      clear p
      rename_i hh; clear hh
      induction l with
      | nil => rfl
      | cons a r ih => cases a <;> simp [deeps, oD, deep, ih]
    omega
end L3
set_option Elab.async false
set_option linter.all false
set_option maxRecDepth 100000
set_option maxHeartbeats 4000000
namespace L3
open PySem PySem.Spec PyProof.Rows L2
theorem Le.gr {a : Addr} {M M' : Mp} (h : Le M M') : Gr a M M' := fun b o _ e => h b o e
theorem Fd.le {b : Nat} {a : Addr} {M M' : Mp} (x : Fd b M a) (h : Le M M') : Fd b M' a := by
  obtain ⟨cs, i, g, n, hn, e⟩ := x
  exact ⟨cs, i, g, n, hn, h _ _ e⟩
end L3
set_option Elab.async false
set_option linter.all false
set_option maxRecDepth 100000
set_option maxHeartbeats 4000000
namespace L3
open PySem PySem.Spec PyProof.Rows L2
def zipT (f : Ed → Ed → Ed) (T U : Tab) : Tab := List.zipWith (fun r s => List.zipWith f r s) T U
end L3
set_option Elab.async false
set_option linter.all false
set_option maxRecDepth 100000
set_option maxHeartbeats 4000000
namespace L3
open PySem PySem.Spec PyProof.Rows L2
end L3
set_option Elab.async false
set_option linter.all false
set_option maxRecDepth 100000
set_option maxHeartbeats 4000000
namespace L3
open PySem PySem.Spec PyProof.Rows L2
end L3
set_option Elab.async false
set_option linter.all false
set_option maxRecDepth 100000
set_option maxHeartbeats 4000000
namespace L3
open PySem PySem.Spec PyProof.Rows L2
/-- tables that may be asked for: on k points or (), with what they are closed -/
structure Ct (b k : Nat) (d : D) : Prop where
  ex : ∃ (n B : Nat) (U V : Tab), d = tabD U ∧ n ≤ k ∧ 0 < B ∧ B ≤ b ∧ TabB B n U ∧ (U = [] ∨ n = k) ∧ Closes n B U (tabD V) ∧ (V = [] ∨ (Sq k V ∧ 0 < k)) ∧ (U = [] ∨ (Sq k U ∧ 0 < k)) ∧ ∃ C, C = 2 ^ k * b ∧ (V = [] ∨ TabB C k V)
theorem Ct.mono {b c k : Nat} {d : D} (h : Ct b k d) (hb : b ≤ c) : Ct c k d := by
  obtain ⟨n, B, U, V, e, h1, h2, h3, h4, h5, h6, h7, h8, C, rfl, h9⟩ := h.ex
  refine ⟨n, B, U, V, e, h1, h2, Nat.le_trans h3 hb, h4, h5, h6, h7, h8, _, rfl, ?_⟩
  rcases h9 with h | h
  · exact .inl h
  · exact .inr (h.mono (Nat.mul_le_mul_left _ hb))
theorem Ct.tm {b k : Nat} {d : D} (h : Ct b k d) (hb : b ≤ 10 ^ 100) (hk : k ≤ 7) : Tm 2 56 d := by
  obtain ⟨n, B, U, V, rfl, hn, _, hB, t, _⟩ := h.ex
  exact (Tm.tab t (Nat.le_trans hB hb)).mono (Nat.le_refl _) (Nat.mul_le_mul (Nat.le_trans hn hk) (Nat.add_le_add_right (Nat.le_trans hn hk) 1))
end L3
set_option Elab.async false
set_option linter.all false
set_option maxRecDepth 100000
set_option maxHeartbeats 4000000
namespace L3
open PySem PySem.Spec PyProof.Rows L2
end L3
set_option Elab.async false
set_option linter.all false
set_option maxRecDepth 100000
set_option maxHeartbeats 4000000
namespace L3
open PySem PySem.Spec PyProof.Rows L2
end L3
set_option Elab.async false
set_option linter.all false
set_option maxRecDepth 100000
set_option maxHeartbeats 4000000
namespace L3
open PySem PySem.Spec PyProof.Rows L2
/-- a list that may be written or not -/
def IsL (M : Mp) (d : D) (ds : List D) : Prop := d = .rol ds ∨ ∃ l, d = .ref l ∧ M l = some (.lst ds)
theorem IsL.keep {M M' : Mp} {d : D} {ds : List D} (h : IsL M' d ds) : keepG M d ds M' := by
  rcases h with rfl | ⟨l, rfl, h⟩
  · exact True.intro
  · exact h
theorem IsL.put {M : Mp} {d : D} {ds : List D} {f : Addr} {o : MO} (h : IsL M d ds) (hf : ∀ l, d = .ref l → f ≠ l) : IsL (mset M f o) d ds := by
  rcases h with rfl | ⟨l, rfl, h⟩
  · exact .inl rfl
  · exact .inr ⟨l, rfl, (mset_ne (Ne.symm (hf l rfl))).trans h⟩
end L3
set_option Elab.async false
set_option linter.all false
set_option maxRecDepth 100000
set_option maxHeartbeats 4000000
namespace L3
open PySem PySem.Spec PyProof.Rows L2
end L3
set_option Elab.async false
set_option linter.all false
set_option maxRecDepth 100000
set_option maxHeartbeats 4000000
namespace L3
open PySem PySem.Spec PyProof.Rows L2
def eSum (k : Int) : Ed → Ed → Ed
  | none, _ => none
  | some x, some y => some (x + k * y)
  | some _, none => none
/-- integers at the same places -/
def Alike (T G : Tab) : Prop := T.map (fun r => r.map Option.isNone) = G.map (fun r => r.map Option.isNone)
theorem sum_alike {k : Int} : ∀ {r s : List Ed}, r.map Option.isNone = s.map Option.isNone → r.map Option.isNone = (List.zipWith (eSum k) r s).map Option.isNone
  | [], [], _ => rfl
  | [], _ :: _, h => by cases h
  | _ :: _, [], h => by cases h
  | a :: r, b :: s, h => by
    rw [List.map_cons, List.map_cons] at h
    injection h with h1 h2
    rw [List.zipWith_cons_cons, List.map_cons, List.map_cons, ← sum_alike h2]
    congr 1
    cases a <;> cases b <;> simp_all [eSum]
theorem Alike.sum {k : Int} : ∀ {T G : Tab}, Alike T G → Alike T (zipT (eSum k) T G)
  | [], [], _ => rfl
  | [], _ :: _, h => by cases h
  | _ :: _, [], h => by cases h
  | a :: T, b :: G, h => by
    unfold Alike at h
    rw [List.map_cons, List.map_cons] at h
    injection h with h1 h2
    show _ = _
    unfold zipT
    rw [List.zipWith_cons_cons, List.map_cons, List.map_cons, ← sum_alike h1]
    congr 1
    exact Alike.sum (T := T) (G := G) h2
end L3
set_option Elab.async false
set_option linter.all false
set_option maxRecDepth 100000
set_option maxHeartbeats 4000000
namespace L3
open PySem PySem.Spec PyProof.Rows L2
theorem isi_I {i : Int} {n : String} {b : Bool} {M : Mp} {Q : VK3} (h : kitB "int" n = some b) : bIsi [.int i, .ty n] M Q = Q (.bl b) M := isi_is rfl h
theorem isi_S {s : Str} {n : String} {b : Bool} {M : Mp} {Q : VK3} (h : kitB "str" n = some b) : bIsi [.str s, .ty n] M Q = Q (.bl b) M := isi_is rfl h
theorem isi_T {ds : List D} {n : String} {b : Bool} {M : Mp} {Q : VK3} (h : kitB "tuple" n = some b) : bIsi [.tup ds, .ty n] M Q = Q (.bl b) M := isi_is rfl h
instance {T G : Tab} : Decidable (Alike T G) := inferInstanceAs (Decidable (_ = _))
end L3
set_option Elab.async false
set_option linter.all false
set_option maxRecDepth 100000
set_option maxHeartbeats 4000000
namespace L3
open PySem PySem.Spec PyProof.Rows L2
def deckR : XK3 → TS3 := fun E =>
  (wRet (wLst (wCons (wCB bListF (wCons (wVar 0) wNil)) (wCons (wC (.int 0)) (wCons (wC (.int 0)) (wCons (wC (.int 0)) wNil))))))
theorem s_deck : SFeed7 (spOf 1 1 deckR) := by
  refine fun ns M Q E q => ⟨rfl, ?_⟩
  show deckR E _ [some (.rol (ns.map D.int))] M
  unfold deckR
  rw [st_ret]
  simp only [ex_c, ex_var, ex_op, ex_un, ex_b, ex_and, ex_or, ex_not, ex_andV, ex_orV, ex_notV, ex_if, ex_chain, ex_nil, ex_cons, ex_tup, ex_lst, ex_call, ex_callP, ex_cb, ex_bm, ex_rep, ex_sl, ex_noPart, ex_part, ex_yes, it_items, it_rng1, it_rng2, tg_name, tg_sub, tg_tup, tg_cons, tg_nil, gs_0, gs_s, ss_0, ss_s, op_ii, op_ss, op_tt, op_mm, op_sb, op_ng, op_iNf, op_iNt, op_lle, op_ixT, op_ixR, op_ixL, op_putE, op_appE, it_tupE, it_rolE, it_refE, lstOf_l, exL, asS_some, asI_int, asB_bl, asL_some, asN_some, ite3_t, ite3_f, bl_1, bl_lenT, bl_lenR, bl_lenL, bl_lenS, bl_tuple, bl_list, bl_abs, bl_intI, bl_intB, bl_max, bl_min, op_eqSf, op_eqSt, op_eqIf, op_eqIt, op_eqTf, op_eqTt, op_eqRf, op_eqRt, op_eqNf, op_eqNt, eqD_int, eqD_nil, pl_int, pl_nil, pl_non, pl_rnil, pl_bl, sl_tupE, sl_rolE, keep_ref, keep_tup, keep_rol, tp_int, tp_tup, tp_rol, tp_str, tp_bl, tp_non, tp_ref, oFd, oMd, oPw, oShl, oLt, oLe, oGt, oGe, op_in, op_cp, wipe_nil, wipe_cons, mset_same, true_and, and_true, isN_int, ex_lstF, ex_repF, ex_lgF1, ex_lgF2, ex_tupRg1, ex_tupRg2, ex_frz, ex_slF, ex_slM, sl_tupF, sl_rolF, op_iiF, op_ssF, op_ttF, op_rrF, op_rrM, op_mmF, op_repF, li_rol, li_ref, bl_listF, bl_allF, bl_anyF, asT_some, asJ_some, op_eqBf, op_eqBt, isN_non, Bool.not_true, Bool.not_false, rep2]
  exact ⟨by show 4 ≤ sizeLine; decide, fun p hp => q p _ hp ⟨ns, 0, 0, 0, Nat.le_refl _, mset_same⟩ (Only.refl.set)⟩
def mixedR : XK3 → TS3 := fun E =>
  (wRet (wOp oMd (wOp oPw (wOp oAddF (wOp oAddF (wOp oMd (wVar 0) (wC (.int 2147483629))) (wOp oMulF (wVar 1) (wC (.int 1000003)))) (wC (.int 17))) (wC (.int 5))) (wC (.int 2147483647))))
def SMixed (sp : Sp3) : Prop := ∀ (c : Int) (t : Nat) (Q : VK3) (E : XK3), t ≤ 2 ^ 30 → (∀ r M, 0 ≤ r → r < 2147483647 → Q (.int r) M) → sp [.int c, .int t] M0 Q E
theorem s_mixed : SMixed (spOf 2 2 mixedR) := by
  refine fun c t Q E ht q => ⟨rfl, ?_⟩
  show mixedR E _ [some (.int c), some (.int t)] M0
  unfold mixedR
  have b1 := md_in (x := c) (n := 2147483629) (by decide)
  rw [st_ret]
  simp only [ex_c, ex_var, ex_op, ex_un, ex_b, ex_and, ex_or, ex_not, ex_andV, ex_orV, ex_notV, ex_if, ex_chain, ex_nil, ex_cons, ex_tup, ex_lst, ex_call, ex_callP, ex_cb, ex_bm, ex_rep, ex_sl, ex_noPart, ex_part, ex_yes, it_items, it_rng1, it_rng2, tg_name, tg_sub, tg_tup, tg_cons, tg_nil, gs_0, gs_s, ss_0, ss_s, op_ii, op_ss, op_tt, op_mm, op_sb, op_ng, op_iNf, op_iNt, op_lle, op_ixT, op_ixR, op_ixL, op_putE, op_appE, it_tupE, it_rolE, it_refE, lstOf_l, exL, asS_some, asI_int, asB_bl, asL_some, asN_some, ite3_t, ite3_f, bl_1, bl_lenT, bl_lenR, bl_lenL, bl_lenS, bl_tuple, bl_list, bl_abs, bl_intI, bl_intB, bl_max, bl_min, op_eqSf, op_eqSt, op_eqIf, op_eqIt, op_eqTf, op_eqTt, op_eqRf, op_eqRt, op_eqNf, op_eqNt, eqD_int, eqD_nil, pl_int, pl_nil, pl_non, pl_rnil, pl_bl, sl_tupE, sl_rolE, keep_ref, keep_tup, keep_rol, tp_int, tp_tup, tp_rol, tp_str, tp_bl, tp_non, tp_ref, oFd, oMd, oPw, oShl, oLt, oLe, oGt, oGe, op_in, op_cp, wipe_nil, wipe_cons, mset_same, true_and, and_true, isN_int, ex_lstF, ex_repF, ex_lgF1, ex_lgF2, ex_tupRg1, ex_tupRg2, ex_frz, ex_slF, ex_slM, sl_tupF, sl_rolF, op_iiF, op_ssF, op_ttF, op_rrF, op_rrM, op_mmF, op_repF, li_rol, li_ref, bl_listF, bl_allF, bl_anyF, asT_some, asJ_some, op_eqBf, op_eqBt, isN_non, Bool.not_true, Bool.not_false, rep2]
  exact ⟨by decide, mulR (by decide) (by decide), ⟨by decide, by decide, by omega⟩, by decide, q _ _ (md_in (by decide)).1 (md_in (by decide)).2⟩
theorem at_cells {cs : List Int} {x : Int} (h0 : 0 ≤ x) (h1 : x < cs.length) : ∃ c : Int, atI (cs.map D.int) x = some (.int c) := by
  obtain ⟨j, rfl⟩ : ∃ j : Nat, x = j := ⟨x.toNat, by omega⟩
  have hjl : j < cs.length := by omega
  exact ⟨cs[j], atI_nat (by rw [List.getElem?_map, List.getElem?_eq_getElem hjl]; rfl)⟩
def drawKT (sm : Sp3) (E : XK3) : TS3 :=
  (wSeq (wIfS (wB (wOp oGt (wOp oIx (wVar 0) (wC (.int 2))) (wC (.int 0)))) (wSeq (wSet 3 (wOp oMd (wOp oIx (wVar 0) (wC (.int 2))) (wVar 1)))
  (wSeq (wAsg (wOp oFd (wOp oIx (wVar 0) (wC (.int 2))) (wVar 1)) (wgSub (wVar 0) (wC (.int 2)) oPut))
  (wRet (wVar 3)))) wNext)
  (wSeq (wSet 4 (wOp oMulF (wOp oIx (wVar 0) (wC (.int 3))) (wC (.int 48271))))
  (wSeq (wIfS (wB (wOp oGt (wCB bLen (wCons (wVar 2) wNil)) (wC (.int 0)))) (wSet 4 (wOp oAddF (wVar 4) (wOp oMd (wOp oIx (wVar 2) (wOp oMd (wOp oMulF (wOp oIx (wVar 0) (wC (.int 3))) (wC (.int 7))) (wCB bLen (wCons (wVar 2) wNil)))) (wC (.int 2147483629))))) wNext)
  (wRet (wOp oMd (wCallP sm E (wCons (wVar 4) (wCons (wOp oIx (wVar 0) (wC (.int 3))) wNil))) (wVar 1))))))
def drawKR (sm : Sp3) : XK3 → TS3 := fun E =>
  (wSeq (wSet 2 (wOp oIx (wVar 0) (wC (.int 0))))
  (wSeq (wAsg (wOp oAddF (wOp oIx (wVar 0) (wC (.int 3))) (wC (.int 1))) (wgSub (wVar 0) (wC (.int 3)) oPut))
  (wSeq (wIfS (wAnd (wB (wOp (oEq false) (wOp oIx (wVar 0) (wC (.int 2))) (wC (.int 0)))) (wB (wOp oLt (wOp oIx (wVar 0) (wC (.int 1))) (wCB bLen (wCons (wVar 2) wNil))))) (wSeq (wAsg (wOp oAddF (wOp oIx (wVar 0) (wC (.int 1))) (wC (.int 1))) (wgSub (wVar 0) (wC (.int 1)) oPut))
  (wSeq (wIfS (wB (wOp oLt (wCB bAbs (wCons (wOp oIx (wVar 2) (wOp oSub (wOp oIx (wVar 0) (wC (.int 1))) (wC (.int 1)))) wNil)) (wOp oPw (wC (.int 10)) (wC (.int 18))))) (wRet (wOp oMd (wCallP sm E (wCons (wOp oIx (wVar 2) (wOp oSub (wOp oIx (wVar 0) (wC (.int 1))) (wC (.int 1)))) (wCons (wOp oIx (wVar 0) (wC (.int 3))) wNil))) (wVar 1))) wNext)
  (wAsg (wCB bAbs (wCons (wOp oIx (wVar 2) (wOp oSub (wOp oIx (wVar 0) (wC (.int 1))) (wC (.int 1)))) wNil)) (wgSub (wVar 0) (wC (.int 2)) oPut)))) wNext)
  (wSeq (wIfS (wB (wOp oGt (wOp oIx (wVar 0) (wC (.int 2))) (wC (.int 0)))) (wSeq (wSet 3 (wOp oMd (wOp oIx (wVar 0) (wC (.int 2))) (wVar 1)))
  (wSeq (wAsg (wOp oFd (wOp oIx (wVar 0) (wC (.int 2))) (wVar 1)) (wgSub (wVar 0) (wC (.int 2)) oPut))
  (wRet (wVar 3)))) wNext)
  (wSeq (wSet 4 (wOp oMulF (wOp oIx (wVar 0) (wC (.int 3))) (wC (.int 48271))))
  (wSeq (wIfS (wB (wOp oGt (wCB bLen (wCons (wVar 2) wNil)) (wC (.int 0)))) (wSet 4 (wOp oAddF (wVar 4) (wOp oMd (wOp oIx (wVar 2) (wOp oMd (wOp oMulF (wOp oIx (wVar 0) (wC (.int 3))) (wC (.int 7))) (wCB bLen (wCons (wVar 2) wNil)))) (wC (.int 2147483629))))) wNext)
  (wRet (wOp oMd (wCallP sm E (wCons (wVar 4) (wCons (wOp oIx (wVar 0) (wC (.int 3))) wNil))) (wVar 1)))))))))
theorem drawK_tail {sm : Sp3} (km : SMixed sm) {a : Addr} {b k i : Nat} {n g : Int} {cs : List Int} {M Ms : Mp} {Q : VK3} {E : XK3} {K : Ends3} (hk : k ≤ b) (hb : b ≤ 2 ^ 30) (h0 : 0 < n) (hn : n < 2 ^ 200)
    (hM : M a = some (.lst [.rol (cs.map D.int), .int i, .int g, .int k])) (o : Only a Ms M) (hK : K.rt = Q) (q : ∀ r M', 0 ≤ r → r < n → Fd b M' a → Only a Ms M' → Q (.int r) M') :
    drawKT sm E K [some (.ref a), some (.int n), some (.rol (cs.map D.int)), none, none] M := by
  have hn0 : n ≠ 0 := by omega
  have fo : ∀ x, CFd x n := fun x => by
    have e : n.natAbs ≠ 0 := by omega
    have h2 : n.natAbs < 2 ^ 200 := by omega
    have := (Nat.log2_lt e (k := 200)).mpr h2
    exact ⟨hn0, by omega⟩
  unfold drawKT
  rw [st_seq, st_if]
  simp only [ex_c, ex_var, ex_op, ex_un, ex_b, ex_and, ex_or, ex_not, ex_andV, ex_orV, ex_notV, ex_if, ex_chain, ex_nil, ex_cons, ex_tup, ex_lst, ex_call, ex_callP, ex_cb, ex_bm, ex_rep, ex_sl, ex_noPart, ex_part, ex_yes, it_items, it_rng1, it_rng2, tg_name, tg_sub, tg_tup, tg_cons, tg_nil, gs_0, gs_s, ss_0, ss_s, op_ii, op_ss, op_tt, op_mm, op_sb, op_ng, op_iNf, op_iNt, op_lle, op_ixT, op_ixR, op_ixL, op_putE, op_appE, it_tupE, it_rolE, it_refE, lstOf_l, exL, asS_some, asI_int, asB_bl, asL_some, asN_some, ite3_t, ite3_f, bl_1, bl_lenT, bl_lenR, bl_lenL, bl_lenS, bl_tuple, bl_list, bl_abs, bl_intI, bl_intB, bl_max, bl_min, op_eqSf, op_eqSt, op_eqIf, op_eqIt, op_eqTf, op_eqTt, op_eqRf, op_eqRt, op_eqNf, op_eqNt, eqD_int, eqD_nil, pl_int, pl_nil, pl_non, pl_rnil, pl_bl, sl_tupE, sl_rolE, keep_ref, keep_tup, keep_rol, tp_int, tp_tup, tp_rol, tp_str, tp_bl, tp_non, tp_ref, oFd, oMd, oPw, oShl, oLt, oLe, oGt, oGe, op_in, op_cp, wipe_nil, wipe_cons, mset_same, true_and, and_true, isN_int, ex_lstF, ex_repF, ex_lgF1, ex_lgF2, ex_tupRg1, ex_tupRg2, ex_frz, ex_slF, ex_slM, sl_tupF, sl_rolF, op_iiF, op_ssF, op_ttF, op_rrF, op_rrM, op_mmF, op_repF, li_rol, li_ref, bl_listF, bl_allF, bl_anyF, asT_some, asJ_some, op_eqBf, op_eqBt, isN_non, Bool.not_true, Bool.not_false, rep2, hM, at_42]
  refine ite3_by (fun hg => ?_) (fun hg => ?_)
  · rw [st_seq, st_set]
    simp only [ex_c, ex_var, ex_op, ex_un, ex_b, ex_and, ex_or, ex_not, ex_andV, ex_orV, ex_notV, ex_if, ex_chain, ex_nil, ex_cons, ex_tup, ex_lst, ex_call, ex_callP, ex_cb, ex_bm, ex_rep, ex_sl, ex_noPart, ex_part, ex_yes, it_items, it_rng1, it_rng2, tg_name, tg_sub, tg_tup, tg_cons, tg_nil, gs_0, gs_s, ss_0, ss_s, op_ii, op_ss, op_tt, op_mm, op_sb, op_ng, op_iNf, op_iNt, op_lle, op_ixT, op_ixR, op_ixL, op_putE, op_appE, it_tupE, it_rolE, it_refE, lstOf_l, exL, asS_some, asI_int, asB_bl, asL_some, asN_some, ite3_t, ite3_f, bl_1, bl_lenT, bl_lenR, bl_lenL, bl_lenS, bl_tuple, bl_list, bl_abs, bl_intI, bl_intB, bl_max, bl_min, op_eqSf, op_eqSt, op_eqIf, op_eqIt, op_eqTf, op_eqTt, op_eqRf, op_eqRt, op_eqNf, op_eqNt, eqD_int, eqD_nil, pl_int, pl_nil, pl_non, pl_rnil, pl_bl, sl_tupE, sl_rolE, keep_ref, keep_tup, keep_rol, tp_int, tp_tup, tp_rol, tp_str, tp_bl, tp_non, tp_ref, oFd, oMd, oPw, oShl, oLt, oLe, oGt, oGe, op_in, op_cp, wipe_nil, wipe_cons, mset_same, true_and, and_true, isN_int, ex_lstF, ex_repF, ex_lgF1, ex_lgF2, ex_tupRg1, ex_tupRg2, ex_frz, ex_slF, ex_slM, sl_tupF, sl_rolF, op_iiF, op_ssF, op_ttF, op_rrF, op_rrM, op_mmF, op_repF, li_rol, li_ref, bl_listF, bl_allF, bl_anyF, asT_some, asJ_some, op_eqBf, op_eqBt, isN_non, Bool.not_true, Bool.not_false, rep2, hM, at_42]
    refine ⟨hn0, ?_⟩
    try dsimp only
    rw [st_seq, st_asg]
    simp only [ex_c, ex_var, ex_op, ex_un, ex_b, ex_and, ex_or, ex_not, ex_andV, ex_orV, ex_notV, ex_if, ex_chain, ex_nil, ex_cons, ex_tup, ex_lst, ex_call, ex_callP, ex_cb, ex_bm, ex_rep, ex_sl, ex_noPart, ex_part, ex_yes, it_items, it_rng1, it_rng2, tg_name, tg_sub, tg_tup, tg_cons, tg_nil, gs_0, gs_s, ss_0, ss_s, op_ii, op_ss, op_tt, op_mm, op_sb, op_ng, op_iNf, op_iNt, op_lle, op_ixT, op_ixR, op_ixL, op_putE, op_appE, it_tupE, it_rolE, it_refE, lstOf_l, exL, asS_some, asI_int, asB_bl, asL_some, asN_some, ite3_t, ite3_f, bl_1, bl_lenT, bl_lenR, bl_lenL, bl_lenS, bl_tuple, bl_list, bl_abs, bl_intI, bl_intB, bl_max, bl_min, op_eqSf, op_eqSt, op_eqIf, op_eqIt, op_eqTf, op_eqTt, op_eqRf, op_eqRt, op_eqNf, op_eqNt, eqD_int, eqD_nil, pl_int, pl_nil, pl_non, pl_rnil, pl_bl, sl_tupE, sl_rolE, keep_ref, keep_tup, keep_rol, tp_int, tp_tup, tp_rol, tp_str, tp_bl, tp_non, tp_ref, oFd, oMd, oPw, oShl, oLt, oLe, oGt, oGe, op_in, op_cp, wipe_nil, wipe_cons, mset_same, true_and, and_true, isN_int, ex_lstF, ex_repF, ex_lgF1, ex_lgF2, ex_tupRg1, ex_tupRg2, ex_frz, ex_slF, ex_slM, sl_tupF, sl_rolF, op_iiF, op_ssF, op_ttF, op_rrF, op_rrM, op_mmF, op_repF, li_rol, li_ref, bl_listF, bl_allF, bl_anyF, asT_some, asJ_some, op_eqBf, op_eqBt, isN_non, Bool.not_true, Bool.not_false, rep2, hM, at_42, ix_42, set_42]
    refine ⟨fo _, ?_⟩
    try dsimp only
    rw [st_ret]
    simp only [ex_c, ex_var, ex_op, ex_un, ex_b, ex_and, ex_or, ex_not, ex_andV, ex_orV, ex_notV, ex_if, ex_chain, ex_nil, ex_cons, ex_tup, ex_lst, ex_call, ex_callP, ex_cb, ex_bm, ex_rep, ex_sl, ex_noPart, ex_part, ex_yes, it_items, it_rng1, it_rng2, tg_name, tg_sub, tg_tup, tg_cons, tg_nil, gs_0, gs_s, ss_0, ss_s, op_ii, op_ss, op_tt, op_mm, op_sb, op_ng, op_iNf, op_iNt, op_lle, op_ixT, op_ixR, op_ixL, op_putE, op_appE, it_tupE, it_rolE, it_refE, lstOf_l, exL, asS_some, asI_int, asB_bl, asL_some, asN_some, ite3_t, ite3_f, bl_1, bl_lenT, bl_lenR, bl_lenL, bl_lenS, bl_tuple, bl_list, bl_abs, bl_intI, bl_intB, bl_max, bl_min, op_eqSf, op_eqSt, op_eqIf, op_eqIt, op_eqTf, op_eqTt, op_eqRf, op_eqRt, op_eqNf, op_eqNt, eqD_int, eqD_nil, pl_int, pl_nil, pl_non, pl_rnil, pl_bl, sl_tupE, sl_rolE, keep_ref, keep_tup, keep_rol, tp_int, tp_tup, tp_rol, tp_str, tp_bl, tp_non, tp_ref, oFd, oMd, oPw, oShl, oLt, oLe, oGt, oGe, op_in, op_cp, wipe_nil, wipe_cons, mset_same, true_and, and_true, isN_int, ex_lstF, ex_repF, ex_lgF1, ex_lgF2, ex_tupRg1, ex_tupRg2, ex_frz, ex_slF, ex_slM, sl_tupF, sl_rolF, op_iiF, op_ssF, op_ttF, op_rrF, op_rrM, op_mmF, op_repF, li_rol, li_ref, bl_listF, bl_allF, bl_anyF, asT_some, asJ_some, op_eqBf, op_eqBt, isN_non, Bool.not_true, Bool.not_false, rep2]
    rw [hK]
    exact q _ _ (md_in h0).1 (md_in h0).2 ⟨cs, i, _, k, by omega, mset_same⟩ (o.trans Only.refl.set)
  · rw [st_next]
    try dsimp only
    rw [st_seq, st_set]
    simp only [ex_c, ex_var, ex_op, ex_un, ex_b, ex_and, ex_or, ex_not, ex_andV, ex_orV, ex_notV, ex_if, ex_chain, ex_nil, ex_cons, ex_tup, ex_lst, ex_call, ex_callP, ex_cb, ex_bm, ex_rep, ex_sl, ex_noPart, ex_part, ex_yes, it_items, it_rng1, it_rng2, tg_name, tg_sub, tg_tup, tg_cons, tg_nil, gs_0, gs_s, ss_0, ss_s, op_ii, op_ss, op_tt, op_mm, op_sb, op_ng, op_iNf, op_iNt, op_lle, op_ixT, op_ixR, op_ixL, op_putE, op_appE, it_tupE, it_rolE, it_refE, lstOf_l, exL, asS_some, asI_int, asB_bl, asL_some, asN_some, ite3_t, ite3_f, bl_1, bl_lenT, bl_lenR, bl_lenL, bl_lenS, bl_tuple, bl_list, bl_abs, bl_intI, bl_intB, bl_max, bl_min, op_eqSf, op_eqSt, op_eqIf, op_eqIt, op_eqTf, op_eqTt, op_eqRf, op_eqRt, op_eqNf, op_eqNt, eqD_int, eqD_nil, pl_int, pl_nil, pl_non, pl_rnil, pl_bl, sl_tupE, sl_rolE, keep_ref, keep_tup, keep_rol, tp_int, tp_tup, tp_rol, tp_str, tp_bl, tp_non, tp_ref, oFd, oMd, oPw, oShl, oLt, oLe, oGt, oGe, op_in, op_cp, wipe_nil, wipe_cons, mset_same, true_and, and_true, isN_int, ex_lstF, ex_repF, ex_lgF1, ex_lgF2, ex_tupRg1, ex_tupRg2, ex_frz, ex_slF, ex_slM, sl_tupF, sl_rolF, op_iiF, op_ssF, op_ttF, op_rrF, op_rrM, op_mmF, op_repF, li_rol, li_ref, bl_listF, bl_allF, bl_anyF, asT_some, asJ_some, op_eqBf, op_eqBt, isN_non, Bool.not_true, Bool.not_false, rep2, hM, at_43]
    refine ⟨mulR (by decide) (by decide), ?_⟩
    have fin : ∀ x : Int, wRet (wOp oMd (wCallP sm E (wCons (wVar 4) (wCons (wOp oIx (wVar 0) (wC (.int 3))) wNil))) (wVar 1)) K [some (.ref a), some (.int n), some (.rol (cs.map D.int)), none, some (.int x)] M := fun x => by
      rw [st_ret]
      simp only [ex_c, ex_var, ex_op, ex_un, ex_b, ex_and, ex_or, ex_not, ex_andV, ex_orV, ex_notV, ex_if, ex_chain, ex_nil, ex_cons, ex_tup, ex_lst, ex_call, ex_callP, ex_cb, ex_bm, ex_rep, ex_sl, ex_noPart, ex_part, ex_yes, it_items, it_rng1, it_rng2, tg_name, tg_sub, tg_tup, tg_cons, tg_nil, gs_0, gs_s, ss_0, ss_s, op_ii, op_ss, op_tt, op_mm, op_sb, op_ng, op_iNf, op_iNt, op_lle, op_ixT, op_ixR, op_ixL, op_putE, op_appE, it_tupE, it_rolE, it_refE, lstOf_l, exL, asS_some, asI_int, asB_bl, asL_some, asN_some, ite3_t, ite3_f, bl_1, bl_lenT, bl_lenR, bl_lenL, bl_lenS, bl_tuple, bl_list, bl_abs, bl_intI, bl_intB, bl_max, bl_min, op_eqSf, op_eqSt, op_eqIf, op_eqIt, op_eqTf, op_eqTt, op_eqRf, op_eqRt, op_eqNf, op_eqNt, eqD_int, eqD_nil, pl_int, pl_nil, pl_non, pl_rnil, pl_bl, sl_tupE, sl_rolE, keep_ref, keep_tup, keep_rol, tp_int, tp_tup, tp_rol, tp_str, tp_bl, tp_non, tp_ref, oFd, oMd, oPw, oShl, oLt, oLe, oGt, oGe, op_in, op_cp, wipe_nil, wipe_cons, mset_same, true_and, and_true, isN_int, ex_lstF, ex_repF, ex_lgF1, ex_lgF2, ex_tupRg1, ex_tupRg2, ex_frz, ex_slF, ex_slM, sl_tupF, sl_rolF, op_iiF, op_ssF, op_ttF, op_rrF, op_rrM, op_mmF, op_repF, li_rol, li_ref, bl_listF, bl_allF, bl_anyF, asT_some, asJ_some, op_eqBf, op_eqBt, isN_non, Bool.not_true, Bool.not_false, rep2, hM, at_43]
      refine km _ k _ _ (by omega) fun r _ r0 r1 => ?_
      simp only [ex_c, ex_var, ex_op, ex_un, ex_b, ex_and, ex_or, ex_not, ex_andV, ex_orV, ex_notV, ex_if, ex_chain, ex_nil, ex_cons, ex_tup, ex_lst, ex_call, ex_callP, ex_cb, ex_bm, ex_rep, ex_sl, ex_noPart, ex_part, ex_yes, it_items, it_rng1, it_rng2, tg_name, tg_sub, tg_tup, tg_cons, tg_nil, gs_0, gs_s, ss_0, ss_s, op_ii, op_ss, op_tt, op_mm, op_sb, op_ng, op_iNf, op_iNt, op_lle, op_ixT, op_ixR, op_ixL, op_putE, op_appE, it_tupE, it_rolE, it_refE, lstOf_l, exL, asS_some, asI_int, asB_bl, asL_some, asN_some, ite3_t, ite3_f, bl_1, bl_lenT, bl_lenR, bl_lenL, bl_lenS, bl_tuple, bl_list, bl_abs, bl_intI, bl_intB, bl_max, bl_min, op_eqSf, op_eqSt, op_eqIf, op_eqIt, op_eqTf, op_eqTt, op_eqRf, op_eqRt, op_eqNf, op_eqNt, eqD_int, eqD_nil, pl_int, pl_nil, pl_non, pl_rnil, pl_bl, sl_tupE, sl_rolE, keep_ref, keep_tup, keep_rol, tp_int, tp_tup, tp_rol, tp_str, tp_bl, tp_non, tp_ref, oFd, oMd, oPw, oShl, oLt, oLe, oGt, oGe, op_in, op_cp, wipe_nil, wipe_cons, mset_same, true_and, and_true, isN_int, ex_lstF, ex_repF, ex_lgF1, ex_lgF2, ex_tupRg1, ex_tupRg2, ex_frz, ex_slF, ex_slM, sl_tupF, sl_rolF, op_iiF, op_ssF, op_ttF, op_rrF, op_rrM, op_mmF, op_repF, li_rol, li_ref, bl_listF, bl_allF, bl_anyF, asT_some, asJ_some, op_eqBf, op_eqBt, isN_non, Bool.not_true, Bool.not_false, rep2]
      rw [hK]
      exact ⟨hn0, q _ _ (md_in h0).1 (md_in h0).2 ⟨cs, i, g, k, hk, hM⟩ o⟩
    try dsimp only
    rw [st_seq, st_if]
    simp only [ex_c, ex_var, ex_op, ex_un, ex_b, ex_and, ex_or, ex_not, ex_andV, ex_orV, ex_notV, ex_if, ex_chain, ex_nil, ex_cons, ex_tup, ex_lst, ex_call, ex_callP, ex_cb, ex_bm, ex_rep, ex_sl, ex_noPart, ex_part, ex_yes, it_items, it_rng1, it_rng2, tg_name, tg_sub, tg_tup, tg_cons, tg_nil, gs_0, gs_s, ss_0, ss_s, op_ii, op_ss, op_tt, op_mm, op_sb, op_ng, op_iNf, op_iNt, op_lle, op_ixT, op_ixR, op_ixL, op_putE, op_appE, it_tupE, it_rolE, it_refE, lstOf_l, exL, asS_some, asI_int, asB_bl, asL_some, asN_some, ite3_t, ite3_f, bl_1, bl_lenT, bl_lenR, bl_lenL, bl_lenS, bl_tuple, bl_list, bl_abs, bl_intI, bl_intB, bl_max, bl_min, op_eqSf, op_eqSt, op_eqIf, op_eqIt, op_eqTf, op_eqTt, op_eqRf, op_eqRt, op_eqNf, op_eqNt, eqD_int, eqD_nil, pl_int, pl_nil, pl_non, pl_rnil, pl_bl, sl_tupE, sl_rolE, keep_ref, keep_tup, keep_rol, tp_int, tp_tup, tp_rol, tp_str, tp_bl, tp_non, tp_ref, oFd, oMd, oPw, oShl, oLt, oLe, oGt, oGe, op_in, op_cp, wipe_nil, wipe_cons, mset_same, true_and, and_true, isN_int, ex_lstF, ex_repF, ex_lgF1, ex_lgF2, ex_tupRg1, ex_tupRg2, ex_frz, ex_slF, ex_slM, sl_tupF, sl_rolF, op_iiF, op_ssF, op_ttF, op_rrF, op_rrM, op_mmF, op_repF, li_rol, li_ref, bl_listF, bl_allF, bl_anyF, asT_some, asJ_some, op_eqBf, op_eqBt, isN_non, Bool.not_true, Bool.not_false, rep2]
    rw [List.length_map]
    refine ite3_by (fun hc => ?_) (fun hc => ?_)
    · have hc : 0 < (cs.length : Int) := of_decide_eq_true hc
      rw [st_set]
      simp only [ex_c, ex_var, ex_op, ex_un, ex_b, ex_and, ex_or, ex_not, ex_andV, ex_orV, ex_notV, ex_if, ex_chain, ex_nil, ex_cons, ex_tup, ex_lst, ex_call, ex_callP, ex_cb, ex_bm, ex_rep, ex_sl, ex_noPart, ex_part, ex_yes, it_items, it_rng1, it_rng2, tg_name, tg_sub, tg_tup, tg_cons, tg_nil, gs_0, gs_s, ss_0, ss_s, op_ii, op_ss, op_tt, op_mm, op_sb, op_ng, op_iNf, op_iNt, op_lle, op_ixT, op_ixR, op_ixL, op_putE, op_appE, it_tupE, it_rolE, it_refE, lstOf_l, exL, asS_some, asI_int, asB_bl, asL_some, asN_some, ite3_t, ite3_f, bl_1, bl_lenT, bl_lenR, bl_lenL, bl_lenS, bl_tuple, bl_list, bl_abs, bl_intI, bl_intB, bl_max, bl_min, op_eqSf, op_eqSt, op_eqIf, op_eqIt, op_eqTf, op_eqTt, op_eqRf, op_eqRt, op_eqNf, op_eqNt, eqD_int, eqD_nil, pl_int, pl_nil, pl_non, pl_rnil, pl_bl, sl_tupE, sl_rolE, keep_ref, keep_tup, keep_rol, tp_int, tp_tup, tp_rol, tp_str, tp_bl, tp_non, tp_ref, oFd, oMd, oPw, oShl, oLt, oLe, oGt, oGe, op_in, op_cp, wipe_nil, wipe_cons, mset_same, true_and, and_true, isN_int, ex_lstF, ex_repF, ex_lgF1, ex_lgF2, ex_tupRg1, ex_tupRg2, ex_frz, ex_slF, ex_slM, sl_tupF, sl_rolF, op_iiF, op_ssF, op_ttF, op_rrF, op_rrM, op_mmF, op_repF, li_rol, li_ref, bl_listF, bl_allF, bl_anyF, asT_some, asJ_some, op_eqBf, op_eqBt, isN_non, Bool.not_true, Bool.not_false, rep2, hM, at_43]
      rw [List.length_map]
      have hm := md_in (x := (k : Int) * 7) (n := (cs.length : Int)) hc
      obtain ⟨c, e⟩ := at_cells hm.1 hm.2
      refine ⟨mulR (by decide) (by decide), by omega, ?_⟩
      rw [e]
      (try simp only [ex_c, ex_var, ex_op, ex_un, ex_b, ex_and, ex_or, ex_not, ex_andV, ex_orV, ex_notV, ex_if, ex_chain, ex_nil, ex_cons, ex_tup, ex_lst, ex_call, ex_callP, ex_cb, ex_bm, ex_rep, ex_sl, ex_noPart, ex_part, ex_yes, it_items, it_rng1, it_rng2, tg_name, tg_sub, tg_tup, tg_cons, tg_nil, gs_0, gs_s, ss_0, ss_s, op_ii, op_ss, op_tt, op_mm, op_sb, op_ng, op_iNf, op_iNt, op_lle, op_ixT, op_ixR, op_ixL, op_putE, op_appE, it_tupE, it_rolE, it_refE, lstOf_l, exL, asS_some, asI_int, asB_bl, asL_some, asN_some, ite3_t, ite3_f, bl_1, bl_lenT, bl_lenR, bl_lenL, bl_lenS, bl_tuple, bl_list, bl_abs, bl_intI, bl_intB, bl_max, bl_min, op_eqSf, op_eqSt, op_eqIf, op_eqIt, op_eqTf, op_eqTt, op_eqRf, op_eqRt, op_eqNf, op_eqNt, eqD_int, eqD_nil, pl_int, pl_nil, pl_non, pl_rnil, pl_bl, sl_tupE, sl_rolE, keep_ref, keep_tup, keep_rol, tp_int, tp_tup, tp_rol, tp_str, tp_bl, tp_non, tp_ref, oFd, oMd, oPw, oShl, oLt, oLe, oGt, oGe, op_in, op_cp, wipe_nil, wipe_cons, mset_same, true_and, and_true, isN_int, ex_lstF, ex_repF, ex_lgF1, ex_lgF2, ex_tupRg1, ex_tupRg2, ex_frz, ex_slF, ex_slM, sl_tupF, sl_rolF, op_iiF, op_ssF, op_ttF, op_rrF, op_rrM, op_mmF, op_repF, li_rol, li_ref, bl_listF, bl_allF, bl_anyF, asT_some, asJ_some, op_eqBf, op_eqBt, isN_non, Bool.not_true, Bool.not_false, rep2])
      exact ⟨by decide, fin _⟩
    · rw [st_next]
      exact fin _
theorem s_drawK {sm : Sp3} (km : SMixed sm) : SDraw7 (spOf 2 5 (drawKR sm)) := by
  intro a b n M Q E f hb h0 hn q
  obtain ⟨cs, i, g, k, hk, hM⟩ := f
  refine ⟨rfl, ?_⟩
  show drawKR sm E _ [some (.ref a), some (.int n), none, none, none] M
  unfold drawKR
  have hn0 : n ≠ 0 := by omega
  have ek : (k : Int) + 1 = ((k + 1 : Nat) : Int) := by omega
  have ei : (i : Int) + 1 = ((i + 1 : Nat) : Int) := by omega
  rw [st_seq, st_set]
  simp only [ex_c, ex_var, ex_op, ex_un, ex_b, ex_and, ex_or, ex_not, ex_andV, ex_orV, ex_notV, ex_if, ex_chain, ex_nil, ex_cons, ex_tup, ex_lst, ex_call, ex_callP, ex_cb, ex_bm, ex_rep, ex_sl, ex_noPart, ex_part, ex_yes, it_items, it_rng1, it_rng2, tg_name, tg_sub, tg_tup, tg_cons, tg_nil, gs_0, gs_s, ss_0, ss_s, op_ii, op_ss, op_tt, op_mm, op_sb, op_ng, op_iNf, op_iNt, op_lle, op_ixT, op_ixR, op_ixL, op_putE, op_appE, it_tupE, it_rolE, it_refE, lstOf_l, exL, asS_some, asI_int, asB_bl, asL_some, asN_some, ite3_t, ite3_f, bl_1, bl_lenT, bl_lenR, bl_lenL, bl_lenS, bl_tuple, bl_list, bl_abs, bl_intI, bl_intB, bl_max, bl_min, op_eqSf, op_eqSt, op_eqIf, op_eqIt, op_eqTf, op_eqTt, op_eqRf, op_eqRt, op_eqNf, op_eqNt, eqD_int, eqD_nil, pl_int, pl_nil, pl_non, pl_rnil, pl_bl, sl_tupE, sl_rolE, keep_ref, keep_tup, keep_rol, tp_int, tp_tup, tp_rol, tp_str, tp_bl, tp_non, tp_ref, oFd, oMd, oPw, oShl, oLt, oLe, oGt, oGe, op_in, op_cp, wipe_nil, wipe_cons, mset_same, true_and, and_true, isN_int, ex_lstF, ex_repF, ex_lgF1, ex_lgF2, ex_tupRg1, ex_tupRg2, ex_frz, ex_slF, ex_slM, sl_tupF, sl_rolF, op_iiF, op_ssF, op_ttF, op_rrF, op_rrM, op_mmF, op_repF, li_rol, li_ref, bl_listF, bl_allF, bl_anyF, asT_some, asJ_some, op_eqBf, op_eqBt, isN_non, Bool.not_true, Bool.not_false, rep2, hM, at_40]
  try dsimp only
  rw [st_seq, st_asg]
  simp only [ex_c, ex_var, ex_op, ex_un, ex_b, ex_and, ex_or, ex_not, ex_andV, ex_orV, ex_notV, ex_if, ex_chain, ex_nil, ex_cons, ex_tup, ex_lst, ex_call, ex_callP, ex_cb, ex_bm, ex_rep, ex_sl, ex_noPart, ex_part, ex_yes, it_items, it_rng1, it_rng2, tg_name, tg_sub, tg_tup, tg_cons, tg_nil, gs_0, gs_s, ss_0, ss_s, op_ii, op_ss, op_tt, op_mm, op_sb, op_ng, op_iNf, op_iNt, op_lle, op_ixT, op_ixR, op_ixL, op_putE, op_appE, it_tupE, it_rolE, it_refE, lstOf_l, exL, asS_some, asI_int, asB_bl, asL_some, asN_some, ite3_t, ite3_f, bl_1, bl_lenT, bl_lenR, bl_lenL, bl_lenS, bl_tuple, bl_list, bl_abs, bl_intI, bl_intB, bl_max, bl_min, op_eqSf, op_eqSt, op_eqIf, op_eqIt, op_eqTf, op_eqTt, op_eqRf, op_eqRt, op_eqNf, op_eqNt, eqD_int, eqD_nil, pl_int, pl_nil, pl_non, pl_rnil, pl_bl, sl_tupE, sl_rolE, keep_ref, keep_tup, keep_rol, tp_int, tp_tup, tp_rol, tp_str, tp_bl, tp_non, tp_ref, oFd, oMd, oPw, oShl, oLt, oLe, oGt, oGe, op_in, op_cp, wipe_nil, wipe_cons, mset_same, true_and, and_true, isN_int, ex_lstF, ex_repF, ex_lgF1, ex_lgF2, ex_tupRg1, ex_tupRg2, ex_frz, ex_slF, ex_slM, sl_tupF, sl_rolF, op_iiF, op_ssF, op_ttF, op_rrF, op_rrM, op_mmF, op_repF, li_rol, li_ref, bl_listF, bl_allF, bl_anyF, asT_some, asJ_some, op_eqBf, op_eqBt, isN_non, Bool.not_true, Bool.not_false, rep2, hM, at_43, ek, ix_43, set_43]
  have hM1 : mset M a (MO.lst [.rol (cs.map D.int), .int i, .int g, .int ((k + 1 : Nat) : Int)]) a = some (.lst [.rol (cs.map D.int), .int i, .int g, .int ((k + 1 : Nat) : Int)]) := mset_same
  have o1 : Only a M (mset M a (MO.lst [.rol (cs.map D.int), .int i, .int g, .int ((k + 1 : Nat) : Int)])) := Only.refl.set
  generalize mset M a (MO.lst [.rol (cs.map D.int), .int i, .int g, .int ((k + 1 : Nat) : Int)]) = M1 at hM1 o1
  have tail : ∀ (M2 : Mp) (i' : Nat) (g' : Int) (K : Ends3), K.rt = Q → M2 a = some (.lst [.rol (cs.map D.int), .int i', .int g', .int ((k + 1 : Nat) : Int)]) → Only a M M2 →
      drawKT sm E K [some (.ref a), some (.int n), some (.rol (cs.map D.int)), none, none] M2 := fun M2 i' g' K hK h2 o2 =>
    drawK_tail km (b := b + 1) (by omega) (by omega) h0 hn h2 o2 hK q
  try dsimp only
  rw [st_seq, st_if]
  simp only [ex_c, ex_var, ex_op, ex_un, ex_b, ex_and, ex_or, ex_not, ex_andV, ex_orV, ex_notV, ex_if, ex_chain, ex_nil, ex_cons, ex_tup, ex_lst, ex_call, ex_callP, ex_cb, ex_bm, ex_rep, ex_sl, ex_noPart, ex_part, ex_yes, it_items, it_rng1, it_rng2, tg_name, tg_sub, tg_tup, tg_cons, tg_nil, gs_0, gs_s, ss_0, ss_s, op_ii, op_ss, op_tt, op_mm, op_sb, op_ng, op_iNf, op_iNt, op_lle, op_ixT, op_ixR, op_ixL, op_putE, op_appE, it_tupE, it_rolE, it_refE, lstOf_l, exL, asS_some, asI_int, asB_bl, asL_some, asN_some, ite3_t, ite3_f, bl_1, bl_lenT, bl_lenR, bl_lenL, bl_lenS, bl_tuple, bl_list, bl_abs, bl_intI, bl_intB, bl_max, bl_min, op_eqSf, op_eqSt, op_eqIf, op_eqIt, op_eqTf, op_eqTt, op_eqRf, op_eqRt, op_eqNf, op_eqNt, eqD_int, eqD_nil, pl_int, pl_nil, pl_non, pl_rnil, pl_bl, sl_tupE, sl_rolE, keep_ref, keep_tup, keep_rol, tp_int, tp_tup, tp_rol, tp_str, tp_bl, tp_non, tp_ref, oFd, oMd, oPw, oShl, oLt, oLe, oGt, oGe, op_in, op_cp, wipe_nil, wipe_cons, mset_same, true_and, and_true, isN_int, ex_lstF, ex_repF, ex_lgF1, ex_lgF2, ex_tupRg1, ex_tupRg2, ex_frz, ex_slF, ex_slM, sl_tupF, sl_rolF, op_iiF, op_ssF, op_ttF, op_rrF, op_rrM, op_mmF, op_repF, li_rol, li_ref, bl_listF, bl_allF, bl_anyF, asT_some, asJ_some, op_eqBf, op_eqBt, isN_non, Bool.not_true, Bool.not_false, rep2, hM1, at_42, at_41, eqD_int, pl_int, tp_int]
  rw [List.length_map]
  refine ite3_by (fun hg => ?_) (fun hg => ?_)
  · refine ite3_by (fun hi => ?_) (fun hi => ?_)
    · have hi : (i : Int) < cs.length := of_decide_eq_true hi
      rw [st_seq, st_asg]
      simp only [ex_c, ex_var, ex_op, ex_un, ex_b, ex_and, ex_or, ex_not, ex_andV, ex_orV, ex_notV, ex_if, ex_chain, ex_nil, ex_cons, ex_tup, ex_lst, ex_call, ex_callP, ex_cb, ex_bm, ex_rep, ex_sl, ex_noPart, ex_part, ex_yes, it_items, it_rng1, it_rng2, tg_name, tg_sub, tg_tup, tg_cons, tg_nil, gs_0, gs_s, ss_0, ss_s, op_ii, op_ss, op_tt, op_mm, op_sb, op_ng, op_iNf, op_iNt, op_lle, op_ixT, op_ixR, op_ixL, op_putE, op_appE, it_tupE, it_rolE, it_refE, lstOf_l, exL, asS_some, asI_int, asB_bl, asL_some, asN_some, ite3_t, ite3_f, bl_1, bl_lenT, bl_lenR, bl_lenL, bl_lenS, bl_tuple, bl_list, bl_abs, bl_intI, bl_intB, bl_max, bl_min, op_eqSf, op_eqSt, op_eqIf, op_eqIt, op_eqTf, op_eqTt, op_eqRf, op_eqRt, op_eqNf, op_eqNt, eqD_int, eqD_nil, pl_int, pl_nil, pl_non, pl_rnil, pl_bl, sl_tupE, sl_rolE, keep_ref, keep_tup, keep_rol, tp_int, tp_tup, tp_rol, tp_str, tp_bl, tp_non, tp_ref, oFd, oMd, oPw, oShl, oLt, oLe, oGt, oGe, op_in, op_cp, wipe_nil, wipe_cons, mset_same, true_and, and_true, isN_int, ex_lstF, ex_repF, ex_lgF1, ex_lgF2, ex_tupRg1, ex_tupRg2, ex_frz, ex_slF, ex_slM, sl_tupF, sl_rolF, op_iiF, op_ssF, op_ttF, op_rrF, op_rrM, op_mmF, op_repF, li_rol, li_ref, bl_listF, bl_allF, bl_anyF, asT_some, asJ_some, op_eqBf, op_eqBt, isN_non, Bool.not_true, Bool.not_false, rep2, hM1, at_41, ix_41, set_41, ei]
      have hM2 : mset M1 a (MO.lst [.rol (cs.map D.int), .int ((i + 1 : Nat) : Int), .int g, .int ((k + 1 : Nat) : Int)]) a = some (.lst [.rol (cs.map D.int), .int ((i + 1 : Nat) : Int), .int g, .int ((k + 1 : Nat) : Int)]) := mset_same
      have o2 : Only a M (mset M1 a (MO.lst [.rol (cs.map D.int), .int ((i + 1 : Nat) : Int), .int g, .int ((k + 1 : Nat) : Int)])) := o1.trans Only.refl.set
      generalize mset M1 a (MO.lst [.rol (cs.map D.int), .int ((i + 1 : Nat) : Int), .int g, .int ((k + 1 : Nat) : Int)]) = M2 at hM2 o2
      obtain ⟨c, hc⟩ := at_cells (cs := cs) (x := ((i + 1 : Nat) : Int) - 1) (by omega) (by omega)
      try dsimp only
      rw [st_seq, st_if]
      simp only [ex_c, ex_var, ex_op, ex_un, ex_b, ex_and, ex_or, ex_not, ex_andV, ex_orV, ex_notV, ex_if, ex_chain, ex_nil, ex_cons, ex_tup, ex_lst, ex_call, ex_callP, ex_cb, ex_bm, ex_rep, ex_sl, ex_noPart, ex_part, ex_yes, it_items, it_rng1, it_rng2, tg_name, tg_sub, tg_tup, tg_cons, tg_nil, gs_0, gs_s, ss_0, ss_s, op_ii, op_ss, op_tt, op_mm, op_sb, op_ng, op_iNf, op_iNt, op_lle, op_ixT, op_ixR, op_ixL, op_putE, op_appE, it_tupE, it_rolE, it_refE, lstOf_l, exL, asS_some, asI_int, asB_bl, asL_some, asN_some, ite3_t, ite3_f, bl_1, bl_lenT, bl_lenR, bl_lenL, bl_lenS, bl_tuple, bl_list, bl_abs, bl_intI, bl_intB, bl_max, bl_min, op_eqSf, op_eqSt, op_eqIf, op_eqIt, op_eqTf, op_eqTt, op_eqRf, op_eqRt, op_eqNf, op_eqNt, eqD_int, eqD_nil, pl_int, pl_nil, pl_non, pl_rnil, pl_bl, sl_tupE, sl_rolE, keep_ref, keep_tup, keep_rol, tp_int, tp_tup, tp_rol, tp_str, tp_bl, tp_non, tp_ref, oFd, oMd, oPw, oShl, oLt, oLe, oGt, oGe, op_in, op_cp, wipe_nil, wipe_cons, mset_same, true_and, and_true, isN_int, ex_lstF, ex_repF, ex_lgF1, ex_lgF2, ex_tupRg1, ex_tupRg2, ex_frz, ex_slF, ex_slM, sl_tupF, sl_rolF, op_iiF, op_ssF, op_ttF, op_rrF, op_rrM, op_mmF, op_repF, li_rol, li_ref, bl_listF, bl_allF, bl_anyF, asT_some, asJ_some, op_eqBf, op_eqBt, isN_non, Bool.not_true, Bool.not_false, rep2, hM2, at_41, hc]
      refine ⟨⟨by decide, by decide, by decide⟩, ite3_by (fun hx => ?_) (fun hx => ?_)⟩
      · rw [st_ret]
        simp only [ex_c, ex_var, ex_op, ex_un, ex_b, ex_and, ex_or, ex_not, ex_andV, ex_orV, ex_notV, ex_if, ex_chain, ex_nil, ex_cons, ex_tup, ex_lst, ex_call, ex_callP, ex_cb, ex_bm, ex_rep, ex_sl, ex_noPart, ex_part, ex_yes, it_items, it_rng1, it_rng2, tg_name, tg_sub, tg_tup, tg_cons, tg_nil, gs_0, gs_s, ss_0, ss_s, op_ii, op_ss, op_tt, op_mm, op_sb, op_ng, op_iNf, op_iNt, op_lle, op_ixT, op_ixR, op_ixL, op_putE, op_appE, it_tupE, it_rolE, it_refE, lstOf_l, exL, asS_some, asI_int, asB_bl, asL_some, asN_some, ite3_t, ite3_f, bl_1, bl_lenT, bl_lenR, bl_lenL, bl_lenS, bl_tuple, bl_list, bl_abs, bl_intI, bl_intB, bl_max, bl_min, op_eqSf, op_eqSt, op_eqIf, op_eqIt, op_eqTf, op_eqTt, op_eqRf, op_eqRt, op_eqNf, op_eqNt, eqD_int, eqD_nil, pl_int, pl_nil, pl_non, pl_rnil, pl_bl, sl_tupE, sl_rolE, keep_ref, keep_tup, keep_rol, tp_int, tp_tup, tp_rol, tp_str, tp_bl, tp_non, tp_ref, oFd, oMd, oPw, oShl, oLt, oLe, oGt, oGe, op_in, op_cp, wipe_nil, wipe_cons, mset_same, true_and, and_true, isN_int, ex_lstF, ex_repF, ex_lgF1, ex_lgF2, ex_tupRg1, ex_tupRg2, ex_frz, ex_slF, ex_slM, sl_tupF, sl_rolF, op_iiF, op_ssF, op_ttF, op_rrF, op_rrM, op_mmF, op_repF, li_rol, li_ref, bl_listF, bl_allF, bl_anyF, asT_some, asJ_some, op_eqBf, op_eqBt, isN_non, Bool.not_true, Bool.not_false, rep2, hM2, at_41, at_43, hc]
        refine km _ (k + 1) _ _ (by omega) fun r _ r0 r1 => ?_
        simp only [ex_c, ex_var, ex_op, ex_un, ex_b, ex_and, ex_or, ex_not, ex_andV, ex_orV, ex_notV, ex_if, ex_chain, ex_nil, ex_cons, ex_tup, ex_lst, ex_call, ex_callP, ex_cb, ex_bm, ex_rep, ex_sl, ex_noPart, ex_part, ex_yes, it_items, it_rng1, it_rng2, tg_name, tg_sub, tg_tup, tg_cons, tg_nil, gs_0, gs_s, ss_0, ss_s, op_ii, op_ss, op_tt, op_mm, op_sb, op_ng, op_iNf, op_iNt, op_lle, op_ixT, op_ixR, op_ixL, op_putE, op_appE, it_tupE, it_rolE, it_refE, lstOf_l, exL, asS_some, asI_int, asB_bl, asL_some, asN_some, ite3_t, ite3_f, bl_1, bl_lenT, bl_lenR, bl_lenL, bl_lenS, bl_tuple, bl_list, bl_abs, bl_intI, bl_intB, bl_max, bl_min, op_eqSf, op_eqSt, op_eqIf, op_eqIt, op_eqTf, op_eqTt, op_eqRf, op_eqRt, op_eqNf, op_eqNt, eqD_int, eqD_nil, pl_int, pl_nil, pl_non, pl_rnil, pl_bl, sl_tupE, sl_rolE, keep_ref, keep_tup, keep_rol, tp_int, tp_tup, tp_rol, tp_str, tp_bl, tp_non, tp_ref, oFd, oMd, oPw, oShl, oLt, oLe, oGt, oGe, op_in, op_cp, wipe_nil, wipe_cons, mset_same, true_and, and_true, isN_int, ex_lstF, ex_repF, ex_lgF1, ex_lgF2, ex_tupRg1, ex_tupRg2, ex_frz, ex_slF, ex_slM, sl_tupF, sl_rolF, op_iiF, op_ssF, op_ttF, op_rrF, op_rrM, op_mmF, op_repF, li_rol, li_ref, bl_listF, bl_allF, bl_anyF, asT_some, asJ_some, op_eqBf, op_eqBt, isN_non, Bool.not_true, Bool.not_false, rep2]
        exact ⟨hn0, q _ _ (md_in h0).1 (md_in h0).2 ⟨cs, i + 1, g, k + 1, by omega, hM2⟩ o2⟩
      · rw [st_next]
        try dsimp only
        rw [st_asg]
        simp only [ex_c, ex_var, ex_op, ex_un, ex_b, ex_and, ex_or, ex_not, ex_andV, ex_orV, ex_notV, ex_if, ex_chain, ex_nil, ex_cons, ex_tup, ex_lst, ex_call, ex_callP, ex_cb, ex_bm, ex_rep, ex_sl, ex_noPart, ex_part, ex_yes, it_items, it_rng1, it_rng2, tg_name, tg_sub, tg_tup, tg_cons, tg_nil, gs_0, gs_s, ss_0, ss_s, op_ii, op_ss, op_tt, op_mm, op_sb, op_ng, op_iNf, op_iNt, op_lle, op_ixT, op_ixR, op_ixL, op_putE, op_appE, it_tupE, it_rolE, it_refE, lstOf_l, exL, asS_some, asI_int, asB_bl, asL_some, asN_some, ite3_t, ite3_f, bl_1, bl_lenT, bl_lenR, bl_lenL, bl_lenS, bl_tuple, bl_list, bl_abs, bl_intI, bl_intB, bl_max, bl_min, op_eqSf, op_eqSt, op_eqIf, op_eqIt, op_eqTf, op_eqTt, op_eqRf, op_eqRt, op_eqNf, op_eqNt, eqD_int, eqD_nil, pl_int, pl_nil, pl_non, pl_rnil, pl_bl, sl_tupE, sl_rolE, keep_ref, keep_tup, keep_rol, tp_int, tp_tup, tp_rol, tp_str, tp_bl, tp_non, tp_ref, oFd, oMd, oPw, oShl, oLt, oLe, oGt, oGe, op_in, op_cp, wipe_nil, wipe_cons, mset_same, true_and, and_true, isN_int, ex_lstF, ex_repF, ex_lgF1, ex_lgF2, ex_tupRg1, ex_tupRg2, ex_frz, ex_slF, ex_slM, sl_tupF, sl_rolF, op_iiF, op_ssF, op_ttF, op_rrF, op_rrM, op_mmF, op_repF, li_rol, li_ref, bl_listF, bl_allF, bl_anyF, asT_some, asJ_some, op_eqBf, op_eqBt, isN_non, Bool.not_true, Bool.not_false, rep2, hM2, at_41, hc, ix_42, set_42]
        exact tail _ (i + 1) _ _ rfl mset_same (o2.trans Only.refl.set)
    · rw [st_next]
      exact tail _ i g _ rfl hM1 o1
  · rw [st_next]
    exact tail _ i g _ rfl hM1 o1
end L3
set_option Elab.async false
set_option linter.all false
set_option maxRecDepth 100000
set_option maxHeartbeats 4000000
namespace L3
open PySem PySem.Spec PyProof.Rows L2
def lsameR (ss : Sp3) : XK3 → TS3 := fun E =>
  (wSeq (wIfS (wB (wCB bIsiT (wCons (wVar 1) (wCons (wTup (wCons (wC (.ty "tuple")) (wCons (wC (.ty "list")) wNil))) wNil)))) (wSeq (wIfS (wOr (wB (wOp (oEq true) (wCB bIsi (wCons (wVar 0) (wCons (wC (.ty "tuple")) wNil))) (wCB bIsi (wCons (wVar 1) (wCons (wC (.ty "tuple")) wNil))))) (wB (wOp (oEq true) (wCB bIsi (wCons (wVar 0) (wCons (wC (.ty "list")) wNil))) (wCB bIsi (wCons (wVar 1) (wCons (wC (.ty "list")) wNil)))))) (wRet (wC (.bl false))) wNext)
  (wSeq (wIfS (wB (wOp (oEq true) (wCB bLen (wCons (wVar 0) wNil)) (wCB bLen (wCons (wVar 1) wNil)))) (wRet (wC (.bl false))) wNext)
  (wRet (wOp (oEq false) (wLcF (wRng1 (wCons (wCB bLen (wCons (wVar 1) wNil)) wNil)) (wgName 2) (wNot (wB (wCallP ss X0 (wCons (wOp oIx (wVar 0) (wVar 2)) (wCons (wOp oIx (wVar 1) (wVar 2)) wNil))))) (wVar 2) [2]) (wLstF wNil))))) wNext)
  (wSeq (wIfS (wB (wOp (oIsN false) (wVar 1) (wC .non))) (wRet (wOp (oIsN false) (wVar 0) (wC .non))) wNext)
  (wSeq (wIfS (wB (wCB bIsi (wCons (wVar 1) (wCons (wC (.ty "str")) wNil)))) (wRet (wAndV (wCB bIsi (wCons (wVar 0) (wCons (wC (.ty "str")) wNil))) (wOp (oEq false) (wVar 0) (wVar 1)))) wNext)
  (wRet (wAndV (wCB bIsi (wCons (wVar 0) (wCons (wC (.ty "int")) wNil))) (wAndV (wOp (oEq false) (wCB bIsi (wCons (wVar 0) (wCons (wC (.ty "bool")) wNil))) (wCB bIsi (wCons (wVar 1) (wCons (wC (.ty "bool")) wNil)))) (wOp (oEq false) (wVar 0) (wVar 1))))))))
def SameOn (sp : Sp3) (P : D → Prop) : Prop := ∀ (d : D) (Q : VK3) (E : XK3), P d → (∀ M, Q (.bl true) M) → sp [d, d] M0 Q E
theorem isiT_is {d : D} {t : String} {cs : List D} {ns : List String} {b : Bool} {M : Mp} {Q : VK3} (h : tyN M d = some t) (h2 : tysOf cs = some ns) (h3 : kitBs t ns = some b) : bIsiT [d, .tup cs] M Q = Q (.bl b) M := by
  show asTys (tysOf cs) _ = _
  rw [h2]
  show asStr (tyN M d) _ = _
  rw [h]
  show asBo (kitBs t ns) _ = _
  rw [h3]; rfl
theorem kbs_t : kitBs "tuple" ["tuple", "list"] = some true := by decide +kernel
theorem kbs_n : kitBs "NoneType" ["tuple", "list"] = some false := by decide +kernel
theorem kbs_i : kitBs "int" ["tuple", "list"] = some false := by decide +kernel
theorem kb_tt2 : kitB "tuple" "tuple" = some true := by decide +kernel
theorem kb_tl2 : kitB "tuple" "list" = some false := by decide +kernel
theorem kb_is2 : kitB "int" "str" = some false := by decide +kernel
theorem eqD_bb {b : Bool} : eqD (.bl b) (.bl b) = true := by
  simp only [eqD, pdOf, PyData.eqv]
  cases b <;> rfl
theorem same_ed {ss : Sp3} : SameOn (spOf 2 3 (lsameR ss)) (fun d => ∃ e : Ed, d = oD e) := by
  rintro d Q E ⟨e, rfl⟩ q
  refine ⟨rfl, ?_⟩
  show lsameR ss E _ [some (oD e), some (oD e), none] M0
  unfold lsameR
  rw [st_seq, st_if]
  cases e with
  | none =>
    simp only [ex_c, ex_var, ex_op, ex_un, ex_b, ex_and, ex_or, ex_not, ex_andV, ex_orV, ex_notV, ex_if, ex_chain, ex_nil, ex_cons, ex_tup, ex_lst, ex_call, ex_callP, ex_cb, ex_bm, ex_rep, ex_sl, ex_noPart, ex_part, ex_yes, it_items, it_rng1, it_rng2, tg_name, tg_sub, tg_tup, tg_cons, tg_nil, gs_0, gs_s, ss_0, ss_s, op_ii, op_ss, op_tt, op_mm, op_sb, op_ng, op_iNf, op_iNt, op_lle, op_ixT, op_ixR, op_ixL, op_putE, op_appE, it_tupE, it_rolE, it_refE, lstOf_l, exL, asS_some, asI_int, asB_bl, asL_some, asN_some, ite3_t, ite3_f, bl_1, bl_lenT, bl_lenR, bl_lenL, bl_lenS, bl_tuple, bl_list, bl_abs, bl_intI, bl_intB, bl_max, bl_min, op_eqSf, op_eqSt, op_eqIf, op_eqIt, op_eqTf, op_eqTt, op_eqRf, op_eqRt, op_eqNf, op_eqNt, eqD_int, eqD_nil, pl_int, pl_nil, pl_non, pl_rnil, pl_bl, sl_tupE, sl_rolE, keep_ref, keep_tup, keep_rol, tp_int, tp_tup, tp_rol, tp_str, tp_bl, tp_non, tp_ref, oFd, oMd, oPw, oShl, oLt, oLe, oGt, oGe, op_in, op_cp, wipe_nil, wipe_cons, mset_same, true_and, and_true, isN_int, ex_lstF, ex_repF, ex_lgF1, ex_lgF2, ex_tupRg1, ex_tupRg2, ex_frz, ex_slF, ex_slM, sl_tupF, sl_rolF, op_iiF, op_ssF, op_ttF, op_rrF, op_rrM, op_mmF, op_repF, li_rol, li_ref, bl_listF, bl_allF, bl_anyF, asT_some, asJ_some, op_eqBf, op_eqBt, isN_non, Bool.not_true, Bool.not_false, rep2, oD]
    refine ⟨by decide, ?_⟩
    rw [isiT_is rfl rfl kbs_n]
    (try simp only [ex_c, ex_var, ex_op, ex_un, ex_b, ex_and, ex_or, ex_not, ex_andV, ex_orV, ex_notV, ex_if, ex_chain, ex_nil, ex_cons, ex_tup, ex_lst, ex_call, ex_callP, ex_cb, ex_bm, ex_rep, ex_sl, ex_noPart, ex_part, ex_yes, it_items, it_rng1, it_rng2, tg_name, tg_sub, tg_tup, tg_cons, tg_nil, gs_0, gs_s, ss_0, ss_s, op_ii, op_ss, op_tt, op_mm, op_sb, op_ng, op_iNf, op_iNt, op_lle, op_ixT, op_ixR, op_ixL, op_putE, op_appE, it_tupE, it_rolE, it_refE, lstOf_l, exL, asS_some, asI_int, asB_bl, asL_some, asN_some, ite3_t, ite3_f, bl_1, bl_lenT, bl_lenR, bl_lenL, bl_lenS, bl_tuple, bl_list, bl_abs, bl_intI, bl_intB, bl_max, bl_min, op_eqSf, op_eqSt, op_eqIf, op_eqIt, op_eqTf, op_eqTt, op_eqRf, op_eqRt, op_eqNf, op_eqNt, eqD_int, eqD_nil, pl_int, pl_nil, pl_non, pl_rnil, pl_bl, sl_tupE, sl_rolE, keep_ref, keep_tup, keep_rol, tp_int, tp_tup, tp_rol, tp_str, tp_bl, tp_non, tp_ref, oFd, oMd, oPw, oShl, oLt, oLe, oGt, oGe, op_in, op_cp, wipe_nil, wipe_cons, mset_same, true_and, and_true, isN_int, ex_lstF, ex_repF, ex_lgF1, ex_lgF2, ex_tupRg1, ex_tupRg2, ex_frz, ex_slF, ex_slM, sl_tupF, sl_rolF, op_iiF, op_ssF, op_ttF, op_rrF, op_rrM, op_mmF, op_repF, li_rol, li_ref, bl_listF, bl_allF, bl_anyF, asT_some, asJ_some, op_eqBf, op_eqBt, isN_non, Bool.not_true, Bool.not_false, rep2])
    rw [st_next]
    try dsimp only
    rw [st_seq, st_if]
    simp only [ex_c, ex_var, ex_op, ex_un, ex_b, ex_and, ex_or, ex_not, ex_andV, ex_orV, ex_notV, ex_if, ex_chain, ex_nil, ex_cons, ex_tup, ex_lst, ex_call, ex_callP, ex_cb, ex_bm, ex_rep, ex_sl, ex_noPart, ex_part, ex_yes, it_items, it_rng1, it_rng2, tg_name, tg_sub, tg_tup, tg_cons, tg_nil, gs_0, gs_s, ss_0, ss_s, op_ii, op_ss, op_tt, op_mm, op_sb, op_ng, op_iNf, op_iNt, op_lle, op_ixT, op_ixR, op_ixL, op_putE, op_appE, it_tupE, it_rolE, it_refE, lstOf_l, exL, asS_some, asI_int, asB_bl, asL_some, asN_some, ite3_t, ite3_f, bl_1, bl_lenT, bl_lenR, bl_lenL, bl_lenS, bl_tuple, bl_list, bl_abs, bl_intI, bl_intB, bl_max, bl_min, op_eqSf, op_eqSt, op_eqIf, op_eqIt, op_eqTf, op_eqTt, op_eqRf, op_eqRt, op_eqNf, op_eqNt, eqD_int, eqD_nil, pl_int, pl_nil, pl_non, pl_rnil, pl_bl, sl_tupE, sl_rolE, keep_ref, keep_tup, keep_rol, tp_int, tp_tup, tp_rol, tp_str, tp_bl, tp_non, tp_ref, oFd, oMd, oPw, oShl, oLt, oLe, oGt, oGe, op_in, op_cp, wipe_nil, wipe_cons, mset_same, true_and, and_true, isN_int, ex_lstF, ex_repF, ex_lgF1, ex_lgF2, ex_tupRg1, ex_tupRg2, ex_frz, ex_slF, ex_slM, sl_tupF, sl_rolF, op_iiF, op_ssF, op_ttF, op_rrF, op_rrM, op_mmF, op_repF, li_rol, li_ref, bl_listF, bl_allF, bl_anyF, asT_some, asJ_some, op_eqBf, op_eqBt, isN_non, Bool.not_true, Bool.not_false, rep2]
    rw [st_ret]
    simp only [ex_c, ex_var, ex_op, ex_un, ex_b, ex_and, ex_or, ex_not, ex_andV, ex_orV, ex_notV, ex_if, ex_chain, ex_nil, ex_cons, ex_tup, ex_lst, ex_call, ex_callP, ex_cb, ex_bm, ex_rep, ex_sl, ex_noPart, ex_part, ex_yes, it_items, it_rng1, it_rng2, tg_name, tg_sub, tg_tup, tg_cons, tg_nil, gs_0, gs_s, ss_0, ss_s, op_ii, op_ss, op_tt, op_mm, op_sb, op_ng, op_iNf, op_iNt, op_lle, op_ixT, op_ixR, op_ixL, op_putE, op_appE, it_tupE, it_rolE, it_refE, lstOf_l, exL, asS_some, asI_int, asB_bl, asL_some, asN_some, ite3_t, ite3_f, bl_1, bl_lenT, bl_lenR, bl_lenL, bl_lenS, bl_tuple, bl_list, bl_abs, bl_intI, bl_intB, bl_max, bl_min, op_eqSf, op_eqSt, op_eqIf, op_eqIt, op_eqTf, op_eqTt, op_eqRf, op_eqRt, op_eqNf, op_eqNt, eqD_int, eqD_nil, pl_int, pl_nil, pl_non, pl_rnil, pl_bl, sl_tupE, sl_rolE, keep_ref, keep_tup, keep_rol, tp_int, tp_tup, tp_rol, tp_str, tp_bl, tp_non, tp_ref, oFd, oMd, oPw, oShl, oLt, oLe, oGt, oGe, op_in, op_cp, wipe_nil, wipe_cons, mset_same, true_and, and_true, isN_int, ex_lstF, ex_repF, ex_lgF1, ex_lgF2, ex_tupRg1, ex_tupRg2, ex_frz, ex_slF, ex_slM, sl_tupF, sl_rolF, op_iiF, op_ssF, op_ttF, op_rrF, op_rrM, op_mmF, op_repF, li_rol, li_ref, bl_listF, bl_allF, bl_anyF, asT_some, asJ_some, op_eqBf, op_eqBt, isN_non, Bool.not_true, Bool.not_false, rep2]
    exact q _
  | some i =>
    simp only [ex_c, ex_var, ex_op, ex_un, ex_b, ex_and, ex_or, ex_not, ex_andV, ex_orV, ex_notV, ex_if, ex_chain, ex_nil, ex_cons, ex_tup, ex_lst, ex_call, ex_callP, ex_cb, ex_bm, ex_rep, ex_sl, ex_noPart, ex_part, ex_yes, it_items, it_rng1, it_rng2, tg_name, tg_sub, tg_tup, tg_cons, tg_nil, gs_0, gs_s, ss_0, ss_s, op_ii, op_ss, op_tt, op_mm, op_sb, op_ng, op_iNf, op_iNt, op_lle, op_ixT, op_ixR, op_ixL, op_putE, op_appE, it_tupE, it_rolE, it_refE, lstOf_l, exL, asS_some, asI_int, asB_bl, asL_some, asN_some, ite3_t, ite3_f, bl_1, bl_lenT, bl_lenR, bl_lenL, bl_lenS, bl_tuple, bl_list, bl_abs, bl_intI, bl_intB, bl_max, bl_min, op_eqSf, op_eqSt, op_eqIf, op_eqIt, op_eqTf, op_eqTt, op_eqRf, op_eqRt, op_eqNf, op_eqNt, eqD_int, eqD_nil, pl_int, pl_nil, pl_non, pl_rnil, pl_bl, sl_tupE, sl_rolE, keep_ref, keep_tup, keep_rol, tp_int, tp_tup, tp_rol, tp_str, tp_bl, tp_non, tp_ref, oFd, oMd, oPw, oShl, oLt, oLe, oGt, oGe, op_in, op_cp, wipe_nil, wipe_cons, mset_same, true_and, and_true, isN_int, ex_lstF, ex_repF, ex_lgF1, ex_lgF2, ex_tupRg1, ex_tupRg2, ex_frz, ex_slF, ex_slM, sl_tupF, sl_rolF, op_iiF, op_ssF, op_ttF, op_rrF, op_rrM, op_mmF, op_repF, li_rol, li_ref, bl_listF, bl_allF, bl_anyF, asT_some, asJ_some, op_eqBf, op_eqBt, isN_non, Bool.not_true, Bool.not_false, rep2, oD]
    refine ⟨by decide, ?_⟩
    rw [isiT_is rfl rfl kbs_i]
    (try simp only [ex_c, ex_var, ex_op, ex_un, ex_b, ex_and, ex_or, ex_not, ex_andV, ex_orV, ex_notV, ex_if, ex_chain, ex_nil, ex_cons, ex_tup, ex_lst, ex_call, ex_callP, ex_cb, ex_bm, ex_rep, ex_sl, ex_noPart, ex_part, ex_yes, it_items, it_rng1, it_rng2, tg_name, tg_sub, tg_tup, tg_cons, tg_nil, gs_0, gs_s, ss_0, ss_s, op_ii, op_ss, op_tt, op_mm, op_sb, op_ng, op_iNf, op_iNt, op_lle, op_ixT, op_ixR, op_ixL, op_putE, op_appE, it_tupE, it_rolE, it_refE, lstOf_l, exL, asS_some, asI_int, asB_bl, asL_some, asN_some, ite3_t, ite3_f, bl_1, bl_lenT, bl_lenR, bl_lenL, bl_lenS, bl_tuple, bl_list, bl_abs, bl_intI, bl_intB, bl_max, bl_min, op_eqSf, op_eqSt, op_eqIf, op_eqIt, op_eqTf, op_eqTt, op_eqRf, op_eqRt, op_eqNf, op_eqNt, eqD_int, eqD_nil, pl_int, pl_nil, pl_non, pl_rnil, pl_bl, sl_tupE, sl_rolE, keep_ref, keep_tup, keep_rol, tp_int, tp_tup, tp_rol, tp_str, tp_bl, tp_non, tp_ref, oFd, oMd, oPw, oShl, oLt, oLe, oGt, oGe, op_in, op_cp, wipe_nil, wipe_cons, mset_same, true_and, and_true, isN_int, ex_lstF, ex_repF, ex_lgF1, ex_lgF2, ex_tupRg1, ex_tupRg2, ex_frz, ex_slF, ex_slM, sl_tupF, sl_rolF, op_iiF, op_ssF, op_ttF, op_rrF, op_rrM, op_mmF, op_repF, li_rol, li_ref, bl_listF, bl_allF, bl_anyF, asT_some, asJ_some, op_eqBf, op_eqBt, isN_non, Bool.not_true, Bool.not_false, rep2])
    rw [st_next]
    try dsimp only
    rw [st_seq, st_if]
    simp only [ex_c, ex_var, ex_op, ex_un, ex_b, ex_and, ex_or, ex_not, ex_andV, ex_orV, ex_notV, ex_if, ex_chain, ex_nil, ex_cons, ex_tup, ex_lst, ex_call, ex_callP, ex_cb, ex_bm, ex_rep, ex_sl, ex_noPart, ex_part, ex_yes, it_items, it_rng1, it_rng2, tg_name, tg_sub, tg_tup, tg_cons, tg_nil, gs_0, gs_s, ss_0, ss_s, op_ii, op_ss, op_tt, op_mm, op_sb, op_ng, op_iNf, op_iNt, op_lle, op_ixT, op_ixR, op_ixL, op_putE, op_appE, it_tupE, it_rolE, it_refE, lstOf_l, exL, asS_some, asI_int, asB_bl, asL_some, asN_some, ite3_t, ite3_f, bl_1, bl_lenT, bl_lenR, bl_lenL, bl_lenS, bl_tuple, bl_list, bl_abs, bl_intI, bl_intB, bl_max, bl_min, op_eqSf, op_eqSt, op_eqIf, op_eqIt, op_eqTf, op_eqTt, op_eqRf, op_eqRt, op_eqNf, op_eqNt, eqD_int, eqD_nil, pl_int, pl_nil, pl_non, pl_rnil, pl_bl, sl_tupE, sl_rolE, keep_ref, keep_tup, keep_rol, tp_int, tp_tup, tp_rol, tp_str, tp_bl, tp_non, tp_ref, oFd, oMd, oPw, oShl, oLt, oLe, oGt, oGe, op_in, op_cp, wipe_nil, wipe_cons, mset_same, true_and, and_true, isN_int, ex_lstF, ex_repF, ex_lgF1, ex_lgF2, ex_tupRg1, ex_tupRg2, ex_frz, ex_slF, ex_slM, sl_tupF, sl_rolF, op_iiF, op_ssF, op_ttF, op_rrF, op_rrM, op_mmF, op_repF, li_rol, li_ref, bl_listF, bl_allF, bl_anyF, asT_some, asJ_some, op_eqBf, op_eqBt, isN_non, Bool.not_true, Bool.not_false, rep2]
    rw [st_next]
    try dsimp only
    rw [st_seq, st_if]
    simp only [ex_c, ex_var, ex_op, ex_un, ex_b, ex_and, ex_or, ex_not, ex_andV, ex_orV, ex_notV, ex_if, ex_chain, ex_nil, ex_cons, ex_tup, ex_lst, ex_call, ex_callP, ex_cb, ex_bm, ex_rep, ex_sl, ex_noPart, ex_part, ex_yes, it_items, it_rng1, it_rng2, tg_name, tg_sub, tg_tup, tg_cons, tg_nil, gs_0, gs_s, ss_0, ss_s, op_ii, op_ss, op_tt, op_mm, op_sb, op_ng, op_iNf, op_iNt, op_lle, op_ixT, op_ixR, op_ixL, op_putE, op_appE, it_tupE, it_rolE, it_refE, lstOf_l, exL, asS_some, asI_int, asB_bl, asL_some, asN_some, ite3_t, ite3_f, bl_1, bl_lenT, bl_lenR, bl_lenL, bl_lenS, bl_tuple, bl_list, bl_abs, bl_intI, bl_intB, bl_max, bl_min, op_eqSf, op_eqSt, op_eqIf, op_eqIt, op_eqTf, op_eqTt, op_eqRf, op_eqRt, op_eqNf, op_eqNt, eqD_int, eqD_nil, pl_int, pl_nil, pl_non, pl_rnil, pl_bl, sl_tupE, sl_rolE, keep_ref, keep_tup, keep_rol, tp_int, tp_tup, tp_rol, tp_str, tp_bl, tp_non, tp_ref, oFd, oMd, oPw, oShl, oLt, oLe, oGt, oGe, op_in, op_cp, wipe_nil, wipe_cons, mset_same, true_and, and_true, isN_int, ex_lstF, ex_repF, ex_lgF1, ex_lgF2, ex_tupRg1, ex_tupRg2, ex_frz, ex_slF, ex_slM, sl_tupF, sl_rolF, op_iiF, op_ssF, op_ttF, op_rrF, op_rrM, op_mmF, op_repF, li_rol, li_ref, bl_listF, bl_allF, bl_anyF, asT_some, asJ_some, op_eqBf, op_eqBt, isN_non, Bool.not_true, Bool.not_false, rep2, isi_I kb_is2]
    rw [st_next]
    try dsimp only
    rw [st_ret]
    simp only [ex_c, ex_var, ex_op, ex_un, ex_b, ex_and, ex_or, ex_not, ex_andV, ex_orV, ex_notV, ex_if, ex_chain, ex_nil, ex_cons, ex_tup, ex_lst, ex_call, ex_callP, ex_cb, ex_bm, ex_rep, ex_sl, ex_noPart, ex_part, ex_yes, it_items, it_rng1, it_rng2, tg_name, tg_sub, tg_tup, tg_cons, tg_nil, gs_0, gs_s, ss_0, ss_s, op_ii, op_ss, op_tt, op_mm, op_sb, op_ng, op_iNf, op_iNt, op_lle, op_ixT, op_ixR, op_ixL, op_putE, op_appE, it_tupE, it_rolE, it_refE, lstOf_l, exL, asS_some, asI_int, asB_bl, asL_some, asN_some, ite3_t, ite3_f, bl_1, bl_lenT, bl_lenR, bl_lenL, bl_lenS, bl_tuple, bl_list, bl_abs, bl_intI, bl_intB, bl_max, bl_min, op_eqSf, op_eqSt, op_eqIf, op_eqIt, op_eqTf, op_eqTt, op_eqRf, op_eqRt, op_eqNf, op_eqNt, eqD_int, eqD_nil, pl_int, pl_nil, pl_non, pl_rnil, pl_bl, sl_tupE, sl_rolE, keep_ref, keep_tup, keep_rol, tp_int, tp_tup, tp_rol, tp_str, tp_bl, tp_non, tp_ref, oFd, oMd, oPw, oShl, oLt, oLe, oGt, oGe, op_in, op_cp, wipe_nil, wipe_cons, mset_same, true_and, and_true, isN_int, ex_lstF, ex_repF, ex_lgF1, ex_lgF2, ex_tupRg1, ex_tupRg2, ex_frz, ex_slF, ex_slM, sl_tupF, sl_rolF, op_iiF, op_ssF, op_ttF, op_rrF, op_rrM, op_mmF, op_repF, li_rol, li_ref, bl_listF, bl_allF, bl_anyF, asT_some, asJ_some, op_eqBf, op_eqBt, isN_non, Bool.not_true, Bool.not_false, rep2, isi_I kb_ii, isi_I kb_ib, eqD_bb, eqD_int, decide_true, pl_bl, pl_int, tp_bl, tp_int]
    exact q _
theorem same_tup {ss : Sp3} {P : D → Prop} (k : SameOn ss P) : SameOn (spOf 2 3 (lsameR ss)) (fun d => ∃ ds : List D, d = .tup ds ∧ ds.length ≤ 1000 ∧ ∀ x ∈ ds, P x) := by
  rintro d Q E ⟨ds, rfl, hl, hP⟩ q
  refine ⟨rfl, ?_⟩
  have big : (1000000 : Nat) ≤ sizeLine := by decide
  show lsameR ss E _ [some (.tup ds), some (.tup ds), none] M0
  unfold lsameR
  rw [st_seq, st_if]
  simp only [ex_c, ex_var, ex_op, ex_un, ex_b, ex_and, ex_or, ex_not, ex_andV, ex_orV, ex_notV, ex_if, ex_chain, ex_nil, ex_cons, ex_tup, ex_lst, ex_call, ex_callP, ex_cb, ex_bm, ex_rep, ex_sl, ex_noPart, ex_part, ex_yes, it_items, it_rng1, it_rng2, tg_name, tg_sub, tg_tup, tg_cons, tg_nil, gs_0, gs_s, ss_0, ss_s, op_ii, op_ss, op_tt, op_mm, op_sb, op_ng, op_iNf, op_iNt, op_lle, op_ixT, op_ixR, op_ixL, op_putE, op_appE, it_tupE, it_rolE, it_refE, lstOf_l, exL, asS_some, asI_int, asB_bl, asL_some, asN_some, ite3_t, ite3_f, bl_1, bl_lenT, bl_lenR, bl_lenL, bl_lenS, bl_tuple, bl_list, bl_abs, bl_intI, bl_intB, bl_max, bl_min, op_eqSf, op_eqSt, op_eqIf, op_eqIt, op_eqTf, op_eqTt, op_eqRf, op_eqRt, op_eqNf, op_eqNt, eqD_int, eqD_nil, pl_int, pl_nil, pl_non, pl_rnil, pl_bl, sl_tupE, sl_rolE, keep_ref, keep_tup, keep_rol, tp_int, tp_tup, tp_rol, tp_str, tp_bl, tp_non, tp_ref, oFd, oMd, oPw, oShl, oLt, oLe, oGt, oGe, op_in, op_cp, wipe_nil, wipe_cons, mset_same, true_and, and_true, isN_int, ex_lstF, ex_repF, ex_lgF1, ex_lgF2, ex_tupRg1, ex_tupRg2, ex_frz, ex_slF, ex_slM, sl_tupF, sl_rolF, op_iiF, op_ssF, op_ttF, op_rrF, op_rrM, op_mmF, op_repF, li_rol, li_ref, bl_listF, bl_allF, bl_anyF, asT_some, asJ_some, op_eqBf, op_eqBt, isN_non, Bool.not_true, Bool.not_false, rep2]
  refine ⟨by show 2 ≤ sizeLine; omega, ?_⟩
  rw [isiT_is rfl rfl kbs_t]
  (try simp only [ex_c, ex_var, ex_op, ex_un, ex_b, ex_and, ex_or, ex_not, ex_andV, ex_orV, ex_notV, ex_if, ex_chain, ex_nil, ex_cons, ex_tup, ex_lst, ex_call, ex_callP, ex_cb, ex_bm, ex_rep, ex_sl, ex_noPart, ex_part, ex_yes, it_items, it_rng1, it_rng2, tg_name, tg_sub, tg_tup, tg_cons, tg_nil, gs_0, gs_s, ss_0, ss_s, op_ii, op_ss, op_tt, op_mm, op_sb, op_ng, op_iNf, op_iNt, op_lle, op_ixT, op_ixR, op_ixL, op_putE, op_appE, it_tupE, it_rolE, it_refE, lstOf_l, exL, asS_some, asI_int, asB_bl, asL_some, asN_some, ite3_t, ite3_f, bl_1, bl_lenT, bl_lenR, bl_lenL, bl_lenS, bl_tuple, bl_list, bl_abs, bl_intI, bl_intB, bl_max, bl_min, op_eqSf, op_eqSt, op_eqIf, op_eqIt, op_eqTf, op_eqTt, op_eqRf, op_eqRt, op_eqNf, op_eqNt, eqD_int, eqD_nil, pl_int, pl_nil, pl_non, pl_rnil, pl_bl, sl_tupE, sl_rolE, keep_ref, keep_tup, keep_rol, tp_int, tp_tup, tp_rol, tp_str, tp_bl, tp_non, tp_ref, oFd, oMd, oPw, oShl, oLt, oLe, oGt, oGe, op_in, op_cp, wipe_nil, wipe_cons, mset_same, true_and, and_true, isN_int, ex_lstF, ex_repF, ex_lgF1, ex_lgF2, ex_tupRg1, ex_tupRg2, ex_frz, ex_slF, ex_slM, sl_tupF, sl_rolF, op_iiF, op_ssF, op_ttF, op_rrF, op_rrM, op_mmF, op_repF, li_rol, li_ref, bl_listF, bl_allF, bl_anyF, asT_some, asJ_some, op_eqBf, op_eqBt, isN_non, Bool.not_true, Bool.not_false, rep2])
  try dsimp only
  rw [st_seq, st_if]
  simp only [ex_c, ex_var, ex_op, ex_un, ex_b, ex_and, ex_or, ex_not, ex_andV, ex_orV, ex_notV, ex_if, ex_chain, ex_nil, ex_cons, ex_tup, ex_lst, ex_call, ex_callP, ex_cb, ex_bm, ex_rep, ex_sl, ex_noPart, ex_part, ex_yes, it_items, it_rng1, it_rng2, tg_name, tg_sub, tg_tup, tg_cons, tg_nil, gs_0, gs_s, ss_0, ss_s, op_ii, op_ss, op_tt, op_mm, op_sb, op_ng, op_iNf, op_iNt, op_lle, op_ixT, op_ixR, op_ixL, op_putE, op_appE, it_tupE, it_rolE, it_refE, lstOf_l, exL, asS_some, asI_int, asB_bl, asL_some, asN_some, ite3_t, ite3_f, bl_1, bl_lenT, bl_lenR, bl_lenL, bl_lenS, bl_tuple, bl_list, bl_abs, bl_intI, bl_intB, bl_max, bl_min, op_eqSf, op_eqSt, op_eqIf, op_eqIt, op_eqTf, op_eqTt, op_eqRf, op_eqRt, op_eqNf, op_eqNt, eqD_int, eqD_nil, pl_int, pl_nil, pl_non, pl_rnil, pl_bl, sl_tupE, sl_rolE, keep_ref, keep_tup, keep_rol, tp_int, tp_tup, tp_rol, tp_str, tp_bl, tp_non, tp_ref, oFd, oMd, oPw, oShl, oLt, oLe, oGt, oGe, op_in, op_cp, wipe_nil, wipe_cons, mset_same, true_and, and_true, isN_int, ex_lstF, ex_repF, ex_lgF1, ex_lgF2, ex_tupRg1, ex_tupRg2, ex_frz, ex_slF, ex_slM, sl_tupF, sl_rolF, op_iiF, op_ssF, op_ttF, op_rrF, op_rrM, op_mmF, op_repF, li_rol, li_ref, bl_listF, bl_allF, bl_anyF, asT_some, asJ_some, op_eqBf, op_eqBt, isN_non, Bool.not_true, Bool.not_false, rep2, isi_T kb_tt2, isi_T kb_tl2, eqD_bb, pl_bl, tp_bl]
  rw [st_next]
  try dsimp only
  rw [st_seq, st_if]
  simp only [ex_c, ex_var, ex_op, ex_un, ex_b, ex_and, ex_or, ex_not, ex_andV, ex_orV, ex_notV, ex_if, ex_chain, ex_nil, ex_cons, ex_tup, ex_lst, ex_call, ex_callP, ex_cb, ex_bm, ex_rep, ex_sl, ex_noPart, ex_part, ex_yes, it_items, it_rng1, it_rng2, tg_name, tg_sub, tg_tup, tg_cons, tg_nil, gs_0, gs_s, ss_0, ss_s, op_ii, op_ss, op_tt, op_mm, op_sb, op_ng, op_iNf, op_iNt, op_lle, op_ixT, op_ixR, op_ixL, op_putE, op_appE, it_tupE, it_rolE, it_refE, lstOf_l, exL, asS_some, asI_int, asB_bl, asL_some, asN_some, ite3_t, ite3_f, bl_1, bl_lenT, bl_lenR, bl_lenL, bl_lenS, bl_tuple, bl_list, bl_abs, bl_intI, bl_intB, bl_max, bl_min, op_eqSf, op_eqSt, op_eqIf, op_eqIt, op_eqTf, op_eqTt, op_eqRf, op_eqRt, op_eqNf, op_eqNt, eqD_int, eqD_nil, pl_int, pl_nil, pl_non, pl_rnil, pl_bl, sl_tupE, sl_rolE, keep_ref, keep_tup, keep_rol, tp_int, tp_tup, tp_rol, tp_str, tp_bl, tp_non, tp_ref, oFd, oMd, oPw, oShl, oLt, oLe, oGt, oGe, op_in, op_cp, wipe_nil, wipe_cons, mset_same, true_and, and_true, isN_int, ex_lstF, ex_repF, ex_lgF1, ex_lgF2, ex_tupRg1, ex_tupRg2, ex_frz, ex_slF, ex_slM, sl_tupF, sl_rolF, op_iiF, op_ssF, op_ttF, op_rrF, op_rrM, op_mmF, op_repF, li_rol, li_ref, bl_listF, bl_allF, bl_anyF, asT_some, asJ_some, op_eqBf, op_eqBt, isN_non, Bool.not_true, Bool.not_false, rep2, eqD_int, decide_true, pl_int, tp_int]
  rw [st_next]
  try dsimp only
  rw [st_ret]
  simp only [ex_c, ex_var, ex_op, ex_un, ex_b, ex_and, ex_or, ex_not, ex_andV, ex_orV, ex_notV, ex_if, ex_chain, ex_nil, ex_cons, ex_tup, ex_lst, ex_call, ex_callP, ex_cb, ex_bm, ex_rep, ex_sl, ex_noPart, ex_part, ex_yes, it_items, it_rng1, it_rng2, tg_name, tg_sub, tg_tup, tg_cons, tg_nil, gs_0, gs_s, ss_0, ss_s, op_ii, op_ss, op_tt, op_mm, op_sb, op_ng, op_iNf, op_iNt, op_lle, op_ixT, op_ixR, op_ixL, op_putE, op_appE, it_tupE, it_rolE, it_refE, lstOf_l, exL, asS_some, asI_int, asB_bl, asL_some, asN_some, ite3_t, ite3_f, bl_1, bl_lenT, bl_lenR, bl_lenL, bl_lenS, bl_tuple, bl_list, bl_abs, bl_intI, bl_intB, bl_max, bl_min, op_eqSf, op_eqSt, op_eqIf, op_eqIt, op_eqTf, op_eqTt, op_eqRf, op_eqRt, op_eqNf, op_eqNt, eqD_int, eqD_nil, pl_int, pl_nil, pl_non, pl_rnil, pl_bl, sl_tupE, sl_rolE, keep_ref, keep_tup, keep_rol, tp_int, tp_tup, tp_rol, tp_str, tp_bl, tp_non, tp_ref, oFd, oMd, oPw, oShl, oLt, oLe, oGt, oGe, op_in, op_cp, wipe_nil, wipe_cons, mset_same, true_and, and_true, isN_int, ex_lstF, ex_repF, ex_lgF1, ex_lgF2, ex_tupRg1, ex_tupRg2, ex_frz, ex_slF, ex_slM, sl_tupF, sl_rolF, op_iiF, op_ssF, op_ttF, op_rrF, op_rrM, op_mmF, op_repF, li_rol, li_ref, bl_listF, bl_allF, bl_anyF, asT_some, asJ_some, op_eqBf, op_eqBt, isN_non, Bool.not_true, Bool.not_false, rep2, ex_lcF]
  refine ⟨by omega, by omega, ?_⟩
  rw [Int.toNat_natCast]
  refine lc_pv (fun i acc M' => acc = [] ∧ M' = M0) ?_ ?_ ⟨rfl, rfl⟩
  · rintro i d acc M' hd ⟨rfl, rfl⟩ X hX
    obtain ⟨hlt, rfl⟩ := rgD_get hd
    refine ⟨True.intro, ?_⟩
    have hat : atI ds (0 + (i : Int)) = some ds[i] := by
      rw [Int.zero_add]; exact atI_nat (List.getElem?_eq_getElem hlt)
    simp only [ex_c, ex_var, ex_op, ex_un, ex_b, ex_and, ex_or, ex_not, ex_andV, ex_orV, ex_notV, ex_if, ex_chain, ex_nil, ex_cons, ex_tup, ex_lst, ex_call, ex_callP, ex_cb, ex_bm, ex_rep, ex_sl, ex_noPart, ex_part, ex_yes, it_items, it_rng1, it_rng2, tg_name, tg_sub, tg_tup, tg_cons, tg_nil, gs_0, gs_s, ss_0, ss_s, op_ii, op_ss, op_tt, op_mm, op_sb, op_ng, op_iNf, op_iNt, op_lle, op_ixT, op_ixR, op_ixL, op_putE, op_appE, it_tupE, it_rolE, it_refE, lstOf_l, exL, asS_some, asI_int, asB_bl, asL_some, asN_some, ite3_t, ite3_f, bl_1, bl_lenT, bl_lenR, bl_lenL, bl_lenS, bl_tuple, bl_list, bl_abs, bl_intI, bl_intB, bl_max, bl_min, op_eqSf, op_eqSt, op_eqIf, op_eqIt, op_eqTf, op_eqTt, op_eqRf, op_eqRt, op_eqNf, op_eqNt, eqD_int, eqD_nil, pl_int, pl_nil, pl_non, pl_rnil, pl_bl, sl_tupE, sl_rolE, keep_ref, keep_tup, keep_rol, tp_int, tp_tup, tp_rol, tp_str, tp_bl, tp_non, tp_ref, oFd, oMd, oPw, oShl, oLt, oLe, oGt, oGe, op_in, op_cp, wipe_nil, wipe_cons, mset_same, true_and, and_true, isN_int, ex_lstF, ex_repF, ex_lgF1, ex_lgF2, ex_tupRg1, ex_tupRg2, ex_frz, ex_slF, ex_slM, sl_tupF, sl_rolF, op_iiF, op_ssF, op_ttF, op_rrF, op_rrM, op_mmF, op_repF, li_rol, li_ref, bl_listF, bl_allF, bl_anyF, asT_some, asJ_some, op_eqBf, op_eqBt, isN_non, Bool.not_true, Bool.not_false, rep2, hat]
    refine k _ _ _ (hP _ (List.getElem_mem hlt)) fun _ => ?_
    (try simp only [ex_c, ex_var, ex_op, ex_un, ex_b, ex_and, ex_or, ex_not, ex_andV, ex_orV, ex_notV, ex_if, ex_chain, ex_nil, ex_cons, ex_tup, ex_lst, ex_call, ex_callP, ex_cb, ex_bm, ex_rep, ex_sl, ex_noPart, ex_part, ex_yes, it_items, it_rng1, it_rng2, tg_name, tg_sub, tg_tup, tg_cons, tg_nil, gs_0, gs_s, ss_0, ss_s, op_ii, op_ss, op_tt, op_mm, op_sb, op_ng, op_iNf, op_iNt, op_lle, op_ixT, op_ixR, op_ixL, op_putE, op_appE, it_tupE, it_rolE, it_refE, lstOf_l, exL, asS_some, asI_int, asB_bl, asL_some, asN_some, ite3_t, ite3_f, bl_1, bl_lenT, bl_lenR, bl_lenL, bl_lenS, bl_tuple, bl_list, bl_abs, bl_intI, bl_intB, bl_max, bl_min, op_eqSf, op_eqSt, op_eqIf, op_eqIt, op_eqTf, op_eqTt, op_eqRf, op_eqRt, op_eqNf, op_eqNt, eqD_int, eqD_nil, pl_int, pl_nil, pl_non, pl_rnil, pl_bl, sl_tupE, sl_rolE, keep_ref, keep_tup, keep_rol, tp_int, tp_tup, tp_rol, tp_str, tp_bl, tp_non, tp_ref, oFd, oMd, oPw, oShl, oLt, oLe, oGt, oGe, op_in, op_cp, wipe_nil, wipe_cons, mset_same, true_and, and_true, isN_int, ex_lstF, ex_repF, ex_lgF1, ex_lgF2, ex_tupRg1, ex_tupRg2, ex_frz, ex_slF, ex_slM, sl_tupF, sl_rolF, op_iiF, op_ssF, op_ttF, op_rrF, op_rrM, op_mmF, op_repF, li_rol, li_ref, bl_listF, bl_allF, bl_anyF, asT_some, asJ_some, op_eqBf, op_eqBt, isN_non, Bool.not_true, Bool.not_false, rep2])
    exact hX _ _ ⟨rfl, rfl⟩
  · rintro acc M' ⟨rfl, rfl⟩
    refine ⟨True.intro, ?_⟩
    simp only [ex_c, ex_var, ex_op, ex_un, ex_b, ex_and, ex_or, ex_not, ex_andV, ex_orV, ex_notV, ex_if, ex_chain, ex_nil, ex_cons, ex_tup, ex_lst, ex_call, ex_callP, ex_cb, ex_bm, ex_rep, ex_sl, ex_noPart, ex_part, ex_yes, it_items, it_rng1, it_rng2, tg_name, tg_sub, tg_tup, tg_cons, tg_nil, gs_0, gs_s, ss_0, ss_s, op_ii, op_ss, op_tt, op_mm, op_sb, op_ng, op_iNf, op_iNt, op_lle, op_ixT, op_ixR, op_ixL, op_putE, op_appE, it_tupE, it_rolE, it_refE, lstOf_l, exL, asS_some, asI_int, asB_bl, asL_some, asN_some, ite3_t, ite3_f, bl_1, bl_lenT, bl_lenR, bl_lenL, bl_lenS, bl_tuple, bl_list, bl_abs, bl_intI, bl_intB, bl_max, bl_min, op_eqSf, op_eqSt, op_eqIf, op_eqIt, op_eqTf, op_eqTt, op_eqRf, op_eqRt, op_eqNf, op_eqNt, eqD_int, eqD_nil, pl_int, pl_nil, pl_non, pl_rnil, pl_bl, sl_tupE, sl_rolE, keep_ref, keep_tup, keep_rol, tp_int, tp_tup, tp_rol, tp_str, tp_bl, tp_non, tp_ref, oFd, oMd, oPw, oShl, oLt, oLe, oGt, oGe, op_in, op_cp, wipe_nil, wipe_cons, mset_same, true_and, and_true, isN_int, ex_lstF, ex_repF, ex_lgF1, ex_lgF2, ex_tupRg1, ex_tupRg2, ex_frz, ex_slF, ex_slM, sl_tupF, sl_rolF, op_iiF, op_ssF, op_ttF, op_rrF, op_rrM, op_mmF, op_repF, li_rol, li_ref, bl_listF, bl_allF, bl_anyF, asT_some, asJ_some, op_eqBf, op_eqBt, isN_non, Bool.not_true, Bool.not_false, rep2, op_eqLf, tp_rol, eqD_rnil, pl_rnil]
    exact ⟨Nat.zero_le _, q _⟩
end L3
set_option Elab.async false
set_option linter.all false
set_option maxRecDepth 100000
set_option maxHeartbeats 4000000
namespace L3
open PySem PySem.Spec PyProof.Rows L2
abbrev sgs (t : Str) : List Nat := t.cps.toList
def isDg (c : Nat) : Bool := decide (48 ≤ c ∧ c ≤ 57)
/-- how many digits stand from a place on -/
def runF (L : List Nat) (a : Nat) : Nat := ((L.drop a).takeWhile isDg).length
/-- where the end that begins at a place ends; the place itself where none begins -/
def begF (L : List Nat) (i : Nat) : Nat := if L[i]? = some 45 then i + 1 else i
def nE (L : List Nat) (i : Nat) : Nat := if L[i]? = some 48 then i + 1 else if L[begF L i]? = some 48 then begF L i else begF L i + runF L (begF L i)
/-- signs that must stand at a place: where they do not, or the place behind them -/
def goS (L : List Nat) : List Nat → Nat → Nat ⊕ Nat
  | [], i => .inr i
  | s :: r, i => if L[i]? = some s then goS L r (i + 1) else .inl i
def sepL (m n : Nat) : List Nat := if n = 0 then [] else if n % m = 0 then [32, 47, 32] else [32]
def strL (l : List Nat) : Str := ⟨l.toArray⟩
/-- what an end's signs tell -/
def partL (l : List Nat) : D := if l = [45] then .non else .int ((PySem.intText? (strL l)).getD 0)
def cutL (L : List Nat) (i j : Nat) : List Nat := (L.drop i).take (j - i)
def scanN (L : List Nat) (m : Nat) : Nat → Nat ⊕ (List D × Nat)
  | 0 => .inr ([], 0)
  | k + 1 => match scanN L m k with
    | .inl e => .inl e
    | .inr (ds, i) => match goS L (sepL m k) i with
      | .inl e => .inl e
      | .inr b => if nE L b = b then .inl b else .inr (ds ++ [partL (cutL L b (nE L b))], nE L b)
def tabOfL (m : Nat) (ds : List D) : D := .tup ((List.range m).map fun p => .tup ((ds.drop (p * m)).take m))
def scanD (L : List Nat) (m : Nat) : Nat ⊕ D := match scanN L m (m * m) with
  | .inl e => .inl e
  | .inr (ds, i) => if i < L.length then .inl i else .inr (tabOfL m ds)
def noneL : List Nat := [110, 111, 110, 101]
def readD (L : List Nat) (m : Nat) : Nat ⊕ D := if L[0]? = some 110 then (match goS L noneL 0 with
  | .inl e => .inl e
  | .inr _ => if 4 < L.length then .inl 4 else .inr (.tup [])) else scanD L m
/-- no run of digits is longer -/
def Rn (k : Nat) (L : List Nat) : Prop := ∀ b, b <:+: L → (∀ c ∈ b, isDg c = true) → b.length ≤ k
theorem takeWhile_all' {p : Nat → Bool} : ∀ {l : List Nat}, ∀ c ∈ l.takeWhile p, p c = true
  | [], c, h => nomatch h
  | x :: r, c, h => by
    rw [List.takeWhile_cons] at h
    cases hx : p x with
    | false => rw [hx] at h; cases h
    | true =>
      rw [hx, if_pos rfl] at h
      rcases List.mem_cons.mp h with rfl | h
      · exact hx
      · exact takeWhile_all' c h
theorem run_le {k : Nat} {L : List Nat} (h : Rn k L) (a : Nat) : runF L a ≤ k := h _ ((List.takeWhile_prefix _).isInfix.trans (List.drop_suffix _ _).isInfix) takeWhile_all'
theorem len_sgs {t : Str} : (sgs t).length = t.length := by unfold sgs; rw [Array.length_toList]; rfl
theorem cut_nat {t : Str} {i j : Nat} : L2.cutS t (some (i : Int)) (some (j : Int)) = strL (cutL (sgs t) i j) := by
  unfold L2.cutS strL cutL
  rw [HT.sIx_nat, HT.sIx_nat]
  have hl : (sgs t).length = t.length := len_sgs
  have e : ((sgs t).drop (min i t.length)).take (min j t.length - min i t.length) = ((sgs t).drop i).take (j - i) := by
    generalize sgs t = L at hl ⊢
    rw [← hl]
    by_cases h : i ≤ L.length
    · rw [Nat.min_eq_left h]
      by_cases h2 : j ≤ L.length
      · rw [Nat.min_eq_left h2]
      · rw [Nat.min_eq_right (by omega), List.take_of_length_le (by rw [List.length_drop]; exact Nat.le_refl _), List.take_of_length_le (by rw [List.length_drop]; omega)]
    · have h' : min i L.length = L.length := Nat.min_eq_right (by omega)
      rw [h', List.drop_eq_nil_of_le (Nat.le_refl _), List.drop_eq_nil_of_le (show L.length ≤ i by omega), List.take_nil, List.take_nil]
  exact congrArg (fun l => (⟨l.toArray⟩ : Str)) e
theorem cut_one {L : List Nat} {i : Nat} : cutL L i (i + 1) = match L[i]? with
    | some c => [c]
    | none => [] := by
  unfold cutL
  rw [Nat.add_sub_cancel_left]
  by_cases h : i < L.length
  · rw [List.getElem?_eq_getElem h, List.drop_eq_getElem_cons h]; rfl
  · rw [List.getElem?_eq_none (by omega), List.drop_eq_nil_of_le (by omega)]; rfl
theorem strL_inj {a b : List Nat} (h : strL a = strL b) : a = b := by
  unfold strL at h
  injection h with h
  have := congrArg Array.toList h
  rwa [List.toList_toArray, List.toList_toArray] at this
theorem cut_sign {t : Str} {i c : Nat} : (L2.cutS t (some (i : Int)) (some ((i : Int) + 1)) = strL [c]) ↔ (sgs t)[i]? = some c := by
  have e : ((i : Int) + 1) = ((i + 1 : Nat) : Int) := by omega
  rw [e, cut_nat, cut_one]
  cases h : (sgs t)[i]? with
  | none => exact ⟨(fun z => by have := strL_inj z; cases this), (fun z => by cases z)⟩
  | some d => exact ⟨fun z => by have := strL_inj z; injection this with this; rw [this], fun z => by injection z with z; rw [z]⟩
theorem s_minus : (("-" : Str)) = strL [45] := by decide +kernel
theorem s_zero : (("0" : Str)) = strL [48] := by decide +kernel
theorem s_blank : ((" " : Str)) = strL [32] := by decide +kernel
theorem s_slash : ((" / " : Str)) = strL [32, 47, 32] := by decide +kernel
theorem s_none : (("none" : Str)) = strL noneL := by decide +kernel
theorem s_digits : sgs ("0123456789" : Str) = [48, 49, 50, 51, 52, 53, 54, 55, 56, 57] := by decide +kernel
theorem in_digits {c : Nat} : (c ∈ sgs ("0123456789" : Str)) ↔ isDg c = true := by
  rw [s_digits]
  unfold isDg
  rw [decide_eq_true_iff]
  simp only [List.mem_cons, List.not_mem_nil, or_false]
  omega
theorem ix_sign {t : Str} {i c : Nat} {M : Mp} {Q : VK3} (h : (sgs t)[i]? = some c) (hl : t.length ≤ sizeLine) (q : Q (.str (strL [c])) M) : oIx (.str t) (.int (i : Int)) M Q := by
  show oIxS t i M Q
  unfold oIxS
  rw [atI_nat h]
  exact ⟨hl, q⟩
end L3
set_option Elab.async false
set_option linter.all false
set_option maxRecDepth 100000
set_option maxHeartbeats 4000000
namespace L3
open PySem PySem.Spec PyProof.Rows L2
theorem stE_aug {i : Nat} {te : TE3} {r : R23} {D1 : Ends3} {τ : St3} {M : Mp} {d : D} (h : getS τ i = some d) : wAug i te r D1 τ M = te τ M fun e M1 => r d e M1 fun v M2 => D1.nx (setS τ i (some v)) M2 := by
  unfold wAug
  rw [h]
theorem stE_raise {n : Str} {fs : List Str} {W3 : St3 → XK3} {t : TA3} {D : Ends3} {τ : St3} {M : Mp} : wRaise n fs W3 t D τ M = t τ M fun ds M1 => ds.length = fs.length ∧ ds.length ≤ 1000 ∧ W3 τ n (fs.zip ds).reverse M1 := rfl
theorem stE_signs {te : TE3} {τ : St3} {M : Mp} {R : List D → (Mp → Prop) → Mp → Prop} : wSigns te τ M R = te τ M fun d M1 => asSt d fun z => R (signsD z) (fun _ => True) M1 := rfl
theorem stE_slS {te : TE3} {tl th : PT3o} {τ : St3} {M : Mp} {Q : VK3} : wSlS te tl th τ M Q = te τ M fun d M1 => tl τ M1 fun lo M2 => th τ M2 fun hi M3 => asSt d fun z => z.length ≤ sizeLine ∧ Q (.str (L2.cutS z lo hi)) M3 := rfl
theorem asSt_s {z : Str} {k : Str → Prop} : asSt (.str z) k = k z := rfl
theorem signs_map {l : List Nat} : signsD (strL l) = l.map fun c => D.str (strL [c]) := by
  unfold signsD strL
  rw [List.toList_toArray]
theorem op_addI {i j : Int} {M : Mp} {Q : VK3} : oAddI (.int i) (.int j) M Q = Q (.int (i + j)) M := rfl
def atF (e : Nat) : List (Str × D) := [(("at" : Str), .int (e : Nat))]
def goneR : XK3 → TS3 := fun E =>
  (wSeq (wFor (wSigns (wVar 2)) (wgName 3) (wSeq (wIfS (wOr (wB (wOp oGe (wVar 1) (wCB bLen (wCons (wVar 0) wNil)))) (wB (wOp (oEq true) (wOp oIx (wVar 0) (wVar 1)) (wVar 3)))) (wRaise ("NoText" : PySem.Str) [("at" : PySem.Str)] (fun _ => E) (wCons (wVar 1) wNil)) wNext)
  (wAug 1 (wC (.int 1)) oAddI)))
  (wRet (wVar 1)))
def SGone (sp : Sp3) : Prop := ∀ (t : Str) (i : Nat) (l : List Nat) (Q : VK3) (E : XK3), t.length ≤ 1000000 → l.length ≤ 100 → (∀ b, goS (sgs t) l i = .inr b → ∀ M, Q (.int (b : Nat)) M) → (∀ e, goS (sgs t) l i = .inl e → ∀ M, E ("NoText" : Str) (atF e) M) → sp [.str t, .int i, .str (strL l)] M0 Q E
theorem s_gone : SGone (spOf 3 4 goneR) := by
  refine fun t i l Q E ht hl q1 q2 => ⟨rfl, ?_⟩
  have big : (1000000 : Nat) ≤ sizeLine := by decide
  show goneR E _ [some (.str t), some (.int i), some (.str (strL l)), none] M0
  unfold goneR
  rw [st_seq, st_for, stE_signs]
  simp only [ex_c, ex_var, ex_op, ex_un, ex_b, ex_and, ex_or, ex_not, ex_andV, ex_orV, ex_notV, ex_if, ex_chain, ex_nil, ex_cons, ex_tup, ex_lst, ex_call, ex_callP, ex_cb, ex_bm, ex_rep, ex_sl, ex_noPart, ex_part, ex_yes, it_items, it_rng1, it_rng2, tg_name, tg_sub, tg_tup, tg_cons, tg_nil, gs_0, gs_s, ss_0, ss_s, op_ii, op_ss, op_tt, op_mm, op_sb, op_ng, op_iNf, op_iNt, op_lle, op_ixT, op_ixR, op_ixL, op_putE, op_appE, it_tupE, it_rolE, it_refE, lstOf_l, exL, asS_some, asI_int, asB_bl, asL_some, asN_some, ite3_t, ite3_f, bl_1, bl_lenT, bl_lenR, bl_lenL, bl_lenS, bl_tuple, bl_list, bl_abs, bl_intI, bl_intB, bl_max, bl_min, op_eqSf, op_eqSt, op_eqIf, op_eqIt, op_eqTf, op_eqTt, op_eqRf, op_eqRt, op_eqNf, op_eqNt, eqD_int, eqD_nil, pl_int, pl_nil, pl_non, pl_rnil, pl_bl, sl_tupE, sl_rolE, keep_ref, keep_tup, keep_rol, tp_int, tp_tup, tp_rol, tp_str, tp_bl, tp_non, tp_ref, oFd, oMd, oPw, oShl, oLt, oLe, oGt, oGe, op_in, op_cp, wipe_nil, wipe_cons, mset_same, true_and, and_true, isN_int, ex_lstF, ex_repF, ex_lgF1, ex_lgF2, ex_tupRg1, ex_tupRg2, ex_frz, ex_slF, ex_slM, sl_tupF, sl_rolF, op_iiF, op_ssF, op_ttF, op_rrF, op_rrM, op_mmF, op_repF, li_rol, li_ref, bl_listF, bl_allF, bl_anyF, asT_some, asJ_some, op_eqBf, op_eqBt, isN_non, Bool.not_true, Bool.not_false, rep2]
  show asSt (.str (strL l)) _
  show forW _ _ _ _ (signsD (strL l)) _ _
  rw [signs_map]
  refine for_of (fun c => D.str (strL [c])) (fun k τ M => k ≤ l.length ∧ M = M0 ∧ goS (sgs t) (l.drop k) (i + k) = goS (sgs t) l i ∧ ∃ x3, τ = [some (.str t), some (.int ((i + k : Nat) : Int)), some (.str (strL l)), x3]) (fun _ _ _ _ => True.intro) ?_ ?_ ⟨Nat.zero_le _, rfl, rfl, _, rfl⟩
  · rintro k x τ M hx ⟨_, rfl, hg, x3, rfl⟩ X hX
    have hk := (List.getElem?_eq_some_iff.mp hx).1
    have ed : l.drop k = x :: l.drop (k + 1) := by
      rw [List.drop_eq_getElem_cons hk]
      congr 1
      exact (List.getElem?_eq_some_iff.mp hx).2
    rw [ed] at hg
    have hg : (if (sgs t)[i + k]? = some x then goS (sgs t) (l.drop (k + 1)) (i + k + 1) else .inl (i + k)) = goS (sgs t) l i := hg
    have no : (sgs t)[i + k]? ≠ some x → wRaise ("NoText" : PySem.Str) [("at" : PySem.Str)] (fun _ => E) (wCons (wVar 1) wNil) { nx := fun τ2 M2 => wAug 1 (wC (.int 1)) oAddI { nx := X, rt := Q, ct := X, bk := fun τ' M' => wRet (wVar 1) { nx := fun x M' => Q D.non M', rt := Q } τ' M' } τ2 M2, rt := Q, ct := X, bk := fun τ' M' => wRet (wVar 1) { nx := fun x M' => Q D.non M', rt := Q } τ' M' } [some (.str t), some (.int ((i + k : Nat) : Int)), some (.str (strL l)), some (.str (strL [x]))] M0 := fun h => by
      rw [if_neg h] at hg
      rw [stE_raise]
      simp only [ex_c, ex_var, ex_op, ex_un, ex_b, ex_and, ex_or, ex_not, ex_andV, ex_orV, ex_notV, ex_if, ex_chain, ex_nil, ex_cons, ex_tup, ex_lst, ex_call, ex_callP, ex_cb, ex_bm, ex_rep, ex_sl, ex_noPart, ex_part, ex_yes, it_items, it_rng1, it_rng2, tg_name, tg_sub, tg_tup, tg_cons, tg_nil, gs_0, gs_s, ss_0, ss_s, op_ii, op_ss, op_tt, op_mm, op_sb, op_ng, op_iNf, op_iNt, op_lle, op_ixT, op_ixR, op_ixL, op_putE, op_appE, it_tupE, it_rolE, it_refE, lstOf_l, exL, asS_some, asI_int, asB_bl, asL_some, asN_some, ite3_t, ite3_f, bl_1, bl_lenT, bl_lenR, bl_lenL, bl_lenS, bl_tuple, bl_list, bl_abs, bl_intI, bl_intB, bl_max, bl_min, op_eqSf, op_eqSt, op_eqIf, op_eqIt, op_eqTf, op_eqTt, op_eqRf, op_eqRt, op_eqNf, op_eqNt, eqD_int, eqD_nil, pl_int, pl_nil, pl_non, pl_rnil, pl_bl, sl_tupE, sl_rolE, keep_ref, keep_tup, keep_rol, tp_int, tp_tup, tp_rol, tp_str, tp_bl, tp_non, tp_ref, oFd, oMd, oPw, oShl, oLt, oLe, oGt, oGe, op_in, op_cp, wipe_nil, wipe_cons, mset_same, true_and, and_true, isN_int, ex_lstF, ex_repF, ex_lgF1, ex_lgF2, ex_tupRg1, ex_tupRg2, ex_frz, ex_slF, ex_slM, sl_tupF, sl_rolF, op_iiF, op_ssF, op_ttF, op_rrF, op_rrM, op_mmF, op_repF, li_rol, li_ref, bl_listF, bl_allF, bl_anyF, asT_some, asJ_some, op_eqBf, op_eqBt, isN_non, Bool.not_true, Bool.not_false, rep2]
      exact ⟨rfl, by show 1 ≤ 1000; decide, q2 _ hg.symm _⟩
    rw [tg_name, st_seq, st_if]
    simp only [ex_c, ex_var, ex_op, ex_un, ex_b, ex_and, ex_or, ex_not, ex_andV, ex_orV, ex_notV, ex_if, ex_chain, ex_nil, ex_cons, ex_tup, ex_lst, ex_call, ex_callP, ex_cb, ex_bm, ex_rep, ex_sl, ex_noPart, ex_part, ex_yes, it_items, it_rng1, it_rng2, tg_name, tg_sub, tg_tup, tg_cons, tg_nil, gs_0, gs_s, ss_0, ss_s, op_ii, op_ss, op_tt, op_mm, op_sb, op_ng, op_iNf, op_iNt, op_lle, op_ixT, op_ixR, op_ixL, op_putE, op_appE, it_tupE, it_rolE, it_refE, lstOf_l, exL, asS_some, asI_int, asB_bl, asL_some, asN_some, ite3_t, ite3_f, bl_1, bl_lenT, bl_lenR, bl_lenL, bl_lenS, bl_tuple, bl_list, bl_abs, bl_intI, bl_intB, bl_max, bl_min, op_eqSf, op_eqSt, op_eqIf, op_eqIt, op_eqTf, op_eqTt, op_eqRf, op_eqRt, op_eqNf, op_eqNt, eqD_int, eqD_nil, pl_int, pl_nil, pl_non, pl_rnil, pl_bl, sl_tupE, sl_rolE, keep_ref, keep_tup, keep_rol, tp_int, tp_tup, tp_rol, tp_str, tp_bl, tp_non, tp_ref, oFd, oMd, oPw, oShl, oLt, oLe, oGt, oGe, op_in, op_cp, wipe_nil, wipe_cons, mset_same, true_and, and_true, isN_int, ex_lstF, ex_repF, ex_lgF1, ex_lgF2, ex_tupRg1, ex_tupRg2, ex_frz, ex_slF, ex_slM, sl_tupF, sl_rolF, op_iiF, op_ssF, op_ttF, op_rrF, op_rrM, op_mmF, op_repF, li_rol, li_ref, bl_listF, bl_allF, bl_anyF, asT_some, asJ_some, op_eqBf, op_eqBt, isN_non, Bool.not_true, Bool.not_false, rep2, bl_lenS]
    cases hc : (sgs t)[i + k]? with
    | none =>
      have hle : t.length ≤ i + k := by rw [← len_sgs]; exact List.getElem?_eq_none_iff.mp hc
      rw [decide_eq_true (show ((t.length : Nat) : Int) ≤ ((i + k : Nat) : Int) by omega), ite3_t]
      exact ⟨by omega, no (by rw [hc]; exact fun z => nomatch z)⟩
    | some c =>
      have hlt : i + k < t.length := by rw [← len_sgs]; exact (List.getElem?_eq_some_iff.mp hc).1
      rw [decide_eq_false (show ¬ ((t.length : Nat) : Int) ≤ ((i + k : Nat) : Int) by omega), ite3_f]
      refine ⟨by omega, ix_sign hc (by omega) ?_⟩
      simp only [ex_c, ex_var, ex_op, ex_un, ex_b, ex_and, ex_or, ex_not, ex_andV, ex_orV, ex_notV, ex_if, ex_chain, ex_nil, ex_cons, ex_tup, ex_lst, ex_call, ex_callP, ex_cb, ex_bm, ex_rep, ex_sl, ex_noPart, ex_part, ex_yes, it_items, it_rng1, it_rng2, tg_name, tg_sub, tg_tup, tg_cons, tg_nil, gs_0, gs_s, ss_0, ss_s, op_ii, op_ss, op_tt, op_mm, op_sb, op_ng, op_iNf, op_iNt, op_lle, op_ixT, op_ixR, op_ixL, op_putE, op_appE, it_tupE, it_rolE, it_refE, lstOf_l, exL, asS_some, asI_int, asB_bl, asL_some, asN_some, ite3_t, ite3_f, bl_1, bl_lenT, bl_lenR, bl_lenL, bl_lenS, bl_tuple, bl_list, bl_abs, bl_intI, bl_intB, bl_max, bl_min, op_eqSf, op_eqSt, op_eqIf, op_eqIt, op_eqTf, op_eqTt, op_eqRf, op_eqRt, op_eqNf, op_eqNt, eqD_int, eqD_nil, pl_int, pl_nil, pl_non, pl_rnil, pl_bl, sl_tupE, sl_rolE, keep_ref, keep_tup, keep_rol, tp_int, tp_tup, tp_rol, tp_str, tp_bl, tp_non, tp_ref, oFd, oMd, oPw, oShl, oLt, oLe, oGt, oGe, op_in, op_cp, wipe_nil, wipe_cons, mset_same, true_and, and_true, isN_int, ex_lstF, ex_repF, ex_lgF1, ex_lgF2, ex_tupRg1, ex_tupRg2, ex_frz, ex_slF, ex_slM, sl_tupF, sl_rolF, op_iiF, op_ssF, op_ttF, op_rrF, op_rrM, op_mmF, op_repF, li_rol, li_ref, bl_listF, bl_allF, bl_anyF, asT_some, asJ_some, op_eqBf, op_eqBt, isN_non, Bool.not_true, Bool.not_false, rep2]
      by_cases hcx : c = x
      · rw [decide_eq_true (show strL [c] = strL [x] by rw [hcx]), Bool.not_true, ite3_f, st_next]
        try dsimp only
        rw [stE_aug (d := .int ((i + k : Nat) : Int)) rfl]
        simp only [ex_c, ex_var, ex_op, ex_un, ex_b, ex_and, ex_or, ex_not, ex_andV, ex_orV, ex_notV, ex_if, ex_chain, ex_nil, ex_cons, ex_tup, ex_lst, ex_call, ex_callP, ex_cb, ex_bm, ex_rep, ex_sl, ex_noPart, ex_part, ex_yes, it_items, it_rng1, it_rng2, tg_name, tg_sub, tg_tup, tg_cons, tg_nil, gs_0, gs_s, ss_0, ss_s, op_ii, op_ss, op_tt, op_mm, op_sb, op_ng, op_iNf, op_iNt, op_lle, op_ixT, op_ixR, op_ixL, op_putE, op_appE, it_tupE, it_rolE, it_refE, lstOf_l, exL, asS_some, asI_int, asB_bl, asL_some, asN_some, ite3_t, ite3_f, bl_1, bl_lenT, bl_lenR, bl_lenL, bl_lenS, bl_tuple, bl_list, bl_abs, bl_intI, bl_intB, bl_max, bl_min, op_eqSf, op_eqSt, op_eqIf, op_eqIt, op_eqTf, op_eqTt, op_eqRf, op_eqRt, op_eqNf, op_eqNt, eqD_int, eqD_nil, pl_int, pl_nil, pl_non, pl_rnil, pl_bl, sl_tupE, sl_rolE, keep_ref, keep_tup, keep_rol, tp_int, tp_tup, tp_rol, tp_str, tp_bl, tp_non, tp_ref, oFd, oMd, oPw, oShl, oLt, oLe, oGt, oGe, op_in, op_cp, wipe_nil, wipe_cons, mset_same, true_and, and_true, isN_int, ex_lstF, ex_repF, ex_lgF1, ex_lgF2, ex_tupRg1, ex_tupRg2, ex_frz, ex_slF, ex_slM, sl_tupF, sl_rolF, op_iiF, op_ssF, op_ttF, op_rrF, op_rrM, op_mmF, op_repF, li_rol, li_ref, bl_listF, bl_allF, bl_anyF, asT_some, asJ_some, op_eqBf, op_eqBt, isN_non, Bool.not_true, Bool.not_false, rep2, op_addI]
        rw [hc, if_pos (by rw [hcx])] at hg
        refine hX _ _ ⟨hk, rfl, by rw [← Nat.add_assoc]; exact hg, some (.str (strL [x])), ?_⟩
        have e : ((i + k : Nat) : Int) + 1 = ((i + (k + 1) : Nat) : Int) := by omega
        rw [e]
      · rw [decide_eq_false (show ¬ strL [c] = strL [x] from fun z => hcx (by have := strL_inj z; injection this)), Bool.not_false, ite3_t]
        exact no (by rw [hc]; exact fun z => hcx (Option.some.inj z))
  · rintro τ M ⟨_, rfl, hg, x3, rfl⟩
    rw [List.drop_length] at hg
    try dsimp only
    rw [st_ret]
    simp only [ex_c, ex_var, ex_op, ex_un, ex_b, ex_and, ex_or, ex_not, ex_andV, ex_orV, ex_notV, ex_if, ex_chain, ex_nil, ex_cons, ex_tup, ex_lst, ex_call, ex_callP, ex_cb, ex_bm, ex_rep, ex_sl, ex_noPart, ex_part, ex_yes, it_items, it_rng1, it_rng2, tg_name, tg_sub, tg_tup, tg_cons, tg_nil, gs_0, gs_s, ss_0, ss_s, op_ii, op_ss, op_tt, op_mm, op_sb, op_ng, op_iNf, op_iNt, op_lle, op_ixT, op_ixR, op_ixL, op_putE, op_appE, it_tupE, it_rolE, it_refE, lstOf_l, exL, asS_some, asI_int, asB_bl, asL_some, asN_some, ite3_t, ite3_f, bl_1, bl_lenT, bl_lenR, bl_lenL, bl_lenS, bl_tuple, bl_list, bl_abs, bl_intI, bl_intB, bl_max, bl_min, op_eqSf, op_eqSt, op_eqIf, op_eqIt, op_eqTf, op_eqTt, op_eqRf, op_eqRt, op_eqNf, op_eqNt, eqD_int, eqD_nil, pl_int, pl_nil, pl_non, pl_rnil, pl_bl, sl_tupE, sl_rolE, keep_ref, keep_tup, keep_rol, tp_int, tp_tup, tp_rol, tp_str, tp_bl, tp_non, tp_ref, oFd, oMd, oPw, oShl, oLt, oLe, oGt, oGe, op_in, op_cp, wipe_nil, wipe_cons, mset_same, true_and, and_true, isN_int, ex_lstF, ex_repF, ex_lgF1, ex_lgF2, ex_tupRg1, ex_tupRg2, ex_frz, ex_slF, ex_slM, sl_tupF, sl_rolF, op_iiF, op_ssF, op_ttF, op_rrF, op_rrM, op_mmF, op_repF, li_rol, li_ref, bl_listF, bl_allF, bl_anyF, asT_some, asJ_some, op_eqBf, op_eqBt, isN_non, Bool.not_true, Bool.not_false, rep2]
    exact q1 _ hg.symm _
theorem run_dg {L : List Nat} {b c : Nat} (h : L[b]? = some c) (hd : isDg c = true) : runF L b = runF L (b + 1) + 1 := by
  unfold runF
  obtain ⟨hb, e⟩ := List.getElem?_eq_some_iff.mp h
  rw [List.drop_eq_getElem_cons hb, e, List.takeWhile_cons, hd, if_pos rfl]; rfl
theorem run_no {L : List Nat} {b : Nat} (h : ∀ c, L[b]? = some c → isDg c = false) : runF L b = 0 := by
  unfold runF
  by_cases hb : b < L.length
  · rw [List.drop_eq_getElem_cons hb, List.takeWhile_cons, h _ (List.getElem?_eq_getElem hb)]; rfl
  · rw [List.drop_eq_nil_of_le (by omega)]; rfl
def endTail (E : XK3) : TS3 :=
  (wSeq (wIfS (wAnd (wB (wOp (oEq false) (wVar 2) (wVar 1))) (wB (wOp (oEq false) (wSlS (wVar 0) (wPart (wVar 1)) (wPart (wOp oAddF (wVar 1) (wC (.int 1))))) (wC (.str ("0" : PySem.Str)))))) (wRet (wOp oAddF (wVar 1) (wC (.int 1)))) wNext)
  (wSeq (wSet 3 (wVar 2))
  (wSeq (wWhile (wAnd (wB (wOp oLt (wVar 3) (wCB bLen (wCons (wVar 0) wNil)))) (wAnd (wB (wOp (oInS false) (wOp oIx (wVar 0) (wVar 3)) (wC (.str ("0123456789" : PySem.Str))))) (wB (wOp (oEq true) (wOp oIx (wVar 0) (wVar 2)) (wC (.str ("0" : PySem.Str))))))) (wAug 3 (wC (.int 1)) oAddI))
  (wSeq (wIfS (wB (wOp (oEq false) (wVar 3) (wVar 1))) (wRaise ("NoText" : PySem.Str) [("at" : PySem.Str)] (fun _ => E) (wCons (wVar 1) wNil)) wNext)
  (wRet (wVar 3))))))
def endBR : XK3 → TS3 := fun E =>
  (wSeq (wSet 2 (wIf (wB (wOp (oEq false) (wSlS (wVar 0) (wPart (wVar 1)) (wPart (wOp oAddF (wVar 1) (wC (.int 1))))) (wC (.str ("-" : PySem.Str))))) (wOp oAddF (wVar 1) (wC (.int 1))) (wVar 1)))
  (endTail E))
def SEndB (sp : Sp3) : Prop := ∀ (t : Str) (i : Nat) (Q : VK3) (E : XK3), t.length ≤ 1000000 → (nE (sgs t) i ≠ i → ∀ M, Q (.int (nE (sgs t) i : Nat)) M) → (nE (sgs t) i = i → ∀ M, E ("NoText" : Str) (atF i) M) → sp [.str t, .int i] M0 Q E
theorem nE_eq {L : List Nat} {i : Nat} (h : L[i]? ≠ some 48) : nE L i = if L[begF L i]? = some 48 then begF L i else begF L i + runF L (begF L i) := by
  unfold nE
  rw [if_neg h]
theorem beg_zero {L : List Nat} {i : Nat} (h : L[i]? = some 48) : begF L i = i := by
  unfold begF
  rw [h, if_neg (by decide)]
theorem sign_eq {t : Str} {i c : Nat} {s : Str} (hs : s = strL [c]) : decide (L2.cutS t (some (i : Int)) (some ((i : Int) + 1)) = s) = decide ((sgs t)[i]? = some c) := by
  rw [hs]
  exact decide_eq_decide.mpr cut_sign
theorem s_endB : SEndB (spOf 2 4 endBR) := by
  refine fun t i Q E ht q1 q2 => ⟨rfl, ?_⟩
  have big : (1000000 : Nat) ≤ sizeLine := by decide
  show endBR E _ [some (.str t), some (.int i), none, none] M0
  unfold endBR
  rw [st_seq, st_set]
  simp only [ex_c, ex_var, ex_op, ex_un, ex_b, ex_and, ex_or, ex_not, ex_andV, ex_orV, ex_notV, ex_if, ex_chain, ex_nil, ex_cons, ex_tup, ex_lst, ex_call, ex_callP, ex_cb, ex_bm, ex_rep, ex_sl, ex_noPart, ex_part, ex_yes, it_items, it_rng1, it_rng2, tg_name, tg_sub, tg_tup, tg_cons, tg_nil, gs_0, gs_s, ss_0, ss_s, op_ii, op_ss, op_tt, op_mm, op_sb, op_ng, op_iNf, op_iNt, op_lle, op_ixT, op_ixR, op_ixL, op_putE, op_appE, it_tupE, it_rolE, it_refE, lstOf_l, exL, asS_some, asI_int, asB_bl, asL_some, asN_some, ite3_t, ite3_f, bl_1, bl_lenT, bl_lenR, bl_lenL, bl_lenS, bl_tuple, bl_list, bl_abs, bl_intI, bl_intB, bl_max, bl_min, op_eqSf, op_eqSt, op_eqIf, op_eqIt, op_eqTf, op_eqTt, op_eqRf, op_eqRt, op_eqNf, op_eqNt, eqD_int, eqD_nil, pl_int, pl_nil, pl_non, pl_rnil, pl_bl, sl_tupE, sl_rolE, keep_ref, keep_tup, keep_rol, tp_int, tp_tup, tp_rol, tp_str, tp_bl, tp_non, tp_ref, oFd, oMd, oPw, oShl, oLt, oLe, oGt, oGe, op_in, op_cp, wipe_nil, wipe_cons, mset_same, true_and, and_true, isN_int, ex_lstF, ex_repF, ex_lgF1, ex_lgF2, ex_tupRg1, ex_tupRg2, ex_frz, ex_slF, ex_slM, sl_tupF, sl_rolF, op_iiF, op_ssF, op_ttF, op_rrF, op_rrM, op_mmF, op_repF, li_rol, li_ref, bl_listF, bl_allF, bl_anyF, asT_some, asJ_some, op_eqBf, op_eqBt, isN_non, Bool.not_true, Bool.not_false, rep2, stE_slS, asSt_s]
  refine ⟨by omega, ?_⟩
  rw [sign_eq s_minus]
  have e1 : (i : Int) + 1 = ((i + 1 : Nat) : Int) := by omega
  have tail : endTail E { nx := fun x M' => Q D.non M', rt := Q } [some (.str t), some (.int i), some (.int (begF (sgs t) i : Nat)), none] M0 := by
    unfold endTail
    have fin : ∀ b : Nat, (nE (sgs t) i = b) → (wSeq (wIfS (wB (wOp (oEq false) (wVar 3) (wVar 1))) (wRaise ("NoText" : PySem.Str) [("at" : PySem.Str)] (fun _ => E) (wCons (wVar 1) wNil)) wNext) (wRet (wVar 3))) { nx := fun x M' => Q D.non M', rt := Q } [some (.str t), some (.int i), some (.int (begF (sgs t) i : Nat)), some (.int (b : Nat))] M0 := fun b hb => by
      rw [st_seq, st_if]
      simp only [ex_c, ex_var, ex_op, ex_un, ex_b, ex_and, ex_or, ex_not, ex_andV, ex_orV, ex_notV, ex_if, ex_chain, ex_nil, ex_cons, ex_tup, ex_lst, ex_call, ex_callP, ex_cb, ex_bm, ex_rep, ex_sl, ex_noPart, ex_part, ex_yes, it_items, it_rng1, it_rng2, tg_name, tg_sub, tg_tup, tg_cons, tg_nil, gs_0, gs_s, ss_0, ss_s, op_ii, op_ss, op_tt, op_mm, op_sb, op_ng, op_iNf, op_iNt, op_lle, op_ixT, op_ixR, op_ixL, op_putE, op_appE, it_tupE, it_rolE, it_refE, lstOf_l, exL, asS_some, asI_int, asB_bl, asL_some, asN_some, ite3_t, ite3_f, bl_1, bl_lenT, bl_lenR, bl_lenL, bl_lenS, bl_tuple, bl_list, bl_abs, bl_intI, bl_intB, bl_max, bl_min, op_eqSf, op_eqSt, op_eqIf, op_eqIt, op_eqTf, op_eqTt, op_eqRf, op_eqRt, op_eqNf, op_eqNt, eqD_int, eqD_nil, pl_int, pl_nil, pl_non, pl_rnil, pl_bl, sl_tupE, sl_rolE, keep_ref, keep_tup, keep_rol, tp_int, tp_tup, tp_rol, tp_str, tp_bl, tp_non, tp_ref, oFd, oMd, oPw, oShl, oLt, oLe, oGt, oGe, op_in, op_cp, wipe_nil, wipe_cons, mset_same, true_and, and_true, isN_int, ex_lstF, ex_repF, ex_lgF1, ex_lgF2, ex_tupRg1, ex_tupRg2, ex_frz, ex_slF, ex_slM, sl_tupF, sl_rolF, op_iiF, op_ssF, op_ttF, op_rrF, op_rrM, op_mmF, op_repF, li_rol, li_ref, bl_listF, bl_allF, bl_anyF, asT_some, asJ_some, op_eqBf, op_eqBt, isN_non, Bool.not_true, Bool.not_false, rep2]
      by_cases hbi : b = i
      · rw [decide_eq_true (show ((b : Nat) : Int) = (i : Int) by omega), ite3_t, stE_raise]
        simp only [ex_c, ex_var, ex_op, ex_un, ex_b, ex_and, ex_or, ex_not, ex_andV, ex_orV, ex_notV, ex_if, ex_chain, ex_nil, ex_cons, ex_tup, ex_lst, ex_call, ex_callP, ex_cb, ex_bm, ex_rep, ex_sl, ex_noPart, ex_part, ex_yes, it_items, it_rng1, it_rng2, tg_name, tg_sub, tg_tup, tg_cons, tg_nil, gs_0, gs_s, ss_0, ss_s, op_ii, op_ss, op_tt, op_mm, op_sb, op_ng, op_iNf, op_iNt, op_lle, op_ixT, op_ixR, op_ixL, op_putE, op_appE, it_tupE, it_rolE, it_refE, lstOf_l, exL, asS_some, asI_int, asB_bl, asL_some, asN_some, ite3_t, ite3_f, bl_1, bl_lenT, bl_lenR, bl_lenL, bl_lenS, bl_tuple, bl_list, bl_abs, bl_intI, bl_intB, bl_max, bl_min, op_eqSf, op_eqSt, op_eqIf, op_eqIt, op_eqTf, op_eqTt, op_eqRf, op_eqRt, op_eqNf, op_eqNt, eqD_int, eqD_nil, pl_int, pl_nil, pl_non, pl_rnil, pl_bl, sl_tupE, sl_rolE, keep_ref, keep_tup, keep_rol, tp_int, tp_tup, tp_rol, tp_str, tp_bl, tp_non, tp_ref, oFd, oMd, oPw, oShl, oLt, oLe, oGt, oGe, op_in, op_cp, wipe_nil, wipe_cons, mset_same, true_and, and_true, isN_int, ex_lstF, ex_repF, ex_lgF1, ex_lgF2, ex_tupRg1, ex_tupRg2, ex_frz, ex_slF, ex_slM, sl_tupF, sl_rolF, op_iiF, op_ssF, op_ttF, op_rrF, op_rrM, op_mmF, op_repF, li_rol, li_ref, bl_listF, bl_allF, bl_anyF, asT_some, asJ_some, op_eqBf, op_eqBt, isN_non, Bool.not_true, Bool.not_false, rep2]
        exact ⟨rfl, by show 1 ≤ 1000; decide, q2 (hb.trans hbi) _⟩
      · rw [decide_eq_false (show ¬ ((b : Nat) : Int) = (i : Int) by omega), ite3_f, st_next]
        try dsimp only
        rw [st_ret]
        simp only [ex_c, ex_var, ex_op, ex_un, ex_b, ex_and, ex_or, ex_not, ex_andV, ex_orV, ex_notV, ex_if, ex_chain, ex_nil, ex_cons, ex_tup, ex_lst, ex_call, ex_callP, ex_cb, ex_bm, ex_rep, ex_sl, ex_noPart, ex_part, ex_yes, it_items, it_rng1, it_rng2, tg_name, tg_sub, tg_tup, tg_cons, tg_nil, gs_0, gs_s, ss_0, ss_s, op_ii, op_ss, op_tt, op_mm, op_sb, op_ng, op_iNf, op_iNt, op_lle, op_ixT, op_ixR, op_ixL, op_putE, op_appE, it_tupE, it_rolE, it_refE, lstOf_l, exL, asS_some, asI_int, asB_bl, asL_some, asN_some, ite3_t, ite3_f, bl_1, bl_lenT, bl_lenR, bl_lenL, bl_lenS, bl_tuple, bl_list, bl_abs, bl_intI, bl_intB, bl_max, bl_min, op_eqSf, op_eqSt, op_eqIf, op_eqIt, op_eqTf, op_eqTt, op_eqRf, op_eqRt, op_eqNf, op_eqNt, eqD_int, eqD_nil, pl_int, pl_nil, pl_non, pl_rnil, pl_bl, sl_tupE, sl_rolE, keep_ref, keep_tup, keep_rol, tp_int, tp_tup, tp_rol, tp_str, tp_bl, tp_non, tp_ref, oFd, oMd, oPw, oShl, oLt, oLe, oGt, oGe, op_in, op_cp, wipe_nil, wipe_cons, mset_same, true_and, and_true, isN_int, ex_lstF, ex_repF, ex_lgF1, ex_lgF2, ex_tupRg1, ex_tupRg2, ex_frz, ex_slF, ex_slM, sl_tupF, sl_rolF, op_iiF, op_ssF, op_ttF, op_rrF, op_rrM, op_mmF, op_repF, li_rol, li_ref, bl_listF, bl_allF, bl_anyF, asT_some, asJ_some, op_eqBf, op_eqBt, isN_non, Bool.not_true, Bool.not_false, rep2]
        have := q1 (by rw [hb]; exact hbi) M0
        rw [hb] at this; exact this
    have two : ∀ τ' , τ' = [some (.str t), some (.int i), some (.int (begF (sgs t) i : Nat)), none] → (sgs t)[i]? ≠ some 48 → (wSeq (wSet 3 (wVar 2)) (wSeq (wWhile (wAnd (wB (wOp oLt (wVar 3) (wCB bLen (wCons (wVar 0) wNil)))) (wAnd (wB (wOp (oInS false) (wOp oIx (wVar 0) (wVar 3)) (wC (.str ("0123456789" : PySem.Str))))) (wB (wOp (oEq true) (wOp oIx (wVar 0) (wVar 2)) (wC (.str ("0" : PySem.Str))))))) (wAug 3 (wC (.int 1)) oAddI)) (wSeq (wIfS (wB (wOp (oEq false) (wVar 3) (wVar 1))) (wRaise ("NoText" : PySem.Str) [("at" : PySem.Str)] (fun _ => E) (wCons (wVar 1) wNil)) wNext) (wRet (wVar 3))))) { nx := fun x M' => Q D.non M', rt := Q } τ' M0 := by
      rintro τ' rfl h48
      rw [st_seq, st_set]
      simp only [ex_c, ex_var, ex_op, ex_un, ex_b, ex_and, ex_or, ex_not, ex_andV, ex_orV, ex_notV, ex_if, ex_chain, ex_nil, ex_cons, ex_tup, ex_lst, ex_call, ex_callP, ex_cb, ex_bm, ex_rep, ex_sl, ex_noPart, ex_part, ex_yes, it_items, it_rng1, it_rng2, tg_name, tg_sub, tg_tup, tg_cons, tg_nil, gs_0, gs_s, ss_0, ss_s, op_ii, op_ss, op_tt, op_mm, op_sb, op_ng, op_iNf, op_iNt, op_lle, op_ixT, op_ixR, op_ixL, op_putE, op_appE, it_tupE, it_rolE, it_refE, lstOf_l, exL, asS_some, asI_int, asB_bl, asL_some, asN_some, ite3_t, ite3_f, bl_1, bl_lenT, bl_lenR, bl_lenL, bl_lenS, bl_tuple, bl_list, bl_abs, bl_intI, bl_intB, bl_max, bl_min, op_eqSf, op_eqSt, op_eqIf, op_eqIt, op_eqTf, op_eqTt, op_eqRf, op_eqRt, op_eqNf, op_eqNt, eqD_int, eqD_nil, pl_int, pl_nil, pl_non, pl_rnil, pl_bl, sl_tupE, sl_rolE, keep_ref, keep_tup, keep_rol, tp_int, tp_tup, tp_rol, tp_str, tp_bl, tp_non, tp_ref, oFd, oMd, oPw, oShl, oLt, oLe, oGt, oGe, op_in, op_cp, wipe_nil, wipe_cons, mset_same, true_and, and_true, isN_int, ex_lstF, ex_repF, ex_lgF1, ex_lgF2, ex_tupRg1, ex_tupRg2, ex_frz, ex_slF, ex_slM, sl_tupF, sl_rolF, op_iiF, op_ssF, op_ttF, op_rrF, op_rrM, op_mmF, op_repF, li_rol, li_ref, bl_listF, bl_allF, bl_anyF, asT_some, asJ_some, op_eqBf, op_eqBt, isN_non, Bool.not_true, Bool.not_false, rep2]
      try dsimp only
      rw [st_seq]
      refine while_pv (fun n τ M => M = M0 ∧ ∃ b : Nat, n = t.length - b ∧ begF (sgs t) i ≤ b ∧ b + runF (sgs t) b = begF (sgs t) i + runF (sgs t) (begF (sgs t) i) ∧ (b = begF (sgs t) i ∨ (sgs t)[begF (sgs t) i]? ≠ some 48) ∧ τ = [some (.str t), some (.int i), some (.int (begF (sgs t) i : Nat)), some (.int (b : Nat))]) ?_ (n := t.length - begF (sgs t) i) ⟨rfl, begF (sgs t) i, rfl, Nat.le_refl _, rfl, .inl rfl, rfl⟩
      rintro n τ M ⟨rfl, b, rfl, hb, hr, h0, rfl⟩ X hX
      have stop0 : runF (sgs t) b = 0 → nE (sgs t) i = b := fun h => by
        rw [nE_eq h48]
        by_cases h8 : (sgs t)[begF (sgs t) i]? = some 48
        · rw [if_pos h8]
          rcases h0 with h0 | h0
          · exact h0.symm
          · exact absurd h8 h0
        · rw [if_neg h8]; omega
      simp only [ex_c, ex_var, ex_op, ex_un, ex_b, ex_and, ex_or, ex_not, ex_andV, ex_orV, ex_notV, ex_if, ex_chain, ex_nil, ex_cons, ex_tup, ex_lst, ex_call, ex_callP, ex_cb, ex_bm, ex_rep, ex_sl, ex_noPart, ex_part, ex_yes, it_items, it_rng1, it_rng2, tg_name, tg_sub, tg_tup, tg_cons, tg_nil, gs_0, gs_s, ss_0, ss_s, op_ii, op_ss, op_tt, op_mm, op_sb, op_ng, op_iNf, op_iNt, op_lle, op_ixT, op_ixR, op_ixL, op_putE, op_appE, it_tupE, it_rolE, it_refE, lstOf_l, exL, asS_some, asI_int, asB_bl, asL_some, asN_some, ite3_t, ite3_f, bl_1, bl_lenT, bl_lenR, bl_lenL, bl_lenS, bl_tuple, bl_list, bl_abs, bl_intI, bl_intB, bl_max, bl_min, op_eqSf, op_eqSt, op_eqIf, op_eqIt, op_eqTf, op_eqTt, op_eqRf, op_eqRt, op_eqNf, op_eqNt, eqD_int, eqD_nil, pl_int, pl_nil, pl_non, pl_rnil, pl_bl, sl_tupE, sl_rolE, keep_ref, keep_tup, keep_rol, tp_int, tp_tup, tp_rol, tp_str, tp_bl, tp_non, tp_ref, oFd, oMd, oPw, oShl, oLt, oLe, oGt, oGe, op_in, op_cp, wipe_nil, wipe_cons, mset_same, true_and, and_true, isN_int, ex_lstF, ex_repF, ex_lgF1, ex_lgF2, ex_tupRg1, ex_tupRg2, ex_frz, ex_slF, ex_slM, sl_tupF, sl_rolF, op_iiF, op_ssF, op_ttF, op_rrF, op_rrM, op_mmF, op_repF, li_rol, li_ref, bl_listF, bl_allF, bl_anyF, asT_some, asJ_some, op_eqBf, op_eqBt, isN_non, Bool.not_true, Bool.not_false, rep2]
      refine ⟨by omega, ?_⟩
      cases hc : (sgs t)[b]? with
      | none =>
        have hle : t.length ≤ b := by rw [← len_sgs]; exact List.getElem?_eq_none_iff.mp hc
        rw [decide_eq_false (show ¬ ((b : Nat) : Int) < ((t.length : Nat) : Int) by omega), ite3_f]
        exact fin b (stop0 (run_no fun c z => by rw [hc] at z; cases z))
      | some c =>
        have hlt : b < t.length := by rw [← len_sgs]; exact (List.getElem?_eq_some_iff.mp hc).1
        rw [decide_eq_true (show ((b : Nat) : Int) < ((t.length : Nat) : Int) by omega), ite3_t]
        refine ix_sign hc (by omega) ?_
        refine ⟨c, rfl, ?_⟩
        show asB (D.bl (decide (c ∈ sgs ("0123456789" : Str)))) _
        rw [asB_bl]
        by_cases hd : isDg c = true
        · rw [decide_eq_true (in_digits.mpr hd), ite3_t]
          obtain ⟨c0, hc0⟩ : ∃ c0, (sgs t)[begF (sgs t) i]? = some c0 := ⟨_, List.getElem?_eq_getElem (by rw [len_sgs]; omega)⟩
          refine ix_sign hc0 (by omega) ?_
          simp only [ex_c, ex_var, ex_op, ex_un, ex_b, ex_and, ex_or, ex_not, ex_andV, ex_orV, ex_notV, ex_if, ex_chain, ex_nil, ex_cons, ex_tup, ex_lst, ex_call, ex_callP, ex_cb, ex_bm, ex_rep, ex_sl, ex_noPart, ex_part, ex_yes, it_items, it_rng1, it_rng2, tg_name, tg_sub, tg_tup, tg_cons, tg_nil, gs_0, gs_s, ss_0, ss_s, op_ii, op_ss, op_tt, op_mm, op_sb, op_ng, op_iNf, op_iNt, op_lle, op_ixT, op_ixR, op_ixL, op_putE, op_appE, it_tupE, it_rolE, it_refE, lstOf_l, exL, asS_some, asI_int, asB_bl, asL_some, asN_some, ite3_t, ite3_f, bl_1, bl_lenT, bl_lenR, bl_lenL, bl_lenS, bl_tuple, bl_list, bl_abs, bl_intI, bl_intB, bl_max, bl_min, op_eqSf, op_eqSt, op_eqIf, op_eqIt, op_eqTf, op_eqTt, op_eqRf, op_eqRt, op_eqNf, op_eqNt, eqD_int, eqD_nil, pl_int, pl_nil, pl_non, pl_rnil, pl_bl, sl_tupE, sl_rolE, keep_ref, keep_tup, keep_rol, tp_int, tp_tup, tp_rol, tp_str, tp_bl, tp_non, tp_ref, oFd, oMd, oPw, oShl, oLt, oLe, oGt, oGe, op_in, op_cp, wipe_nil, wipe_cons, mset_same, true_and, and_true, isN_int, ex_lstF, ex_repF, ex_lgF1, ex_lgF2, ex_tupRg1, ex_tupRg2, ex_frz, ex_slF, ex_slM, sl_tupF, sl_rolF, op_iiF, op_ssF, op_ttF, op_rrF, op_rrM, op_mmF, op_repF, li_rol, li_ref, bl_listF, bl_allF, bl_anyF, asT_some, asJ_some, op_eqBf, op_eqBt, isN_non, Bool.not_true, Bool.not_false, rep2]
          rw [s_zero]
          by_cases h8 : c0 = 48
          · rw [decide_eq_true (show strL [c0] = strL [48] by rw [h8]), Bool.not_true, ite3_f]
            refine fin b ?_
            rw [nE_eq h48, if_pos (by rw [hc0, h8])]
            rcases h0 with h0 | h0
            · exact h0.symm
            · exact absurd (by rw [hc0, h8]) h0
          · rw [decide_eq_false (show ¬ strL [c0] = strL [48] from fun z => h8 (by have := strL_inj z; injection this)), Bool.not_false, ite3_t, stE_aug (d := .int (b : Int)) rfl]
            simp only [ex_c, ex_var, ex_op, ex_un, ex_b, ex_and, ex_or, ex_not, ex_andV, ex_orV, ex_notV, ex_if, ex_chain, ex_nil, ex_cons, ex_tup, ex_lst, ex_call, ex_callP, ex_cb, ex_bm, ex_rep, ex_sl, ex_noPart, ex_part, ex_yes, it_items, it_rng1, it_rng2, tg_name, tg_sub, tg_tup, tg_cons, tg_nil, gs_0, gs_s, ss_0, ss_s, op_ii, op_ss, op_tt, op_mm, op_sb, op_ng, op_iNf, op_iNt, op_lle, op_ixT, op_ixR, op_ixL, op_putE, op_appE, it_tupE, it_rolE, it_refE, lstOf_l, exL, asS_some, asI_int, asB_bl, asL_some, asN_some, ite3_t, ite3_f, bl_1, bl_lenT, bl_lenR, bl_lenL, bl_lenS, bl_tuple, bl_list, bl_abs, bl_intI, bl_intB, bl_max, bl_min, op_eqSf, op_eqSt, op_eqIf, op_eqIt, op_eqTf, op_eqTt, op_eqRf, op_eqRt, op_eqNf, op_eqNt, eqD_int, eqD_nil, pl_int, pl_nil, pl_non, pl_rnil, pl_bl, sl_tupE, sl_rolE, keep_ref, keep_tup, keep_rol, tp_int, tp_tup, tp_rol, tp_str, tp_bl, tp_non, tp_ref, oFd, oMd, oPw, oShl, oLt, oLe, oGt, oGe, op_in, op_cp, wipe_nil, wipe_cons, mset_same, true_and, and_true, isN_int, ex_lstF, ex_repF, ex_lgF1, ex_lgF2, ex_tupRg1, ex_tupRg2, ex_frz, ex_slF, ex_slM, sl_tupF, sl_rolF, op_iiF, op_ssF, op_ttF, op_rrF, op_rrM, op_mmF, op_repF, li_rol, li_ref, bl_listF, bl_allF, bl_anyF, asT_some, asJ_some, op_eqBf, op_eqBt, isN_non, Bool.not_true, Bool.not_false, rep2, op_addI]
            have e2 : ((b : Nat) : Int) + 1 = ((b + 1 : Nat) : Int) := by omega
            rw [e2]
            have hrun := run_dg hc hd
            exact hX (t.length - (b + 1)) _ _ (by omega) ⟨rfl, b + 1, rfl, by omega, by omega, .inr (by rw [hc0]; exact fun z => h8 (Option.some.inj z)), rfl⟩
        · rw [decide_eq_false (fun z => hd (in_digits.mp z)), ite3_f]
          exact fin b (stop0 (run_no fun c' z => by
            rw [hc] at z
            injection z with z
            rw [← z]
            exact Bool.eq_false_iff.mpr hd))
    rw [st_seq, st_if]
    simp only [ex_c, ex_var, ex_op, ex_un, ex_b, ex_and, ex_or, ex_not, ex_andV, ex_orV, ex_notV, ex_if, ex_chain, ex_nil, ex_cons, ex_tup, ex_lst, ex_call, ex_callP, ex_cb, ex_bm, ex_rep, ex_sl, ex_noPart, ex_part, ex_yes, it_items, it_rng1, it_rng2, tg_name, tg_sub, tg_tup, tg_cons, tg_nil, gs_0, gs_s, ss_0, ss_s, op_ii, op_ss, op_tt, op_mm, op_sb, op_ng, op_iNf, op_iNt, op_lle, op_ixT, op_ixR, op_ixL, op_putE, op_appE, it_tupE, it_rolE, it_refE, lstOf_l, exL, asS_some, asI_int, asB_bl, asL_some, asN_some, ite3_t, ite3_f, bl_1, bl_lenT, bl_lenR, bl_lenL, bl_lenS, bl_tuple, bl_list, bl_abs, bl_intI, bl_intB, bl_max, bl_min, op_eqSf, op_eqSt, op_eqIf, op_eqIt, op_eqTf, op_eqTt, op_eqRf, op_eqRt, op_eqNf, op_eqNt, eqD_int, eqD_nil, pl_int, pl_nil, pl_non, pl_rnil, pl_bl, sl_tupE, sl_rolE, keep_ref, keep_tup, keep_rol, tp_int, tp_tup, tp_rol, tp_str, tp_bl, tp_non, tp_ref, oFd, oMd, oPw, oShl, oLt, oLe, oGt, oGe, op_in, op_cp, wipe_nil, wipe_cons, mset_same, true_and, and_true, isN_int, ex_lstF, ex_repF, ex_lgF1, ex_lgF2, ex_tupRg1, ex_tupRg2, ex_frz, ex_slF, ex_slM, sl_tupF, sl_rolF, op_iiF, op_ssF, op_ttF, op_rrF, op_rrM, op_mmF, op_repF, li_rol, li_ref, bl_listF, bl_allF, bl_anyF, asT_some, asJ_some, op_eqBf, op_eqBt, isN_non, Bool.not_true, Bool.not_false, rep2]
    by_cases hbi : begF (sgs t) i = i
    · rw [decide_eq_true (show ((begF (sgs t) i : Nat) : Int) = (i : Int) by omega), ite3_t, stE_slS]
      simp only [ex_c, ex_var, ex_op, ex_un, ex_b, ex_and, ex_or, ex_not, ex_andV, ex_orV, ex_notV, ex_if, ex_chain, ex_nil, ex_cons, ex_tup, ex_lst, ex_call, ex_callP, ex_cb, ex_bm, ex_rep, ex_sl, ex_noPart, ex_part, ex_yes, it_items, it_rng1, it_rng2, tg_name, tg_sub, tg_tup, tg_cons, tg_nil, gs_0, gs_s, ss_0, ss_s, op_ii, op_ss, op_tt, op_mm, op_sb, op_ng, op_iNf, op_iNt, op_lle, op_ixT, op_ixR, op_ixL, op_putE, op_appE, it_tupE, it_rolE, it_refE, lstOf_l, exL, asS_some, asI_int, asB_bl, asL_some, asN_some, ite3_t, ite3_f, bl_1, bl_lenT, bl_lenR, bl_lenL, bl_lenS, bl_tuple, bl_list, bl_abs, bl_intI, bl_intB, bl_max, bl_min, op_eqSf, op_eqSt, op_eqIf, op_eqIt, op_eqTf, op_eqTt, op_eqRf, op_eqRt, op_eqNf, op_eqNt, eqD_int, eqD_nil, pl_int, pl_nil, pl_non, pl_rnil, pl_bl, sl_tupE, sl_rolE, keep_ref, keep_tup, keep_rol, tp_int, tp_tup, tp_rol, tp_str, tp_bl, tp_non, tp_ref, oFd, oMd, oPw, oShl, oLt, oLe, oGt, oGe, op_in, op_cp, wipe_nil, wipe_cons, mset_same, true_and, and_true, isN_int, ex_lstF, ex_repF, ex_lgF1, ex_lgF2, ex_tupRg1, ex_tupRg2, ex_frz, ex_slF, ex_slM, sl_tupF, sl_rolF, op_iiF, op_ssF, op_ttF, op_rrF, op_rrM, op_mmF, op_repF, li_rol, li_ref, bl_listF, bl_allF, bl_anyF, asT_some, asJ_some, op_eqBf, op_eqBt, isN_non, Bool.not_true, Bool.not_false, rep2, asSt_s]
      refine ⟨by omega, ?_⟩
      rw [sign_eq s_zero]
      by_cases h48 : (sgs t)[i]? = some 48
      · rw [decide_eq_true h48, ite3_t, st_ret]
        simp only [ex_c, ex_var, ex_op, ex_un, ex_b, ex_and, ex_or, ex_not, ex_andV, ex_orV, ex_notV, ex_if, ex_chain, ex_nil, ex_cons, ex_tup, ex_lst, ex_call, ex_callP, ex_cb, ex_bm, ex_rep, ex_sl, ex_noPart, ex_part, ex_yes, it_items, it_rng1, it_rng2, tg_name, tg_sub, tg_tup, tg_cons, tg_nil, gs_0, gs_s, ss_0, ss_s, op_ii, op_ss, op_tt, op_mm, op_sb, op_ng, op_iNf, op_iNt, op_lle, op_ixT, op_ixR, op_ixL, op_putE, op_appE, it_tupE, it_rolE, it_refE, lstOf_l, exL, asS_some, asI_int, asB_bl, asL_some, asN_some, ite3_t, ite3_f, bl_1, bl_lenT, bl_lenR, bl_lenL, bl_lenS, bl_tuple, bl_list, bl_abs, bl_intI, bl_intB, bl_max, bl_min, op_eqSf, op_eqSt, op_eqIf, op_eqIt, op_eqTf, op_eqTt, op_eqRf, op_eqRt, op_eqNf, op_eqNt, eqD_int, eqD_nil, pl_int, pl_nil, pl_non, pl_rnil, pl_bl, sl_tupE, sl_rolE, keep_ref, keep_tup, keep_rol, tp_int, tp_tup, tp_rol, tp_str, tp_bl, tp_non, tp_ref, oFd, oMd, oPw, oShl, oLt, oLe, oGt, oGe, op_in, op_cp, wipe_nil, wipe_cons, mset_same, true_and, and_true, isN_int, ex_lstF, ex_repF, ex_lgF1, ex_lgF2, ex_tupRg1, ex_tupRg2, ex_frz, ex_slF, ex_slM, sl_tupF, sl_rolF, op_iiF, op_ssF, op_ttF, op_rrF, op_rrM, op_mmF, op_repF, li_rol, li_ref, bl_listF, bl_allF, bl_anyF, asT_some, asJ_some, op_eqBf, op_eqBt, isN_non, Bool.not_true, Bool.not_false, rep2]
        have e8 : nE (sgs t) i = i + 1 := by unfold nE; rw [if_pos h48]
        have := q1 (by rw [e8]; omega) M0
        rw [e8] at this
        rw [e1]; exact this
      · rw [decide_eq_false h48, ite3_f, st_next]
        exact two _ rfl h48
    · rw [decide_eq_false (show ¬ ((begF (sgs t) i : Nat) : Int) = (i : Int) by omega), ite3_f, st_next]
      refine two _ rfl fun h48 => hbi (beg_zero h48)
  by_cases hm : (sgs t)[i]? = some 45
  · rw [decide_eq_true hm, ite3_t]
    have e : begF (sgs t) i = i + 1 := by unfold begF; rw [if_pos hm]
    rw [e] at tail
    rw [e1]
    exact tail
  · rw [decide_eq_false hm, ite3_f]
    have e : begF (sgs t) i = i := by unfold begF; rw [if_neg hm]
    rw [e] at tail
    exact tail
end L3
set_option Elab.async false
set_option linter.all false
set_option maxRecDepth 100000
set_option maxHeartbeats 4000000
namespace L3
open PySem PySem.Spec PyProof.Rows L2
theorem take_run {L : List Nat} {a : Nat} : (L.drop a).take (runF L a) = (L.drop a).takeWhile isDg := by
  unfold runF
  exact (List.prefix_iff_eq_take.mp (List.takeWhile_prefix _)).symm
/-- what an end's signs are -/
def EndL (l : List Nat) : Prop := l = [45] ∨ (l ≠ [] ∧ ∀ c ∈ l, isDg c = true) ∨ ∃ r, l = 45 :: r ∧ r ≠ [] ∧ ∀ c ∈ r, isDg c = true
theorem cut_end {L : List Nat} {b : Nat} (h : nE L b ≠ b) : EndL (cutL L b (nE L b)) ∧ (cutL L b (nE L b)).length ≤ 1 + max 1 (max (runF L b) (runF L (b + 1))) := by
  by_cases h48 : L[b]? = some 48
  · have e : nE L b = b + 1 := by unfold nE; rw [if_pos h48]
    rw [e, cut_one, h48]
    exact ⟨.inr (.inl ⟨by simp, fun c hc => by rw [List.mem_singleton] at hc; rw [hc]; rfl⟩), by show 1 ≤ _; omega⟩
  · have en := nE_eq h48
    by_cases h45 : L[b]? = some 45
    · have eb : begF L b = b + 1 := by unfold begF; rw [if_pos h45]
      obtain ⟨hb, e45⟩ := List.getElem?_eq_some_iff.mp h45
      rw [eb] at en
      by_cases h8 : L[b + 1]? = some 48
      · rw [if_pos h8] at en
        rw [en, cut_one, h45]
        exact ⟨.inl rfl, by show 1 ≤ _; omega⟩
      · rw [if_neg h8] at en
        rw [en]
        have ec : cutL L b (b + 1 + runF L (b + 1)) = 45 :: (L.drop (b + 1)).takeWhile isDg := by
          unfold cutL
          rw [List.drop_eq_getElem_cons hb, e45]
          have e : b + 1 + runF L (b + 1) - b = runF L (b + 1) + 1 := by omega
          rw [e, List.take_succ_cons, take_run]
        rw [ec]
        refine ⟨?_, by rw [List.length_cons]; show runF L (b + 1) + 1 ≤ _; omega⟩
        by_cases hr : (L.drop (b + 1)).takeWhile isDg = []
        · rw [hr]; exact .inl rfl
        · exact .inr (.inr ⟨_, rfl, hr, takeWhile_all'⟩)
    · have eb : begF L b = b := by unfold begF; rw [if_neg h45]
      rw [eb, if_neg h48] at en
      rw [en]
      have ec : cutL L b (b + runF L b) = (L.drop b).takeWhile isDg := by
        unfold cutL
        rw [Nat.add_sub_cancel_left, take_run]
      rw [ec]
      refine ⟨.inr (.inl ⟨fun z => h ?_, takeWhile_all'⟩), by show runF L b ≤ _; omega⟩
      rw [en]
      unfold runF
      rw [z]; rfl
theorem scan_len {L : List Nat} {m : Nat} : ∀ {k : Nat} {ds : List D} {i : Nat}, scanN L m k = .inr (ds, i) → ds.length = k
  | 0, ds, i, h => by injection h with h; injection h with h _; rw [← h]; rfl
  | k + 1, ds, i, h => by
    unfold scanN at h
    cases e : scanN L m k with
    | inl z => rw [e] at h; cases h
    | inr p =>
      obtain ⟨ds', i'⟩ := p
      rw [e] at h
      dsimp only at h
      cases e2 : goS L (sepL m k) i' with
      | inl z => rw [e2] at h; cases h
      | inr b =>
        rw [e2] at h
        dsimp only at h
        by_cases hn : nE L b = b
        · rw [if_pos hn] at h; cases h
        · rw [if_neg hn] at h
          injection h with h
          injection h with h _
          rw [← h, List.length_append, scan_len e]; rfl
theorem scan_stop {L : List Nat} {m e : Nat} : ∀ {k j : Nat}, scanN L m k = .inl e → scanN L m (k + j) = .inl e
  | k, 0, h => h
  | k, j + 1, h => by
    show scanN L m ((k + j) + 1) = _
    unfold scanN
    rw [scan_stop (j := j) h]
theorem scan_at {L : List Nat} {m e k : Nat} (h : scanN L m k = .inl e) (hk : k ≤ m * m) : scanD L m = .inl e := by
  unfold scanD
  have : scanN L m (m * m) = .inl e := by
    have := scan_stop (j := m * m - k) h
    rwa [Nat.add_sub_cancel' hk] at this
  rw [this]
theorem cut_mid {ds : List D} {m p : Nat} (hl : ds.length = m * m) (hp : p < m) : cutD ds (some ((p * m : Nat) : Int)) (some (((p + 1) * m : Nat) : Int)) = (ds.drop (p * m)).take m := by
  unfold cutD
  have h1 : (p + 1) * m ≤ m * m := Nat.mul_le_mul_right m hp
  have h2 : (p + 1) * m = p * m + m := Nat.succ_mul p m
  rw [HT.sIx_nat, HT.sIx_nat, hl, Nat.min_eq_left (show p * m ≤ m * m by omega), Nat.min_eq_left h1, h2, Nat.add_sub_cancel_left]
/-- the rows of what was found -/
theorem rows_of {ds : List D} {m : Nat} (hm : m ≤ 7) (hl : ds.length = m * m) {l : Addr} {i j : Nat} {lo hi : TE3} {τ : St3} {M : Mp} {Q : VK3} (hM : M l = some (.lst ds)) (h1 : getS τ 1 = some (.int m)) (hj : getS τ i = some (.ref l)) (h6 : j ≠ i ∧ j ≠ 1 ∧ j < τ.length)
    (hlo : ∀ (p : Nat) (K : VK3), K (.int ((p * m : Nat) : Int)) M → lo (setS (wipe3 τ [j]) j (some (.int (0 + (p : Int))))) M K)
    (hhi : ∀ (p : Nat) (K : VK3), K (.int (((p + 1) * m : Nat) : Int)) M → hi (setS (wipe3 τ [j]) j (some (.int (0 + (p : Int))))) M K)
    (q : Q (tabOfL m ds) M) : wCB bTuple (wCons (wLcF (wRng1 (wCons (wVar 1) wNil)) (wgName j) wYes (wCB bTuple (wCons (wSlF (wVar i) (wPart lo) (wPart hi)) wNil)) [j]) wNil) τ M Q := by
  have big : (1000000 : Nat) ≤ sizeLine := by decide
  simp only [ex_cb, ex_cons, ex_lcF, it_rng1, ex_var, h1, asS_some, ex_nil]
  refine ⟨by omega, by omega, ?_⟩
  rw [Int.toNat_natCast]
  refine lc_pv (fun n acc M' => M' = M ∧ n ≤ m ∧ acc = (List.range n).map fun p => D.tup ((ds.drop (p * m)).take m)) ?_ ?_ ⟨rfl, Nat.zero_le _, rfl⟩
  · rintro n d acc M' hd ⟨rfl, hn, rfl⟩ X hX
    obtain ⟨hlt, rfl⟩ := rgD_get hd
    refine ⟨True.intro, ?_⟩
    have gi : getS (setS (wipe3 τ [j]) j (some (.int (0 + (n : Int))))) i = some (.ref l) := by
      rw [getS_set, if_neg (fun z => h6.1 z.1.symm)]
      show getS (setS τ j none) i = _
      rw [getS_set, if_neg (fun z => h6.1 z.1.symm)]
      exact hj
    simp only [tg_name, ex_yes, ite3_t, ex_cb, ex_cons, ex_slF, ex_var, gi, asS_some, ex_nil, ex_part]
    refine hlo n _ ?_
    rw [asI_int]
    refine hhi n _ ?_
    rw [asI_int, sl_refF, hM]
    show (_ : Nat) < sizeLine ∧ X (_ ++ [D.tup (cutD ds (some ((n * m : Nat) : Int)) (some (((n + 1) * m : Nat) : Int)))]) M'
    rw [List.length_map, List.length_range]
    refine ⟨by omega, hX _ _ ⟨rfl, hlt, ?_⟩⟩
    rw [cut_mid hl hlt, List.range_succ, List.map_append]; rfl
  · rintro acc M' ⟨rfl, hn, rfl⟩
    refine ⟨True.intro, ?_⟩
    rw [rgD_len]
    exact q
theorem first_sign {t s : Str} {c : Nat} (hs : s = strL [c]) : decide (L2.cutS t none (some 1) = s) = decide ((sgs t)[0]? = some c) := sign_eq (t := t) (i := 0) hs
theorem go_len {L : List Nat} : ∀ {l : List Nat} {i b : Nat}, goS L l i = .inr b → b = i + l.length ∧ (0 < l.length → b ≤ L.length)
  | [], i, b, h => by injection h with h; exact ⟨h.symm, fun z => absurd z (Nat.lt_irrefl _)⟩
  | s :: r, i, b, h => by
    unfold goS at h
    by_cases hs : L[i]? = some s
    · rw [if_pos hs] at h
      obtain ⟨h1, h2⟩ := go_len h
      have hi := (List.getElem?_eq_some_iff.mp hs).1
      refine ⟨by rw [h1, List.length_cons]; omega, fun _ => ?_⟩
      rcases Nat.eq_zero_or_pos r.length with hz | hz
      · rw [h1, hz]; omega
      · exact h2 hz
    · rw [if_neg hs] at h; cases h
end L3
set_option Elab.async false
set_option linter.all false
set_option maxRecDepth 100000
set_option maxHeartbeats 4000000
namespace L3
open PySem PySem.Spec PyProof.Rows L2
end L3
set_option Elab.async false
set_option linter.all false
set_option maxRecDepth 100000
set_option maxHeartbeats 4000000
namespace L3
open PySem PySem.Spec PyProof.Rows L2
theorem Rn.mono {k j : Nat} {L : List Nat} (h : Rn k L) (hk : k ≤ j) : Rn j L := fun b hb hd => Nat.le_trans (h b hb hd) hk
theorem Rn.inf {k : Nat} {L A : List Nat} (h : Rn k L) (hi : A <:+: L) : Rn k A := fun b hb hd => h b (hb.trans hi) hd
theorem Rn.len (L : List Nat) : Rn L.length L := fun b hb _ => hb.length_le
theorem Rn.nil {k : Nat} : Rn k [] := fun b hb _ => by rw [List.infix_nil.mp hb]; exact Nat.zero_le _
theorem inf_app {b X Y : List Nat} (h : b <:+: X ++ Y) : b <:+: X ∨ b <:+: Y ∨ ∃ t1 t2, b = t1 ++ t2 ∧ t1 <:+ X ∧ t2 <+: Y := by
  obtain ⟨s, t, e⟩ := h
  rw [List.append_assoc] at e
  rcases List.append_eq_append_iff.mp e with ⟨x', e1, e2⟩ | ⟨s', e1, e2⟩
  · rcases List.append_eq_append_iff.mp e2 with ⟨z, e3, e4⟩ | ⟨z, e3, e4⟩
    · exact .inl ⟨s, z, by rw [e1, e3, List.append_assoc]⟩
    · exact .inr (.inr ⟨x', z, e3, ⟨s, e1.symm⟩, ⟨t, e4.symm⟩⟩)
  · exact .inr (.inl ⟨s', t, by rw [e2, List.append_assoc]⟩)
theorem Rn.app {a b : Nat} {X Y : List Nat} (hx : Rn a X) (hy : Rn b Y) : Rn (a + b) (X ++ Y) := fun s hs hd => by
  rcases inf_app hs with h | h | ⟨t1, t2, rfl, h1, h2⟩
  · have := hx s h hd; omega
  · have := hy s h hd; omega
  · have e1 := hx t1 h1.isInfix fun c hc => hd c (List.mem_append.mpr (.inl hc))
    have e2 := hy t2 h2.isInfix fun c hc => hd c (List.mem_append.mpr (.inr hc))
    rw [List.length_append]; omega
theorem Rn.sep {k c : Nat} {X Y : List Nat} (hc : isDg c = false) (hx : Rn k X) (hy : Rn k Y) : Rn k (X ++ c :: Y) := fun s hs hd => by
  have tail : ∀ t, t <+: c :: Y → (∀ z ∈ t, isDg z = true) → t = [] := fun t ht hz => by
    cases t with
    | nil => rfl
    | cons z r =>
      obtain ⟨u, e⟩ := ht
      injection e with e _
      have := hz z (List.mem_cons_self ..)
      rw [e, hc] at this; cases this
  rcases inf_app hs with h | h | ⟨t1, t2, rfl, h1, h2⟩
  · exact hx s h hd
  · rcases List.infix_cons_iff.mp h with h | h
    · rw [tail s h hd]; exact Nat.zero_le _
    · exact hy s h hd
  · have e2 := tail t2 h2 (fun z hz => hd z (List.mem_append.mpr (.inr hz)))
    rw [e2, List.append_nil]
    exact hx t1 h1.isInfix fun z hz => hd z (List.mem_append.mpr (.inl hz))
theorem Rn.pre {k : Nat} {J : List Nat} (h : Rn k J) : ∀ {S : List Nat}, (∀ c ∈ S, isDg c = false) → Rn k (S ++ J)
  | [], _ => h
  | c :: S, hs => Rn.sep (X := []) (hs c (List.mem_cons_self ..)) Rn.nil (h.pre fun z hz => hs z (List.mem_cons_of_mem _ hz))
theorem join_run {k c : Nat} {S : List Nat} (hS : ∀ z ∈ c :: S, isDg z = false) : ∀ {ps : List (List Nat)}, (∀ p ∈ ps, Rn k p) → Rn k (TL.joinL (c :: S) ps)
  | [], _ => Rn.nil
  | [p], h => h p (List.mem_singleton.mpr rfl)
  | p :: q :: r, h => Rn.sep (hS c (List.mem_cons_self ..)) (h p (List.mem_cons_self ..)) ((join_run hS fun z hz => h z (List.mem_cons_of_mem _ hz)).pre fun z hz => hS z (List.mem_cons_of_mem _ hz))
theorem join_len {n : Nat} {S : List Nat} (hS : S.length ≤ 3) : ∀ {ps : List (List Nat)}, (∀ p ∈ ps, p.length ≤ n) → (TL.joinL S ps).length ≤ ps.length * (n + 3)
  | [], _ => Nat.zero_le _
  | [p], h => by
    have := h p (List.mem_singleton.mpr rfl)
    show p.length ≤ 1 * (n + 3); omega
  | p :: q :: r, h => by
    have h1 := h p (List.mem_cons_self ..)
    have h2 := join_len hS (ps := q :: r) fun z hz => h z (List.mem_cons_of_mem _ hz)
    show (p ++ (S ++ TL.joinL S (q :: r))).length ≤ _
    rw [List.length_append, List.length_append, List.length_cons, Nat.succ_mul]
    omega
/-- a text's runs of digits, its length -/
structure Tx (k n : Nat) (t : Str) : Prop where
  run : Rn k (sgs t)
  len : t.length ≤ n
theorem Tx.mono {k n k' n' : Nat} {t : Str} (h : Tx k n t) (hk : k ≤ k') (hn : n ≤ n') : Tx k' n' t := ⟨h.run.mono hk, Nat.le_trans h.len hn⟩
theorem Tx.of {n : Nat} {t : Str} (h : t.length ≤ n) : Tx n n t := ⟨(Rn.len _).mono (by rw [len_sgs]; exact h), h⟩
theorem join_tx {k n c : Nat} {S : List Nat} {y : Str} (hy : sgs y = c :: S) (hS : ∀ z ∈ c :: S, isDg z = false) (hl : S.length ≤ 2) {ps : List Str} (h : ∀ p ∈ ps, Tx k n p) : Tx k (ps.length * (n + 3)) (Txt.join y ps) := by
  have e : sgs (Txt.join y ps) = TL.joinL (c :: S) (ps.map sgs) := by
    rw [TL.join_eq]
    have := TL.tl_join y ps
    rw [← hy]; exact this
  refine ⟨?_, ?_⟩
  · rw [e]
    refine join_run hS fun p hp => ?_
    obtain ⟨z, hz, rfl⟩ := List.mem_map.mp hp
    exact (h z hz).run
  · rw [← len_sgs, e]
    have := join_len (n := n) (S := c :: S) (by rw [List.length_cons]; omega) (ps := ps.map sgs) fun p hp => by
      obtain ⟨z, hz, rfl⟩ := List.mem_map.mp hp
      rw [len_sgs]; exact (h z hz).len
    rwa [List.length_map] at this
theorem sum_le' {n : Nat} : ∀ {ps : List Str}, (∀ p ∈ ps, p.length ≤ n) → (ps.map (·.length)).sum ≤ ps.length * n
  | [], _ => Nat.zero_le _
  | p :: r, h => by
    have h1 := h p (List.mem_cons_self ..)
    have h2 := sum_le' (ps := r) fun z hz => h z (List.mem_cons_of_mem _ hz)
    rw [List.map_cons, List.sum_cons, List.length_cons, Nat.succ_mul]
    omega
def EdK (e : Ed) : Prop := ∀ j : Int, e = some j → j.natAbs < 10 ^ 40
structure TabK (T : Tab) : Prop where
  len : T.length ≤ 7
  row : ∀ r ∈ T, r.length ≤ 7
  ed : ∀ r ∈ T, ∀ e ∈ r, EdK e
def endS : Ed → Str
  | none => ("-" : Str)
  | some i => toString i
theorem strs_map {α : Type} {f : α → Str} : ∀ l : List α, strsD (l.map fun x => D.str (f x)) = some (l.map f)
  | [] => rfl
  | x :: r => by
    show (strsD (r.map _)).map _ = _
    rw [strs_map r]; rfl
theorem stE_join {to tl : TE3} {τ : St3} {M : Mp} {Q : VK3} : wJoin to tl τ M Q = to τ M fun d M1 => asSt d fun a => tl τ M1 fun e M2 => asL (items M2 e) fun ds => asSs (strsD ds) fun ys => (ys.map (·.length)).sum + ys.length * a.length ≤ 16777216 ∧ Q (.str (Txt.join a ys)) M2 := rfl
theorem asSs_some {l : List Str} {k : List Str → Prop} : asSs (some l) k = k l := rfl
theorem asL_some' {l : List D} {k : List D → Prop} : asL (some l) k = k l := rfl
theorem items_rol {M : Mp} {l : List D} : items M (.rol l) = some l := rfl
theorem sg_blank : sgs (" " : Str) = [32] := by decide +kernel
theorem sg_slash : sgs (" / " : Str) = [32, 47, 32] := by decide +kernel
theorem len_blank : ((" " : Str)).length = 1 := by decide +kernel
theorem len_slash : ((" / " : Str)).length = 3 := by decide +kernel
end L3
set_option Elab.async false
set_option linter.all false
set_option maxRecDepth 100000
set_option maxHeartbeats 4000000
namespace L3
open PySem PySem.Spec PyProof.Rows L2
def SEndK (sp : Sp3) : Prop := ∀ (a : Addr) (b : Nat) (M : Mp) (Q : VK3) (E : XK3), Fd b M a → b < 2 ^ 29 → (∀ e M', EdK e → Fd (b + 6) M' a → Only a M M' → Q (oD e) M') → sp [.ref a] M Q E
def endKR (sp__law_draw : Sp3) : XK3 → TS3 := fun E =>
  (wSeq (wSet 1 (wCall sp__law_draw E (wCons (wVar 0) (wCons (wC (.int 6)) wNil))))
  (wSeq (wIfS (wB (wOp oLt (wVar 1) (wC (.int 2)))) (wRet (wC .non)) wNext)
  (wSeq (wIfS (wB (wOp oLt (wVar 1) (wC (.int 5)))) (wRet (wOp oSub (wCall sp__law_draw E (wCons (wVar 0) (wCons (wC (.int 25)) wNil))) (wC (.int 12)))) wNext)
  (wSeq (wSet 2 (wOp oAddF (wOp oMulF (wCall sp__law_draw E (wCons (wVar 0) (wCons (wOp oPw (wC (.int 10)) (wC (.int 19))) wNil))) (wOp oPw (wC (.int 10)) (wC (.int 20)))) (wCall sp__law_draw E (wCons (wVar 0) (wCons (wOp oPw (wC (.int 10)) (wC (.int 19))) wNil)))))
  (wRet (wOp oIx (wLstF (wCons (wVar 2) (wCons (wUn oNeg (wVar 2)) (wCons (wOp oPw (wC (.int 10)) (wC (.int 39))) (wCons (wUn oNeg (wOp oPw (wC (.int 10)) (wC (.int 17)))) wNil))))) (wCall sp__law_draw E (wCons (wVar 0) (wCons (wC (.int 4)) wNil)))))))))
theorem edk {i : Int} (h : -(10 ^ 40) < i) (h1 : i < 10 ^ 40) : EdK (some i) := fun j hj => by cases hj; omega
theorem edk_none : EdK none := fun j hj => nomatch hj
theorem pw_19 : (10 : Int) ^ (19 : Int).toNat = 10000000000000000000 := by decide +kernel
theorem pw_20 : (10 : Int) ^ (20 : Int).toNat = 100000000000000000000 := by decide +kernel
theorem pw_39 : (10 : Int) ^ (39 : Int).toNat = 1000000000000000000000000000000000000000 := by decide +kernel
theorem pw_17 : (10 : Int) ^ (17 : Int).toNat = 100000000000000000 := by decide +kernel
theorem s_endK {sd : Sp3} (kd : SDraw7 sd) : SEndK (spOf 1 3 (endKR sd)) := by
  refine fun a b M Q E f hb q => ⟨rfl, ?_⟩
  have big : (1000000 : Nat) ≤ sizeLine := by decide
  show endKR sd E _ [some (.ref a), none, none] M
  unfold endKR
  rw [st_seq, st_set]
  simp only [ex_c, ex_var, ex_op, ex_un, ex_b, ex_and, ex_or, ex_not, ex_andV, ex_orV, ex_notV, ex_if, ex_chain, ex_nil, ex_cons, ex_tup, ex_lst, ex_call, ex_callP, ex_cb, ex_bm, ex_rep, ex_sl, ex_noPart, ex_part, ex_yes, it_items, it_rng1, it_rng2, tg_name, tg_sub, tg_tup, tg_cons, tg_nil, gs_0, gs_s, ss_0, ss_s, op_ii, op_ss, op_tt, op_mm, op_sb, op_ng, op_iNf, op_iNt, op_lle, op_ixT, op_ixR, op_ixL, op_putE, op_appE, it_tupE, it_rolE, it_refE, lstOf_l, exL, asS_some, asI_int, asB_bl, asL_some, asN_some, ite3_t, ite3_f, bl_1, bl_lenT, bl_lenR, bl_lenL, bl_lenS, bl_tuple, bl_list, bl_abs, bl_intI, bl_intB, bl_max, bl_min, op_eqSf, op_eqSt, op_eqIf, op_eqIt, op_eqTf, op_eqTt, op_eqRf, op_eqRt, op_eqNf, op_eqNt, eqD_int, eqD_nil, pl_int, pl_nil, pl_non, pl_rnil, pl_bl, sl_tupE, sl_rolE, keep_ref, keep_tup, keep_rol, tp_int, tp_tup, tp_rol, tp_str, tp_bl, tp_non, tp_ref, oFd, oMd, oPw, oShl, oLt, oLe, oGt, oGe, op_in, op_cp, wipe_nil, wipe_cons, mset_same, true_and, and_true, isN_int, ex_lstF, ex_repF, ex_lgF1, ex_lgF2, ex_tupRg1, ex_tupRg2, ex_frz, ex_slF, ex_slM, sl_tupF, sl_rolF, op_iiF, op_ssF, op_ttF, op_rrF, op_rrM, op_mmF, op_repF, li_rol, li_ref, bl_listF, bl_allF, bl_anyF, asT_some, asJ_some, op_eqBf, op_eqBt, isN_non, Bool.not_true, Bool.not_false, rep2]
  refine kd _ b _ _ _ _ f (by omega) (by decide) (by decide) fun way M1 r0 r1 f1 o1 => ?_
  try dsimp only
  rw [st_seq, st_if]
  simp only [ex_c, ex_var, ex_op, ex_un, ex_b, ex_and, ex_or, ex_not, ex_andV, ex_orV, ex_notV, ex_if, ex_chain, ex_nil, ex_cons, ex_tup, ex_lst, ex_call, ex_callP, ex_cb, ex_bm, ex_rep, ex_sl, ex_noPart, ex_part, ex_yes, it_items, it_rng1, it_rng2, tg_name, tg_sub, tg_tup, tg_cons, tg_nil, gs_0, gs_s, ss_0, ss_s, op_ii, op_ss, op_tt, op_mm, op_sb, op_ng, op_iNf, op_iNt, op_lle, op_ixT, op_ixR, op_ixL, op_putE, op_appE, it_tupE, it_rolE, it_refE, lstOf_l, exL, asS_some, asI_int, asB_bl, asL_some, asN_some, ite3_t, ite3_f, bl_1, bl_lenT, bl_lenR, bl_lenL, bl_lenS, bl_tuple, bl_list, bl_abs, bl_intI, bl_intB, bl_max, bl_min, op_eqSf, op_eqSt, op_eqIf, op_eqIt, op_eqTf, op_eqTt, op_eqRf, op_eqRt, op_eqNf, op_eqNt, eqD_int, eqD_nil, pl_int, pl_nil, pl_non, pl_rnil, pl_bl, sl_tupE, sl_rolE, keep_ref, keep_tup, keep_rol, tp_int, tp_tup, tp_rol, tp_str, tp_bl, tp_non, tp_ref, oFd, oMd, oPw, oShl, oLt, oLe, oGt, oGe, op_in, op_cp, wipe_nil, wipe_cons, mset_same, true_and, and_true, isN_int, ex_lstF, ex_repF, ex_lgF1, ex_lgF2, ex_tupRg1, ex_tupRg2, ex_frz, ex_slF, ex_slM, sl_tupF, sl_rolF, op_iiF, op_ssF, op_ttF, op_rrF, op_rrM, op_mmF, op_repF, li_rol, li_ref, bl_listF, bl_allF, bl_anyF, asT_some, asJ_some, op_eqBf, op_eqBt, isN_non, Bool.not_true, Bool.not_false, rep2]
  refine ite3_by (fun h => ?_) (fun h => ?_)
  · rw [st_ret]
    simp only [ex_c, ex_var, ex_op, ex_un, ex_b, ex_and, ex_or, ex_not, ex_andV, ex_orV, ex_notV, ex_if, ex_chain, ex_nil, ex_cons, ex_tup, ex_lst, ex_call, ex_callP, ex_cb, ex_bm, ex_rep, ex_sl, ex_noPart, ex_part, ex_yes, it_items, it_rng1, it_rng2, tg_name, tg_sub, tg_tup, tg_cons, tg_nil, gs_0, gs_s, ss_0, ss_s, op_ii, op_ss, op_tt, op_mm, op_sb, op_ng, op_iNf, op_iNt, op_lle, op_ixT, op_ixR, op_ixL, op_putE, op_appE, it_tupE, it_rolE, it_refE, lstOf_l, exL, asS_some, asI_int, asB_bl, asL_some, asN_some, ite3_t, ite3_f, bl_1, bl_lenT, bl_lenR, bl_lenL, bl_lenS, bl_tuple, bl_list, bl_abs, bl_intI, bl_intB, bl_max, bl_min, op_eqSf, op_eqSt, op_eqIf, op_eqIt, op_eqTf, op_eqTt, op_eqRf, op_eqRt, op_eqNf, op_eqNt, eqD_int, eqD_nil, pl_int, pl_nil, pl_non, pl_rnil, pl_bl, sl_tupE, sl_rolE, keep_ref, keep_tup, keep_rol, tp_int, tp_tup, tp_rol, tp_str, tp_bl, tp_non, tp_ref, oFd, oMd, oPw, oShl, oLt, oLe, oGt, oGe, op_in, op_cp, wipe_nil, wipe_cons, mset_same, true_and, and_true, isN_int, ex_lstF, ex_repF, ex_lgF1, ex_lgF2, ex_tupRg1, ex_tupRg2, ex_frz, ex_slF, ex_slM, sl_tupF, sl_rolF, op_iiF, op_ssF, op_ttF, op_rrF, op_rrM, op_mmF, op_repF, li_rol, li_ref, bl_listF, bl_allF, bl_anyF, asT_some, asJ_some, op_eqBf, op_eqBt, isN_non, Bool.not_true, Bool.not_false, rep2]
    exact q none _ edk_none (f1.mono (by omega)) o1
  rw [st_next]
  try dsimp only
  rw [st_seq, st_if]
  simp only [ex_c, ex_var, ex_op, ex_un, ex_b, ex_and, ex_or, ex_not, ex_andV, ex_orV, ex_notV, ex_if, ex_chain, ex_nil, ex_cons, ex_tup, ex_lst, ex_call, ex_callP, ex_cb, ex_bm, ex_rep, ex_sl, ex_noPart, ex_part, ex_yes, it_items, it_rng1, it_rng2, tg_name, tg_sub, tg_tup, tg_cons, tg_nil, gs_0, gs_s, ss_0, ss_s, op_ii, op_ss, op_tt, op_mm, op_sb, op_ng, op_iNf, op_iNt, op_lle, op_ixT, op_ixR, op_ixL, op_putE, op_appE, it_tupE, it_rolE, it_refE, lstOf_l, exL, asS_some, asI_int, asB_bl, asL_some, asN_some, ite3_t, ite3_f, bl_1, bl_lenT, bl_lenR, bl_lenL, bl_lenS, bl_tuple, bl_list, bl_abs, bl_intI, bl_intB, bl_max, bl_min, op_eqSf, op_eqSt, op_eqIf, op_eqIt, op_eqTf, op_eqTt, op_eqRf, op_eqRt, op_eqNf, op_eqNt, eqD_int, eqD_nil, pl_int, pl_nil, pl_non, pl_rnil, pl_bl, sl_tupE, sl_rolE, keep_ref, keep_tup, keep_rol, tp_int, tp_tup, tp_rol, tp_str, tp_bl, tp_non, tp_ref, oFd, oMd, oPw, oShl, oLt, oLe, oGt, oGe, op_in, op_cp, wipe_nil, wipe_cons, mset_same, true_and, and_true, isN_int, ex_lstF, ex_repF, ex_lgF1, ex_lgF2, ex_tupRg1, ex_tupRg2, ex_frz, ex_slF, ex_slM, sl_tupF, sl_rolF, op_iiF, op_ssF, op_ttF, op_rrF, op_rrM, op_mmF, op_repF, li_rol, li_ref, bl_listF, bl_allF, bl_anyF, asT_some, asJ_some, op_eqBf, op_eqBt, isN_non, Bool.not_true, Bool.not_false, rep2]
  refine ite3_by (fun h => ?_) (fun h => ?_)
  · rw [st_ret]
    simp only [ex_c, ex_var, ex_op, ex_un, ex_b, ex_and, ex_or, ex_not, ex_andV, ex_orV, ex_notV, ex_if, ex_chain, ex_nil, ex_cons, ex_tup, ex_lst, ex_call, ex_callP, ex_cb, ex_bm, ex_rep, ex_sl, ex_noPart, ex_part, ex_yes, it_items, it_rng1, it_rng2, tg_name, tg_sub, tg_tup, tg_cons, tg_nil, gs_0, gs_s, ss_0, ss_s, op_ii, op_ss, op_tt, op_mm, op_sb, op_ng, op_iNf, op_iNt, op_lle, op_ixT, op_ixR, op_ixL, op_putE, op_appE, it_tupE, it_rolE, it_refE, lstOf_l, exL, asS_some, asI_int, asB_bl, asL_some, asN_some, ite3_t, ite3_f, bl_1, bl_lenT, bl_lenR, bl_lenL, bl_lenS, bl_tuple, bl_list, bl_abs, bl_intI, bl_intB, bl_max, bl_min, op_eqSf, op_eqSt, op_eqIf, op_eqIt, op_eqTf, op_eqTt, op_eqRf, op_eqRt, op_eqNf, op_eqNt, eqD_int, eqD_nil, pl_int, pl_nil, pl_non, pl_rnil, pl_bl, sl_tupE, sl_rolE, keep_ref, keep_tup, keep_rol, tp_int, tp_tup, tp_rol, tp_str, tp_bl, tp_non, tp_ref, oFd, oMd, oPw, oShl, oLt, oLe, oGt, oGe, op_in, op_cp, wipe_nil, wipe_cons, mset_same, true_and, and_true, isN_int, ex_lstF, ex_repF, ex_lgF1, ex_lgF2, ex_tupRg1, ex_tupRg2, ex_frz, ex_slF, ex_slM, sl_tupF, sl_rolF, op_iiF, op_ssF, op_ttF, op_rrF, op_rrM, op_mmF, op_repF, li_rol, li_ref, bl_listF, bl_allF, bl_anyF, asT_some, asJ_some, op_eqBf, op_eqBt, isN_non, Bool.not_true, Bool.not_false, rep2]
    refine kd _ (b + 1) _ _ _ _ f1 (by omega) (by decide) (by decide) fun x M2 x0 x1 f2 o2 => ?_
    (try simp only [ex_c, ex_var, ex_op, ex_un, ex_b, ex_and, ex_or, ex_not, ex_andV, ex_orV, ex_notV, ex_if, ex_chain, ex_nil, ex_cons, ex_tup, ex_lst, ex_call, ex_callP, ex_cb, ex_bm, ex_rep, ex_sl, ex_noPart, ex_part, ex_yes, it_items, it_rng1, it_rng2, tg_name, tg_sub, tg_tup, tg_cons, tg_nil, gs_0, gs_s, ss_0, ss_s, op_ii, op_ss, op_tt, op_mm, op_sb, op_ng, op_iNf, op_iNt, op_lle, op_ixT, op_ixR, op_ixL, op_putE, op_appE, it_tupE, it_rolE, it_refE, lstOf_l, exL, asS_some, asI_int, asB_bl, asL_some, asN_some, ite3_t, ite3_f, bl_1, bl_lenT, bl_lenR, bl_lenL, bl_lenS, bl_tuple, bl_list, bl_abs, bl_intI, bl_intB, bl_max, bl_min, op_eqSf, op_eqSt, op_eqIf, op_eqIt, op_eqTf, op_eqTt, op_eqRf, op_eqRt, op_eqNf, op_eqNt, eqD_int, eqD_nil, pl_int, pl_nil, pl_non, pl_rnil, pl_bl, sl_tupE, sl_rolE, keep_ref, keep_tup, keep_rol, tp_int, tp_tup, tp_rol, tp_str, tp_bl, tp_non, tp_ref, oFd, oMd, oPw, oShl, oLt, oLe, oGt, oGe, op_in, op_cp, wipe_nil, wipe_cons, mset_same, true_and, and_true, isN_int, ex_lstF, ex_repF, ex_lgF1, ex_lgF2, ex_tupRg1, ex_tupRg2, ex_frz, ex_slF, ex_slM, sl_tupF, sl_rolF, op_iiF, op_ssF, op_ttF, op_rrF, op_rrM, op_mmF, op_repF, li_rol, li_ref, bl_listF, bl_allF, bl_anyF, asT_some, asJ_some, op_eqBf, op_eqBt, isN_non, Bool.not_true, Bool.not_false, rep2])
    exact q (some _) _ (edk (by omega) (by omega)) (f2.mono (by omega)) (o1.trans o2)
  rw [st_next]
  try dsimp only
  rw [st_seq, st_set]
  simp only [ex_c, ex_var, ex_op, ex_un, ex_b, ex_and, ex_or, ex_not, ex_andV, ex_orV, ex_notV, ex_if, ex_chain, ex_nil, ex_cons, ex_tup, ex_lst, ex_call, ex_callP, ex_cb, ex_bm, ex_rep, ex_sl, ex_noPart, ex_part, ex_yes, it_items, it_rng1, it_rng2, tg_name, tg_sub, tg_tup, tg_cons, tg_nil, gs_0, gs_s, ss_0, ss_s, op_ii, op_ss, op_tt, op_mm, op_sb, op_ng, op_iNf, op_iNt, op_lle, op_ixT, op_ixR, op_ixL, op_putE, op_appE, it_tupE, it_rolE, it_refE, lstOf_l, exL, asS_some, asI_int, asB_bl, asL_some, asN_some, ite3_t, ite3_f, bl_1, bl_lenT, bl_lenR, bl_lenL, bl_lenS, bl_tuple, bl_list, bl_abs, bl_intI, bl_intB, bl_max, bl_min, op_eqSf, op_eqSt, op_eqIf, op_eqIt, op_eqTf, op_eqTt, op_eqRf, op_eqRt, op_eqNf, op_eqNt, eqD_int, eqD_nil, pl_int, pl_nil, pl_non, pl_rnil, pl_bl, sl_tupE, sl_rolE, keep_ref, keep_tup, keep_rol, tp_int, tp_tup, tp_rol, tp_str, tp_bl, tp_non, tp_ref, oFd, oMd, oPw, oShl, oLt, oLe, oGt, oGe, op_in, op_cp, wipe_nil, wipe_cons, mset_same, true_and, and_true, isN_int, ex_lstF, ex_repF, ex_lgF1, ex_lgF2, ex_tupRg1, ex_tupRg2, ex_frz, ex_slF, ex_slM, sl_tupF, sl_rolF, op_iiF, op_ssF, op_ttF, op_rrF, op_rrM, op_mmF, op_repF, li_rol, li_ref, bl_listF, bl_allF, bl_anyF, asT_some, asJ_some, op_eqBf, op_eqBt, isN_non, Bool.not_true, Bool.not_false, rep2, pw_19, pw_20]
  refine ⟨⟨by decide, by decide, by decide⟩, kd _ (b + 1) _ _ _ _ f1 (by omega) (by decide) (by decide) fun x M2 x0 x1 f2 o2 => ?_⟩
  (try simp only [ex_c, ex_var, ex_op, ex_un, ex_b, ex_and, ex_or, ex_not, ex_andV, ex_orV, ex_notV, ex_if, ex_chain, ex_nil, ex_cons, ex_tup, ex_lst, ex_call, ex_callP, ex_cb, ex_bm, ex_rep, ex_sl, ex_noPart, ex_part, ex_yes, it_items, it_rng1, it_rng2, tg_name, tg_sub, tg_tup, tg_cons, tg_nil, gs_0, gs_s, ss_0, ss_s, op_ii, op_ss, op_tt, op_mm, op_sb, op_ng, op_iNf, op_iNt, op_lle, op_ixT, op_ixR, op_ixL, op_putE, op_appE, it_tupE, it_rolE, it_refE, lstOf_l, exL, asS_some, asI_int, asB_bl, asL_some, asN_some, ite3_t, ite3_f, bl_1, bl_lenT, bl_lenR, bl_lenL, bl_lenS, bl_tuple, bl_list, bl_abs, bl_intI, bl_intB, bl_max, bl_min, op_eqSf, op_eqSt, op_eqIf, op_eqIt, op_eqTf, op_eqTt, op_eqRf, op_eqRt, op_eqNf, op_eqNt, eqD_int, eqD_nil, pl_int, pl_nil, pl_non, pl_rnil, pl_bl, sl_tupE, sl_rolE, keep_ref, keep_tup, keep_rol, tp_int, tp_tup, tp_rol, tp_str, tp_bl, tp_non, tp_ref, oFd, oMd, oPw, oShl, oLt, oLe, oGt, oGe, op_in, op_cp, wipe_nil, wipe_cons, mset_same, true_and, and_true, isN_int, ex_lstF, ex_repF, ex_lgF1, ex_lgF2, ex_tupRg1, ex_tupRg2, ex_frz, ex_slF, ex_slM, sl_tupF, sl_rolF, op_iiF, op_ssF, op_ttF, op_rrF, op_rrM, op_mmF, op_repF, li_rol, li_ref, bl_listF, bl_allF, bl_anyF, asT_some, asJ_some, op_eqBf, op_eqBt, isN_non, Bool.not_true, Bool.not_false, rep2, pw_19, pw_20])
  refine ⟨⟨by decide, by decide, by decide⟩, mulL x0 (by omega), ⟨by decide, by decide, by decide⟩, kd _ (b + 2) _ _ _ _ f2 (by omega) (by decide) (by decide) fun y M3 y0 y1 f3 o3 => ?_⟩
  simp only [ex_c, ex_var, ex_op, ex_un, ex_b, ex_and, ex_or, ex_not, ex_andV, ex_orV, ex_notV, ex_if, ex_chain, ex_nil, ex_cons, ex_tup, ex_lst, ex_call, ex_callP, ex_cb, ex_bm, ex_rep, ex_sl, ex_noPart, ex_part, ex_yes, it_items, it_rng1, it_rng2, tg_name, tg_sub, tg_tup, tg_cons, tg_nil, gs_0, gs_s, ss_0, ss_s, op_ii, op_ss, op_tt, op_mm, op_sb, op_ng, op_iNf, op_iNt, op_lle, op_ixT, op_ixR, op_ixL, op_putE, op_appE, it_tupE, it_rolE, it_refE, lstOf_l, exL, asS_some, asI_int, asB_bl, asL_some, asN_some, ite3_t, ite3_f, bl_1, bl_lenT, bl_lenR, bl_lenL, bl_lenS, bl_tuple, bl_list, bl_abs, bl_intI, bl_intB, bl_max, bl_min, op_eqSf, op_eqSt, op_eqIf, op_eqIt, op_eqTf, op_eqTt, op_eqRf, op_eqRt, op_eqNf, op_eqNt, eqD_int, eqD_nil, pl_int, pl_nil, pl_non, pl_rnil, pl_bl, sl_tupE, sl_rolE, keep_ref, keep_tup, keep_rol, tp_int, tp_tup, tp_rol, tp_str, tp_bl, tp_non, tp_ref, oFd, oMd, oPw, oShl, oLt, oLe, oGt, oGe, op_in, op_cp, wipe_nil, wipe_cons, mset_same, true_and, and_true, isN_int, ex_lstF, ex_repF, ex_lgF1, ex_lgF2, ex_tupRg1, ex_tupRg2, ex_frz, ex_slF, ex_slM, sl_tupF, sl_rolF, op_iiF, op_ssF, op_ttF, op_rrF, op_rrM, op_mmF, op_repF, li_rol, li_ref, bl_listF, bl_allF, bl_anyF, asT_some, asJ_some, op_eqBf, op_eqBt, isN_non, Bool.not_true, Bool.not_false, rep2]
  rw [st_ret]
  simp only [ex_c, ex_var, ex_op, ex_un, ex_b, ex_and, ex_or, ex_not, ex_andV, ex_orV, ex_notV, ex_if, ex_chain, ex_nil, ex_cons, ex_tup, ex_lst, ex_call, ex_callP, ex_cb, ex_bm, ex_rep, ex_sl, ex_noPart, ex_part, ex_yes, it_items, it_rng1, it_rng2, tg_name, tg_sub, tg_tup, tg_cons, tg_nil, gs_0, gs_s, ss_0, ss_s, op_ii, op_ss, op_tt, op_mm, op_sb, op_ng, op_iNf, op_iNt, op_lle, op_ixT, op_ixR, op_ixL, op_putE, op_appE, it_tupE, it_rolE, it_refE, lstOf_l, exL, asS_some, asI_int, asB_bl, asL_some, asN_some, ite3_t, ite3_f, bl_1, bl_lenT, bl_lenR, bl_lenL, bl_lenS, bl_tuple, bl_list, bl_abs, bl_intI, bl_intB, bl_max, bl_min, op_eqSf, op_eqSt, op_eqIf, op_eqIt, op_eqTf, op_eqTt, op_eqRf, op_eqRt, op_eqNf, op_eqNt, eqD_int, eqD_nil, pl_int, pl_nil, pl_non, pl_rnil, pl_bl, sl_tupE, sl_rolE, keep_ref, keep_tup, keep_rol, tp_int, tp_tup, tp_rol, tp_str, tp_bl, tp_non, tp_ref, oFd, oMd, oPw, oShl, oLt, oLe, oGt, oGe, op_in, op_cp, wipe_nil, wipe_cons, mset_same, true_and, and_true, isN_int, ex_lstF, ex_repF, ex_lgF1, ex_lgF2, ex_tupRg1, ex_tupRg2, ex_frz, ex_slF, ex_slM, sl_tupF, sl_rolF, op_iiF, op_ssF, op_ttF, op_rrF, op_rrM, op_mmF, op_repF, li_rol, li_ref, bl_listF, bl_allF, bl_anyF, asT_some, asJ_some, op_eqBf, op_eqBt, isN_non, Bool.not_true, Bool.not_false, rep2, pw_39, pw_17]
  have hz : ∃ z : Int, x * 100000000000000000000 + y = z ∧ 0 ≤ z ∧ z < 10 ^ 40 := ⟨_, rfl, by omega, by omega⟩
  obtain ⟨z, hz, z0, z1⟩ := hz
  rw [hz]
  refine ⟨⟨by decide, by decide, by decide⟩, ⟨by decide, by decide, by decide⟩, by show 4 ≤ sizeLine; omega, kd _ (b + 3) _ _ _ _ f3 (by omega) (by decide) (by decide) fun u M4 u0 u1 f4 o4 => ?_⟩
  have hat : ∃ e : Ed, atI [D.int z, D.int (-z), D.int 1000000000000000000000000000000000000000, D.int (-100000000000000000)] u = some (oD e) ∧ EdK e := by
    have : u = 0 ∨ u = 1 ∨ u = 2 ∨ u = 3 := by omega
    rcases this with rfl | rfl | rfl | rfl
    · exact ⟨some _, rfl, edk (by omega) (by omega)⟩
    · exact ⟨some _, rfl, edk (by omega) (by omega)⟩
    · exact ⟨some _, rfl, edk (by omega) (by omega)⟩
    · exact ⟨some _, rfl, edk (by omega) (by omega)⟩
  obtain ⟨e, hat, he⟩ := hat
  rw [asI_int, hat, asS_some]
  exact q e _ he (f4.mono (by omega)) (((o1.trans o2).trans o3).trans o4)
/-- so many rows of so many ends, or none -/
def ShN (n : Nat) (T : Tab) : Prop := T = [] ∨ (T.length = n ∧ ∀ r ∈ T, r.length = n)
def bodyT (el : TE3) : TS3 :=
  (wSeq (wSet 2 (wLst wNil))
  (wSeq (wFor (wRng1 (wCons (wVar 1) wNil)) (wgName 3) (wDrop (wBM oApp (wVar 2) (wCons (wCB bTuple (wCons (wLcF (wRng1 (wCons (wVar 1) wNil)) (wgName 4) wYes el [4]) wNil)) wNil))))
  (wRet (wCB bTuple (wCons (wVar 2) wNil)))))
theorem drawn_tab {el : TE3} {a : Addr} {b n : Nat} {Ma : Mp} {Q : VK3} {K : Ends3} (hK : K.rt = Q) (f : Fd b Ma a) (hb : b < 2 ^ 28) (hn : n ≤ 7)
    (hel : ∀ (c : Nat) (i : Int) (x2 x3 : Option D) (M : Mp) (Y : VK3), c < 2 ^ 29 → Fd c M a → (∀ e M', EdK e → Fd (c + 6) M' a → Only a M M' → Y (oD e) M') → el [some (.ref a), some (.int n), x2, x3, some (.int i)] M Y)
    (q : ∀ T M', TabK T → ShN n T → Fd (b + 300) M' a → Gr a Ma M' → Q (tabD T) M') : bodyT el K [some (.ref a), some (.int n), none, none, none] Ma := by
  unfold bodyT
  have big : (1000000 : Nat) ≤ sizeLine := by decide
  rw [st_seq, st_set]
  simp only [ex_c, ex_var, ex_op, ex_un, ex_b, ex_and, ex_or, ex_not, ex_andV, ex_orV, ex_notV, ex_if, ex_chain, ex_nil, ex_cons, ex_tup, ex_lst, ex_call, ex_callP, ex_cb, ex_bm, ex_rep, ex_sl, ex_noPart, ex_part, ex_yes, it_items, it_rng1, it_rng2, tg_name, tg_sub, tg_tup, tg_cons, tg_nil, gs_0, gs_s, ss_0, ss_s, op_ii, op_ss, op_tt, op_mm, op_sb, op_ng, op_iNf, op_iNt, op_lle, op_ixT, op_ixR, op_ixL, op_putE, op_appE, it_tupE, it_rolE, it_refE, lstOf_l, exL, asS_some, asI_int, asB_bl, asL_some, asN_some, ite3_t, ite3_f, bl_1, bl_lenT, bl_lenR, bl_lenL, bl_lenS, bl_tuple, bl_list, bl_abs, bl_intI, bl_intB, bl_max, bl_min, op_eqSf, op_eqSt, op_eqIf, op_eqIt, op_eqTf, op_eqTt, op_eqRf, op_eqRt, op_eqNf, op_eqNt, eqD_int, eqD_nil, pl_int, pl_nil, pl_non, pl_rnil, pl_bl, sl_tupE, sl_rolE, keep_ref, keep_tup, keep_rol, tp_int, tp_tup, tp_rol, tp_str, tp_bl, tp_non, tp_ref, oFd, oMd, oPw, oShl, oLt, oLe, oGt, oGe, op_in, op_cp, wipe_nil, wipe_cons, mset_same, true_and, and_true, isN_int, ex_lstF, ex_repF, ex_lgF1, ex_lgF2, ex_tupRg1, ex_tupRg2, ex_frz, ex_slF, ex_slM, sl_tupF, sl_rolF, op_iiF, op_ssF, op_ttF, op_rrF, op_rrM, op_mmF, op_repF, li_rol, li_ref, bl_listF, bl_allF, bl_anyF, asT_some, asJ_some, op_eqBf, op_eqBt, isN_non, Bool.not_true, Bool.not_false, rep2]
  refine ⟨Nat.zero_le _, fun l hl => ?_⟩
  have hla := f.ne hl
  try dsimp only
  rw [st_seq, st_for]
  simp only [ex_c, ex_var, ex_op, ex_un, ex_b, ex_and, ex_or, ex_not, ex_andV, ex_orV, ex_notV, ex_if, ex_chain, ex_nil, ex_cons, ex_tup, ex_lst, ex_call, ex_callP, ex_cb, ex_bm, ex_rep, ex_sl, ex_noPart, ex_part, ex_yes, it_items, it_rng1, it_rng2, tg_name, tg_sub, tg_tup, tg_cons, tg_nil, gs_0, gs_s, ss_0, ss_s, op_ii, op_ss, op_tt, op_mm, op_sb, op_ng, op_iNf, op_iNt, op_lle, op_ixT, op_ixR, op_ixL, op_putE, op_appE, it_tupE, it_rolE, it_refE, lstOf_l, exL, asS_some, asI_int, asB_bl, asL_some, asN_some, ite3_t, ite3_f, bl_1, bl_lenT, bl_lenR, bl_lenL, bl_lenS, bl_tuple, bl_list, bl_abs, bl_intI, bl_intB, bl_max, bl_min, op_eqSf, op_eqSt, op_eqIf, op_eqIt, op_eqTf, op_eqTt, op_eqRf, op_eqRt, op_eqNf, op_eqNt, eqD_int, eqD_nil, pl_int, pl_nil, pl_non, pl_rnil, pl_bl, sl_tupE, sl_rolE, keep_ref, keep_tup, keep_rol, tp_int, tp_tup, tp_rol, tp_str, tp_bl, tp_non, tp_ref, oFd, oMd, oPw, oShl, oLt, oLe, oGt, oGe, op_in, op_cp, wipe_nil, wipe_cons, mset_same, true_and, and_true, isN_int, ex_lstF, ex_repF, ex_lgF1, ex_lgF2, ex_tupRg1, ex_tupRg2, ex_frz, ex_slF, ex_slM, sl_tupF, sl_rolF, op_iiF, op_ssF, op_ttF, op_rrF, op_rrM, op_mmF, op_repF, li_rol, li_ref, bl_listF, bl_allF, bl_anyF, asT_some, asJ_some, op_eqBf, op_eqBt, isN_non, Bool.not_true, Bool.not_false, rep2]
  refine ⟨by omega, by omega, ?_⟩
  rw [Int.toNat_natCast]
  refine for_rg (fun p τ M => p ≤ n ∧ (∃ T : Tab, M l = some (.lst (T.map rowD)) ∧ T.length = p ∧ (∀ r ∈ T, r.length = n ∧ ∀ e ∈ r, EdK e) ∧ Fd (b + 42 * p) M a ∧ Gr a Ma M) ∧ ∃ x3 x4, τ = [some (.ref a), some (.int n), some (.ref l), x3, x4]) ?_ ?_
    ⟨Nat.zero_le _, ⟨[], mset_same, rfl, (fun r hr => nomatch hr), (f.put hla).mono (by omega), Gr.put (fun _ _ _ h => h) hl⟩, _, _, rfl⟩
  · rintro p τ M2 hp ⟨_, ⟨T, hM, hTl, hT, f, g⟩, x3, x4, rfl⟩ X hX
    rw [tg_name, st_drop]
    simp only [ex_c, ex_var, ex_op, ex_un, ex_b, ex_and, ex_or, ex_not, ex_andV, ex_orV, ex_notV, ex_if, ex_chain, ex_nil, ex_cons, ex_tup, ex_lst, ex_call, ex_callP, ex_cb, ex_bm, ex_rep, ex_sl, ex_noPart, ex_part, ex_yes, it_items, it_rng1, it_rng2, tg_name, tg_sub, tg_tup, tg_cons, tg_nil, gs_0, gs_s, ss_0, ss_s, op_ii, op_ss, op_tt, op_mm, op_sb, op_ng, op_iNf, op_iNt, op_lle, op_ixT, op_ixR, op_ixL, op_putE, op_appE, it_tupE, it_rolE, it_refE, lstOf_l, exL, asS_some, asI_int, asB_bl, asL_some, asN_some, ite3_t, ite3_f, bl_1, bl_lenT, bl_lenR, bl_lenL, bl_lenS, bl_tuple, bl_list, bl_abs, bl_intI, bl_intB, bl_max, bl_min, op_eqSf, op_eqSt, op_eqIf, op_eqIt, op_eqTf, op_eqTt, op_eqRf, op_eqRt, op_eqNf, op_eqNt, eqD_int, eqD_nil, pl_int, pl_nil, pl_non, pl_rnil, pl_bl, sl_tupE, sl_rolE, keep_ref, keep_tup, keep_rol, tp_int, tp_tup, tp_rol, tp_str, tp_bl, tp_non, tp_ref, oFd, oMd, oPw, oShl, oLt, oLe, oGt, oGe, op_in, op_cp, wipe_nil, wipe_cons, mset_same, true_and, and_true, isN_int, ex_lstF, ex_repF, ex_lgF1, ex_lgF2, ex_tupRg1, ex_tupRg2, ex_frz, ex_slF, ex_slM, sl_tupF, sl_rolF, op_iiF, op_ssF, op_ttF, op_rrF, op_rrM, op_mmF, op_repF, li_rol, li_ref, bl_listF, bl_allF, bl_anyF, asT_some, asJ_some, op_eqBf, op_eqBt, isN_non, Bool.not_true, Bool.not_false, rep2, ex_lcF]
    refine ⟨⟨_, hM⟩, by omega, by omega, ?_⟩
    rw [Int.toNat_natCast]
    refine lc_pv (fun i acc M => ∃ r : List Ed, acc = r.map oD ∧ r.length = i ∧ (∀ e ∈ r, EdK e) ∧ i ≤ n ∧ Fd (b + 42 * p + 6 * i) M a ∧ Only a M2 M) ?_ ?_ ⟨[], rfl, rfl, (fun e he => nomatch he), Nat.zero_le _, f, .refl⟩
    · rintro i d acc M3 hd ⟨r, rfl, hrl, hr, hi, f3, o3⟩ Y hY
      obtain ⟨hlt, rfl⟩ := rgD_get hd
      refine ⟨True.intro, ?_⟩
      rw [tg_name, ex_yes, ite3_t]
      refine hel (b + 42 * p + 6 * i) _ _ _ _ _ (by omega) f3 fun e M4 he f4 o4 => ?_
      refine ⟨by rw [List.length_map]; omega, hY _ _ ⟨r ++ [e], by rw [List.map_append]; rfl, by rw [List.length_append, hrl]; rfl, fun x hx => ?_, hlt, f4.mono (by omega), o3.trans o4⟩⟩
      rcases List.mem_append.mp hx with h | h
      · exact hr x h
      · rw [List.mem_singleton] at h; rw [h]; exact he
    rintro acc M3 ⟨r, rfl, hrl, hr, hi, f3, o3⟩
    rw [rgD_len] at hrl
    refine ⟨True.intro, ?_⟩
    have hM3 : M3 l = some (.lst (T.map rowD)) := (o3 l hla).trans hM
    have hl0 : Ma l = none := Gr.none (fun _ _ _ h => h) hl hla
    rw [hM3]
    show (_ : Nat) < sizeLine ∧ _
    refine ⟨by rw [List.length_map]; omega, hX _ _ ⟨hp, ⟨T ++ [r], ?_, by rw [List.length_append, hTl]; rfl, fun r' hr' => ?_, (f3.put hla).mono (by omega), (g.trans o3.gr).put hl0⟩, _, _, rfl⟩⟩
    · rw [mset_same, List.map_append]; rfl
    · rcases List.mem_append.mp hr' with h | h
      · exact hT r' h
      · rw [List.mem_singleton] at h
        subst h
        exact ⟨hrl, hr⟩
  · rintro τ M ⟨_, ⟨T, hM, hTl, hT, f, g⟩, x3, x4, rfl⟩
    try dsimp only
    rw [st_ret]
    simp only [ex_c, ex_var, ex_op, ex_un, ex_b, ex_and, ex_or, ex_not, ex_andV, ex_orV, ex_notV, ex_if, ex_chain, ex_nil, ex_cons, ex_tup, ex_lst, ex_call, ex_callP, ex_cb, ex_bm, ex_rep, ex_sl, ex_noPart, ex_part, ex_yes, it_items, it_rng1, it_rng2, tg_name, tg_sub, tg_tup, tg_cons, tg_nil, gs_0, gs_s, ss_0, ss_s, op_ii, op_ss, op_tt, op_mm, op_sb, op_ng, op_iNf, op_iNt, op_lle, op_ixT, op_ixR, op_ixL, op_putE, op_appE, it_tupE, it_rolE, it_refE, lstOf_l, exL, asS_some, asI_int, asB_bl, asL_some, asN_some, ite3_t, ite3_f, bl_1, bl_lenT, bl_lenR, bl_lenL, bl_lenS, bl_tuple, bl_list, bl_abs, bl_intI, bl_intB, bl_max, bl_min, op_eqSf, op_eqSt, op_eqIf, op_eqIt, op_eqTf, op_eqTt, op_eqRf, op_eqRt, op_eqNf, op_eqNt, eqD_int, eqD_nil, pl_int, pl_nil, pl_non, pl_rnil, pl_bl, sl_tupE, sl_rolE, keep_ref, keep_tup, keep_rol, tp_int, tp_tup, tp_rol, tp_str, tp_bl, tp_non, tp_ref, oFd, oMd, oPw, oShl, oLt, oLe, oGt, oGe, op_in, op_cp, wipe_nil, wipe_cons, mset_same, true_and, and_true, isN_int, ex_lstF, ex_repF, ex_lgF1, ex_lgF2, ex_tupRg1, ex_tupRg2, ex_frz, ex_slF, ex_slM, sl_tupF, sl_rolF, op_iiF, op_ssF, op_ttF, op_rrF, op_rrM, op_mmF, op_repF, li_rol, li_ref, bl_listF, bl_allF, bl_anyF, asT_some, asJ_some, op_eqBf, op_eqBt, isN_non, Bool.not_true, Bool.not_false, rep2, hM]
    rw [hK]
    exact q T _ ⟨by omega, fun r hr => by have := (hT r hr).1; omega, fun r hr e he => (hT r hr).2 e he⟩ (.inr ⟨hTl, fun r hr => (hT r hr).1⟩) (f.mono (by omega)) g
def STabK (sp : Sp3) : Prop := ∀ (a : Addr) (b n : Nat) (M : Mp) (Q : VK3) (E : XK3), Fd b M a → b < 2 ^ 27 → n ≤ 7 → (∀ T M', TabK T → ShN n T → Fd (b + 301) M' a → Gr a M M' → Q (tabD T) M') → sp [.ref a, .int n] M Q E
def anyTR (sp__law_draw sp__law_end : Sp3) : XK3 → TS3 := fun E =>
  (wSeq (wIfS (wB (wOp (oEq false) (wCall sp__law_draw E (wCons (wVar 0) (wCons (wC (.int 8)) wNil))) (wC (.int 0)))) (wRet (wTup wNil)) wNext)
  (bodyT (wCall sp__law_end X0 (wCons (wVar 0) wNil))))
theorem s_anyT {sd se : Sp3} (kd : SDraw7 sd) (ke : SEndK se) : STabK (spOf 2 5 (anyTR sd se)) := by
  refine fun a b n M Q E f hb hn q => ⟨rfl, ?_⟩
  show anyTR sd se E _ [some (.ref a), some (.int n), none, none, none] M
  unfold anyTR
  rw [st_seq, st_if]
  simp only [ex_c, ex_var, ex_op, ex_un, ex_b, ex_and, ex_or, ex_not, ex_andV, ex_orV, ex_notV, ex_if, ex_chain, ex_nil, ex_cons, ex_tup, ex_lst, ex_call, ex_callP, ex_cb, ex_bm, ex_rep, ex_sl, ex_noPart, ex_part, ex_yes, it_items, it_rng1, it_rng2, tg_name, tg_sub, tg_tup, tg_cons, tg_nil, gs_0, gs_s, ss_0, ss_s, op_ii, op_ss, op_tt, op_mm, op_sb, op_ng, op_iNf, op_iNt, op_lle, op_ixT, op_ixR, op_ixL, op_putE, op_appE, it_tupE, it_rolE, it_refE, lstOf_l, exL, asS_some, asI_int, asB_bl, asL_some, asN_some, ite3_t, ite3_f, bl_1, bl_lenT, bl_lenR, bl_lenL, bl_lenS, bl_tuple, bl_list, bl_abs, bl_intI, bl_intB, bl_max, bl_min, op_eqSf, op_eqSt, op_eqIf, op_eqIt, op_eqTf, op_eqTt, op_eqRf, op_eqRt, op_eqNf, op_eqNt, eqD_int, eqD_nil, pl_int, pl_nil, pl_non, pl_rnil, pl_bl, sl_tupE, sl_rolE, keep_ref, keep_tup, keep_rol, tp_int, tp_tup, tp_rol, tp_str, tp_bl, tp_non, tp_ref, oFd, oMd, oPw, oShl, oLt, oLe, oGt, oGe, op_in, op_cp, wipe_nil, wipe_cons, mset_same, true_and, and_true, isN_int, ex_lstF, ex_repF, ex_lgF1, ex_lgF2, ex_tupRg1, ex_tupRg2, ex_frz, ex_slF, ex_slM, sl_tupF, sl_rolF, op_iiF, op_ssF, op_ttF, op_rrF, op_rrM, op_mmF, op_repF, li_rol, li_ref, bl_listF, bl_allF, bl_anyF, asT_some, asJ_some, op_eqBf, op_eqBt, isN_non, Bool.not_true, Bool.not_false, rep2]
  refine kd _ b _ _ _ _ f (by omega) (by decide) (by decide) fun r M1 r0 r1 f1 o1 => ?_
  (try simp only [ex_c, ex_var, ex_op, ex_un, ex_b, ex_and, ex_or, ex_not, ex_andV, ex_orV, ex_notV, ex_if, ex_chain, ex_nil, ex_cons, ex_tup, ex_lst, ex_call, ex_callP, ex_cb, ex_bm, ex_rep, ex_sl, ex_noPart, ex_part, ex_yes, it_items, it_rng1, it_rng2, tg_name, tg_sub, tg_tup, tg_cons, tg_nil, gs_0, gs_s, ss_0, ss_s, op_ii, op_ss, op_tt, op_mm, op_sb, op_ng, op_iNf, op_iNt, op_lle, op_ixT, op_ixR, op_ixL, op_putE, op_appE, it_tupE, it_rolE, it_refE, lstOf_l, exL, asS_some, asI_int, asB_bl, asL_some, asN_some, ite3_t, ite3_f, bl_1, bl_lenT, bl_lenR, bl_lenL, bl_lenS, bl_tuple, bl_list, bl_abs, bl_intI, bl_intB, bl_max, bl_min, op_eqSf, op_eqSt, op_eqIf, op_eqIt, op_eqTf, op_eqTt, op_eqRf, op_eqRt, op_eqNf, op_eqNt, eqD_int, eqD_nil, pl_int, pl_nil, pl_non, pl_rnil, pl_bl, sl_tupE, sl_rolE, keep_ref, keep_tup, keep_rol, tp_int, tp_tup, tp_rol, tp_str, tp_bl, tp_non, tp_ref, oFd, oMd, oPw, oShl, oLt, oLe, oGt, oGe, op_in, op_cp, wipe_nil, wipe_cons, mset_same, true_and, and_true, isN_int, ex_lstF, ex_repF, ex_lgF1, ex_lgF2, ex_tupRg1, ex_tupRg2, ex_frz, ex_slF, ex_slM, sl_tupF, sl_rolF, op_iiF, op_ssF, op_ttF, op_rrF, op_rrM, op_mmF, op_repF, li_rol, li_ref, bl_listF, bl_allF, bl_anyF, asT_some, asJ_some, op_eqBf, op_eqBt, isN_non, Bool.not_true, Bool.not_false, rep2])
  refine ite3_by (fun h => ?_) (fun h => ?_)
  · rw [st_ret]
    simp only [ex_c, ex_var, ex_op, ex_un, ex_b, ex_and, ex_or, ex_not, ex_andV, ex_orV, ex_notV, ex_if, ex_chain, ex_nil, ex_cons, ex_tup, ex_lst, ex_call, ex_callP, ex_cb, ex_bm, ex_rep, ex_sl, ex_noPart, ex_part, ex_yes, it_items, it_rng1, it_rng2, tg_name, tg_sub, tg_tup, tg_cons, tg_nil, gs_0, gs_s, ss_0, ss_s, op_ii, op_ss, op_tt, op_mm, op_sb, op_ng, op_iNf, op_iNt, op_lle, op_ixT, op_ixR, op_ixL, op_putE, op_appE, it_tupE, it_rolE, it_refE, lstOf_l, exL, asS_some, asI_int, asB_bl, asL_some, asN_some, ite3_t, ite3_f, bl_1, bl_lenT, bl_lenR, bl_lenL, bl_lenS, bl_tuple, bl_list, bl_abs, bl_intI, bl_intB, bl_max, bl_min, op_eqSf, op_eqSt, op_eqIf, op_eqIt, op_eqTf, op_eqTt, op_eqRf, op_eqRt, op_eqNf, op_eqNt, eqD_int, eqD_nil, pl_int, pl_nil, pl_non, pl_rnil, pl_bl, sl_tupE, sl_rolE, keep_ref, keep_tup, keep_rol, tp_int, tp_tup, tp_rol, tp_str, tp_bl, tp_non, tp_ref, oFd, oMd, oPw, oShl, oLt, oLe, oGt, oGe, op_in, op_cp, wipe_nil, wipe_cons, mset_same, true_and, and_true, isN_int, ex_lstF, ex_repF, ex_lgF1, ex_lgF2, ex_tupRg1, ex_tupRg2, ex_frz, ex_slF, ex_slM, sl_tupF, sl_rolF, op_iiF, op_ssF, op_ttF, op_rrF, op_rrM, op_mmF, op_repF, li_rol, li_ref, bl_listF, bl_allF, bl_anyF, asT_some, asJ_some, op_eqBf, op_eqBt, isN_non, Bool.not_true, Bool.not_false, rep2]
    exact ⟨Nat.zero_le _, q [] _ ⟨Nat.zero_le _, fun r hr => (nomatch hr), fun r hr => (nomatch hr)⟩ (.inl rfl) (f1.mono (by omega)) o1.gr⟩
  rw [st_next]
  refine drawn_tab rfl f1 (by omega) hn (fun c i x2 x3 M Y hc fc k => ?_) fun T M' hT hS f' g => q T M' hT hS (f'.mono (by omega)) (o1.gr.trans g)
  simp only [ex_c, ex_var, ex_op, ex_un, ex_b, ex_and, ex_or, ex_not, ex_andV, ex_orV, ex_notV, ex_if, ex_chain, ex_nil, ex_cons, ex_tup, ex_lst, ex_call, ex_callP, ex_cb, ex_bm, ex_rep, ex_sl, ex_noPart, ex_part, ex_yes, it_items, it_rng1, it_rng2, tg_name, tg_sub, tg_tup, tg_cons, tg_nil, gs_0, gs_s, ss_0, ss_s, op_ii, op_ss, op_tt, op_mm, op_sb, op_ng, op_iNf, op_iNt, op_lle, op_ixT, op_ixR, op_ixL, op_putE, op_appE, it_tupE, it_rolE, it_refE, lstOf_l, exL, asS_some, asI_int, asB_bl, asL_some, asN_some, ite3_t, ite3_f, bl_1, bl_lenT, bl_lenR, bl_lenL, bl_lenS, bl_tuple, bl_list, bl_abs, bl_intI, bl_intB, bl_max, bl_min, op_eqSf, op_eqSt, op_eqIf, op_eqIt, op_eqTf, op_eqTt, op_eqRf, op_eqRt, op_eqNf, op_eqNt, eqD_int, eqD_nil, pl_int, pl_nil, pl_non, pl_rnil, pl_bl, sl_tupE, sl_rolE, keep_ref, keep_tup, keep_rol, tp_int, tp_tup, tp_rol, tp_str, tp_bl, tp_non, tp_ref, oFd, oMd, oPw, oShl, oLt, oLe, oGt, oGe, op_in, op_cp, wipe_nil, wipe_cons, mset_same, true_and, and_true, isN_int, ex_lstF, ex_repF, ex_lgF1, ex_lgF2, ex_tupRg1, ex_tupRg2, ex_frz, ex_slF, ex_slM, sl_tupF, sl_rolF, op_iiF, op_ssF, op_ttF, op_rrF, op_rrM, op_mmF, op_repF, li_rol, li_ref, bl_listF, bl_allF, bl_anyF, asT_some, asJ_some, op_eqBf, op_eqBt, isN_non, Bool.not_true, Bool.not_false, rep2]
  exact ke _ c _ _ _ fc hc k
end L3
set_option Elab.async false
set_option linter.all false
set_option maxRecDepth 100000
set_option maxHeartbeats 4000000
namespace L3
open PySem PySem.Spec PyProof.Rows L2
theorem sgs_strL {l : List Nat} : sgs (strL l) = l := List.toList_toArray
theorem sgs_app {x y : Str} : sgs (x ++ y) = sgs x ++ sgs y := TL.tl_append x y
theorem len_app {x y : Str} : (x ++ y).length = x.length + y.length := by rw [← len_sgs, sgs_app, List.length_append, len_sgs, len_sgs]
theorem Tx.app {a b m n : Nat} {x y : Str} (hx : Tx a m x) (hy : Tx b n y) : Tx (a + b) (m + n) (x ++ y) := ⟨by rw [sgs_app]; exact hx.run.app hy.run, by rw [len_app]; exact Nat.add_le_add hx.len hy.len⟩
theorem Tx.take {k n s : Nat} {t : Str} (h : Tx k n t) : Tx k n (strL ((sgs t).take s)) := ⟨by rw [sgs_strL]; exact h.run.inf (List.take_prefix _ _).isInfix, by
  rw [← len_sgs, sgs_strL]
  have := List.length_take_le s (sgs t)
  have h2 := h.len
  rw [← len_sgs] at h2
  have h3 : ((sgs t).take s).length ≤ (sgs t).length := (List.take_prefix _ _).length_le
  omega⟩
theorem Tx.drop {k n s : Nat} {t : Str} (h : Tx k n t) : Tx k n (strL ((sgs t).drop s)) := ⟨by rw [sgs_strL]; exact h.run.inf (List.drop_suffix _ _).isInfix, by
  rw [← len_sgs, sgs_strL]
  have h2 := h.len
  rw [← len_sgs] at h2
  have h3 : ((sgs t).drop s).length ≤ (sgs t).length := (List.drop_suffix _ _).length_le
  omega⟩
theorem op_addS {x y : Str} {M : Mp} {Q : VK3} : oAddF (.str x) (.str y) M Q = (x.length + y.length ≤ sizeLine ∧ Q (.str (x ++ y)) M) := rfl
def edP71 : D → Prop := fun d => ∃ e : Ed, d = oD e
def rowP71 : D → Prop := fun d => ∃ ds : List D, d = .tup ds ∧ ds.length ≤ 1000 ∧ ∀ x ∈ ds, edP71 x
def tabP71 : D → Prop := fun d => ∃ ds : List D, d = .tup ds ∧ ds.length ≤ 1000 ∧ ∀ x ∈ ds, rowP71 x
end L3
set_option Elab.async false
set_option linter.all false
set_option maxRecDepth 100000
set_option maxHeartbeats 4000000
namespace L3
open PySem PySem.Spec PyProof.Rows L2
theorem endL_int {l : List Nat} (h : EndL l) (hl : l.length ≤ 4290) (hn : l ≠ [45]) : ∃ n, PySem.intText? (strL l) = some n := by
  have el : (strL l).cps.toList = l := List.toList_toArray
  have hle : (strL l).length ≤ 4300 := by show l.toArray.size ≤ 4300; rw [List.size_toArray]; omega
  rcases h with h | ⟨h1, h2⟩ | ⟨r, rfl, h1, h2⟩
  · exact absurd h hn
  · exact ⟨_, PySem.intText_digits (by rw [el]; exact fun c hc => of_decide_eq_true (h2 c hc)) (by rw [el]; exact h1) hle⟩
  · exact ⟨_, PySem.intText_neg el (fun c hc => of_decide_eq_true (h2 c hc)) h1 hle⟩
theorem endpartL_ok {t : Str} {b : Nat} {te tb : TE3} {τ : St3} {M : Mp} {Q : VK3} (hi : te τ = fun M Q => Q (.int (b : Int)) M) (hb : tb τ = fun M Q => Q (.int ((nE (sgs t) b : Nat) : Int)) M) (h0 : getS τ 0 = some (.str t)) (ht : t.length ≤ 1000000) (hr : Rn 4200 (sgs t)) (hn : nE (sgs t) b ≠ b)
    (q : Q (partL (cutL (sgs t) b (nE (sgs t) b))) M) : wIf (wB (wOp (oEq false) (wSlS (wVar 0) (wPart te) (wPart tb)) (wC (.str ("-" : PySem.Str))))) (wC .non) (wCB bIntL (wCons (wSlS (wVar 0) (wPart te) (wPart tb)) wNil)) τ M Q := by
  have big : (1000000 : Nat) ≤ sizeLine := by decide
  obtain ⟨he, hl⟩ := cut_end hn
  have r1 := run_le hr b
  have r2 := run_le hr (b + 1)
  have es : L2.cutS t (some (b : Int)) (some ((nE (sgs t) b : Nat) : Int)) = strL (cutL (sgs t) b (nE (sgs t) b)) := cut_nat
  rw [ex_if, ex_b, ex_op, stE_slS, ex_var, h0, asS_some]
  simp only [ex_part, hi, hb, asI_int, asSt_s, es, ex_c, op_eqSf, asB_bl]
  refine ⟨by omega, ?_⟩
  unfold partL at q
  generalize cutL (sgs t) b (nE (sgs t) b) = l at he hl es q
  rw [s_minus]
  by_cases hm : l = [45]
  · rw [decide_eq_true (show strL l = strL [45] by rw [hm]), ite3_t]
    rw [if_pos hm] at q
    exact q
  · rw [decide_eq_false (show ¬ strL l = strL [45] from fun z => hm (strL_inj z)), ite3_f]
    rw [if_neg hm] at q
    obtain ⟨n, en⟩ := endL_int he (by omega) hm
    rw [ex_cb, ex_cons, stE_slS, ex_var, h0, asS_some]
    simp only [ex_part, hi, hb, asI_int, asSt_s, es, ex_nil]
    refine ⟨by omega, n, ?_, ?_⟩
    · exact en
    · refine ⟨by show l.toArray.size ≤ sizeLine; rw [List.size_toArray]; omega, ?_⟩
      rw [en] at q
      exact q
def readLR (sg se : Sp3) : XK3 → TS3 := fun E =>
  (wSeq (wIfS (wB (wOp (oEq false) (wSlS (wVar 0) wNoPart (wPart (wC (.int 1)))) (wOp oIx (wC (.str ("none" : PySem.Str))) (wC (.int 0))))) (wSeq (wIfS (wB (wOp oLt (wCallP sg E (wCons (wVar 0) (wCons (wC (.int 0)) (wCons (wC (.str ("none" : PySem.Str))) wNil)))) (wCB bLen (wCons (wVar 0) wNil)))) (wRaise ("NoText" : PySem.Str) [("at" : PySem.Str)] (fun _ => E) (wCons (wCB bLen (wCons (wC (.str ("none" : PySem.Str))) wNil)) wNil)) wNext)
  (wRet (wTup wNil))) wNext)
  (wSeq (wSet 2 (wLst wNil))
  (wSeq (wSet 3 (wC (.int 0)))
  (wSeq (wFor (wRng1 (wCons (wOp oMulF (wVar 1) (wVar 1)) wNil)) (wgName 4) (wSeq (wIfS (wB (wOp oGt (wVar 4) (wC (.int 0)))) (wSet 3 (wCallP sg E (wCons (wVar 0) (wCons (wVar 3) (wCons (wIf (wB (wOp oGt (wOp oMd (wVar 4) (wVar 1)) (wC (.int 0)))) (wC (.str (" " : PySem.Str))) (wC (.str (" / " : PySem.Str)))) wNil))))) wNext)
  (wSeq (wSet 5 (wCallP se E (wCons (wVar 0) (wCons (wVar 3) wNil))))
  (wSeq (wDrop (wBM oApp (wVar 2) (wCons (wIf (wB (wOp (oEq false) (wSlS (wVar 0) (wPart (wVar 3)) (wPart (wVar 5))) (wC (.str ("-" : PySem.Str))))) (wC .non) (wCB bIntL (wCons (wSlS (wVar 0) (wPart (wVar 3)) (wPart (wVar 5))) wNil))) wNil)))
  (wSet 3 (wVar 5))))))
  (wSeq (wIfS (wB (wOp oLt (wVar 3) (wCB bLen (wCons (wVar 0) wNil)))) (wRaise ("NoText" : PySem.Str) [("at" : PySem.Str)] (fun _ => E) (wCons (wVar 3) wNil)) wNext)
  (wRet (wCB bTuple (wCons (wLcF (wRng1 (wCons (wVar 1) wNil)) (wgName 6) wYes (wCB bTuple (wCons (wSlF (wVar 2) (wPart (wOp oMulF (wVar 6) (wVar 1))) (wPart (wOp oMulF (wOp oAddF (wVar 6) (wC (.int 1))) (wVar 1)))) wNil)) [6]) wNil))))))))
def SReadL (sp : Sp3) : Prop := ∀ (t : Str) (m : Nat) (Q : VK3) (E : XK3), t.length ≤ 1000000 → 0 < m → m ≤ 7 → Rn 4200 (sgs t) → (∀ d, readD (sgs t) m = .inr d → ∀ M, Q d M) → (∀ e, readD (sgs t) m = .inl e → ∀ M, E ("NoText" : Str) (atF e) M) → sp [.str t, .int m] M0 Q E
theorem s_readL {sg se : Sp3} (kg : SGone sg) (ke : SEndB se) : SReadL (spOf 2 7 (readLR sg se)) := by
  refine fun t m Q E ht h0 hm hr q1 q2 => ⟨rfl, ?_⟩
  have big : (1000000 : Nat) ≤ sizeLine := by decide
  show readLR sg se E _ [some (.str t), some (.int m), none, none, none, none, none] M0
  unfold readLR
  rw [st_seq, st_if]
  simp only [ex_c, ex_var, ex_op, ex_un, ex_b, ex_and, ex_or, ex_not, ex_andV, ex_orV, ex_notV, ex_if, ex_chain, ex_nil, ex_cons, ex_tup, ex_lst, ex_call, ex_callP, ex_cb, ex_bm, ex_rep, ex_sl, ex_noPart, ex_part, ex_yes, it_items, it_rng1, it_rng2, tg_name, tg_sub, tg_tup, tg_cons, tg_nil, gs_0, gs_s, ss_0, ss_s, op_ii, op_ss, op_tt, op_mm, op_sb, op_ng, op_iNf, op_iNt, op_lle, op_ixT, op_ixR, op_ixL, op_putE, op_appE, it_tupE, it_rolE, it_refE, lstOf_l, exL, asS_some, asI_int, asB_bl, asL_some, asN_some, ite3_t, ite3_f, bl_1, bl_lenT, bl_lenR, bl_lenL, bl_lenS, bl_tuple, bl_list, bl_abs, bl_intI, bl_intB, bl_max, bl_min, op_eqSf, op_eqSt, op_eqIf, op_eqIt, op_eqTf, op_eqTt, op_eqRf, op_eqRt, op_eqNf, op_eqNt, eqD_int, eqD_nil, pl_int, pl_nil, pl_non, pl_rnil, pl_bl, sl_tupE, sl_rolE, keep_ref, keep_tup, keep_rol, tp_int, tp_tup, tp_rol, tp_str, tp_bl, tp_non, tp_ref, oFd, oMd, oPw, oShl, oLt, oLe, oGt, oGe, op_in, op_cp, wipe_nil, wipe_cons, mset_same, true_and, and_true, isN_int, ex_lstF, ex_repF, ex_lgF1, ex_lgF2, ex_tupRg1, ex_tupRg2, ex_frz, ex_slF, ex_slM, sl_tupF, sl_rolF, op_iiF, op_ssF, op_ttF, op_rrF, op_rrM, op_mmF, op_repF, li_rol, li_ref, bl_listF, bl_allF, bl_anyF, asT_some, asJ_some, op_eqBf, op_eqBt, isN_non, Bool.not_true, Bool.not_false, rep2, stE_slS, asSt_s]
  refine ⟨by omega, ?_⟩
  refine ix_sign (i := 0) (c := 110) (by decide +kernel) (by decide +kernel) ?_
  simp only [ex_c, ex_var, ex_op, ex_un, ex_b, ex_and, ex_or, ex_not, ex_andV, ex_orV, ex_notV, ex_if, ex_chain, ex_nil, ex_cons, ex_tup, ex_lst, ex_call, ex_callP, ex_cb, ex_bm, ex_rep, ex_sl, ex_noPart, ex_part, ex_yes, it_items, it_rng1, it_rng2, tg_name, tg_sub, tg_tup, tg_cons, tg_nil, gs_0, gs_s, ss_0, ss_s, op_ii, op_ss, op_tt, op_mm, op_sb, op_ng, op_iNf, op_iNt, op_lle, op_ixT, op_ixR, op_ixL, op_putE, op_appE, it_tupE, it_rolE, it_refE, lstOf_l, exL, asS_some, asI_int, asB_bl, asL_some, asN_some, ite3_t, ite3_f, bl_1, bl_lenT, bl_lenR, bl_lenL, bl_lenS, bl_tuple, bl_list, bl_abs, bl_intI, bl_intB, bl_max, bl_min, op_eqSf, op_eqSt, op_eqIf, op_eqIt, op_eqTf, op_eqTt, op_eqRf, op_eqRt, op_eqNf, op_eqNt, eqD_int, eqD_nil, pl_int, pl_nil, pl_non, pl_rnil, pl_bl, sl_tupE, sl_rolE, keep_ref, keep_tup, keep_rol, tp_int, tp_tup, tp_rol, tp_str, tp_bl, tp_non, tp_ref, oFd, oMd, oPw, oShl, oLt, oLe, oGt, oGe, op_in, op_cp, wipe_nil, wipe_cons, mset_same, true_and, and_true, isN_int, ex_lstF, ex_repF, ex_lgF1, ex_lgF2, ex_tupRg1, ex_tupRg2, ex_frz, ex_slF, ex_slM, sl_tupF, sl_rolF, op_iiF, op_ssF, op_ttF, op_rrF, op_rrM, op_mmF, op_repF, li_rol, li_ref, bl_listF, bl_allF, bl_anyF, asT_some, asJ_some, op_eqBf, op_eqBt, isN_non, Bool.not_true, Bool.not_false, rep2]
  rw [first_sign rfl]
  by_cases hn : (sgs t)[0]? = some 110
  · rw [decide_eq_true hn, ite3_t, st_seq, st_if]
    unfold readD at q1 q2
    rw [if_pos hn] at q1 q2
    simp only [ex_c, ex_var, ex_op, ex_un, ex_b, ex_and, ex_or, ex_not, ex_andV, ex_orV, ex_notV, ex_if, ex_chain, ex_nil, ex_cons, ex_tup, ex_lst, ex_call, ex_callP, ex_cb, ex_bm, ex_rep, ex_sl, ex_noPart, ex_part, ex_yes, it_items, it_rng1, it_rng2, tg_name, tg_sub, tg_tup, tg_cons, tg_nil, gs_0, gs_s, ss_0, ss_s, op_ii, op_ss, op_tt, op_mm, op_sb, op_ng, op_iNf, op_iNt, op_lle, op_ixT, op_ixR, op_ixL, op_putE, op_appE, it_tupE, it_rolE, it_refE, lstOf_l, exL, asS_some, asI_int, asB_bl, asL_some, asN_some, ite3_t, ite3_f, bl_1, bl_lenT, bl_lenR, bl_lenL, bl_lenS, bl_tuple, bl_list, bl_abs, bl_intI, bl_intB, bl_max, bl_min, op_eqSf, op_eqSt, op_eqIf, op_eqIt, op_eqTf, op_eqTt, op_eqRf, op_eqRt, op_eqNf, op_eqNt, eqD_int, eqD_nil, pl_int, pl_nil, pl_non, pl_rnil, pl_bl, sl_tupE, sl_rolE, keep_ref, keep_tup, keep_rol, tp_int, tp_tup, tp_rol, tp_str, tp_bl, tp_non, tp_ref, oFd, oMd, oPw, oShl, oLt, oLe, oGt, oGe, op_in, op_cp, wipe_nil, wipe_cons, mset_same, true_and, and_true, isN_int, ex_lstF, ex_repF, ex_lgF1, ex_lgF2, ex_tupRg1, ex_tupRg2, ex_frz, ex_slF, ex_slM, sl_tupF, sl_rolF, op_iiF, op_ssF, op_ttF, op_rrF, op_rrM, op_mmF, op_repF, li_rol, li_ref, bl_listF, bl_allF, bl_anyF, asT_some, asJ_some, op_eqBf, op_eqBt, isN_non, Bool.not_true, Bool.not_false, rep2]
    rw [s_none]
    refine kg t 0 noneL _ _ ht (by decide) (fun b hb M => ?_) (fun e he M => ?_)
    · rw [hb] at q1 q2
      obtain ⟨rfl, hl⟩ := go_len hb
      have hl := hl (by decide)
      rw [len_sgs] at hl q1 q2
      simp only [ex_c, ex_var, ex_op, ex_un, ex_b, ex_and, ex_or, ex_not, ex_andV, ex_orV, ex_notV, ex_if, ex_chain, ex_nil, ex_cons, ex_tup, ex_lst, ex_call, ex_callP, ex_cb, ex_bm, ex_rep, ex_sl, ex_noPart, ex_part, ex_yes, it_items, it_rng1, it_rng2, tg_name, tg_sub, tg_tup, tg_cons, tg_nil, gs_0, gs_s, ss_0, ss_s, op_ii, op_ss, op_tt, op_mm, op_sb, op_ng, op_iNf, op_iNt, op_lle, op_ixT, op_ixR, op_ixL, op_putE, op_appE, it_tupE, it_rolE, it_refE, lstOf_l, exL, asS_some, asI_int, asB_bl, asL_some, asN_some, ite3_t, ite3_f, bl_1, bl_lenT, bl_lenR, bl_lenL, bl_lenS, bl_tuple, bl_list, bl_abs, bl_intI, bl_intB, bl_max, bl_min, op_eqSf, op_eqSt, op_eqIf, op_eqIt, op_eqTf, op_eqTt, op_eqRf, op_eqRt, op_eqNf, op_eqNt, eqD_int, eqD_nil, pl_int, pl_nil, pl_non, pl_rnil, pl_bl, sl_tupE, sl_rolE, keep_ref, keep_tup, keep_rol, tp_int, tp_tup, tp_rol, tp_str, tp_bl, tp_non, tp_ref, oFd, oMd, oPw, oShl, oLt, oLe, oGt, oGe, op_in, op_cp, wipe_nil, wipe_cons, mset_same, true_and, and_true, isN_int, ex_lstF, ex_repF, ex_lgF1, ex_lgF2, ex_tupRg1, ex_tupRg2, ex_frz, ex_slF, ex_slM, sl_tupF, sl_rolF, op_iiF, op_ssF, op_ttF, op_rrF, op_rrM, op_mmF, op_repF, li_rol, li_ref, bl_listF, bl_allF, bl_anyF, asT_some, asJ_some, op_eqBf, op_eqBt, isN_non, Bool.not_true, Bool.not_false, rep2, bl_lenS]
      by_cases h4 : 4 < t.length
      · rw [decide_eq_true (show (((0 + noneL.length : Nat)) : Int) < ((t.length : Nat) : Int) from by show ((4 : Nat) : Int) < _; omega), ite3_t, stE_raise]
        simp only [ex_c, ex_var, ex_op, ex_un, ex_b, ex_and, ex_or, ex_not, ex_andV, ex_orV, ex_notV, ex_if, ex_chain, ex_nil, ex_cons, ex_tup, ex_lst, ex_call, ex_callP, ex_cb, ex_bm, ex_rep, ex_sl, ex_noPart, ex_part, ex_yes, it_items, it_rng1, it_rng2, tg_name, tg_sub, tg_tup, tg_cons, tg_nil, gs_0, gs_s, ss_0, ss_s, op_ii, op_ss, op_tt, op_mm, op_sb, op_ng, op_iNf, op_iNt, op_lle, op_ixT, op_ixR, op_ixL, op_putE, op_appE, it_tupE, it_rolE, it_refE, lstOf_l, exL, asS_some, asI_int, asB_bl, asL_some, asN_some, ite3_t, ite3_f, bl_1, bl_lenT, bl_lenR, bl_lenL, bl_lenS, bl_tuple, bl_list, bl_abs, bl_intI, bl_intB, bl_max, bl_min, op_eqSf, op_eqSt, op_eqIf, op_eqIt, op_eqTf, op_eqTt, op_eqRf, op_eqRt, op_eqNf, op_eqNt, eqD_int, eqD_nil, pl_int, pl_nil, pl_non, pl_rnil, pl_bl, sl_tupE, sl_rolE, keep_ref, keep_tup, keep_rol, tp_int, tp_tup, tp_rol, tp_str, tp_bl, tp_non, tp_ref, oFd, oMd, oPw, oShl, oLt, oLe, oGt, oGe, op_in, op_cp, wipe_nil, wipe_cons, mset_same, true_and, and_true, isN_int, ex_lstF, ex_repF, ex_lgF1, ex_lgF2, ex_tupRg1, ex_tupRg2, ex_frz, ex_slF, ex_slM, sl_tupF, sl_rolF, op_iiF, op_ssF, op_ttF, op_rrF, op_rrM, op_mmF, op_repF, li_rol, li_ref, bl_listF, bl_allF, bl_anyF, asT_some, asJ_some, op_eqBf, op_eqBt, isN_non, Bool.not_true, Bool.not_false, rep2, bl_lenS]
        refine ⟨by omega, (show (4 : Nat) ≤ sizeLine by omega), rfl, by show 1 ≤ 1000; decide, q2 4 (by dsimp only; rw [if_pos h4]) _⟩
      · rw [decide_eq_false (show ¬ (((0 + noneL.length : Nat)) : Int) < ((t.length : Nat) : Int) from by show ¬ ((4 : Nat) : Int) < _; omega), ite3_f, st_next]
        try dsimp only
        rw [st_ret]
        simp only [ex_c, ex_var, ex_op, ex_un, ex_b, ex_and, ex_or, ex_not, ex_andV, ex_orV, ex_notV, ex_if, ex_chain, ex_nil, ex_cons, ex_tup, ex_lst, ex_call, ex_callP, ex_cb, ex_bm, ex_rep, ex_sl, ex_noPart, ex_part, ex_yes, it_items, it_rng1, it_rng2, tg_name, tg_sub, tg_tup, tg_cons, tg_nil, gs_0, gs_s, ss_0, ss_s, op_ii, op_ss, op_tt, op_mm, op_sb, op_ng, op_iNf, op_iNt, op_lle, op_ixT, op_ixR, op_ixL, op_putE, op_appE, it_tupE, it_rolE, it_refE, lstOf_l, exL, asS_some, asI_int, asB_bl, asL_some, asN_some, ite3_t, ite3_f, bl_1, bl_lenT, bl_lenR, bl_lenL, bl_lenS, bl_tuple, bl_list, bl_abs, bl_intI, bl_intB, bl_max, bl_min, op_eqSf, op_eqSt, op_eqIf, op_eqIt, op_eqTf, op_eqTt, op_eqRf, op_eqRt, op_eqNf, op_eqNt, eqD_int, eqD_nil, pl_int, pl_nil, pl_non, pl_rnil, pl_bl, sl_tupE, sl_rolE, keep_ref, keep_tup, keep_rol, tp_int, tp_tup, tp_rol, tp_str, tp_bl, tp_non, tp_ref, oFd, oMd, oPw, oShl, oLt, oLe, oGt, oGe, op_in, op_cp, wipe_nil, wipe_cons, mset_same, true_and, and_true, isN_int, ex_lstF, ex_repF, ex_lgF1, ex_lgF2, ex_tupRg1, ex_tupRg2, ex_frz, ex_slF, ex_slM, sl_tupF, sl_rolF, op_iiF, op_ssF, op_ttF, op_rrF, op_rrM, op_mmF, op_repF, li_rol, li_ref, bl_listF, bl_allF, bl_anyF, asT_some, asJ_some, op_eqBf, op_eqBt, isN_non, Bool.not_true, Bool.not_false, rep2]
        exact ⟨by omega, Nat.zero_le _, q1 (.tup []) (by dsimp only; rw [if_neg h4]) _⟩
    · rw [he] at q2
      exact q2 _ rfl _
  · rw [decide_eq_false hn, ite3_f, st_next]
    unfold readD at q1 q2
    rw [if_neg hn] at q1 q2
    try dsimp only
    rw [st_seq, st_set]
    simp only [ex_c, ex_var, ex_op, ex_un, ex_b, ex_and, ex_or, ex_not, ex_andV, ex_orV, ex_notV, ex_if, ex_chain, ex_nil, ex_cons, ex_tup, ex_lst, ex_call, ex_callP, ex_cb, ex_bm, ex_rep, ex_sl, ex_noPart, ex_part, ex_yes, it_items, it_rng1, it_rng2, tg_name, tg_sub, tg_tup, tg_cons, tg_nil, gs_0, gs_s, ss_0, ss_s, op_ii, op_ss, op_tt, op_mm, op_sb, op_ng, op_iNf, op_iNt, op_lle, op_ixT, op_ixR, op_ixL, op_putE, op_appE, it_tupE, it_rolE, it_refE, lstOf_l, exL, asS_some, asI_int, asB_bl, asL_some, asN_some, ite3_t, ite3_f, bl_1, bl_lenT, bl_lenR, bl_lenL, bl_lenS, bl_tuple, bl_list, bl_abs, bl_intI, bl_intB, bl_max, bl_min, op_eqSf, op_eqSt, op_eqIf, op_eqIt, op_eqTf, op_eqTt, op_eqRf, op_eqRt, op_eqNf, op_eqNt, eqD_int, eqD_nil, pl_int, pl_nil, pl_non, pl_rnil, pl_bl, sl_tupE, sl_rolE, keep_ref, keep_tup, keep_rol, tp_int, tp_tup, tp_rol, tp_str, tp_bl, tp_non, tp_ref, oFd, oMd, oPw, oShl, oLt, oLe, oGt, oGe, op_in, op_cp, wipe_nil, wipe_cons, mset_same, true_and, and_true, isN_int, ex_lstF, ex_repF, ex_lgF1, ex_lgF2, ex_tupRg1, ex_tupRg2, ex_frz, ex_slF, ex_slM, sl_tupF, sl_rolF, op_iiF, op_ssF, op_ttF, op_rrF, op_rrM, op_mmF, op_repF, li_rol, li_ref, bl_listF, bl_allF, bl_anyF, asT_some, asJ_some, op_eqBf, op_eqBt, isN_non, Bool.not_true, Bool.not_false, rep2]
    refine ⟨Nat.zero_le _, fun p hp => ?_⟩
    try dsimp only
    rw [st_seq, st_set]
    simp only [ex_c, ex_var, ex_op, ex_un, ex_b, ex_and, ex_or, ex_not, ex_andV, ex_orV, ex_notV, ex_if, ex_chain, ex_nil, ex_cons, ex_tup, ex_lst, ex_call, ex_callP, ex_cb, ex_bm, ex_rep, ex_sl, ex_noPart, ex_part, ex_yes, it_items, it_rng1, it_rng2, tg_name, tg_sub, tg_tup, tg_cons, tg_nil, gs_0, gs_s, ss_0, ss_s, op_ii, op_ss, op_tt, op_mm, op_sb, op_ng, op_iNf, op_iNt, op_lle, op_ixT, op_ixR, op_ixL, op_putE, op_appE, it_tupE, it_rolE, it_refE, lstOf_l, exL, asS_some, asI_int, asB_bl, asL_some, asN_some, ite3_t, ite3_f, bl_1, bl_lenT, bl_lenR, bl_lenL, bl_lenS, bl_tuple, bl_list, bl_abs, bl_intI, bl_intB, bl_max, bl_min, op_eqSf, op_eqSt, op_eqIf, op_eqIt, op_eqTf, op_eqTt, op_eqRf, op_eqRt, op_eqNf, op_eqNt, eqD_int, eqD_nil, pl_int, pl_nil, pl_non, pl_rnil, pl_bl, sl_tupE, sl_rolE, keep_ref, keep_tup, keep_rol, tp_int, tp_tup, tp_rol, tp_str, tp_bl, tp_non, tp_ref, oFd, oMd, oPw, oShl, oLt, oLe, oGt, oGe, op_in, op_cp, wipe_nil, wipe_cons, mset_same, true_and, and_true, isN_int, ex_lstF, ex_repF, ex_lgF1, ex_lgF2, ex_tupRg1, ex_tupRg2, ex_frz, ex_slF, ex_slM, sl_tupF, sl_rolF, op_iiF, op_ssF, op_ttF, op_rrF, op_rrM, op_mmF, op_repF, li_rol, li_ref, bl_listF, bl_allF, bl_anyF, asT_some, asJ_some, op_eqBf, op_eqBt, isN_non, Bool.not_true, Bool.not_false, rep2]
    try dsimp only
    rw [st_seq, st_for]
    have h49 : (m : Int) * (m : Int) = ((m * m : Nat) : Int) := by rw [Int.natCast_mul]
    have hmm : m * m ≤ 49 := Nat.mul_le_mul hm hm
    simp only [ex_c, ex_var, ex_op, ex_un, ex_b, ex_and, ex_or, ex_not, ex_andV, ex_orV, ex_notV, ex_if, ex_chain, ex_nil, ex_cons, ex_tup, ex_lst, ex_call, ex_callP, ex_cb, ex_bm, ex_rep, ex_sl, ex_noPart, ex_part, ex_yes, it_items, it_rng1, it_rng2, tg_name, tg_sub, tg_tup, tg_cons, tg_nil, gs_0, gs_s, ss_0, ss_s, op_ii, op_ss, op_tt, op_mm, op_sb, op_ng, op_iNf, op_iNt, op_lle, op_ixT, op_ixR, op_ixL, op_putE, op_appE, it_tupE, it_rolE, it_refE, lstOf_l, exL, asS_some, asI_int, asB_bl, asL_some, asN_some, ite3_t, ite3_f, bl_1, bl_lenT, bl_lenR, bl_lenL, bl_lenS, bl_tuple, bl_list, bl_abs, bl_intI, bl_intB, bl_max, bl_min, op_eqSf, op_eqSt, op_eqIf, op_eqIt, op_eqTf, op_eqTt, op_eqRf, op_eqRt, op_eqNf, op_eqNt, eqD_int, eqD_nil, pl_int, pl_nil, pl_non, pl_rnil, pl_bl, sl_tupE, sl_rolE, keep_ref, keep_tup, keep_rol, tp_int, tp_tup, tp_rol, tp_str, tp_bl, tp_non, tp_ref, oFd, oMd, oPw, oShl, oLt, oLe, oGt, oGe, op_in, op_cp, wipe_nil, wipe_cons, mset_same, true_and, and_true, isN_int, ex_lstF, ex_repF, ex_lgF1, ex_lgF2, ex_tupRg1, ex_tupRg2, ex_frz, ex_slF, ex_slM, sl_tupF, sl_rolF, op_iiF, op_ssF, op_ttF, op_rrF, op_rrM, op_mmF, op_repF, li_rol, li_ref, bl_listF, bl_allF, bl_anyF, asT_some, asJ_some, op_eqBf, op_eqBt, isN_non, Bool.not_true, Bool.not_false, rep2]
    rw [h49]
    refine ⟨mulL (by omega) (by omega), by omega, by omega, ?_⟩
    rw [Int.toNat_natCast]
    refine for_rg (fun k τ M => k ≤ m * m ∧ ∃ ds i x4 x5, scanN (sgs t) m k = .inr (ds, i) ∧ M p = some (.lst ds) ∧ τ = [some (.str t), some (.int m), some (.ref p), some (.int (i : Nat)), x4, x5, none]) ?_ ?_ ⟨Nat.zero_le _, [], 0, _, _, rfl, mset_same, rfl⟩
    · rintro k τ M hk ⟨_, ds, i, x4, x5, hs, hM, rfl⟩ X hX
      have rest : ∀ b : Nat, goS (sgs t) (sepL m k) i = .inr b → (wSeq (wSet 5 (wCallP se E (wCons (wVar 0) (wCons (wVar 3) wNil))))
  (wSeq (wDrop (wBM oApp (wVar 2) (wCons (wIf (wB (wOp (oEq false) (wSlS (wVar 0) (wPart (wVar 3)) (wPart (wVar 5))) (wC (.str ("-" : PySem.Str))))) (wC .non) (wCB bIntL (wCons (wSlS (wVar 0) (wPart (wVar 3)) (wPart (wVar 5))) wNil))) wNil)))
  (wSet 3 (wVar 5)))) { nx := X, rt := Q, ct := X, bk := fun τ' M' => (wSeq (wIfS (wB (wOp oLt (wVar 3) (wCB bLen (wCons (wVar 0) wNil)))) (wRaise ("NoText" : PySem.Str) [("at" : PySem.Str)] (fun _ => E) (wCons (wVar 3) wNil)) wNext) (wRet (wCB bTuple (wCons (wLcF (wRng1 (wCons (wVar 1) wNil)) (wgName 6) wYes (wCB bTuple (wCons (wSlF (wVar 2) (wPart (wOp oMulF (wVar 6) (wVar 1))) (wPart (wOp oMulF (wOp oAddF (wVar 6) (wC (.int 1))) (wVar 1)))) wNil)) [6]) wNil)))) { nx := fun x M' => Q D.non M', rt := Q } τ' M' } [some (.str t), some (.int m), some (.ref p), some (.int (b : Nat)), some (.int ((k : Nat) : Int)), x5, none] M := fun b hb => by
        have sk : scanN (sgs t) m (k + 1) = if nE (sgs t) b = b then .inl b else .inr (ds ++ [partL (cutL (sgs t) b (nE (sgs t) b))], nE (sgs t) b) := by
          show (match scanN (sgs t) m k with | .inl e => _ | .inr (ds, i) => _) = _
          rw [hs]
          dsimp only
          rw [hb]
        rw [st_seq, st_set]
        simp only [ex_c, ex_var, ex_op, ex_un, ex_b, ex_and, ex_or, ex_not, ex_andV, ex_orV, ex_notV, ex_if, ex_chain, ex_nil, ex_cons, ex_tup, ex_lst, ex_call, ex_callP, ex_cb, ex_bm, ex_rep, ex_sl, ex_noPart, ex_part, ex_yes, it_items, it_rng1, it_rng2, tg_name, tg_sub, tg_tup, tg_cons, tg_nil, gs_0, gs_s, ss_0, ss_s, op_ii, op_ss, op_tt, op_mm, op_sb, op_ng, op_iNf, op_iNt, op_lle, op_ixT, op_ixR, op_ixL, op_putE, op_appE, it_tupE, it_rolE, it_refE, lstOf_l, exL, asS_some, asI_int, asB_bl, asL_some, asN_some, ite3_t, ite3_f, bl_1, bl_lenT, bl_lenR, bl_lenL, bl_lenS, bl_tuple, bl_list, bl_abs, bl_intI, bl_intB, bl_max, bl_min, op_eqSf, op_eqSt, op_eqIf, op_eqIt, op_eqTf, op_eqTt, op_eqRf, op_eqRt, op_eqNf, op_eqNt, eqD_int, eqD_nil, pl_int, pl_nil, pl_non, pl_rnil, pl_bl, sl_tupE, sl_rolE, keep_ref, keep_tup, keep_rol, tp_int, tp_tup, tp_rol, tp_str, tp_bl, tp_non, tp_ref, oFd, oMd, oPw, oShl, oLt, oLe, oGt, oGe, op_in, op_cp, wipe_nil, wipe_cons, mset_same, true_and, and_true, isN_int, ex_lstF, ex_repF, ex_lgF1, ex_lgF2, ex_tupRg1, ex_tupRg2, ex_frz, ex_slF, ex_slM, sl_tupF, sl_rolF, op_iiF, op_ssF, op_ttF, op_rrF, op_rrM, op_mmF, op_repF, li_rol, li_ref, bl_listF, bl_allF, bl_anyF, asT_some, asJ_some, op_eqBf, op_eqBt, isN_non, Bool.not_true, Bool.not_false, rep2]
        refine ke t b _ _ ht (fun hne M' => ?_) (fun he M' => ?_)
        · rw [if_neg hne] at sk
          try dsimp only
          rw [st_seq, st_drop, ex_bm, ex_var]
          simp only [gs_s, gs_0, asS_some]
          refine ⟨⟨_, hM⟩, ?_⟩
          rw [ex_cons]
          refine endpartL_ok (te := wVar 3) (tb := wVar 5) (b := b) ?_ ?_ rfl ht hr hne ?_
          · funext M Q; rfl
          · funext M Q; rfl
          · rw [ex_nil]
            unfold oApp
            dsimp only
            rw [hM]
            dsimp only
            have hl := scan_len hs
            refine ⟨by omega, ?_⟩
            rw [st_set]
            simp only [ex_c, ex_var, ex_op, ex_un, ex_b, ex_and, ex_or, ex_not, ex_andV, ex_orV, ex_notV, ex_if, ex_chain, ex_nil, ex_cons, ex_tup, ex_lst, ex_call, ex_callP, ex_cb, ex_bm, ex_rep, ex_sl, ex_noPart, ex_part, ex_yes, it_items, it_rng1, it_rng2, tg_name, tg_sub, tg_tup, tg_cons, tg_nil, gs_0, gs_s, ss_0, ss_s, op_ii, op_ss, op_tt, op_mm, op_sb, op_ng, op_iNf, op_iNt, op_lle, op_ixT, op_ixR, op_ixL, op_putE, op_appE, it_tupE, it_rolE, it_refE, lstOf_l, exL, asS_some, asI_int, asB_bl, asL_some, asN_some, ite3_t, ite3_f, bl_1, bl_lenT, bl_lenR, bl_lenL, bl_lenS, bl_tuple, bl_list, bl_abs, bl_intI, bl_intB, bl_max, bl_min, op_eqSf, op_eqSt, op_eqIf, op_eqIt, op_eqTf, op_eqTt, op_eqRf, op_eqRt, op_eqNf, op_eqNt, eqD_int, eqD_nil, pl_int, pl_nil, pl_non, pl_rnil, pl_bl, sl_tupE, sl_rolE, keep_ref, keep_tup, keep_rol, tp_int, tp_tup, tp_rol, tp_str, tp_bl, tp_non, tp_ref, oFd, oMd, oPw, oShl, oLt, oLe, oGt, oGe, op_in, op_cp, wipe_nil, wipe_cons, mset_same, true_and, and_true, isN_int, ex_lstF, ex_repF, ex_lgF1, ex_lgF2, ex_tupRg1, ex_tupRg2, ex_frz, ex_slF, ex_slM, sl_tupF, sl_rolF, op_iiF, op_ssF, op_ttF, op_rrF, op_rrM, op_mmF, op_repF, li_rol, li_ref, bl_listF, bl_allF, bl_anyF, asT_some, asJ_some, op_eqBf, op_eqBt, isN_non, Bool.not_true, Bool.not_false, rep2]
            exact hX _ _ ⟨hk, _, _, _, _, sk, mset_same, rfl⟩
        · rw [if_pos he] at sk
          exact q2 b (scan_at sk hk) _
      rw [tg_name, st_seq, st_if]
      have ek : (0 : Int) + (k : Nat) = ((k : Nat) : Int) := by omega
      rw [ek]
      simp only [ex_c, ex_var, ex_op, ex_un, ex_b, ex_and, ex_or, ex_not, ex_andV, ex_orV, ex_notV, ex_if, ex_chain, ex_nil, ex_cons, ex_tup, ex_lst, ex_call, ex_callP, ex_cb, ex_bm, ex_rep, ex_sl, ex_noPart, ex_part, ex_yes, it_items, it_rng1, it_rng2, tg_name, tg_sub, tg_tup, tg_cons, tg_nil, gs_0, gs_s, ss_0, ss_s, op_ii, op_ss, op_tt, op_mm, op_sb, op_ng, op_iNf, op_iNt, op_lle, op_ixT, op_ixR, op_ixL, op_putE, op_appE, it_tupE, it_rolE, it_refE, lstOf_l, exL, asS_some, asI_int, asB_bl, asL_some, asN_some, ite3_t, ite3_f, bl_1, bl_lenT, bl_lenR, bl_lenL, bl_lenS, bl_tuple, bl_list, bl_abs, bl_intI, bl_intB, bl_max, bl_min, op_eqSf, op_eqSt, op_eqIf, op_eqIt, op_eqTf, op_eqTt, op_eqRf, op_eqRt, op_eqNf, op_eqNt, eqD_int, eqD_nil, pl_int, pl_nil, pl_non, pl_rnil, pl_bl, sl_tupE, sl_rolE, keep_ref, keep_tup, keep_rol, tp_int, tp_tup, tp_rol, tp_str, tp_bl, tp_non, tp_ref, oFd, oMd, oPw, oShl, oLt, oLe, oGt, oGe, op_in, op_cp, wipe_nil, wipe_cons, mset_same, true_and, and_true, isN_int, ex_lstF, ex_repF, ex_lgF1, ex_lgF2, ex_tupRg1, ex_tupRg2, ex_frz, ex_slF, ex_slM, sl_tupF, sl_rolF, op_iiF, op_ssF, op_ttF, op_rrF, op_rrM, op_mmF, op_repF, li_rol, li_ref, bl_listF, bl_allF, bl_anyF, asT_some, asJ_some, op_eqBf, op_eqBt, isN_non, Bool.not_true, Bool.not_false, rep2]
      by_cases hk0 : k = 0
      · rw [decide_eq_false (by omega), ite3_f, st_next]
        exact rest i (by rw [hk0]; rfl)
      · rw [decide_eq_true (by omega), ite3_t, st_set]
        simp only [ex_c, ex_var, ex_op, ex_un, ex_b, ex_and, ex_or, ex_not, ex_andV, ex_orV, ex_notV, ex_if, ex_chain, ex_nil, ex_cons, ex_tup, ex_lst, ex_call, ex_callP, ex_cb, ex_bm, ex_rep, ex_sl, ex_noPart, ex_part, ex_yes, it_items, it_rng1, it_rng2, tg_name, tg_sub, tg_tup, tg_cons, tg_nil, gs_0, gs_s, ss_0, ss_s, op_ii, op_ss, op_tt, op_mm, op_sb, op_ng, op_iNf, op_iNt, op_lle, op_ixT, op_ixR, op_ixL, op_putE, op_appE, it_tupE, it_rolE, it_refE, lstOf_l, exL, asS_some, asI_int, asB_bl, asL_some, asN_some, ite3_t, ite3_f, bl_1, bl_lenT, bl_lenR, bl_lenL, bl_lenS, bl_tuple, bl_list, bl_abs, bl_intI, bl_intB, bl_max, bl_min, op_eqSf, op_eqSt, op_eqIf, op_eqIt, op_eqTf, op_eqTt, op_eqRf, op_eqRt, op_eqNf, op_eqNt, eqD_int, eqD_nil, pl_int, pl_nil, pl_non, pl_rnil, pl_bl, sl_tupE, sl_rolE, keep_ref, keep_tup, keep_rol, tp_int, tp_tup, tp_rol, tp_str, tp_bl, tp_non, tp_ref, oFd, oMd, oPw, oShl, oLt, oLe, oGt, oGe, op_in, op_cp, wipe_nil, wipe_cons, mset_same, true_and, and_true, isN_int, ex_lstF, ex_repF, ex_lgF1, ex_lgF2, ex_tupRg1, ex_tupRg2, ex_frz, ex_slF, ex_slM, sl_tupF, sl_rolF, op_iiF, op_ssF, op_ttF, op_rrF, op_rrM, op_mmF, op_repF, li_rol, li_ref, bl_listF, bl_allF, bl_anyF, asT_some, asJ_some, op_eqBf, op_eqBt, isN_non, Bool.not_true, Bool.not_false, rep2]
        have em : ((k : Nat) : Int).fmod (m : Int) = ((k % m : Nat) : Int) := by
          rw [Int.fmod_eq_emod_of_nonneg _ (by omega)]; rfl
        rw [em]
        have bad : ∀ e, goS (sgs t) (sepL m k) i = .inl e → ∀ M' : Mp, E ("NoText" : Str) (atF e) M' := fun e he M' => by
          refine q2 e (scan_at (k := k + 1) ?_ hk) _
          show (match scanN (sgs t) m k with | .inl e => _ | .inr (ds, i) => _) = _
          rw [hs]
          dsimp only
          rw [he]
        refine ⟨by omega, ?_⟩
        by_cases hz : k % m = 0
        · have hsep : sepL m k = [32, 47, 32] := by unfold sepL; rw [if_neg hk0, if_pos hz]
          rw [hz, decide_eq_false (by omega), ite3_f, s_slash, ← hsep]
          exact kg t i _ _ _ ht (by rw [hsep]; decide) (fun b hb M' => rest b hb) (fun e he M' => bad e he _)
        · have hsep : sepL m k = [32] := by unfold sepL; rw [if_neg hk0, if_neg hz]
          rw [decide_eq_true (by omega), ite3_t, s_blank, ← hsep]
          exact kg t i _ _ _ ht (by rw [hsep]; decide) (fun b hb M' => rest b hb) (fun e he M' => bad e he _)
    · rintro τ M ⟨_, ds, i, x4, x5, hs, hM, rfl⟩
      have hl := scan_len hs
      try dsimp only
      unfold scanD at q1 q2
      rw [hs] at q1 q2
      dsimp only at q1 q2
      rw [len_sgs] at q1 q2
      rw [st_seq, st_if]
      simp only [ex_c, ex_var, ex_op, ex_un, ex_b, ex_and, ex_or, ex_not, ex_andV, ex_orV, ex_notV, ex_if, ex_chain, ex_nil, ex_cons, ex_tup, ex_lst, ex_call, ex_callP, ex_cb, ex_bm, ex_rep, ex_sl, ex_noPart, ex_part, ex_yes, it_items, it_rng1, it_rng2, tg_name, tg_sub, tg_tup, tg_cons, tg_nil, gs_0, gs_s, ss_0, ss_s, op_ii, op_ss, op_tt, op_mm, op_sb, op_ng, op_iNf, op_iNt, op_lle, op_ixT, op_ixR, op_ixL, op_putE, op_appE, it_tupE, it_rolE, it_refE, lstOf_l, exL, asS_some, asI_int, asB_bl, asL_some, asN_some, ite3_t, ite3_f, bl_1, bl_lenT, bl_lenR, bl_lenL, bl_lenS, bl_tuple, bl_list, bl_abs, bl_intI, bl_intB, bl_max, bl_min, op_eqSf, op_eqSt, op_eqIf, op_eqIt, op_eqTf, op_eqTt, op_eqRf, op_eqRt, op_eqNf, op_eqNt, eqD_int, eqD_nil, pl_int, pl_nil, pl_non, pl_rnil, pl_bl, sl_tupE, sl_rolE, keep_ref, keep_tup, keep_rol, tp_int, tp_tup, tp_rol, tp_str, tp_bl, tp_non, tp_ref, oFd, oMd, oPw, oShl, oLt, oLe, oGt, oGe, op_in, op_cp, wipe_nil, wipe_cons, mset_same, true_and, and_true, isN_int, ex_lstF, ex_repF, ex_lgF1, ex_lgF2, ex_tupRg1, ex_tupRg2, ex_frz, ex_slF, ex_slM, sl_tupF, sl_rolF, op_iiF, op_ssF, op_ttF, op_rrF, op_rrM, op_mmF, op_repF, li_rol, li_ref, bl_listF, bl_allF, bl_anyF, asT_some, asJ_some, op_eqBf, op_eqBt, isN_non, Bool.not_true, Bool.not_false, rep2, bl_lenS]
      refine ⟨by omega, ?_⟩
      by_cases hlt : i < t.length
      · rw [decide_eq_true (show ((i : Nat) : Int) < ((t.length : Nat) : Int) by omega), ite3_t, stE_raise]
        rw [if_pos hlt] at q2
        simp only [ex_c, ex_var, ex_op, ex_un, ex_b, ex_and, ex_or, ex_not, ex_andV, ex_orV, ex_notV, ex_if, ex_chain, ex_nil, ex_cons, ex_tup, ex_lst, ex_call, ex_callP, ex_cb, ex_bm, ex_rep, ex_sl, ex_noPart, ex_part, ex_yes, it_items, it_rng1, it_rng2, tg_name, tg_sub, tg_tup, tg_cons, tg_nil, gs_0, gs_s, ss_0, ss_s, op_ii, op_ss, op_tt, op_mm, op_sb, op_ng, op_iNf, op_iNt, op_lle, op_ixT, op_ixR, op_ixL, op_putE, op_appE, it_tupE, it_rolE, it_refE, lstOf_l, exL, asS_some, asI_int, asB_bl, asL_some, asN_some, ite3_t, ite3_f, bl_1, bl_lenT, bl_lenR, bl_lenL, bl_lenS, bl_tuple, bl_list, bl_abs, bl_intI, bl_intB, bl_max, bl_min, op_eqSf, op_eqSt, op_eqIf, op_eqIt, op_eqTf, op_eqTt, op_eqRf, op_eqRt, op_eqNf, op_eqNt, eqD_int, eqD_nil, pl_int, pl_nil, pl_non, pl_rnil, pl_bl, sl_tupE, sl_rolE, keep_ref, keep_tup, keep_rol, tp_int, tp_tup, tp_rol, tp_str, tp_bl, tp_non, tp_ref, oFd, oMd, oPw, oShl, oLt, oLe, oGt, oGe, op_in, op_cp, wipe_nil, wipe_cons, mset_same, true_and, and_true, isN_int, ex_lstF, ex_repF, ex_lgF1, ex_lgF2, ex_tupRg1, ex_tupRg2, ex_frz, ex_slF, ex_slM, sl_tupF, sl_rolF, op_iiF, op_ssF, op_ttF, op_rrF, op_rrM, op_mmF, op_repF, li_rol, li_ref, bl_listF, bl_allF, bl_anyF, asT_some, asJ_some, op_eqBf, op_eqBt, isN_non, Bool.not_true, Bool.not_false, rep2]
        exact ⟨rfl, by show 1 ≤ 1000; decide, q2 i rfl _⟩
      · rw [decide_eq_false (show ¬ ((i : Nat) : Int) < ((t.length : Nat) : Int) by omega), ite3_f, st_next]
        rw [if_neg hlt] at q1
        try dsimp only
        rw [st_ret]
        refine rows_of hm hl hM rfl rfl ⟨by decide, by decide, by show 6 < 7; decide⟩ (fun n K hK => ?_) (fun n K hK => ?_) (q1 _ rfl _)
        · show wOp oMulF (wVar 6) (wVar 1) [some (.str t), some (.int m), some (.ref p), some (.int (i : Nat)), x4, x5, some (.int (0 + (n : Int)))] M K
          rw [show (0 : Int) + (n : Int) = ((n : Nat) : Int) by omega]
          simp only [ex_c, ex_var, ex_op, ex_un, ex_b, ex_and, ex_or, ex_not, ex_andV, ex_orV, ex_notV, ex_if, ex_chain, ex_nil, ex_cons, ex_tup, ex_lst, ex_call, ex_callP, ex_cb, ex_bm, ex_rep, ex_sl, ex_noPart, ex_part, ex_yes, it_items, it_rng1, it_rng2, tg_name, tg_sub, tg_tup, tg_cons, tg_nil, gs_0, gs_s, ss_0, ss_s, op_ii, op_ss, op_tt, op_mm, op_sb, op_ng, op_iNf, op_iNt, op_lle, op_ixT, op_ixR, op_ixL, op_putE, op_appE, it_tupE, it_rolE, it_refE, lstOf_l, exL, asS_some, asI_int, asB_bl, asL_some, asN_some, ite3_t, ite3_f, bl_1, bl_lenT, bl_lenR, bl_lenL, bl_lenS, bl_tuple, bl_list, bl_abs, bl_intI, bl_intB, bl_max, bl_min, op_eqSf, op_eqSt, op_eqIf, op_eqIt, op_eqTf, op_eqTt, op_eqRf, op_eqRt, op_eqNf, op_eqNt, eqD_int, eqD_nil, pl_int, pl_nil, pl_non, pl_rnil, pl_bl, sl_tupE, sl_rolE, keep_ref, keep_tup, keep_rol, tp_int, tp_tup, tp_rol, tp_str, tp_bl, tp_non, tp_ref, oFd, oMd, oPw, oShl, oLt, oLe, oGt, oGe, op_in, op_cp, wipe_nil, wipe_cons, mset_same, true_and, and_true, isN_int, ex_lstF, ex_repF, ex_lgF1, ex_lgF2, ex_tupRg1, ex_tupRg2, ex_frz, ex_slF, ex_slM, sl_tupF, sl_rolF, op_iiF, op_ssF, op_ttF, op_rrF, op_rrM, op_mmF, op_repF, li_rol, li_ref, bl_listF, bl_allF, bl_anyF, asT_some, asJ_some, op_eqBf, op_eqBt, isN_non, Bool.not_true, Bool.not_false, rep2]
          refine ⟨mulR (by omega) (by omega), ?_⟩
          rw [← Int.natCast_mul]; exact hK
        · show wOp oMulF (wOp oAddF (wVar 6) (wC (.int 1))) (wVar 1) [some (.str t), some (.int m), some (.ref p), some (.int (i : Nat)), x4, x5, some (.int (0 + (n : Int)))] M K
          rw [show (0 : Int) + (n : Int) = ((n : Nat) : Int) by omega]
          simp only [ex_c, ex_var, ex_op, ex_un, ex_b, ex_and, ex_or, ex_not, ex_andV, ex_orV, ex_notV, ex_if, ex_chain, ex_nil, ex_cons, ex_tup, ex_lst, ex_call, ex_callP, ex_cb, ex_bm, ex_rep, ex_sl, ex_noPart, ex_part, ex_yes, it_items, it_rng1, it_rng2, tg_name, tg_sub, tg_tup, tg_cons, tg_nil, gs_0, gs_s, ss_0, ss_s, op_ii, op_ss, op_tt, op_mm, op_sb, op_ng, op_iNf, op_iNt, op_lle, op_ixT, op_ixR, op_ixL, op_putE, op_appE, it_tupE, it_rolE, it_refE, lstOf_l, exL, asS_some, asI_int, asB_bl, asL_some, asN_some, ite3_t, ite3_f, bl_1, bl_lenT, bl_lenR, bl_lenL, bl_lenS, bl_tuple, bl_list, bl_abs, bl_intI, bl_intB, bl_max, bl_min, op_eqSf, op_eqSt, op_eqIf, op_eqIt, op_eqTf, op_eqTt, op_eqRf, op_eqRt, op_eqNf, op_eqNt, eqD_int, eqD_nil, pl_int, pl_nil, pl_non, pl_rnil, pl_bl, sl_tupE, sl_rolE, keep_ref, keep_tup, keep_rol, tp_int, tp_tup, tp_rol, tp_str, tp_bl, tp_non, tp_ref, oFd, oMd, oPw, oShl, oLt, oLe, oGt, oGe, op_in, op_cp, wipe_nil, wipe_cons, mset_same, true_and, and_true, isN_int, ex_lstF, ex_repF, ex_lgF1, ex_lgF2, ex_tupRg1, ex_tupRg2, ex_frz, ex_slF, ex_slM, sl_tupF, sl_rolF, op_iiF, op_ssF, op_ttF, op_rrF, op_rrM, op_mmF, op_repF, li_rol, li_ref, bl_listF, bl_allF, bl_anyF, asT_some, asJ_some, op_eqBf, op_eqBt, isN_non, Bool.not_true, Bool.not_false, rep2]
          refine ⟨mulR (by omega) (by omega), ?_⟩
          rw [show ((n : Nat) : Int) + 1 = ((n + 1 : Nat) : Int) by omega, ← Int.natCast_mul]; exact hK
end L3
set_option Elab.async false
set_option linter.all false
set_option maxRecDepth 100000
set_option maxHeartbeats 4000000
namespace L3
open PySem PySem.Spec PyProof.Rows L2
def EdL (e : Ed) : Prop := ∀ j : Int, e = some j → j.natAbs < 10 ^ 1000
structure TabL (T : Tab) : Prop where
  len : T.length ≤ 7
  row : ∀ r ∈ T, r.length ≤ 7
  ed : ∀ r ∈ T, ∀ e ∈ r, EdL e
theorem TabK.l {T : Tab} (h : TabK T) : TabL T := ⟨h.len, h.row, fun r hr e he j hj => Nat.lt_of_lt_of_le (h.ed r hr e he j hj) (Nat.pow_le_pow_right (by decide) (show 40 ≤ 1000 by decide))⟩
theorem endL_tx {e : Ed} (h : EdL e) : Tx 1001 1001 (endS e) := by
  refine Tx.of ?_
  cases e with
  | none => show (("-" : Str)).length ≤ 1001; decide +kernel
  | some i =>
    show (Str.ofString (toString i)).length ≤ 1001
    rw [PySem.ofString_length]
    exact int_text_length_le10 (k := 1000) (by decide) (h i rfl)
theorem edL_fits {i : Int} (h : i.natAbs < 10 ^ 1000) : i.natAbs < 10 ^ 4300 := Nat.lt_of_lt_of_le h (Nat.pow_le_pow_right (by decide) (show 1000 ≤ 4300 by decide))
def rowT (r : List Ed) : Str := Txt.join (" " : Str) (r.map endS)
def writT (T : Tab) : Str := if T = [] then ("none" : Str) else Txt.join (" / " : Str) (T.map rowT)
theorem rowT_tx {T : Tab} (h : TabL T) {r : List Ed} (hr : r ∈ T) : Tx 1001 7028 (rowT r) := by
  have ht : ∀ s ∈ r.map endS, Tx 1001 1001 s := fun s hs => by
    obtain ⟨e, he, rfl⟩ := List.mem_map.mp hs
    exact endL_tx (h.ed r hr e he)
  have hj := join_tx sg_blank (by decide) (by decide) ht
  rw [List.length_map] at hj
  have := h.row r hr
  exact hj.mono (Nat.le_refl _) (by omega)
theorem writT_tx {T : Tab} (h : TabL T) : Tx 1001 50000 (writT T) := by
  unfold writT
  by_cases he : T = []
  · rw [if_pos he]; exact (Tx.of (n := 41) (by decide +kernel)).mono (by decide) (by decide)
  · rw [if_neg he]
    have ht : ∀ s ∈ T.map rowT, Tx 1001 7028 s := fun s hs => by
      obtain ⟨r, hr, rfl⟩ := List.mem_map.mp hs
      exact rowT_tx h hr
    have hj := join_tx sg_slash (by decide) (by decide) ht
    rw [List.length_map] at hj
    have := h.len
    exact hj.mono (Nat.le_refl _) (by omega)
def SWritX (sp : Sp3) : Prop := ∀ (T : Tab) (Q : VK3) (E : XK3), TabL T → (∀ M, Q (.str (writT T)) M) → sp [tabD T] M0 Q E
/-- a row of ends, joined -/
theorem row_join {T : Tab} (hT : TabL T) {r : List Ed} (hm : r ∈ T) {i j : Nat} {τ : St3} {M : Mp} {Q : VK3} (hi : getS τ i = some (rowD r)) (hj : j < τ.length) (q : Q (.str (rowT r)) M) :
    wJoin (wC (.str (" " : PySem.Str))) (wLcF (wItems (wVar i)) (wgName j) wYes (wIf (wB (wOp (oIsN false) (wVar j) (wC .non))) (wC (.str ("-" : PySem.Str))) (wCB bStrL (wCons (wVar j) wNil))) [j]) τ M Q := by
  have big : (1000000 : Nat) ≤ sizeLine := by decide
  have hrl := hT.row r hm
  rw [stE_join, ex_c, asSt_s, ex_lcF, it_items, ex_var, hi, asS_some]
  show lcW _ _ _ _ _ _ (r.map oD) [] M
  refine lc_of oD (fun e => .str (endS e)) True.intro r (by omega) (fun e he K qK => ?_) ?_
  · have gj : getS (setS (wipe3 τ [j]) j (some (oD e))) j = some (oD e) := by
      rw [getS_set, if_pos ⟨rfl, by show j < (setS τ j none).length; rw [setS_len]; exact hj⟩]
    rw [tg_name, ex_if, ex_b, ex_op, ex_var, gj, asS_some]
    cases e with
    | none =>
      simp only [ex_c, ex_var, ex_op, ex_un, ex_b, ex_and, ex_or, ex_not, ex_andV, ex_orV, ex_notV, ex_if, ex_chain, ex_nil, ex_cons, ex_tup, ex_lst, ex_call, ex_callP, ex_cb, ex_bm, ex_rep, ex_sl, ex_noPart, ex_part, ex_yes, it_items, it_rng1, it_rng2, tg_name, tg_sub, tg_tup, tg_cons, tg_nil, gs_0, gs_s, ss_0, ss_s, op_ii, op_ss, op_tt, op_mm, op_sb, op_ng, op_iNf, op_iNt, op_lle, op_ixT, op_ixR, op_ixL, op_putE, op_appE, it_tupE, it_rolE, it_refE, lstOf_l, exL, asS_some, asI_int, asB_bl, asL_some, asN_some, ite3_t, ite3_f, bl_1, bl_lenT, bl_lenR, bl_lenL, bl_lenS, bl_tuple, bl_list, bl_abs, bl_intI, bl_intB, bl_max, bl_min, op_eqSf, op_eqSt, op_eqIf, op_eqIt, op_eqTf, op_eqTt, op_eqRf, op_eqRt, op_eqNf, op_eqNt, eqD_int, eqD_nil, pl_int, pl_nil, pl_non, pl_rnil, pl_bl, sl_tupE, sl_rolE, keep_ref, keep_tup, keep_rol, tp_int, tp_tup, tp_rol, tp_str, tp_bl, tp_non, tp_ref, oFd, oMd, oPw, oShl, oLt, oLe, oGt, oGe, op_in, op_cp, wipe_nil, wipe_cons, mset_same, true_and, and_true, isN_int, ex_lstF, ex_repF, ex_lgF1, ex_lgF2, ex_tupRg1, ex_tupRg2, ex_frz, ex_slF, ex_slM, sl_tupF, sl_rolF, op_iiF, op_ssF, op_ttF, op_rrF, op_rrM, op_mmF, op_repF, li_rol, li_ref, bl_listF, bl_allF, bl_anyF, asT_some, asJ_some, op_eqBf, op_eqBt, isN_non, Bool.not_true, Bool.not_false, rep2, oD]
      exact qK
    | some i =>
      simp only [ex_c, ex_var, ex_op, ex_un, ex_b, ex_and, ex_or, ex_not, ex_andV, ex_orV, ex_notV, ex_if, ex_chain, ex_nil, ex_cons, ex_tup, ex_lst, ex_call, ex_callP, ex_cb, ex_bm, ex_rep, ex_sl, ex_noPart, ex_part, ex_yes, it_items, it_rng1, it_rng2, tg_name, tg_sub, tg_tup, tg_cons, tg_nil, gs_0, gs_s, ss_0, ss_s, op_ii, op_ss, op_tt, op_mm, op_sb, op_ng, op_iNf, op_iNt, op_lle, op_ixT, op_ixR, op_ixL, op_putE, op_appE, it_tupE, it_rolE, it_refE, lstOf_l, exL, asS_some, asI_int, asB_bl, asL_some, asN_some, ite3_t, ite3_f, bl_1, bl_lenT, bl_lenR, bl_lenL, bl_lenS, bl_tuple, bl_list, bl_abs, bl_intI, bl_intB, bl_max, bl_min, op_eqSf, op_eqSt, op_eqIf, op_eqIt, op_eqTf, op_eqTt, op_eqRf, op_eqRt, op_eqNf, op_eqNt, eqD_int, eqD_nil, pl_int, pl_nil, pl_non, pl_rnil, pl_bl, sl_tupE, sl_rolE, keep_ref, keep_tup, keep_rol, tp_int, tp_tup, tp_rol, tp_str, tp_bl, tp_non, tp_ref, oFd, oMd, oPw, oShl, oLt, oLe, oGt, oGe, op_in, op_cp, wipe_nil, wipe_cons, mset_same, true_and, and_true, isN_int, ex_lstF, ex_repF, ex_lgF1, ex_lgF2, ex_tupRg1, ex_tupRg2, ex_frz, ex_slF, ex_slM, sl_tupF, sl_rolF, op_iiF, op_ssF, op_ttF, op_rrF, op_rrM, op_mmF, op_repF, li_rol, li_ref, bl_listF, bl_allF, bl_anyF, asT_some, asJ_some, op_eqBf, op_eqBt, isN_non, Bool.not_true, Bool.not_false, rep2, oD]
      have gj' : getS (setS (setS τ j none) j (some (D.int i))) j = some (D.int i) := gj
      rw [gj', asS_some]
      exact ⟨edL_fits (hT.ed r hm _ he i rfl), qK⟩
  · have ht : ∀ s ∈ r.map endS, Tx 1001 1001 s := fun s hs => by
      obtain ⟨e, he, rfl⟩ := List.mem_map.mp hs
      exact endL_tx (hT.ed r hm e he)
    rw [items_rol, asL_some', strs_map, asSs_some]
    have hsum := sum_le' (ps := r.map endS) fun s hs => (ht s hs).len
    rw [List.length_map] at hsum
    exact ⟨by rw [len_blank, List.length_map]; omega, q⟩
theorem writ_ne {T : Tab} (he : T ≠ []) : (T.map rowD).isEmpty = false := by
  cases T with
  | nil => exact absurd rfl he
  | cons _ _ => rfl
/-- all rows, joined -/
theorem rows_sum {T : Tab} (hT : TabL T) : ((T.map rowT).map (·.length)).sum + (T.map rowT).length * ((" / " : Str)).length ≤ 16777216 := by
  have hTl := hT.len
  have hsum := sum_le' (ps := T.map rowT) (n := 7028) fun s hs => by
    obtain ⟨r, hr, rfl⟩ := List.mem_map.mp hs
    exact (rowT_tx hT hr).len
  rw [List.length_map] at hsum
  rw [len_slash, List.length_map]; omega
def tabTextR : XK3 → TS3 := fun E =>
  (wSeq (wIfS (wB (wOp (oEq false) (wVar 0) (wTup wNil))) (wRet (wC (.str ("none" : PySem.Str)))) wNext)
  (wRet (wJoin (wC (.str (" / " : PySem.Str))) (wLcF (wItems (wVar 0)) (wgName 1) wYes (wJoin (wC (.str (" " : PySem.Str))) (wLcF (wItems (wVar 1)) (wgName 2) wYes (wIf (wB (wOp (oIsN false) (wVar 2) (wC .non))) (wC (.str ("-" : PySem.Str))) (wCB bStrL (wCons (wVar 2) wNil))) [2])) [1]))))
theorem s_tabText : SWritX (spOf 1 3 tabTextR) := by
  refine fun T Q E hT q => ⟨rfl, ?_⟩
  have big : (1000000 : Nat) ≤ sizeLine := by decide
  have hTl := hT.len
  show tabTextR E _ [some (tabD T), none, none] M0
  unfold tabTextR
  rw [st_seq, st_if]
  show (wB (wOp (oEq false) (wVar 0) (wTup wNil))) [some (.tup (T.map rowD)), none, none] M0 _
  simp only [ex_c, ex_var, ex_op, ex_un, ex_b, ex_and, ex_or, ex_not, ex_andV, ex_orV, ex_notV, ex_if, ex_chain, ex_nil, ex_cons, ex_tup, ex_lst, ex_call, ex_callP, ex_cb, ex_bm, ex_rep, ex_sl, ex_noPart, ex_part, ex_yes, it_items, it_rng1, it_rng2, tg_name, tg_sub, tg_tup, tg_cons, tg_nil, gs_0, gs_s, ss_0, ss_s, op_ii, op_ss, op_tt, op_mm, op_sb, op_ng, op_iNf, op_iNt, op_lle, op_ixT, op_ixR, op_ixL, op_putE, op_appE, it_tupE, it_rolE, it_refE, lstOf_l, exL, asS_some, asI_int, asB_bl, asL_some, asN_some, ite3_t, ite3_f, bl_1, bl_lenT, bl_lenR, bl_lenL, bl_lenS, bl_tuple, bl_list, bl_abs, bl_intI, bl_intB, bl_max, bl_min, op_eqSf, op_eqSt, op_eqIf, op_eqIt, op_eqTf, op_eqTt, op_eqRf, op_eqRt, op_eqNf, op_eqNt, eqD_int, eqD_nil, pl_int, pl_nil, pl_non, pl_rnil, pl_bl, sl_tupE, sl_rolE, keep_ref, keep_tup, keep_rol, tp_int, tp_tup, tp_rol, tp_str, tp_bl, tp_non, tp_ref, oFd, oMd, oPw, oShl, oLt, oLe, oGt, oGe, op_in, op_cp, wipe_nil, wipe_cons, mset_same, true_and, and_true, isN_int, ex_lstF, ex_repF, ex_lgF1, ex_lgF2, ex_tupRg1, ex_tupRg2, ex_frz, ex_slF, ex_slM, sl_tupF, sl_rolF, op_iiF, op_ssF, op_ttF, op_rrF, op_rrM, op_mmF, op_repF, li_rol, li_ref, bl_listF, bl_allF, bl_anyF, asT_some, asJ_some, op_eqBf, op_eqBt, isN_non, Bool.not_true, Bool.not_false, rep2, op_eqTf, eqD_nil, tp_tup, pl_tabT, pl_nil]
  refine ⟨Nat.zero_le _, ?_⟩
  by_cases he : T = []
  · rw [he] at q ⊢
    show ite3 true _ _
    rw [ite3_t, st_ret]
    simp only [ex_c, ex_var, ex_op, ex_un, ex_b, ex_and, ex_or, ex_not, ex_andV, ex_orV, ex_notV, ex_if, ex_chain, ex_nil, ex_cons, ex_tup, ex_lst, ex_call, ex_callP, ex_cb, ex_bm, ex_rep, ex_sl, ex_noPart, ex_part, ex_yes, it_items, it_rng1, it_rng2, tg_name, tg_sub, tg_tup, tg_cons, tg_nil, gs_0, gs_s, ss_0, ss_s, op_ii, op_ss, op_tt, op_mm, op_sb, op_ng, op_iNf, op_iNt, op_lle, op_ixT, op_ixR, op_ixL, op_putE, op_appE, it_tupE, it_rolE, it_refE, lstOf_l, exL, asS_some, asI_int, asB_bl, asL_some, asN_some, ite3_t, ite3_f, bl_1, bl_lenT, bl_lenR, bl_lenL, bl_lenS, bl_tuple, bl_list, bl_abs, bl_intI, bl_intB, bl_max, bl_min, op_eqSf, op_eqSt, op_eqIf, op_eqIt, op_eqTf, op_eqTt, op_eqRf, op_eqRt, op_eqNf, op_eqNt, eqD_int, eqD_nil, pl_int, pl_nil, pl_non, pl_rnil, pl_bl, sl_tupE, sl_rolE, keep_ref, keep_tup, keep_rol, tp_int, tp_tup, tp_rol, tp_str, tp_bl, tp_non, tp_ref, oFd, oMd, oPw, oShl, oLt, oLe, oGt, oGe, op_in, op_cp, wipe_nil, wipe_cons, mset_same, true_and, and_true, isN_int, ex_lstF, ex_repF, ex_lgF1, ex_lgF2, ex_tupRg1, ex_tupRg2, ex_frz, ex_slF, ex_slM, sl_tupF, sl_rolF, op_iiF, op_ssF, op_ttF, op_rrF, op_rrM, op_mmF, op_repF, li_rol, li_ref, bl_listF, bl_allF, bl_anyF, asT_some, asJ_some, op_eqBf, op_eqBt, isN_non, Bool.not_true, Bool.not_false, rep2]
    exact q _
  rw [writ_ne he, ite3_f, st_next]
  try dsimp only
  rw [st_ret, stE_join, ex_c, asSt_s, ex_lcF]
  show lcW _ _ _ _ _ _ (T.map rowD) [] M0
  refine lc_of rowD (fun r => .str (rowT r)) True.intro T (by omega) (fun r hr K qK => ?_) ?_
  · rw [tg_name]
    exact row_join hT hr rfl (by show 2 < 3; decide) qK
  · rw [items_rol, asL_some', strs_map, asSs_some]
    refine ⟨rows_sum hT, ?_⟩
    have := q M0
    unfold writT at this
    rw [if_neg he] at this
    exact this
def writtenLR : XK3 → TS3 := fun E =>
  (wSeq (wIfS (wB (wOp (oEq false) (wVar 0) (wTup wNil))) (wRet (wC (.str ("none" : PySem.Str)))) wNext)
  (wSeq (wSet 1 (wLst wNil))
  (wSeq (wFor (wItems (wVar 0)) (wgName 2) (wDrop (wBM oApp (wVar 1) (wCons (wJoin (wC (.str (" " : PySem.Str))) (wLcF (wItems (wVar 2)) (wgName 3) wYes (wIf (wB (wOp (oIsN false) (wVar 3) (wC .non))) (wC (.str ("-" : PySem.Str))) (wCB bStrL (wCons (wVar 3) wNil))) [3])) wNil))))
  (wRet (wJoin (wC (.str (" / " : PySem.Str))) (wVar 1))))))
theorem s_writX : SWritX (spOf 1 4 writtenLR) := by
  refine fun T Q E hT q => ⟨rfl, ?_⟩
  have big : (1000000 : Nat) ≤ sizeLine := by decide
  have hTl := hT.len
  show writtenLR E _ [some (tabD T), none, none, none] M0
  unfold writtenLR
  rw [st_seq, st_if]
  show (wB (wOp (oEq false) (wVar 0) (wTup wNil))) [some (.tup (T.map rowD)), none, none, none] M0 _
  simp only [ex_c, ex_var, ex_op, ex_un, ex_b, ex_and, ex_or, ex_not, ex_andV, ex_orV, ex_notV, ex_if, ex_chain, ex_nil, ex_cons, ex_tup, ex_lst, ex_call, ex_callP, ex_cb, ex_bm, ex_rep, ex_sl, ex_noPart, ex_part, ex_yes, it_items, it_rng1, it_rng2, tg_name, tg_sub, tg_tup, tg_cons, tg_nil, gs_0, gs_s, ss_0, ss_s, op_ii, op_ss, op_tt, op_mm, op_sb, op_ng, op_iNf, op_iNt, op_lle, op_ixT, op_ixR, op_ixL, op_putE, op_appE, it_tupE, it_rolE, it_refE, lstOf_l, exL, asS_some, asI_int, asB_bl, asL_some, asN_some, ite3_t, ite3_f, bl_1, bl_lenT, bl_lenR, bl_lenL, bl_lenS, bl_tuple, bl_list, bl_abs, bl_intI, bl_intB, bl_max, bl_min, op_eqSf, op_eqSt, op_eqIf, op_eqIt, op_eqTf, op_eqTt, op_eqRf, op_eqRt, op_eqNf, op_eqNt, eqD_int, eqD_nil, pl_int, pl_nil, pl_non, pl_rnil, pl_bl, sl_tupE, sl_rolE, keep_ref, keep_tup, keep_rol, tp_int, tp_tup, tp_rol, tp_str, tp_bl, tp_non, tp_ref, oFd, oMd, oPw, oShl, oLt, oLe, oGt, oGe, op_in, op_cp, wipe_nil, wipe_cons, mset_same, true_and, and_true, isN_int, ex_lstF, ex_repF, ex_lgF1, ex_lgF2, ex_tupRg1, ex_tupRg2, ex_frz, ex_slF, ex_slM, sl_tupF, sl_rolF, op_iiF, op_ssF, op_ttF, op_rrF, op_rrM, op_mmF, op_repF, li_rol, li_ref, bl_listF, bl_allF, bl_anyF, asT_some, asJ_some, op_eqBf, op_eqBt, isN_non, Bool.not_true, Bool.not_false, rep2, op_eqTf, eqD_nil, tp_tup, pl_tabT, pl_nil]
  refine ⟨Nat.zero_le _, ?_⟩
  by_cases he : T = []
  · rw [he] at q ⊢
    show ite3 true _ _
    rw [ite3_t, st_ret]
    simp only [ex_c, ex_var, ex_op, ex_un, ex_b, ex_and, ex_or, ex_not, ex_andV, ex_orV, ex_notV, ex_if, ex_chain, ex_nil, ex_cons, ex_tup, ex_lst, ex_call, ex_callP, ex_cb, ex_bm, ex_rep, ex_sl, ex_noPart, ex_part, ex_yes, it_items, it_rng1, it_rng2, tg_name, tg_sub, tg_tup, tg_cons, tg_nil, gs_0, gs_s, ss_0, ss_s, op_ii, op_ss, op_tt, op_mm, op_sb, op_ng, op_iNf, op_iNt, op_lle, op_ixT, op_ixR, op_ixL, op_putE, op_appE, it_tupE, it_rolE, it_refE, lstOf_l, exL, asS_some, asI_int, asB_bl, asL_some, asN_some, ite3_t, ite3_f, bl_1, bl_lenT, bl_lenR, bl_lenL, bl_lenS, bl_tuple, bl_list, bl_abs, bl_intI, bl_intB, bl_max, bl_min, op_eqSf, op_eqSt, op_eqIf, op_eqIt, op_eqTf, op_eqTt, op_eqRf, op_eqRt, op_eqNf, op_eqNt, eqD_int, eqD_nil, pl_int, pl_nil, pl_non, pl_rnil, pl_bl, sl_tupE, sl_rolE, keep_ref, keep_tup, keep_rol, tp_int, tp_tup, tp_rol, tp_str, tp_bl, tp_non, tp_ref, oFd, oMd, oPw, oShl, oLt, oLe, oGt, oGe, op_in, op_cp, wipe_nil, wipe_cons, mset_same, true_and, and_true, isN_int, ex_lstF, ex_repF, ex_lgF1, ex_lgF2, ex_tupRg1, ex_tupRg2, ex_frz, ex_slF, ex_slM, sl_tupF, sl_rolF, op_iiF, op_ssF, op_ttF, op_rrF, op_rrM, op_mmF, op_repF, li_rol, li_ref, bl_listF, bl_allF, bl_anyF, asT_some, asJ_some, op_eqBf, op_eqBt, isN_non, Bool.not_true, Bool.not_false, rep2]
    exact q _
  rw [writ_ne he, ite3_f, st_next]
  try dsimp only
  rw [st_seq, st_set]
  simp only [ex_c, ex_var, ex_op, ex_un, ex_b, ex_and, ex_or, ex_not, ex_andV, ex_orV, ex_notV, ex_if, ex_chain, ex_nil, ex_cons, ex_tup, ex_lst, ex_call, ex_callP, ex_cb, ex_bm, ex_rep, ex_sl, ex_noPart, ex_part, ex_yes, it_items, it_rng1, it_rng2, tg_name, tg_sub, tg_tup, tg_cons, tg_nil, gs_0, gs_s, ss_0, ss_s, op_ii, op_ss, op_tt, op_mm, op_sb, op_ng, op_iNf, op_iNt, op_lle, op_ixT, op_ixR, op_ixL, op_putE, op_appE, it_tupE, it_rolE, it_refE, lstOf_l, exL, asS_some, asI_int, asB_bl, asL_some, asN_some, ite3_t, ite3_f, bl_1, bl_lenT, bl_lenR, bl_lenL, bl_lenS, bl_tuple, bl_list, bl_abs, bl_intI, bl_intB, bl_max, bl_min, op_eqSf, op_eqSt, op_eqIf, op_eqIt, op_eqTf, op_eqTt, op_eqRf, op_eqRt, op_eqNf, op_eqNt, eqD_int, eqD_nil, pl_int, pl_nil, pl_non, pl_rnil, pl_bl, sl_tupE, sl_rolE, keep_ref, keep_tup, keep_rol, tp_int, tp_tup, tp_rol, tp_str, tp_bl, tp_non, tp_ref, oFd, oMd, oPw, oShl, oLt, oLe, oGt, oGe, op_in, op_cp, wipe_nil, wipe_cons, mset_same, true_and, and_true, isN_int, ex_lstF, ex_repF, ex_lgF1, ex_lgF2, ex_tupRg1, ex_tupRg2, ex_frz, ex_slF, ex_slM, sl_tupF, sl_rolF, op_iiF, op_ssF, op_ttF, op_rrF, op_rrM, op_mmF, op_repF, li_rol, li_ref, bl_listF, bl_allF, bl_anyF, asT_some, asJ_some, op_eqBf, op_eqBt, isN_non, Bool.not_true, Bool.not_false, rep2]
  refine ⟨Nat.zero_le _, fun l hl => ?_⟩
  try dsimp only
  rw [st_seq, st_for]
  simp only [ex_c, ex_var, ex_op, ex_un, ex_b, ex_and, ex_or, ex_not, ex_andV, ex_orV, ex_notV, ex_if, ex_chain, ex_nil, ex_cons, ex_tup, ex_lst, ex_call, ex_callP, ex_cb, ex_bm, ex_rep, ex_sl, ex_noPart, ex_part, ex_yes, it_items, it_rng1, it_rng2, tg_name, tg_sub, tg_tup, tg_cons, tg_nil, gs_0, gs_s, ss_0, ss_s, op_ii, op_ss, op_tt, op_mm, op_sb, op_ng, op_iNf, op_iNt, op_lle, op_ixT, op_ixR, op_ixL, op_putE, op_appE, it_tupE, it_rolE, it_refE, lstOf_l, exL, asS_some, asI_int, asB_bl, asL_some, asN_some, ite3_t, ite3_f, bl_1, bl_lenT, bl_lenR, bl_lenL, bl_lenS, bl_tuple, bl_list, bl_abs, bl_intI, bl_intB, bl_max, bl_min, op_eqSf, op_eqSt, op_eqIf, op_eqIt, op_eqTf, op_eqTt, op_eqRf, op_eqRt, op_eqNf, op_eqNt, eqD_int, eqD_nil, pl_int, pl_nil, pl_non, pl_rnil, pl_bl, sl_tupE, sl_rolE, keep_ref, keep_tup, keep_rol, tp_int, tp_tup, tp_rol, tp_str, tp_bl, tp_non, tp_ref, oFd, oMd, oPw, oShl, oLt, oLe, oGt, oGe, op_in, op_cp, wipe_nil, wipe_cons, mset_same, true_and, and_true, isN_int, ex_lstF, ex_repF, ex_lgF1, ex_lgF2, ex_tupRg1, ex_tupRg2, ex_frz, ex_slF, ex_slM, sl_tupF, sl_rolF, op_iiF, op_ssF, op_ttF, op_rrF, op_rrM, op_mmF, op_repF, li_rol, li_ref, bl_listF, bl_allF, bl_anyF, asT_some, asJ_some, op_eqBf, op_eqBt, isN_non, Bool.not_true, Bool.not_false, rep2]
  refine for_of rowD (fun p τ M => p ≤ T.length ∧ M l = some (.lst (((T.take p).map rowT).map D.str)) ∧ ∃ x2, τ = [some (.tup (T.map rowD)), some (.ref l), x2, none]) (fun _ _ _ _ => by trivial) ?_ ?_ ⟨Nat.zero_le _, mset_same, _, rfl⟩
  · rintro p r τ M hr ⟨_, hM, x2, rfl⟩ X hX
    obtain ⟨hp, er⟩ := List.getElem?_eq_some_iff.mp hr
    have hm : r ∈ T := List.mem_of_getElem? hr
    rw [tg_name, st_drop, ex_bm, ex_var]
    simp only [gs_s, gs_0, asS_some]
    refine ⟨⟨_, hM⟩, ?_⟩
    rw [ex_cons]
    refine row_join hT hm rfl (by show 3 < 4; decide) ?_
    rw [ex_nil]
    unfold oApp
    dsimp only
    rw [hM]
    dsimp only
    refine ⟨by rw [List.length_map, List.length_map]; have := List.length_take_le p T; omega, hX _ _ ⟨hp, ?_, _, rfl⟩⟩
    rw [mset_same, List.take_succ, hr, List.map_append, List.map_append]; rfl
  · rintro τ M ⟨_, hM, x2, rfl⟩
    rw [List.take_length] at hM
    try dsimp only
    rw [st_ret, stE_join, ex_c, asSt_s, ex_var]
    simp only [gs_s, gs_0, asS_some]
    have hi : items M (.ref l) = some ((T.map rowT).map D.str) := by
      show lstOf (M l) = _
      rw [hM]; rfl
    rw [hi, asL_some', show (T.map rowT).map D.str = (T.map rowT).map (fun x => D.str (id x)) from rfl, strs_map, List.map_id, asSs_some]
    refine ⟨rows_sum hT, ?_⟩
    have := q M
    unfold writT at this
    rw [if_neg he] at this
    exact this
theorem kbs_s : kitBs "str" ["tuple", "list"] = some false := by decide +kernel
theorem same_str {ss : Sp3} : SameOn (spOf 2 3 (lsameR ss)) (fun d => ∃ s : Str, d = .str s) := by
  rintro d Q E ⟨s, rfl⟩ q
  refine ⟨rfl, ?_⟩
  show lsameR ss E _ [some (.str s), some (.str s), none] M0
  unfold lsameR
  rw [st_seq, st_if]
  simp only [ex_c, ex_var, ex_op, ex_un, ex_b, ex_and, ex_or, ex_not, ex_andV, ex_orV, ex_notV, ex_if, ex_chain, ex_nil, ex_cons, ex_tup, ex_lst, ex_call, ex_callP, ex_cb, ex_bm, ex_rep, ex_sl, ex_noPart, ex_part, ex_yes, it_items, it_rng1, it_rng2, tg_name, tg_sub, tg_tup, tg_cons, tg_nil, gs_0, gs_s, ss_0, ss_s, op_ii, op_ss, op_tt, op_mm, op_sb, op_ng, op_iNf, op_iNt, op_lle, op_ixT, op_ixR, op_ixL, op_putE, op_appE, it_tupE, it_rolE, it_refE, lstOf_l, exL, asS_some, asI_int, asB_bl, asL_some, asN_some, ite3_t, ite3_f, bl_1, bl_lenT, bl_lenR, bl_lenL, bl_lenS, bl_tuple, bl_list, bl_abs, bl_intI, bl_intB, bl_max, bl_min, op_eqSf, op_eqSt, op_eqIf, op_eqIt, op_eqTf, op_eqTt, op_eqRf, op_eqRt, op_eqNf, op_eqNt, eqD_int, eqD_nil, pl_int, pl_nil, pl_non, pl_rnil, pl_bl, sl_tupE, sl_rolE, keep_ref, keep_tup, keep_rol, tp_int, tp_tup, tp_rol, tp_str, tp_bl, tp_non, tp_ref, oFd, oMd, oPw, oShl, oLt, oLe, oGt, oGe, op_in, op_cp, wipe_nil, wipe_cons, mset_same, true_and, and_true, isN_int, ex_lstF, ex_repF, ex_lgF1, ex_lgF2, ex_tupRg1, ex_tupRg2, ex_frz, ex_slF, ex_slM, sl_tupF, sl_rolF, op_iiF, op_ssF, op_ttF, op_rrF, op_rrM, op_mmF, op_repF, li_rol, li_ref, bl_listF, bl_allF, bl_anyF, asT_some, asJ_some, op_eqBf, op_eqBt, isN_non, Bool.not_true, Bool.not_false, rep2]
  refine ⟨by decide, ?_⟩
  rw [isiT_is rfl rfl kbs_s]
  (try simp only [ex_c, ex_var, ex_op, ex_un, ex_b, ex_and, ex_or, ex_not, ex_andV, ex_orV, ex_notV, ex_if, ex_chain, ex_nil, ex_cons, ex_tup, ex_lst, ex_call, ex_callP, ex_cb, ex_bm, ex_rep, ex_sl, ex_noPart, ex_part, ex_yes, it_items, it_rng1, it_rng2, tg_name, tg_sub, tg_tup, tg_cons, tg_nil, gs_0, gs_s, ss_0, ss_s, op_ii, op_ss, op_tt, op_mm, op_sb, op_ng, op_iNf, op_iNt, op_lle, op_ixT, op_ixR, op_ixL, op_putE, op_appE, it_tupE, it_rolE, it_refE, lstOf_l, exL, asS_some, asI_int, asB_bl, asL_some, asN_some, ite3_t, ite3_f, bl_1, bl_lenT, bl_lenR, bl_lenL, bl_lenS, bl_tuple, bl_list, bl_abs, bl_intI, bl_intB, bl_max, bl_min, op_eqSf, op_eqSt, op_eqIf, op_eqIt, op_eqTf, op_eqTt, op_eqRf, op_eqRt, op_eqNf, op_eqNt, eqD_int, eqD_nil, pl_int, pl_nil, pl_non, pl_rnil, pl_bl, sl_tupE, sl_rolE, keep_ref, keep_tup, keep_rol, tp_int, tp_tup, tp_rol, tp_str, tp_bl, tp_non, tp_ref, oFd, oMd, oPw, oShl, oLt, oLe, oGt, oGe, op_in, op_cp, wipe_nil, wipe_cons, mset_same, true_and, and_true, isN_int, ex_lstF, ex_repF, ex_lgF1, ex_lgF2, ex_tupRg1, ex_tupRg2, ex_frz, ex_slF, ex_slM, sl_tupF, sl_rolF, op_iiF, op_ssF, op_ttF, op_rrF, op_rrM, op_mmF, op_repF, li_rol, li_ref, bl_listF, bl_allF, bl_anyF, asT_some, asJ_some, op_eqBf, op_eqBt, isN_non, Bool.not_true, Bool.not_false, rep2])
  rw [st_next]
  try dsimp only
  rw [st_seq, st_if]
  simp only [ex_c, ex_var, ex_op, ex_un, ex_b, ex_and, ex_or, ex_not, ex_andV, ex_orV, ex_notV, ex_if, ex_chain, ex_nil, ex_cons, ex_tup, ex_lst, ex_call, ex_callP, ex_cb, ex_bm, ex_rep, ex_sl, ex_noPart, ex_part, ex_yes, it_items, it_rng1, it_rng2, tg_name, tg_sub, tg_tup, tg_cons, tg_nil, gs_0, gs_s, ss_0, ss_s, op_ii, op_ss, op_tt, op_mm, op_sb, op_ng, op_iNf, op_iNt, op_lle, op_ixT, op_ixR, op_ixL, op_putE, op_appE, it_tupE, it_rolE, it_refE, lstOf_l, exL, asS_some, asI_int, asB_bl, asL_some, asN_some, ite3_t, ite3_f, bl_1, bl_lenT, bl_lenR, bl_lenL, bl_lenS, bl_tuple, bl_list, bl_abs, bl_intI, bl_intB, bl_max, bl_min, op_eqSf, op_eqSt, op_eqIf, op_eqIt, op_eqTf, op_eqTt, op_eqRf, op_eqRt, op_eqNf, op_eqNt, eqD_int, eqD_nil, pl_int, pl_nil, pl_non, pl_rnil, pl_bl, sl_tupE, sl_rolE, keep_ref, keep_tup, keep_rol, tp_int, tp_tup, tp_rol, tp_str, tp_bl, tp_non, tp_ref, oFd, oMd, oPw, oShl, oLt, oLe, oGt, oGe, op_in, op_cp, wipe_nil, wipe_cons, mset_same, true_and, and_true, isN_int, ex_lstF, ex_repF, ex_lgF1, ex_lgF2, ex_tupRg1, ex_tupRg2, ex_frz, ex_slF, ex_slM, sl_tupF, sl_rolF, op_iiF, op_ssF, op_ttF, op_rrF, op_rrM, op_mmF, op_repF, li_rol, li_ref, bl_listF, bl_allF, bl_anyF, asT_some, asJ_some, op_eqBf, op_eqBt, isN_non, Bool.not_true, Bool.not_false, rep2]
  rw [show isN (D.str s) = false from rfl, ite3_f, st_next]
  try dsimp only
  rw [st_seq, st_if]
  simp only [ex_c, ex_var, ex_op, ex_un, ex_b, ex_and, ex_or, ex_not, ex_andV, ex_orV, ex_notV, ex_if, ex_chain, ex_nil, ex_cons, ex_tup, ex_lst, ex_call, ex_callP, ex_cb, ex_bm, ex_rep, ex_sl, ex_noPart, ex_part, ex_yes, it_items, it_rng1, it_rng2, tg_name, tg_sub, tg_tup, tg_cons, tg_nil, gs_0, gs_s, ss_0, ss_s, op_ii, op_ss, op_tt, op_mm, op_sb, op_ng, op_iNf, op_iNt, op_lle, op_ixT, op_ixR, op_ixL, op_putE, op_appE, it_tupE, it_rolE, it_refE, lstOf_l, exL, asS_some, asI_int, asB_bl, asL_some, asN_some, ite3_t, ite3_f, bl_1, bl_lenT, bl_lenR, bl_lenL, bl_lenS, bl_tuple, bl_list, bl_abs, bl_intI, bl_intB, bl_max, bl_min, op_eqSf, op_eqSt, op_eqIf, op_eqIt, op_eqTf, op_eqTt, op_eqRf, op_eqRt, op_eqNf, op_eqNt, eqD_int, eqD_nil, pl_int, pl_nil, pl_non, pl_rnil, pl_bl, sl_tupE, sl_rolE, keep_ref, keep_tup, keep_rol, tp_int, tp_tup, tp_rol, tp_str, tp_bl, tp_non, tp_ref, oFd, oMd, oPw, oShl, oLt, oLe, oGt, oGe, op_in, op_cp, wipe_nil, wipe_cons, mset_same, true_and, and_true, isN_int, ex_lstF, ex_repF, ex_lgF1, ex_lgF2, ex_tupRg1, ex_tupRg2, ex_frz, ex_slF, ex_slM, sl_tupF, sl_rolF, op_iiF, op_ssF, op_ttF, op_rrF, op_rrM, op_mmF, op_repF, li_rol, li_ref, bl_listF, bl_allF, bl_anyF, asT_some, asJ_some, op_eqBf, op_eqBt, isN_non, Bool.not_true, Bool.not_false, rep2, isi_S kb_ss]
  rw [st_ret]
  simp only [ex_c, ex_var, ex_op, ex_un, ex_b, ex_and, ex_or, ex_not, ex_andV, ex_orV, ex_notV, ex_if, ex_chain, ex_nil, ex_cons, ex_tup, ex_lst, ex_call, ex_callP, ex_cb, ex_bm, ex_rep, ex_sl, ex_noPart, ex_part, ex_yes, it_items, it_rng1, it_rng2, tg_name, tg_sub, tg_tup, tg_cons, tg_nil, gs_0, gs_s, ss_0, ss_s, op_ii, op_ss, op_tt, op_mm, op_sb, op_ng, op_iNf, op_iNt, op_lle, op_ixT, op_ixR, op_ixL, op_putE, op_appE, it_tupE, it_rolE, it_refE, lstOf_l, exL, asS_some, asI_int, asB_bl, asL_some, asN_some, ite3_t, ite3_f, bl_1, bl_lenT, bl_lenR, bl_lenL, bl_lenS, bl_tuple, bl_list, bl_abs, bl_intI, bl_intB, bl_max, bl_min, op_eqSf, op_eqSt, op_eqIf, op_eqIt, op_eqTf, op_eqTt, op_eqRf, op_eqRt, op_eqNf, op_eqNt, eqD_int, eqD_nil, pl_int, pl_nil, pl_non, pl_rnil, pl_bl, sl_tupE, sl_rolE, keep_ref, keep_tup, keep_rol, tp_int, tp_tup, tp_rol, tp_str, tp_bl, tp_non, tp_ref, oFd, oMd, oPw, oShl, oLt, oLe, oGt, oGe, op_in, op_cp, wipe_nil, wipe_cons, mset_same, true_and, and_true, isN_int, ex_lstF, ex_repF, ex_lgF1, ex_lgF2, ex_tupRg1, ex_tupRg2, ex_frz, ex_slF, ex_slM, sl_tupF, sl_rolF, op_iiF, op_ssF, op_ttF, op_rrF, op_rrM, op_mmF, op_repF, li_rol, li_ref, bl_listF, bl_allF, bl_anyF, asT_some, asJ_some, op_eqBf, op_eqBt, isN_non, Bool.not_true, Bool.not_false, rep2, isi_S kb_ss, decide_true]
  exact q _
end L3
set_option Elab.async false
set_option linter.all false
set_option maxRecDepth 100000
set_option maxHeartbeats 4000000
namespace L3
open PySem PySem.Spec PyProof.Rows L2 PySem.NumText
theorem dg_iff {c : Nat} : isDg c = true ↔ 48 ≤ c ∧ c ≤ 57 := by unfold isDg; exact decide_eq_true_iff
theorem get_drop {L X : List Nat} {b c : Nat} (h : L.drop b = c :: X) : L[b]? = some c := by
  have := congrArg (fun l => l[0]?) h
  simpa [List.getElem?_drop] using this
theorem drop_next {L X : List Nat} {b c : Nat} (h : L.drop b = c :: X) : L.drop (b + 1) = X := by
  have : (L.drop b).drop 1 = X := by rw [h]; rfl
  rwa [List.drop_drop] at this
/-- no digit stands ahead -/
def NoDg (R : List Nat) : Prop := ∀ c, R.head? = some c → isDg c = false
theorem takeWhile_app' : ∀ {D R : List Nat}, (∀ c ∈ D, isDg c = true) → NoDg R → (D ++ R).takeWhile isDg = D
  | [], [], _, _ => rfl
  | [], c :: R, _, h => by
    show (c :: R).takeWhile isDg = []
    rw [List.takeWhile_cons, h c rfl]; rfl
  | c :: D, R, h, hR => by
    show (c :: (D ++ R)).takeWhile isDg = c :: D
    rw [List.takeWhile_cons, h c (List.mem_cons_self ..), if_pos rfl, takeWhile_app' (fun d hd => h d (List.mem_cons_of_mem _ hd)) hR]
theorem run_of {L D R : List Nat} {a : Nat} (h : L.drop a = D ++ R) (hD : ∀ c ∈ D, isDg c = true) (hR : NoDg R) : runF L a = D.length := by
  unfold runF
  rw [h, takeWhile_app' hD hR]
def endC (e : Ed) : List Nat := sgs (endS e)
theorem numL_head : ∀ {n : Nat}, 0 < n → ∃ c r, TL.numL n = c :: r ∧ c ≠ 48 := by
  intro n
  induction n using Nat.strongRecOn with
  | _ n ih =>
    intro h0
    by_cases h : n < 10
    · rw [TL.numL_lt h]
      exact ⟨_, _, rfl, by omega⟩
    · obtain ⟨c, r, e, hc⟩ := ih (n / 10) (by omega) (by omega)
      rw [TL.numL_step (by omega), e]
      exact ⟨c, r ++ [48 + n % 10], rfl, hc⟩
theorem endC_neg (m : Nat) : sgs (Str.ofString (toString (Int.negSucc m))) = 45 :: TL.numL (m + 1) := by
  have e : toString (Int.negSucc m) = "-" ++ Nat.repr (m + 1) := rfl
  rw [e]
  have h1 : ∀ s : String, sgs (Str.ofString s) = s.toList.map Char.toNat := fun s => PyProof.Rows.signs_ofString s
  rw [h1, String.toList_append, List.map_append]
  have h2 := TL.tl_num (m + 1)
  have h3 : TL.tl (Str.ofString (toString (((m + 1 : Nat)) : Int))) = (Nat.repr (m + 1)).toList.map Char.toNat := h1 _
  rw [← h3, h2]
  rfl
theorem endC_cases (e : Ed) : (e = none ∧ endC e = [45]) ∨ (e = some 0 ∧ endC e = [48]) ∨ (∃ c r, endC e = c :: r ∧ c ≠ 48 ∧ AllDigits (c :: r) ∧ e = some ((digitsVal (c :: r) : Nat) : Int)) ∨ (∃ c r, endC e = 45 :: c :: r ∧ c ≠ 48 ∧ AllDigits (c :: r) ∧ e = some (-((digitsVal (c :: r) : Nat) : Int))) := by
  cases e with
  | none => exact .inl ⟨rfl, by show sgs ("-" : Str) = [45]; decide +kernel⟩
  | some i =>
    cases i with
    | ofNat n =>
      have en : endC (some (Int.ofNat n)) = TL.numL n := TL.tl_num n
      by_cases h0 : n = 0
      · subst h0
        exact .inr (.inl ⟨rfl, by rw [en, TL.numL_lt (by decide)]⟩)
      · obtain ⟨c, r, e, hc⟩ := numL_head (n := n) (by omega)
        refine .inr (.inr (.inl ⟨c, r, by rw [en, e], hc, ?_, ?_⟩))
        · rw [← e]; exact TL.numL_digits n
        · rw [← e, TL.numL_val]; rfl
    | negSucc m =>
      have en : endC (some (Int.negSucc m)) = 45 :: TL.numL (m + 1) := endC_neg m
      obtain ⟨c, r, e, hc⟩ := numL_head (n := m + 1) (by omega)
      refine .inr (.inr (.inr ⟨c, r, by rw [en, e], hc, ?_, ?_⟩))
      · rw [← e]; exact TL.numL_digits (m + 1)
      · rw [← e, TL.numL_val]; rfl
theorem all_dg {l : List Nat} (h : AllDigits l) : ∀ c ∈ l, isDg c = true := fun c hc => dg_iff.mpr (h c hc)
theorem nE_of {L R : List Nat} {b : Nat} {e : Ed} (h : L.drop b = endC e ++ R) (hR : NoDg R) : nE L b = b + (endC e).length := by
  rcases endC_cases e with ⟨_, ec⟩ | ⟨_, ec⟩ | ⟨c, r, ec, hc, hd, _⟩ | ⟨c, r, ec, hc, hd, _⟩
  · rw [ec] at h ⊢
    have g := get_drop (show L.drop b = 45 :: R from h)
    have d := drop_next (show L.drop b = 45 :: R from h)
    rw [nE_eq (by rw [g]; decide)]
    have eb : begF L b = b + 1 := by unfold begF; rw [if_pos g]
    have g2 : L[b + 1]? ≠ some 48 := by
      intro z
      cases hR' : R with
      | nil =>
        rw [hR'] at d
        have := List.drop_eq_nil_iff.mp d
        rw [List.getElem?_eq_none this] at z; cases z
      | cons c X =>
        rw [hR'] at d
        rw [get_drop d] at z
        injection z with z
        have := hR c (by rw [hR']; rfl)
        rw [z] at this; exact absurd this (by decide)
    rw [eb, if_neg g2, run_of (D := []) (R := R) d (fun c hc => nomatch hc) hR]; rfl
  · rw [ec] at h ⊢
    have g := get_drop (show L.drop b = 48 :: R from h)
    unfold nE
    rw [if_pos g]; rfl
  · rw [ec] at h ⊢
    have g := get_drop (show L.drop b = c :: (r ++ R) from h)
    have hcd := hd.head
    rw [nE_eq (by rw [g]; intro z; injection z with z; exact hc z)]
    have eb : begF L b = b := by
      unfold begF
      rw [if_neg]
      rw [g]; intro z; injection z with z; omega
    rw [eb, if_neg (by rw [g]; intro z; injection z with z; exact hc z), run_of h (all_dg hd) hR]
  · rw [ec] at h ⊢
    have g := get_drop (show L.drop b = 45 :: (c :: r ++ R) from h)
    have d := drop_next (show L.drop b = 45 :: (c :: r ++ R) from h)
    have g2 := get_drop (show L.drop (b + 1) = c :: (r ++ R) from d)
    rw [nE_eq (by rw [g]; decide)]
    have eb : begF L b = b + 1 := by unfold begF; rw [if_pos g]
    rw [eb, if_neg (by rw [g2]; intro z; injection z with z; exact hc z), run_of d (all_dg hd) hR]
    show b + 1 + (c :: r).length = b + ((c :: r).length + 1)
    omega
theorem part_of {e : Ed} (hl : (endC e).length ≤ 4300) : partL (endC e) = oD e := by
  have hs : ∀ {l : List Nat}, (strL l).length = l.length := fun {l} => by show l.toArray.size = _; rw [List.size_toArray]
  unfold partL
  rcases endC_cases e with ⟨he, ec⟩ | ⟨he, ec⟩ | ⟨c, r, ec, hc, hd, he⟩ | ⟨c, r, ec, hc, hd, he⟩
  · rw [ec, if_pos rfl, he]; rfl
  · rw [ec, he, if_neg (by decide)]
    have := intText_digits (x := strL [48]) (by show AllDigits [48]; intro c hc; rw [List.mem_singleton] at hc; omega) (by show [48] ≠ []; decide) (by rw [hs]; decide)
    rw [this]; rfl
  · rw [ec] at hl ⊢
    have hcd := hd.head
    rw [if_neg (by intro z; injection z with z _; omega), intText_digits (x := strL (c :: r)) hd (by show c :: r ≠ []; exact fun z => nomatch z) (by rw [hs]; exact hl), he]; rfl
  · rw [ec] at hl ⊢
    rw [if_neg (by intro z; injection z with _ z; exact nomatch z), intText_neg (x := strL (45 :: c :: r)) (cs := c :: r) rfl hd (fun z => nomatch z) (by rw [hs]; exact hl), he]; rfl
theorem endC_ne {e : Ed} : ∃ c r, endC e = c :: r ∧ c ≠ 110 := by
  rcases endC_cases e with ⟨he, ec⟩ | ⟨he, ec⟩ | ⟨c, r, ec, hc, hd, he⟩ | ⟨c, r, ec, hc, hd, he⟩
  · exact ⟨_, _, ec, by decide⟩
  · exact ⟨_, _, ec, by decide⟩
  · exact ⟨_, _, ec, by have := hd.head; omega⟩
  · exact ⟨_, _, ec, by decide⟩
theorem go_of {L R : List Nat} : ∀ {S : List Nat} {i : Nat}, L.drop i = S ++ R → goS L S i = .inr (i + S.length)
  | [], i, _ => rfl
  | s :: S, i, h => by
    show (if L[i]? = some s then goS L S (i + 1) else .inl i) = _
    rw [if_pos (get_drop h), go_of (drop_next h), List.length_cons]
    congr 1; omega
def wr (m : Nat) : List Ed → Nat → List Nat
  | [], _ => []
  | e :: es, k => sepL m k ++ (endC e ++ wr m es (k + 1))
theorem wr_app {m : Nat} : ∀ {xs ys : List Ed} {k : Nat}, wr m (xs ++ ys) k = wr m xs k ++ wr m ys (k + xs.length)
  | [], ys, k => rfl
  | x :: xs, ys, k => by
    show sepL m k ++ (endC x ++ wr m (xs ++ ys) (k + 1)) = sepL m k ++ (endC x ++ wr m xs (k + 1)) ++ wr m ys (k + (xs.length + 1))
    rw [wr_app, List.append_assoc, List.append_assoc, show k + 1 + xs.length = k + (xs.length + 1) by omega]
theorem wr_no {m : Nat} {es : List Ed} {k : Nat} : NoDg (wr m es (k + 1)) := by
  cases es with
  | nil => exact fun c h => nomatch h
  | cons e es =>
    intro c h
    have h : (sepL m (k + 1) ++ (endC e ++ wr m es (k + 1 + 1))).head? = some c := h
    unfold sepL at h
    rw [if_neg (by omega)] at h
    by_cases hz : (k + 1) % m = 0
    · rw [if_pos hz] at h
      injection h with h
      rw [← h]; decide
    · rw [if_neg hz] at h
      injection h with h
      rw [← h]; decide
theorem scan_wr {m : Nat} {es : List Ed} (hl : ∀ e ∈ es, (endC e).length ≤ 4300) : ∀ {k : Nat}, k ≤ es.length → scanN (wr m es 0) m k = .inr ((es.take k).map oD, (wr m (es.take k) 0).length)
  | 0, _ => rfl
  | k + 1, hk => by
    have hk' : k < es.length := hk
    have ih := scan_wr (m := m) hl (k := k) (by omega)
    have ed : es.drop k = es[k] :: es.drop (k + 1) := List.drop_eq_getElem_cons hk'
    have el : wr m es 0 = wr m (es.take k) 0 ++ (sepL m k ++ (endC es[k] ++ wr m (es.drop (k + 1)) (k + 1))) := by
      have h1 : es = es.take k ++ es.drop k := (List.take_append_drop k es).symm
      have h2 : wr m (es.take k ++ es.drop k) 0 = wr m (es.take k) 0 ++ wr m (es.drop k) (0 + (es.take k).length) := wr_app
      have h3 : wr m (es.drop k) k = sepL m k ++ (endC es[k] ++ wr m (es.drop (k + 1)) (k + 1)) := by rw [ed]; rfl
      rw [List.length_take, Nat.min_eq_left (by omega), Nat.zero_add, ← h1, h3] at h2
      exact h2
    have d1 : (wr m es 0).drop (wr m (es.take k) 0).length = sepL m k ++ (endC es[k] ++ wr m (es.drop (k + 1)) (k + 1)) := by
      rw [el, List.drop_left]
    have d2 : (wr m es 0).drop ((wr m (es.take k) 0).length + (sepL m k).length) = endC es[k] ++ wr m (es.drop (k + 1)) (k + 1) := by
      rw [← List.drop_drop, d1, List.drop_left]
    have hn := nE_of d2 wr_no
    have hg := go_of d1
    obtain ⟨c, r, ec, _⟩ := endC_ne (e := es[k])
    show (match scanN (wr m es 0) m k with | .inl e => _ | .inr (ds, i) => _) = _
    rw [ih]
    dsimp only
    rw [hg]
    dsimp only
    have hlen : 0 < (endC es[k]).length := by rw [ec]; exact Nat.succ_pos _
    rw [if_neg (by rw [hn]; omega), hn]
    have ecut : cutL (wr m es 0) ((wr m (es.take k) 0).length + (sepL m k).length) ((wr m (es.take k) 0).length + (sepL m k).length + (endC es[k]).length) = endC es[k] := by
      unfold cutL
      rw [d2, Nat.add_sub_cancel_left, List.take_left]
    rw [ecut, part_of (hl _ (List.getElem_mem hk'))]
    have et : es.take (k + 1) = es.take k ++ [es[k]] := by rw [List.take_succ, List.getElem?_eq_getElem hk']; rfl
    have ew : (wr m (es.take (k + 1)) 0).length = (wr m (es.take k) 0).length + (sepL m k).length + (endC es[k]).length := by
      rw [et, wr_app, List.length_append, List.length_take, Nat.min_eq_left (by omega), Nat.zero_add]
      show _ + (sepL m k ++ (endC es[k] ++ [])).length = _
      rw [List.append_nil, List.length_append]; omega
    rw [ew, et, List.map_append]; rfl
def rowC (r : List Ed) : List Nat := TL.joinL [32] (r.map endC)
theorem joinL_cons {S p : List Nat} : ∀ {ps : List (List Nat)}, TL.joinL S (p :: ps) = p ++ ps.flatMap fun q => S ++ q
  | [] => by show p = p ++ []; rw [List.append_nil]
  | q :: r => by
    show p ++ (S ++ TL.joinL S (q :: r)) = _
    rw [joinL_cons, List.flatMap_cons, List.append_assoc]
theorem wr_tail {m p : Nat} : ∀ {r : List Ed} {j : Nat}, 0 < j → j + r.length ≤ m → wr m r (p * m + j) = (r.map endC).flatMap fun q => [32] ++ q
  | [], _, _, _ => rfl
  | e :: r, j, h0, hj => by
    rw [List.length_cons] at hj
    have hm : (p * m + j) % m = j := by rw [Nat.mul_comm, Nat.mul_add_mod]; exact Nat.mod_eq_of_lt (by omega)
    show sepL m (p * m + j) ++ (endC e ++ wr m r (p * m + j + 1)) = _
    have es : sepL m (p * m + j) = [32] := by unfold sepL; rw [if_neg (by omega), hm, if_neg (by omega)]
    rw [es, Nat.add_assoc, wr_tail (by omega) (by omega), List.map_cons, List.flatMap_cons, List.append_assoc]
theorem wr_row {m p : Nat} {r : List Ed} (h0 : 0 < m) (hr : r.length = m) : wr m r (p * m) = sepL m (p * m) ++ rowC r := by
  cases r with
  | nil => exact absurd hr.symm (by show ¬ m = 0; omega)
  | cons e r =>
    rw [List.length_cons] at hr
    show sepL m (p * m) ++ (endC e ++ wr m r (p * m + 1)) = _
    rw [wr_tail (by decide) (by omega)]
    unfold rowC
    rw [List.map_cons, joinL_cons]
theorem wr_rows {m : Nat} (h0 : 0 < m) : ∀ {T : Tab} {p : Nat}, (∀ r ∈ T, r.length = m) → wr m T.flatten ((p + 1) * m) = (T.map rowC).flatMap fun q => [32, 47, 32] ++ q
  | [], _, _ => rfl
  | r :: T, p, h => by
    have hr := h r (List.mem_cons_self ..)
    have es : sepL m ((p + 1) * m) = [32, 47, 32] := by
      unfold sepL
      rw [if_neg (by have : 0 < (p + 1) * m := Nat.mul_pos (Nat.succ_pos _) h0; omega), Nat.mul_mod_left, if_pos rfl]
    rw [List.flatten_cons, wr_app, wr_row h0 hr, hr, es, show (p + 1) * m + m = (p + 1 + 1) * m from (Nat.succ_mul (p + 1) m).symm, wr_rows h0 fun x hx => h x (List.mem_cons_of_mem _ hx), List.map_cons, List.flatMap_cons]
theorem wr_all {m : Nat} (h0 : 0 < m) {T : Tab} (hne : T ≠ []) (h : ∀ r ∈ T, r.length = m) : wr m T.flatten 0 = TL.joinL [32, 47, 32] (T.map rowC) := by
  cases T with
  | nil => exact absurd rfl hne
  | cons r T =>
    have hr := h r (List.mem_cons_self ..)
    have e0 : wr m r 0 = rowC r := by
      have := wr_row (p := 0) h0 hr
      rw [Nat.zero_mul] at this
      exact this
    rw [List.flatten_cons, wr_app, e0, hr, List.map_cons, joinL_cons]
    have := wr_rows h0 (T := T) (p := 0) fun x hx => h x (List.mem_cons_of_mem _ hx)
    rw [Nat.zero_add, Nat.one_mul] at this
    rw [Nat.zero_add, this]
theorem sgs_join {y : Str} {ps : List Str} : sgs (Txt.join y ps) = TL.joinL (sgs y) (ps.map sgs) := by
  rw [TL.join_eq]
  exact TL.tl_join y ps
theorem sgs_row {r : List Ed} : sgs (rowT r) = rowC r := by
  unfold rowT rowC
  rw [sgs_join, sg_blank, List.map_map]; rfl
theorem sgs_writ {m : Nat} (h0 : 0 < m) {T : Tab} (hne : T ≠ []) (h : ∀ r ∈ T, r.length = m) : sgs (writT T) = wr m T.flatten 0 := by
  unfold writT
  rw [if_neg hne, sgs_join, sg_slash, wr_all h0 hne h, List.map_map]
  congr 1
  exact List.map_congr_left fun r _ => sgs_row
theorem flat_row {α : Type} {m : Nat} : ∀ {T : List (List α)} {p : Nat}, (∀ r ∈ T, r.length = m) → (hp : p < T.length) → (T.flatten.drop (p * m)).take m = T[p]
  | [], p, _, hp => absurd hp (Nat.not_lt_zero _)
  | r :: T, 0, h, _ => by
    have hr := h r (List.mem_cons_self ..)
    rw [Nat.zero_mul, List.drop_zero, List.flatten_cons, ← hr, List.take_left]; rfl
  | r :: T, p + 1, h, hp => by
    have hr := h r (List.mem_cons_self ..)
    have e : (p + 1) * m = r.length + p * m := by rw [Nat.succ_mul, hr, Nat.add_comm]
    rw [List.flatten_cons, e, ← List.drop_drop, List.drop_left]
    exact flat_row (fun x hx => h x (List.mem_cons_of_mem _ hx)) (Nat.lt_of_succ_lt_succ hp)
theorem flat_len7 {α : Type} {m : Nat} : ∀ {T : List (List α)}, (∀ r ∈ T, r.length = m) → T.flatten.length = T.length * m
  | [], _ => by show 0 = 0 * m; rw [Nat.zero_mul]
  | r :: T, h => by
    rw [List.flatten_cons, List.length_append, flat_len7 fun x hx => h x (List.mem_cons_of_mem _ hx), h r (List.mem_cons_self ..), List.length_cons, Nat.succ_mul, Nat.add_comm]
theorem read_back {m : Nat} (h0 : 0 < m) {T : Tab} (hT : TabL T) (hs : ShN m T) : readD (sgs (writT T)) m = .inr (tabD T) := by
  rcases hs with rfl | ⟨hl, hr⟩
  · have : sgs (writT []) = noneL := by decide +kernel
    rw [this]; rfl
  · have hne : T ≠ [] := fun z => by rw [z] at hl; exact absurd hl.symm (by show ¬ m = 0; omega)
    rw [sgs_writ h0 hne hr]
    have hfl : T.flatten.length = m * m := by rw [flat_len7 hr, hl]
    have hle : ∀ e ∈ T.flatten, (endC e).length ≤ 4300 := fun e he => by
      obtain ⟨r, hr', he⟩ := List.mem_flatten.mp he
      have := (endL_tx (hT.ed r hr' e he)).len
      rw [← len_sgs] at this
      exact Nat.le_trans this (by decide)
    have hscan := scan_wr (m := m) hle (k := m * m) (by omega)
    rw [List.take_of_length_le (by omega)] at hscan
    have hn : (wr m T.flatten 0)[0]? ≠ some 110 := by
      cases hf : T.flatten with
      | nil => exact absurd (by rw [← hfl, hf]; rfl : m * m = 0) (by have := Nat.mul_pos h0 h0; omega)
      | cons e es =>
        obtain ⟨c, r, ec, hc⟩ := endC_ne (e := e)
        show (endC e ++ wr m es (0 + 1))[0]? ≠ some 110
        rw [ec]
        intro z
        injection z with z
        exact hc z
    unfold readD
    rw [if_neg hn]
    unfold scanD
    rw [hscan]
    dsimp only
    rw [if_neg (Nat.lt_irrefl _)]
    congr 1
    unfold tabOfL tabD
    congr 1
    apply List.ext_getElem
    · rw [List.length_map, List.length_range, List.length_map, hl]
    · intro p h1 h2
      rw [List.length_map] at h2
      rw [List.getElem_map, List.getElem_map, List.getElem_range]
      unfold rowD
      rw [← List.map_drop, ← List.map_take, flat_row hr h2]
end L3
set_option Elab.async false
set_option linter.all false
set_option maxRecDepth 100000
set_option maxHeartbeats 4000000
namespace W
open PySem PySem.Spec PyProof.Rows L2 L3
def top (i : Nat) : PySem.Stmt := PySem.Challenge.pw_everturns_k70_tables_written.main.body.getD i (.Pass ⟨0, 0, 0, 0⟩)
section
variable {P : Program} {w : World} {K : PySem.W.Frag} {mg : PySem.Str → Option Value} {base : Heap}
def v_NOBODY : D := .str ("none" : PySem.Str)
abbrev s_table_text : PySem.Stmt := top 6
abbrev N_table_text : List PySem.Str := [("table" : PySem.Str), ("row" : PySem.Str), ("end" : PySem.Str)]
theorem sc_table_text : FnScope N_table_text [("table" : PySem.Str)] (defScope s_table_text) := ⟨rfl, rfl, rfl, by decide +kernel, rfl, by decide +kernel, by decide +kernel⟩
def r_table_text : XK3 → TS3 := fun E =>
  (wSeq (wIfS (wB (wOp (oEq false) (wVar 0) (wTup wNil))) (wRet (wC v_NOBODY)) wNext)
  (wRet (wJoin (wC (.str (" / " : PySem.Str))) (wLcF (wItems (wVar 0)) (wgName 1) wYes (wJoin (wC (.str (" " : PySem.Str))) (wLcF (wItems (wVar 1)) (wgName 2) wYes (wIf (wB (wOp (oIsN false) (wVar 2) (wC .non))) (wC (.str ("-" : PySem.Str))) (wCB bStrL (wCons (wVar 2) wNil))) [2])) [1]))))
def sp_table_text : Sp3 := spOf 1 3 r_table_text
theorem ok_table_text {f : Addr} {fd : FuncData} (F : Fun K ("table_text" : PySem.Str) ("table_text" : PySem.Str) s_table_text f fd) (z_str : mg ("str" : PySem.Str) = none) (dg : DgF K) (c_NOBODY : GC mg K ("NOBODY" : PySem.Str) v_NOBODY) : FnG P w K mg base (L2.CX P w) 1 f fd [("table" : PySem.Str)] (liftSp K sp_table_text) := by
  refine fng_of (t := r_table_text) F sc_table_text ?_
  intro cdv A outer s H E bs E3 hG hr hE
  have hG : (A.deeper (envOfC ("table_text" : PySem.Str) (defScope s_table_text) s.heap.objs.size f cdv)).guards = some [] := hG
  have hu := hr.units
  have hu2 := hu_more hr
  have nd := sc_table_text.nd
  exact (ss_cons (s_if (t_cmp (o_eq hu) (ev 0) (e_tup a_nil) (nomark _)) (ss_one (s_ret (e_glob c_NOBODY))) ss_nil)
     (ss_one (s_ret (e_join e_str (e_lcF (own := [(("row" : PySem.Str), 1)]) (by decide) rfl nd (w_seq (ev 0)) (blkOk_by (N := N_table_text) (sc := defScope s_table_text) (by decide +kernel)) (fun _ _ _ _ _ => (g_name (i := 1) nd rfl (by first | exact Or.inl rfl | exact Or.inr rfl))) (fun _ _ _ _ _ => ts_nil) (fun _ _ _ _ _ => (e_join e_str (e_lcF (own := [(("end" : PySem.Str), 2)]) (by decide) rfl nd (w_seq (ev 1)) (blkOk_by (N := N_table_text) (by rfl)) (fun _ _ _ _ _ => (g_name (i := 2) nd rfl (by first | exact Or.inl rfl | exact Or.inr rfl))) (fun _ _ _ _ _ => ts_nil) (fun _ _ _ _ _ => (e_if (t_cmp o_is (ev 2) e_non (nomark _)) e_str (e_callTy (c_strL rfl dg) z_str (by decide +kernel) (a_cons (ev 2) a_nil))))))))))))
abbrev s_NoText_init : PySem.Stmt := inClass (top 2) 0
theorem sc_NoText_init : FnScope [("self" : PySem.Str), ("at" : PySem.Str)] [("self" : PySem.Str), ("at" : PySem.Str)] (defScope s_NoText_init) := ⟨rfl, rfl, rfl, by decide +kernel, rfl, by decide +kernel, by decide +kernel⟩
theorem mk_NoText {C fI : Addr} {fd : FuncData} (cl : Cl K ("NoText" : PySem.Str) (.ref C)) (hm : mg ("NoText" : PySem.Str) = some (.ref C)) (T : OexC K C) (n1 : PySem.W.findIn K (.ref C) ("at" : PySem.Str) = some none) (iC : PySem.W.findIn K (.ref C) "__init__" = some (some (.ref fI))) (tI : PySem.W.typeIn K (.ref fI) = some (.type "function")) (F : Fun K "__init__" "NoText.__init__" s_NoText_init fI fd) (bd : Binds K fd [("self" : PySem.Str), ("at" : PySem.Str)] []) : MkX P w K mg base ("NoText" : PySem.Str) [("at" : PySem.Str)] :=
  ⟨C, fI, fd, _, cl, hm, T, iC, tI, bd, F.ok sc_NoText_init (fun vs H Q E h => by obtain ⟨a, ws, rfl, hl, _⟩ := h; rw [List.length_cons, hl]; rfl) fun cdv A outer s H vs Q E hr h => ⟨_, (pss_one (ps_ost (pv 0) (pv 1))), by
    obtain ⟨a, ws, rfl, hl, h2⟩ := h
    match ws, hl, h2 with
    | [w0], hl, h2 => exact rd_ini1 (E := E) T n1 rfl ⟨a, _, rfl, hl, h2⟩⟩⟩
abbrev s_gone_over : PySem.Stmt := top 7
abbrev N_gone_over : List PySem.Str := [("text" : PySem.Str), ("at" : PySem.Str), ("signs" : PySem.Str), ("sign" : PySem.Str)]
theorem sc_gone_over : FnScope N_gone_over [("text" : PySem.Str), ("at" : PySem.Str), ("signs" : PySem.Str)] (defScope s_gone_over) := ⟨rfl, rfl, rfl, by decide +kernel, rfl, by decide +kernel, by decide +kernel⟩
def r_gone_over : XK3 → TS3 := fun E =>
  (wSeq (wFor (wSigns (wVar 2)) (wgName 3) (wSeq (wIfS (wOr (wB (wOp oGe (wVar 1) (wCB bLen (wCons (wVar 0) wNil)))) (wB (wOp (oEq true) (wOp oIx (wVar 0) (wVar 1)) (wVar 3)))) (wRaise ("NoText" : PySem.Str) [("at" : PySem.Str)] (fun _ => E) (wCons (wVar 1) wNil)) wNext)
  (wAug 1 (wC (.int 1)) oAddI)))
  (wRet (wVar 1)))
def sp_gone_over : Sp3 := spOf 3 4 r_gone_over
theorem ok_gone_over {f : Addr} {fd : FuncData} (hm : mg ("gone_over" : PySem.Str) = some (.ref f)) (F : Fun K ("gone_over" : PySem.Str) ("gone_over" : PySem.Str) s_gone_over f fd) (bd : Binds K fd [("text" : PySem.Str), ("at" : PySem.Str), ("signs" : PySem.Str)] []) (z_len : mg ("len" : PySem.Str) = none) (x_NoText : MkX P w K mg base ("NoText" : PySem.Str) [("at" : PySem.Str)]) : Def3 P w K mg base (L2.CX P w) 3 ("gone_over" : PySem.Str) sp_gone_over := by
  refine def_of (t := r_gone_over) hm F bd sc_gone_over ?_
  intro cdv A outer s H E bs E3 hG hr hE
  have hG : (A.deeper (envOfC ("gone_over" : PySem.Str) (defScope s_gone_over) s.heap.objs.size f cdv)).guards = some [] := hG
  have hu := hr.units
  have hu2 := hu_more hr
  have nd := sc_gone_over.nd
  exact (ss_cons (s_for (passes_of rfl) rfl (w_signs (ev 2)) (g_name (i := 3) nd rfl (by first | exact Or.inl rfl | exact Or.inr rfl)) (ss_cons (s_if (PW3.pt (t_or (t_cmp o_ge (ev 1) (e_callB c_len z_len (by decide +kernel) (a_cons (ev 0) a_nil)) (nomark _)) (t_or1 (t_cmp (o_ne hu) (e_ix (ev 0) (ev 1)) (ev 3) (nomark _))))) (ss_one (s_raise rfl (hr.mono (by decide)) x_NoText (takesXE hE) (a_cons (ev 1) a_nil))) ss_nil)
     (ss_one (s_aug (i := 1) nd rfl (by first | exact Or.inl rfl | exact Or.inr rfl) e_int ip_addI))))
     (ss_one (s_ret (ev 1))))
def v_DIGITS : D := .str ("0123456789" : PySem.Str)
abbrev s_end_behind : PySem.Stmt := top 8
abbrev N_end_behind : List PySem.Str := [("text" : PySem.Str), ("at" : PySem.Str), ("begin" : PySem.Str), ("behind" : PySem.Str)]
theorem sc_end_behind : FnScope N_end_behind [("text" : PySem.Str), ("at" : PySem.Str)] (defScope s_end_behind) := ⟨rfl, rfl, rfl, by decide +kernel, rfl, by decide +kernel, by decide +kernel⟩
def r_end_behind : XK3 → TS3 := fun E =>
  (wSeq (wSet 2 (wIf (wB (wOp (oEq false) (wSlS (wVar 0) (wPart (wVar 1)) (wPart (wOp oAddF (wVar 1) (wC (.int 1))))) (wC (.str ("-" : PySem.Str))))) (wOp oAddF (wVar 1) (wC (.int 1))) (wVar 1)))
  (wSeq (wIfS (wAnd (wB (wOp (oEq false) (wVar 2) (wVar 1))) (wB (wOp (oEq false) (wSlS (wVar 0) (wPart (wVar 1)) (wPart (wOp oAddF (wVar 1) (wC (.int 1))))) (wC (.str ("0" : PySem.Str)))))) (wRet (wOp oAddF (wVar 1) (wC (.int 1)))) wNext)
  (wSeq (wSet 3 (wVar 2))
  (wSeq (wWhile (wAnd (wB (wOp oLt (wVar 3) (wCB bLen (wCons (wVar 0) wNil)))) (wAnd (wB (wOp (oInS false) (wOp oIx (wVar 0) (wVar 3)) (wC v_DIGITS))) (wB (wOp (oEq true) (wOp oIx (wVar 0) (wVar 2)) (wC (.str ("0" : PySem.Str))))))) (wAug 3 (wC (.int 1)) oAddI))
  (wSeq (wIfS (wB (wOp (oEq false) (wVar 3) (wVar 1))) (wRaise ("NoText" : PySem.Str) [("at" : PySem.Str)] (fun _ => E) (wCons (wVar 1) wNil)) wNext)
  (wRet (wVar 3)))))))
def sp_end_behind : Sp3 := spOf 2 4 r_end_behind
theorem ok_end_behind {f : Addr} {fd : FuncData} (hm : mg ("end_behind" : PySem.Str) = some (.ref f)) (F : Fun K ("end_behind" : PySem.Str) ("end_behind" : PySem.Str) s_end_behind f fd) (bd : Binds K fd [("text" : PySem.Str), ("at" : PySem.Str)] []) (z_len : mg ("len" : PySem.Str) = none) (x_NoText : MkX P w K mg base ("NoText" : PySem.Str) [("at" : PySem.Str)]) (c_DIGITS : GC mg K ("DIGITS" : PySem.Str) v_DIGITS) : Def3 P w K mg base (L2.CX P w) 3 ("end_behind" : PySem.Str) sp_end_behind := by
  refine def_of (t := r_end_behind) hm F bd sc_end_behind ?_
  intro cdv A outer s H E bs E3 hG hr hE
  have hG : (A.deeper (envOfC ("end_behind" : PySem.Str) (defScope s_end_behind) s.heap.objs.size f cdv)).guards = some [] := hG
  have hu := hr.units
  have hu2 := hu_more hr
  have nd := sc_end_behind.nd
  exact (ss_cons (s_set (i := 2) nd rfl (by first | exact Or.inl rfl | exact Or.inr rfl) (e_if (t_cmp (o_eq hu) (e_sliceS (ev 0) (p_some (ev 1)) (p_some (e_op o_addF (ev 1) e_int))) e_str (nomark _)) (e_op o_addF (ev 1) e_int) (ev 1)))
     (ss_cons (s_if (PW3.pt (t_and (t_cmp (o_eq hu) (ev 2) (ev 1) (nomark _)) (t_and1 (t_cmp (o_eq hu) (e_sliceS (ev 0) (p_some (ev 1)) (p_some (e_op o_addF (ev 1) e_int))) e_str (nomark _))))) (ss_one (s_ret (e_op o_addF (ev 1) e_int))) ss_nil)
     (ss_cons (s_set (i := 3) nd rfl (by first | exact Or.inl rfl | exact Or.inr rfl) (ev 2))
     (ss_cons (s_while (passes_of rfl) (PW3.pt (t_and (t_cmp o_lt (ev 3) (e_callB c_len z_len (by decide +kernel) (a_cons (ev 0) a_nil)) (nomark _)) (t_and (t_cmp o_inS (e_ix (ev 0) (ev 3)) (e_glob c_DIGITS) rfl) (t_and1 (t_cmp (o_ne hu) (e_ix (ev 0) (ev 2)) e_str (nomark _)))))) (ss_one (s_aug (i := 3) nd rfl (by first | exact Or.inl rfl | exact Or.inr rfl) e_int ip_addI)))
     (ss_cons (s_if (t_cmp (o_eq hu) (ev 3) (ev 1) (nomark _)) (ss_one (s_raise rfl (hr.mono (by decide)) x_NoText (takesXE hE) (a_cons (ev 1) a_nil))) ss_nil)
     (ss_one (s_ret (ev 3))))))))
abbrev s_read_table : PySem.Stmt := top 9
abbrev N_read_table : List PySem.Str := [("text" : PySem.Str), ("many" : PySem.Str), ("found" : PySem.Str), ("at" : PySem.Str), ("number" : PySem.Str), ("behind" : PySem.Str), ("p" : PySem.Str)]
theorem sc_read_table : FnScope N_read_table [("text" : PySem.Str), ("many" : PySem.Str)] (defScope s_read_table) := ⟨rfl, rfl, rfl, by decide +kernel, rfl, by decide +kernel, by decide +kernel⟩
def r_read_table (sp_gone_over : Sp3) (sp_end_behind : Sp3) : XK3 → TS3 := fun E =>
  (wSeq (wIfS (wB (wOp (oEq false) (wSlS (wVar 0) wNoPart (wPart (wC (.int 1)))) (wOp oIx (wC v_NOBODY) (wC (.int 0))))) (wSeq (wIfS (wB (wOp oLt (wCallP sp_gone_over E (wCons (wVar 0) (wCons (wC (.int 0)) (wCons (wC v_NOBODY) wNil)))) (wCB bLen (wCons (wVar 0) wNil)))) (wRaise ("NoText" : PySem.Str) [("at" : PySem.Str)] (fun _ => E) (wCons (wCB bLen (wCons (wC v_NOBODY) wNil)) wNil)) wNext)
  (wRet (wTup wNil))) wNext)
  (wSeq (wSet 2 (wLst wNil))
  (wSeq (wSet 3 (wC (.int 0)))
  (wSeq (wFor (wRng1 (wCons (wOp oMulF (wVar 1) (wVar 1)) wNil)) (wgName 4) (wSeq (wIfS (wB (wOp oGt (wVar 4) (wC (.int 0)))) (wSet 3 (wCallP sp_gone_over E (wCons (wVar 0) (wCons (wVar 3) (wCons (wIf (wB (wOp oGt (wOp oMd (wVar 4) (wVar 1)) (wC (.int 0)))) (wC (.str (" " : PySem.Str))) (wC (.str (" / " : PySem.Str)))) wNil))))) wNext)
  (wSeq (wSet 5 (wCallP sp_end_behind E (wCons (wVar 0) (wCons (wVar 3) wNil))))
  (wSeq (wDrop (wBM oApp (wVar 2) (wCons (wIf (wB (wOp (oEq false) (wSlS (wVar 0) (wPart (wVar 3)) (wPart (wVar 5))) (wC (.str ("-" : PySem.Str))))) (wC .non) (wCB bIntL (wCons (wSlS (wVar 0) (wPart (wVar 3)) (wPart (wVar 5))) wNil))) wNil)))
  (wSet 3 (wVar 5))))))
  (wSeq (wIfS (wB (wOp oLt (wVar 3) (wCB bLen (wCons (wVar 0) wNil)))) (wRaise ("NoText" : PySem.Str) [("at" : PySem.Str)] (fun _ => E) (wCons (wVar 3) wNil)) wNext)
  (wRet (wCB bTuple (wCons (wLcF (wRng1 (wCons (wVar 1) wNil)) (wgName 6) wYes (wCB bTuple (wCons (wSlF (wVar 2) (wPart (wOp oMulF (wVar 6) (wVar 1))) (wPart (wOp oMulF (wOp oAddF (wVar 6) (wC (.int 1))) (wVar 1)))) wNil)) [6]) wNil))))))))
def sp_read_table : Sp3 := spOf 2 7 (r_read_table sp_gone_over sp_end_behind)
theorem ok_read_table {f : Addr} {fd : FuncData} (F : Fun K ("read_table" : PySem.Str) ("read_table" : PySem.Str) s_read_table f fd) (z_int : mg ("int" : PySem.Str) = none) (z_len : mg ("len" : PySem.Str) = none) (z_range : mg ("range" : PySem.Str) = none) (z_tuple : mg ("tuple" : PySem.Str) = none) (dg : DgF K) (x_NoText : MkX P w K mg base ("NoText" : PySem.Str) [("at" : PySem.Str)]) (c_NOBODY : GC mg K ("NOBODY" : PySem.Str) v_NOBODY) (d_gone_over : Def3 P w K mg base (L2.CX P w) 3 ("gone_over" : PySem.Str) sp_gone_over) (d_end_behind : Def3 P w K mg base (L2.CX P w) 3 ("end_behind" : PySem.Str) sp_end_behind) : FnG P w K mg base (L2.CX P w) 4 f fd [("text" : PySem.Str), ("many" : PySem.Str)] (liftSp K sp_read_table) := by
  refine fng_of (t := (r_read_table sp_gone_over sp_end_behind)) F sc_read_table ?_
  intro cdv A outer s H E bs E3 hG hr hE
  have hG : (A.deeper (envOfC ("read_table" : PySem.Str) (defScope s_read_table) s.heap.objs.size f cdv)).guards = some [] := hG
  have hu := hr.units
  have hu2 := hu_more hr
  have nd := sc_read_table.nd
  exact (ss_cons (s_if (t_cmp (o_eq hu) (e_sliceS (ev 0) p_none (p_some e_int)) (e_ix (e_glob c_NOBODY) e_int) (nomark _)) (ss_cons (s_if (t_cmp o_lt (e_callP d_gone_over hG (hr.mono (by decide)) (passXE hE) (a_cons (ev 0) (a_cons e_int (a_cons (e_glob c_NOBODY) a_nil)))) (e_callB c_len z_len (by decide +kernel) (a_cons (ev 0) a_nil)) (nomark _)) (ss_one (s_raise rfl (hr.mono (by decide)) x_NoText (takesXE hE) (a_cons (e_callB c_len z_len (by decide +kernel) (a_cons (e_glob c_NOBODY) a_nil)) a_nil))) ss_nil)
     (ss_one (s_ret (e_tup a_nil)))) ss_nil)
     (ss_cons (s_set (i := 2) nd rfl (by first | exact Or.inl rfl | exact Or.inr rfl) (e_lst a_nil))
     (ss_cons (s_set (i := 3) nd rfl (by first | exact Or.inl rfl | exact Or.inr rfl) e_int)
     (ss_cons (s_for (passes_of rfl) rfl (w_rng1 z_range (a_cons (e_op o_mulF (ev 1) (ev 1)) a_nil)) (g_name (i := 4) nd rfl (by first | exact Or.inl rfl | exact Or.inr rfl)) (ss_cons (s_if (t_cmp o_gt (ev 4) e_int (nomark _)) (ss_one (s_set (i := 3) nd rfl (by first | exact Or.inl rfl | exact Or.inr rfl) (e_callP d_gone_over hG (hr.mono (by decide)) (passXE hE) (a_cons (ev 0) (a_cons (ev 3) (a_cons (e_if (t_cmp o_gt (e_op o_md (ev 4) (ev 1)) e_int (nomark _)) e_str e_str) a_nil)))))) ss_nil)
     (ss_cons (s_set (i := 5) nd rfl (by first | exact Or.inl rfl | exact Or.inr rfl) (e_callP d_end_behind hG (hr.mono (by decide)) (passXE hE) (a_cons (ev 0) (a_cons (ev 3) a_nil))))
     (ss_cons (s_expr (e_append (ev 2) (e_if (t_cmp (o_eq hu) (e_sliceS (ev 0) (p_some (ev 3)) (p_some (ev 5))) e_str (nomark _)) e_non (e_callTy (c_intL dg) z_int (by decide +kernel) (a_cons (e_sliceS (ev 0) (p_some (ev 3)) (p_some (ev 5))) a_nil)))))
     (ss_one (s_set (i := 3) nd rfl (by first | exact Or.inl rfl | exact Or.inr rfl) (ev 5)))))))
     (ss_cons (s_if (t_cmp o_lt (ev 3) (e_callB c_len z_len (by decide +kernel) (a_cons (ev 0) a_nil)) (nomark _)) (ss_one (s_raise rfl (hr.mono (by decide)) x_NoText (takesXE hE) (a_cons (ev 3) a_nil))) ss_nil)
     (ss_one (s_ret (e_callTy c_tuple z_tuple (by decide +kernel) (a_cons (e_lcF (own := [(("p" : PySem.Str), 6)]) (by decide) rfl nd (w_rng1 z_range (a_cons (ev 1) a_nil)) (blkOk_by (N := N_read_table) (sc := defScope s_read_table) (by decide +kernel)) (fun _ _ _ _ _ => (g_name (i := 6) nd rfl (by first | exact Or.inl rfl | exact Or.inr rfl))) (fun _ _ _ _ _ => ts_nil) (fun _ _ _ _ _ => (e_callTy c_tuple z_tuple (by decide +kernel) (a_cons (e_sliceF (ev 2) (p_some (e_op o_mulF (ev 6) (ev 1))) (p_some (e_op o_mulF (e_op o_addF (ev 6) e_int) (ev 1)))) a_nil)))) a_nil)))))))))
abbrev s__law_deck : PySem.Stmt := top 11
abbrev N__law_deck : List PySem.Str := [("_law_script" : PySem.Str)]
theorem sc__law_deck : FnScope N__law_deck [("_law_script" : PySem.Str)] (defScope s__law_deck) := ⟨rfl, rfl, rfl, by decide +kernel, rfl, by decide +kernel, by decide +kernel⟩
def r__law_deck : XK3 → TS3 := fun E =>
  (wRet (wLst (wCons (wCB bListF (wCons (wVar 0) wNil)) (wCons (wC (.int 0)) (wCons (wC (.int 0)) (wCons (wC (.int 0)) wNil))))))
def sp__law_deck : Sp3 := spOf 1 1 r__law_deck
theorem ok__law_deck {f : Addr} {fd : FuncData} (hm : mg ("_law_deck" : PySem.Str) = some (.ref f)) (F : Fun K ("_law_deck" : PySem.Str) ("_law_deck" : PySem.Str) s__law_deck f fd) (bd : Binds K fd [("_law_script" : PySem.Str)] []) (z_list : mg ("list" : PySem.Str) = none) : Def3 P w K mg base (L2.CX P w) 1 ("_law_deck" : PySem.Str) sp__law_deck := by
  refine def_of (t := r__law_deck) hm F bd sc__law_deck ?_
  intro cdv A outer s H E bs E3 hG hr hE
  have hG : (A.deeper (envOfC ("_law_deck" : PySem.Str) (defScope s__law_deck) s.heap.objs.size f cdv)).guards = some [] := hG
  have hu := hr.units
  have hu2 := hu_more hr
  have nd := sc__law_deck.nd
  exact (ss_one (s_ret (e_lst (a_cons (e_callTy c_listF z_list (by decide +kernel) (a_cons (ev 0) a_nil)) (a_cons e_int (a_cons e_int (a_cons e_int a_nil)))))))
abbrev s__law_mixed : PySem.Stmt := top 12
abbrev N__law_mixed : List PySem.Str := [("_law_cell" : PySem.Str), ("_law_turn" : PySem.Str)]
theorem sc__law_mixed : FnScope N__law_mixed [("_law_cell" : PySem.Str), ("_law_turn" : PySem.Str)] (defScope s__law_mixed) := ⟨rfl, rfl, rfl, by decide +kernel, rfl, by decide +kernel, by decide +kernel⟩
def r__law_mixed : XK3 → TS3 := fun E =>
  (wRet (wOp oMd (wOp oPw (wOp oAddF (wOp oAddF (wOp oMd (wVar 0) (wC (.int 2147483629))) (wOp oMulF (wVar 1) (wC (.int 1000003)))) (wC (.int 17))) (wC (.int 5))) (wC (.int 2147483647))))
def sp__law_mixed : Sp3 := spOf 2 2 r__law_mixed
theorem ok__law_mixed {f : Addr} {fd : FuncData} (hm : mg ("_law_mixed" : PySem.Str) = some (.ref f)) (F : Fun K ("_law_mixed" : PySem.Str) ("_law_mixed" : PySem.Str) s__law_mixed f fd) (bd : Binds K fd [("_law_cell" : PySem.Str), ("_law_turn" : PySem.Str)] []) : Def3 P w K mg base (L2.CX P w) 1 ("_law_mixed" : PySem.Str) sp__law_mixed := by
  refine def_of (t := r__law_mixed) hm F bd sc__law_mixed ?_
  intro cdv A outer s H E bs E3 hG hr hE
  have hG : (A.deeper (envOfC ("_law_mixed" : PySem.Str) (defScope s__law_mixed) s.heap.objs.size f cdv)).guards = some [] := hG
  have hu := hr.units
  have hu2 := hu_more hr
  have nd := sc__law_mixed.nd
  exact (ss_one (s_ret (e_op o_md (e_op o_pw (e_op o_addF (e_op o_addF (e_op o_md (ev 0) e_int) (e_op o_mulF (ev 1) e_int)) e_int) e_int) e_int)))
abbrev s__law_draw : PySem.Stmt := top 13
abbrev N__law_draw : List PySem.Str := [("_law_deck_here" : PySem.Str), ("_law_points" : PySem.Str), ("_law_cells" : PySem.Str), ("_law_found" : PySem.Str), ("_law_number" : PySem.Str)]
theorem sc__law_draw : FnScope N__law_draw [("_law_deck_here" : PySem.Str), ("_law_points" : PySem.Str)] (defScope s__law_draw) := ⟨rfl, rfl, rfl, by decide +kernel, rfl, by decide +kernel, by decide +kernel⟩
def r__law_draw (sp__law_mixed : Sp3) : XK3 → TS3 := fun E =>
  (wSeq (wSet 2 (wOp oIx (wVar 0) (wC (.int 0))))
  (wSeq (wAsg (wOp oAddF (wOp oIx (wVar 0) (wC (.int 3))) (wC (.int 1))) (wgSub (wVar 0) (wC (.int 3)) oPut))
  (wSeq (wIfS (wAnd (wB (wOp (oEq false) (wOp oIx (wVar 0) (wC (.int 2))) (wC (.int 0)))) (wB (wOp oLt (wOp oIx (wVar 0) (wC (.int 1))) (wCB bLen (wCons (wVar 2) wNil))))) (wSeq (wAsg (wOp oAddF (wOp oIx (wVar 0) (wC (.int 1))) (wC (.int 1))) (wgSub (wVar 0) (wC (.int 1)) oPut))
  (wSeq (wIfS (wB (wOp oLt (wCB bAbs (wCons (wOp oIx (wVar 2) (wOp oSub (wOp oIx (wVar 0) (wC (.int 1))) (wC (.int 1)))) wNil)) (wOp oPw (wC (.int 10)) (wC (.int 18))))) (wRet (wOp oMd (wCallP sp__law_mixed E (wCons (wOp oIx (wVar 2) (wOp oSub (wOp oIx (wVar 0) (wC (.int 1))) (wC (.int 1)))) (wCons (wOp oIx (wVar 0) (wC (.int 3))) wNil))) (wVar 1))) wNext)
  (wAsg (wCB bAbs (wCons (wOp oIx (wVar 2) (wOp oSub (wOp oIx (wVar 0) (wC (.int 1))) (wC (.int 1)))) wNil)) (wgSub (wVar 0) (wC (.int 2)) oPut)))) wNext)
  (wSeq (wIfS (wB (wOp oGt (wOp oIx (wVar 0) (wC (.int 2))) (wC (.int 0)))) (wSeq (wSet 3 (wOp oMd (wOp oIx (wVar 0) (wC (.int 2))) (wVar 1)))
  (wSeq (wAsg (wOp oFd (wOp oIx (wVar 0) (wC (.int 2))) (wVar 1)) (wgSub (wVar 0) (wC (.int 2)) oPut))
  (wRet (wVar 3)))) wNext)
  (wSeq (wSet 4 (wOp oMulF (wOp oIx (wVar 0) (wC (.int 3))) (wC (.int 48271))))
  (wSeq (wIfS (wB (wOp oGt (wCB bLen (wCons (wVar 2) wNil)) (wC (.int 0)))) (wSet 4 (wOp oAddF (wVar 4) (wOp oMd (wOp oIx (wVar 2) (wOp oMd (wOp oMulF (wOp oIx (wVar 0) (wC (.int 3))) (wC (.int 7))) (wCB bLen (wCons (wVar 2) wNil)))) (wC (.int 2147483629))))) wNext)
  (wRet (wOp oMd (wCallP sp__law_mixed E (wCons (wVar 4) (wCons (wOp oIx (wVar 0) (wC (.int 3))) wNil))) (wVar 1)))))))))
def sp__law_draw : Sp3 := spOf 2 5 (r__law_draw sp__law_mixed)
theorem ok__law_draw {f : Addr} {fd : FuncData} (hm : mg ("_law_draw" : PySem.Str) = some (.ref f)) (F : Fun K ("_law_draw" : PySem.Str) ("_law_draw" : PySem.Str) s__law_draw f fd) (bd : Binds K fd [("_law_deck_here" : PySem.Str), ("_law_points" : PySem.Str)] []) (z_abs : mg ("abs" : PySem.Str) = none) (z_len : mg ("len" : PySem.Str) = none) (d__law_mixed : Def3 P w K mg base (L2.CX P w) 1 ("_law_mixed" : PySem.Str) sp__law_mixed) : Def3 P w K mg base (L2.CX P w) 2 ("_law_draw" : PySem.Str) sp__law_draw := by
  refine def_of (t := (r__law_draw sp__law_mixed)) hm F bd sc__law_draw ?_
  intro cdv A outer s H E bs E3 hG hr hE
  have hG : (A.deeper (envOfC ("_law_draw" : PySem.Str) (defScope s__law_draw) s.heap.objs.size f cdv)).guards = some [] := hG
  have hu := hr.units
  have hu2 := hu_more hr
  have nd := sc__law_draw.nd
  exact (ss_cons (s_set (i := 2) nd rfl (by first | exact Or.inl rfl | exact Or.inr rfl) (e_ix (ev 0) e_int))
     (ss_cons (s_asg (e_op o_addF (e_ix (ev 0) e_int) e_int) (g_sub (ev 0) e_int p_put))
     (ss_cons (s_if (PW3.pt (t_and (t_cmp (o_eq hu) (e_ix (ev 0) e_int) e_int (nomark _)) (t_and1 (t_cmp o_lt (e_ix (ev 0) e_int) (e_callB c_len z_len (by decide +kernel) (a_cons (ev 2) a_nil)) (nomark _))))) (ss_cons (s_asg (e_op o_addF (e_ix (ev 0) e_int) e_int) (g_sub (ev 0) e_int p_put))
     (ss_cons (s_if (t_cmp o_lt (e_callB c_abs z_abs (by decide +kernel) (a_cons (e_ix (ev 2) (e_op o_sub (e_ix (ev 0) e_int) e_int)) a_nil)) (e_op o_pw e_int e_int) (nomark _)) (ss_one (s_ret (e_op o_md (e_callP d__law_mixed hG (hr.mono (by decide)) (passXE hE) (a_cons (e_ix (ev 2) (e_op o_sub (e_ix (ev 0) e_int) e_int)) (a_cons (e_ix (ev 0) e_int) a_nil))) (ev 1)))) ss_nil)
     (ss_one (s_asg (e_callB c_abs z_abs (by decide +kernel) (a_cons (e_ix (ev 2) (e_op o_sub (e_ix (ev 0) e_int) e_int)) a_nil)) (g_sub (ev 0) e_int p_put))))) ss_nil)
     (ss_cons (s_if (t_cmp o_gt (e_ix (ev 0) e_int) e_int (nomark _)) (ss_cons (s_set (i := 3) nd rfl (by first | exact Or.inl rfl | exact Or.inr rfl) (e_op o_md (e_ix (ev 0) e_int) (ev 1)))
     (ss_cons (s_asg (e_op o_fd (e_ix (ev 0) e_int) (ev 1)) (g_sub (ev 0) e_int p_put))
     (ss_one (s_ret (ev 3))))) ss_nil)
     (ss_cons (s_set (i := 4) nd rfl (by first | exact Or.inl rfl | exact Or.inr rfl) (e_op o_mulF (e_ix (ev 0) e_int) e_int))
     (ss_cons (s_if (t_cmp o_gt (e_callB c_len z_len (by decide +kernel) (a_cons (ev 2) a_nil)) e_int (nomark _)) (ss_one (s_set (i := 4) nd rfl (by first | exact Or.inl rfl | exact Or.inr rfl) (e_op o_addF (ev 4) (e_op o_md (e_ix (ev 2) (e_op o_md (e_op o_mulF (e_ix (ev 0) e_int) e_int) (e_callB c_len z_len (by decide +kernel) (a_cons (ev 2) a_nil)))) e_int)))) ss_nil)
     (ss_one (s_ret (e_op o_md (e_callP d__law_mixed hG (hr.mono (by decide)) (passXE hE) (a_cons (ev 4) (a_cons (e_ix (ev 0) e_int) a_nil))) (ev 1))))))))))
abbrev s__law_same : PySem.Stmt := top 14
abbrev N__law_same : List PySem.Str := [("_law_found" : PySem.Str), ("_law_due" : PySem.Str), ("_law_k" : PySem.Str)]
theorem sc__law_same : FnScope N__law_same [("_law_found" : PySem.Str), ("_law_due" : PySem.Str)] (defScope s__law_same) := ⟨rfl, rfl, rfl, by decide +kernel, rfl, by decide +kernel, by decide +kernel⟩
def r__law_same (sp__law_same : Sp3) : XK3 → TS3 := fun E =>
  (wSeq (wIfS (wB (wCB bIsiT (wCons (wVar 1) (wCons (wTup (wCons (wC (.ty "tuple")) (wCons (wC (.ty "list")) wNil))) wNil)))) (wSeq (wIfS (wOr (wB (wOp (oEq true) (wCB bIsi (wCons (wVar 0) (wCons (wC (.ty "tuple")) wNil))) (wCB bIsi (wCons (wVar 1) (wCons (wC (.ty "tuple")) wNil))))) (wB (wOp (oEq true) (wCB bIsi (wCons (wVar 0) (wCons (wC (.ty "list")) wNil))) (wCB bIsi (wCons (wVar 1) (wCons (wC (.ty "list")) wNil)))))) (wRet (wC (.bl false))) wNext)
  (wSeq (wIfS (wB (wOp (oEq true) (wCB bLen (wCons (wVar 0) wNil)) (wCB bLen (wCons (wVar 1) wNil)))) (wRet (wC (.bl false))) wNext)
  (wRet (wOp (oEq false) (wLcF (wRng1 (wCons (wCB bLen (wCons (wVar 1) wNil)) wNil)) (wgName 2) (wNot (wB (wCallP sp__law_same X0 (wCons (wOp oIx (wVar 0) (wVar 2)) (wCons (wOp oIx (wVar 1) (wVar 2)) wNil))))) (wVar 2) [2]) (wLstF wNil))))) wNext)
  (wSeq (wIfS (wB (wOp (oIsN false) (wVar 1) (wC .non))) (wRet (wOp (oIsN false) (wVar 0) (wC .non))) wNext)
  (wSeq (wIfS (wB (wCB bIsi (wCons (wVar 1) (wCons (wC (.ty "str")) wNil)))) (wRet (wAndV (wCB bIsi (wCons (wVar 0) (wCons (wC (.ty "str")) wNil))) (wOp (oEq false) (wVar 0) (wVar 1)))) wNext)
  (wRet (wAndV (wCB bIsi (wCons (wVar 0) (wCons (wC (.ty "int")) wNil))) (wAndV (wOp (oEq false) (wCB bIsi (wCons (wVar 0) (wCons (wC (.ty "bool")) wNil))) (wCB bIsi (wCons (wVar 1) (wCons (wC (.ty "bool")) wNil)))) (wOp (oEq false) (wVar 0) (wVar 1))))))))
def sn__law_same : Nat → Sp3
  | 0 => fun _ _ _ _ => False
  | n + 1 => spOf 2 3 (r__law_same (sn__law_same n))
abbrev sp__law_same : Sp3 := sn__law_same 6
theorem ok__law_same {n : Nat} {f : Addr} {fd : FuncData} (hm : mg ("_law_same" : PySem.Str) = some (.ref f)) (F : Fun K ("_law_same" : PySem.Str) ("_law_same" : PySem.Str) s__law_same f fd) (bd : Binds K fd [("_law_found" : PySem.Str), ("_law_due" : PySem.Str)] []) (z_bool : mg ("bool" : PySem.Str) = none) (z_int : mg ("int" : PySem.Str) = none) (z_isinstance : mg ("isinstance" : PySem.Str) = none) (z_len : mg ("len" : PySem.Str) = none) (z_list : mg ("list" : PySem.Str) = none) (z_range : mg ("range" : PySem.Str) = none) (z_str : mg ("str" : PySem.Str) = none) (z_tuple : mg ("tuple" : PySem.Str) = none) (d__law_same : Def3 P w K mg base (L2.CX P w) (2 + n) ("_law_same" : PySem.Str) (sn__law_same n)) : Def3 P w K mg base (L2.CX P w) (2 + n + 1) ("_law_same" : PySem.Str) (sn__law_same (n + 1)) := by
  refine def_of (t := (r__law_same (sn__law_same n))) hm F bd sc__law_same ?_
  intro cdv A outer s H E bs E3 hG hr hE
  have hG : (A.deeper (envOfC ("_law_same" : PySem.Str) (defScope s__law_same) s.heap.objs.size f cdv)).guards = some [] := hG
  have hu := hr.units
  have hu2 := hu_more hr
  have nd := sc__law_same.nd
  exact (ss_cons (s_if (t_val (e_callB c_isiT z_isinstance (by decide +kernel) (a_cons (ev 1) (a_cons (e_tup (a_cons (e_bty z_tuple (by decide +kernel)) (a_cons (e_bty z_list (by decide +kernel)) a_nil))) a_nil)))) (ss_cons (s_if (PW3.pt (t_or (t_cmp (o_ne hu) (e_callB c_isi z_isinstance (by decide +kernel) (a_cons (ev 0) (a_cons (e_bty z_tuple (by decide +kernel)) a_nil))) (e_callB c_isi z_isinstance (by decide +kernel) (a_cons (ev 1) (a_cons (e_bty z_tuple (by decide +kernel)) a_nil))) (nomark _)) (t_or1 (t_cmp (o_ne hu) (e_callB c_isi z_isinstance (by decide +kernel) (a_cons (ev 0) (a_cons (e_bty z_list (by decide +kernel)) a_nil))) (e_callB c_isi z_isinstance (by decide +kernel) (a_cons (ev 1) (a_cons (e_bty z_list (by decide +kernel)) a_nil))) (nomark _))))) (ss_one (s_ret e_bl)) ss_nil)
     (ss_cons (s_if (t_cmp (o_ne hu) (e_callB c_len z_len (by decide +kernel) (a_cons (ev 0) a_nil)) (e_callB c_len z_len (by decide +kernel) (a_cons (ev 1) a_nil)) (nomark _)) (ss_one (s_ret e_bl)) ss_nil)
     (ss_one (s_ret (e_cmp (o_eq hu) (e_lcF (own := [(("_law_k" : PySem.Str), 2)]) (by decide) rfl nd (w_rng1 z_range (a_cons (e_callB c_len z_len (by decide +kernel) (a_cons (ev 1) a_nil)) a_nil)) (blkOk_by (N := N__law_same) (sc := defScope s__law_same) (by decide +kernel)) (fun _ _ _ _ _ => (g_name (i := 2) nd rfl (by first | exact Or.inl rfl | exact Or.inr rfl))) (fun _ _ _ _ _ => (ts_one (t_not (t_val (e_callP d__law_same hG (hr.mono (by omega)) passX1 (a_cons (e_ix (ev 0) (ev 2)) (a_cons (e_ix (ev 1) (ev 2)) a_nil))))))) (fun _ _ _ _ _ => (ev 2))) (e_lstF a_nil) (nomark _)))))) ss_nil)
     (ss_cons (s_if (t_cmp o_is (ev 1) e_non (nomark _)) (ss_one (s_ret (e_cmp o_is (ev 0) e_non (nomark _)))) ss_nil)
     (ss_cons (s_if (t_val (e_callB c_isi z_isinstance (by decide +kernel) (a_cons (ev 1) (a_cons (e_bty z_str (by decide +kernel)) a_nil)))) (ss_one (s_ret (e_and (e_callB c_isi z_isinstance (by decide +kernel) (a_cons (ev 0) (a_cons (e_bty z_str (by decide +kernel)) a_nil))) (e_one (e_cmp (o_eq hu) (ev 0) (ev 1) (nomark _)))))) ss_nil)
     (ss_one (s_ret (e_and (e_callB c_isi z_isinstance (by decide +kernel) (a_cons (ev 0) (a_cons (e_bty z_int (by decide +kernel)) a_nil))) (e_and (e_cmp (o_eq hu) (e_callB c_isi z_isinstance (by decide +kernel) (a_cons (ev 0) (a_cons (e_bty z_bool (by decide +kernel)) a_nil))) (e_callB c_isi z_isinstance (by decide +kernel) (a_cons (ev 1) (a_cons (e_bty z_bool (by decide +kernel)) a_nil))) (nomark _)) (e_one (e_cmp (o_eq hu) (ev 0) (ev 1) (nomark _))))))))))
abbrev s__law_end : PySem.Stmt := top 15
abbrev N__law_end : List PySem.Str := [("_law_deck_here" : PySem.Str), ("_law_way" : PySem.Str), ("_law_far" : PySem.Str)]
theorem sc__law_end : FnScope N__law_end [("_law_deck_here" : PySem.Str)] (defScope s__law_end) := ⟨rfl, rfl, rfl, by decide +kernel, rfl, by decide +kernel, by decide +kernel⟩
def r__law_end (sp__law_draw : Sp3) : XK3 → TS3 := fun E =>
  (wSeq (wSet 1 (wCall sp__law_draw E (wCons (wVar 0) (wCons (wC (.int 6)) wNil))))
  (wSeq (wIfS (wB (wOp oLt (wVar 1) (wC (.int 2)))) (wRet (wC .non)) wNext)
  (wSeq (wIfS (wB (wOp oLt (wVar 1) (wC (.int 5)))) (wRet (wOp oSub (wCall sp__law_draw E (wCons (wVar 0) (wCons (wC (.int 25)) wNil))) (wC (.int 12)))) wNext)
  (wSeq (wSet 2 (wOp oAddF (wOp oMulF (wCall sp__law_draw E (wCons (wVar 0) (wCons (wOp oPw (wC (.int 10)) (wC (.int 19))) wNil))) (wOp oPw (wC (.int 10)) (wC (.int 20)))) (wCall sp__law_draw E (wCons (wVar 0) (wCons (wOp oPw (wC (.int 10)) (wC (.int 19))) wNil)))))
  (wRet (wOp oIx (wLstF (wCons (wVar 2) (wCons (wUn oNeg (wVar 2)) (wCons (wOp oPw (wC (.int 10)) (wC (.int 39))) (wCons (wUn oNeg (wOp oPw (wC (.int 10)) (wC (.int 17)))) wNil))))) (wCall sp__law_draw E (wCons (wVar 0) (wCons (wC (.int 4)) wNil)))))))))
def sp__law_end : Sp3 := spOf 1 3 (r__law_end sp__law_draw)
theorem ok__law_end {f : Addr} {fd : FuncData} (hm : mg ("_law_end" : PySem.Str) = some (.ref f)) (F : Fun K ("_law_end" : PySem.Str) ("_law_end" : PySem.Str) s__law_end f fd) (bd : Binds K fd [("_law_deck_here" : PySem.Str)] []) (d__law_draw : Def3 P w K mg base (L2.CX P w) 2 ("_law_draw" : PySem.Str) sp__law_draw) : Def3 P w K mg base (L2.CX P w) 3 ("_law_end" : PySem.Str) sp__law_end := by
  refine def_of (t := (r__law_end sp__law_draw)) hm F bd sc__law_end ?_
  intro cdv A outer s H E bs E3 hG hr hE
  have hG : (A.deeper (envOfC ("_law_end" : PySem.Str) (defScope s__law_end) s.heap.objs.size f cdv)).guards = some [] := hG
  have hu := hr.units
  have hu2 := hu_more hr
  have nd := sc__law_end.nd
  exact (ss_cons (s_set (i := 1) nd rfl (by first | exact Or.inl rfl | exact Or.inr rfl) (e_call d__law_draw hG (hr.mono (by decide)) (passXE hE) (a_cons (ev 0) (a_cons e_int a_nil))))
     (ss_cons (s_if (t_cmp o_lt (ev 1) e_int (nomark _)) (ss_one (s_ret e_non)) ss_nil)
     (ss_cons (s_if (t_cmp o_lt (ev 1) e_int (nomark _)) (ss_one (s_ret (e_op o_sub (e_call d__law_draw hG (hr.mono (by decide)) (passXE hE) (a_cons (ev 0) (a_cons e_int a_nil))) e_int))) ss_nil)
     (ss_cons (s_set (i := 2) nd rfl (by first | exact Or.inl rfl | exact Or.inr rfl) (e_op o_addF (e_op o_mulF (e_call d__law_draw hG (hr.mono (by decide)) (passXE hE) (a_cons (ev 0) (a_cons (e_op o_pw e_int e_int) a_nil))) (e_op o_pw e_int e_int)) (e_call d__law_draw hG (hr.mono (by decide)) (passXE hE) (a_cons (ev 0) (a_cons (e_op o_pw e_int e_int) a_nil)))))
     (ss_one (s_ret (e_ix (e_lstF (a_cons (ev 2) (a_cons (e_neg (ev 2)) (a_cons (e_op o_pw e_int e_int) (a_cons (e_neg (e_op o_pw e_int e_int)) a_nil))))) (e_call d__law_draw hG (hr.mono (by decide)) (passXE hE) (a_cons (ev 0) (a_cons e_int a_nil))))))))))
abbrev s__law_any_table : PySem.Stmt := top 16
abbrev N__law_any_table : List PySem.Str := [("_law_deck_here" : PySem.Str), ("_law_points" : PySem.Str), ("_law_found" : PySem.Str), ("_law_p" : PySem.Str), ("_law_q" : PySem.Str)]
theorem sc__law_any_table : FnScope N__law_any_table [("_law_deck_here" : PySem.Str), ("_law_points" : PySem.Str)] (defScope s__law_any_table) := ⟨rfl, rfl, rfl, by decide +kernel, rfl, by decide +kernel, by decide +kernel⟩
def r__law_any_table (sp__law_draw : Sp3) (sp__law_end : Sp3) : XK3 → TS3 := fun E =>
  (wSeq (wIfS (wB (wOp (oEq false) (wCall sp__law_draw E (wCons (wVar 0) (wCons (wC (.int 8)) wNil))) (wC (.int 0)))) (wRet (wTup wNil)) wNext)
  (wSeq (wSet 2 (wLst wNil))
  (wSeq (wFor (wRng1 (wCons (wVar 1) wNil)) (wgName 3) (wDrop (wBM oApp (wVar 2) (wCons (wCB bTuple (wCons (wLcF (wRng1 (wCons (wVar 1) wNil)) (wgName 4) wYes (wCall sp__law_end X0 (wCons (wVar 0) wNil)) [4]) wNil)) wNil))))
  (wRet (wCB bTuple (wCons (wVar 2) wNil))))))
def sp__law_any_table : Sp3 := spOf 2 5 (r__law_any_table sp__law_draw sp__law_end)
theorem ok__law_any_table {f : Addr} {fd : FuncData} (hm : mg ("_law_any_table" : PySem.Str) = some (.ref f)) (F : Fun K ("_law_any_table" : PySem.Str) ("_law_any_table" : PySem.Str) s__law_any_table f fd) (bd : Binds K fd [("_law_deck_here" : PySem.Str), ("_law_points" : PySem.Str)] []) (z_range : mg ("range" : PySem.Str) = none) (z_tuple : mg ("tuple" : PySem.Str) = none) (d__law_draw : Def3 P w K mg base (L2.CX P w) 2 ("_law_draw" : PySem.Str) sp__law_draw) (d__law_end : Def3 P w K mg base (L2.CX P w) 3 ("_law_end" : PySem.Str) sp__law_end) : Def3 P w K mg base (L2.CX P w) 4 ("_law_any_table" : PySem.Str) sp__law_any_table := by
  refine def_of (t := (r__law_any_table sp__law_draw sp__law_end)) hm F bd sc__law_any_table ?_
  intro cdv A outer s H E bs E3 hG hr hE
  have hG : (A.deeper (envOfC ("_law_any_table" : PySem.Str) (defScope s__law_any_table) s.heap.objs.size f cdv)).guards = some [] := hG
  have hu := hr.units
  have hu2 := hu_more hr
  have nd := sc__law_any_table.nd
  exact (ss_cons (s_if (t_cmp (o_eq hu) (e_call d__law_draw hG (hr.mono (by decide)) (passXE hE) (a_cons (ev 0) (a_cons e_int a_nil))) e_int (nomark _)) (ss_one (s_ret (e_tup a_nil))) ss_nil)
     (ss_cons (s_set (i := 2) nd rfl (by first | exact Or.inl rfl | exact Or.inr rfl) (e_lst a_nil))
     (ss_cons (s_for (passes_of rfl) rfl (w_rng1 z_range (a_cons (ev 1) a_nil)) (g_name (i := 3) nd rfl (by first | exact Or.inl rfl | exact Or.inr rfl)) (ss_one (s_expr (e_append (ev 2) (e_callTy c_tuple z_tuple (by decide +kernel) (a_cons (e_lcF (own := [(("_law_q" : PySem.Str), 4)]) (by decide) rfl nd (w_rng1 z_range (a_cons (ev 1) a_nil)) (blkOk_by (N := N__law_any_table) (sc := defScope s__law_any_table) (by decide +kernel)) (fun _ _ _ _ _ => (g_name (i := 4) nd rfl (by first | exact Or.inl rfl | exact Or.inr rfl))) (fun _ _ _ _ _ => ts_nil) (fun _ _ _ _ _ => (e_call d__law_end hG (hr.mono (by decide)) passX1 (a_cons (ev 0) a_nil)))) a_nil))))))
     (ss_one (s_ret (e_callTy c_tuple z_tuple (by decide +kernel) (a_cons (ev 2) a_nil)))))))
abbrev s__law_written : PySem.Stmt := top 17
abbrev N__law_written : List PySem.Str := [("_law_rows_now" : PySem.Str), ("_law_rows" : PySem.Str), ("_law_row" : PySem.Str), ("_law_end_here" : PySem.Str)]
theorem sc__law_written : FnScope N__law_written [("_law_rows_now" : PySem.Str)] (defScope s__law_written) := ⟨rfl, rfl, rfl, by decide +kernel, rfl, by decide +kernel, by decide +kernel⟩
def r__law_written : XK3 → TS3 := fun E =>
  (wSeq (wIfS (wB (wOp (oEq false) (wVar 0) (wTup wNil))) (wRet (wC (.str ("none" : PySem.Str)))) wNext)
  (wSeq (wSet 1 (wLst wNil))
  (wSeq (wFor (wItems (wVar 0)) (wgName 2) (wDrop (wBM oApp (wVar 1) (wCons (wJoin (wC (.str (" " : PySem.Str))) (wLcF (wItems (wVar 2)) (wgName 3) wYes (wIf (wB (wOp (oIsN false) (wVar 3) (wC .non))) (wC (.str ("-" : PySem.Str))) (wCB bStrL (wCons (wVar 3) wNil))) [3])) wNil))))
  (wRet (wJoin (wC (.str (" / " : PySem.Str))) (wVar 1))))))
def sp__law_written : Sp3 := spOf 1 4 r__law_written
theorem ok__law_written {f : Addr} {fd : FuncData} (hm : mg ("_law_written" : PySem.Str) = some (.ref f)) (F : Fun K ("_law_written" : PySem.Str) ("_law_written" : PySem.Str) s__law_written f fd) (bd : Binds K fd [("_law_rows_now" : PySem.Str)] []) (z_str : mg ("str" : PySem.Str) = none) (dg : DgF K) : Def3 P w K mg base (L2.CX P w) 1 ("_law_written" : PySem.Str) sp__law_written := by
  refine def_of (t := r__law_written) hm F bd sc__law_written ?_
  intro cdv A outer s H E bs E3 hG hr hE
  have hG : (A.deeper (envOfC ("_law_written" : PySem.Str) (defScope s__law_written) s.heap.objs.size f cdv)).guards = some [] := hG
  have hu := hr.units
  have hu2 := hu_more hr
  have nd := sc__law_written.nd
  exact (ss_cons (s_if (t_cmp (o_eq hu) (ev 0) (e_tup a_nil) (nomark _)) (ss_one (s_ret e_str)) ss_nil)
     (ss_cons (s_set (i := 1) nd rfl (by first | exact Or.inl rfl | exact Or.inr rfl) (e_lst a_nil))
     (ss_cons (s_for (passes_of rfl) rfl (w_seq (ev 0)) (g_name (i := 2) nd rfl (by first | exact Or.inl rfl | exact Or.inr rfl)) (ss_one (s_expr (e_append (ev 1) (e_join e_str (e_lcF (own := [(("_law_end_here" : PySem.Str), 3)]) (by decide) rfl nd (w_seq (ev 2)) (blkOk_by (N := N__law_written) (sc := defScope s__law_written) (by decide +kernel)) (fun _ _ _ _ _ => (g_name (i := 3) nd rfl (by first | exact Or.inl rfl | exact Or.inr rfl))) (fun _ _ _ _ _ => ts_nil) (fun _ _ _ _ _ => (e_if (t_cmp o_is (ev 3) e_non (nomark _)) e_str (e_callTy (c_strL rfl dg) z_str (by decide +kernel) (a_cons (ev 3) a_nil))))))))))
     (ss_one (s_ret (e_join e_str (ev 1)))))))
abbrev s_law : PySem.Stmt := top 18
abbrev N_law : List PySem.Str := [("_law_script" : PySem.Str), ("_law_deck_here" : PySem.Str), ("_law_turn" : PySem.Str), ("_law_points" : PySem.Str), ("_law_rows_now" : PySem.Str), ("_law_digits" : PySem.Str), ("_law_written_here" : PySem.Str), ("_law_read" : PySem.Str), ("_law_known" : PySem.Str)]
theorem sc_law : FnScope N_law [("_law_script" : PySem.Str)] (defScope s_law) := ⟨rfl, rfl, rfl, by decide +kernel, rfl, by decide +kernel, by decide +kernel⟩
def r_law (sp__law_deck : Sp3) (sp__law_draw : Sp3) (sp__law_any_table : Sp3) (sp__law_written : Sp3) (sp_read_table : Sp3) (sp__law_same : Sp3) (sp_table_text : Sp3) : XK3 → TS3 := fun E =>
  (wSeq (wSet 1 (wCall sp__law_deck E (wCons (wVar 0) wNil)))
  (wSeq (wFor (wRng1 (wCons (wC (.int 8)) wNil)) (wgName 2) (wSeq (wSet 3 (wOp oAddF (wC (.int 1)) (wCall sp__law_draw E (wCons (wVar 1) (wCons (wC (.int 7)) wNil)))))
  (wSeq (wSet 4 (wCall sp__law_any_table E (wCons (wVar 1) (wCons (wVar 3) wNil))))
  (wSeq (wIfS (wAnd (wB (wOp (oEq false) (wVar 3) (wC (.int 1)))) (wB (wOp (oEq false) (wCall sp__law_draw E (wCons (wVar 1) (wCons (wC (.int 2)) wNil))) (wC (.int 0))))) (wSeq (wSet 5 (wOp oIx (wLstF (wCons (wC (.int 45)) (wCons (wC (.int 60)) (wCons (wC (.int 899)) wNil)))) (wCall sp__law_draw E (wCons (wVar 1) (wCons (wC (.int 3)) wNil)))))
  (wSet 4 (wTup (wCons (wTup (wCons (wOp oAddF (wCB bIntL (wCons (wOp oAddF (wC (.str ("-1" : PySem.Str))) (wOp oMulS (wC (.str ("0" : PySem.Str))) (wVar 5))) wNil)) (wCall sp__law_draw E (wCons (wVar 1) (wCons (wC (.int 1000)) wNil)))) wNil)) wNil)))) wNext)
  (wSeq (wSet 6 (wCallP sp__law_written E (wCons (wVar 4) wNil)))
  (wSeq (wSet 7 (wCallP sp_read_table E (wCons (wVar 6) (wCons (wVar 3) wNil))))
  (wSeq (wIfS (wOr (wNot (wB (wCallP sp__law_same E (wCons (wVar 7) (wCons (wVar 4) wNil))))) (wNot (wB (wCallP sp__law_same E (wCons (wCallP sp_table_text E (wCons (wVar 7) wNil)) (wCons (wVar 6) wNil)))))) (wRet (wC (.bl false))) wNext)
  (wSeq (wIfS (wNot (wB (wCallP sp__law_same E (wCons (wCallK false sp_table_text E (wCons (wVar 7) wNil)) (wCons (wVar 6) wNil))))) (wRet (wC (.bl false))) wNext)
  (wIfS (wNot (wB (wCallP sp__law_same E (wCons (wCallK true sp_read_table E (wCons (wVar 3) (wCons (wVar 6) wNil))) (wCons (wVar 4) wNil))))) (wRet (wC (.bl false))) wNext)))))))))
  (wSeq (wSet 8 (wLstF (wCons (wTup (wCons (wTup (wCons (wTup (wCons (wC (.int 0)) wNil)) wNil)) (wCons (wC (.str ("0" : PySem.Str))) wNil))) (wCons (wTup (wCons (wTup (wCons (wTup (wCons (wC .non) wNil)) wNil)) (wCons (wC (.str ("-" : PySem.Str))) wNil))) (wCons (wTup (wCons (wTup (wCons (wTup (wCons (wUn oNeg (wC (.int 3))) (wCons (wC .non) wNil))) (wCons (wTup (wCons (wC .non) (wCons (wC (.int 12)) wNil))) wNil))) (wCons (wC (.str ("-3 - / - 12" : PySem.Str))) wNil))) (wCons (wTup (wCons (wTup wNil) (wCons (wC (.str ("none" : PySem.Str))) wNil))) wNil))))))
  (wRet (wOp (oEq false) (wLcF (wItems (wVar 8)) (wgTupN 2 (wgCons (wgName 4) (wgCons (wgName 6) wgNil))) (wNot (wB (wCallP sp__law_same X0 (wCons (wCallP sp_table_text X0 (wCons (wVar 4) wNil)) (wCons (wVar 6) wNil))))) (wVar 4) [4, 6]) (wLstF wNil))))))
def sp_law : Sp3 := spOf 1 9 (r_law sp__law_deck sp__law_draw sp__law_any_table sp__law_written sp_read_table sp__law_same sp_table_text)
theorem ok_law {f : Addr} {fd : FuncData} (F : Fun K ("law" : PySem.Str) ("law" : PySem.Str) s_law f fd) (z_int : mg ("int" : PySem.Str) = none) (z_range : mg ("range" : PySem.Str) = none) (dg : DgF K) (d__law_deck : Def3 P w K mg base (L2.CX P w) 1 ("_law_deck" : PySem.Str) sp__law_deck) (d__law_draw : Def3 P w K mg base (L2.CX P w) 2 ("_law_draw" : PySem.Str) sp__law_draw) (d__law_any_table : Def3 P w K mg base (L2.CX P w) 4 ("_law_any_table" : PySem.Str) sp__law_any_table) (d__law_written : Def3 P w K mg base (L2.CX P w) 1 ("_law_written" : PySem.Str) sp__law_written) (d_read_table : Def3 P w K mg base (L2.CX P w) 4 ("read_table" : PySem.Str) sp_read_table) (d__law_same : Def3 P w K mg base (L2.CX P w) 8 ("_law_same" : PySem.Str) sp__law_same) (d_table_text : Def3 P w K mg base (L2.CX P w) 1 ("table_text" : PySem.Str) sp_table_text) (k_table_text_0 : DefK P w K mg base (L2.CX P w) 1 ("table_text" : PySem.Str) [("table" : PySem.Str)] false sp_table_text) (k_read_table_0 : DefK P w K mg base (L2.CX P w) 4 ("read_table" : PySem.Str) [("many" : PySem.Str), ("text" : PySem.Str)] true sp_read_table) : FnG P w K mg base (L2.CX P w) 9 f fd [("_law_script" : PySem.Str)] (liftSp K sp_law) := by
  refine fng_of (t := (r_law sp__law_deck sp__law_draw sp__law_any_table sp__law_written sp_read_table sp__law_same sp_table_text)) F sc_law ?_
  intro cdv A outer s H E bs E3 hG hr hE
  have hG : (A.deeper (envOfC ("law" : PySem.Str) (defScope s_law) s.heap.objs.size f cdv)).guards = some [] := hG
  have hu := hr.units
  have hu2 := hu_more hr
  have nd := sc_law.nd
  exact (ss_cons (s_set (i := 1) nd rfl (by first | exact Or.inl rfl | exact Or.inr rfl) (e_call d__law_deck hG (hr.mono (by decide)) (passXE hE) (a_cons (ev 0) a_nil)))
     (ss_cons (s_for (passes_of rfl) rfl (w_rng1 z_range (a_cons e_int a_nil)) (g_name (i := 2) nd rfl (by first | exact Or.inl rfl | exact Or.inr rfl)) (ss_cons (s_set (i := 3) nd rfl (by first | exact Or.inl rfl | exact Or.inr rfl) (e_op o_addF e_int (e_call d__law_draw hG (hr.mono (by decide)) (passXE hE) (a_cons (ev 1) (a_cons e_int a_nil)))))
     (ss_cons (s_set (i := 4) nd rfl (by first | exact Or.inl rfl | exact Or.inr rfl) (e_call d__law_any_table hG (hr.mono (by decide)) (passXE hE) (a_cons (ev 1) (a_cons (ev 3) a_nil))))
     (ss_cons (s_if (PW3.pt (t_and (t_cmp (o_eq hu) (ev 3) e_int (nomark _)) (t_and1 (t_cmp (o_eq hu) (e_call d__law_draw hG (hr.mono (by decide)) (passXE hE) (a_cons (ev 1) (a_cons e_int a_nil))) e_int (nomark _))))) (ss_cons (s_set (i := 5) nd rfl (by first | exact Or.inl rfl | exact Or.inr rfl) (e_ix (e_lstF (a_cons e_int (a_cons e_int (a_cons e_int a_nil)))) (e_call d__law_draw hG (hr.mono (by decide)) (passXE hE) (a_cons (ev 1) (a_cons e_int a_nil)))))
     (ss_one (s_set (i := 4) nd rfl (by first | exact Or.inl rfl | exact Or.inr rfl) (e_tup (a_cons (e_tup (a_cons (e_op o_addF (e_callTy (c_intL dg) z_int (by decide +kernel) (a_cons (e_op o_addF e_str (e_op o_mulS e_str (ev 5))) a_nil)) (e_call d__law_draw hG (hr.mono (by decide)) (passXE hE) (a_cons (ev 1) (a_cons e_int a_nil)))) a_nil)) a_nil))))) ss_nil)
     (ss_cons (s_set (i := 6) nd rfl (by first | exact Or.inl rfl | exact Or.inr rfl) (e_callP d__law_written hG (hr.mono (by decide)) (passXE hE) (a_cons (ev 4) a_nil)))
     (ss_cons (s_set (i := 7) nd rfl (by first | exact Or.inl rfl | exact Or.inr rfl) (e_callP d_read_table hG (hr.mono (by decide)) (passXE hE) (a_cons (ev 6) (a_cons (ev 3) a_nil))))
     (ss_cons (s_if (PW3.pt (t_or (t_not (t_val (e_callP d__law_same hG (hr.mono (by decide)) (passXE hE) (a_cons (ev 7) (a_cons (ev 4) a_nil))))) (t_or1 (t_not (t_val (e_callP d__law_same hG (hr.mono (by decide)) (passXE hE) (a_cons (e_callP d_table_text hG (hr.mono (by decide)) (passXE hE) (a_cons (ev 7) a_nil)) (a_cons (ev 6) a_nil)))))))) (ss_one (s_ret e_bl)) ss_nil)
     (ss_cons (s_if (t_not (t_val (e_callP d__law_same hG (hr.mono (by decide)) (passXE hE) (a_cons (e_callKP k_table_text_0 hG (hr.mono (by decide)) (passXE hE) (k_cons (ev 7) k_nil)) (a_cons (ev 6) a_nil))))) (ss_one (s_ret e_bl)) ss_nil)
     (ss_one (s_if (t_not (t_val (e_callP d__law_same hG (hr.mono (by decide)) (passXE hE) (a_cons (e_callKP k_read_table_0 hG (hr.mono (by decide)) (passXE hE) (k_cons (ev 3) (k_cons (ev 6) k_nil))) (a_cons (ev 4) a_nil))))) (ss_one (s_ret e_bl)) ss_nil))))))))))
     (ss_cons (s_set (i := 8) nd rfl (by first | exact Or.inl rfl | exact Or.inr rfl) (e_lstF (a_cons (e_tup (a_cons (e_tup (a_cons (e_tup (a_cons e_int a_nil)) a_nil)) (a_cons e_str a_nil))) (a_cons (e_tup (a_cons (e_tup (a_cons (e_tup (a_cons e_non a_nil)) a_nil)) (a_cons e_str a_nil))) (a_cons (e_tup (a_cons (e_tup (a_cons (e_tup (a_cons (e_neg e_int) (a_cons e_non a_nil))) (a_cons (e_tup (a_cons e_non (a_cons e_int a_nil))) a_nil))) (a_cons e_str a_nil))) (a_cons (e_tup (a_cons (e_tup a_nil) (a_cons e_str a_nil))) a_nil))))))
     (ss_one (s_ret (e_cmp (o_eq hu) (e_lcF (own := [(("_law_rows_now" : PySem.Str), 4), (("_law_written_here" : PySem.Str), 6)]) (by decide) rfl nd (w_seq (ev 8)) (blkOk_by (N := N_law) (sc := defScope s_law) (by decide +kernel)) (fun _ _ _ _ _ => (g_tupN rfl (gs_cons (g_name (i := 4) nd rfl (by first | exact Or.inl rfl | exact Or.inr rfl)) (gs_cons (g_name (i := 6) nd rfl (by first | exact Or.inl rfl | exact Or.inr rfl)) gs_nil)))) (fun _ _ _ _ _ => (ts_one (t_not (t_val (e_callP d__law_same hG (hr.mono (by decide)) passX1 (a_cons (e_callP d_table_text hG (hr.mono (by decide)) passX1 (a_cons (ev 4) a_nil)) (a_cons (ev 6) a_nil))))))) (fun _ _ _ _ _ => (ev 4))) (e_lstF a_nil) (nomark _)))))))
end
end W
set_option Elab.async false
set_option linter.all false
set_option maxRecDepth 100000
set_option maxHeartbeats 4000000
namespace W
open PySem PySem.Spec PyProof.Rows L2 L3 PySem.NumText
theorem m_gone : SGone sp_gone_over := L3.s_gone
theorem m_endB : SEndB sp_end_behind := L3.s_endB
theorem m_read : SReadL sp_read_table := L3.s_readL m_gone m_endB
theorem m_text : SWritX sp_table_text := L3.s_tabText
theorem m_deck : SFeed7 sp__law_deck := L3.s_deck
theorem m_mixed : SMixed sp__law_mixed := L3.s_mixed
theorem m_draw : SDraw7 sp__law_draw := L3.s_drawK m_mixed
theorem m_end : SEndK sp__law_end := L3.s_endK m_draw
theorem m_any : STabK sp__law_any_table := L3.s_anyT m_draw m_end
theorem m_writ : SWritX sp__law_written := L3.s_writX
def P70 : D → Prop := fun d => (∃ s : Str, d = .str s) ∨ tabP71 d
theorem m_same1 : SameOn (sn__law_same 4) edP71 := L3.same_ed (ss := sn__law_same 3)
theorem m_same2 : SameOn (sn__law_same 5) rowP71 := L3.same_tup m_same1
theorem m_same3 : SameOn (sn__law_same 6) tabP71 := L3.same_tup m_same2
theorem m_same4 : SameOn (sn__law_same 6) (fun d => ∃ s : Str, d = .str s) := L3.same_str (ss := sn__law_same 5)
theorem m_same : SameOn sp__law_same P70 := fun d Q E h q => by
  rcases h with h | h
  · exact m_same4 _ Q E h q
  · exact m_same3 _ Q E h q
theorem tabP_L {T : Tab} (t : TabL T) : tabP71 (tabD T) := by
  refine ⟨T.map rowD, rfl, by rw [List.length_map]; have := t.len; omega, fun x hx => ?_⟩
  obtain ⟨r, hr, rfl⟩ := List.mem_map.mp hx
  refine ⟨r.map oD, rfl, by rw [List.length_map]; have := t.row r hr; omega, fun y hy => ?_⟩
  obtain ⟨e, _, rfl⟩ := List.mem_map.mp hy
  exact ⟨e, rfl⟩
theorem fold_lt : ∀ (l : List Nat) (a : Nat), AllDigits l → l.foldl (fun acc c => acc * 10 + (c - 48)) a < (a + 1) * 10 ^ l.length
  | [], a, _ => by show a < (a + 1) * 1; omega
  | c :: r, a, h => by
    have hc := h.head
    have ih := fold_lt r (a * 10 + (c - 48)) h.tail
    show r.foldl (fun acc c => acc * 10 + (c - 48)) (a * 10 + (c - 48)) < _
    refine Nat.lt_of_lt_of_le ih ?_
    rw [List.length_cons, Nat.pow_succ, Nat.mul_comm (10 ^ r.length) 10, ← Nat.mul_assoc]
    exact Nat.mul_le_mul_right _ (by omega)
/-- the number of many digits -/
theorem far_int {d : Nat} (hd : d ≤ 899) : ∃ v : Nat, PySem.intText? (("-1" : Str) ++ ⟨(List.replicate d 48).toArray⟩) = some (-(v : Int)) ∧ v < 10 ^ 900 := by
  have hs : sgs (("-1" : Str) ++ ⟨(List.replicate d 48).toArray⟩) = 45 :: 49 :: List.replicate d 48 := by
    rw [sgs_app]
    have : sgs ("-1" : Str) = [45, 49] := by decide +kernel
    rw [this]
    show [45, 49] ++ (List.replicate d 48).toArray.toList = _
    rw [List.toList_toArray]; rfl
  have hall : AllDigits (49 :: List.replicate d 48) := by
    intro c hc
    rcases List.mem_cons.mp hc with rfl | hc
    · decide
    · rw [(List.mem_replicate.mp hc).2]; decide
  have hl : (("-1" : Str) ++ (⟨(List.replicate d 48).toArray⟩ : Str)).length ≤ 4300 := by
    rw [← len_sgs, hs, List.length_cons, List.length_cons, List.length_replicate]; omega
  refine ⟨_, intText_neg hs hall (fun z => nomatch z) hl, ?_⟩
  have := fold_lt (49 :: List.replicate d 48) 0 hall
  rw [List.length_cons, List.length_replicate, Nat.zero_add, Nat.one_mul] at this
  exact Nat.lt_of_lt_of_le this (Nat.pow_le_pow_right (by decide) (by omega))
theorem far_ed {v : Nat} {r : Int} (hv : v < 10 ^ 900) (h0 : 0 ≤ r) (h1 : r < 1000) : EdL (some (-(v : Int) + r)) := fun j hj => by
  cases hj
  have e2 : 1000 ≤ 10 ^ 900 := Nat.le_trans (show 1000 ≤ 10 ^ 3 by decide) (Nat.pow_le_pow_right (by decide) (show 3 ≤ 900 by decide))
  have h1 : (-(v : Int) + r).natAbs < 10 ^ 900 * 10 := by
    generalize (10 : Nat) ^ 900 = A at hv e2 ⊢
    omega
  have h2 : 10 ^ 900 * 10 ≤ 10 ^ 1000 := by
    rw [← Nat.pow_succ]
    exact Nat.pow_le_pow_right (by decide) (show 900 + 1 ≤ 1000 by decide)
  exact Nat.lt_of_lt_of_le h1 h2
theorem kn1 : ("0" : Str) = writT [[some 0]] := by decide +kernel
theorem kn2 : ("-" : Str) = writT [[none]] := by decide +kernel
theorem kn3 : ("-3 - / - 12" : Str) = writT [[some (-3), none], [none, some 12]] := by decide +kernel
theorem kn4 : ("none" : Str) = writT [] := by decide +kernel
theorem known_ok {T : Tab} (h1 : (decide (T.length ≤ 7) && T.all fun r => decide (r.length ≤ 7)) = true) (h2 : (T.all fun r => r.all fun e => match e with | none => true | some i => decide (i.natAbs < 100)) = true) : TabL T := by
  obtain ⟨h1, h3⟩ := Bool.and_eq_true_iff.mp h1
  refine ⟨of_decide_eq_true h1, fun r hr => of_decide_eq_true (List.all_eq_true.mp h3 r hr), fun r hr e he j hj => ?_⟩
  have := List.all_eq_true.mp (List.all_eq_true.mp h2 r hr) e he
  rw [hj] at this
  exact Nat.lt_of_lt_of_le (of_decide_eq_true this) (Nat.le_trans (show 100 ≤ 10 ^ 2 by decide) (Nat.pow_le_pow_right (by decide) (show 2 ≤ 1000 by decide)))
theorem m_law {s1 s2 s3 s4 s5 s6 s7 : Sp3} (k1 : SFeed7 s1) (k2 : SDraw7 s2) (k3 : STabK s3) (k4 : SWritX s4) (k5 : SReadL s5) (k6 : SameOn s6 P70) (k7 : SWritX s7) (ns : List Int) :
    spOf 1 9 (r_law s1 s2 s3 s4 s5 s6 s7) [.rol (ns.map D.int)] M0 (fun v _ => v = .bl true) (fun _ _ _ => False) := by
  refine ⟨rfl, ?_⟩
  show r_law s1 s2 s3 s4 s5 s6 s7 _ _ [some (.rol (ns.map D.int)), none, none, none, none, none, none, none, none] M0
  unfold r_law
  have big : (1000000 : Nat) ≤ sizeLine := by decide
  rw [st_seq, st_set]
  simp only [ex_c, ex_var, ex_op, ex_un, ex_b, ex_and, ex_or, ex_not, ex_andV, ex_orV, ex_notV, ex_if, ex_chain, ex_nil, ex_cons, ex_tup, ex_lst, ex_call, ex_callP, ex_cb, ex_bm, ex_rep, ex_sl, ex_noPart, ex_part, ex_yes, it_items, it_rng1, it_rng2, tg_name, tg_sub, tg_tup, tg_cons, tg_nil, gs_0, gs_s, ss_0, ss_s, op_ii, op_ss, op_tt, op_mm, op_sb, op_ng, op_iNf, op_iNt, op_lle, op_ixT, op_ixR, op_ixL, op_putE, op_appE, it_tupE, it_rolE, it_refE, lstOf_l, exL, asS_some, asI_int, asB_bl, asL_some, asN_some, ite3_t, ite3_f, bl_1, bl_lenT, bl_lenR, bl_lenL, bl_lenS, bl_tuple, bl_list, bl_abs, bl_intI, bl_intB, bl_max, bl_min, op_eqSf, op_eqSt, op_eqIf, op_eqIt, op_eqTf, op_eqTt, op_eqRf, op_eqRt, op_eqNf, op_eqNt, eqD_int, eqD_nil, pl_int, pl_nil, pl_non, pl_rnil, pl_bl, sl_tupE, sl_rolE, keep_ref, keep_tup, keep_rol, tp_int, tp_tup, tp_rol, tp_str, tp_bl, tp_non, tp_ref, oFd, oMd, oPw, oShl, oLt, oLe, oGt, oGe, op_in, op_cp, wipe_nil, wipe_cons, mset_same, true_and, and_true, isN_int, ex_lstF, ex_repF, ex_lgF1, ex_lgF2, ex_tupRg1, ex_tupRg2, ex_frz, ex_slF, ex_slM, sl_tupF, sl_rolF, op_iiF, op_ssF, op_ttF, op_rrF, op_rrM, op_mmF, op_repF, li_rol, li_ref, bl_listF, bl_allF, bl_anyF, asT_some, asJ_some, op_eqBf, op_eqBt, isN_non, Bool.not_true, Bool.not_false, rep2]
  refine k1 _ _ _ _ fun a M1 _ f _ => ?_
  try dsimp only
  rw [st_seq, st_for]
  simp only [ex_c, ex_var, ex_op, ex_un, ex_b, ex_and, ex_or, ex_not, ex_andV, ex_orV, ex_notV, ex_if, ex_chain, ex_nil, ex_cons, ex_tup, ex_lst, ex_call, ex_callP, ex_cb, ex_bm, ex_rep, ex_sl, ex_noPart, ex_part, ex_yes, it_items, it_rng1, it_rng2, tg_name, tg_sub, tg_tup, tg_cons, tg_nil, gs_0, gs_s, ss_0, ss_s, op_ii, op_ss, op_tt, op_mm, op_sb, op_ng, op_iNf, op_iNt, op_lle, op_ixT, op_ixR, op_ixL, op_putE, op_appE, it_tupE, it_rolE, it_refE, lstOf_l, exL, asS_some, asI_int, asB_bl, asL_some, asN_some, ite3_t, ite3_f, bl_1, bl_lenT, bl_lenR, bl_lenL, bl_lenS, bl_tuple, bl_list, bl_abs, bl_intI, bl_intB, bl_max, bl_min, op_eqSf, op_eqSt, op_eqIf, op_eqIt, op_eqTf, op_eqTt, op_eqRf, op_eqRt, op_eqNf, op_eqNt, eqD_int, eqD_nil, pl_int, pl_nil, pl_non, pl_rnil, pl_bl, sl_tupE, sl_rolE, keep_ref, keep_tup, keep_rol, tp_int, tp_tup, tp_rol, tp_str, tp_bl, tp_non, tp_ref, oFd, oMd, oPw, oShl, oLt, oLe, oGt, oGe, op_in, op_cp, wipe_nil, wipe_cons, mset_same, true_and, and_true, isN_int, ex_lstF, ex_repF, ex_lgF1, ex_lgF2, ex_tupRg1, ex_tupRg2, ex_frz, ex_slF, ex_slM, sl_tupF, sl_rolF, op_iiF, op_ssF, op_ttF, op_rrF, op_rrM, op_mmF, op_repF, li_rol, li_ref, bl_listF, bl_allF, bl_anyF, asT_some, asJ_some, op_eqBf, op_eqBt, isN_non, Bool.not_true, Bool.not_false, rep2]
  refine ⟨by decide, by decide, ?_⟩
  refine for_rg (fun i τ M => i ≤ 8 ∧ Fd (400 * i) M a ∧ ∃ x2 x3 x4 x5 x6 x7, τ = [some (.rol (ns.map D.int)), some (.ref a), x2, x3, x4, x5, x6, x7, none]) ?_ ?_ ⟨Nat.zero_le _, f, _, _, _, _, _, _, rfl⟩
  · rintro i τ M hi ⟨_, f, x2, x3, x4, x5, x6, x7, rfl⟩ X hX
    have hi : i < 8 := hi
    rw [tg_name, st_seq, st_set]
    simp only [ex_c, ex_var, ex_op, ex_un, ex_b, ex_and, ex_or, ex_not, ex_andV, ex_orV, ex_notV, ex_if, ex_chain, ex_nil, ex_cons, ex_tup, ex_lst, ex_call, ex_callP, ex_cb, ex_bm, ex_rep, ex_sl, ex_noPart, ex_part, ex_yes, it_items, it_rng1, it_rng2, tg_name, tg_sub, tg_tup, tg_cons, tg_nil, gs_0, gs_s, ss_0, ss_s, op_ii, op_ss, op_tt, op_mm, op_sb, op_ng, op_iNf, op_iNt, op_lle, op_ixT, op_ixR, op_ixL, op_putE, op_appE, it_tupE, it_rolE, it_refE, lstOf_l, exL, asS_some, asI_int, asB_bl, asL_some, asN_some, ite3_t, ite3_f, bl_1, bl_lenT, bl_lenR, bl_lenL, bl_lenS, bl_tuple, bl_list, bl_abs, bl_intI, bl_intB, bl_max, bl_min, op_eqSf, op_eqSt, op_eqIf, op_eqIt, op_eqTf, op_eqTt, op_eqRf, op_eqRt, op_eqNf, op_eqNt, eqD_int, eqD_nil, pl_int, pl_nil, pl_non, pl_rnil, pl_bl, sl_tupE, sl_rolE, keep_ref, keep_tup, keep_rol, tp_int, tp_tup, tp_rol, tp_str, tp_bl, tp_non, tp_ref, oFd, oMd, oPw, oShl, oLt, oLe, oGt, oGe, op_in, op_cp, wipe_nil, wipe_cons, mset_same, true_and, and_true, isN_int, ex_lstF, ex_repF, ex_lgF1, ex_lgF2, ex_tupRg1, ex_tupRg2, ex_frz, ex_slF, ex_slM, sl_tupF, sl_rolF, op_iiF, op_ssF, op_ttF, op_rrF, op_rrM, op_mmF, op_repF, li_rol, li_ref, bl_listF, bl_allF, bl_anyF, asT_some, asJ_some, op_eqBf, op_eqBt, isN_non, Bool.not_true, Bool.not_false, rep2]
    refine k2 _ (400 * i) _ _ _ _ f (by omega) (by decide) (by decide) fun r M2 h0 h1 f2 _ => ?_
    obtain ⟨m, hm⟩ : ∃ m : Nat, 1 + r = m := ⟨(1 + r).toNat, by omega⟩
    simp only [ex_c, ex_var, ex_op, ex_un, ex_b, ex_and, ex_or, ex_not, ex_andV, ex_orV, ex_notV, ex_if, ex_chain, ex_nil, ex_cons, ex_tup, ex_lst, ex_call, ex_callP, ex_cb, ex_bm, ex_rep, ex_sl, ex_noPart, ex_part, ex_yes, it_items, it_rng1, it_rng2, tg_name, tg_sub, tg_tup, tg_cons, tg_nil, gs_0, gs_s, ss_0, ss_s, op_ii, op_ss, op_tt, op_mm, op_sb, op_ng, op_iNf, op_iNt, op_lle, op_ixT, op_ixR, op_ixL, op_putE, op_appE, it_tupE, it_rolE, it_refE, lstOf_l, exL, asS_some, asI_int, asB_bl, asL_some, asN_some, ite3_t, ite3_f, bl_1, bl_lenT, bl_lenR, bl_lenL, bl_lenS, bl_tuple, bl_list, bl_abs, bl_intI, bl_intB, bl_max, bl_min, op_eqSf, op_eqSt, op_eqIf, op_eqIt, op_eqTf, op_eqTt, op_eqRf, op_eqRt, op_eqNf, op_eqNt, eqD_int, eqD_nil, pl_int, pl_nil, pl_non, pl_rnil, pl_bl, sl_tupE, sl_rolE, keep_ref, keep_tup, keep_rol, tp_int, tp_tup, tp_rol, tp_str, tp_bl, tp_non, tp_ref, oFd, oMd, oPw, oShl, oLt, oLe, oGt, oGe, op_in, op_cp, wipe_nil, wipe_cons, mset_same, true_and, and_true, isN_int, ex_lstF, ex_repF, ex_lgF1, ex_lgF2, ex_tupRg1, ex_tupRg2, ex_frz, ex_slF, ex_slM, sl_tupF, sl_rolF, op_iiF, op_ssF, op_ttF, op_rrF, op_rrM, op_mmF, op_repF, li_rol, li_ref, bl_listF, bl_allF, bl_anyF, asT_some, asJ_some, op_eqBf, op_eqBt, isN_non, Bool.not_true, Bool.not_false, rep2, hm]
    have m0 : 0 < m := by omega
    have m7 : m ≤ 7 := by omega
    have rest : ∀ (K : Ends3) (T : Tab) (M3 : Mp) (x5 : Option D), K.nx = X → TabL T → ShN m T → Fd (400 * i + 310) M3 a →
        (wSeq (wSet 6 (wCallP s4 (fun _ _ _ => False) (wCons (wVar 4) wNil)))
  (wSeq (wSet 7 (wCallP s5 (fun _ _ _ => False) (wCons (wVar 6) (wCons (wVar 3) wNil))))
  (wSeq (wIfS (wOr (wNot (wB (wCallP s6 (fun _ _ _ => False) (wCons (wVar 7) (wCons (wVar 4) wNil))))) (wNot (wB (wCallP s6 (fun _ _ _ => False) (wCons (wCallP s7 (fun _ _ _ => False) (wCons (wVar 7) wNil)) (wCons (wVar 6) wNil)))))) (wRet (wC (.bl false))) wNext)
  (wSeq (wIfS (wNot (wB (wCallP s6 (fun _ _ _ => False) (wCons (wCallK false s7 (fun _ _ _ => False) (wCons (wVar 7) wNil)) (wCons (wVar 6) wNil))))) (wRet (wC (.bl false))) wNext)
  (wIfS (wNot (wB (wCallP s6 (fun _ _ _ => False) (wCons (wCallK true s5 (fun _ _ _ => False) (wCons (wVar 3) (wCons (wVar 6) wNil))) (wCons (wVar 4) wNil))))) (wRet (wC (.bl false))) wNext)))))
          K [some (.rol (ns.map D.int)), some (.ref a), some (.int (0 + (i : Int))), some (.int m), some (tabD T), x5, x6, x7, none] M3 := by
      intro K T M3 x5 hK hT hS f3
      have tx := writT_tx hT
      have rb := read_back m0 hT hS
      have rd : ∀ (Q : VK3) (E : XK3), (∀ M, Q (tabD T) M) → s5 [.str (writT T), .int m] M0 Q E := fun Q E q =>
        k5 (writT T) m Q E (Nat.le_trans tx.len (by decide)) m0 m7 (tx.run.mono (by decide)) (fun d hd M => by rw [rb] at hd; injection hd with hd; rw [← hd]; exact q M) (fun e he => by rw [rb] at he; cases he)
      have callK : ∀ {b : Bool} {sp : Sp3} {E : XK3} {t : TA3} {τ : St3} {M : Mp} {Q : VK3}, wCallK b sp E t τ M Q = t τ M fun ds M1 => sp (pm b ds) M0 (fun d _ => Q d M1) (fun c fs _ => E c fs M1) := rfl
      rw [st_seq, st_set]
      simp only [ex_c, ex_var, ex_op, ex_un, ex_b, ex_and, ex_or, ex_not, ex_andV, ex_orV, ex_notV, ex_if, ex_chain, ex_nil, ex_cons, ex_tup, ex_lst, ex_call, ex_callP, ex_cb, ex_bm, ex_rep, ex_sl, ex_noPart, ex_part, ex_yes, it_items, it_rng1, it_rng2, tg_name, tg_sub, tg_tup, tg_cons, tg_nil, gs_0, gs_s, ss_0, ss_s, op_ii, op_ss, op_tt, op_mm, op_sb, op_ng, op_iNf, op_iNt, op_lle, op_ixT, op_ixR, op_ixL, op_putE, op_appE, it_tupE, it_rolE, it_refE, lstOf_l, exL, asS_some, asI_int, asB_bl, asL_some, asN_some, ite3_t, ite3_f, bl_1, bl_lenT, bl_lenR, bl_lenL, bl_lenS, bl_tuple, bl_list, bl_abs, bl_intI, bl_intB, bl_max, bl_min, op_eqSf, op_eqSt, op_eqIf, op_eqIt, op_eqTf, op_eqTt, op_eqRf, op_eqRt, op_eqNf, op_eqNt, eqD_int, eqD_nil, pl_int, pl_nil, pl_non, pl_rnil, pl_bl, sl_tupE, sl_rolE, keep_ref, keep_tup, keep_rol, tp_int, tp_tup, tp_rol, tp_str, tp_bl, tp_non, tp_ref, oFd, oMd, oPw, oShl, oLt, oLe, oGt, oGe, op_in, op_cp, wipe_nil, wipe_cons, mset_same, true_and, and_true, isN_int, ex_lstF, ex_repF, ex_lgF1, ex_lgF2, ex_tupRg1, ex_tupRg2, ex_frz, ex_slF, ex_slM, sl_tupF, sl_rolF, op_iiF, op_ssF, op_ttF, op_rrF, op_rrM, op_mmF, op_repF, li_rol, li_ref, bl_listF, bl_allF, bl_anyF, asT_some, asJ_some, op_eqBf, op_eqBt, isN_non, Bool.not_true, Bool.not_false, rep2]
      refine k4 T _ _ hT fun _ => ?_
      try dsimp only
      rw [st_seq, st_set]
      simp only [ex_c, ex_var, ex_op, ex_un, ex_b, ex_and, ex_or, ex_not, ex_andV, ex_orV, ex_notV, ex_if, ex_chain, ex_nil, ex_cons, ex_tup, ex_lst, ex_call, ex_callP, ex_cb, ex_bm, ex_rep, ex_sl, ex_noPart, ex_part, ex_yes, it_items, it_rng1, it_rng2, tg_name, tg_sub, tg_tup, tg_cons, tg_nil, gs_0, gs_s, ss_0, ss_s, op_ii, op_ss, op_tt, op_mm, op_sb, op_ng, op_iNf, op_iNt, op_lle, op_ixT, op_ixR, op_ixL, op_putE, op_appE, it_tupE, it_rolE, it_refE, lstOf_l, exL, asS_some, asI_int, asB_bl, asL_some, asN_some, ite3_t, ite3_f, bl_1, bl_lenT, bl_lenR, bl_lenL, bl_lenS, bl_tuple, bl_list, bl_abs, bl_intI, bl_intB, bl_max, bl_min, op_eqSf, op_eqSt, op_eqIf, op_eqIt, op_eqTf, op_eqTt, op_eqRf, op_eqRt, op_eqNf, op_eqNt, eqD_int, eqD_nil, pl_int, pl_nil, pl_non, pl_rnil, pl_bl, sl_tupE, sl_rolE, keep_ref, keep_tup, keep_rol, tp_int, tp_tup, tp_rol, tp_str, tp_bl, tp_non, tp_ref, oFd, oMd, oPw, oShl, oLt, oLe, oGt, oGe, op_in, op_cp, wipe_nil, wipe_cons, mset_same, true_and, and_true, isN_int, ex_lstF, ex_repF, ex_lgF1, ex_lgF2, ex_tupRg1, ex_tupRg2, ex_frz, ex_slF, ex_slM, sl_tupF, sl_rolF, op_iiF, op_ssF, op_ttF, op_rrF, op_rrM, op_mmF, op_repF, li_rol, li_ref, bl_listF, bl_allF, bl_anyF, asT_some, asJ_some, op_eqBf, op_eqBt, isN_non, Bool.not_true, Bool.not_false, rep2]
      refine rd _ _ fun _ => ?_
      try dsimp only
      rw [st_seq, st_if]
      simp only [ex_c, ex_var, ex_op, ex_un, ex_b, ex_and, ex_or, ex_not, ex_andV, ex_orV, ex_notV, ex_if, ex_chain, ex_nil, ex_cons, ex_tup, ex_lst, ex_call, ex_callP, ex_cb, ex_bm, ex_rep, ex_sl, ex_noPart, ex_part, ex_yes, it_items, it_rng1, it_rng2, tg_name, tg_sub, tg_tup, tg_cons, tg_nil, gs_0, gs_s, ss_0, ss_s, op_ii, op_ss, op_tt, op_mm, op_sb, op_ng, op_iNf, op_iNt, op_lle, op_ixT, op_ixR, op_ixL, op_putE, op_appE, it_tupE, it_rolE, it_refE, lstOf_l, exL, asS_some, asI_int, asB_bl, asL_some, asN_some, ite3_t, ite3_f, bl_1, bl_lenT, bl_lenR, bl_lenL, bl_lenS, bl_tuple, bl_list, bl_abs, bl_intI, bl_intB, bl_max, bl_min, op_eqSf, op_eqSt, op_eqIf, op_eqIt, op_eqTf, op_eqTt, op_eqRf, op_eqRt, op_eqNf, op_eqNt, eqD_int, eqD_nil, pl_int, pl_nil, pl_non, pl_rnil, pl_bl, sl_tupE, sl_rolE, keep_ref, keep_tup, keep_rol, tp_int, tp_tup, tp_rol, tp_str, tp_bl, tp_non, tp_ref, oFd, oMd, oPw, oShl, oLt, oLe, oGt, oGe, op_in, op_cp, wipe_nil, wipe_cons, mset_same, true_and, and_true, isN_int, ex_lstF, ex_repF, ex_lgF1, ex_lgF2, ex_tupRg1, ex_tupRg2, ex_frz, ex_slF, ex_slM, sl_tupF, sl_rolF, op_iiF, op_ssF, op_ttF, op_rrF, op_rrM, op_mmF, op_repF, li_rol, li_ref, bl_listF, bl_allF, bl_anyF, asT_some, asJ_some, op_eqBf, op_eqBt, isN_non, Bool.not_true, Bool.not_false, rep2]
      refine k6 _ _ _ (.inr (tabP_L hT)) fun _ => ?_
      (try simp only [ex_c, ex_var, ex_op, ex_un, ex_b, ex_and, ex_or, ex_not, ex_andV, ex_orV, ex_notV, ex_if, ex_chain, ex_nil, ex_cons, ex_tup, ex_lst, ex_call, ex_callP, ex_cb, ex_bm, ex_rep, ex_sl, ex_noPart, ex_part, ex_yes, it_items, it_rng1, it_rng2, tg_name, tg_sub, tg_tup, tg_cons, tg_nil, gs_0, gs_s, ss_0, ss_s, op_ii, op_ss, op_tt, op_mm, op_sb, op_ng, op_iNf, op_iNt, op_lle, op_ixT, op_ixR, op_ixL, op_putE, op_appE, it_tupE, it_rolE, it_refE, lstOf_l, exL, asS_some, asI_int, asB_bl, asL_some, asN_some, ite3_t, ite3_f, bl_1, bl_lenT, bl_lenR, bl_lenL, bl_lenS, bl_tuple, bl_list, bl_abs, bl_intI, bl_intB, bl_max, bl_min, op_eqSf, op_eqSt, op_eqIf, op_eqIt, op_eqTf, op_eqTt, op_eqRf, op_eqRt, op_eqNf, op_eqNt, eqD_int, eqD_nil, pl_int, pl_nil, pl_non, pl_rnil, pl_bl, sl_tupE, sl_rolE, keep_ref, keep_tup, keep_rol, tp_int, tp_tup, tp_rol, tp_str, tp_bl, tp_non, tp_ref, oFd, oMd, oPw, oShl, oLt, oLe, oGt, oGe, op_in, op_cp, wipe_nil, wipe_cons, mset_same, true_and, and_true, isN_int, ex_lstF, ex_repF, ex_lgF1, ex_lgF2, ex_tupRg1, ex_tupRg2, ex_frz, ex_slF, ex_slM, sl_tupF, sl_rolF, op_iiF, op_ssF, op_ttF, op_rrF, op_rrM, op_mmF, op_repF, li_rol, li_ref, bl_listF, bl_allF, bl_anyF, asT_some, asJ_some, op_eqBf, op_eqBt, isN_non, Bool.not_true, Bool.not_false, rep2])
      refine k7 T _ _ hT fun _ => ?_
      (try simp only [ex_c, ex_var, ex_op, ex_un, ex_b, ex_and, ex_or, ex_not, ex_andV, ex_orV, ex_notV, ex_if, ex_chain, ex_nil, ex_cons, ex_tup, ex_lst, ex_call, ex_callP, ex_cb, ex_bm, ex_rep, ex_sl, ex_noPart, ex_part, ex_yes, it_items, it_rng1, it_rng2, tg_name, tg_sub, tg_tup, tg_cons, tg_nil, gs_0, gs_s, ss_0, ss_s, op_ii, op_ss, op_tt, op_mm, op_sb, op_ng, op_iNf, op_iNt, op_lle, op_ixT, op_ixR, op_ixL, op_putE, op_appE, it_tupE, it_rolE, it_refE, lstOf_l, exL, asS_some, asI_int, asB_bl, asL_some, asN_some, ite3_t, ite3_f, bl_1, bl_lenT, bl_lenR, bl_lenL, bl_lenS, bl_tuple, bl_list, bl_abs, bl_intI, bl_intB, bl_max, bl_min, op_eqSf, op_eqSt, op_eqIf, op_eqIt, op_eqTf, op_eqTt, op_eqRf, op_eqRt, op_eqNf, op_eqNt, eqD_int, eqD_nil, pl_int, pl_nil, pl_non, pl_rnil, pl_bl, sl_tupE, sl_rolE, keep_ref, keep_tup, keep_rol, tp_int, tp_tup, tp_rol, tp_str, tp_bl, tp_non, tp_ref, oFd, oMd, oPw, oShl, oLt, oLe, oGt, oGe, op_in, op_cp, wipe_nil, wipe_cons, mset_same, true_and, and_true, isN_int, ex_lstF, ex_repF, ex_lgF1, ex_lgF2, ex_tupRg1, ex_tupRg2, ex_frz, ex_slF, ex_slM, sl_tupF, sl_rolF, op_iiF, op_ssF, op_ttF, op_rrF, op_rrM, op_mmF, op_repF, li_rol, li_ref, bl_listF, bl_allF, bl_anyF, asT_some, asJ_some, op_eqBf, op_eqBt, isN_non, Bool.not_true, Bool.not_false, rep2])
      refine k6 _ _ _ (.inl ⟨_, rfl⟩) fun _ => ?_
      (try simp only [ex_c, ex_var, ex_op, ex_un, ex_b, ex_and, ex_or, ex_not, ex_andV, ex_orV, ex_notV, ex_if, ex_chain, ex_nil, ex_cons, ex_tup, ex_lst, ex_call, ex_callP, ex_cb, ex_bm, ex_rep, ex_sl, ex_noPart, ex_part, ex_yes, it_items, it_rng1, it_rng2, tg_name, tg_sub, tg_tup, tg_cons, tg_nil, gs_0, gs_s, ss_0, ss_s, op_ii, op_ss, op_tt, op_mm, op_sb, op_ng, op_iNf, op_iNt, op_lle, op_ixT, op_ixR, op_ixL, op_putE, op_appE, it_tupE, it_rolE, it_refE, lstOf_l, exL, asS_some, asI_int, asB_bl, asL_some, asN_some, ite3_t, ite3_f, bl_1, bl_lenT, bl_lenR, bl_lenL, bl_lenS, bl_tuple, bl_list, bl_abs, bl_intI, bl_intB, bl_max, bl_min, op_eqSf, op_eqSt, op_eqIf, op_eqIt, op_eqTf, op_eqTt, op_eqRf, op_eqRt, op_eqNf, op_eqNt, eqD_int, eqD_nil, pl_int, pl_nil, pl_non, pl_rnil, pl_bl, sl_tupE, sl_rolE, keep_ref, keep_tup, keep_rol, tp_int, tp_tup, tp_rol, tp_str, tp_bl, tp_non, tp_ref, oFd, oMd, oPw, oShl, oLt, oLe, oGt, oGe, op_in, op_cp, wipe_nil, wipe_cons, mset_same, true_and, and_true, isN_int, ex_lstF, ex_repF, ex_lgF1, ex_lgF2, ex_tupRg1, ex_tupRg2, ex_frz, ex_slF, ex_slM, sl_tupF, sl_rolF, op_iiF, op_ssF, op_ttF, op_rrF, op_rrM, op_mmF, op_repF, li_rol, li_ref, bl_listF, bl_allF, bl_anyF, asT_some, asJ_some, op_eqBf, op_eqBt, isN_non, Bool.not_true, Bool.not_false, rep2])
      rw [st_next]
      try dsimp only
      rw [st_seq, st_if]
      simp only [ex_c, ex_var, ex_op, ex_un, ex_b, ex_and, ex_or, ex_not, ex_andV, ex_orV, ex_notV, ex_if, ex_chain, ex_nil, ex_cons, ex_tup, ex_lst, ex_call, ex_callP, ex_cb, ex_bm, ex_rep, ex_sl, ex_noPart, ex_part, ex_yes, it_items, it_rng1, it_rng2, tg_name, tg_sub, tg_tup, tg_cons, tg_nil, gs_0, gs_s, ss_0, ss_s, op_ii, op_ss, op_tt, op_mm, op_sb, op_ng, op_iNf, op_iNt, op_lle, op_ixT, op_ixR, op_ixL, op_putE, op_appE, it_tupE, it_rolE, it_refE, lstOf_l, exL, asS_some, asI_int, asB_bl, asL_some, asN_some, ite3_t, ite3_f, bl_1, bl_lenT, bl_lenR, bl_lenL, bl_lenS, bl_tuple, bl_list, bl_abs, bl_intI, bl_intB, bl_max, bl_min, op_eqSf, op_eqSt, op_eqIf, op_eqIt, op_eqTf, op_eqTt, op_eqRf, op_eqRt, op_eqNf, op_eqNt, eqD_int, eqD_nil, pl_int, pl_nil, pl_non, pl_rnil, pl_bl, sl_tupE, sl_rolE, keep_ref, keep_tup, keep_rol, tp_int, tp_tup, tp_rol, tp_str, tp_bl, tp_non, tp_ref, oFd, oMd, oPw, oShl, oLt, oLe, oGt, oGe, op_in, op_cp, wipe_nil, wipe_cons, mset_same, true_and, and_true, isN_int, ex_lstF, ex_repF, ex_lgF1, ex_lgF2, ex_tupRg1, ex_tupRg2, ex_frz, ex_slF, ex_slM, sl_tupF, sl_rolF, op_iiF, op_ssF, op_ttF, op_rrF, op_rrM, op_mmF, op_repF, li_rol, li_ref, bl_listF, bl_allF, bl_anyF, asT_some, asJ_some, op_eqBf, op_eqBt, isN_non, Bool.not_true, Bool.not_false, rep2, callK]
      refine k7 T _ _ hT fun _ => ?_
      (try simp only [ex_c, ex_var, ex_op, ex_un, ex_b, ex_and, ex_or, ex_not, ex_andV, ex_orV, ex_notV, ex_if, ex_chain, ex_nil, ex_cons, ex_tup, ex_lst, ex_call, ex_callP, ex_cb, ex_bm, ex_rep, ex_sl, ex_noPart, ex_part, ex_yes, it_items, it_rng1, it_rng2, tg_name, tg_sub, tg_tup, tg_cons, tg_nil, gs_0, gs_s, ss_0, ss_s, op_ii, op_ss, op_tt, op_mm, op_sb, op_ng, op_iNf, op_iNt, op_lle, op_ixT, op_ixR, op_ixL, op_putE, op_appE, it_tupE, it_rolE, it_refE, lstOf_l, exL, asS_some, asI_int, asB_bl, asL_some, asN_some, ite3_t, ite3_f, bl_1, bl_lenT, bl_lenR, bl_lenL, bl_lenS, bl_tuple, bl_list, bl_abs, bl_intI, bl_intB, bl_max, bl_min, op_eqSf, op_eqSt, op_eqIf, op_eqIt, op_eqTf, op_eqTt, op_eqRf, op_eqRt, op_eqNf, op_eqNt, eqD_int, eqD_nil, pl_int, pl_nil, pl_non, pl_rnil, pl_bl, sl_tupE, sl_rolE, keep_ref, keep_tup, keep_rol, tp_int, tp_tup, tp_rol, tp_str, tp_bl, tp_non, tp_ref, oFd, oMd, oPw, oShl, oLt, oLe, oGt, oGe, op_in, op_cp, wipe_nil, wipe_cons, mset_same, true_and, and_true, isN_int, ex_lstF, ex_repF, ex_lgF1, ex_lgF2, ex_tupRg1, ex_tupRg2, ex_frz, ex_slF, ex_slM, sl_tupF, sl_rolF, op_iiF, op_ssF, op_ttF, op_rrF, op_rrM, op_mmF, op_repF, li_rol, li_ref, bl_listF, bl_allF, bl_anyF, asT_some, asJ_some, op_eqBf, op_eqBt, isN_non, Bool.not_true, Bool.not_false, rep2])
      refine k6 _ _ _ (.inl ⟨_, rfl⟩) fun _ => ?_
      (try simp only [ex_c, ex_var, ex_op, ex_un, ex_b, ex_and, ex_or, ex_not, ex_andV, ex_orV, ex_notV, ex_if, ex_chain, ex_nil, ex_cons, ex_tup, ex_lst, ex_call, ex_callP, ex_cb, ex_bm, ex_rep, ex_sl, ex_noPart, ex_part, ex_yes, it_items, it_rng1, it_rng2, tg_name, tg_sub, tg_tup, tg_cons, tg_nil, gs_0, gs_s, ss_0, ss_s, op_ii, op_ss, op_tt, op_mm, op_sb, op_ng, op_iNf, op_iNt, op_lle, op_ixT, op_ixR, op_ixL, op_putE, op_appE, it_tupE, it_rolE, it_refE, lstOf_l, exL, asS_some, asI_int, asB_bl, asL_some, asN_some, ite3_t, ite3_f, bl_1, bl_lenT, bl_lenR, bl_lenL, bl_lenS, bl_tuple, bl_list, bl_abs, bl_intI, bl_intB, bl_max, bl_min, op_eqSf, op_eqSt, op_eqIf, op_eqIt, op_eqTf, op_eqTt, op_eqRf, op_eqRt, op_eqNf, op_eqNt, eqD_int, eqD_nil, pl_int, pl_nil, pl_non, pl_rnil, pl_bl, sl_tupE, sl_rolE, keep_ref, keep_tup, keep_rol, tp_int, tp_tup, tp_rol, tp_str, tp_bl, tp_non, tp_ref, oFd, oMd, oPw, oShl, oLt, oLe, oGt, oGe, op_in, op_cp, wipe_nil, wipe_cons, mset_same, true_and, and_true, isN_int, ex_lstF, ex_repF, ex_lgF1, ex_lgF2, ex_tupRg1, ex_tupRg2, ex_frz, ex_slF, ex_slM, sl_tupF, sl_rolF, op_iiF, op_ssF, op_ttF, op_rrF, op_rrM, op_mmF, op_repF, li_rol, li_ref, bl_listF, bl_allF, bl_anyF, asT_some, asJ_some, op_eqBf, op_eqBt, isN_non, Bool.not_true, Bool.not_false, rep2])
      rw [st_next]
      try dsimp only
      rw [st_if]
      simp only [ex_c, ex_var, ex_op, ex_un, ex_b, ex_and, ex_or, ex_not, ex_andV, ex_orV, ex_notV, ex_if, ex_chain, ex_nil, ex_cons, ex_tup, ex_lst, ex_call, ex_callP, ex_cb, ex_bm, ex_rep, ex_sl, ex_noPart, ex_part, ex_yes, it_items, it_rng1, it_rng2, tg_name, tg_sub, tg_tup, tg_cons, tg_nil, gs_0, gs_s, ss_0, ss_s, op_ii, op_ss, op_tt, op_mm, op_sb, op_ng, op_iNf, op_iNt, op_lle, op_ixT, op_ixR, op_ixL, op_putE, op_appE, it_tupE, it_rolE, it_refE, lstOf_l, exL, asS_some, asI_int, asB_bl, asL_some, asN_some, ite3_t, ite3_f, bl_1, bl_lenT, bl_lenR, bl_lenL, bl_lenS, bl_tuple, bl_list, bl_abs, bl_intI, bl_intB, bl_max, bl_min, op_eqSf, op_eqSt, op_eqIf, op_eqIt, op_eqTf, op_eqTt, op_eqRf, op_eqRt, op_eqNf, op_eqNt, eqD_int, eqD_nil, pl_int, pl_nil, pl_non, pl_rnil, pl_bl, sl_tupE, sl_rolE, keep_ref, keep_tup, keep_rol, tp_int, tp_tup, tp_rol, tp_str, tp_bl, tp_non, tp_ref, oFd, oMd, oPw, oShl, oLt, oLe, oGt, oGe, op_in, op_cp, wipe_nil, wipe_cons, mset_same, true_and, and_true, isN_int, ex_lstF, ex_repF, ex_lgF1, ex_lgF2, ex_tupRg1, ex_tupRg2, ex_frz, ex_slF, ex_slM, sl_tupF, sl_rolF, op_iiF, op_ssF, op_ttF, op_rrF, op_rrM, op_mmF, op_repF, li_rol, li_ref, bl_listF, bl_allF, bl_anyF, asT_some, asJ_some, op_eqBf, op_eqBt, isN_non, Bool.not_true, Bool.not_false, rep2, callK]
      refine rd _ _ fun _ => ?_
      (try simp only [ex_c, ex_var, ex_op, ex_un, ex_b, ex_and, ex_or, ex_not, ex_andV, ex_orV, ex_notV, ex_if, ex_chain, ex_nil, ex_cons, ex_tup, ex_lst, ex_call, ex_callP, ex_cb, ex_bm, ex_rep, ex_sl, ex_noPart, ex_part, ex_yes, it_items, it_rng1, it_rng2, tg_name, tg_sub, tg_tup, tg_cons, tg_nil, gs_0, gs_s, ss_0, ss_s, op_ii, op_ss, op_tt, op_mm, op_sb, op_ng, op_iNf, op_iNt, op_lle, op_ixT, op_ixR, op_ixL, op_putE, op_appE, it_tupE, it_rolE, it_refE, lstOf_l, exL, asS_some, asI_int, asB_bl, asL_some, asN_some, ite3_t, ite3_f, bl_1, bl_lenT, bl_lenR, bl_lenL, bl_lenS, bl_tuple, bl_list, bl_abs, bl_intI, bl_intB, bl_max, bl_min, op_eqSf, op_eqSt, op_eqIf, op_eqIt, op_eqTf, op_eqTt, op_eqRf, op_eqRt, op_eqNf, op_eqNt, eqD_int, eqD_nil, pl_int, pl_nil, pl_non, pl_rnil, pl_bl, sl_tupE, sl_rolE, keep_ref, keep_tup, keep_rol, tp_int, tp_tup, tp_rol, tp_str, tp_bl, tp_non, tp_ref, oFd, oMd, oPw, oShl, oLt, oLe, oGt, oGe, op_in, op_cp, wipe_nil, wipe_cons, mset_same, true_and, and_true, isN_int, ex_lstF, ex_repF, ex_lgF1, ex_lgF2, ex_tupRg1, ex_tupRg2, ex_frz, ex_slF, ex_slM, sl_tupF, sl_rolF, op_iiF, op_ssF, op_ttF, op_rrF, op_rrM, op_mmF, op_repF, li_rol, li_ref, bl_listF, bl_allF, bl_anyF, asT_some, asJ_some, op_eqBf, op_eqBt, isN_non, Bool.not_true, Bool.not_false, rep2])
      refine k6 _ _ _ (.inr (tabP_L hT)) fun _ => ?_
      (try simp only [ex_c, ex_var, ex_op, ex_un, ex_b, ex_and, ex_or, ex_not, ex_andV, ex_orV, ex_notV, ex_if, ex_chain, ex_nil, ex_cons, ex_tup, ex_lst, ex_call, ex_callP, ex_cb, ex_bm, ex_rep, ex_sl, ex_noPart, ex_part, ex_yes, it_items, it_rng1, it_rng2, tg_name, tg_sub, tg_tup, tg_cons, tg_nil, gs_0, gs_s, ss_0, ss_s, op_ii, op_ss, op_tt, op_mm, op_sb, op_ng, op_iNf, op_iNt, op_lle, op_ixT, op_ixR, op_ixL, op_putE, op_appE, it_tupE, it_rolE, it_refE, lstOf_l, exL, asS_some, asI_int, asB_bl, asL_some, asN_some, ite3_t, ite3_f, bl_1, bl_lenT, bl_lenR, bl_lenL, bl_lenS, bl_tuple, bl_list, bl_abs, bl_intI, bl_intB, bl_max, bl_min, op_eqSf, op_eqSt, op_eqIf, op_eqIt, op_eqTf, op_eqTt, op_eqRf, op_eqRt, op_eqNf, op_eqNt, eqD_int, eqD_nil, pl_int, pl_nil, pl_non, pl_rnil, pl_bl, sl_tupE, sl_rolE, keep_ref, keep_tup, keep_rol, tp_int, tp_tup, tp_rol, tp_str, tp_bl, tp_non, tp_ref, oFd, oMd, oPw, oShl, oLt, oLe, oGt, oGe, op_in, op_cp, wipe_nil, wipe_cons, mset_same, true_and, and_true, isN_int, ex_lstF, ex_repF, ex_lgF1, ex_lgF2, ex_tupRg1, ex_tupRg2, ex_frz, ex_slF, ex_slM, sl_tupF, sl_rolF, op_iiF, op_ssF, op_ttF, op_rrF, op_rrM, op_mmF, op_repF, li_rol, li_ref, bl_listF, bl_allF, bl_anyF, asT_some, asJ_some, op_eqBf, op_eqBt, isN_non, Bool.not_true, Bool.not_false, rep2])
      rw [st_next, hK]
      exact hX _ _ ⟨hi, f3.mono (by omega), _, _, _, _, _, _, rfl⟩
    try dsimp only
    rw [st_seq, st_set]
    simp only [ex_c, ex_var, ex_op, ex_un, ex_b, ex_and, ex_or, ex_not, ex_andV, ex_orV, ex_notV, ex_if, ex_chain, ex_nil, ex_cons, ex_tup, ex_lst, ex_call, ex_callP, ex_cb, ex_bm, ex_rep, ex_sl, ex_noPart, ex_part, ex_yes, it_items, it_rng1, it_rng2, tg_name, tg_sub, tg_tup, tg_cons, tg_nil, gs_0, gs_s, ss_0, ss_s, op_ii, op_ss, op_tt, op_mm, op_sb, op_ng, op_iNf, op_iNt, op_lle, op_ixT, op_ixR, op_ixL, op_putE, op_appE, it_tupE, it_rolE, it_refE, lstOf_l, exL, asS_some, asI_int, asB_bl, asL_some, asN_some, ite3_t, ite3_f, bl_1, bl_lenT, bl_lenR, bl_lenL, bl_lenS, bl_tuple, bl_list, bl_abs, bl_intI, bl_intB, bl_max, bl_min, op_eqSf, op_eqSt, op_eqIf, op_eqIt, op_eqTf, op_eqTt, op_eqRf, op_eqRt, op_eqNf, op_eqNt, eqD_int, eqD_nil, pl_int, pl_nil, pl_non, pl_rnil, pl_bl, sl_tupE, sl_rolE, keep_ref, keep_tup, keep_rol, tp_int, tp_tup, tp_rol, tp_str, tp_bl, tp_non, tp_ref, oFd, oMd, oPw, oShl, oLt, oLe, oGt, oGe, op_in, op_cp, wipe_nil, wipe_cons, mset_same, true_and, and_true, isN_int, ex_lstF, ex_repF, ex_lgF1, ex_lgF2, ex_tupRg1, ex_tupRg2, ex_frz, ex_slF, ex_slM, sl_tupF, sl_rolF, op_iiF, op_ssF, op_ttF, op_rrF, op_rrM, op_mmF, op_repF, li_rol, li_ref, bl_listF, bl_allF, bl_anyF, asT_some, asJ_some, op_eqBf, op_eqBt, isN_non, Bool.not_true, Bool.not_false, rep2]
    refine k3 _ (400 * i + 1) m _ _ _ f2 (by omega) m7 fun T M3 hT hS f3 _ => ?_
    try dsimp only
    rw [st_seq, st_if]
    simp only [ex_c, ex_var, ex_op, ex_un, ex_b, ex_and, ex_or, ex_not, ex_andV, ex_orV, ex_notV, ex_if, ex_chain, ex_nil, ex_cons, ex_tup, ex_lst, ex_call, ex_callP, ex_cb, ex_bm, ex_rep, ex_sl, ex_noPart, ex_part, ex_yes, it_items, it_rng1, it_rng2, tg_name, tg_sub, tg_tup, tg_cons, tg_nil, gs_0, gs_s, ss_0, ss_s, op_ii, op_ss, op_tt, op_mm, op_sb, op_ng, op_iNf, op_iNt, op_lle, op_ixT, op_ixR, op_ixL, op_putE, op_appE, it_tupE, it_rolE, it_refE, lstOf_l, exL, asS_some, asI_int, asB_bl, asL_some, asN_some, ite3_t, ite3_f, bl_1, bl_lenT, bl_lenR, bl_lenL, bl_lenS, bl_tuple, bl_list, bl_abs, bl_intI, bl_intB, bl_max, bl_min, op_eqSf, op_eqSt, op_eqIf, op_eqIt, op_eqTf, op_eqTt, op_eqRf, op_eqRt, op_eqNf, op_eqNt, eqD_int, eqD_nil, pl_int, pl_nil, pl_non, pl_rnil, pl_bl, sl_tupE, sl_rolE, keep_ref, keep_tup, keep_rol, tp_int, tp_tup, tp_rol, tp_str, tp_bl, tp_non, tp_ref, oFd, oMd, oPw, oShl, oLt, oLe, oGt, oGe, op_in, op_cp, wipe_nil, wipe_cons, mset_same, true_and, and_true, isN_int, ex_lstF, ex_repF, ex_lgF1, ex_lgF2, ex_tupRg1, ex_tupRg2, ex_frz, ex_slF, ex_slM, sl_tupF, sl_rolF, op_iiF, op_ssF, op_ttF, op_rrF, op_rrM, op_mmF, op_repF, li_rol, li_ref, bl_listF, bl_allF, bl_anyF, asT_some, asJ_some, op_eqBf, op_eqBt, isN_non, Bool.not_true, Bool.not_false, rep2]
    refine ite3_by (fun h => ?_) (fun h => ?_)
    · have hm1 : m = 1 := by have := of_decide_eq_true h; omega
      refine k2 _ (400 * i + 302) _ _ _ _ (f3.mono (by omega)) (by omega) (by decide) (by decide) fun r M4 h0 h1 f4 _ => ?_
      (try simp only [ex_c, ex_var, ex_op, ex_un, ex_b, ex_and, ex_or, ex_not, ex_andV, ex_orV, ex_notV, ex_if, ex_chain, ex_nil, ex_cons, ex_tup, ex_lst, ex_call, ex_callP, ex_cb, ex_bm, ex_rep, ex_sl, ex_noPart, ex_part, ex_yes, it_items, it_rng1, it_rng2, tg_name, tg_sub, tg_tup, tg_cons, tg_nil, gs_0, gs_s, ss_0, ss_s, op_ii, op_ss, op_tt, op_mm, op_sb, op_ng, op_iNf, op_iNt, op_lle, op_ixT, op_ixR, op_ixL, op_putE, op_appE, it_tupE, it_rolE, it_refE, lstOf_l, exL, asS_some, asI_int, asB_bl, asL_some, asN_some, ite3_t, ite3_f, bl_1, bl_lenT, bl_lenR, bl_lenL, bl_lenS, bl_tuple, bl_list, bl_abs, bl_intI, bl_intB, bl_max, bl_min, op_eqSf, op_eqSt, op_eqIf, op_eqIt, op_eqTf, op_eqTt, op_eqRf, op_eqRt, op_eqNf, op_eqNt, eqD_int, eqD_nil, pl_int, pl_nil, pl_non, pl_rnil, pl_bl, sl_tupE, sl_rolE, keep_ref, keep_tup, keep_rol, tp_int, tp_tup, tp_rol, tp_str, tp_bl, tp_non, tp_ref, oFd, oMd, oPw, oShl, oLt, oLe, oGt, oGe, op_in, op_cp, wipe_nil, wipe_cons, mset_same, true_and, and_true, isN_int, ex_lstF, ex_repF, ex_lgF1, ex_lgF2, ex_tupRg1, ex_tupRg2, ex_frz, ex_slF, ex_slM, sl_tupF, sl_rolF, op_iiF, op_ssF, op_ttF, op_rrF, op_rrM, op_mmF, op_repF, li_rol, li_ref, bl_listF, bl_allF, bl_anyF, asT_some, asJ_some, op_eqBf, op_eqBt, isN_non, Bool.not_true, Bool.not_false, rep2])
      refine ite3_by (fun h => ?_) (fun h => ?_)
      · try dsimp only
        rw [st_seq, st_set]
        simp only [ex_c, ex_var, ex_op, ex_un, ex_b, ex_and, ex_or, ex_not, ex_andV, ex_orV, ex_notV, ex_if, ex_chain, ex_nil, ex_cons, ex_tup, ex_lst, ex_call, ex_callP, ex_cb, ex_bm, ex_rep, ex_sl, ex_noPart, ex_part, ex_yes, it_items, it_rng1, it_rng2, tg_name, tg_sub, tg_tup, tg_cons, tg_nil, gs_0, gs_s, ss_0, ss_s, op_ii, op_ss, op_tt, op_mm, op_sb, op_ng, op_iNf, op_iNt, op_lle, op_ixT, op_ixR, op_ixL, op_putE, op_appE, it_tupE, it_rolE, it_refE, lstOf_l, exL, asS_some, asI_int, asB_bl, asL_some, asN_some, ite3_t, ite3_f, bl_1, bl_lenT, bl_lenR, bl_lenL, bl_lenS, bl_tuple, bl_list, bl_abs, bl_intI, bl_intB, bl_max, bl_min, op_eqSf, op_eqSt, op_eqIf, op_eqIt, op_eqTf, op_eqTt, op_eqRf, op_eqRt, op_eqNf, op_eqNt, eqD_int, eqD_nil, pl_int, pl_nil, pl_non, pl_rnil, pl_bl, sl_tupE, sl_rolE, keep_ref, keep_tup, keep_rol, tp_int, tp_tup, tp_rol, tp_str, tp_bl, tp_non, tp_ref, oFd, oMd, oPw, oShl, oLt, oLe, oGt, oGe, op_in, op_cp, wipe_nil, wipe_cons, mset_same, true_and, and_true, isN_int, ex_lstF, ex_repF, ex_lgF1, ex_lgF2, ex_tupRg1, ex_tupRg2, ex_frz, ex_slF, ex_slM, sl_tupF, sl_rolF, op_iiF, op_ssF, op_ttF, op_rrF, op_rrM, op_mmF, op_repF, li_rol, li_ref, bl_listF, bl_allF, bl_anyF, asT_some, asJ_some, op_eqBf, op_eqBt, isN_non, Bool.not_true, Bool.not_false, rep2]
        refine ⟨by show 3 ≤ sizeLine; omega, k2 _ (400 * i + 303) _ _ _ _ f4 (by omega) (by decide) (by decide) fun r5 M5 h5 h6 f5 _ => ?_⟩
        obtain ⟨d, hat, hd1, hd⟩ : ∃ d : Nat, atI [D.int 45, D.int 60, D.int 899] r5 = some (.int (d : Nat)) ∧ 2 ≤ d ∧ d ≤ 899 := by
          have : r5 = 0 ∨ r5 = 1 ∨ r5 = 2 := by omega
          rcases this with rfl | rfl | rfl
          · exact ⟨45, rfl, by decide, by decide⟩
          · exact ⟨60, rfl, by decide, by decide⟩
          · exact ⟨899, rfl, by decide, by decide⟩
        rw [asI_int, hat, asS_some]
        rw [st_set]
        simp only [ex_c, ex_var, ex_op, ex_un, ex_b, ex_and, ex_or, ex_not, ex_andV, ex_orV, ex_notV, ex_if, ex_chain, ex_nil, ex_cons, ex_tup, ex_lst, ex_call, ex_callP, ex_cb, ex_bm, ex_rep, ex_sl, ex_noPart, ex_part, ex_yes, it_items, it_rng1, it_rng2, tg_name, tg_sub, tg_tup, tg_cons, tg_nil, gs_0, gs_s, ss_0, ss_s, op_ii, op_ss, op_tt, op_mm, op_sb, op_ng, op_iNf, op_iNt, op_lle, op_ixT, op_ixR, op_ixL, op_putE, op_appE, it_tupE, it_rolE, it_refE, lstOf_l, exL, asS_some, asI_int, asB_bl, asL_some, asN_some, ite3_t, ite3_f, bl_1, bl_lenT, bl_lenR, bl_lenL, bl_lenS, bl_tuple, bl_list, bl_abs, bl_intI, bl_intB, bl_max, bl_min, op_eqSf, op_eqSt, op_eqIf, op_eqIt, op_eqTf, op_eqTt, op_eqRf, op_eqRt, op_eqNf, op_eqNt, eqD_int, eqD_nil, pl_int, pl_nil, pl_non, pl_rnil, pl_bl, sl_tupE, sl_rolE, keep_ref, keep_tup, keep_rol, tp_int, tp_tup, tp_rol, tp_str, tp_bl, tp_non, tp_ref, oFd, oMd, oPw, oShl, oLt, oLe, oGt, oGe, op_in, op_cp, wipe_nil, wipe_cons, mset_same, true_and, and_true, isN_int, ex_lstF, ex_repF, ex_lgF1, ex_lgF2, ex_tupRg1, ex_tupRg2, ex_frz, ex_slF, ex_slM, sl_tupF, sl_rolF, op_iiF, op_ssF, op_ttF, op_rrF, op_rrM, op_mmF, op_repF, li_rol, li_ref, bl_listF, bl_allF, bl_anyF, asT_some, asJ_some, op_eqBf, op_eqBt, isN_non, Bool.not_true, Bool.not_false, rep2, op_addS]
        obtain ⟨v, hv, hvb⟩ := far_int hd
        refine ⟨by omega, by omega, 48, rfl, ?_⟩
        dsimp only
        rw [Int.toNat_natCast, op_addS]
        have hrl : ((⟨(List.replicate d 48).toArray⟩ : Str)).length = d := by
          show (List.replicate d 48).toArray.size = d
          rw [List.size_toArray, List.length_replicate]
        have h2l : ("-1" : Str).length = 2 := by decide +kernel
        refine ⟨by omega, _, hv, by rw [len_app]; omega, k2 _ (400 * i + 304) _ _ _ _ f5 (by omega) (by decide) (by decide) fun r6 M6 h7 h8 f6 _ => ?_⟩
        (try simp only [ex_c, ex_var, ex_op, ex_un, ex_b, ex_and, ex_or, ex_not, ex_andV, ex_orV, ex_notV, ex_if, ex_chain, ex_nil, ex_cons, ex_tup, ex_lst, ex_call, ex_callP, ex_cb, ex_bm, ex_rep, ex_sl, ex_noPart, ex_part, ex_yes, it_items, it_rng1, it_rng2, tg_name, tg_sub, tg_tup, tg_cons, tg_nil, gs_0, gs_s, ss_0, ss_s, op_ii, op_ss, op_tt, op_mm, op_sb, op_ng, op_iNf, op_iNt, op_lle, op_ixT, op_ixR, op_ixL, op_putE, op_appE, it_tupE, it_rolE, it_refE, lstOf_l, exL, asS_some, asI_int, asB_bl, asL_some, asN_some, ite3_t, ite3_f, bl_1, bl_lenT, bl_lenR, bl_lenL, bl_lenS, bl_tuple, bl_list, bl_abs, bl_intI, bl_intB, bl_max, bl_min, op_eqSf, op_eqSt, op_eqIf, op_eqIt, op_eqTf, op_eqTt, op_eqRf, op_eqRt, op_eqNf, op_eqNt, eqD_int, eqD_nil, pl_int, pl_nil, pl_non, pl_rnil, pl_bl, sl_tupE, sl_rolE, keep_ref, keep_tup, keep_rol, tp_int, tp_tup, tp_rol, tp_str, tp_bl, tp_non, tp_ref, oFd, oMd, oPw, oShl, oLt, oLe, oGt, oGe, op_in, op_cp, wipe_nil, wipe_cons, mset_same, true_and, and_true, isN_int, ex_lstF, ex_repF, ex_lgF1, ex_lgF2, ex_tupRg1, ex_tupRg2, ex_frz, ex_slF, ex_slM, sl_tupF, sl_rolF, op_iiF, op_ssF, op_ttF, op_rrF, op_rrM, op_mmF, op_repF, li_rol, li_ref, bl_listF, bl_allF, bl_anyF, asT_some, asJ_some, op_eqBf, op_eqBt, isN_non, Bool.not_true, Bool.not_false, rep2])
        refine ⟨by show 1 ≤ sizeLine; omega, by show 1 ≤ sizeLine; omega, ?_⟩
        refine rest _ [[some (-(v : Int) + r6)]] M6 _ rfl ⟨by show 1 ≤ 7; decide, fun r hr => ?_, fun r hr e he => ?_⟩ (.inr ⟨hm1.symm, fun r hr => ?_⟩) (f6.mono (by omega))
        · rw [List.mem_singleton] at hr; rw [hr]; show 1 ≤ 7; decide
        · rw [List.mem_singleton] at hr; rw [hr] at he
          rw [List.mem_singleton] at he; rw [he]
          exact far_ed hvb h7 h8
        · rw [List.mem_singleton] at hr; rw [hr]; exact hm1.symm
      · (try simp only [ex_c, ex_var, ex_op, ex_un, ex_b, ex_and, ex_or, ex_not, ex_andV, ex_orV, ex_notV, ex_if, ex_chain, ex_nil, ex_cons, ex_tup, ex_lst, ex_call, ex_callP, ex_cb, ex_bm, ex_rep, ex_sl, ex_noPart, ex_part, ex_yes, it_items, it_rng1, it_rng2, tg_name, tg_sub, tg_tup, tg_cons, tg_nil, gs_0, gs_s, ss_0, ss_s, op_ii, op_ss, op_tt, op_mm, op_sb, op_ng, op_iNf, op_iNt, op_lle, op_ixT, op_ixR, op_ixL, op_putE, op_appE, it_tupE, it_rolE, it_refE, lstOf_l, exL, asS_some, asI_int, asB_bl, asL_some, asN_some, ite3_t, ite3_f, bl_1, bl_lenT, bl_lenR, bl_lenL, bl_lenS, bl_tuple, bl_list, bl_abs, bl_intI, bl_intB, bl_max, bl_min, op_eqSf, op_eqSt, op_eqIf, op_eqIt, op_eqTf, op_eqTt, op_eqRf, op_eqRt, op_eqNf, op_eqNt, eqD_int, eqD_nil, pl_int, pl_nil, pl_non, pl_rnil, pl_bl, sl_tupE, sl_rolE, keep_ref, keep_tup, keep_rol, tp_int, tp_tup, tp_rol, tp_str, tp_bl, tp_non, tp_ref, oFd, oMd, oPw, oShl, oLt, oLe, oGt, oGe, op_in, op_cp, wipe_nil, wipe_cons, mset_same, true_and, and_true, isN_int, ex_lstF, ex_repF, ex_lgF1, ex_lgF2, ex_tupRg1, ex_tupRg2, ex_frz, ex_slF, ex_slM, sl_tupF, sl_rolF, op_iiF, op_ssF, op_ttF, op_rrF, op_rrM, op_mmF, op_repF, li_rol, li_ref, bl_listF, bl_allF, bl_anyF, asT_some, asJ_some, op_eqBf, op_eqBt, isN_non, Bool.not_true, Bool.not_false, rep2])
        rw [st_next]
        exact rest _ T M4 _ rfl hT.l hS (f4.mono (by omega))
    · (try simp only [ex_c, ex_var, ex_op, ex_un, ex_b, ex_and, ex_or, ex_not, ex_andV, ex_orV, ex_notV, ex_if, ex_chain, ex_nil, ex_cons, ex_tup, ex_lst, ex_call, ex_callP, ex_cb, ex_bm, ex_rep, ex_sl, ex_noPart, ex_part, ex_yes, it_items, it_rng1, it_rng2, tg_name, tg_sub, tg_tup, tg_cons, tg_nil, gs_0, gs_s, ss_0, ss_s, op_ii, op_ss, op_tt, op_mm, op_sb, op_ng, op_iNf, op_iNt, op_lle, op_ixT, op_ixR, op_ixL, op_putE, op_appE, it_tupE, it_rolE, it_refE, lstOf_l, exL, asS_some, asI_int, asB_bl, asL_some, asN_some, ite3_t, ite3_f, bl_1, bl_lenT, bl_lenR, bl_lenL, bl_lenS, bl_tuple, bl_list, bl_abs, bl_intI, bl_intB, bl_max, bl_min, op_eqSf, op_eqSt, op_eqIf, op_eqIt, op_eqTf, op_eqTt, op_eqRf, op_eqRt, op_eqNf, op_eqNt, eqD_int, eqD_nil, pl_int, pl_nil, pl_non, pl_rnil, pl_bl, sl_tupE, sl_rolE, keep_ref, keep_tup, keep_rol, tp_int, tp_tup, tp_rol, tp_str, tp_bl, tp_non, tp_ref, oFd, oMd, oPw, oShl, oLt, oLe, oGt, oGe, op_in, op_cp, wipe_nil, wipe_cons, mset_same, true_and, and_true, isN_int, ex_lstF, ex_repF, ex_lgF1, ex_lgF2, ex_tupRg1, ex_tupRg2, ex_frz, ex_slF, ex_slM, sl_tupF, sl_rolF, op_iiF, op_ssF, op_ttF, op_rrF, op_rrM, op_mmF, op_repF, li_rol, li_ref, bl_listF, bl_allF, bl_anyF, asT_some, asJ_some, op_eqBf, op_eqBt, isN_non, Bool.not_true, Bool.not_false, rep2])
      rw [st_next]
      exact rest _ T M3 _ rfl hT.l hS (f3.mono (by omega))
  · rintro τ M ⟨_, f, x2, x3, x4, x5, x6, x7, rfl⟩
    try dsimp only
    rw [st_seq, st_set]
    simp only [ex_c, ex_var, ex_op, ex_un, ex_b, ex_and, ex_or, ex_not, ex_andV, ex_orV, ex_notV, ex_if, ex_chain, ex_nil, ex_cons, ex_tup, ex_lst, ex_call, ex_callP, ex_cb, ex_bm, ex_rep, ex_sl, ex_noPart, ex_part, ex_yes, it_items, it_rng1, it_rng2, tg_name, tg_sub, tg_tup, tg_cons, tg_nil, gs_0, gs_s, ss_0, ss_s, op_ii, op_ss, op_tt, op_mm, op_sb, op_ng, op_iNf, op_iNt, op_lle, op_ixT, op_ixR, op_ixL, op_putE, op_appE, it_tupE, it_rolE, it_refE, lstOf_l, exL, asS_some, asI_int, asB_bl, asL_some, asN_some, ite3_t, ite3_f, bl_1, bl_lenT, bl_lenR, bl_lenL, bl_lenS, bl_tuple, bl_list, bl_abs, bl_intI, bl_intB, bl_max, bl_min, op_eqSf, op_eqSt, op_eqIf, op_eqIt, op_eqTf, op_eqTt, op_eqRf, op_eqRt, op_eqNf, op_eqNt, eqD_int, eqD_nil, pl_int, pl_nil, pl_non, pl_rnil, pl_bl, sl_tupE, sl_rolE, keep_ref, keep_tup, keep_rol, tp_int, tp_tup, tp_rol, tp_str, tp_bl, tp_non, tp_ref, oFd, oMd, oPw, oShl, oLt, oLe, oGt, oGe, op_in, op_cp, wipe_nil, wipe_cons, mset_same, true_and, and_true, isN_int, ex_lstF, ex_repF, ex_lgF1, ex_lgF2, ex_tupRg1, ex_tupRg2, ex_frz, ex_slF, ex_slM, sl_tupF, sl_rolF, op_iiF, op_ssF, op_ttF, op_rrF, op_rrM, op_mmF, op_repF, li_rol, li_ref, bl_listF, bl_allF, bl_anyF, asT_some, asJ_some, op_eqBf, op_eqBt, isN_non, Bool.not_true, Bool.not_false, rep2]
    have small : ∀ n : Nat, n ≤ 10 → n ≤ sizeLine := fun n h => by omega
    refine ⟨small _ (by decide), small _ (by decide), small _ (by decide), small _ (by decide), small _ (by decide), small _ (by decide), small _ (by decide), small _ (by decide), small _ (by decide), small _ (by decide), small _ (by decide), small _ (by decide), small _ (by decide), ?_⟩
    rw [st_ret]
    simp only [ex_c, ex_var, ex_op, ex_un, ex_b, ex_and, ex_or, ex_not, ex_andV, ex_orV, ex_notV, ex_if, ex_chain, ex_nil, ex_cons, ex_tup, ex_lst, ex_call, ex_callP, ex_cb, ex_bm, ex_rep, ex_sl, ex_noPart, ex_part, ex_yes, it_items, it_rng1, it_rng2, tg_name, tg_sub, tg_tup, tg_cons, tg_nil, gs_0, gs_s, ss_0, ss_s, op_ii, op_ss, op_tt, op_mm, op_sb, op_ng, op_iNf, op_iNt, op_lle, op_ixT, op_ixR, op_ixL, op_putE, op_appE, it_tupE, it_rolE, it_refE, lstOf_l, exL, asS_some, asI_int, asB_bl, asL_some, asN_some, ite3_t, ite3_f, bl_1, bl_lenT, bl_lenR, bl_lenL, bl_lenS, bl_tuple, bl_list, bl_abs, bl_intI, bl_intB, bl_max, bl_min, op_eqSf, op_eqSt, op_eqIf, op_eqIt, op_eqTf, op_eqTt, op_eqRf, op_eqRt, op_eqNf, op_eqNt, eqD_int, eqD_nil, pl_int, pl_nil, pl_non, pl_rnil, pl_bl, sl_tupE, sl_rolE, keep_ref, keep_tup, keep_rol, tp_int, tp_tup, tp_rol, tp_str, tp_bl, tp_non, tp_ref, oFd, oMd, oPw, oShl, oLt, oLe, oGt, oGe, op_in, op_cp, wipe_nil, wipe_cons, mset_same, true_and, and_true, isN_int, ex_lstF, ex_repF, ex_lgF1, ex_lgF2, ex_tupRg1, ex_tupRg2, ex_frz, ex_slF, ex_slM, sl_tupF, sl_rolF, op_iiF, op_ssF, op_ttF, op_rrF, op_rrM, op_mmF, op_repF, li_rol, li_ref, bl_listF, bl_allF, bl_anyF, asT_some, asJ_some, op_eqBf, op_eqBt, isN_non, Bool.not_true, Bool.not_false, rep2, ex_lcF]
    refine lc_pv (fun j acc M' => acc = [] ∧ M' = M) ?_ ?_ ⟨rfl, rfl⟩
    · rintro j d acc M' hd ⟨rfl, e0⟩ Y hY
      subst e0
      obtain ⟨T, hT, rfl⟩ : ∃ T : Tab, TabL T ∧ d = .tup [tabD T, .str (writT T)] := by
        have h := List.mem_of_getElem? hd
        rcases List.mem_cons.mp h with h | h
        · exact ⟨[[some 0]], known_ok (by decide) (by decide), by rw [h, kn1]; rfl⟩
        rcases List.mem_cons.mp h with h | h
        · exact ⟨[[none]], known_ok (by decide) (by decide), by rw [h, kn2]; rfl⟩
        rcases List.mem_cons.mp h with h | h
        · exact ⟨[[some (-3), none], [none, some 12]], known_ok (by decide) (by decide), by rw [h, kn3]; rfl⟩
        rcases List.mem_cons.mp h with h | h
        · exact ⟨[], known_ok (by decide) (by decide), by rw [h, kn4]; rfl⟩
        · cases h
      refine ⟨True.intro, ?_⟩
      simp only [ex_c, ex_var, ex_op, ex_un, ex_b, ex_and, ex_or, ex_not, ex_andV, ex_orV, ex_notV, ex_if, ex_chain, ex_nil, ex_cons, ex_tup, ex_lst, ex_call, ex_callP, ex_cb, ex_bm, ex_rep, ex_sl, ex_noPart, ex_part, ex_yes, it_items, it_rng1, it_rng2, tg_name, tg_sub, tg_tup, tg_cons, tg_nil, gs_0, gs_s, ss_0, ss_s, op_ii, op_ss, op_tt, op_mm, op_sb, op_ng, op_iNf, op_iNt, op_lle, op_ixT, op_ixR, op_ixL, op_putE, op_appE, it_tupE, it_rolE, it_refE, lstOf_l, exL, asS_some, asI_int, asB_bl, asL_some, asN_some, ite3_t, ite3_f, bl_1, bl_lenT, bl_lenR, bl_lenL, bl_lenS, bl_tuple, bl_list, bl_abs, bl_intI, bl_intB, bl_max, bl_min, op_eqSf, op_eqSt, op_eqIf, op_eqIt, op_eqTf, op_eqTt, op_eqRf, op_eqRt, op_eqNf, op_eqNt, eqD_int, eqD_nil, pl_int, pl_nil, pl_non, pl_rnil, pl_bl, sl_tupE, sl_rolE, keep_ref, keep_tup, keep_rol, tp_int, tp_tup, tp_rol, tp_str, tp_bl, tp_non, tp_ref, oFd, oMd, oPw, oShl, oLt, oLe, oGt, oGe, op_in, op_cp, wipe_nil, wipe_cons, mset_same, true_and, and_true, isN_int, ex_lstF, ex_repF, ex_lgF1, ex_lgF2, ex_tupRg1, ex_tupRg2, ex_frz, ex_slF, ex_slM, sl_tupF, sl_rolF, op_iiF, op_ssF, op_ttF, op_rrF, op_rrM, op_mmF, op_repF, li_rol, li_ref, bl_listF, bl_allF, bl_anyF, asT_some, asJ_some, op_eqBf, op_eqBt, isN_non, Bool.not_true, Bool.not_false, rep2, List.length_cons, List.length_nil]
      refine k7 T _ _ hT fun _ => ?_
      (try simp only [ex_c, ex_var, ex_op, ex_un, ex_b, ex_and, ex_or, ex_not, ex_andV, ex_orV, ex_notV, ex_if, ex_chain, ex_nil, ex_cons, ex_tup, ex_lst, ex_call, ex_callP, ex_cb, ex_bm, ex_rep, ex_sl, ex_noPart, ex_part, ex_yes, it_items, it_rng1, it_rng2, tg_name, tg_sub, tg_tup, tg_cons, tg_nil, gs_0, gs_s, ss_0, ss_s, op_ii, op_ss, op_tt, op_mm, op_sb, op_ng, op_iNf, op_iNt, op_lle, op_ixT, op_ixR, op_ixL, op_putE, op_appE, it_tupE, it_rolE, it_refE, lstOf_l, exL, asS_some, asI_int, asB_bl, asL_some, asN_some, ite3_t, ite3_f, bl_1, bl_lenT, bl_lenR, bl_lenL, bl_lenS, bl_tuple, bl_list, bl_abs, bl_intI, bl_intB, bl_max, bl_min, op_eqSf, op_eqSt, op_eqIf, op_eqIt, op_eqTf, op_eqTt, op_eqRf, op_eqRt, op_eqNf, op_eqNt, eqD_int, eqD_nil, pl_int, pl_nil, pl_non, pl_rnil, pl_bl, sl_tupE, sl_rolE, keep_ref, keep_tup, keep_rol, tp_int, tp_tup, tp_rol, tp_str, tp_bl, tp_non, tp_ref, oFd, oMd, oPw, oShl, oLt, oLe, oGt, oGe, op_in, op_cp, wipe_nil, wipe_cons, mset_same, true_and, and_true, isN_int, ex_lstF, ex_repF, ex_lgF1, ex_lgF2, ex_tupRg1, ex_tupRg2, ex_frz, ex_slF, ex_slM, sl_tupF, sl_rolF, op_iiF, op_ssF, op_ttF, op_rrF, op_rrM, op_mmF, op_repF, li_rol, li_ref, bl_listF, bl_allF, bl_anyF, asT_some, asJ_some, op_eqBf, op_eqBt, isN_non, Bool.not_true, Bool.not_false, rep2])
      refine k6 _ _ _ (.inl ⟨_, rfl⟩) fun _ => ?_
      (try simp only [ex_c, ex_var, ex_op, ex_un, ex_b, ex_and, ex_or, ex_not, ex_andV, ex_orV, ex_notV, ex_if, ex_chain, ex_nil, ex_cons, ex_tup, ex_lst, ex_call, ex_callP, ex_cb, ex_bm, ex_rep, ex_sl, ex_noPart, ex_part, ex_yes, it_items, it_rng1, it_rng2, tg_name, tg_sub, tg_tup, tg_cons, tg_nil, gs_0, gs_s, ss_0, ss_s, op_ii, op_ss, op_tt, op_mm, op_sb, op_ng, op_iNf, op_iNt, op_lle, op_ixT, op_ixR, op_ixL, op_putE, op_appE, it_tupE, it_rolE, it_refE, lstOf_l, exL, asS_some, asI_int, asB_bl, asL_some, asN_some, ite3_t, ite3_f, bl_1, bl_lenT, bl_lenR, bl_lenL, bl_lenS, bl_tuple, bl_list, bl_abs, bl_intI, bl_intB, bl_max, bl_min, op_eqSf, op_eqSt, op_eqIf, op_eqIt, op_eqTf, op_eqTt, op_eqRf, op_eqRt, op_eqNf, op_eqNt, eqD_int, eqD_nil, pl_int, pl_nil, pl_non, pl_rnil, pl_bl, sl_tupE, sl_rolE, keep_ref, keep_tup, keep_rol, tp_int, tp_tup, tp_rol, tp_str, tp_bl, tp_non, tp_ref, oFd, oMd, oPw, oShl, oLt, oLe, oGt, oGe, op_in, op_cp, wipe_nil, wipe_cons, mset_same, true_and, and_true, isN_int, ex_lstF, ex_repF, ex_lgF1, ex_lgF2, ex_tupRg1, ex_tupRg2, ex_frz, ex_slF, ex_slM, sl_tupF, sl_rolF, op_iiF, op_ssF, op_ttF, op_rrF, op_rrM, op_mmF, op_repF, li_rol, li_ref, bl_listF, bl_allF, bl_anyF, asT_some, asJ_some, op_eqBf, op_eqBt, isN_non, Bool.not_true, Bool.not_false, rep2])
      exact hY _ _ ⟨rfl, rfl⟩
    · rintro acc M' ⟨rfl, e0⟩
      refine ⟨True.intro, ?_⟩
      (try simp only [ex_c, ex_var, ex_op, ex_un, ex_b, ex_and, ex_or, ex_not, ex_andV, ex_orV, ex_notV, ex_if, ex_chain, ex_nil, ex_cons, ex_tup, ex_lst, ex_call, ex_callP, ex_cb, ex_bm, ex_rep, ex_sl, ex_noPart, ex_part, ex_yes, it_items, it_rng1, it_rng2, tg_name, tg_sub, tg_tup, tg_cons, tg_nil, gs_0, gs_s, ss_0, ss_s, op_ii, op_ss, op_tt, op_mm, op_sb, op_ng, op_iNf, op_iNt, op_lle, op_ixT, op_ixR, op_ixL, op_putE, op_appE, it_tupE, it_rolE, it_refE, lstOf_l, exL, asS_some, asI_int, asB_bl, asL_some, asN_some, ite3_t, ite3_f, bl_1, bl_lenT, bl_lenR, bl_lenL, bl_lenS, bl_tuple, bl_list, bl_abs, bl_intI, bl_intB, bl_max, bl_min, op_eqSf, op_eqSt, op_eqIf, op_eqIt, op_eqTf, op_eqTt, op_eqRf, op_eqRt, op_eqNf, op_eqNt, eqD_int, eqD_nil, pl_int, pl_nil, pl_non, pl_rnil, pl_bl, sl_tupE, sl_rolE, keep_ref, keep_tup, keep_rol, tp_int, tp_tup, tp_rol, tp_str, tp_bl, tp_non, tp_ref, oFd, oMd, oPw, oShl, oLt, oLe, oGt, oGe, op_in, op_cp, wipe_nil, wipe_cons, mset_same, true_and, and_true, isN_int, ex_lstF, ex_repF, ex_lgF1, ex_lgF2, ex_tupRg1, ex_tupRg2, ex_frz, ex_slF, ex_slM, sl_tupF, sl_rolF, op_iiF, op_ssF, op_ttF, op_rrF, op_rrM, op_mmF, op_repF, li_rol, li_ref, bl_listF, bl_allF, bl_anyF, asT_some, asJ_some, op_eqBf, op_eqBt, isN_non, Bool.not_true, Bool.not_false, rep2])
      simp only [ex_c, ex_var, ex_op, ex_un, ex_b, ex_and, ex_or, ex_not, ex_andV, ex_orV, ex_notV, ex_if, ex_chain, ex_nil, ex_cons, ex_tup, ex_lst, ex_call, ex_callP, ex_cb, ex_bm, ex_rep, ex_sl, ex_noPart, ex_part, ex_yes, it_items, it_rng1, it_rng2, tg_name, tg_sub, tg_tup, tg_cons, tg_nil, gs_0, gs_s, ss_0, ss_s, op_ii, op_ss, op_tt, op_mm, op_sb, op_ng, op_iNf, op_iNt, op_lle, op_ixT, op_ixR, op_ixL, op_putE, op_appE, it_tupE, it_rolE, it_refE, lstOf_l, exL, asS_some, asI_int, asB_bl, asL_some, asN_some, ite3_t, ite3_f, bl_1, bl_lenT, bl_lenR, bl_lenL, bl_lenS, bl_tuple, bl_list, bl_abs, bl_intI, bl_intB, bl_max, bl_min, op_eqSf, op_eqSt, op_eqIf, op_eqIt, op_eqTf, op_eqTt, op_eqRf, op_eqRt, op_eqNf, op_eqNt, eqD_int, eqD_nil, pl_int, pl_nil, pl_non, pl_rnil, pl_bl, sl_tupE, sl_rolE, keep_ref, keep_tup, keep_rol, tp_int, tp_tup, tp_rol, tp_str, tp_bl, tp_non, tp_ref, oFd, oMd, oPw, oShl, oLt, oLe, oGt, oGe, op_in, op_cp, wipe_nil, wipe_cons, mset_same, true_and, and_true, isN_int, ex_lstF, ex_repF, ex_lgF1, ex_lgF2, ex_tupRg1, ex_tupRg2, ex_frz, ex_slF, ex_slM, sl_tupF, sl_rolF, op_iiF, op_ssF, op_ttF, op_rrF, op_rrM, op_mmF, op_repF, li_rol, li_ref, bl_listF, bl_allF, bl_anyF, asT_some, asJ_some, op_eqBf, op_eqBt, isN_non, Bool.not_true, Bool.not_false, rep2, op_eqLf, tp_rol, eqD_rnil, pl_rnil]
      exact ⟨Nat.zero_le _, rfl⟩
theorem said : ∀ ns : List Int, ns.length ≤ 63 → sp_law [.rol (ns.map D.int)] M0 (fun v _ => v = .bl true) (fun _ _ _ => False) := fun ns _ =>
  m_law m_deck m_draw m_any m_writ m_read m_same m_text ns
end W
set_option Elab.async false
set_option linter.all false
set_option maxRecDepth 100000
set_option maxHeartbeats 4000000
namespace W
open PySem PySem.Spec PyProof.Rows L2 L3
theorem all_mk {l : PySem.W.OpenLaw} {w : World} {K : PySem.W.Frag} {h : Heap} {mg : PySem.Str → Option Value} {fa f1 f2 f3 f4 f5 f6 f7 f8 f9 f10 f11 f12 : Addr} (X : K.In h) (G : h.Ns mainGlobals mg) (hfa : mg "law" = some (.ref fa))
    {od1 an1 od2 an2 od3 an3 od4 an4 od5 an5 od6 an6 od7 an7 od8 an8 od9 an9 od10 an10 od11 an11 od12 an12 : Option Addr} {sl1 sl2 sl3 sl4 sl5 sl6 sl7 sl8 sl9 sl10 sl11 sl12 : Array (Option Value)} {oc1 kV1 dc1 pm1 cd1 ct1 oc2 kV2 dc2 pm2 cd2 ct2 oc3 kV3 dc3 pm3 cd3 ct3 oc4 kV4 dc4 pm4 cd4 ct4 oc5 kV5 dc5 pm5 cd5 ct5 oc6 kV6 dc6 pm6 cd6 ct6 oc7 kV7 dc7 pm7 cd7 ct7 oc8 kV8 dc8 pm8 cd8 ct8 oc9 kV9 dc9 pm9 cd9 ct9 oc10 kV10 dc10 pm10 cd10 ct10 oc11 kV11 dc11 pm11 cd11 ct11 oc12 kV12 dc12 pm12 cd12 ct12 : Value}
    (a1 : PySem.W.nsIn K mainGlobals ("table_text" : PySem.Str) = some (some (.ref f1))) (l1 : K.lookup f1 = some ⟨oc1, od1, .func (PySem.W.fnOf ("table_text" : PySem.Str) ("table_text" : PySem.Str) (defArgs s_table_text) (defBody s_table_text) (defScope s_table_text) .none kV1 dc1 pm1 an1 cd1 ct1), sl1⟩) (c1 : PySem.W.codeIn K cd1 ("table_text" : PySem.Str) = true) (k1 : PySem.W.keepIn K (.ref f1) = true)
    (a2 : PySem.W.nsIn K mainGlobals ("gone_over" : PySem.Str) = some (some (.ref f2))) (l2 : K.lookup f2 = some ⟨oc2, od2, .func (PySem.W.fnOf ("gone_over" : PySem.Str) ("gone_over" : PySem.Str) (defArgs s_gone_over) (defBody s_gone_over) (defScope s_gone_over) .none kV2 dc2 pm2 an2 cd2 ct2), sl2⟩) (c2 : PySem.W.codeIn K cd2 ("gone_over" : PySem.Str) = true) (k2 : PySem.W.keepIn K (.ref f2) = true)
    (a3 : PySem.W.nsIn K mainGlobals ("end_behind" : PySem.Str) = some (some (.ref f3))) (l3 : K.lookup f3 = some ⟨oc3, od3, .func (PySem.W.fnOf ("end_behind" : PySem.Str) ("end_behind" : PySem.Str) (defArgs s_end_behind) (defBody s_end_behind) (defScope s_end_behind) .none kV3 dc3 pm3 an3 cd3 ct3), sl3⟩) (c3 : PySem.W.codeIn K cd3 ("end_behind" : PySem.Str) = true) (k3 : PySem.W.keepIn K (.ref f3) = true)
    (a4 : PySem.W.nsIn K mainGlobals ("read_table" : PySem.Str) = some (some (.ref f4))) (l4 : K.lookup f4 = some ⟨oc4, od4, .func (PySem.W.fnOf ("read_table" : PySem.Str) ("read_table" : PySem.Str) (defArgs s_read_table) (defBody s_read_table) (defScope s_read_table) .none kV4 dc4 pm4 an4 cd4 ct4), sl4⟩) (c4 : PySem.W.codeIn K cd4 ("read_table" : PySem.Str) = true) (k4 : PySem.W.keepIn K (.ref f4) = true)
    (a5 : PySem.W.nsIn K mainGlobals ("_law_deck" : PySem.Str) = some (some (.ref f5))) (l5 : K.lookup f5 = some ⟨oc5, od5, .func (PySem.W.fnOf ("_law_deck" : PySem.Str) ("_law_deck" : PySem.Str) (defArgs s__law_deck) (defBody s__law_deck) (defScope s__law_deck) .none kV5 dc5 pm5 an5 cd5 ct5), sl5⟩) (c5 : PySem.W.codeIn K cd5 ("_law_deck" : PySem.Str) = true) (k5 : PySem.W.keepIn K (.ref f5) = true)
    (a6 : PySem.W.nsIn K mainGlobals ("_law_mixed" : PySem.Str) = some (some (.ref f6))) (l6 : K.lookup f6 = some ⟨oc6, od6, .func (PySem.W.fnOf ("_law_mixed" : PySem.Str) ("_law_mixed" : PySem.Str) (defArgs s__law_mixed) (defBody s__law_mixed) (defScope s__law_mixed) .none kV6 dc6 pm6 an6 cd6 ct6), sl6⟩) (c6 : PySem.W.codeIn K cd6 ("_law_mixed" : PySem.Str) = true) (k6 : PySem.W.keepIn K (.ref f6) = true)
    (a7 : PySem.W.nsIn K mainGlobals ("_law_draw" : PySem.Str) = some (some (.ref f7))) (l7 : K.lookup f7 = some ⟨oc7, od7, .func (PySem.W.fnOf ("_law_draw" : PySem.Str) ("_law_draw" : PySem.Str) (defArgs s__law_draw) (defBody s__law_draw) (defScope s__law_draw) .none kV7 dc7 pm7 an7 cd7 ct7), sl7⟩) (c7 : PySem.W.codeIn K cd7 ("_law_draw" : PySem.Str) = true) (k7 : PySem.W.keepIn K (.ref f7) = true)
    (a8 : PySem.W.nsIn K mainGlobals ("_law_same" : PySem.Str) = some (some (.ref f8))) (l8 : K.lookup f8 = some ⟨oc8, od8, .func (PySem.W.fnOf ("_law_same" : PySem.Str) ("_law_same" : PySem.Str) (defArgs s__law_same) (defBody s__law_same) (defScope s__law_same) .none kV8 dc8 pm8 an8 cd8 ct8), sl8⟩) (c8 : PySem.W.codeIn K cd8 ("_law_same" : PySem.Str) = true) (k8 : PySem.W.keepIn K (.ref f8) = true)
    (a9 : PySem.W.nsIn K mainGlobals ("_law_end" : PySem.Str) = some (some (.ref f9))) (l9 : K.lookup f9 = some ⟨oc9, od9, .func (PySem.W.fnOf ("_law_end" : PySem.Str) ("_law_end" : PySem.Str) (defArgs s__law_end) (defBody s__law_end) (defScope s__law_end) .none kV9 dc9 pm9 an9 cd9 ct9), sl9⟩) (c9 : PySem.W.codeIn K cd9 ("_law_end" : PySem.Str) = true) (k9 : PySem.W.keepIn K (.ref f9) = true)
    (a10 : PySem.W.nsIn K mainGlobals ("_law_any_table" : PySem.Str) = some (some (.ref f10))) (l10 : K.lookup f10 = some ⟨oc10, od10, .func (PySem.W.fnOf ("_law_any_table" : PySem.Str) ("_law_any_table" : PySem.Str) (defArgs s__law_any_table) (defBody s__law_any_table) (defScope s__law_any_table) .none kV10 dc10 pm10 an10 cd10 ct10), sl10⟩) (c10 : PySem.W.codeIn K cd10 ("_law_any_table" : PySem.Str) = true) (k10 : PySem.W.keepIn K (.ref f10) = true)
    (a11 : PySem.W.nsIn K mainGlobals ("_law_written" : PySem.Str) = some (some (.ref f11))) (l11 : K.lookup f11 = some ⟨oc11, od11, .func (PySem.W.fnOf ("_law_written" : PySem.Str) ("_law_written" : PySem.Str) (defArgs s__law_written) (defBody s__law_written) (defScope s__law_written) .none kV11 dc11 pm11 an11 cd11 ct11), sl11⟩) (c11 : PySem.W.codeIn K cd11 ("_law_written" : PySem.Str) = true) (k11 : PySem.W.keepIn K (.ref f11) = true)
    (a12 : PySem.W.nsIn K mainGlobals ("law" : PySem.Str) = some (some (.ref f12))) (l12 : K.lookup f12 = some ⟨oc12, od12, .func (PySem.W.fnOf ("law" : PySem.Str) ("law" : PySem.Str) (defArgs s_law) (defBody s_law) (defScope s_law) .none kV12 dc12 pm12 an12 cd12 ct12), sl12⟩) (c12 : PySem.W.codeIn K cd12 ("law" : PySem.Str) = true) (k12 : PySem.W.keepIn K (.ref f12) = true)
    (z0 : PySem.W.nsIn K mainGlobals ("abs" : PySem.Str) = some none)
    (z1 : PySem.W.nsIn K mainGlobals ("bool" : PySem.Str) = some none)
    (z2 : PySem.W.nsIn K mainGlobals ("int" : PySem.Str) = some none)
    (z3 : PySem.W.nsIn K mainGlobals ("isinstance" : PySem.Str) = some none)
    (z4 : PySem.W.nsIn K mainGlobals ("len" : PySem.Str) = some none)
    (z5 : PySem.W.nsIn K mainGlobals ("list" : PySem.Str) = some none)
    (z6 : PySem.W.nsIn K mainGlobals ("range" : PySem.Str) = some none)
    (z7 : PySem.W.nsIn K mainGlobals ("str" : PySem.Str) = some none)
    (z8 : PySem.W.nsIn K mainGlobals ("tuple" : PySem.Str) = some none)
    (dg : PySem.W.nsIn K cStatics ("sys.int_max_str_digits" : PySem.Str) = some none)
    {tNOBODY_0 : Tok}
    (a_NOBODY : PySem.W.nsIn K mainGlobals ("NOBODY" : PySem.Str) = some (some (.str ("none" : PySem.Str) tNOBODY_0)))
    {tDIGITS_0 : Tok}
    (a_DIGITS : PySem.W.nsIn K mainGlobals ("DIGITS" : PySem.Str) = some (some (.str ("0123456789" : PySem.Str) tDIGITS_0)))
    {C_TurnError : Addr}
    (ac_TurnError : PySem.W.nsIn K mainGlobals ("TurnError" : PySem.Str) = some (some (.ref C_TurnError)))
    (xb_TurnError : PySem.W.subIn K (.ref C_TurnError) (.type "BaseException") = some true)
    (xt_TurnError : PySem.W.typeIn K (.ref C_TurnError) = some (.type "type"))
    (xd_TurnError : PySem.W.hasDictIn K C_TurnError = true)
    {C_NoText : Addr}
    (ac_NoText : PySem.W.nsIn K mainGlobals ("NoText" : PySem.Str) = some (some (.ref C_NoText)))
    (xb_NoText : PySem.W.subIn K (.ref C_NoText) (.type "BaseException") = some true)
    (xt_NoText : PySem.W.typeIn K (.ref C_NoText) = some (.type "type"))
    (xd_NoText : PySem.W.hasDictIn K C_NoText = true)
    {nm_NoText q_NoText : Str} {N_NoText : Addr} {bs_NoText : List Value} {sn_NoText : List Str} {sub_NoText : List Value} {ab_NoText : Bool} {col_NoText : Option Bool} {dd_NoText : Option Addr} {m0_NoText m1_NoText m2_NoText m3_NoText m5_NoText : Option Value}
    (xl_NoText : K.lookup C_NoText = some (excClassObj nm_NoText q_NoText C_NoText N_NoText bs_NoText [.ref C_TurnError, .type "ValueError", .type "Exception", .type "BaseException", .type "object"] true sn_NoText sub_NoText ab_NoText col_NoText dd_NoText m0_NoText m1_NoText m2_NoText m3_NoText m5_NoText "ValueError.__new__"))
    (xs_NoText : PySem.W.findIn K (.ref C_NoText) "__setattr__" = some (some (.builtin "object.__setattr__")))
    (xk_NoText : PySem.W.keepIn K (.ref C_NoText) = true)
    (xn_NoText_0 : PySem.W.findIn K (.ref C_NoText) ("at" : PySem.Str) = some none)
    {fI_NoText : Addr} {io_NoText ia_NoText : Option Addr} {is_NoText : Array (Option Value)} {ic_NoText iv_NoText id_NoText ip_NoText ie_NoText it_NoText : Value}
    (xi_NoText : PySem.W.findIn K (.ref C_NoText) "__init__" = some (some (.ref fI_NoText)))
    (xy_NoText : PySem.W.typeIn K (.ref fI_NoText) = some (.type "function"))
    (xf_NoText : K.lookup fI_NoText = some ⟨ic_NoText, io_NoText, .func (PySem.W.fnOf "__init__" "NoText.__init__" (defArgs s_NoText_init) (defBody s_NoText_init) (defScope s_NoText_init) .none iv_NoText id_NoText ip_NoText ia_NoText ie_NoText it_NoText), is_NoText⟩)
    (xc_NoText : PySem.W.codeIn K ie_NoText "NoText.__init__" = true)
    (xg_NoText : PySem.W.keepIn K (.ref fI_NoText) = true)
    : ∃ fd : FuncData, (∀ (s : Shared) (v : Value), BindsTo s fd ⟨[v], []⟩ [(("_law_script" : PySem.Str), v)]) ∧ ∀ base : Heap, K.In base → base.Ns mainGlobals mg → FnG l.prog w K mg base (L2.CX l.prog w) 9 fa fd [("_law_script" : PySem.Str)] (liftSp K sp_law) := by
  have e := hfa.symm.trans (PySem.W.mg_of X G a12)
  cases e
  have F1 := fun_mk (st := s_table_text) l1 c1 k1
  have b1 := F1.binds (ps := [("table" : PySem.Str)]) fun _ _ _ _ _ _ us hl => match us, hl with | [_], _ => rfl
  have F2 := fun_mk (st := s_gone_over) l2 c2 k2
  have b2 := F2.binds (ps := [("text" : PySem.Str), ("at" : PySem.Str), ("signs" : PySem.Str)]) fun _ _ _ _ _ _ us hl => match us, hl with | [_, _, _], _ => rfl
  have F3 := fun_mk (st := s_end_behind) l3 c3 k3
  have b3 := F3.binds (ps := [("text" : PySem.Str), ("at" : PySem.Str)]) fun _ _ _ _ _ _ us hl => match us, hl with | [_, _], _ => rfl
  have F4 := fun_mk (st := s_read_table) l4 c4 k4
  have b4 := F4.binds (ps := [("text" : PySem.Str), ("many" : PySem.Str)]) fun _ _ _ _ _ _ us hl => match us, hl with | [_, _], _ => rfl
  have F5 := fun_mk (st := s__law_deck) l5 c5 k5
  have b5 := F5.binds (ps := [("_law_script" : PySem.Str)]) fun _ _ _ _ _ _ us hl => match us, hl with | [_], _ => rfl
  have F6 := fun_mk (st := s__law_mixed) l6 c6 k6
  have b6 := F6.binds (ps := [("_law_cell" : PySem.Str), ("_law_turn" : PySem.Str)]) fun _ _ _ _ _ _ us hl => match us, hl with | [_, _], _ => rfl
  have F7 := fun_mk (st := s__law_draw) l7 c7 k7
  have b7 := F7.binds (ps := [("_law_deck_here" : PySem.Str), ("_law_points" : PySem.Str)]) fun _ _ _ _ _ _ us hl => match us, hl with | [_, _], _ => rfl
  have F8 := fun_mk (st := s__law_same) l8 c8 k8
  have b8 := F8.binds (ps := [("_law_found" : PySem.Str), ("_law_due" : PySem.Str)]) fun _ _ _ _ _ _ us hl => match us, hl with | [_, _], _ => rfl
  have F9 := fun_mk (st := s__law_end) l9 c9 k9
  have b9 := F9.binds (ps := [("_law_deck_here" : PySem.Str)]) fun _ _ _ _ _ _ us hl => match us, hl with | [_], _ => rfl
  have F10 := fun_mk (st := s__law_any_table) l10 c10 k10
  have b10 := F10.binds (ps := [("_law_deck_here" : PySem.Str), ("_law_points" : PySem.Str)]) fun _ _ _ _ _ _ us hl => match us, hl with | [_, _], _ => rfl
  have F11 := fun_mk (st := s__law_written) l11 c11 k11
  have b11 := F11.binds (ps := [("_law_rows_now" : PySem.Str)]) fun _ _ _ _ _ _ us hl => match us, hl with | [_], _ => rfl
  have F12 := fun_mk (st := s_law) l12 c12 k12
  have b12 := F12.binds (ps := [("_law_script" : PySem.Str)]) fun _ _ _ _ _ _ us hl => match us, hl with | [_], _ => rfl
  have zz_abs := PySem.W.mg_none_of X G z0
  have zz_bool := PySem.W.mg_none_of X G z1
  have zz_int := PySem.W.mg_none_of X G z2
  have zz_isinstance := PySem.W.mg_none_of X G z3
  have zz_len := PySem.W.mg_none_of X G z4
  have zz_list := PySem.W.mg_none_of X G z5
  have zz_range := PySem.W.mg_none_of X G z6
  have zz_str := PySem.W.mg_none_of X G z7
  have zz_tuple := PySem.W.mg_none_of X G z8
  have C_NOBODY : GC mg K ("NOBODY" : PySem.Str) v_NOBODY := ⟨_, _, PySem.W.mg_of X G a_NOBODY, (show L2.RelV (.str ("none" : PySem.Str)) _ from ⟨_, rfl⟩), fun H => (.str _)⟩
  have C_DIGITS : GC mg K ("DIGITS" : PySem.Str) v_DIGITS := ⟨_, _, PySem.W.mg_of X G a_DIGITS, (show L2.RelV (.str ("0123456789" : PySem.Str)) _ from ⟨_, rfl⟩), fun H => (.str _)⟩
  have FI_NoText := fun_mk (st := s_NoText_init) xf_NoText xc_NoText xg_NoText
  have X_NoText := fun base : Heap => mk_NoText (P := l.prog) (w := w) (base := base) ac_NoText (PySem.W.mg_of X G ac_NoText) (K := K) ⟨⟨nm_NoText, q_NoText, N_NoText, bs_NoText, _, sn_NoText, sub_NoText, ab_NoText, col_NoText, dd_NoText, m0_NoText, m1_NoText, m2_NoText, m3_NoText, m5_NoText, xl_NoText, by first | rfl | decide +kernel⟩, xs_NoText, xb_NoText, xt_NoText, xk_NoText⟩ xn_NoText_0 xi_NoText xy_NoText FI_NoText (FI_NoText.binds (ps := [("self" : PySem.Str), ("at" : PySem.Str)]) fun _ _ _ _ _ _ us hl => match us, hl with | [_, _], _ => rfl)
  refine ⟨PySem.W.fnOf "law" "law" (defArgs s_law) (defBody s_law) (defScope s_law) .none kV12 dc12 pm12 an12 cd12 ct12, fun s v => .of_eq rfl, fun base _ _ => ?_⟩
  have G_table_text := ok_table_text (P := l.prog) (w := w) (mg := mg) (base := base) F1 zz_str dg        C_NOBODY 
  have D_table_text : Def3 l.prog w K mg base (L2.CX l.prog w) 1 ("table_text" : PySem.Str) sp_table_text := ⟨_, _, _, PySem.W.mg_of X G a1, F1.kp, b1, G_table_text⟩
  have KB_table_text_0 : BindK K _ [("table" : PySem.Str)] [("table" : PySem.Str)] false := bindK_of F1 fun _ _ _ _ _ _ ws hl => match ws, hl with | [_], _ => rfl
  have K_table_text_0 : DefK l.prog w K mg base (L2.CX l.prog w) 1 ("table_text" : PySem.Str) [("table" : PySem.Str)] false sp_table_text := ⟨_, _, [("table" : PySem.Str)], PySem.W.mg_of X G a1, F1.kp, rfl, KB_table_text_0, G_table_text⟩
  have D_gone_over := ok_gone_over (P := l.prog) (w := w) (base := base) (PySem.W.mg_of X G a2) F2 b2 zz_len (X_NoText base)        
  have D_end_behind := ok_end_behind (P := l.prog) (w := w) (base := base) (PySem.W.mg_of X G a3) F3 b3 zz_len (X_NoText base)       C_DIGITS 
  have G_read_table := ok_read_table (P := l.prog) (w := w) (mg := mg) (base := base) F4 zz_int zz_len zz_range zz_tuple dg (X_NoText base)       C_NOBODY D_gone_over D_end_behind
  have D_read_table : Def3 l.prog w K mg base (L2.CX l.prog w) 4 ("read_table" : PySem.Str) sp_read_table := ⟨_, _, _, PySem.W.mg_of X G a4, F4.kp, b4, G_read_table⟩
  have KB_read_table_0 : BindK K _ [("text" : PySem.Str), ("many" : PySem.Str)] [("many" : PySem.Str), ("text" : PySem.Str)] true := bindK_of F4 fun _ _ _ _ _ _ ws hl => match ws, hl with | [_, _], _ => rfl
  have K_read_table_0 : DefK l.prog w K mg base (L2.CX l.prog w) 4 ("read_table" : PySem.Str) [("many" : PySem.Str), ("text" : PySem.Str)] true sp_read_table := ⟨_, _, [("text" : PySem.Str), ("many" : PySem.Str)], PySem.W.mg_of X G a4, F4.kp, rfl, KB_read_table_0, G_read_table⟩
  have D__law_deck := ok__law_deck (P := l.prog) (w := w) (base := base) (PySem.W.mg_of X G a5) F5 b5 zz_list         
  have D__law_mixed := ok__law_mixed (P := l.prog) (w := w) (base := base) (PySem.W.mg_of X G a6) F6 b6          
  have D__law_draw := ok__law_draw (P := l.prog) (w := w) (base := base) (PySem.W.mg_of X G a7) F7 b7 zz_abs zz_len         D__law_mixed
  have D__law_same_0 : Def3 l.prog w K mg base (L2.CX l.prog w) 2 ("_law_same" : PySem.Str) (sn__law_same 0) := def_no (k := 1) (PySem.W.mg_of X G a8) F8 b8 sc__law_same
  have D__law_same_1 := ok__law_same (n := 0) (P := l.prog) (w := w) (base := base) (PySem.W.mg_of X G a8) F8 b8 zz_bool zz_int zz_isinstance zz_len zz_list zz_range zz_str zz_tuple   D__law_same_0
  have D__law_same_2 := ok__law_same (n := 1) (P := l.prog) (w := w) (base := base) (PySem.W.mg_of X G a8) F8 b8 zz_bool zz_int zz_isinstance zz_len zz_list zz_range zz_str zz_tuple   D__law_same_1
  have D__law_same_3 := ok__law_same (n := 2) (P := l.prog) (w := w) (base := base) (PySem.W.mg_of X G a8) F8 b8 zz_bool zz_int zz_isinstance zz_len zz_list zz_range zz_str zz_tuple   D__law_same_2
  have D__law_same_4 := ok__law_same (n := 3) (P := l.prog) (w := w) (base := base) (PySem.W.mg_of X G a8) F8 b8 zz_bool zz_int zz_isinstance zz_len zz_list zz_range zz_str zz_tuple   D__law_same_3
  have D__law_same_5 := ok__law_same (n := 4) (P := l.prog) (w := w) (base := base) (PySem.W.mg_of X G a8) F8 b8 zz_bool zz_int zz_isinstance zz_len zz_list zz_range zz_str zz_tuple   D__law_same_4
  have D__law_same_6 := ok__law_same (n := 5) (P := l.prog) (w := w) (base := base) (PySem.W.mg_of X G a8) F8 b8 zz_bool zz_int zz_isinstance zz_len zz_list zz_range zz_str zz_tuple   D__law_same_5
  have D__law_same : Def3 l.prog w K mg base (L2.CX l.prog w) 8 ("_law_same" : PySem.Str) sp__law_same := D__law_same_6
  have D__law_end := ok__law_end (P := l.prog) (w := w) (base := base) (PySem.W.mg_of X G a9) F9 b9          D__law_draw
  have D__law_any_table := ok__law_any_table (P := l.prog) (w := w) (base := base) (PySem.W.mg_of X G a10) F10 b10 zz_range zz_tuple         D__law_draw D__law_end
  have D__law_written := ok__law_written (P := l.prog) (w := w) (base := base) (PySem.W.mg_of X G a11) F11 b11 zz_str dg         
  exact ok_law (P := l.prog) (w := w) (base := base) F12 zz_int zz_range dg         D__law_deck D__law_draw D__law_any_table D__law_written D_read_table D__law_same D_table_text K_table_text_0 K_read_table_0
end W
open PySem PySem.W PyProof.Rows
set_option maxRecDepth 100000 in
set_option maxHeartbeats 0 in
theorem PySem.Challenge.cw_everturns_k70_tables_written_holds : PySem.Challenge.rw_everturns_k70_tables_written.Holds := by
  w_on; o_law; k_head; (case hw => w_witness2)
  k_fill
  refine L3.law_end (l := PySem.Challenge.rw_everturns_k70_tables_written) (CX := fun P w => L2.CX P w) (sp := W.sp_law) (k := 9) (x := ("_law_script" : PySem.Str)) rfl rfl ⟨rfl, by decide, by decide⟩ (fun w h Y => PySem.W.kIn_of Y) ?F W.said L3.quietX
  case F =>
    intro w mg fa h KX G hmg
    refine' W.all_mk KX G hmg ?a1 ?l1 ?c1 ?k1 ?a2 ?l2 ?c2 ?k2 ?a3 ?l3 ?c3 ?k3 ?a4 ?l4 ?c4 ?k4 ?a5 ?l5 ?c5 ?k5 ?a6 ?l6 ?c6 ?k6 ?a7 ?l7 ?c7 ?k7 ?a8 ?l8 ?c8 ?k8 ?a9 ?l9 ?c9 ?k9 ?a10 ?l10 ?c10 ?k10 ?a11 ?l11 ?c11 ?k11 ?a12 ?l12 ?c12 ?k12 ?z0 ?z1 ?z2 ?z3 ?z4 ?z5 ?z6 ?z7 ?z8 ?dg ?a_NOBODY ?a_DIGITS ?ac_TurnError ?xb_TurnError ?xt_TurnError ?xd_TurnError ?ac_NoText ?xb_NoText ?xt_NoText ?xd_NoText ?xl_NoText ?xs_NoText ?xk_NoText ?xn_NoText_0 ?xi_NoText ?xy_NoText ?xf_NoText ?xc_NoText ?xg_NoText
    (case a1 => k_is)
    (case l1 => k_is)
    (case c1 => k_is)
    (case k1 => k_is)
    (case a2 => k_is)
    (case l2 => k_is)
    (case c2 => k_is)
    (case k2 => k_is)
    (case a3 => k_is)
    (case l3 => k_is)
    (case c3 => k_is)
    (case k3 => k_is)
    (case a4 => k_is)
    (case l4 => k_is)
    (case c4 => k_is)
    (case k4 => k_is)
    (case a5 => k_is)
    (case l5 => k_is)
    (case c5 => k_is)
    (case k5 => k_is)
    (case a6 => k_is)
    (case l6 => k_is)
    (case c6 => k_is)
    (case k6 => k_is)
    (case a7 => k_is)
    (case l7 => k_is)
    (case c7 => k_is)
    (case k7 => k_is)
    (case a8 => k_is)
    (case l8 => k_is)
    (case c8 => k_is)
    (case k8 => k_is)
    (case a9 => k_is)
    (case l9 => k_is)
    (case c9 => k_is)
    (case k9 => k_is)
    (case a10 => k_is)
    (case l10 => k_is)
    (case c10 => k_is)
    (case k10 => k_is)
    (case a11 => k_is)
    (case l11 => k_is)
    (case c11 => k_is)
    (case k11 => k_is)
    (case a12 => k_is)
    (case l12 => k_is)
    (case c12 => k_is)
    (case k12 => k_is)
    (case z0 => k_is)
    (case z1 => k_is)
    (case z2 => k_is)
    (case z3 => k_is)
    (case z4 => k_is)
    (case z5 => k_is)
    (case z6 => k_is)
    (case z7 => k_is)
    (case z8 => k_is)
    (case dg => k_is)
    (case a_NOBODY => k_is)
    (case a_DIGITS => k_is)
    (case ac_TurnError => k_is)
    (case xb_TurnError => k_is)
    (case xt_TurnError => k_is)
    (case xd_TurnError => k_is)
    (case ac_NoText => k_is)
    (case xb_NoText => k_is)
    (case xt_NoText => k_is)
    (case xd_NoText => k_is)
    (case xl_NoText => k_is)
    (case xs_NoText => k_is)
    (case xk_NoText => k_is)
    (case xn_NoText_0 => k_is)
    (case xi_NoText => k_is)
    (case xy_NoText => k_is)
    (case xf_NoText => k_is)
    (case xc_NoText => k_is)
    (case xg_NoText => k_is)
